import PyProof.Rows.All
import Wide.All
import OpenK.AllK
import Wide.FinOn
import HandS.Base
import HandS.Call
import HandS.List
import HandS.Comp
import HandS.Dict
import HandS.Iter
import HandS.Text
import HandS.Wide
import HandS.TupAny
import HandS.More
import HandS.Conv
import HandS.WordsDict
import HandS.Flow
import HandS.Words
import HandS.IsInst
import HandS.Style
import HandS.Codes
import HandS.Defaults
import HandS.Ends
import HandS.EndBits
import KE.KStateDown
import HandS.WordsExc
import HandS.Head0
import HandS.Head1
import HandS.Head2
import HandS.HeadEnd
import HandS.HeadHook1
import HandS.HeadHook2
import PyProof.ReprBulk
import PyProof.FitsReplace
import PySem.Challenge.RW_soonknown_k01_documents_of_values
set_option Elab.async false
set_option linter.all false
set_option maxRecDepth 100000
set_option maxHeartbeats 1000000
/-! TM, part A: data as trees, a store of cells, an evaluator over a compact text. -/
namespace TM
open PySem PySem.Spec PyProof.Rows L2

inductive D where
  | non | bl (b : Bool) | int (i : Int) | str (x : Str)
  | tup (xs : List D) | lst (xs : List D) | dct (kvs : List (Key × D)) | obj (C : Nat) (fs : List (Str × D)) | loc (n : Nat)
  deriving Inhabited

mutual
def D.beq : D → D → Bool
  | .non, .non => true
  | .bl a, .bl b => a == b
  | .int a, .int b => decide (a = b)
  | .str a, .str b => decide (a = b)
  | .tup a, .tup b => D.beqL a b
  | .lst a, .lst b => D.beqL a b
  | .dct a, .dct b => D.beqK a b
  | .obj C a, .obj C' b => decide (C = C') && D.beqF a b
  | .loc a, .loc b => decide (a = b)
  | _, _ => false
termination_by structural x => x
def D.beqL : List D → List D → Bool
  | [], [] => true
  | a :: r, b :: s => D.beq a b && D.beqL r s
  | _, _ => false
termination_by structural x => x
def D.beqK : List (Key × D) → List (Key × D) → Bool
  | [], [] => true
  | a :: r, b :: s => D.beqKP a b && D.beqK r s
  | _, _ => false
termination_by structural x => x
def D.beqKP : Key × D → Key × D → Bool
  | (k, a), (l, b) => decide (k = l) && D.beq a b
termination_by structural x => x
def D.beqF : List (Str × D) → List (Str × D) → Bool
  | [], [] => true
  | a :: r, b :: s => D.beqFP a b && D.beqF r s
  | _, _ => false
termination_by structural x => x
def D.beqFP : Str × D → Str × D → Bool
  | (k, a), (l, b) => decide (k = l) && D.beq a b
termination_by structural x => x
end

mutual
theorem D.beq_eq : ∀ {a b : D}, D.beq a b = true → a = b
  | .non, b, h => by cases b <;> simp_all [D.beq]
  | .bl x, b, h => by cases b <;> simp_all [D.beq]
  | .int x, b, h => by cases b <;> simp_all [D.beq]
  | .str x, b, h => by cases b <;> simp_all [D.beq]
  | .tup x, b, h => by
    cases b with
    | tup y =>
      simp only [D.beq] at h
      rw [D.beqL_eq h]
    | _ => simp [D.beq] at h
  | .lst x, b, h => by
    cases b with
    | lst y =>
      simp only [D.beq] at h
      rw [D.beqL_eq h]
    | _ => simp [D.beq] at h
  | .dct x, b, h => by
    cases b with
    | dct y =>
      simp only [D.beq] at h
      rw [D.beqK_eq h]
    | _ => simp [D.beq] at h
  | .obj C x, b, h => by
    cases b with
    | obj C' y =>
      simp only [D.beq, Bool.and_eq_true, decide_eq_true_eq] at h
      rw [h.1, D.beqF_eq h.2]
    | _ => simp [D.beq] at h
  | .loc x, b, h => by cases b <;> simp_all [D.beq]
termination_by structural x => x
theorem D.beqL_eq : ∀ {a b : List D}, D.beqL a b = true → a = b
  | [], b, h => by cases b <;> simp_all [D.beqL]
  | x :: r, b, h => by
    cases b with
    | nil => simp [D.beqL] at h
    | cons y s =>
      simp only [D.beqL, Bool.and_eq_true] at h
      rw [D.beq_eq h.1, D.beqL_eq h.2]
termination_by structural x => x
theorem D.beqK_eq : ∀ {a b : List (Key × D)}, D.beqK a b = true → a = b
  | [], b, h => by cases b <;> simp_all [D.beqK]
  | x :: r, b, h => by
    cases b with
    | nil => simp [D.beqK] at h
    | cons y s =>
      simp only [D.beqK, Bool.and_eq_true] at h
      rw [D.beqKP_eq h.1, D.beqK_eq h.2]
termination_by structural x => x
theorem D.beqKP_eq : ∀ {a b : Key × D}, D.beqKP a b = true → a = b
  | (k, a), (l, b), h => by
    simp only [D.beqKP, Bool.and_eq_true, decide_eq_true_eq] at h
    rw [h.1, D.beq_eq h.2]
termination_by structural x => x
theorem D.beqF_eq : ∀ {a b : List (Str × D)}, D.beqF a b = true → a = b
  | [], b, h => by cases b <;> simp_all [D.beqF]
  | x :: r, b, h => by
    cases b with
    | nil => simp [D.beqF] at h
    | cons y s =>
      simp only [D.beqF, Bool.and_eq_true] at h
      rw [D.beqFP_eq h.1, D.beqF_eq h.2]
termination_by structural x => x
theorem D.beqFP_eq : ∀ {a b : Str × D}, D.beqFP a b = true → a = b
  | (k, a), (l, b), h => by
    simp only [D.beqFP, Bool.and_eq_true, decide_eq_true_eq] at h
    rw [h.1, D.beq_eq h.2]
termination_by structural x => x
end
mutual
theorem D.beq_rfl : ∀ (a : D), D.beq a a = true
  | .non | .bl x | .int x | .str x | .loc x => by simp [D.beq]
  | .tup x => by simp [D.beq, D.beqL_rfl x]
  | .lst x => by simp [D.beq, D.beqL_rfl x]
  | .dct x => by simp [D.beq, D.beqK_rfl x]
  | .obj C x => by simp [D.beq, D.beqF_rfl x]
termination_by structural x => x
theorem D.beqL_rfl : ∀ (a : List D), D.beqL a a = true
  | [] => by simp [D.beqL]
  | x :: r => by simp [D.beqL, D.beq_rfl x, D.beqL_rfl r]
termination_by structural x => x
theorem D.beqK_rfl : ∀ (a : List (Key × D)), D.beqK a a = true
  | [] => by simp [D.beqK]
  | x :: r => by simp [D.beqK, D.beqKP_rfl x, D.beqK_rfl r]
termination_by structural x => x
theorem D.beqKP_rfl : ∀ (a : Key × D), D.beqKP a a = true
  | (k, a) => by simp [D.beqKP, D.beq_rfl a]
termination_by structural x => x
theorem D.beqF_rfl : ∀ (a : List (Str × D)), D.beqF a a = true
  | [] => by simp [D.beqF]
  | x :: r => by simp [D.beqF, D.beqFP_rfl x, D.beqF_rfl r]
termination_by structural x => x
theorem D.beqFP_rfl : ∀ (a : Str × D), D.beqFP a a = true
  | (k, a) => by simp [D.beqFP, D.beq_rfl a]
termination_by structural x => x
end
instance : DecidableEq D := fun a b => if h : D.beq a b = true then .isTrue (D.beq_eq h) else .isFalse fun e => h (e ▸ D.beq_rfl a)

inductive Cell where
  | lst (xs : List D) | dct (kvs : List (Key × D)) | ins (C : Nat) (fs : List (Str × D)) | dead
  deriving DecidableEq, Inhabited
abbrev Store := List Cell
abbrev Slots := List (Option D)


/-! ### results -/
inductive Res (α : Type) where
  | ok (a : α) (st : Store) | exc (C : Nat) (fs : List (Str × D)) (st : Store) | stuck
def Res.bind {α β : Type} (r : Res α) (f : α → Store → Res β) : Res β := match r with
  | .ok a st => f a st
  | .exc C fs st => .exc C fs st
  | .stuck => .stuck
inductive RS where
  | next (sl : Slots) (st : Store) | ret (d : D) (st : Store) | brk (sl : Slots) (st : Store) | cnt (sl : Slots) (st : Store) | exc (C : Nat) (fs : List (Str × D)) (st : Store) | stuck
def Res.then {α : Type} (r : Res α) (f : α → Store → RS) : RS := match r with
  | .ok a st => f a st
  | .exc C fs st => .exc C fs st
  | .stuck => .stuck
@[simp] theorem Res.bind_ok {α β : Type} (a : α) (st : Store) (f : α → Store → Res β) : (Res.ok a st).bind f = f a st := rfl
@[simp] theorem Res.bind_stuck {α β : Type} (f : α → Store → Res β) : (Res.stuck : Res α).bind f = .stuck := rfl
@[simp] theorem Res.then_ok {α : Type} (a : α) (st : Store) (f : α → Store → RS) : (Res.ok a st).then f = f a st := rfl
@[simp] theorem Res.then_stuck {α : Type} (f : α → Store → RS) : (Res.stuck : Res α).then f = .stuck := rfl
def ofO {α : Type} (o : Option α) (st : Store) : Res α := match o with
  | some a => .ok a st
  | none => .stuck
@[simp] theorem ofO_some {α : Type} (a : α) (st : Store) : ofO (some a) st = .ok a st := rfl
@[simp] theorem ofO_none {α : Type} (st : Store) : ofO (none : Option α) st = .stuck := rfl

/-! ### looks -/
def lstAt (st : Store) (n : Nat) : Option (List D) := match st[n]? with
  | some (.lst xs) => some xs
  | _ => none
def dctAt (st : Store) (n : Nat) : Option (List (Key × D)) := match st[n]? with
  | some (.dct xs) => some xs
  | _ => none
/-- a list -/
def asL (d : D) (st : Store) : Option (List D) := match d with
  | .lst xs => some xs
  | .loc n => lstAt st n
  | _ => none
def asT (d : D) : Option (List D) := match d with
  | .tup xs => some xs
  | _ => none
def asK (d : D) (st : Store) : Option (List (Key × D)) := match d with
  | .dct xs => some xs
  | .loc n => dctAt st n
  | _ => none
/-- a list or a tuple -/
def asQ (d : D) (st : Store) : Option (List D) := match d with
  | .tup xs => some xs
  | d => asL d st
def truth (d : D) (st : Store) : Option Bool := match d with
  | .non => some false
  | .bl b => some b
  | .int i => some (i != 0)
  | .str x => if x.length ≤ sizeLine then some ((x.length : Int) != 0) else none
  | .tup xs => some (!xs.isEmpty)
  | .lst xs => some (!xs.isEmpty)
  | .loc n => match st[n]? with
    | some (.lst xs) => some (!xs.isEmpty)
    | _ => none
  | _ => none
def keyOf : D → Option Key
  | .int i => some (.inl i)
  | .str x => some (.inr x)
  | _ => none
def ofKey : Key → D
  | .inl i => .int i
  | .inr x => .str x
def getK {κ : Type} [DecidableEq κ] (kvs : List (κ × D)) (k : κ) : Option D := (kvs.find? fun kv => decide (kv.1 = k)).map (·.2)
def putKD {κ : Type} [DecidableEq κ] (kvs : List (κ × D)) (k : κ) (v : D) : List (κ × D) :=
  if kvs.any (fun kv => decide (kv.1 = k)) then kvs.map fun kv => if kv.1 = k then (kv.1, v) else kv else kvs ++ [(k, v)]
def strsOf : List D → Option (List Str)
  | [] => some []
  | .str x :: r => (strsOf r).map (x :: ·)
  | _ => none
def intsOf : List D → Option (List Int)
  | [] => some []
  | .int x :: r => (intsOf r).map (x :: ·)
  | _ => none
def blsOf : List D → Option (List Bool)
  | [] => some []
  | .bl x :: r => (blsOf r).map (x :: ·)
  | _ => none
def flatD : D → Bool
  | .non => true
  | .bl _ => true
  | .int _ => true
  | .str _ => true
  | _ => false
/-- == of flat values -/
def eqF : D → D → Bool
  | .non, .non => true
  | .bl a, .bl b => a == b
  | .bl a, .int b => (if a then 1 else 0) == b
  | .int a, .bl b => a == (if b then 1 else 0)
  | .int a, .int b => a == b
  | .str a, .str b => a == b
  | _, _ => false
mutual
/-- the data of a tree without dicts -/
def D.py : D → Option PyData
  | .non => some .none
  | .bl b => some (.bool b)
  | .int i => some (.int i)
  | .str x => some (.str x)
  | .tup xs => (D.pyL xs).map .tuple
  | .lst xs => (D.pyL xs).map .list
  | _ => none
termination_by structural x => x
def D.pyL : List D → Option (List PyData)
  | [] => some []
  | d :: r => match D.py d, D.pyL r with
    | some a, some b => some (a :: b)
    | _, _ => none
termination_by structural x => x
end
def keyPy : Key → PyData
  | .inl i => .int i
  | .inr x => .str x
mutual
/-- the data of a tree, with dicts -/
def D.pyr : D → Option PyData
  | .non => some .none
  | .bl b => some (.bool b)
  | .int i => some (.int i)
  | .str x => some (.str x)
  | .tup xs => (D.pyrL xs).map .tuple
  | .lst xs => (D.pyrL xs).map .list
  | .dct kvs => (D.pyrK kvs).map .dict
  | _ => none
termination_by structural x => x
def D.pyrL : List D → Option (List PyData)
  | [] => some []
  | d :: r => match D.pyr d, D.pyrL r with
    | some a, some b => some (a :: b)
    | _, _ => none
termination_by structural x => x
def D.pyrK : List (Key × D) → Option (List (PyData × PyData))
  | [] => some []
  | d :: r => match D.pyrKP d, D.pyrK r with
    | some a, some b => some (a :: b)
    | _, _ => none
termination_by structural x => x
def D.pyrKP : Key × D → Option (PyData × PyData)
  | (k, d) => match D.pyr d with
    | some a => some (keyPy k, a)
    | none => none
termination_by structural x => x
end
/-- a list in the store, too -/
def pyOf (d : D) (st : Store) : Option PyData := match d with
  | .loc n => match st[n]? with
    | some (.lst xs) => (D.pyL xs).map .list
    | _ => none
  | d => d.py
def pyrOf (d : D) (st : Store) : Option PyData := match d with
  | .loc n => match st[n]? with
    | some (.lst xs) => (D.pyrL xs).map .list
    | _ => none
  | d => d.pyr
end TM
set_option maxHeartbeats 1000000
/-! TM, part B: the compact text and its evaluator. -/
namespace TM
open PySem PySem.Spec PyProof.Rows L2

inductive Ty where
  | bool | int | str | list | tuple | dict | cls (C : Nat)
  deriving DecidableEq
/-- built-in functions -/
inductive Bi where
  | len | str | int | sorted | max | min | sum | any | all | list | tuple | dict | repr | abs | ord | chr | bool
  deriving DecidableEq
/-- methods of built-in types -/
inductive Me where
  | join | append | extend | pop | startswith | endswith | find
  deriving DecidableEq
inductive CT where
  | name (i : Nat) | tup (ts : List CT)

mutual
inductive CE where
  | var (i : Nat) | non | bl (b : Bool) | int (i : Int) | str (x : Str) | glob (x : Str) (d : D)
  | op (o : Operator) (a b : CE) | neg (a : CE) | not_ (a : CE) | and_ (a b : CE) | or_ (a b : CE) | ife (c a b : CE)
  | cmp (o : CmpOp) (a b : CE) | chain (o o' : CmpOp) (a b c : CE) | isin (e : CE) (ts : List Ty)
  | tup (es : List CE) | lst (mt : Bool) (es : List CE) | dct (mt : Bool) (kvs : List CE)
  | idx (a b : CE) | sl (a : CE) (lo hi : CO) | slx (a : CE) (step : CE)
  | call (f : Nat) (x : Str) (es : List CE) | callK (f : Nat) (x : Str) (xs : List Str) (es ks : List CE) (pm : List Nat)
  | bi (b : Bi) (es : List CE) | me (m : Me) (r : CE) (es : List CE)
  | lc (mt : Bool) (own : List (Str × Nat)) (t : CT) (it : CI) (ifs : List CE) (e : CE)
  | frz (e : CE)
inductive CO where
  | none | some (e : CE)
inductive CI where
  | e (a : CE) | rng (es : List CE) | enum (a : CE) | zip (a b : CE)
end

inductive CS where
  | asg (t : CT) (e : CE) | asgLc (i : Nat) (e : CE) | par (i j : Nat) (a b : CE) | aug (i : Nat) (o : Operator) (e : CE) | setI (o i e : CE) | ex (e : CE)
  | iff (c : CE) (t f : List CS) | for_ (t : CT) (it : CI) (b : List CS) | whl (c : CE) (b : List CS)
  | ret (e : CE) | retN | pass | brk | cnt

/-! ### operations on data -/
def opD (o : Operator) (x y : D) (st : Store) : Res D := match o, x, y with
  | .Add, .int a, .int b => .ok (.int (a + b)) st
  | .Add, .str a, .str b => if a.length + b.length ≤ sizeLine then .ok (.str (a ++ b)) st else .stuck
  | .Add, .tup a, .tup b => if a.length + b.length ≤ sizeLine then .ok (.tup (a ++ b)) st else .stuck
  | .Add, x, y => match asL x st, asL y st with
    | some a, some b => if a.length + b.length ≤ sizeLine then .ok (.lst (a ++ b)) st else .stuck
    | _, _ => .stuck
  | .Sub, .int a, .int b => .ok (.int (a - b)) st
  | .Mult, .int a, .int b => if a.natAbs.log2 + b.natAbs.log2 < 1000000 then .ok (.int (a * b)) st else .stuck
  | .Mult, x, .int k => match asL x st with
    | some a => if -(2 ^ 63) ≤ k ∧ k < 2 ^ 63 ∧ a.length * k.toNat ≤ sizeLine then .ok (.lst (List.replicate k.toNat a).flatten) st else .stuck
    | _ => .stuck
  | .FloorDiv, .int a, .int b => if b ≠ 0 ∧ b.natAbs < 1073741824 then .ok (.int (a.fdiv b)) st else .stuck
  | .Mod, .int a, .int b => if b ≠ 0 then .ok (.int (a.fmod b)) st else .stuck
  | .Pow, .int a, .int b => if 0 ≤ b ∧ (Builtin.Int.intBits a : Int) * b ≤ 2 ^ 27 then .ok (.int (a ^ b.toNat)) st else .stuck
  | _, _, _ => .stuck
def eqRes (x y : D) (st : Store) : Option Bool := match pyOf x st, pyOf y st with
  | some a, some b => if SeqAt.shaped a && SeqAt.shaped b then some (PyData.eqv a b) else none
  | _, _ => none
def inRes (x y : D) (st : Store) : Option Bool := match y with
  | .str z => (match x with
    | .str w => some (!(Builtin.Str.occurrences z w 0 z.length 1).isEmpty)
    | _ => none)
  | y => match asQ y st with
    | some xs => if flatD x && xs.all flatD then some (xs.any fun y => eqF y x) else none
    | none => match asK y st, keyOf x with
      | some kvs, some k => some (getK kvs k).isSome
      | _, _ => none
def cmpD (o : CmpOp) (x y : D) (st : Store) : Option Bool := match o, x, y with
  | .Eq, .str a, .str b => some (decide (a = b))
  | .NotEq, .str a, .str b => some (!decide (a = b))
  | .Eq, x, y => eqRes x y st
  | .NotEq, x, y => (eqRes x y st).map (!·)
  | .Lt, .int a, .int b => some (decide (a < b))
  | .LtE, .int a, .int b => some (decide (a ≤ b))
  | .Gt, .int a, .int b => some (decide (b < a))
  | .GtE, .int a, .int b => some (decide (b ≤ a))
  | .Lt, .str a, .str b => some (decide (a.cps.toList < b.cps.toList))
  | .LtE, .str a, .str b => some (!decide (b.cps.toList < a.cps.toList))
  | .Gt, .str a, .str b => some (decide (b.cps.toList < a.cps.toList))
  | .GtE, .str a, .str b => some (!decide (a.cps.toList < b.cps.toList))
  | .Is, x, .non => some (decide (x = .non))
  | .IsNot, x, .non => some (!decide (x = .non))
  | .In, x, y => inRes x y st
  | .NotIn, x, y => (inRes x y st).map (!·)
  | _, _, _ => none
def tyD (d : D) (st : Store) : Option Ty := match d with
  | .bl _ => some .bool
  | .int _ => some .int
  | .str _ => some .str
  | .tup _ => some .tuple
  | .lst _ => some .list
  | .dct _ => some .dict
  | .loc n => match st[n]? with
    | some (.lst _) => some .list
    | some (.dct _) => some .dict
    | _ => none
  | _ => none
def isTy (t u : Ty) : Bool := decide (t = u) || (decide (t = .bool) && decide (u = .int))
def isinD (d : D) (ts : List Ty) (st : Store) : Option Bool := match d with
  | .non => some false
  | d => (tyD d st).map fun t => ts.any (isTy t)
def idxD (x y : D) (st : Store) : Option D := match x, y with
  | .str z, .int i => if z.length ≤ sizeLine then (atI z.cps.toList i).map fun c => .str ⟨#[c]⟩ else none
  | .tup xs, .int i => atI xs i
  | x, y => match asL x st, y with
    | some xs, .int i => atI xs i
    | some _, _ => none
    | none, y => match asK x st, keyOf y with
      | some kvs, some k => getK kvs k
      | _, _ => none
def cutD (xs : List D) (lo hi : Option Int) : List D := (xs.drop (HT.sIx xs.length 0 lo)).take (HT.sIx xs.length xs.length hi - HT.sIx xs.length 0 lo)
def slD (x : D) (lo hi : Option Int) (st : Store) : Option D := match x with
  | .str z => if z.length ≤ sizeLine then some (.str (cutS z lo hi)) else none
  | .tup xs => some (.tup (cutD xs lo hi))
  | x => (asL x st).map fun xs => .lst (cutD xs lo hi)
def ordS (a b : Str) : Bool := !decide (b.cps.toList < a.cps.toList)
def sortS (xs : List Str) : List Str := xs.mergeSort ordS
def sortI (xs : List Int) : List Int := xs.mergeSort fun a b => decide (a ≤ b)
def maxI : List Int → Option Int
  | [] => none
  | a :: r => some (r.foldl (fun m x => if x > m then x else m) a)
def minI : List Int → Option Int
  | [] => none
  | a :: r => some (r.foldl (fun m x => if x < m then x else m) a)
def b2z (b : Bool) : Int := if b then 1 else 0
def inrs : List Key → Option (List Str)
  | [] => some []
  | .inr x :: r => (inrs r).map (x :: ·)
  | _ => none
def sortedD (d : D) (st : Store) : Option D := match asK d st with
  | some kvs => (match inrs (kvs.map (·.1)) with
    | some ks => if ks.length < 64 then some (.lst ((sortS ks).map .str)) else none
    | none => none)
  | none => match asL d st with
    | some xs => (match strsOf xs with
      | some ss => if ss.length < 64 then some (.lst ((sortS ss).map .str)) else none
      | none => match intsOf xs with
        | some ns => if ns.length < 64 then some (.lst ((sortI ns).map .int)) else none
        | none => none)
    | none => none
/-- a dict's pairs: key, value, key, value .. -/
def pairUp : List D → Option (List (Key × D))
  | [] => some []
  | k :: v :: r => match keyOf k, pairUp r with
    | some k, some kvs => some ((k, v) :: kvs)
    | _, _ => none
  | _ => none
/-- dict(pairs) -/
def pairsD : List D → Option (List (Key × D))
  | [] => some []
  | .tup [k, v] :: r => match keyOf k, pairsD r with
    | some k, some kvs => some ((k, v) :: kvs)
    | _, _ => none
  | _ => none
def mergeD (kvs more : List (Key × D)) : List (Key × D) := more.foldl (fun acc kv => putKD acc kv.1 kv.2) kvs
/-- the text of a tree as repr gives it -/
def D.reprD (d : D) (st : Store) : Option Str := (pyrOf d st).bind fun p => if p.shown.length ≤ sizeLine && p.showable && decide (p.depth ≤ 40) then some p.shown else none
def biD (b : Bi) (ds : List D) (st : Store) : Res D := match b, ds with
  | .len, [.str x] => if x.length ≤ sizeLine then .ok (.int x.length) st else .stuck
  | .len, [d] => (match asQ d st with
    | some xs => .ok (.int xs.length) st
    | none => match asK d st with
      | some kvs => .ok (.int kvs.length) st
      | none => .stuck)
  | .str, [.int i] => if i.natAbs.log2 < 1920 then .ok (.str (toString i : String)) st else .stuck
  | .str, [.str x] => .ok (.str x) st
  | .int, [.int i] => .ok (.int i) st
  | .int, [.bl b] => .ok (.int (b2z b)) st
  | .int, [.str x] => if x.length ≤ 640 then (match PySem.intText? x with
    | some n => .ok (.int n) st
    | none => .stuck) else .stuck
  | .sorted, [d] => ofO (sortedD d st) st
  | .max, [.int a, .int b] => .ok (.int (if b > a then b else a)) st
  | .min, [.int a, .int b] => .ok (.int (if b < a then b else a)) st
  | .max, [d] => (match (asL d st).bind intsOf with
    | some ns => ofO ((maxI ns).map .int) st
    | none => .stuck)
  | .min, [d] => (match (asL d st).bind intsOf with
    | some ns => ofO ((minI ns).map .int) st
    | none => .stuck)
  | .sum, [d] => (match (asL d st).bind intsOf with
    | some ns => .ok (.int ns.sum) st
    | none => .stuck)
  | .any, [d] => (match (asL d st).bind blsOf with
    | some bs => .ok (.bl (bs.any id)) st
    | none => .stuck)
  | .all, [d] => (match (asL d st).bind blsOf with
    | some bs => .ok (.bl (bs.all id)) st
    | none => .stuck)
  | .list, [d] => (match asQ d st with
    | some xs => .ok (.lst xs) st
    | none => match asK d st with
      | some kvs => .ok (.lst (kvs.map fun kv => ofKey kv.1)) st
      | none => .stuck)
  | .tuple, [d] => (match asQ d st with
    | some xs => .ok (.tup xs) st
    | none => .stuck)
  | .dict, [d] => (match asK d st with
    | some kvs => .ok (.dct kvs) st
    | none => match (asL d st).bind pairsD with
      | some kvs => .ok (.dct (mergeD [] kvs)) st
      | none => .stuck)
  | .repr, [d] => ofO ((D.reprD d st).map .str) st
  | .abs, [.int i] => .ok (.int (if i < 0 then -i else i)) st
  | _, _ => .stuck
def setC (st : Store) (n : Nat) (c : Cell) : Store := st.set n c
def meTy (m : Me) (x : D) (st : Store) : Bool := match m, x with
  | .join, .str _ => true
  | .startswith, .str _ => true
  | .endswith, .str _ => true
  | .find, .str _ => true
  | .append, .loc n => (lstAt st n).isSome
  | .extend, .loc n => (lstAt st n).isSome
  | .pop, .loc n => (lstAt st n).isSome
  | _, _ => false
def meD (m : Me) (r : D) (ds : List D) (st : Store) : Res D := match m, r, ds with
  | .join, .str a, [d] => (match (asQ d st).bind strsOf with
    | some ys => if (ys.map (·.length)).sum + ys.length * a.length ≤ 16777216 then .ok (.str (Txt.join a ys)) st else .stuck
    | none => .stuck)
  | .append, .loc n, [d] => (match lstAt st n with
    | some xs => if xs.length < sizeLine then .ok .non (setC st n (.lst (xs ++ [d]))) else .stuck
    | none => .stuck)
  | .extend, .loc n, [d] => (match lstAt st n, asL d st with
    | some xs, some ys => if xs.length + ys.length ≤ sizeLine then .ok .non (setC st n (.lst (xs ++ ys))) else .stuck
    | _, _ => .stuck)
  | .pop, .loc n, [] => (match lstAt st n with
    | some xs => (match xs[xs.length - 1]? with
      | some d => .ok d (setC st n (.lst xs.dropLast))
      | none => .stuck)
    | none => .stuck)
  | .startswith, .str a, [.str b] => .ok (.bl (Txt.startswith a b)) st
  | .endswith, .str a, [.str b] => .ok (.bl (Txt.endswith a b)) st
  | .find, .str a, [.str b] => .ok (.int (Txt.find a b)) st
  | _, _, _ => .stuck
def setID (o i v : D) (st : Store) : Option Store := match o with
  | .loc n => (match st[n]? with
    | some (.lst xs) => (match i with
      | .int k => (ixN xs.length k).map fun j => setC st n (.lst (xs.set j v))
      | _ => none)
    | some (.dct kvs) => (match keyOf i with
      | some k => if kvs.length < sizeLine then some (setC st n (.dct (putKD kvs k v))) else none
      | none => none)
    | _ => none)
  | _ => none
def frzD (d : D) (st : Store) : Res D := match d with
  | .loc n => (match st[n]? with
    | some (.lst xs) => .ok (.lst xs) (setC st n .dead)
    | some (.dct kvs) => .ok (.dct kvs) (setC st n .dead)
    | _ => .stuck)
  | _ => .stuck
/-- a new list, a new dict: a tree, or a cell -/
def mkL (mt : Bool) (xs : List D) (st : Store) : Res D := if mt then .ok (.loc st.length) (st ++ [.lst xs]) else .ok (.lst xs) st
def mkK (mt : Bool) (kvs : List (Key × D)) (st : Store) : Res D := if mt then .ok (.loc st.length) (st ++ [.dct kvs]) else .ok (.dct kvs) st

/-! ### targets -/
mutual
def asgT : CT → D → Slots → Option Slots
  | .name i, d, sl => if i < sl.length then some (sl.set i (some d)) else none
  | .tup ts, d, sl => match d with
    | .tup ds => if ds.length = ts.length then asgTs ts ds sl else none
    | _ => none
termination_by structural t => t
def asgTs : List CT → List D → Slots → Option Slots
  | [], ds, sl => match ds with
    | [] => some sl
    | _ => none
  | t :: ts, ds, sl => match ds with
    | d :: ds => (asgT t d sl).bind fun sl' => asgTs ts ds sl'
    | [] => none
termination_by structural t => t
end
/-! ### what is walked: the cell that must stay, the items -/
structure Itr where
  src : Option (Nat × List D)
  items : List D
def srcOk (src : Option (Nat × List D)) (st : Store) : Bool := match src with
  | none => true
  | some (n, xs) => decide (st[n]? = some (.lst xs))
def signs (x : Str) : List D := x.cps.toList.map fun c => .str ⟨#[c]⟩
def itD (d : D) (st : Store) : Option Itr := match d with
  | .tup xs => some ⟨none, xs⟩
  | .lst xs => some ⟨none, xs⟩
  | .loc n => (lstAt st n).map fun xs => ⟨some (n, xs), xs⟩
  | .str x => some ⟨none, signs x⟩
  | _ => none
def enumFrom (i : Int) : List D → List D
  | [] => []
  | d :: r => .tup [.int i, d] :: enumFrom (i + 1) r
def rngD : List D → Option (List D)
  | [.int n] => if -(2 ^ 62) ≤ n ∧ n < 2 ^ 62 then some ((List.range n.toNat).map fun (i : Nat) => D.int (0 + (i : Int))) else none
  | [.int a, .int b] => if -(2 ^ 62) ≤ a ∧ a < 2 ^ 62 ∧ -(2 ^ 62) ≤ b ∧ b < 2 ^ 62 then some ((List.range (b - a).toNat).map fun (i : Nat) => D.int (a + (i : Int))) else none
  | _ => none
/-! ### loops -/
def lcLoop (src : Option (Nat × List D)) (f : D → Store → Res (Option D)) : List D → List D → Store → Res (List D)
  | [], acc, st => if srcOk src st then .ok acc st else .stuck
  | d :: r, acc, st => if srcOk src st then (match f d st with
    | .ok (some v) st' => if acc.length < sizeLine then lcLoop src f r (acc ++ [v]) st' else .stuck
    | .ok none st' => lcLoop src f r acc st'
    | _ => .stuck) else .stuck
def forLoop (src : Option (Nat × List D)) (f : D → Slots → Store → RS) : List D → Slots → Store → RS
  | [], sl, st => if srcOk src st then .next sl st else .stuck
  | d :: r, sl, st => if srcOk src st then (match f d sl st with
    | .next sl' st' => forLoop src f r sl' st'
    | .cnt sl' st' => forLoop src f r sl' st'
    | .brk sl' st' => .next sl' st'
    | .ret v st' => .ret v st'
    | .exc C fs st' => .exc C fs st'
    | .stuck => .stuck) else .stuck
def whlLoop (c : Slots → Store → Res Bool) (f : Slots → Store → RS) : Nat → Slots → Store → RS
  | 0, _, _ => .stuck
  | n + 1, sl, st => (c sl st).then fun b st1 => if b then (match f sl st1 with
    | .next sl' st' => whlLoop c f n sl' st'
    | .cnt sl' st' => whlLoop c f n sl' st'
    | .brk sl' st' => .next sl' st'
    | .ret v st' => .ret v st'
    | .exc C fs st' => .exc C fs st'
    | .stuck => .stuck) else .next sl st1
def wfuel : Nat := 1000000
def wipeD (sl : Slots) : List Nat → Slots
  | [] => sl
  | v :: vs => (wipeD sl vs).set v none
/-- the arguments in the parameters' order -/
def permA {α : Type} (ds : List α) : List Nat → Option (List α)
  | [] => some []
  | i :: pm => match ds[i]?, permA ds pm with
    | some d, some r => some (d :: r)
    | _, _ => none

/-! ### the evaluator -/
section
variable (cl : Nat → List D → Store → Res D)
mutual
def evE : CE → Slots → Store → Res D
  | .var i, sl, st => match sl[i]? with
    | some (some d) => .ok d st
    | _ => .stuck
  | .non, _, st => .ok .non st
  | .bl b, _, st => .ok (.bl b) st
  | .int i, _, st => .ok (.int i) st
  | .str x, _, st => .ok (.str x) st
  | .glob _ d, _, st => .ok d st
  | .op o a b, sl, st => (evE a sl st).bind fun x st1 => (evE b sl st1).bind fun y st2 => opD o x y st2
  | .neg a, sl, st => (evE a sl st).bind fun x st1 => match x with
    | .int i => .ok (.int (-i)) st1
    | _ => .stuck
  | .not_ a, sl, st => (evE a sl st).bind fun x st1 => match truth x st1 with
    | some b => .ok (.bl (!b)) st1
    | none => .stuck
  | .and_ a b, sl, st => (evE a sl st).bind fun x st1 => match truth x st1 with
    | some true => evE b sl st1
    | some false => .ok x st1
    | none => .stuck
  | .or_ a b, sl, st => (evE a sl st).bind fun x st1 => match truth x st1 with
    | some true => .ok x st1
    | some false => evE b sl st1
    | none => .stuck
  | .ife c a b, sl, st => (evE c sl st).bind fun x st1 => match truth x st1 with
    | some true => evE a sl st1
    | some false => evE b sl st1
    | none => .stuck
  | .cmp o a b, sl, st => (evE a sl st).bind fun x st1 => (evE b sl st1).bind fun y st2 => ofO ((cmpD o x y st2).map .bl) st2
  | .chain o o' a b c, sl, st => (evE a sl st).bind fun x st1 => (evE b sl st1).bind fun y st2 => match cmpD o x y st2 with
    | some true => (evE c sl st2).bind fun z st3 => ofO ((cmpD o' y z st3).map .bl) st3
    | some false => .ok (.bl false) st2
    | none => .stuck
  | .isin e ts, sl, st => (evE e sl st).bind fun x st1 => ofO ((isinD x ts st1).map .bl) st1
  | .tup es, sl, st => (evEs es sl st).bind fun ds st1 => if ds.length ≤ sizeLine then .ok (.tup ds) st1 else .stuck
  | .lst mt es, sl, st => (evEs es sl st).bind fun ds st1 => if ds.length ≤ sizeLine then mkL mt ds st1 else .stuck
  | .dct mt es, sl, st => (evEs es sl st).bind fun ds st1 => match pairUp ds with
    | some kvs => if kvs.length ≤ 15 then mkK mt (mergeD [] kvs) st1 else .stuck
    | none => .stuck
  | .idx a b, sl, st => (evE a sl st).bind fun x st1 => (evE b sl st1).bind fun y st2 => ofO (idxD x y st2) st2
  | .sl a lo hi, sl, st => (evE a sl st).bind fun x st1 => (evO lo sl st1).bind fun l st2 => (evO hi sl st2).bind fun h st3 => ofO (slD x l h st3) st3
  | .slx a s, sl, st => (evE a sl st).bind fun x st1 => (evE s sl st1).bind fun k st2 => match asL x st2, k with
    | some xs, .int 1 => .ok (.lst xs) st2
    | some xs, .int (-1) => .ok (.lst xs.reverse) st2
    | _, _ => .stuck
  | .call f _ es, sl, st => (evEs es sl st).bind fun ds st1 => cl f ds st1
  | .callK f _ _ es ks pm, sl, st => (evEs es sl st).bind fun ds st1 => (evEs ks sl st1).bind fun zs st2 => match permA (ds ++ zs) pm with
    | some vs => cl f vs st2
    | none => .stuck
  | .bi b es, sl, st => (evEs es sl st).bind fun ds st1 => biD b ds st1
  | .me m r es, sl, st => (evE r sl st).bind fun x st1 => if meTy m x st1 then (evEs es sl st1).bind fun ds st2 => meD m x ds st2 else .stuck
  | .lc mt own t it ifs e, sl, st => (evI it sl st).bind fun J st1 =>
    (lcLoop J.src (fun d st' => match asgT t d (wipeD sl (own.map (·.2))) with
      | none => .stuck
      | some sl' => (evTs ifs sl' st').bind fun b st2 => if b then (evE e sl' st2).bind fun v st3 => .ok (some v) st3 else .ok none st2) J.items [] st1).bind fun vs st2 => mkL mt vs st2
  | .frz e, sl, st => (evE e sl st).bind fun x st1 => frzD x st1
termination_by structural e => e
def evEs : List CE → Slots → Store → Res (List D)
  | [], _, st => .ok [] st
  | e :: es, sl, st => (evE e sl st).bind fun d st1 => (evEs es sl st1).bind fun ds st2 => .ok (d :: ds) st2
termination_by structural e => e
/-- the tests of a comprehension -/
def evTs : List CE → Slots → Store → Res Bool
  | [], _, st => .ok true st
  | e :: es, sl, st => (evE e sl st).bind fun x st1 => match truth x st1 with
    | some true => evTs es sl st1
    | some false => .ok false st1
    | none => .stuck
termination_by structural e => e
def evO : CO → Slots → Store → Res (Option Int)
  | .none, _, st => .ok none st
  | .some e, sl, st => (evE e sl st).bind fun x st1 => match x with
    | .int i => .ok (some i) st1
    | _ => .stuck
termination_by structural e => e
def evI : CI → Slots → Store → Res Itr
  | .e a, sl, st => (evE a sl st).bind fun x st1 => ofO (itD x st1) st1
  | .rng es, sl, st => (evEs es sl st).bind fun ds st1 => ofO ((rngD ds).map fun xs => ⟨none, xs⟩) st1
  | .enum a, sl, st => (evE a sl st).bind fun x st1 => match asL x st1 with
    | some xs => .ok ⟨(match x with | .loc n => some (n, xs) | _ => none), enumFrom 0 xs⟩ st1
    | none => .stuck
  | .zip a b, sl, st => .stuck
termination_by structural e => e
end
end
end TM
set_option maxHeartbeats 1000000
/-! TM, part C: trees and cells in the tracked heap. -/
namespace TM
open PySem PySem.Spec PyProof.Rows L2
abbrev Sg := L2.St

/-- what the data stand on: the written part, the classes by number, the still heap, the cells by number -/
structure Wo where
  K : PySem.W.Frag
  CA : Nat → Addr
  F : Hp
  mu : List Addr
  G : Hp
mutual
def Rep (W : Wo) : D → V → Prop
  | .non, v => v = .non
  | .bl b, v => v = .bl b
  | .int i, v => v = .int i
  | .str x, v => v = .str x
  | .tup ds, v => ∃ a xs, v = .ref a ∧ SqT W.K W.F a xs ∧ RepL W ds xs
  | .lst ds, v => ∃ a xs, v = .ref a ∧ Rd W.F a (.lst xs) ∧ RepL W ds xs
  | .dct kvs, v => ∃ a es, v = .ref a ∧ W.F a = some (.dK es) ∧ RepK W kvs es
  | .obj C fs, v => ∃ a dx es, v = .ref a ∧ W.F a = some (.ins (W.CA C) dx es) ∧ W.F dx = some (.own a) ∧ RepF W fs es
  | .loc n, v => ∃ a, W.mu[n]? = some a ∧ v = .ref a
termination_by structural d => d
def RepL (W : Wo) : List D → List V → Prop
  | [], vs => vs = []
  | d :: ds, vs => ∃ v r, vs = v :: r ∧ Rep W d v ∧ RepL W ds r
termination_by structural d => d
def RepK (W : Wo) : List (Key × D) → List (Key × V) → Prop
  | [], vs => vs = []
  | d :: ds, vs => ∃ v r, vs = v :: r ∧ RepKP W d v ∧ RepK W ds r
termination_by structural d => d
def RepKP (W : Wo) : Key × D → Key × V → Prop
  | (k, d), v => k = v.1 ∧ Rep W d v.2
termination_by structural d => d
def RepF (W : Wo) : List (Str × D) → List (Str × V) → Prop
  | [], vs => vs = []
  | d :: ds, vs => ∃ v r, vs = v :: r ∧ RepFP W d v ∧ RepF W ds r
termination_by structural d => d
def RepFP (W : Wo) : Str × D → Str × V → Prop
  | (k, d), v => k = v.1 ∧ Rep W d v.2
termination_by structural d => d
end
/-- more stands still, more cells -/
structure Le (W W' : Wo) : Prop where
  K : W'.K = W.K
  CA : W'.CA = W.CA
  F : ∀ a o, W.F a = some o → W'.F a = some o
  mu : ∀ (n : Nat) a, W.mu[n]? = some a → W'.mu[n]? = some a
  G : W'.G = W.G
theorem Le.refl (W : Wo) : Le W W := ⟨rfl, rfl, fun _ _ h => h, fun _ _ h => h, rfl⟩
theorem Le.trans {W W1 W2 : Wo} (a : Le W W1) (b : Le W1 W2) : Le W W2 := ⟨b.K.trans a.K, b.CA.trans a.CA, fun x o h => b.F x o (a.F x o h), fun n x h => b.mu n x (a.mu n x h), b.G.trans a.G⟩
/-- the same but for what is kept apart -/
structure Li (W W' : Wo) : Prop where
  K : W'.K = W.K
  CA : W'.CA = W.CA
  F : ∀ a o, W.F a = some o → W'.F a = some o
  mu : ∀ (n : Nat) a, W.mu[n]? = some a → W'.mu[n]? = some a
theorem Le.li {W W' : Wo} (l : Le W W') : Li W W' := ⟨l.K, l.CA, l.F, l.mu⟩
theorem rd_mono {F F' : Hp} {a : Addr} {u : HO} (h : ∀ a o, F a = some o → F' a = some o) (r : Rd F a u) : Rd F' a u := by
  rcases r with r | ⟨o, r⟩
  · exact .inl (h _ _ r)
  · exact .inr ⟨o, h _ _ r⟩
theorem sqL_mono {K : PySem.W.Frag} {F F' : Hp} {a : Addr} {xs : List V} (h : ∀ a o, F a = some o → F' a = some o) (r : SqL K F a xs) : SqL K F' a xs := r.imp (rd_mono h) id
theorem sqT_mono {K : PySem.W.Frag} {F F' : Hp} {a : Addr} {xs : List V} (h : ∀ a o, F a = some o → F' a = some o) (r : SqT K F a xs) : SqT K F' a xs := r.imp (rd_mono h) id
mutual
theorem Rep.mono' {W W' : Wo} (l : Li W W') : ∀ {d : D} {v : V}, Rep W d v → Rep W' d v
  | .non, _, h => by simpa only [Rep] using h
  | .bl _, _, h => by simpa only [Rep] using h
  | .int _, _, h => by simpa only [Rep] using h
  | .str _, _, h => by simpa only [Rep] using h
  | .tup ds, _, h => by
    simp only [Rep] at h ⊢
    obtain ⟨a, xs, e, s, r⟩ := h
    rw [l.K]
    exact ⟨a, xs, e, sqT_mono l.F s, RepL.mono' l r⟩
  | .lst ds, _, h => by
    simp only [Rep] at h ⊢
    obtain ⟨a, xs, e, s, r⟩ := h
    exact ⟨a, xs, e, rd_mono l.F s, RepL.mono' l r⟩
  | .dct kvs, _, h => by
    simp only [Rep] at h ⊢
    obtain ⟨a, es, e, s, r⟩ := h
    exact ⟨a, es, e, l.F _ _ s, RepK.mono' l r⟩
  | .obj C fs, _, h => by
    simp only [Rep] at h ⊢
    obtain ⟨a, dx, es, e, s, s2, r⟩ := h
    rw [l.CA]
    exact ⟨a, dx, es, e, l.F _ _ s, l.F _ _ s2, RepF.mono' l r⟩
  | .loc n, _, h => by
    simp only [Rep] at h ⊢
    obtain ⟨a, e, r⟩ := h
    exact ⟨a, l.mu _ _ e, r⟩
termination_by structural d => d
theorem RepL.mono' {W W' : Wo} (l : Li W W') : ∀ {ds : List D} {vs : List V}, RepL W ds vs → RepL W' ds vs
  | [], _, h => by simpa only [RepL] using h
  | d :: ds, _, h => by
    simp only [RepL] at h ⊢
    obtain ⟨v, r, e, h1, h2⟩ := h
    exact ⟨v, r, e, Rep.mono' l h1, RepL.mono' l h2⟩
termination_by structural ds => ds
theorem RepK.mono' {W W' : Wo} (l : Li W W') : ∀ {ds : List (Key × D)} {vs : List (Key × V)}, RepK W ds vs → RepK W' ds vs
  | [], _, h => by simpa only [RepK] using h
  | d :: ds, _, h => by
    simp only [RepK] at h ⊢
    obtain ⟨v, r, e, h1, h2⟩ := h
    exact ⟨v, r, e, RepKP.mono' l h1, RepK.mono' l h2⟩
termination_by structural ds => ds
theorem RepKP.mono' {W W' : Wo} (l : Li W W') : ∀ {d : Key × D} {v : Key × V}, RepKP W d v → RepKP W' d v
  | (k, d), _, h => by
    simp only [RepKP] at h ⊢
    exact ⟨h.1, Rep.mono' l h.2⟩
termination_by structural d => d
theorem RepF.mono' {W W' : Wo} (l : Li W W') : ∀ {ds : List (Str × D)} {vs : List (Str × V)}, RepF W ds vs → RepF W' ds vs
  | [], _, h => by simpa only [RepF] using h
  | d :: ds, _, h => by
    simp only [RepF] at h ⊢
    obtain ⟨v, r, e, h1, h2⟩ := h
    exact ⟨v, r, e, RepFP.mono' l h1, RepF.mono' l h2⟩
termination_by structural ds => ds
theorem RepFP.mono' {W W' : Wo} (l : Li W W') : ∀ {d : Str × D} {v : Str × V}, RepFP W d v → RepFP W' d v
  | (k, d), _, h => by
    simp only [RepFP] at h ⊢
    exact ⟨h.1, Rep.mono' l h.2⟩
termination_by structural d => d
end
theorem Rep.mono {W W' : Wo} (l : Le W W') {d : D} {v : V} (h : Rep W d v) : Rep W' d v := h.mono' l.li
theorem RepL.mono {W W' : Wo} (l : Le W W') {d : List D} {v : List V} (h : RepL W d v) : RepL W' d v := h.mono' l.li
theorem RepK.mono {W W' : Wo} (l : Le W W') {d : List (Key × D)} {v : List (Key × V)} (h : RepK W d v) : RepK W' d v := h.mono' l.li
theorem RepF.mono {W W' : Wo} (l : Le W W') {d : List (Str × D)} {v : List (Str × V)} (h : RepF W d v) : RepF W' d v := h.mono' l.li
theorem RepL.length {W : Wo} : ∀ {ds : List D} {vs : List V}, RepL W ds vs → vs.length = ds.length
  | [], _, h => by
    simp only [RepL] at h
    rw [h]
    rfl
  | d :: ds, _, h => by
    simp only [RepL] at h
    obtain ⟨v, r, rfl, _, h2⟩ := h
    rw [List.length_cons, List.length_cons, RepL.length h2]
theorem RepL.append {W : Wo} : ∀ {ds es : List D} {vs us : List V}, RepL W ds vs → RepL W es us → RepL W (ds ++ es) (vs ++ us)
  | [], _, _, _, h, h' => by
    simp only [RepL] at h
    rw [h]
    exact h'
  | d :: ds, _, _, _, h, h' => by
    simp only [RepL] at h
    obtain ⟨v, r, rfl, h1, h2⟩ := h
    rw [List.cons_append, List.cons_append]
    simp only [RepL]
    exact ⟨v, _, rfl, h1, h2.append h'⟩
theorem RepL.get {W : Wo} : ∀ {ds : List D} {vs : List V} {i : Nat} {d : D}, RepL W ds vs → ds[i]? = some d → ∃ v, vs[i]? = some v ∧ Rep W d v
  | [], _, _, _, _, e => by simp at e
  | d :: ds, _, 0, _, h, e => by
    simp only [RepL] at h
    obtain ⟨v, r, rfl, h1, _⟩ := h
    simp at e
    subst e
    exact ⟨v, rfl, h1⟩
  | d :: ds, _, i + 1, _, h, e => by
    simp only [RepL] at h
    obtain ⟨v, r, rfl, _, h2⟩ := h
    obtain ⟨u, e1, e2⟩ := RepL.get (i := i) h2 (by simpa using e)
    exact ⟨u, by simpa using e1, e2⟩
theorem RepL.take {W : Wo} : ∀ {ds : List D} {vs : List V} (n : Nat), RepL W ds vs → RepL W (ds.take n) (vs.take n)
  | [], _, n, h => by
    simp only [RepL] at h
    rw [h, List.take_nil, List.take_nil]
    simp only [RepL]
  | d :: ds, _, 0, h => by simp [RepL]
  | d :: ds, _, n + 1, h => by
    simp only [RepL] at h
    obtain ⟨v, r, rfl, h1, h2⟩ := h
    simp only [List.take_succ_cons, RepL]
    exact ⟨v, _, rfl, h1, h2.take n⟩
theorem RepL.drop {W : Wo} : ∀ {ds : List D} {vs : List V} (n : Nat), RepL W ds vs → RepL W (ds.drop n) (vs.drop n)
  | [], _, n, h => by
    simp only [RepL] at h
    rw [h, List.drop_nil, List.drop_nil]
    simp only [RepL]
  | d :: ds, _, 0, h => h
  | d :: ds, _, n + 1, h => by
    simp only [RepL] at h
    obtain ⟨v, r, rfl, h1, h2⟩ := h
    exact h2.drop n
theorem RepL.set {W : Wo} {d : D} {v : V} (q : Rep W d v) : ∀ {ds : List D} {vs : List V} (n : Nat), RepL W ds vs → RepL W (ds.set n d) (vs.set n v)
  | [], _, n, h => by
    simp only [RepL] at h
    rw [h]
    simp [RepL]
  | _ :: ds, _, 0, h => by
    simp only [RepL] at h
    obtain ⟨u, r, rfl, h1, h2⟩ := h
    simp only [List.set_cons_zero, RepL]
    exact ⟨v, _, rfl, q, h2⟩
  | _ :: ds, _, n + 1, h => by
    simp only [RepL] at h
    obtain ⟨u, r, rfl, h1, h2⟩ := h
    simp only [List.set_cons_succ, RepL]
    exact ⟨u, _, rfl, h1, RepL.set q n h2⟩
theorem RepL.reverse {W : Wo} : ∀ {ds : List D} {vs : List V}, RepL W ds vs → RepL W ds.reverse vs.reverse
  | [], _, h => by
    simp only [RepL] at h
    rw [h]
    simp [RepL]
  | d :: ds, _, h => by
    simp only [RepL] at h
    obtain ⟨u, r, rfl, h1, h2⟩ := h
    rw [List.reverse_cons, List.reverse_cons]
    exact h2.reverse.append (by simp only [RepL]; exact ⟨u, [], rfl, h1, rfl⟩)
theorem RepL.rep {W : Wo} {ds : List D} {vs : List V} (h : RepL W ds vs) : ∀ n : Nat, RepL W (List.replicate n ds).flatten (List.replicate n vs).flatten
  | 0 => by simp [RepL]
  | n + 1 => by
    rw [List.replicate_succ, List.replicate_succ, List.flatten_cons, List.flatten_cons]
    exact h.append (h.rep n)
theorem RepL.snoc {W : Wo} {ds : List D} {vs : List V} {d : D} {v : V} (h : RepL W ds vs) (q : Rep W d v) : RepL W (ds ++ [d]) (vs ++ [v]) :=
  h.append (by simp only [RepL]; exact ⟨v, [], rfl, q, rfl⟩)
theorem RepL.nil {W : Wo} : RepL W [] [] := by simp only [RepL]
theorem RepL.cons {W : Wo} {ds : List D} {vs : List V} {d : D} {v : V} (q : Rep W d v) (h : RepL W ds vs) : RepL W (d :: ds) (v :: vs) := by
  simp only [RepL]
  exact ⟨v, vs, rfl, q, h⟩
/-- flat lists -/
theorem RepL.strs {W : Wo} : ∀ {ds : List D} {vs : List V} {xs : List Str}, RepL W ds vs → strsOf ds = some xs → vs = xs.map V.str
  | [], _, _, h, e => by
    simp only [RepL] at h
    simp only [strsOf, Option.some.injEq] at e
    rw [h, ← e]
    rfl
  | .str x :: ds, _, _, h, e => by
    simp only [RepL, Rep] at h
    obtain ⟨v, r, rfl, rfl, h2⟩ := h
    simp only [strsOf, Option.map_eq_some_iff] at e
    obtain ⟨ys, e1, rfl⟩ := e
    rw [RepL.strs h2 e1]
    rfl
  | .non :: _, _, _, _, e | .bl _ :: _, _, _, _, e | .int _ :: _, _, _, _, e | .tup _ :: _, _, _, _, e | .lst _ :: _, _, _, _, e | .dct _ :: _, _, _, _, e | .obj _ _ :: _, _, _, _, e | .loc _ :: _, _, _, _, e => by simp [strsOf] at e
theorem RepL.ints {W : Wo} : ∀ {ds : List D} {vs : List V} {xs : List Int}, RepL W ds vs → intsOf ds = some xs → vs = xs.map V.int
  | [], _, _, h, e => by
    simp only [RepL] at h
    simp only [intsOf, Option.some.injEq] at e
    rw [h, ← e]
    rfl
  | .int x :: ds, _, _, h, e => by
    simp only [RepL, Rep] at h
    obtain ⟨v, r, rfl, rfl, h2⟩ := h
    simp only [intsOf, Option.map_eq_some_iff] at e
    obtain ⟨ys, e1, rfl⟩ := e
    rw [RepL.ints h2 e1]
    rfl
  | .non :: _, _, _, _, e | .bl _ :: _, _, _, _, e | .str _ :: _, _, _, _, e | .tup _ :: _, _, _, _, e | .lst _ :: _, _, _, _, e | .dct _ :: _, _, _, _, e | .obj _ _ :: _, _, _, _, e | .loc _ :: _, _, _, _, e => by simp [intsOf] at e
theorem RepL.bls {W : Wo} : ∀ {ds : List D} {vs : List V} {xs : List Bool}, RepL W ds vs → blsOf ds = some xs → vs = xs.map V.bl
  | [], _, _, h, e => by
    simp only [RepL] at h
    simp only [blsOf, Option.some.injEq] at e
    rw [h, ← e]
    rfl
  | .bl x :: ds, _, _, h, e => by
    simp only [RepL, Rep] at h
    obtain ⟨v, r, rfl, rfl, h2⟩ := h
    simp only [blsOf, Option.map_eq_some_iff] at e
    obtain ⟨ys, e1, rfl⟩ := e
    rw [RepL.bls h2 e1]
    rfl
  | .non :: _, _, _, _, e | .int _ :: _, _, _, _, e | .str _ :: _, _, _, _, e | .tup _ :: _, _, _, _, e | .lst _ :: _, _, _, _, e | .dct _ :: _, _, _, _, e | .obj _ _ :: _, _, _, _, e | .loc _ :: _, _, _, _, e => by simp [blsOf] at e
theorem RepL.of_strs {W : Wo} : ∀ xs : List Str, RepL W (xs.map D.str) (xs.map V.str)
  | [] => .nil
  | _ :: r => .cons (by simp only [Rep]) (RepL.of_strs r)
theorem RepL.of_ints {W : Wo} : ∀ xs : List Int, RepL W (xs.map D.int) (xs.map V.int)
  | [] => .nil
  | _ :: r => .cons (by simp only [Rep]) (RepL.of_ints r)
theorem flatD_V {W : Wo} {d : D} {v : V} (h : Rep W d v) (f : flatD d = true) : flatV v = true := by
  cases d <;> simp only [Rep] at h <;> first | (subst h; rfl) | exact absurd f Bool.false_ne_true
theorem flatL_V {W : Wo} : ∀ {ds : List D} {vs : List V}, RepL W ds vs → ds.all flatD = true → vs.all flatV = true
  | [], _, h, _ => by
    simp only [RepL] at h
    rw [h]
    rfl
  | d :: ds, _, h, f => by
    simp only [RepL] at h
    obtain ⟨v, r, rfl, h1, h2⟩ := h
    rw [List.all_cons, Bool.and_eq_true] at f ⊢
    exact ⟨flatD_V h1 f.1, flatL_V h2 f.2⟩
theorem eqF_V {W : Wo} {d e : D} {v u : V} (h : Rep W d v) (h' : Rep W e u) (f : flatD d = true) (f' : flatD e = true) : eqV v u = eqF d e := by
  cases d <;> first | exact absurd f Bool.false_ne_true | skip
  all_goals
    simp only [Rep] at h
    subst h
    cases e <;> first | exact absurd f' Bool.false_ne_true | skip
    all_goals
      simp only [Rep] at h'
      subst h'
      rfl
theorem inF_V {W : Wo} {e : D} {u : V} (h' : Rep W e u) (f' : flatD e = true) : ∀ {ds : List D} {vs : List V}, RepL W ds vs → ds.all flatD = true → inV u vs = ds.any fun y => eqF y e
  | [], _, h, _ => by
    simp only [RepL] at h
    rw [h]
    rfl
  | d :: ds, _, h, f => by
    simp only [RepL] at h
    obtain ⟨v, r, rfl, h1, h2⟩ := h
    rw [List.all_cons, Bool.and_eq_true] at f
    have ih := inF_V h' f' h2 f.2
    unfold inV at ih ⊢
    rw [List.any_cons, List.any_cons, ih, eqF_V h1 h' f.1 f']
/-- keys -/
theorem keyOf_V {W : Wo} {d : D} {v : V} {k : Key} (h : Rep W d v) (e : keyOf d = some k) : v = kV k := by
  cases d <;> simp only [keyOf, Option.some.injEq, reduceCtorEq] at e
  all_goals
    subst e
    simp only [Rep] at h
    exact h
theorem ofKey_V {W : Wo} (k : Key) : Rep W (ofKey k) (kV k) := by
  cases k <;> simp only [ofKey, Rep, kV]
theorem RepK.keys {W : Wo} : ∀ {ds : List (Key × D)} {vs : List (Key × V)}, RepK W ds vs → vs.map (·.1) = ds.map (·.1)
  | [], _, h => by
    simp only [RepK] at h
    rw [h]
    rfl
  | (k, d) :: ds, _, h => by
    simp only [RepK, RepKP] at h
    obtain ⟨v, r, rfl, ⟨rfl, _⟩, h2⟩ := h
    rw [List.map_cons, List.map_cons, h2.keys]
theorem RepK.length {W : Wo} {ds : List (Key × D)} {vs : List (Key × V)} (h : RepK W ds vs) : vs.length = ds.length := by
  have q := congrArg List.length h.keys
  simpa using q
theorem RepK.get {W : Wo} : ∀ {ds : List (Key × D)} {vs : List (Key × V)} (k : Key), RepK W ds vs → (getK ds k = none ∧ valV vs k = none) ∨ ∃ d v, getK ds k = some d ∧ valV vs k = some v ∧ Rep W d v
  | [], _, k, h => by
    simp only [RepK] at h
    subst h
    exact .inl ⟨rfl, rfl⟩
  | (l, d) :: ds, _, k, h => by
    simp only [RepK, RepKP] at h
    obtain ⟨v, r, rfl, ⟨rfl, h1⟩, h2⟩ := h
    by_cases e : v.1 = k
    · exact .inr ⟨d, v.2, by simp [getK, e], valV_pos e, h1⟩
    · have e1 : getK ((v.1, d) :: ds) k = getK ds k := by simp [getK, e]
      rw [e1, valV_neg e]
      exact h2.get k
theorem RepK.mem_any {W : Wo} {ds : List (Key × D)} {vs : List (Key × V)} (h : RepK W ds vs) (k : Key) : (vs.any fun kv => decide (kv.1 = k)) = ds.any fun kv => decide (kv.1 = k) := by
  have e1 : (vs.any fun kv => decide (kv.1 = k)) = (vs.map (·.1)).any fun x => decide (x = k) := by rw [List.any_map]; rfl
  have e2 : (ds.any fun kv => decide (kv.1 = k)) = (ds.map (·.1)).any fun x => decide (x = k) := by rw [List.any_map]; rfl
  rw [e1, e2, h.keys]
theorem RepK.append {W : Wo} : ∀ {ds es : List (Key × D)} {vs us : List (Key × V)}, RepK W ds vs → RepK W es us → RepK W (ds ++ es) (vs ++ us)
  | [], _, _, _, h, h' => by
    simp only [RepK] at h
    rw [h]
    exact h'
  | d :: ds, _, _, _, h, h' => by
    simp only [RepK] at h
    obtain ⟨v, r, rfl, h1, h2⟩ := h
    rw [List.cons_append, List.cons_append]
    simp only [RepK]
    exact ⟨v, _, rfl, h1, h2.append h'⟩
theorem RepK.put {W : Wo} {ds : List (Key × D)} {vs : List (Key × V)} {k : Key} {d : D} {v : V} (h : RepK W ds vs) (q : Rep W d v) : RepK W (putKD ds k d) (putK vs k v) := by
  unfold putKD putK
  rw [h.mem_any k]
  split
  · have go : ∀ {ds : List (Key × D)} {vs : List (Key × V)}, RepK W ds vs → RepK W (ds.map fun kv => if kv.1 = k then (kv.1, d) else kv) (vs.map fun kv => if kv.1 = k then (kv.1, v) else kv) := by
      intro ds
      induction ds with
      | nil =>
        intro vs h
        simp only [RepK] at h
        rw [h]
        simp [RepK]
      | cons p ds ih =>
        obtain ⟨l, e⟩ := p
        intro vs h
        simp only [RepK, RepKP] at h
        obtain ⟨u, r, rfl, ⟨rfl, h1⟩, h2⟩ := h
        rw [List.map_cons, List.map_cons]
        simp only [RepK]
        refine ⟨_, _, rfl, ?_, ih h2⟩
        by_cases e1 : u.1 = k
        · rw [if_pos e1, if_pos e1]
          simp only [RepKP]
          exact ⟨trivial, q⟩
        · rw [if_neg e1, if_neg e1]
          simp only [RepKP]
          exact ⟨trivial, h1⟩
    exact go h
  · exact h.append (by simp only [RepK, RepKP]; exact ⟨(k, v), [], rfl, ⟨rfl, q⟩, rfl⟩)
theorem RepK.merge {W : Wo} : ∀ (es : List (Key × D)) {us : List (Key × V)} {ds : List (Key × D)} {vs : List (Key × V)}, RepK W ds vs → RepK W es us → RepK W (mergeD ds es) (mergeK vs us)
  | [], _, _, _, h, h' => by
    simp only [RepK] at h'
    rw [h']
    exact h
  | (k, d) :: es, _, ds, vs, h, h' => by
    simp only [RepK, RepKP] at h'
    obtain ⟨v, r, rfl, ⟨rfl, h1⟩, h2⟩ := h'
    have q := RepK.merge es (h.put (k := v.1) h1) h2
    exact q
theorem RepK.nil {W : Wo} : RepK W [] [] := by simp only [RepK]
theorem RepK.cons {W : Wo} {ds : List (Key × D)} {vs : List (Key × V)} {k : Key} {d : D} {v : V} (q : Rep W d v) (h : RepK W ds vs) : RepK W ((k, d) :: ds) ((k, v) :: vs) := by
  simp only [RepK, RepKP]
  exact ⟨_, vs, rfl, ⟨rfl, q⟩, h⟩
theorem RepK.keysL {W : Wo} : ∀ {ds : List (Key × D)} {vs : List (Key × V)}, RepK W ds vs → RepL W (ds.map fun kv => ofKey kv.1) (vs.map fun kv => kV kv.1)
  | [], _, h => by
    simp only [RepK] at h
    rw [h]
    exact .nil
  | (k, d) :: ds, _, h => by
    simp only [RepK, RepKP] at h
    obtain ⟨v, r, rfl, ⟨rfl, _⟩, h2⟩ := h
    exact .cons (ofKey_V _) h2.keysL

/-! ### the cells -/
def CellOk (W : Wo) (H : Hp) (a : Addr) : Cell → Prop
  | .lst ds => W.F a = none ∧ ∃ vs, H a = some (.lst vs) ∧ RepL W ds vs
  | .dct kvs => W.F a = none ∧ ∃ es, H a = some (.dK es) ∧ RepK W kvs es
  | .ins C fs => W.F a = none ∧ ∃ dx es, H a = some (.ins (W.CA C) dx es) ∧ H dx = some (.own a) ∧ RepF W fs es
  | .dead => True
/-- the still heap is held (a dict may be locked) -/
def Still (F H : Hp) : Prop := ∀ a o, F a = some o → H a = some o ∨ ∃ es od, o = .dK es ∧ H a = some (.frz od o)
structure SR (W : Wo) (st : Store) (H : Hp) : Prop where
  still : Still W.F H
  len : W.mu.length = st.length
  nd : W.mu.Nodup
  cell : ∀ (n : Nat) c a, st[n]? = some c → W.mu[n]? = some a → CellOk W H a c
  al : ∀ a ∈ W.mu, ∃ o, H a = some o
  fo : ∀ a o, W.G a = some o → H a = some o ∧ W.F a = none ∧ a ∉ W.mu
def SlR (W : Wo) : Slots → Sg → Prop
  | [], s => s = []
  | d :: ds, s => ∃ v r, s = v :: r ∧ (∀ x, d = some x → ∃ u, v = some u ∧ Rep W x u) ∧ SlR W ds r
theorem SlR.mono' {W W' : Wo} (l : Li W W') : ∀ {ds : Slots} {s : Sg}, SlR W ds s → SlR W' ds s
  | [], _, h => h
  | d :: ds, _, ⟨v, r, e, h1, h2⟩ => ⟨v, r, e, fun x q => let ⟨u, a, b⟩ := h1 x q; ⟨u, a, b.mono' l⟩, h2.mono' l⟩
theorem SlR.mono {W W' : Wo} (l : Le W W') {ds : Slots} {s : Sg} (h : SlR W ds s) : SlR W' ds s := h.mono' l.li
theorem SlR.length {W : Wo} : ∀ {ds : Slots} {s : Sg}, SlR W ds s → s.length = ds.length
  | [], _, h => by rw [show _ = [] from h]; rfl
  | d :: ds, _, ⟨v, r, e, h1, h2⟩ => by rw [e, List.length_cons, List.length_cons, h2.length]
theorem SlR.get {W : Wo} : ∀ {ds : Slots} {s : Sg} {i : Nat} {d : D}, SlR W ds s → ds[i]? = some (some d) → ∃ v, s[i]? = some (some v) ∧ Rep W d v
  | [], _, _, _, _, e => by simp at e
  | d :: ds, _, 0, _, ⟨v, r, rfl, h1, h2⟩, e => by
    simp at e
    obtain ⟨u, rfl, q⟩ := h1 _ e
    exact ⟨u, rfl, q⟩
  | d :: ds, _, i + 1, _, ⟨v, r, rfl, h1, h2⟩, e => by
    obtain ⟨u, a, b⟩ := SlR.get (i := i) h2 (by simpa using e)
    exact ⟨u, by simpa using a, b⟩
theorem SlR.set {W : Wo} {d : D} {v : V} (q : Rep W d v) : ∀ {ds : Slots} {s : Sg} (i : Nat), SlR W ds s → SlR W (ds.set i (some d)) (s.set i (some v))
  | [], _, _, h => by rw [show _ = [] from h]; exact rfl
  | _ :: ds, _, 0, ⟨u, r, rfl, h1, h2⟩ => ⟨some v, r, rfl, fun x e => ⟨v, rfl, by cases e; exact q⟩, h2⟩
  | _ :: ds, _, i + 1, ⟨u, r, rfl, h1, h2⟩ => ⟨u, r.set i (some v), rfl, h1, SlR.set q i h2⟩
theorem SlR.none {W : Wo} : ∀ {ds : Slots} {s : Sg} (i : Nat), SlR W ds s → SlR W (ds.set i none) (s.set i none)
  | [], _, _, h => by rw [show _ = [] from h]; exact rfl
  | _ :: ds, _, 0, ⟨u, r, rfl, h1, h2⟩ => ⟨_, r, rfl, fun x e => (nomatch e), h2⟩
  | _ :: ds, _, i + 1, ⟨u, r, rfl, h1, h2⟩ => ⟨u, r.set i Option.none, rfl, h1, SlR.none i h2⟩
theorem SlR.wipe {W : Wo} {ds : Slots} {s : Sg} (h : SlR W ds s) : ∀ vs : List Nat, SlR W (wipeD ds vs) (L2.wipe s vs)
  | [] => h
  | v :: vs => SlR.none v (SlR.wipe h vs)
theorem SlR.start {W : Wo} {N : List Str} : ∀ {ds : List D} {vs : List V}, RepL W ds vs → SlR W (ds.map some ++ List.replicate (N.length - ds.length) Option.none) (L2.start N vs) := by
  intro ds vs h
  unfold L2.start
  rw [h.length]
  have go : ∀ {ds : List D} {vs : List V} (n : Nat), RepL W ds vs → SlR W (ds.map some ++ List.replicate n Option.none) (vs.map some ++ List.replicate n Option.none) := by
    intro ds
    induction ds with
    | nil =>
      intro vs n h
      simp only [RepL] at h
      subst h
      induction n with
      | zero => exact rfl
      | succ n ih => exact ⟨_, _, rfl, fun x e => (nomatch e), ih⟩
    | cons d ds ih =>
      intro vs n h
      simp only [RepL] at h
      obtain ⟨v, r, rfl, h1, h2⟩ := h
      exact ⟨_, _, rfl, fun x e => ⟨v, rfl, by cases e; exact h1⟩, ih n h2⟩
  exact go _ h
end TM
set_option maxHeartbeats 1000000
/-! TM, part D: the operations by value. -/
namespace TM
open PySem PySem.Spec PyProof.Rows L2

/-! ### a wish about a result -/
def PostX (W : Wo) (E : XK) (C : Nat) (fs : List (Str × D)) (st : Store) : Prop :=
  ∀ W' H' dx es, Le W W' → SR W' st H' → H' dx = some (.xd es) → RepF W' fs es → E (.ref (W'.CA C)) (some dx) H'
def Post (W : Wo) (E : XK) (r : Res D) (Q : VK) : Prop := match r with
  | .ok d st => ∀ W' H' v, Le W W' → SR W' st H' → Rep W' d v → Q v H'
  | .exc C fs st => PostX W E C fs st
  | .stuck => False
def PostL (W : Wo) (E : XK) (r : Res (List D)) (Q : List V → Hp → Prop) : Prop := match r with
  | .ok d st => ∀ W' H' v, Le W W' → SR W' st H' → RepL W' d v → Q v H'
  | .exc C fs st => PostX W E C fs st
  | .stuck => False
theorem PostX.mono {W W1 : Wo} {E : XK} {C : Nat} {fs : List (Str × D)} {st : Store} (l : Le W W1) (h : PostX W E C fs st) : PostX W1 E C fs st := fun W' H' dx es l' => h W' H' dx es (l.trans l')
theorem Post.mono {W W1 : Wo} {E : XK} {r : Res D} {Q : VK} (l : Le W W1) (h : Post W E r Q) : Post W1 E r Q := by
  cases r with
  | ok d st => exact fun W' H' v l' => h W' H' v (l.trans l')
  | exc C fs st => exact PostX.mono l h
  | stuck => exact h
theorem PostL.mono {W W1 : Wo} {E : XK} {r : Res (List D)} {Q : List V → Hp → Prop} (l : Le W W1) (h : PostL W E r Q) : PostL W1 E r Q := by
  cases r with
  | ok d st => exact fun W' H' v l' => h W' H' v (l.trans l')
  | exc C fs st => exact PostX.mono l h
  | stuck => exact h
theorem post_bind {W : Wo} {E : XK} {r : Res D} {f : D → Store → Res D} {Q G : VK} (h : Post W E (r.bind f) Q)
    (k : ∀ d st1 W1 H1 v, Le W W1 → SR W1 st1 H1 → Rep W1 d v → Post W1 E (f d st1) Q → G v H1) : Post W E r G := by
  cases r with
  | ok d st => exact fun W' H' v l s q => k d st W' H' v l s q (Post.mono l h)
  | exc C fs st => exact h
  | stuck => exact h
theorem postL_bind {W : Wo} {E : XK} {r : Res (List D)} {f : List D → Store → Res D} {Q : VK} {G : List V → Hp → Prop} (h : Post W E (r.bind f) Q)
    (k : ∀ d st1 W1 H1 v, Le W W1 → SR W1 st1 H1 → RepL W1 d v → Post W1 E (f d st1) Q → G v H1) : PostL W E r G := by
  cases r with
  | ok d st => exact fun W' H' v l s q => k d st W' H' v l s q (Post.mono l h)
  | exc C fs st => exact h
  | stuck => exact h

/-! ### the relation grows -/
theorem SR.free {W : Wo} {st : Store} {H : Hp} (s : SR W st H) {p : Addr} (h : H p = none) : W.F p = none := by
  cases e : W.F p with
  | none => rfl
  | some o =>
    rcases s.still p o e with q | ⟨_, _, _, q⟩ <;> rw [q] at h <;> cases h
theorem SR.notMu {W : Wo} {st : Store} {H : Hp} (s : SR W st H) {p : Addr} (h : H p = none) : p ∉ W.mu := fun hm => by
  obtain ⟨o, e⟩ := s.al p hm
  rw [e] at h
  cases h
def Wo.still (W : Wo) (p : Addr) (o : HO) : Wo := { W with F := upd W.F p o }
def Wo.cell (W : Wo) (p : Addr) : Wo := { W with mu := W.mu ++ [p] }
theorem le_still {W : Wo} {p : Addr} {o : HO} (h : W.F p = none) : Le W (W.still p o) := by
  refine ⟨rfl, rfl, fun a u e => ?_, fun _ _ e => e, rfl⟩
  show upd W.F p o a = some u
  rw [upd_ne (fun z => by rw [z, h] at e; cases e)]
  exact e
theorem le_cell {W : Wo} {p : Addr} : Le W (W.cell p) := by
  refine ⟨rfl, rfl, fun _ _ e => e, fun n a e => ?_, rfl⟩
  show (W.mu ++ [p])[n]? = some a
  rw [List.getElem?_append_left (List.getElem?_eq_some_iff.mp e).1]
  exact e
theorem CellOk.keep {W W' : Wo} {H H' : Hp} {a : Addr} {c : Cell} (l : Li W W') (hF : W.F a = none → W'.F a = none) (hH : ∀ x o, W.F a = none → (x = a ∨ H x = some (.own a)) → H x = some o → H' x = some o) (h : CellOk W H a c) : CellOk W' H' a c := by
  cases c with
  | lst ds =>
    obtain ⟨f, vs, e, r⟩ := h
    exact ⟨hF f, vs, hH a _ f (.inl rfl) e, r.mono' l⟩
  | dct ds =>
    obtain ⟨f, vs, e, r⟩ := h
    exact ⟨hF f, vs, hH a _ f (.inl rfl) e, r.mono' l⟩
  | ins C fs =>
    obtain ⟨f, dx, vs, e, e2, r⟩ := h
    refine ⟨hF f, dx, vs, ?_, hH dx _ f (.inr e2) e2, r.mono' l⟩
    rw [l.CA]
    exact hH a _ f (.inl rfl) e
  | dead => trivial
/-- a new object that stands still -/
theorem SR.tree {W : Wo} {st : Store} {H : Hp} (s : SR W st H) {p : Addr} (h : H p = none) (o : HO) : SR (W.still p o) st (upd H p o) := by
  have hf := s.free h
  refine ⟨fun a u e => ?_, s.len, s.nd, fun n c a e1 e2 => ?_, fun a hm => ?_, fun a u e => ?_⟩
  · have e' : upd W.F p o a = some u := e
    by_cases ha : a = p
    · subst ha
      rw [upd_same] at e'
      cases e'
      exact .inl upd_same
    · rw [upd_ne ha] at e'
      rw [upd_ne ha]
      exact s.still a u e'
  · have hne : a ≠ p := fun z => s.notMu h (z ▸ List.mem_of_getElem? e2)
    refine (s.cell n c a e1 e2).keep (le_still hf).li (fun f => ?_) fun x u f hx e => ?_
    · show upd W.F p o a = none
      rw [upd_ne hne]
      exact f
    · rw [upd_ne (ne_of_none e h)]
      exact e
  · obtain ⟨u, e⟩ := s.al a hm
    exact ⟨u, by rw [upd_ne (ne_of_none e h)]; exact e⟩
  · obtain ⟨e1, e2, e3⟩ := s.fo a u e
    refine ⟨by rw [upd_ne (ne_of_none e1 h)]; exact e1, ?_, e3⟩
    show upd W.F p o a = none
    rw [upd_ne (ne_of_none e1 h)]
    exact e2
/-- a new cell -/
theorem SR.new {W : Wo} {st : Store} {H : Hp} (s : SR W st H) {p : Addr} (h : H p = none) {o : HO} {c : Cell} (hc : W.F p = none → CellOk (W.cell p) (upd H p o) p c) : SR (W.cell p) (st ++ [c]) (upd H p o) := by
  have hn := s.notMu h
  refine ⟨fun a u e => ?_, ?_, ?_, fun n c' a e1 e2 => ?_, fun a hm => ?_, fun a u e => ?_⟩
  · have e' : W.F a = some u := e
    have ha : a ≠ p := fun z => by rw [z, s.free h] at e'; cases e'
    rw [upd_ne ha]
    exact s.still a u e'
  · show (W.mu ++ [p]).length = _
    rw [List.length_append, List.length_append, s.len]
    rfl
  · show (W.mu ++ [p]).Nodup
    rw [List.nodup_append]
    exact ⟨s.nd, by simp, fun a ha b hb => by
      rw [List.mem_singleton] at hb
      subst hb
      exact fun z => hn (z ▸ ha)⟩
  · have e2' : (W.mu ++ [p])[n]? = some a := e2
    by_cases hl : n < st.length
    · rw [List.getElem?_append_left hl] at e1
      rw [List.getElem?_append_left (by rw [s.len]; exact hl)] at e2'
      have hne : a ≠ p := fun z => hn (z ▸ List.mem_of_getElem? e2')
      exact (s.cell n c' a e1 e2').keep le_cell.li id fun x u f hx e => by rw [upd_ne (ne_of_none e h)]; exact e
    · have e3 : n = st.length := by
        have := (List.getElem?_eq_some_iff.mp e1).1
        rw [List.length_append] at this
        simp at this
        omega
      subst e3
      rw [List.getElem?_append_right (Nat.le_refl _)] at e1
      rw [List.getElem?_append_right (by rw [s.len]; exact Nat.le_refl _), s.len] at e2'
      simp at e1 e2'
      subst e1 e2'
      exact hc (s.free h)
  · have hm' : a ∈ W.mu ++ [p] := hm
    rcases List.mem_append.mp hm' with hm' | hm'
    · obtain ⟨u, e⟩ := s.al a hm'
      exact ⟨u, by rw [upd_ne (ne_of_none e h)]; exact e⟩
    · rw [List.mem_singleton] at hm'
      subst hm'
      exact ⟨o, upd_same⟩
  · obtain ⟨e1, e2, e3⟩ := s.fo a u e
    refine ⟨by rw [upd_ne (ne_of_none e1 h)]; exact e1, e2, fun z => ?_⟩
    rcases List.mem_append.mp (show a ∈ W.mu ++ [p] from z) with z | z
    · exact e3 z
    · exact ne_of_none e1 h (List.mem_singleton.mp z)
theorem SR.muAt {W : Wo} {st : Store} {H : Hp} (s : SR W st H) {n : Nat} {c : Cell} (e : st[n]? = some c) : ∃ a, W.mu[n]? = some a := by
  have hl := (List.getElem?_eq_some_iff.mp e).1
  exact ⟨W.mu[n]'(by rw [s.len]; exact hl), List.getElem?_eq_getElem _⟩
theorem SR.other {W : Wo} {st : Store} {H : Hp} (s : SR W st H) {n m : Nat} {a b : Addr} (e1 : W.mu[n]? = some a) (e2 : W.mu[m]? = some b) (h : n ≠ m) : a ≠ b := fun z => by
  subst z
  obtain ⟨h1, q1⟩ := List.getElem?_eq_some_iff.mp e1
  obtain ⟨h2, q2⟩ := List.getElem?_eq_some_iff.mp e2
  exact h ((List.getElem_inj s.nd).mp (q1.trans q2.symm))
/-- a cell written -/
theorem SR.put {W : Wo} {st : Store} {H : Hp} (s : SR W st H) {n : Nat} {c c' : Cell} {a : Addr} {o : HO} (e1 : st[n]? = some c) (e2 : W.mu[n]? = some a) (hf : W.F a = none) (hno : ∀ x, H a ≠ some (.own x)) (hc : CellOk W (upd H a o) a c') :
    SR W (st.set n c') (upd H a o) := by
  have hl := (List.getElem?_eq_some_iff.mp e1).1
  refine ⟨fun b u e => ?_, by rw [List.length_set]; exact s.len, s.nd, fun m d b e3 e4 => ?_, fun b hm => ?_, fun b u e => ?_⟩
  · have hb : b ≠ a := fun z => by rw [z, hf] at e; cases e
    rw [upd_ne hb]
    exact s.still b u e
  · by_cases hm : m = n
    · subst hm
      rw [List.getElem?_set_self hl] at e3
      cases e3
      rw [e2] at e4
      cases e4
      exact hc
    · rw [List.getElem?_set_ne (fun z => hm z.symm)] at e3
      have hne := s.other e4 e2 hm
      refine (s.cell m d b e3 e4).keep (Le.refl W).li id fun x u f hx e => ?_
      rw [upd_ne]
      · exact e
      · rintro rfl
        rcases hx with z | z
        · exact hne z.symm
        · exact hno b z
  · by_cases hb : b = a
    · exact ⟨o, by rw [hb]; exact upd_same⟩
    · obtain ⟨u, e⟩ := s.al b hm
      exact ⟨u, by rw [upd_ne hb]; exact e⟩
  · obtain ⟨q1, q2, q3⟩ := s.fo b u e
    have hb : b ≠ a := fun z => q3 (z ▸ List.mem_of_getElem? e2)
    exact ⟨by rw [upd_ne hb]; exact q1, q2, q3⟩
/-- a cell comes to stand still -/
theorem SR.freeze {W : Wo} {st : Store} {H : Hp} (s : SR W st H) {n : Nat} {c : Cell} {a : Addr} {o : HO} (e1 : st[n]? = some c) (e2 : W.mu[n]? = some a) (hf : W.F a = none) (h : H a = some o) : SR (W.still a o) (st.set n .dead) H := by
  have hl := (List.getElem?_eq_some_iff.mp e1).1
  refine ⟨fun b u e => ?_, by rw [List.length_set]; exact s.len, s.nd, fun m d b e3 e4 => ?_, s.al, fun b u e => ?_⟩
  · have e' : upd W.F a o b = some u := e
    by_cases hb : b = a
    · subst hb
      rw [upd_same] at e'
      cases e'
      exact .inl h
    · rw [upd_ne hb] at e'
      exact s.still b u e'
  · by_cases hm : m = n
    · subst hm
      rw [List.getElem?_set_self hl] at e3
      cases e3
      trivial
    · rw [List.getElem?_set_ne (fun z => hm z.symm)] at e3
      have hne := s.other (show W.mu[m]? = some b from e4) e2 hm
      refine (s.cell m d b e3 e4).keep (le_still hf).li (fun f => ?_) fun x u f hx e => e
      show upd W.F a o b = none
      rw [upd_ne hne]
      exact f
  · obtain ⟨q1, q2, q3⟩ := s.fo b u e
    have hb : b ≠ a := fun z => q3 (z ▸ List.mem_of_getElem? e2)
    refine ⟨q1, ?_, q3⟩
    show upd W.F a o b = none
    rw [upd_ne hb]
    exact q2
/-- an object kept apart: laid, changed, come to stand still, come to be a cell -/
def Wo.apart (W : Wo) (p : Addr) (o : HO) : Wo := { W with G := upd W.G p o }
def Wo.with (W : Wo) (g : Hp) : Wo := { W with G := g }
theorem li_apart {W : Wo} {p : Addr} {o : HO} : Li W (W.apart p o) := ⟨rfl, rfl, fun _ _ e => e, fun _ _ e => e⟩
theorem li_with {W : Wo} {g : Hp} : Li W (W.with g) := ⟨rfl, rfl, fun _ _ e => e, fun _ _ e => e⟩
theorem SR.laid {W : Wo} {st : Store} {H : Hp} (s : SR W st H) {p : Addr} (h : H p = none) (o : HO) : SR (W.apart p o) st (upd H p o) := by
  have hn := s.notMu h
  refine ⟨fun a u e => ?_, s.len, s.nd, fun n c a e1 e2 => ?_, fun a hm => ?_, fun a u e => ?_⟩
  · have e' : W.F a = some u := e
    have ha : a ≠ p := fun z => by rw [z, s.free h] at e'; cases e'
    rw [upd_ne ha]
    exact s.still a u e'
  · exact (s.cell n c a e1 e2).keep li_apart id fun x u f hx e => by rw [upd_ne (ne_of_none e h)]; exact e
  · obtain ⟨u, e⟩ := s.al a hm
    exact ⟨u, by rw [upd_ne (ne_of_none e h)]; exact e⟩
  · have e' : upd W.G p o a = some u := e
    by_cases ha : a = p
    · subst ha
      rw [upd_same] at e'
      cases e'
      exact ⟨upd_same, s.free h, hn⟩
    · rw [upd_ne ha] at e'
      obtain ⟨q1, q2, q3⟩ := s.fo a u e'
      exact ⟨by rw [upd_ne ha]; exact q1, q2, q3⟩
/-- the object at p, kept apart, is let go: g is what is kept apart besides -/
theorem SR.drop {W : Wo} {st : Store} {H : Hp} (s : SR W st H) (g : Hp) (hg : ∀ a o, g a = some o → W.G a = some o) : SR (W.with g) st H :=
  ⟨s.still, s.len, s.nd, fun n c a e1 e2 => (s.cell n c a e1 e2).keep li_with id fun _ _ _ _ e => e, s.al, fun a o e => s.fo a o (hg a o e)⟩
/-- and is changed -/
theorem SR.turn {W : Wo} {st : Store} {H : Hp} (s : SR W st H) {p : Addr} {o : HO} (h : W.G p = some o) (hno : ∀ x, o ≠ .own x) (o' : HO) : SR (W.apart p o') st (upd H p o') := by
  obtain ⟨hH, hF, hn⟩ := s.fo p o h
  refine ⟨fun a u e => ?_, s.len, s.nd, fun n c a e1 e2 => ?_, fun a hm => ?_, fun a u e => ?_⟩
  · have e' : W.F a = some u := e
    have ha : a ≠ p := fun z => by rw [z, hF] at e'; cases e'
    rw [upd_ne ha]
    exact s.still a u e'
  · have hne : a ≠ p := fun z => hn (z ▸ List.mem_of_getElem? e2)
    refine (s.cell n c a e1 e2).keep li_apart id fun x u f hx e => ?_
    rw [upd_ne]
    · exact e
    · rintro rfl
      rcases hx with z | z
      · exact hne z.symm
      · rw [hH] at z
        cases z
        exact hno a rfl
  · have hne : a ≠ p := fun z => hn (z ▸ hm)
    obtain ⟨u, e⟩ := s.al a hm
    exact ⟨u, by rw [upd_ne hne]; exact e⟩
  · have e' : upd W.G p o' a = some u := e
    by_cases ha : a = p
    · subst ha
      rw [upd_same] at e'
      cases e'
      exact ⟨upd_same, hF, hn⟩
    · rw [upd_ne ha] at e'
      obtain ⟨q1, q2, q3⟩ := s.fo a u e'
      exact ⟨by rw [upd_ne ha]; exact q1, q2, q3⟩
theorem SR.settle {W : Wo} {st : Store} {H : Hp} (s : SR W st H) {p : Addr} {o : HO} (hH : H p = some o) (hF : W.F p = none) (hn : p ∉ W.mu) (hG : W.G p = none) : SR (W.still p o) st H := by
  refine ⟨fun a u e => ?_, s.len, s.nd, fun n c a e1 e2 => ?_, s.al, fun a u e => ?_⟩
  · have e' : upd W.F p o a = some u := e
    by_cases ha : a = p
    · subst ha
      rw [upd_same] at e'
      cases e'
      exact .inl hH
    · rw [upd_ne ha] at e'
      exact s.still a u e'
  · have hne : a ≠ p := fun z => hn (z ▸ List.mem_of_getElem? e2)
    refine (s.cell n c a e1 e2).keep (le_still hF).li (fun f => ?_) fun x u f hx e => e
    show upd W.F p o a = none
    rw [upd_ne hne]
    exact f
  · obtain ⟨q1, q2, q3⟩ := s.fo a u e
    have ha : a ≠ p := fun z => by
      have e' : W.G a = some u := e
      rw [z, hG] at e'
      cases e'
    refine ⟨q1, ?_, q3⟩
    show upd W.F p o a = none
    rw [upd_ne ha]
    exact q2
theorem SR.join {W : Wo} {st : Store} {H : Hp} (s : SR W st H) {p : Addr} {o : HO} {c : Cell} (hH : H p = some o) (hn : p ∉ W.mu) (hG : W.G p = none) (hc : CellOk (W.cell p) H p c) : SR (W.cell p) (st ++ [c]) H := by
  refine ⟨fun a u e => s.still a u e, ?_, ?_, fun n c' a e1 e2 => ?_, fun a hm => ?_, fun a u e => ?_⟩
  · show (W.mu ++ [p]).length = _
    rw [List.length_append, List.length_append, s.len]
    rfl
  · show (W.mu ++ [p]).Nodup
    rw [List.nodup_append]
    exact ⟨s.nd, by simp, fun a ha b hb => by
      rw [List.mem_singleton] at hb
      subst hb
      exact fun z => hn (z ▸ ha)⟩
  · have e2' : (W.mu ++ [p])[n]? = some a := e2
    by_cases hl : n < st.length
    · rw [List.getElem?_append_left hl] at e1
      rw [List.getElem?_append_left (by rw [s.len]; exact hl)] at e2'
      exact (s.cell n c' a e1 e2').keep le_cell.li id fun x u f hx e => e
    · have e3 : n = st.length := by
        have := (List.getElem?_eq_some_iff.mp e1).1
        rw [List.length_append] at this
        simp at this
        omega
      subst e3
      rw [List.getElem?_append_right (Nat.le_refl _)] at e1
      rw [List.getElem?_append_right (by rw [s.len]; exact Nat.le_refl _), s.len] at e2'
      simp at e1 e2'
      subst e1 e2'
      exact hc
  · rcases List.mem_append.mp (show a ∈ W.mu ++ [p] from hm) with hm' | hm'
    · exact s.al a hm'
    · rw [List.mem_singleton] at hm'
      subst hm'
      exact ⟨o, hH⟩
  · obtain ⟨e1, e2, e3⟩ := s.fo a u e
    refine ⟨e1, e2, fun z => ?_⟩
    rcases List.mem_append.mp (show a ∈ W.mu ++ [p] from z) with z | z
    · exact e3 z
    · have e' : W.G a = some u := e
      rw [List.mem_singleton.mp z, hG] at e'
      cases e'

/-! ### looks -/
theorem rd_H {F H : Hp} (s : Still F H) {a : Addr} {xs : List V} (h : Rd F a (.lst xs)) : Rd H a (.lst xs) := by
  rcases h with h | ⟨o, h⟩
  · rcases s _ _ h with q | ⟨_, _, z, _⟩
    · exact .inl q
    · cases z
  · rcases s _ _ h with q | ⟨_, _, z, _⟩
    · exact .inr ⟨o, q⟩
    · cases z
theorem sqT_H {K : PySem.W.Frag} {F H : Hp} (s : Still F H) {a : Addr} {xs : List V} (h : SqT K F a xs) : SqT K H a xs := by
  rcases h with (h | ⟨o, h⟩) | h
  · rcases s _ _ h with q | ⟨_, _, z, _⟩
    · exact .inl (.inl q)
    · cases z
  · rcases s _ _ h with q | ⟨_, _, z, _⟩
    · exact .inl (.inr ⟨o, q⟩)
    · cases z
  · exact .inr h
theorem rdK_H {F H : Hp} (s : Still F H) {a : Addr} {xs : List (Key × V)} (h : F a = some (.dK xs)) : Rd H a (.dK xs) := by
  rcases s _ _ h with q | ⟨_, od, _, q⟩
  · exact .inl q
  · exact .inr ⟨od, q⟩
section
variable {W : Wo} {st : Store} {H : Hp} {d : D} {v : V}
theorem lstAt_cell {n : Nat} {xs : List D} (e : lstAt st n = some xs) : st[n]? = some (.lst xs) := by
  unfold lstAt at e
  split at e
  · cases e
    assumption
  · cases e
theorem dctAt_cell {n : Nat} {xs : List (Key × D)} (e : dctAt st n = some xs) : st[n]? = some (.dct xs) := by
  unfold dctAt at e
  split at e
  · cases e
    assumption
  · cases e
theorem SR.lstCell (s : SR W st H) {n : Nat} {xs : List D} {a : Addr} (e : st[n]? = some (.lst xs)) (ea : W.mu[n]? = some a) : W.F a = none ∧ ∃ vs, H a = some (.lst vs) ∧ RepL W xs vs := s.cell n _ a e ea
theorem SR.dctCell (s : SR W st H) {n : Nat} {xs : List (Key × D)} {a : Addr} (e : st[n]? = some (.dct xs)) (ea : W.mu[n]? = some a) : W.F a = none ∧ ∃ vs, H a = some (.dK vs) ∧ RepK W xs vs := s.cell n _ a e ea
theorem asL_V (s : SR W st H) (r : Rep W d v) {xs : List D} (e : asL d st = some xs) : ∃ a vs, v = .ref a ∧ Rd H a (.lst vs) ∧ RepL W xs vs := by
  cases d with
  | lst ds =>
    simp only [asL, Option.some.injEq] at e
    subst e
    simp only [Rep] at r
    obtain ⟨a, vs, e, h, q⟩ := r
    exact ⟨a, vs, e, rd_H s.still h, q⟩
  | loc n =>
    simp only [asL] at e
    have ec := lstAt_cell e
    simp only [Rep] at r
    obtain ⟨a, ea, rfl⟩ := r
    obtain ⟨_, vs, h, q⟩ := s.lstCell ec ea
    exact ⟨a, vs, rfl, .inl h, q⟩
  | _ => simp [asL] at e
theorem asT_V (s : SR W st H) (r : Rep W (.tup xs) v) : ∃ a vs, v = .ref a ∧ SqT W.K H a vs ∧ RepL W xs vs := by
  simp only [Rep] at r
  obtain ⟨a, vs, e, h, q⟩ := r
  exact ⟨a, vs, e, sqT_H s.still h, q⟩
theorem asK_V (s : SR W st H) (r : Rep W d v) {xs : List (Key × D)} (e : asK d st = some xs) : ∃ a vs, v = .ref a ∧ Rd H a (.dK vs) ∧ RepK W xs vs := by
  cases d with
  | dct ds =>
    simp only [asK, Option.some.injEq] at e
    subst e
    simp only [Rep] at r
    obtain ⟨a, vs, e, h, q⟩ := r
    exact ⟨a, vs, e, rdK_H s.still h, q⟩
  | loc n =>
    simp only [asK] at e
    have ec := dctAt_cell e
    simp only [Rep] at r
    obtain ⟨a, ea, rfl⟩ := r
    obtain ⟨_, vs, h, q⟩ := s.dctCell ec ea
    exact ⟨a, vs, rfl, .inl h, q⟩
  | _ => simp [asK] at e
theorem asQ_V (s : SR W st H) (r : Rep W d v) {xs : List D} (e : asQ d st = some xs) : ∃ a vs, v = .ref a ∧ (SqL W.K H a vs ∨ SqT W.K H a vs) ∧ RepL W xs vs := by
  cases d with
  | tup ds =>
    simp only [asQ, Option.some.injEq] at e
    subst e
    obtain ⟨a, vs, e, h, q⟩ := asT_V s r
    exact ⟨a, vs, e, .inr h, q⟩
  | _ =>
    obtain ⟨a, vs, e, h, q⟩ := asL_V s r (xs := xs) (by simpa [asQ] using e)
    exact ⟨a, vs, e, .inl (.inl h), q⟩
end
/-- a result that is a new tree, a new cell -/
theorem post_lst {W : Wo} {st : Store} {H : Hp} {E : XK} {Q : VK} {xs : List D} {vs : List V} (s : SR W st H) (r : RepL W xs vs) (h : Post W E (.ok (.lst xs) st) Q) : ∀ p, H p = none → Q (.ref p) (upd H p (.lst vs)) := fun p hp => by
  have l := le_still (o := .lst vs) (s.free hp)
  exact h _ _ _ l (s.tree hp _) (by simp only [Rep]; exact ⟨p, vs, rfl, .inl upd_same, r.mono l⟩)
theorem post_tup {W : Wo} {st : Store} {H : Hp} {E : XK} {Q : VK} {xs : List D} {vs : List V} (s : SR W st H) (r : RepL W xs vs) (h : Post W E (.ok (.tup xs) st) Q) : ∀ p, H p = none → Q (.ref p) (upd H p (.tup vs)) := fun p hp => by
  have l := le_still (o := .tup vs) (s.free hp)
  exact h _ _ _ l (s.tree hp _) (by simp only [Rep]; exact ⟨p, vs, rfl, .inl (.inl upd_same), r.mono l⟩)
theorem post_dct {W : Wo} {st : Store} {H : Hp} {E : XK} {Q : VK} {xs : List (Key × D)} {vs : List (Key × V)} (s : SR W st H) (r : RepK W xs vs) (h : Post W E (.ok (.dct xs) st) Q) : ∀ p, H p = none → Q (.ref p) (upd H p (.dK vs)) := fun p hp => by
  have l := le_still (o := .dK vs) (s.free hp)
  exact h _ _ _ l (s.tree hp _) (by simp only [Rep]; exact ⟨p, vs, rfl, upd_same, r.mono l⟩)
theorem post_mkL {W : Wo} {st : Store} {H : Hp} {E : XK} {Q : VK} {mt : Bool} {xs : List D} {vs : List V} (s : SR W st H) (r : RepL W xs vs) (h : Post W E (mkL mt xs st) Q) : ∀ p, H p = none → Q (.ref p) (upd H p (.lst vs)) := fun p hp => by
  cases mt with
  | false => exact post_lst s r (by simpa [mkL] using h) p hp
  | true =>
    have h' : Post W E (.ok (.loc st.length) (st ++ [.lst xs])) Q := by simpa [mkL] using h
    refine h' (W.cell p) _ _ le_cell (s.new hp fun f => ⟨f, vs, upd_same, r.mono le_cell⟩) ?_
    simp only [Rep]
    refine ⟨p, ?_, rfl⟩
    show (W.mu ++ [p])[st.length]? = some p
    rw [← s.len, List.getElem?_append_right (Nat.le_refl _)]
    simp
theorem post_mkK {W : Wo} {st : Store} {H : Hp} {E : XK} {Q : VK} {mt : Bool} {xs : List (Key × D)} {vs : List (Key × V)} (s : SR W st H) (r : RepK W xs vs) (h : Post W E (mkK mt xs st) Q) : ∀ p, H p = none → Q (.ref p) (upd H p (.dK vs)) := fun p hp => by
  cases mt with
  | false => exact post_dct s r (by simpa [mkK] using h) p hp
  | true =>
    have h' : Post W E (.ok (.loc st.length) (st ++ [.dct xs])) Q := by simpa [mkK] using h
    refine h' (W.cell p) _ _ le_cell (s.new hp fun f => ⟨f, vs, upd_same, r.mono le_cell⟩) ?_
    simp only [Rep]
    refine ⟨p, ?_, rfl⟩
    show (W.mu ++ [p])[st.length]? = some p
    rw [← s.len, List.getElem?_append_right (Nat.le_refl _)]
    simp
theorem post_here {W : Wo} {st : Store} {H : Hp} {E : XK} {Q : VK} {d : D} {v : V} (s : SR W st H) (r : Rep W d v) (h : Post W E (.ok d st) Q) : Q v H := h W H v (Le.refl W) s r
end TM
set_option maxHeartbeats 1000000
/-! TM, part E: operators and comparisons over trees. -/
namespace TM
open PySem PySem.Spec PyProof.Rows L2
section
variable {X : Cx} {pins : List (Addr × Obj)} {σ : Sg} {H : Hp} {s : Shared} {a b : Addr} {xs ys : List V}
theorem rdObj (I : Inv X pins σ H s) (h : Rd H a (.lst xs)) : xs.length ≤ sizeLine ∧ ∃ (its : List Value) (n : Nat), Vals xs its ∧ s.heap.get? a = some { cls := .type "list", data := .seq its.toArray n } := h.ok I.hok
/-- two lists put together -/
def rCatR : R2 := fun x y H Q => ∃ a b xs ys, x = .ref a ∧ y = .ref b ∧ Rd H a (.lst xs) ∧ Rd H b (.lst ys) ∧ xs.length + ys.length ≤ sizeLine ∧ ∀ p, H p = none → Q (.ref p) (upd H p (.lst (xs ++ ys)))
theorem opCatR : OpR X (binaryOp .Add) rCatR := by
  intro pins s σ H x y v u Q I r1 r2 ⟨a, b, xs, ys, e1, e2, ha, hb, hz, q⟩
  subst e1 e2
  obtain rfl : v = Value.ref a := r1
  obtain rfl : u = Value.ref b := r2
  obtain ⟨_, l1, n1, w1, g1⟩ := rdObj I ha
  obtain ⟨_, l2, n2, w2, g2⟩ := rdObj I hb
  have k1 := w1.length
  have k2 := w2.length
  have new := I.lnew (t' := s.toks) (w1.append w2) (by rw [List.length_append]; exact hz)
  refine PySem.P.add_list g1 g2 ⟨.ref s.heap.objs.size, _, ?_, rfl, q _ I.fresh⟩ (by simp only [List.size_toArray]; omega)
  rw [List.append_toArray]
  exact new
/-- a list some times -/
def rRepR : R2 := fun x y H Q => ∃ a k xs, x = .ref a ∧ y = .int k ∧ Rd H a (.lst xs) ∧ -(2 ^ 63) ≤ k ∧ k < 2 ^ 63 ∧ xs.length * k.toNat ≤ sizeLine ∧ ∀ p, H p = none → Q (.ref p) (upd H p (.lst (List.replicate k.toNat xs).flatten))
theorem opRepR : OpR X (binaryOp .Mult) rRepR := by
  intro pins s σ H x y v u Q I r1 r2 ⟨a, k, xs, e1, e2, ha, lo, hi, hz, q⟩
  subst e1 e2
  obtain rfl : v = Value.ref a := r1
  obtain ⟨t, rfl⟩ := r2
  obtain ⟨_, l1, n1, w1, g1⟩ := rdObj I ha
  have k1 := w1.length
  have big : (sizeLine : Nat) ≤ (2 ^ 63 - 1) / 8 := by decide
  have len : l1.toArray.size * k.toNat ≤ sizeLine := by rw [List.size_toArray, ← k1]; exact hz
  have made : List.foldl (fun p q => p ++ q) #[] (List.replicate (if l1.toArray.isEmpty = true then 0 else k.toNat) l1.toArray) = (List.replicate k.toNat l1).flatten.toArray := by
    have go := fun m : Nat => foldl_rep l1 m []
    simp only [List.nil_append] at go
    refine (go _).trans ?_
    cases l1 with
    | nil => simp
    | cons c r => simp
  have f1 : ¬ (!Builtin.List.listFitsIndex k) = true := by rw [fitsIndex_both lo hi]; decide
  have f2 : ¬ Builtin.List.listTooLong (l1.toArray.size * k.toNat) = true := by rw [notLongL len]; decide
  refine wpAny_binaryOp_repeat_ref (T := "list") (U := "int") (by decide) ⟨_, g1, rfl⟩ (fun z => typeIs_int z k t) noFill_list_mul F.fills_int_mul F.slot_int_rmul repeat_list F.slot_int_index.lookup ?_
  refine call_meets F.slot_int_rmul (typeIs_int s k t) F.entry_int_rmul (F.args_int_rmul_2 _ _) (int___rmul___int_list k t a l1.toArray n1) ⟨g1, rfl, ⟨_, g1, rfl⟩, ?_⟩
  refine call_meets F.slot_list_mul ⟨_, g1, rfl⟩ F.entry_list_mul (F.args_list_mul_2 _ _) (AutoListH.list___mul___list_int_3 a l1.toArray n1 k t f1 (by omega) f2) ⟨g1, ?_⟩
  rw [made]
  exact ⟨.ref _, _, I.lnew (t' := s.toks) (w1.rep k.toNat) (by rw [PyProof.Rows.lm_len_rep_flat, Nat.mul_comm]; exact hz), rfl, q _ I.fresh⟩
/-- a power of any size -/
theorem opPowW : OpR X (binaryOp .Pow) (rI (fun i j => 0 ≤ j ∧ (Builtin.Int.intBits i : Int) * j ≤ 2 ^ 27) fun i j => .int (i ^ j.toNat)) := opI fun _ _ _ _ _ _ _ hc q => pow_int hc.1 hc.2 q
theorem opInD (hu : X.A.units + 1 < cLine) : OpR X (compareOp .In) (fun x y H Q => ∃ a o, y = .ref a ∧ DGet H a x o ∧ Q (.bl o.isSome) H) := by
  intro pins s σ H x y v u Q I r1 r2 ⟨a, o, e, g, q⟩
  subst e
  obtain rfl : u = Value.ref a := r2
  exact d_in hu I g r1 fun s' J => ⟨.bl o.isSome, H, J, rfl, q⟩
theorem opNotInD (hu : X.A.units + 1 < cLine) : OpR X (compareOp .NotIn) (fun x y H Q => ∃ a o, y = .ref a ∧ DGet H a x o ∧ Q (.bl (!o.isSome)) H) := by
  intro pins s σ H x y v u Q I r1 r2 ⟨a, o, e, g, q⟩
  subst e
  obtain rfl : u = Value.ref a := r2
  exact d_notIn hu I g r1 fun s' J => ⟨.bl (!o.isSome), H, J, rfl, q⟩
theorem ixD (hu : X.A.units + 1 < cLine) : IxR X (fun x y H Q => ∃ a v, x = .ref a ∧ DGet H a y (some v) ∧ Q v H) := by
  intro value slice pins s σ H x y v u Q I r1 r2 ⟨a, w, e, g, q⟩ hs
  subst e
  obtain rfl : v = Value.ref a := r1
  exact tail_any (dict_typeIs I g) slot_dict_getitem.lookup (d_getItem hu I g r2 fun w' s' J r' => ⟨w, H, J, r', q⟩) hs
end

/-- the reading of an operator over trees -/
def rOp (K : PySem.W.Frag) (o : Operator) : R2 := fun x y H Q => ∃ W E dx dy st, SR W st H ∧ W.K = K ∧ Rep W dx x ∧ Rep W dy y ∧ Post W E (opD o dx dy st) Q
section
variable {X : Cx}
theorem rep_int {W : Wo} {i : Int} {v : V} (h : Rep W (.int i) v) : v = .int i := by simpa only [Rep] using h
theorem rep_str {W : Wo} {i : Str} {v : V} (h : Rep W (.str i) v) : v = .str i := by simpa only [Rep] using h
theorem rep_bl {W : Wo} {i : Bool} {v : V} (h : Rep W (.bl i) v) : v = .bl i := by simpa only [Rep] using h
theorem rep_non {W : Wo} {v : V} (h : Rep W .non v) : v = .non := by simpa only [Rep] using h
theorem repI {W : Wo} {i : Int} : Rep W (.int i) (.int i) := by simp only [Rep]
theorem repS {W : Wo} {i : Str} : Rep W (.str i) (.str i) := by simp only [Rep]
theorem repB {W : Wo} {i : Bool} : Rep W (.bl i) (.bl i) := by simp only [Rep]
theorem repN {W : Wo} : Rep W .non .non := by simp only [Rep]
theorem opAdd : OpR X (binaryOp .Add) (rOp X.K .Add) := by
  intro pins s σ H x y v u Q I r1 r2 ⟨W, E, dx, dy, st, sr, hK, p1, p2, h⟩
  have lists : ∀ {as bs}, asL dx st = some as → asL dy st = some bs → Post W E (if as.length + bs.length ≤ sizeLine then .ok (.lst (as ++ bs)) st else .stuck) Q → wpAny (model X.prog X.w) X.A (binaryOp .Add v u) (EP X pins σ Q) X.xe s := fun {as bs} e1 e2 h => by
    obtain ⟨a, vs, rfl, ha, ra⟩ := asL_V sr p1 e1
    obtain ⟨b, us, rfl, hb, rb⟩ := asL_V sr p2 e2
    split at h
    · rename_i hz
      refine opCatR pins s σ H _ _ v u Q I r1 r2 ⟨a, b, vs, us, rfl, rfl, ha, hb, by rw [ra.length, rb.length]; exact hz, ?_⟩
      exact post_lst sr (ra.append rb) h
    · exact h.elim
  unfold opD at h
  split at h
  · rename_i o a b e
    rw [rep_int p1] at r1
    rw [rep_int p2] at r2
    exact op_add pins s σ H _ _ v u Q I r1 r2 ⟨_, _, rfl, rfl, post_here sr repI h⟩
  · rename_i a b e
    rw [rep_str p1] at r1
    rw [rep_str p2] at r2
    split at h
    · rename_i hz
      exact op_add_str pins s σ H _ _ v u Q I r1 r2 ⟨_, _, rfl, rfl, hz, post_here sr repS h⟩
    · exact h.elim
  · rename_i as bs e
    obtain ⟨a, vs, rfl, ha, ra⟩ := asT_V sr p1
    obtain ⟨b, us, rfl, hb, rb⟩ := asT_V sr p2
    split at h
    · rename_i hz
      rw [hK] at ha hb
      refine op_catA pins s σ H _ _ v u Q I r1 r2 ⟨a, b, vs, us, rfl, rfl, ha, hb, by rw [ra.length, rb.length]; exact hz, fun z => ?_, fun _ z => ?_, fun _ _ => post_tup sr (ra.append rb) h⟩
      · have : as = [] := by
          have := ra.length
          rw [z] at this
          exact List.eq_nil_of_length_eq_zero this.symm
        subst this
        exact post_here sr p2 h
      · have : bs = [] := by
          have := rb.length
          rw [z] at this
          exact List.eq_nil_of_length_eq_zero this.symm
        subst this
        rw [List.append_nil] at h
        exact post_here sr p1 h
    · exact h.elim
  · split at h
    · rename_i as bs e1 e2
      exact lists e1 e2 h
    · exact h.elim
  all_goals first | exact h.elim | contradiction | skip
theorem opSub : OpR X (binaryOp .Sub) (rOp X.K .Sub) := by
  intro pins s σ H x y v u Q I r1 r2 ⟨W, E, dx, dy, st, sr, hK, p1, p2, h⟩
  unfold opD at h
  split at h <;> first | contradiction | exact h.elim | skip
  rw [rep_int p1] at r1
  rw [rep_int p2] at r2
  exact op_sub pins s σ H _ _ v u Q I r1 r2 ⟨_, _, rfl, rfl, post_here sr repI h⟩
theorem opMul : OpR X (binaryOp .Mult) (rOp X.K .Mult) := by
  intro pins s σ H x y v u Q I r1 r2 ⟨W, E, dx, dy, st, sr, hK, p1, p2, h⟩
  unfold opD at h
  split at h <;> first | contradiction | exact h.elim | skip
  · rw [rep_int p1] at r1
    rw [rep_int p2] at r2
    split at h
    · rename_i hz
      exact op_mulW pins s σ H _ _ v u Q I r1 r2 ⟨_, _, rfl, rfl, hz, post_here sr repI h⟩
    · exact h.elim
  · split at h
    · rename_i as e1
      obtain ⟨a, vs, rfl, ha, ra⟩ := asL_V sr p1 e1
      rw [rep_int p2] at r2
      split at h
      · rename_i hz
        exact opRepR pins s σ H _ _ v u Q I r1 r2 ⟨a, _, vs, rfl, rfl, ha, hz.1, hz.2.1, by rw [ra.length]; exact hz.2.2, post_lst sr (ra.rep _) h⟩
      · exact h.elim
    · exact h.elim
theorem opFdiv : OpR X (binaryOp .FloorDiv) (rOp X.K .FloorDiv) := by
  intro pins s σ H x y v u Q I r1 r2 ⟨W, E, dx, dy, st, sr, hK, p1, p2, h⟩
  unfold opD at h
  split at h <;> first | contradiction | exact h.elim | skip
  rw [rep_int p1] at r1
  rw [rep_int p2] at r2
  split at h
  · rename_i hz
    exact op_fdivN pins s σ H _ _ v u Q I r1 r2 ⟨_, _, rfl, rfl, hz, post_here sr repI h⟩
  · exact h.elim
theorem opMod : OpR X (binaryOp .Mod) (rOp X.K .Mod) := by
  intro pins s σ H x y v u Q I r1 r2 ⟨W, E, dx, dy, st, sr, hK, p1, p2, h⟩
  unfold opD at h
  split at h <;> first | contradiction | exact h.elim | skip
  rw [rep_int p1] at r1
  rw [rep_int p2] at r2
  split at h
  · rename_i hz
    exact op_modN pins s σ H _ _ v u Q I r1 r2 ⟨_, _, rfl, rfl, hz, post_here sr repI h⟩
  · exact h.elim
theorem opPow : OpR X (binaryOp .Pow) (rOp X.K .Pow) := by
  intro pins s σ H x y v u Q I r1 r2 ⟨W, E, dx, dy, st, sr, hK, p1, p2, h⟩
  unfold opD at h
  split at h <;> first | contradiction | exact h.elim | skip
  rw [rep_int p1] at r1
  rw [rep_int p2] at r2
  split at h
  · rename_i hz
    exact opPowW pins s σ H _ _ v u Q I r1 r2 ⟨_, _, rfl, rfl, hz, post_here sr repI h⟩
  · exact h.elim
theorem opAny (o : Operator) : OpR X (binaryOp o) (rOp X.K o) := by
  cases o
  case Add => exact opAdd
  case Sub => exact opSub
  case Mult => exact opMul
  case FloorDiv => exact opFdiv
  case Mod => exact opMod
  case Pow => exact opPow
  all_goals
    intro pins s σ H x y v u Q I r1 r2 ⟨W, E, dx, dy, st, sr, hK, p1, p2, h⟩
    unfold opD at h
    split at h <;> first | contradiction | exact h.elim
end
end TM
set_option maxHeartbeats 1000000
/-! TM, part F: comparisons, truth, subscripts. -/
namespace TM
open PySem PySem.Spec PyProof.Rows L2
mutual
theorem py_Dp {W : Wo} {H : Hp} (st : Still W.F H) : ∀ {d : D} {v : V} {p : PyData}, Rep W d v → d.py = some p → Dp W.K H v p
  | .non, _, _, r, e => by
    simp only [D.py, Option.some.injEq] at e
    subst e
    rw [rep_non r]
    exact .non
  | .bl _, _, _, r, e => by
    simp only [D.py, Option.some.injEq] at e
    subst e
    rw [rep_bl r]
    exact .bl _
  | .int _, _, _, r, e => by
    simp only [D.py, Option.some.injEq] at e
    subst e
    rw [rep_int r]
    exact .int _
  | .str _, _, _, r, e => by
    simp only [D.py, Option.some.injEq] at e
    subst e
    rw [rep_str r]
    exact .str _
  | .tup ds, _, _, r, e => by
    simp only [D.py, Option.map_eq_some_iff] at e
    obtain ⟨ps, e, rfl⟩ := e
    simp only [Rep] at r
    obtain ⟨a, vs, rfl, h, q⟩ := r
    exact .tup (sqT_H st h) (py_DpL st q e)
  | .lst ds, _, _, r, e => by
    simp only [D.py, Option.map_eq_some_iff] at e
    obtain ⟨ps, e, rfl⟩ := e
    simp only [Rep] at r
    obtain ⟨a, vs, rfl, h, q⟩ := r
    exact .lst (.inl (rd_H st h)) (py_DpL st q e)
  | .dct _, _, _, _, e | .obj _ _, _, _, _, e | .loc _, _, _, _, e => by simp [D.py] at e
termination_by structural d => d
theorem py_DpL {W : Wo} {H : Hp} (st : Still W.F H) : ∀ {d : List D} {v : List V} {p : List PyData}, RepL W d v → D.pyL d = some p → DpAll W.K H v p
  | [], _, _, r, e => by
    simp only [D.pyL, Option.some.injEq] at e
    simp only [RepL] at r
    subst e r
    exact .nil
  | d :: ds, _, _, r, e => by
    simp only [D.pyL] at e
    simp only [RepL] at r
    obtain ⟨v, vs, rfl, h1, h2⟩ := r
    split at e
    · rename_i p ps e1 e2
      cases e
      exact .cons (py_Dp st h1 e1) (py_DpL st h2 e2)
    · cases e
termination_by structural d => d
end
theorem pyOf_Dp {W : Wo} {st : Store} {H : Hp} (s : SR W st H) {d : D} {v : V} {p : PyData} (r : Rep W d v) (e : pyOf d st = some p) : Dp W.K H v p := by
  cases d with
  | loc n =>
    simp only [pyOf] at e
    split at e
    · rename_i xs ec
      simp only [Option.map_eq_some_iff] at e
      obtain ⟨ps, e, rfl⟩ := e
      simp only [Rep] at r
      obtain ⟨a, ea, rfl⟩ := r
      obtain ⟨_, vs, h, q⟩ := s.lstCell ec ea
      exact .lst (.inl (.inl h)) (py_DpL s.still q e)
    · cases e
  | _ => exact py_Dp s.still r (by simpa [pyOf] using e)

/-- the reading of a comparison over trees -/
def rCmp (K : PySem.W.Frag) (o : CmpOp) : R2 := fun x y H Q => ∃ W dx dy st b, SR W st H ∧ W.K = K ∧ Rep W dx x ∧ Rep W dy y ∧ cmpD o dx dy st = some b ∧ Q (.bl b) H
section
variable {X : Cx}
theorem inStr {z w : Str} {b : Bool} (h : (some (!(Builtin.Str.occurrences z w 0 z.length 1).isEmpty)) = some b) : b = !(Builtin.Str.occurrences z w 0 z.length 1).isEmpty := (Option.some.inj h).symm
theorem cmpIn (hu : X.A.units + 1 < cLine) {pins : List (Addr × Obj)} {s : Shared} {σ : Sg} {H : Hp} {x y : V} {v u : Value} {Q : VK} (I : Inv X pins σ H s) (r1 : RelV x v) (r2 : RelV y u)
    {W : Wo} {dx dy : D} {st : Store} {b : Bool} (sr : SR W st H) (hK : W.K = X.K) (p1 : Rep W dx x) (p2 : Rep W dy y) (h : inRes dx dy st = some b) :
    (Q (.bl b) H → wpAny (model X.prog X.w) X.A (compareOp .In v u) (EP X pins σ Q) X.xe s) ∧ (Q (.bl (!b)) H → wpAny (model X.prog X.w) X.A (compareOp .NotIn v u) (EP X pins σ Q) X.xe s) := by
  have str : ∀ z, dy = .str z → (Q (.bl b) H → wpAny (model X.prog X.w) X.A (compareOp .In v u) (EP X pins σ Q) X.xe s) ∧ (Q (.bl (!b)) H → wpAny (model X.prog X.w) X.A (compareOp .NotIn v u) (EP X pins σ Q) X.xe s) := by
    intro z e
    subst e
    unfold inRes at h
    cases dx with
    | str w =>
      simp only [Option.some.injEq] at h
      rw [rep_str p1] at r1
      rw [rep_str p2] at r2
      exact ⟨fun q => op_in_str pins s σ H _ _ v u Q I r1 r2 ⟨_, _, rfl, rfl, by rw [h]; exact q⟩, fun q => op_notIn_str pins s σ H _ _ v u Q I r1 r2 ⟨_, _, rfl, rfl, by rw [h]; exact q⟩⟩
    | _ => simp at h
  by_cases hs : ∃ z, dy = .str z
  · obtain ⟨z, e⟩ := hs
    exact str z e
  · have h' : (match asQ dy st with
      | some xs => if flatD dx && xs.all flatD then some (xs.any fun y => eqF y dx) else none
      | none => match asK dy st, keyOf dx with
        | some kvs, some k => some (getK kvs k).isSome
        | _, _ => none) = some b := by
      unfold inRes at h
      cases dy <;> first | exact h | exact absurd ⟨_, rfl⟩ hs
    split at h'
    · rename_i ds e
      split at h'
      · rename_i hf
        rw [Bool.and_eq_true] at hf
        cases h'
        obtain ⟨a, vs, rfl, hq, rq⟩ := asQ_V sr p2 e
        rw [hK] at hq
        have ei := inF_V p1 hf.1 rq hf.2
        have fx := flatD_V p1 hf.1
        have fl := flatL_V rq hf.2
        exact ⟨fun q => op_in_seq pins s σ H _ _ v u Q I r1 r2 ⟨a, vs, rfl, hq, fx, fl, by show Q (.bl (inV x vs)) H; rw [ei]; exact q⟩,
          fun q => op_notIn_seq pins s σ H _ _ v u Q I r1 r2 ⟨a, vs, rfl, hq, fx, fl, by show Q (.bl (!inV x vs)) H; rw [ei]; exact q⟩⟩
      · cases h'
    · split at h'
      · rename_i kvs k e1 e2
        cases h'
        obtain ⟨a, es, rfl, hd, rk⟩ := asK_V sr p2 e1
        have ek := keyOf_V p1 e2
        have g : DGet H a x (valV es k) := .inl ⟨es, k, hd, ek, rfl⟩
        have eo : (valV es k).isSome = (getK kvs k).isSome := by
          rcases rk.get k with ⟨z1, z2⟩ | ⟨d, w, z1, z2, _⟩ <;> rw [z1, z2] <;> rfl
        exact ⟨fun q => opInD hu pins s σ H _ _ v u Q I r1 r2 ⟨a, _, rfl, g, by rw [eo]; exact q⟩, fun q => opNotInD hu pins s σ H _ _ v u Q I r1 r2 ⟨a, _, rfl, g, by rw [eo]; exact q⟩⟩
      · cases h'
theorem eqRes_of {x y : D} {st : Store} {b : Bool} (h : eqRes x y st = some b) : ∃ p q, pyOf x st = some p ∧ pyOf y st = some q ∧ SeqAt.shaped p = true ∧ SeqAt.shaped q = true ∧ b = PyData.eqv p q := by
  unfold eqRes at h
  split at h
  · rename_i p q e1 e2
    split at h
    · rename_i hs
      rw [Bool.and_eq_true] at hs
      cases h
      exact ⟨p, q, e1, e2, hs.1, hs.2, rfl⟩
    · cases h
  · cases h
theorem cmpAny (hu : X.A.units + 64 < cLine) (o : CmpOp) : OpR X (compareOp o) (rCmp X.K o) := by
  intro pins s σ H x y v u Q I r1 r2 ⟨W, dx, dy, st, b, sr, hK, p1, p2, h, q⟩
  unfold cmpD at h
  split at h
  · cases h
    rw [rep_str p1] at r1
    rw [rep_str p2] at r2
    refine op_eq pins s σ H _ _ v u Q I r1 r2 ⟨rfl, ?_⟩
    rename_i a b
    rw [show decide (V.str a = V.str b) = decide (a = b) from decide_eq_decide.mpr ⟨fun z => V.str.inj z, fun z => congrArg V.str z⟩]
    exact q
  · cases h
    rw [rep_str p1] at r1
    rw [rep_str p2] at r2
    refine op_ne pins s σ H _ _ v u Q I r1 r2 ⟨rfl, ?_⟩
    rename_i a b
    rw [show decide (V.str a = V.str b) = decide (a = b) from decide_eq_decide.mpr ⟨fun z => V.str.inj z, fun z => congrArg V.str z⟩]
    exact q
  · obtain ⟨p, p', e1, e2, s1, s2, rfl⟩ := eqRes_of h
    have d1 := pyOf_Dp sr p1 e1
    have d2 := pyOf_Dp sr p2 e2
    rw [hK] at d1 d2
    exact op_eqD hu pins s σ H _ _ v u Q I r1 r2 ⟨_, _, d1, d2, s1, s2, q⟩
  · rw [Option.map_eq_some_iff] at h
    obtain ⟨b', h, rfl⟩ := h
    obtain ⟨p, p', e1, e2, s1, s2, rfl⟩ := eqRes_of h
    have d1 := pyOf_Dp sr p1 e1
    have d2 := pyOf_Dp sr p2 e2
    rw [hK] at d1 d2
    exact op_neD hu pins s σ H _ _ v u Q I r1 r2 ⟨_, _, d1, d2, s1, s2, q⟩
  · cases h
    rw [rep_int p1] at r1
    rw [rep_int p2] at r2
    exact op_lt pins s σ H _ _ v u Q I r1 r2 ⟨_, _, rfl, rfl, q⟩
  · cases h
    rw [rep_int p1] at r1
    rw [rep_int p2] at r2
    exact op_le pins s σ H _ _ v u Q I r1 r2 ⟨_, _, rfl, rfl, q⟩
  · cases h
    rw [rep_int p1] at r1
    rw [rep_int p2] at r2
    exact op_gt pins s σ H _ _ v u Q I r1 r2 ⟨_, _, rfl, rfl, q⟩
  · cases h
    rw [rep_int p1] at r1
    rw [rep_int p2] at r2
    exact op_ge pins s σ H _ _ v u Q I r1 r2 ⟨_, _, rfl, rfl, q⟩
  · cases h
    rw [rep_str p1] at r1
    rw [rep_str p2] at r2
    exact op_lt_str pins s σ H _ _ v u Q I r1 r2 ⟨_, _, rfl, rfl, q⟩
  · cases h
    rw [rep_str p1] at r1
    rw [rep_str p2] at r2
    exact op_le_str pins s σ H _ _ v u Q I r1 r2 ⟨_, _, rfl, rfl, q⟩
  · cases h
    rw [rep_str p1] at r1
    rw [rep_str p2] at r2
    exact op_gt_str pins s σ H _ _ v u Q I r1 r2 ⟨_, _, rfl, rfl, q⟩
  · cases h
    rw [rep_str p1] at r1
    rw [rep_str p2] at r2
    exact op_ge_str pins s σ H _ _ v u Q I r1 r2 ⟨_, _, rfl, rfl, q⟩
  · cases h
    rw [rep_non p2] at r2
    refine op_isN pins s σ H _ _ v u Q I r1 r2 ⟨rfl, ?_⟩
    have e : decide (x = .non) = decide (dx = .non) := by
      cases dx <;> simp only [Rep] at p1
      all_goals first | (subst p1; simp) | (obtain ⟨a, _, rfl, _⟩ := p1; simp) | (obtain ⟨a, _, _, rfl, _⟩ := p1; simp) | (obtain ⟨a, _, rfl⟩ := p1; simp)
    rw [e]
    exact q
  · cases h
    rw [rep_non p2] at r2
    refine op_notN pins s σ H _ _ v u Q I r1 r2 ⟨rfl, ?_⟩
    have e : decide (x = .non) = decide (dx = .non) := by
      cases dx <;> simp only [Rep] at p1
      all_goals first | (subst p1; simp) | (obtain ⟨a, _, rfl, _⟩ := p1; simp) | (obtain ⟨a, _, _, rfl, _⟩ := p1; simp) | (obtain ⟨a, _, rfl⟩ := p1; simp)
    rw [e]
    exact q
  · exact (cmpIn (by omega) I r1 r2 sr hK p1 p2 h).1 q
  · rw [Option.map_eq_some_iff] at h
    obtain ⟨b', h, rfl⟩ := h
    exact (cmpIn (by omega) I r1 r2 sr hK p1 p2 h).2 q
  · cases h

/-! ### truth -/
theorem truth_V {W : Wo} {st : Store} {H : Hp} (sr : SR W st H) {d : D} {v : V} {b : Bool} (r : Rep W d v) (e : truth d st = some b) : TruV W.K v H b := by
  cases d with
  | non =>
    cases e
    rw [rep_non r]
    exact rfl
  | bl k =>
    cases e
    rw [rep_bl r]
    exact rfl
  | int k =>
    cases e
    rw [rep_int r]
    exact rfl
  | str k =>
    simp only [truth] at e
    split at e
    · rename_i hz
      cases e
      rw [rep_str r]
      exact ⟨hz, rfl⟩
    · cases e
  | tup ds =>
    cases e
    obtain ⟨a, vs, rfl, h, q⟩ := asT_V sr r
    refine .inr (.inl ⟨vs, h, ?_⟩)
    cases ds <;> simp only [RepL] at q
    · rw [q]
      rfl
    · obtain ⟨_, _, rfl, _⟩ := q
      rfl
  | lst ds =>
    cases e
    obtain ⟨a, vs, rfl, h, q⟩ := asL_V sr r (xs := ds) rfl
    refine .inl ⟨vs, .inl h, ?_⟩
    cases ds <;> simp only [RepL] at q
    · rw [q]
      rfl
    · obtain ⟨_, _, rfl, _⟩ := q
      rfl
  | loc n =>
    simp only [truth] at e
    split at e
    · rename_i ds ec
      cases e
      simp only [Rep] at r
      obtain ⟨a, ea, rfl⟩ := r
      obtain ⟨_, vs, h, q⟩ := sr.lstCell ec ea
      refine .inl ⟨vs, .inl (.inl h), ?_⟩
      cases ds <;> simp only [RepL] at q
      · rw [q]
        rfl
      · obtain ⟨_, _, rfl, _⟩ := q
        rfl
    · cases e
  | _ => cases e

/-! ### subscripts -/
theorem atI_L {W : Wo} {ds : List D} {vs : List V} {i : Int} {d : D} (h : RepL W ds vs) (e : atI ds i = some d) : ∃ v, atI vs i = some v ∧ Rep W d v := by
  unfold atI at e ⊢
  rw [Option.bind_eq_some_iff] at e
  obtain ⟨j, e1, e2⟩ := e
  obtain ⟨v, q1, q2⟩ := h.get e2
  rw [h.length, e1]
  exact ⟨v, q1, q2⟩
/-- the reading of a subscription -/
def rIxT' (K : PySem.W.Frag) : R2 := fun x y H Q => ∃ W dx dy st d, SR W st H ∧ W.K = K ∧ Rep W dx x ∧ Rep W dy y ∧ idxD dx dy st = some d ∧ ∀ v, Rep W d v → Q v H
theorem ixAny (hu : X.A.units + 1 < cLine) : IxR X (rIxT' X.K) := by
  intro value slice pins s σ H x y v u Q I r1 r2 ⟨W, dx, dy, st, d, sr, hK, p1, p2, h, q⟩ hs
  unfold idxD at h
  split at h
  · split at h
    · rename_i hz
      rw [Option.map_eq_some_iff] at h
      obtain ⟨c, h, rfl⟩ := h
      rw [rep_str p1] at r1
      rw [rep_int p2] at r2
      exact ix_str value slice pins s σ H _ _ v u Q I r1 r2 ⟨_, _, c, rfl, rfl, hz, h, q _ repS⟩ hs
    · cases h
  · obtain ⟨a, vs, rfl, hq, rq⟩ := asT_V sr p1
    rw [rep_int p2] at r2
    obtain ⟨w, e1, e2⟩ := atI_L rq h
    rw [hK] at hq
    exact ix_tup value slice pins s σ H _ _ v u Q I r1 r2 ⟨a, vs, _, w, rfl, rfl, hq, e1, q _ e2⟩ hs
  · split at h
    · rename_i e1 _ _
      obtain ⟨a, vs, rfl, hq, rq⟩ := asL_V sr p1 e1
      rw [rep_int p2] at r2
      obtain ⟨w, e1, e2⟩ := atI_L rq h
      exact ix_list value slice pins s σ H _ _ v u Q I r1 r2 ⟨a, vs, _, w, rfl, rfl, .inl hq, e1, q _ e2⟩ hs
    · cases h
    · split at h
      · rename_i kvs k e1 e2
        obtain ⟨a, es, rfl, hd, rk⟩ := asK_V sr p1 e1
        have ek := keyOf_V p2 e2
        rcases rk.get k with ⟨z1, z2⟩ | ⟨d', w, z1, z2, rw'⟩
        · rw [z1] at h
          cases h
        · rw [z1] at h
          cases h
          exact ixD hu value slice pins s σ H _ _ v u Q I r1 r2 ⟨a, w, rfl, .inl ⟨es, k, hd, ek, z2.symm⟩, q _ rw'⟩ hs
      · cases h
end
end TM
set_option maxHeartbeats 1000000
/-! TM, part G: built-in functions and methods over trees. -/
namespace TM
open PySem PySem.Spec PyProof.Rows L2

/-! ### sorts have one answer -/
theorem cps_ext {a b : Str} (h : a.cps.toList = b.cps.toList) : a = b := by
  cases a
  cases b
  congr
  exact Array.toList_inj.mp h
theorem ordS_total (a b : Str) : (ordS a b || ordS b a) = true := by
  unfold ordS
  by_cases h : b.cps.toList < a.cps.toList
  · have h2 : ¬ a.cps.toList < b.cps.toList := fun z => List.lt_irrefl _ (List.lt_trans h z)
    rw [decide_eq_true h, decide_eq_false h2]
    rfl
  · rw [decide_eq_false h]
    rfl
theorem ordS_iff {a b : Str} : ordS a b = true ↔ a.cps.toList ≤ b.cps.toList := by
  unfold ordS
  rw [Bool.not_eq_true', decide_eq_false_iff_not]
  exact Iff.rfl
theorem ordS_trans (a b c : Str) (h : ordS a b = true) (h' : ordS b c = true) : ordS a c = true := ordS_iff.mpr (List.le_trans (ordS_iff.mp h) (ordS_iff.mp h'))
theorem ordS_anti {a b : Str} (h : ordS a b = true) (h' : ordS b a = true) : a = b := cps_ext (List.le_antisymm (ordS_iff.mp h) (ordS_iff.mp h'))
theorem rising_pair : ∀ (r : List Str) (p : Str), risingS p r = true → (p :: r).Pairwise (fun a b => ordS a b = true)
  | [], p, _ => List.pairwise_singleton _ _
  | x :: r, p, h => by
    simp only [risingS, Bool.and_eq_true] at h
    have hp : ordS p x = true := by
      have := h.1
      rw [ltCps_eq] at this
      exact this
    have ih := rising_pair r x h.2
    refine List.pairwise_cons.mpr ⟨fun y hy => ?_, ih⟩
    rcases List.mem_cons.mp hy with e | hy
    · subst e
      exact hp
    · exact ordS_trans _ _ _ hp ((List.pairwise_cons.mp ih).1 y hy)
theorem sorted_pair {ys : List Str} (h : sortedS ys = true) : ys.Pairwise (fun a b => ordS a b = true) := by
  cases ys with
  | nil => exact List.Pairwise.nil
  | cons x r => exact rising_pair r x h
theorem sortS_one {xs ys : List Str} (p : ys.Perm xs) (h : sortedS ys = true) : ys = sortS xs :=
  List.Perm.eq_of_pairwise (le := fun a b => ordS a b = true) (fun _ _ _ _ => ordS_anti) (sorted_pair h) (List.pairwise_mergeSort ordS_trans ordS_total xs) (p.trans (List.mergeSort_perm xs ordS).symm)
theorem sortI_one {xs ys : List Int} (p : ys.Perm xs) (h : ys.Pairwise (· ≤ ·)) : ys = sortI xs := by
  have q := List.pairwise_mergeSort (le := fun a b : Int => decide (a ≤ b)) (fun a b c h h' => by simp only [decide_eq_true_eq] at *; omega) (fun a b => by simp only [Bool.or_eq_true, decide_eq_true_eq]; omega) xs
  exact List.Perm.eq_of_pairwise (le := fun a b => a ≤ b) (fun _ _ _ _ h h' => Int.le_antisymm h h') h (q.imp fun h => of_decide_eq_true h) (p.trans (List.mergeSort_perm xs _).symm)
theorem fold_max : ∀ (r : List Int) (a : Int), (r.foldl (fun m x => if x > m then x else m) a ∈ a :: r) ∧ ∀ y ∈ a :: r, y ≤ r.foldl (fun m x => if x > m then x else m) a
  | [], a => ⟨List.mem_singleton.mpr rfl, fun y hy => by rw [List.mem_singleton.mp hy]; exact Int.le_refl _⟩
  | x :: r, a => by
    have ih := fold_max r (if x > a then x else a)
    rw [List.foldl_cons]
    have top := ih.2 _ List.mem_cons_self
    refine ⟨?_, fun y hy => ?_⟩
    · rcases List.mem_cons.mp ih.1 with h | h
      · rw [h]
        by_cases c : x > a
        · rw [if_pos c]
          exact List.mem_cons_of_mem _ List.mem_cons_self
        · rw [if_neg c]
          exact List.mem_cons_self
      · exact List.mem_cons_of_mem _ (List.mem_cons_of_mem _ h)
    · rcases List.mem_cons.mp hy with e | hy
      · subst e
        refine Int.le_trans ?_ top
        split <;> omega
      · rcases List.mem_cons.mp hy with e | hy
        · subst e
          refine Int.le_trans ?_ top
          split <;> omega
        · exact ih.2 y (List.mem_cons_of_mem _ hy)
theorem fold_min : ∀ (r : List Int) (a : Int), (r.foldl (fun m x => if x < m then x else m) a ∈ a :: r) ∧ ∀ y ∈ a :: r, r.foldl (fun m x => if x < m then x else m) a ≤ y
  | [], a => ⟨List.mem_singleton.mpr rfl, fun y hy => by rw [List.mem_singleton.mp hy]; exact Int.le_refl _⟩
  | x :: r, a => by
    have ih := fold_min r (if x < a then x else a)
    rw [List.foldl_cons]
    have top := ih.2 _ List.mem_cons_self
    refine ⟨?_, fun y hy => ?_⟩
    · rcases List.mem_cons.mp ih.1 with h | h
      · rw [h]
        by_cases c : x < a
        · rw [if_pos c]
          exact List.mem_cons_of_mem _ List.mem_cons_self
        · rw [if_neg c]
          exact List.mem_cons_self
      · exact List.mem_cons_of_mem _ (List.mem_cons_of_mem _ h)
    · rcases List.mem_cons.mp hy with e | hy
      · subst e
        refine Int.le_trans top ?_
        split <;> omega
      · rcases List.mem_cons.mp hy with e | hy
        · subst e
          refine Int.le_trans top ?_
          split <;> omega
        · exact ih.2 y (List.mem_cons_of_mem _ hy)

/-! ### what is read for repr -/
section
variable {X : Cx} {pins : List (Addr × Obj)} {σ : Sg} {H : Hp} {s : Shared}
theorem key_reads {h : Heap} {k : Key} {v : Value} (e : keyIs k v = true) : Reads h v (keyPy k) [] := by
  rcases keyIs_shape e with ⟨i, t, rfl, rfl⟩ | ⟨x, t, rfl, rfl⟩
  · exact Reads.int i t
  · exact Reads.str x t
mutual
theorem rep_reads (I : Inv X pins σ H s) (hm : H sysModules = none) {W : Wo} (hK : W.K = X.K) (st : Still W.F H) : ∀ {d : D} {v : V} {u : Value} {p : PyData}, Rep W d v → d.pyr = some p → RelV v u → ∃ as, Reads s.heap u p as ∧ sysModules ∉ as
  | .non, _, _, _, r, e, q => by
    simp only [D.pyr, Option.some.injEq] at e
    subst e
    rw [rep_non r] at q
    cases q
    exact ⟨_, Reads.none, by simp⟩
  | .bl _, _, _, _, r, e, q => by
    simp only [D.pyr, Option.some.injEq] at e
    subst e
    rw [rep_bl r] at q
    cases q
    exact ⟨_, Reads.bool _, by simp⟩
  | .int _, _, _, _, r, e, q => by
    simp only [D.pyr, Option.some.injEq] at e
    subst e
    rw [rep_int r] at q
    obtain ⟨t, rfl⟩ := q
    exact ⟨_, Reads.int _ t, by simp⟩
  | .str _, _, _, _, r, e, q => by
    simp only [D.pyr, Option.some.injEq] at e
    subst e
    rw [rep_str r] at q
    obtain ⟨t, rfl⟩ := q
    exact ⟨_, Reads.str _ t, by simp⟩
  | .tup ds, _, _, _, r, e, q => by
    simp only [D.pyr, Option.map_eq_some_iff] at e
    obtain ⟨ps, e, rfl⟩ := e
    simp only [Rep] at r
    obtain ⟨a, vs, rfl, h, q2⟩ := r
    cases q
    rw [hK] at h
    obtain ⟨its, rv, ⟨o, ho, hc, n, hd⟩, _⟩ := I.tuple (sqT_H st h)
    obtain ⟨as, h1, h2⟩ := rep_readsL I hm hK st q2 e rv
    exact ⟨_, Reads.tuple ho hc hd h1, h2⟩
  | .lst ds, _, _, _, r, e, q => by
    simp only [D.pyr, Option.map_eq_some_iff] at e
    obtain ⟨ps, e, rfl⟩ := e
    simp only [Rep] at r
    obtain ⟨a, vs, rfl, h, q2⟩ := r
    cases q
    have hr := rd_H st h
    obtain ⟨_, its, n, rv, ho⟩ := rdObj I hr
    obtain ⟨as, h1, h2⟩ := rep_readsL I hm hK st q2 e rv
    refine ⟨_, Reads.list ho rfl rfl h1, fun z => ?_⟩
    rcases List.mem_cons.mp z with z | z
    · rw [z] at hm
      rcases hr with hr | ⟨_, hr⟩ <;> rw [hm] at hr <;> cases hr
    · exact h2 z
  | .dct kvs, _, _, _, r, e, q => by
    simp only [D.pyr, Option.map_eq_some_iff] at e
    obtain ⟨ps, e, rfl⟩ := e
    simp only [Rep] at r
    obtain ⟨a, es, rfl, h, q2⟩ := r
    cases q
    obtain ⟨_, hs, vs, rk, o, ds, ep, ho, hx, hdat, _, hp, _⟩ := dk_rd I.hok (rdK_H st h)
    obtain ⟨bs, h1, h2, h3⟩ := rep_readsK I hm hK st q2 e rk hp
    refine ⟨_, Reads.dict ho hx.1 hdat h1 h2, fun z => ?_⟩
    rcases List.mem_append.mp z with z | z
    · rcases List.mem_cons.mp z with z | z
      · rw [← z] at hs
        simp at hs
      · cases z
    · exact h3 z
  | .obj _ _, _, _, _, _, e, _ | .loc _, _, _, _, _, e, _ => by simp [D.pyr] at e
termination_by structural d => d
theorem rep_readsL (I : Inv X pins σ H s) (hm : H sysModules = none) {W : Wo} (hK : W.K = X.K) (st : Still W.F H) : ∀ {d : List D} {v : List V} {u : List Value} {p : List PyData}, RepL W d v → D.pyrL d = some p → Vals v u → ∃ as, ReadsAll s.heap u p as ∧ sysModules ∉ as
  | [], _, _, _, r, e, q => by
    simp only [D.pyrL, Option.some.injEq] at e
    simp only [RepL] at r
    subst e r
    cases q
    exact ⟨_, ReadsAll.nil, by simp⟩
  | d :: ds, _, _, _, r, e, q => by
    simp only [D.pyrL] at e
    simp only [RepL] at r
    obtain ⟨v, vs, rfl, h1, h2⟩ := r
    split at e
    · rename_i p ps e1 e2
      cases e
      cases q with
      | cons q1 q2 =>
        obtain ⟨as, a1, a2⟩ := rep_reads I hm hK st h1 e1 q1
        obtain ⟨bs, b1, b2⟩ := rep_readsL I hm hK st h2 e2 q2
        exact ⟨_, ReadsAll.cons a1 b1, fun z => (List.mem_append.mp z).elim a2 b2⟩
    · cases e
termination_by structural d => d
theorem rep_readsK (I : Inv X pins σ H s) (hm : H sysModules = none) {W : Wo} (hK : W.K = X.K) (st : Still W.F H) : ∀ {d : List (Key × D)} {v : List (Key × V)} {u : List (Key × Value)} {p : List (PyData × PyData)} {es : List DictEntry}, RepK W d v → D.pyrK d = some p → KV v u → Pairs (mixKind X.prog X.w) es u →
    ∃ bs, ReadsAll s.heap (es.map (·.key)) (p.map (·.1)) [] ∧ ReadsAll s.heap (es.map (·.val)) (p.map (·.2)) bs ∧ sysModules ∉ bs
  | [], _, _, _, _, r, e, q, hp => by
    simp only [D.pyrK, Option.some.injEq] at e
    simp only [RepK] at r
    subst e r
    cases q
    cases hp
    exact ⟨_, ReadsAll.nil, ReadsAll.nil, by simp⟩
  | d :: ds, _, _, _, _, r, e, q, hp => by
    simp only [D.pyrK] at e
    simp only [RepK] at r
    obtain ⟨v, vs, rfl, h1, h2⟩ := r
    split at e
    · rename_i p ps e1 e2
      cases e
      cases q with
      | cons q1 q2 =>
        cases hp with
        | cons hk hv hp =>
          obtain ⟨as, a0, a1, a2⟩ := rep_readsKP I hm hK st h1 e1 q1.1 q1.2 hk
          obtain ⟨bs, b0, b1, b2⟩ := rep_readsK I hm hK st h2 e2 q2 hp
          refine ⟨_, ReadsAll.cons a0 b0, ReadsAll.cons (by dsimp only; rw [hv]; exact a1) b1, fun z => (List.mem_append.mp z).elim a2 b2⟩
    · cases e
termination_by structural d => d
theorem rep_readsKP (I : Inv X pins σ H s) (hm : H sysModules = none) {W : Wo} (hK : W.K = X.K) (st : Still W.F H) : ∀ {d : Key × D} {v : Key × V} {k : Key} {u : Value} {p : PyData × PyData} {ku : Value}, RepKP W d v → D.pyrKP d = some p → v.1 = k → RelV v.2 u → keyIs k ku = true →
    ∃ bs, Reads s.heap ku p.1 [] ∧ Reads s.heap u p.2 bs ∧ sysModules ∉ bs
  | (k, d), _, _, _, _, _, r, e, ek, q, hk => by
    simp only [D.pyrKP] at e
    simp only [RepKP] at r
    split at e
    · rename_i p e1
      cases e
      obtain ⟨as, a1, a2⟩ := rep_reads I hm hK st r.2 e1 q
      rw [← ek, ← r.1] at hk
      exact ⟨as, key_reads hk, a1, a2⟩
    · cases e
termination_by structural d => d
end
theorem repOf_reads (I : Inv X pins σ H s) (hm : H sysModules = none) {W : Wo} {st : Store} (hK : W.K = X.K) (sr : SR W st H) {d : D} {v : V} {u : Value} {p : PyData} (r : Rep W d v) (e : pyrOf d st = some p) (q : RelV v u) : ∃ as, Reads s.heap u p as ∧ sysModules ∉ as := by
  cases d with
  | loc n =>
    simp only [pyrOf] at e
    split at e
    · rename_i xs ec
      simp only [Option.map_eq_some_iff] at e
      obtain ⟨ps, e, rfl⟩ := e
      simp only [Rep] at r
      obtain ⟨a, ea, rfl⟩ := r
      cases q
      obtain ⟨_, vs, h, q2⟩ := sr.lstCell ec ea
      obtain ⟨_, its, n, rv, ho⟩ := rdObj I (.inl h)
      obtain ⟨as, h1, h2⟩ := rep_readsL I hm hK sr.still q2 e rv
      refine ⟨_, Reads.list ho rfl rfl h1, fun z => ?_⟩
      rcases List.mem_cons.mp z with z | z
      · rw [z, h] at hm
        cases hm
      · exact h2 z
    · cases e
  | _ => exact rep_reads I hm hK sr.still r (by simpa [pyrOf] using e) q
/-- repr -/
theorem call_repr (hg : X.A.guards = some []) (hu : X.A.units + 64 < cLine) (hsm : ∃ o, X.base.get? sysModules = some o) : CallR X (.builtin "repr") (fun xs H Q => ∃ W d v st x, xs = [v] ∧ SR W st H ∧ W.K = X.K ∧ Rep W d v ∧ D.reprD d st = some x ∧ Q (.str x) H) := by
  intro pins s σ H xs us Q I r ⟨W, d, v, st, x, e, sr, hK, rp, hx, q⟩
  subst e
  obtain ⟨u, rfl, ru⟩ := vals1 r
  obtain ⟨so, hso⟩ := hsm
  have hm : H sysModules = none := (I.bs _ _ hso).2
  unfold D.reprD at hx
  rw [Option.bind_eq_some_iff] at hx
  obtain ⟨p, ep, hx⟩ := hx
  split at hx
  · rename_i hc
    simp only [Bool.and_eq_true, decide_eq_true_eq] at hc
    obtain ⟨⟨hz, hsh⟩, hdp⟩ := hc
    cases hx
    obtain ⟨as, rd, hn⟩ := repOf_reads I hm hK sr rp ep ru
    have fin : ∀ (h' : Heap) (t tk : Tok), (∀ b o, s.heap.get? b = some o → h'.get? b = some o) → EP X pins σ Q (.str p.shown t) { s with heap := h', toks := tk } := fun h' t tk k => ⟨.str p.shown, H, I.kept (t' := tk) k, ⟨_, rfl⟩, q⟩
    cases rd with
    | none => exact PySem.P.repr_of_none (fin s.heap _ _ fun _ _ e => e)
    | bool b =>
      have := fin s.heap s.toks (s.toks + 1) fun _ _ e => e
      simp only [PyData.shown] at this
      exact PySem.P.repr_of_bool this
    | int i t =>
      have := fin s.heap s.toks (s.toks + 1) fun _ _ e => e
      simp only [PyData.shown] at this
      simp only [PyData.showable, decide_eq_true_eq] at hsh
      exact PySem.P.repr_of_int hsh this
    | str y t =>
      have := fin s.heap s.toks (s.toks + 1) fun _ _ e => e
      simp only [PyData.shown] at this hz
      exact PySem.P.repr_of_str this hz
    | list a1 a2 a3 a4 => exact repr_of_reads' (Reads.list a1 a2 a3 a4) hsh (fun _ => hn) hg (by omega) (fun _ _ e => e) (fun h' t tk k => fin h' t tk k) hz
    | tuple a1 a2 a3 a4 => exact repr_of_reads' (Reads.tuple a1 a2 a3 a4) hsh (fun _ => hn) hg (by omega) (fun _ _ e => e) (fun h' t tk k => fin h' t tk k) hz
    | dict a1 a2 a3 a4 a5 => exact repr_of_reads' (Reads.dict a1 a2 a3 a4 a5) hsh (fun _ => hn) hg (by omega) (fun _ _ e => e) (fun h' t tk k => fin h' t tk k) hz
  · cases hx
end
end TM
set_option maxHeartbeats 1000000
/-! TM, part H: built-in functions and methods over trees. -/
namespace TM
open PySem PySem.Spec PyProof.Rows L2
/-- where a body runs -/
structure Cok (n : Nat) (X : Cx) : Prop where
  calm : X.calm = true
  nd : X.N.Nodup
  room : Room n X.A
  grd : X.A.guards = some []
  sm : ∃ o, X.base.get? sysModules = some o
theorem Cok.u64 {n : Nat} {X : Cx} (h : Cok n X) : X.A.units + 64 < cLine := h.room.units
def biVal : Bi → Value
  | .len => .builtin "len" | .str => .type "str" | .int => .type "int" | .sorted => .builtin "sorted" | .max => .builtin "max" | .min => .builtin "min" | .sum => .builtin "sum" | .any => .builtin "any"
  | .all => .builtin "all" | .list => .type "list" | .tuple => .type "tuple" | .dict => .type "dict" | .repr => .builtin "repr" | .abs => .builtin "abs" | .ord => .builtin "ord" | .chr => .builtin "chr" | .bool => .type "bool"
def rBi (K : PySem.W.Frag) (b : Bi) : List V → Hp → VK → Prop := fun vs H Q => ∃ W E ds st, SR W st H ∧ W.K = K ∧ RepL W ds vs ∧ Post W E (biD b ds st) Q
section
variable {X : Cx}
theorem repL1 {W : Wo} {d : D} {vs : List V} (h : RepL W [d] vs) : ∃ v, vs = [v] ∧ Rep W d v := by
  simp only [RepL] at h
  obtain ⟨v, r, rfl, h1, rfl⟩ := h
  exact ⟨v, rfl, h1⟩
theorem repL2 {W : Wo} {d e : D} {vs : List V} (h : RepL W [d, e] vs) : ∃ v u, vs = [v, u] ∧ Rep W d v ∧ Rep W e u := by
  simp only [RepL] at h
  obtain ⟨v, r, rfl, h1, u, r', rfl, h2, rfl⟩ := h
  exact ⟨v, u, rfl, h1, h2⟩
theorem lenRd : CallR X (.builtin "len") (fun xs H Q => ∃ a kvs, xs = [V.ref a] ∧ Rd H a (.dK kvs) ∧ Q (.int kvs.length) H) := by
  intro pins s σ H xs us Q I r ⟨a, kvs, e, h, q⟩
  subst e
  obtain ⟨u, rfl, ru⟩ := vals1 r
  obtain rfl : u = Value.ref a := ru
  exact d_len I h fun t s' J => ⟨.int kvs.length, H, J, ⟨t, rfl⟩, q⟩
theorem inrs_of : ∀ {ks : List Key} {xs : List Str}, inrs ks = some xs → ks = xs.map Sum.inr
  | [], _, e => by
    cases e
    rfl
  | .inr x :: r, _, e => by
    simp only [inrs, Option.map_eq_some_iff] at e
    obtain ⟨ys, e, rfl⟩ := e
    rw [inrs_of e]
    rfl
  | .inl _ :: _, _, e => by simp [inrs] at e
theorem pairs_rep {W : Wo} {st : Store} {H : Hp} (sr : SR W st H) : ∀ {ds : List D} {vs : List V} {kvs : List (Key × D)}, RepL W ds vs → pairsD ds = some kvs →
    ∃ (ps : List Addr) (es : List (Key × V)), vs = ps.map V.ref ∧ Paired (fun p kv => SqT W.K H p [kV kv.1, kv.2]) ps es ∧ RepK W kvs es
  | [], _, _, h, e => by
    simp only [RepL] at h
    cases e
    subst h
    exact ⟨[], [], rfl, .nil, .nil⟩
  | d :: r, vs, kvs, h, e => by
    simp only [RepL] at h
    obtain ⟨v, vr, rfl, h1, h2⟩ := h
    unfold pairsD at e
    split at e
    · rename_i e0
      cases e0
    · rename_i e0
      cases e0
      split at e
      · rename_i k kr e1 e2
        cases e
        obtain ⟨ps, es, rfl, p1, p2⟩ := pairs_rep sr h2 e2
        obtain ⟨a, ws, rfl, hq, rq⟩ := asT_V sr h1
        obtain ⟨x, y, rfl, rx, ry⟩ := repL2 rq
        rw [keyOf_V rx e1] at hq
        exact ⟨a :: ps, (k, y) :: es, rfl, .cons hq p1, .cons ry p2⟩
      · cases e
    · cases e
theorem sortedAny {n : Nat} (c : Cok n X) {pins : List (Addr × Obj)} {s : Shared} {σ : Sg} {H : Hp} {vs : List V} {us : List Value} {Q : VK} (I : Inv X pins σ H s) (rv : Vals vs us)
    {W : Wo} {E : XK} {d x : D} {st : Store} (sr : SR W st H) (hK : W.K = X.K) (rp : RepL W [d] vs) (h : sortedD d st = some x) (q : Post W E (.ok x st) Q) : wpAny (model X.prog X.w) X.A (call (.builtin "sorted") us) (EP X pins σ Q) X.xe s := by
  obtain ⟨v, rfl, r⟩ := repL1 rp
  unfold sortedD at h
  split at h
  · rename_i kvs e1
    obtain ⟨a, es, rfl, hd, rk⟩ := asK_V sr r e1
    split at h
    · rename_i ks e2
      split at h
      · rename_i hz
        cases h
        refine call_sortedD c.calm pins s σ H _ us Q I rv ⟨a, es, ks, rfl, hd, by rw [rk.keys, inrs_of e2], hz, fun ys p pm so hp => ?_⟩
        rw [sortS_one pm so]
        exact post_lst sr (.of_strs _) q p hp
      · cases h
    · cases h
  · split at h
    · rename_i xs e1
      obtain ⟨a, ws, rfl, hq, rq⟩ := asL_V sr r e1
      split at h
      · rename_i ss e2
        have ew := rq.strs e2
        subst ew
        split at h
        · rename_i hz
          cases h
          refine cr_sortedS pins s σ H _ us Q I rv ⟨a, ss, rfl, .inl hq, hz, fun ys p pm so hp => ?_⟩
          rw [sortS_one pm so]
          exact post_lst sr (.of_strs _) q p hp
        · cases h
      · split at h
        · rename_i ns e2
          have ew := rq.ints e2
          subst ew
          split at h
          · rename_i hz
            cases h
            refine cr_sorted pins s σ H _ us Q I rv ⟨a, ns, rfl, .inl hq, hz, fun ys p pm so hp => ?_⟩
            rw [sortI_one pm so]
            exact post_lst sr (.of_ints _) q p hp
          · cases h
        · cases h
    · cases h
theorem tup_is {pins : List (Addr × Obj)} {s : Shared} {σ : Sg} {H : Hp} (I : Inv X pins σ H s) {W : Wo} {st : Store} (sr : SR W st H) {d : D} {a : Addr} {xs : List D} {ws : List V} (r : Rep W d (.ref a)) (e : asQ d st = some xs) (hq : SqT X.K H a ws) : d = .tup xs := by
  have no : ∀ {ys : List D}, asL d st = some ys → False := fun {ys} e => by
    obtain ⟨b, w2, e2, hq2, _⟩ := asL_V sr r e
    cases e2
    obtain ⟨_, its, n1, _, g1⟩ := rdObj I hq2
    obtain ⟨_, _, ⟨o, g2, g3, _⟩, _⟩ := I.tuple hq
    rw [g1] at g2
    cases g2
    simp at g3
  cases d with
  | tup ys =>
    simp only [asQ, Option.some.injEq] at e
    rw [e]
  | _ => exact (no (ys := xs) (by simpa [asQ] using e)).elim
theorem biAny {n : Nat} (c : Cok n X) (b : Bi) : CallR X (biVal b) (rBi X.K b) := by
  intro pins s σ H vs us Q I rv ⟨W, E, ds, st, sr, hK, rp, h⟩
  unfold biD at h
  split at h <;> simp only [biVal]
  · obtain ⟨v, rfl, r⟩ := repL1 rp
    rw [rep_str r] at rv
    split at h
    · rename_i hz
      exact call_len_str pins s σ H _ us Q I rv ⟨_, rfl, hz, post_here sr repI h⟩
    · exact h.elim
  · obtain ⟨v, rfl, r⟩ := repL1 rp
    split at h
    · rename_i xs e
      obtain ⟨a, ws, rfl, hq, rq⟩ := asQ_V sr r e
      rw [hK] at hq
      refine call_len_seq pins s σ H _ us Q I rv ⟨a, ws, rfl, hq, ?_⟩
      rw [rq.length]
      exact post_here sr repI h
    · split at h
      · rename_i kvs e
        obtain ⟨a, es, rfl, hd, rk⟩ := asK_V sr r e
        refine lenRd pins s σ H _ us Q I rv ⟨a, es, rfl, hd, ?_⟩
        rw [rk.length]
        exact post_here sr repI h
      · exact h.elim
  · obtain ⟨v, rfl, r⟩ := repL1 rp
    rw [rep_int r] at rv
    split at h
    · rename_i hz
      exact call_str_int pins s σ H _ us Q I rv ⟨_, rfl, hz, post_here sr repS h⟩
    · exact h.elim
  · obtain ⟨v, rfl, r⟩ := repL1 rp
    rw [rep_str r] at rv
    obtain ⟨u, rfl, t, rfl⟩ := vals1 rv
    exact PySem.P.str_of_str ⟨.str _, H, I, ⟨t, rfl⟩, post_here sr repS h⟩
  · obtain ⟨v, rfl, r⟩ := repL1 rp
    rw [rep_int r] at rv
    exact call_int1 pins s σ H _ us Q I rv (.inl ⟨_, rfl, post_here sr repI h⟩)
  · obtain ⟨v, rfl, r⟩ := repL1 rp
    rw [rep_bl r] at rv
    exact call_int1 pins s σ H _ us Q I rv (.inr ⟨_, rfl, post_here sr repI h⟩)
  · obtain ⟨v, rfl, r⟩ := repL1 rp
    rw [rep_str r] at rv
    split at h
    · rename_i hz
      split at h
      · rename_i m e
        exact call_int_str pins s σ H _ us Q I rv ⟨_, _, rfl, e, hz, post_here sr repI h⟩
      · exact h.elim
    · exact h.elim
  · rename_i d
    cases e : sortedD d st with
    | none =>
      rw [e] at h
      exact h.elim
    | some x =>
      rw [e] at h
      exact sortedAny c I rv sr hK rp e h
  · obtain ⟨v, u, rfl, r1, r2⟩ := repL2 rp
    rw [rep_int r1, rep_int r2] at rv
    exact call_max2 c.calm pins s σ H _ us Q I rv ⟨_, _, rfl, post_here sr repI h⟩
  · obtain ⟨v, u, rfl, r1, r2⟩ := repL2 rp
    rw [rep_int r1, rep_int r2] at rv
    exact call_min2 c.calm pins s σ H _ us Q I rv ⟨_, _, rfl, post_here sr repI h⟩
  · obtain ⟨v, rfl, r⟩ := repL1 rp
    split at h
    · rename_i ns e
      rw [Option.bind_eq_some_iff] at e
      obtain ⟨xs, e1, e2⟩ := e
      obtain ⟨a, ws, rfl, hq, rq⟩ := asL_V sr r e1
      have ew := rq.ints e2
      subst ew
      cases ns with
      | nil => exact h.elim
      | cons m r =>
        refine cr_max c.calm pins s σ H _ us Q I rv ⟨a, m :: r, rfl, .inl hq, Nat.zero_lt_succ _, fun k hk hle => ?_⟩
        have f := fold_max r m
        have ek : k = r.foldl (fun m x => if x > m then x else m) m := Int.le_antisymm (f.2 k hk) (hle _ f.1)
        rw [ek]
        exact post_here sr repI h
    · exact h.elim
  · obtain ⟨v, rfl, r⟩ := repL1 rp
    split at h
    · rename_i ns e
      rw [Option.bind_eq_some_iff] at e
      obtain ⟨xs, e1, e2⟩ := e
      obtain ⟨a, ws, rfl, hq, rq⟩ := asL_V sr r e1
      have ew := rq.ints e2
      subst ew
      cases ns with
      | nil => exact h.elim
      | cons m r =>
        refine cr_min c.calm pins s σ H _ us Q I rv ⟨a, m :: r, rfl, .inl hq, Nat.zero_lt_succ _, fun k hk hle => ?_⟩
        have f := fold_min r m
        have ek : k = r.foldl (fun m x => if x < m then x else m) m := Int.le_antisymm (hle _ f.1) (f.2 k hk)
        rw [ek]
        exact post_here sr repI h
    · exact h.elim
  · obtain ⟨v, rfl, r⟩ := repL1 rp
    split at h
    · rename_i ns e
      rw [Option.bind_eq_some_iff] at e
      obtain ⟨xs, e1, e2⟩ := e
      obtain ⟨a, ws, rfl, hq, rq⟩ := asL_V sr r e1
      have ew := rq.ints e2
      subst ew
      exact cr_sum c.calm pins s σ H _ us Q I rv ⟨a, ns, rfl, .inl hq, post_here sr repI h⟩
    · exact h.elim
  · obtain ⟨v, rfl, r⟩ := repL1 rp
    split at h
    · rename_i ns e
      rw [Option.bind_eq_some_iff] at e
      obtain ⟨xs, e1, e2⟩ := e
      obtain ⟨a, ws, rfl, hq, rq⟩ := asL_V sr r e1
      have ew := rq.bls e2
      subst ew
      exact cr_any c.calm pins s σ H _ us Q I rv ⟨a, ns, rfl, .inl hq, post_here sr repB h⟩
    · exact h.elim
  · obtain ⟨v, rfl, r⟩ := repL1 rp
    split at h
    · rename_i ns e
      rw [Option.bind_eq_some_iff] at e
      obtain ⟨xs, e1, e2⟩ := e
      obtain ⟨a, ws, rfl, hq, rq⟩ := asL_V sr r e1
      have ew := rq.bls e2
      subst ew
      exact cr_all c.calm pins s σ H _ us Q I rv ⟨a, ns, rfl, .inl hq, post_here sr repB h⟩
    · exact h.elim
  · obtain ⟨v, rfl, r⟩ := repL1 rp
    split at h
    · rename_i xs e
      obtain ⟨a, ws, rfl, hq, rq⟩ := asQ_V sr r e
      rw [hK] at hq
      exact call_list_of pins s σ H _ us Q I rv ⟨a, ws, rfl, hq, post_lst sr rq h⟩
    · split at h
      · rename_i kvs e
        obtain ⟨a, es, rfl, hd, rk⟩ := asK_V sr r e
        exact call_listD c.calm pins s σ H _ us Q I rv ⟨a, es, rfl, hd, post_lst sr rk.keysL h⟩
      · exact h.elim
  · obtain ⟨v, rfl, r⟩ := repL1 rp
    split at h
    · rename_i xs e
      obtain ⟨a, ws, rfl, hq, rq⟩ := asQ_V sr r e
      rw [hK] at hq
      refine call_tuple_of pins s σ H _ us Q I rv ⟨a, ws, rfl, ?_⟩
      rcases hq with hq | hq
      · exact .inl ⟨hq, post_tup sr rq h⟩
      · refine .inr ⟨hq, ?_⟩
        rw [tup_is I sr r e hq] at r
        exact post_here sr r h
    · exact h.elim
  · obtain ⟨v, rfl, r⟩ := repL1 rp
    split at h
    · rename_i kvs e
      obtain ⟨a, es, rfl, hd, rk⟩ := asK_V sr r e
      exact call_dictD pins s σ H _ us Q I rv ⟨a, es, rfl, hd, post_dct sr rk h⟩
    · split at h
      · rename_i kvs e
        rw [Option.bind_eq_some_iff] at e
        obtain ⟨xs, e1, e2⟩ := e
        obtain ⟨a, ws, rfl, hq, rq⟩ := asL_V sr r e1
        obtain ⟨ps, es, rfl, p1, p2⟩ := pairs_rep sr rq e2
        rw [hK] at p1
        exact call_dictP c.calm pins s σ H _ us Q I rv ⟨a, ps, es, rfl, .inl hq, p1, post_dct sr (RepK.merge kvs .nil p2) h⟩
      · exact h.elim
  · obtain ⟨v, rfl, r⟩ := repL1 rp
    rename_i d
    cases e : D.reprD d st with
    | none =>
      rw [e] at h
      exact h.elim
    | some x =>
      rw [e] at h
      exact call_repr c.grd c.u64 c.sm pins s σ H _ us Q I rv ⟨W, d, v, st, x, rfl, sr, hK, r, e, post_here sr repS h⟩
  · obtain ⟨v, rfl, r⟩ := repL1 rp
    rw [rep_int r] at rv
    exact call_abs pins s σ H _ us Q I rv ⟨_, rfl, post_here sr repI h⟩
  · exact h.elim
end
end TM
set_option maxHeartbeats 1000000
/-! TM, part I: readings of expressions. -/
namespace TM
open PySem PySem.Spec PyProof.Rows L2

/-! ### the form of a piece of syntax -/
def isStar : Expr → Bool
  | .Starred _ _ => true
  | _ => false
def isSet : Expr → Bool
  | .Set _ _ _ => true
  | _ => false
def isSlice : Expr → Bool
  | .Slice _ _ _ _ => true
  | _ => false
def isComp : Expr → Bool
  | .ListComp _ _ _ _ => true
  | .SetComp _ _ _ _ => true
  | .DictComp _ _ _ _ _ => true
  | _ => false
def isTupE : Expr → Bool
  | .Tuple _ _ _ => true
  | _ => false
def isLstE : Expr → Bool
  | .List _ _ => true
  | _ => false
/-- its truth is its value's -/
def byTruth : Expr → Bool
  | .UnaryOp .Not _ _ => false
  | .BoolOp _ _ _ => false
  | .IfExp _ _ _ _ => false
  | .Compare _ _ _ _ => false
  | _ => true
def noSuper : Expr → Bool
  | .Call (.Name _ _) [] [] _ => false
  | _ => true
theorem star_cons {e : Expr} {es : List Expr} {env : Env} (h : isStar e = false) : starEach (e :: es) env = (false, eval e env) :: starEach es env := by
  cases e <;> first | (simp [isStar] at h; done) | rfl
theorem star_none {env : Env} {pos : Pos} : ∀ {es : List Expr}, es.all (fun e => !isStar e) = true → (backTo pos (starEach es env)).any (·.1) = false
  | [], _ => rfl
  | e :: es, h => by
    rw [List.all_cons, Bool.and_eq_true, Bool.not_eq_true'] at h
    rw [star_cons h.1]
    have ih := star_none (env := env) (pos := pos) h.2
    unfold backTo at ih ⊢
    rw [List.map_cons, List.any_cons, ih]
    rfl
theorem mark_none {o : CmpOp} {e : Expr} (h : isSet e = false) : behindInMarks o e = false := by
  cases e <;> first | (simp [isSet] at h; done) | rfl
theorem sub_plain {e : Expr} (h : isSlice e = false) : PlainIx e := fun o i => by
  cases e <;> first | (simp [isSlice] at h; done) | rfl
theorem swap_none {e : Expr} {t : Option Expr} {l : Nat} {env : Env} (h : isComp e = false) : swapsWith e t l env = pure false := by
  cases e <;> first | (simp [isComp] at h; done) | rfl
theorem stores_none {t e : Expr} {env : Env} (h : isTupE e = false) : swappedStores [t] e env = pure none := by
  cases e <;> first | (simp [isTupE] at h; done) | (cases t <;> rfl)
theorem stores_none' {t e : Expr} {env : Env} (h : isTupE t = false) (h2 : isLstE t = false) : swappedStores [t] e env = pure none := by
  cases t <;> first | (simp [isTupE] at h; done) | (simp [isLstE] at h2; done) | (cases e <;> rfl)
theorem truth_plain {e : Expr} {env : Env} (h : byTruth e = true) (whole : Sem Value) : isTrue e env whole = (do let v ← whole; standAt e.pos; holding [v] (truthy v)) := by
  cases e with
  | UnaryOp o a p => cases o <;> first | (simp [byTruth] at h; done) | rfl
  | BoolOp _ _ _ => simp [byTruth] at h
  | IfExp _ _ _ _ => simp [byTruth] at h
  | Compare _ _ _ _ => simp [byTruth] at h
  | _ => rfl
theorem base_plain {e : Expr} {n : Str} {env : Env} (h : noSuper e = true) (whole : Sem Value) : attributeBase e n env whole = whole := by
  unfold attributeBase
  split
  · simp [noSuper] at h
  · rfl
theorem fold_plain {e : Expr} {env : Env} (h : isSet e = false) (x : Value) : foldedSetIterable e env x = pure x := by
  cases e <;> first | (simp [isSet] at h; done) | rfl

/-! ### readings by the evaluator -/
/-- the machine's result of an expression -/
abbrev Ev := Slots → Store → Res D
structure Bx where
  K : PySem.W.Frag
  CA : Nat → Addr
  E : XK
def tE (B : Bx) (ev : Ev) : TE := fun σ H Q => ∃ W sl st, W.K = B.K ∧ W.CA = B.CA ∧ SlR W sl σ ∧ SR W st H ∧ Post W B.E (ev sl st) Q
def PostB (W : Wo) (E : XK) (r : Res Bool) (Q : Bool → Hp → Prop) : Prop := match r with
  | .ok b st => ∀ W' H', Le W W' → SR W' st H' → Q b H'
  | .exc C fs st => PostX W E C fs st
  | .stuck => False
def tru (ev : Ev) : Slots → Store → Res Bool := fun sl st => (ev sl st).bind fun x st1 => ofO (truth x st1) st1
def tT (B : Bx) (ev : Ev) : TT := fun σ H Q => ∃ W sl st, W.K = B.K ∧ W.CA = B.CA ∧ SlR W sl σ ∧ SR W st H ∧ PostB W B.E (tru ev sl st) Q
def tA (B : Bx) (ev : Slots → Store → Res (List D)) : TA := fun σ H Q => ∃ W sl st, W.K = B.K ∧ W.CA = B.CA ∧ SlR W sl σ ∧ SR W st H ∧ PostL W B.E (ev sl st) Q
theorem PE.imp {X : Cx} {e : Expr} {t t' : TE} (h : PE X e t) (k : ∀ σ H Q, t' σ H Q → t σ H Q) : PE X e t' := ⟨fun pins s σ H Q I q => h.run pins s σ H Q I (k σ H Q q)⟩
theorem PT.imp {X : Cx} {e : Expr} {t t' : TT} (h : PT X e t) (k : ∀ σ H Q, t' σ H Q → t σ H Q) : PT X e t' := ⟨fun pins s σ H Q I q => h.run pins s σ H Q I (k σ H Q q)⟩
theorem PW.imp {X : Cx} {e : Expr} {t t' : TT} (h : PW X e t) (k : ∀ σ H Q, t' σ H Q → t σ H Q) : PW X e t' := ⟨fun w pins s σ H Q I q => h.run w pins s σ H Q I (k σ H Q q)⟩
theorem PA.imp {X : Cx} {e : List Expr} {t t' : TA} (h : PA X e t) (k : ∀ σ H Q, t' σ H Q → t σ H Q) : PA X e t' := ⟨fun p pins s σ H Q I q => h.run p pins s σ H Q I (k σ H Q q)⟩
/-- a first part, then the rest -/
theorem tE_then {B : Bx} {ev : Ev} {f : D → Store → Res D} {σ : Sg} {H : Hp} {Q G : VK} {W : Wo} {sl : Slots} {st : Store} (h1 : W.K = B.K) (h2 : W.CA = B.CA) (h3 : SlR W sl σ) (h4 : SR W st H) (h : Post W B.E ((ev sl st).bind f) Q)
    (k : ∀ d st1 W1 H1 v, W1.K = B.K → W1.CA = B.CA → SlR W1 sl σ → SR W1 st1 H1 → Rep W1 d v → Le W W1 → Post W1 B.E (f d st1) Q → G v H1) : tE B ev σ H G :=
  ⟨W, sl, st, h1, h2, h3, h4, post_bind h fun d st1 W1 H1 v l s r q => k d st1 W1 H1 v (l.K.trans h1) (l.CA.trans h2) (h3.mono l) s r l q⟩
theorem post_ofO {W : Wo} {E : XK} {o : Option D} {st : Store} {Q : VK} (h : Post W E (ofO o st) Q) : ∃ d, o = some d ∧ Post W E (.ok d st) Q := by
  cases o with
  | none => exact h.elim
  | some d => exact ⟨d, rfl, h⟩
section
variable {X : Cx} {B : Bx} {n : Nat} {a b c e : Expr} {pos : Pos} {eva evb evc : Ev}
theorem e_op (hK : B.K = X.K) (ha : PE X a (tE B eva)) (hb : PE X b (tE B evb)) (o : Operator) : PE X (.BinOp a o b pos) (tE B fun sl st => (eva sl st).bind fun x st1 => (evb sl st1).bind fun y st2 => opD o x y st2) := by
  refine PE.imp (pe_op (opAny o) ha hb) fun σ H Q ⟨W, sl, st, h1, h2, h3, h4, h5⟩ => ?_
  refine tE_then h1 h2 h3 h4 h5 fun x st1 W1 H1 v k1 k2 k3 k4 r1 l1 q1 => ?_
  refine tE_then k1 k2 k3 k4 q1 fun y st2 W2 H2 u m1 m2 m3 m4 r2 l2 q2 => ?_
  exact ⟨W2, B.E, x, y, st2, m4, m1.trans hK, r1.mono l2, r2, q2⟩
theorem e_neg (ha : PE X a (tE B eva)) : PE X (.UnaryOp .USub a pos) (tE B fun sl st => (eva sl st).bind fun x st1 => match x with | .int i => .ok (.int (-i)) st1 | _ => .stuck) := by
  refine PE.imp (pe_un un_neg ha) fun σ H Q ⟨W, sl, st, h1, h2, h3, h4, h5⟩ => ?_
  refine tE_then h1 h2 h3 h4 h5 fun x st1 W1 H1 v k1 k2 k3 k4 r1 l1 q1 => ?_
  cases x with
  | int i => exact ⟨i, rep_int r1, post_here k4 repI q1⟩
  | _ => exact q1.elim
theorem e_cmp (hK : B.K = X.K) (hu : X.A.units + 64 < cLine) (o : CmpOp) (hs : isSet b = false) (ha : PE X a (tE B eva)) (hb : PE X b (tE B evb)) : PE X (.Compare a [o] [b] pos) (tE B fun sl st => (eva sl st).bind fun x st1 => (evb sl st1).bind fun y st2 => ofO ((cmpD o x y st2).map .bl) st2) := by
  refine PE.imp (pe_cmpR (cmpAny hu o) ha hb (mark_none hs)) fun σ H Q ⟨W, sl, st, h1, h2, h3, h4, h5⟩ => ?_
  refine tE_then h1 h2 h3 h4 h5 fun x st1 W1 H1 v k1 k2 k3 k4 r1 l1 q1 => ?_
  refine tE_then k1 k2 k3 k4 q1 fun y st2 W2 H2 u m1 m2 m3 m4 r2 l2 q2 => ?_
  obtain ⟨d, e1, q3⟩ := post_ofO q2
  rw [Option.map_eq_some_iff] at e1
  obtain ⟨k, e1, rfl⟩ := e1
  exact ⟨W2, x, y, st2, k, m4, m1.trans hK, r1.mono l2, r2, e1, post_here m4 repB q3⟩
theorem tT_of {ev : Ev} {σ : Sg} {H : Hp} {Q : Bool → Hp → Prop} {W : Wo} {sl : Slots} {st : Store} (h1 : W.K = B.K) (h2 : W.CA = B.CA) (h3 : SlR W sl σ) (h4 : SR W st H) (h : PostB W B.E (tru ev sl st) Q) :
    tE B ev σ H fun x H1 => ∃ k, TruV B.K x H1 k ∧ Q k H1 := by
  refine ⟨W, sl, st, h1, h2, h3, h4, ?_⟩
  unfold tru at h
  cases hr : ev sl st with
  | ok d st1 =>
    rw [hr] at h
    intro W' H' v l s r
    rw [Res.bind_ok] at h
    cases ht : truth d st1 with
    | none =>
      rw [ht] at h
      exact h.elim
    | some k =>
      rw [ht] at h
      have := truth_V s r ht
      rw [l.K, h1] at this
      exact ⟨k, this, h W' H' l s⟩
  | exc C fs st1 =>
    rw [hr] at h
    exact h
  | stuck =>
    rw [hr] at h
    exact h
theorem t_plain (hK : B.K = X.K) (hb : byTruth a = true) (ha : PE X a (tE B eva)) : PT X a (tT B eva) := by
  refine PT.imp (pt_truth ha (truth_plain hb)) fun σ H Q ⟨W, sl, st, h1, h2, h3, h4, h5⟩ => ?_
  rw [← hK]
  exact tT_of h1 h2 h3 h4 h5
/-- where the value is a truth value -/
theorem tT_bl {ev : Ev} {Q : Bool → Hp → Prop} {W : Wo} {sl : Slots} {st : Store} (hb : ∀ d st', ev sl st = .ok d st' → ∃ k, d = D.bl k) (h : PostB W B.E (tru ev sl st) Q) : Post W B.E (ev sl st) fun x H1 => ∃ c, x = .bl c ∧ Q c H1 := by
  unfold tru at h
  cases hr : ev sl st with
  | ok d st1 =>
    rw [hr] at h
    obtain ⟨k, rfl⟩ := hb d st1 hr
    exact fun W' H' v l s r => ⟨k, rep_bl r, h W' H' l s⟩
  | exc C fs st1 =>
    rw [hr] at h
    exact h
  | stuck =>
    rw [hr] at h
    exact h
theorem bind_ok {α β : Type} {r : Res α} {f : α → Store → Res β} {d : β} {st' : Store} (h : r.bind f = .ok d st') : ∃ a st1, r = .ok a st1 ∧ f a st1 = .ok d st' := by
  cases r with
  | ok a st1 => exact ⟨a, st1, rfl, h⟩
  | exc C fs st1 => cases h
  | stuck => cases h
theorem ofO_bl {o : Option Bool} {st st' : Store} {d : D} (h : ofO (o.map D.bl) st = .ok d st') : ∃ k, d = D.bl k := by
  cases o with
  | none => cases h
  | some k =>
    cases h
    exact ⟨k, rfl⟩
theorem t_cmp (hK : B.K = X.K) (hu : X.A.units + 64 < cLine) (o : CmpOp) (hs : isSet b = false) (ha : PE X a (tE B eva)) (hb : PE X b (tE B evb)) : PT X (.Compare a [o] [b] pos) (tT B fun sl st => (eva sl st).bind fun x st1 => (evb sl st1).bind fun y st2 => ofO ((cmpD o x y st2).map D.bl) st2) := by
  refine PT.imp (pt_cmpR (cmpAny hu o) ha hb (mark_none hs)) fun σ H Q ⟨W, sl, st, h1, h2, h3, h4, h5⟩ => ?_
  have h6 := tT_bl (fun d st' e => by
    obtain ⟨_, _, _, e⟩ := bind_ok e
    obtain ⟨_, _, _, e⟩ := bind_ok e
    exact ofO_bl e) h5
  refine tE_then h1 h2 h3 h4 h6 fun x st1 W1 H1 v k1 k2 k3 k4 r1 l1 q1 => ?_
  refine tE_then k1 k2 k3 k4 q1 fun y st2 W2 H2 u m1 m2 m3 m4 r2 l2 q2 => ?_
  obtain ⟨d, e1, q3⟩ := post_ofO q2
  rw [Option.map_eq_some_iff] at e1
  obtain ⟨k, e1, rfl⟩ := e1
  obtain ⟨k', e2, q4⟩ := post_here m4 repB q3
  cases e2
  exact ⟨W2, x, y, st2, k, m4, m1.trans hK, r1.mono l2, r2, e1, k, rfl, q4⟩
end
end TM
set_option maxHeartbeats 1000000
/-! TM, part J: readings of further expressions. -/
namespace TM
open PySem PySem.Spec PyProof.Rows L2
section
variable {X : Cx} {B : Bx} {n : Nat} {a b c e : Expr} {es rest : List Expr} {pos : Pos} {eva evb evc : Ev} {evs : Slots → Store → Res (List D)}
theorem e_var {i : Nat} {x : Str} (hN : X.N[i]? = some x) (hv : Vis X.env.scope x) (hd : (x == ("__debug__" : Str)) = false) (hc : (x == ("__classdict__" : Str)) = false) : PE X (.Name x pos) (tE B fun sl st => match sl[i]? with | some (some d) => .ok d st | _ => .stuck) := by
  refine PE.imp (pe_var hN hv hd hc) fun σ H Q ⟨W, sl, st, h1, h2, h3, h4, h5⟩ => ?_
  dsimp only at h5
  split at h5
  · rename_i d e1
    obtain ⟨v, e2, r⟩ := h3.get e1
    exact ⟨v, e2, post_here h4 r h5⟩
  · exact h5.elim
theorem e_int {i : Int} {k : Nat} : PE X (.Constant (.int i) k pos) (tE B fun _ st => .ok (.int i) st) := PE.imp pe_int fun σ H Q ⟨W, sl, st, h1, h2, h3, h4, h5⟩ => post_here h4 repI h5
theorem e_bl {i : Bool} {k : Nat} : PE X (.Constant (.bool i) k pos) (tE B fun _ st => .ok (.bl i) st) := PE.imp pe_bl fun σ H Q ⟨W, sl, st, h1, h2, h3, h4, h5⟩ => post_here h4 repB h5
theorem e_non {k : Nat} : PE X (.Constant .none k pos) (tE B fun _ st => .ok .non st) := PE.imp pe_non fun σ H Q ⟨W, sl, st, h1, h2, h3, h4, h5⟩ => post_here h4 repN h5
theorem e_str {i : Str} {k : Nat} : PE X (.Constant (.str i) k pos) (tE B fun _ st => .ok (.str i) st) := PE.imp pe_str fun σ H Q ⟨W, sl, st, h1, h2, h3, h4, h5⟩ => post_here h4 repS h5
/-- a module's int or text -/
def flatOf : D → Option V
  | .int i => some (.int i)
  | .str x => some (.str x)
  | .bl b => some (.bl b)
  | .non => some .non
  | _ => none
theorem flat_rep {W : Wo} {d : D} {v : V} (h : flatOf d = some v) : Rep W d v := by
  cases d <;> simp only [flatOf, Option.some.injEq, reduceCtorEq] at h
  all_goals
    subst h
    simp only [Rep]
theorem e_glob {x : Str} {d : D} {v : V} {u : Value} (hg : Gl X x) (hm : X.mg x = some u) (r : RelV v u) (hf : flatOf d = some v) (hd : (x == ("__debug__" : Str)) = false) : PE X (.Name x pos) (tE B fun _ st => .ok d st) :=
  PE.imp (pe_glob hg hm r hd) fun σ H Q ⟨W, sl, st, h1, h2, h3, h4, h5⟩ => post_here h4 (flat_rep hf) h5
theorem post_tr {W : Wo} {E : XK} {o : Option Bool} {f : Bool → Res D} {Q : VK} (h : Post W E (match o with | some b => f b | none => .stuck) Q) : ∃ b, o = some b ∧ Post W E (f b) Q := by
  cases o with
  | none => exact h.elim
  | some b => exact ⟨b, rfl, h⟩
theorem e_not (hK : B.K = X.K) (ha : PE X a (tE B eva)) : PE X (.UnaryOp .Not a pos) (tE B fun sl st => (eva sl st).bind fun x st1 => match truth x st1 with | some b => .ok (.bl (!b)) st1 | none => .stuck) := by
  refine PE.imp (pe_notT ha) fun σ H Q ⟨W, sl, st, h1, h2, h3, h4, h5⟩ => ?_
  refine tE_then h1 h2 h3 h4 h5 fun x st1 W1 H1 v k1 k2 k3 k4 r1 l1 q1 => ?_
  obtain ⟨k, e1, q2⟩ := post_tr (f := fun b => .ok (.bl (!b)) st1) q1
  have t := truth_V k4 r1 e1
  rw [k1, hK] at t
  exact ⟨k, t, post_here k4 repB q2⟩
theorem e_and (hK : B.K = X.K) (ha : PE X a (tE B eva)) (hb : PE X (.BoolOp .And (b :: rest) pos) (tE B evb)) : PE X (.BoolOp .And (a :: b :: rest) pos) (tE B fun sl st => (eva sl st).bind fun x st1 => match truth x st1 with | some true => evb sl st1 | some false => .ok x st1 | none => .stuck) := by
  refine PE.imp (pe_andT ha hb) fun σ H Q ⟨W, sl, st, h1, h2, h3, h4, h5⟩ => ?_
  refine tE_then h1 h2 h3 h4 h5 fun x st1 W1 H1 v k1 k2 k3 k4 r1 l1 q1 => ?_
  split at q1
  · rename_i e1
    have t := truth_V k4 r1 e1
    rw [k1, hK] at t
    exact ⟨true, t, iteT ⟨W1, sl, st1, k1, k2, k3, k4, q1⟩⟩
  · rename_i e1
    have t := truth_V k4 r1 e1
    rw [k1, hK] at t
    exact ⟨false, t, iteF (post_here k4 r1 q1)⟩
  · exact q1.elim
theorem e_or (hK : B.K = X.K) (ha : PE X a (tE B eva)) (hb : PE X (.BoolOp .Or (b :: rest) pos) (tE B evb)) : PE X (.BoolOp .Or (a :: b :: rest) pos) (tE B fun sl st => (eva sl st).bind fun x st1 => match truth x st1 with | some true => .ok x st1 | some false => evb sl st1 | none => .stuck) := by
  refine PE.imp (pe_orT ha hb) fun σ H Q ⟨W, sl, st, h1, h2, h3, h4, h5⟩ => ?_
  refine tE_then h1 h2 h3 h4 h5 fun x st1 W1 H1 v k1 k2 k3 k4 r1 l1 q1 => ?_
  split at q1
  · rename_i e1
    have t := truth_V k4 r1 e1
    rw [k1, hK] at t
    exact ⟨true, t, iteT (post_here k4 r1 q1)⟩
  · rename_i e1
    have t := truth_V k4 r1 e1
    rw [k1, hK] at t
    exact ⟨false, t, iteF ⟨W1, sl, st1, k1, k2, k3, k4, q1⟩⟩
  · exact q1.elim
/-! tests -/
theorem postB_bind {W : Wo} {E : XK} {r : Res Bool} {f : Bool → Store → Res Bool} {Q : Bool → Hp → Prop} {G : Bool → Hp → Prop} (h : PostB W E (r.bind f) Q)
    (k : ∀ d st1 W1 H1, Le W W1 → SR W1 st1 H1 → PostB W1 E (f d st1) Q → G d H1) : PostB W E r G := by
  cases r with
  | ok d st =>
    intro W' H' l s
    refine k d st W' H' l s ?_
    have h' : PostB W E (f d st) Q := h
    cases hr : f d st with
    | ok b st2 =>
      rw [hr] at h'
      exact fun W2 H2 l2 => h' W2 H2 (l.trans l2)
    | exc C fs st2 =>
      rw [hr] at h'
      exact PostX.mono l h'
    | stuck =>
      rw [hr] at h'
      exact h'
  | exc C fs st => exact h
  | stuck => exact h
theorem tT_then {ev : Ev} {f : Bool → Store → Res Bool} {σ : Sg} {H : Hp} {Q G : Bool → Hp → Prop} {W : Wo} {sl : Slots} {st : Store} (h1 : W.K = B.K) (h2 : W.CA = B.CA) (h3 : SlR W sl σ) (h4 : SR W st H) (h : PostB W B.E ((tru ev sl st).bind f) Q)
    (k : ∀ d st1 W1 H1, W1.K = B.K → W1.CA = B.CA → SlR W1 sl σ → SR W1 st1 H1 → PostB W1 B.E (f d st1) Q → G d H1) : tT B ev σ H G :=
  ⟨W, sl, st, h1, h2, h3, h4, postB_bind h fun d st1 W1 H1 l s q => k d st1 W1 H1 (l.K.trans h1) (l.CA.trans h2) (h3.mono l) s q⟩
theorem bind_assoc {α β γ : Type} (r : Res α) (f : α → Store → Res β) (g : β → Store → Res γ) : (r.bind f).bind g = r.bind fun a st => (f a st).bind g := by
  cases r <;> rfl
theorem tru_eq {ev : Ev} {sl : Slots} {st : Store} {f g : Bool → Store → Res Bool} (h : ∀ b st, f b st = g b st) : (tru ev sl st).bind f = (tru ev sl st).bind g := by
  cases tru ev sl st <;> first | rfl | exact h _ _
theorem t_not (ha : PT X a (tT B eva)) : PT X (.UnaryOp .Not a pos) (tT B fun sl st => (eva sl st).bind fun x st1 => match truth x st1 with | some b => .ok (.bl (!b)) st1 | none => .stuck) := by
  refine PT.imp (pt_not ha) fun σ H Q ⟨W, sl, st, h1, h2, h3, h4, h5⟩ => ?_
  have h6 : PostB W B.E ((tru eva sl st).bind fun b st1 => .ok (!b) st1) Q := by
    have e : (tru eva sl st).bind (fun b st1 => .ok (!b) st1) = tru (fun sl st => (eva sl st).bind fun x st1 => match truth x st1 with | some b => .ok (.bl (!b)) st1 | none => .stuck) sl st := by
      unfold tru
      rw [bind_assoc, bind_assoc]
      cases eva sl st with
      | ok d st1 =>
        simp only [Res.bind_ok]
        cases truth d st1 <;> rfl
      | _ => rfl
    rw [e]
    exact h5
  exact tT_then h1 h2 h3 h4 h6 fun d st1 W1 H1 k1 k2 k3 k4 q => q W1 H1 (Le.refl W1) k4
theorem t_and (ha : PT X a (tT B eva)) (hb : PW X (.BoolOp .And (b :: rest) pos) (tT B evb)) : PW X (.BoolOp .And (a :: b :: rest) pos) (tT B fun sl st => (eva sl st).bind fun x st1 => match truth x st1 with | some true => evb sl st1 | some false => .ok x st1 | none => .stuck) := by
  refine PW.imp (pw_and ha hb) fun σ H Q ⟨W, sl, st, h1, h2, h3, h4, h5⟩ => ?_
  have h6 : PostB W B.E ((tru eva sl st).bind fun b st1 => if b then tru evb sl st1 else .ok false st1) Q := by
    have e : (tru eva sl st).bind (fun b st1 => if b then tru evb sl st1 else .ok false st1) = tru (fun sl st => (eva sl st).bind fun x st1 => match truth x st1 with | some true => evb sl st1 | some false => .ok x st1 | none => .stuck) sl st := by
      unfold tru
      rw [bind_assoc, bind_assoc]
      cases eva sl st with
      | ok d st1 =>
        simp only [Res.bind_ok]
        cases ht : truth d st1 with
        | none => rfl
        | some k =>
          cases k with
          | true => rfl
          | false => simp [ht]
      | _ => rfl
    rw [e]
    exact h5
  refine tT_then h1 h2 h3 h4 h6 fun d st1 W1 H1 k1 k2 k3 k4 q => ?_
  cases d with
  | true => exact iteT ⟨W1, sl, st1, k1, k2, k3, k4, q⟩
  | false => exact iteF (q W1 H1 (Le.refl W1) k4)
theorem t_or (ha : PT X a (tT B eva)) (hb : PW X (.BoolOp .Or (b :: rest) pos) (tT B evb)) : PW X (.BoolOp .Or (a :: b :: rest) pos) (tT B fun sl st => (eva sl st).bind fun x st1 => match truth x st1 with | some true => .ok x st1 | some false => evb sl st1 | none => .stuck) := by
  refine PW.imp (pw_or ha hb) fun σ H Q ⟨W, sl, st, h1, h2, h3, h4, h5⟩ => ?_
  have h6 : PostB W B.E ((tru eva sl st).bind fun b st1 => if b then .ok true st1 else tru evb sl st1) Q := by
    have e : (tru eva sl st).bind (fun b st1 => if b then .ok true st1 else tru evb sl st1) = tru (fun sl st => (eva sl st).bind fun x st1 => match truth x st1 with | some true => .ok x st1 | some false => evb sl st1 | none => .stuck) sl st := by
      unfold tru
      rw [bind_assoc, bind_assoc]
      cases eva sl st with
      | ok d st1 =>
        simp only [Res.bind_ok]
        cases ht : truth d st1 with
        | none => rfl
        | some k =>
          cases k with
          | true => simp [ht]
          | false => rfl
      | _ => rfl
    rw [e]
    exact h5
  refine tT_then h1 h2 h3 h4 h6 fun d st1 W1 H1 k1 k2 k3 k4 q => ?_
  cases d with
  | true => exact iteT (q W1 H1 (Le.refl W1) k4)
  | false => exact iteF ⟨W1, sl, st1, k1, k2, k3, k4, q⟩
theorem e_ife (ht : PT X c (tT B evc)) (ha : PE X a (tE B eva)) (hb : PE X b (tE B evb)) : PE X (.IfExp c a b pos) (tE B fun sl st => (evc sl st).bind fun x st1 => match truth x st1 with | some true => eva sl st1 | some false => evb sl st1 | none => .stuck) := by
  refine PE.imp (pe_ifExp ht ha hb) fun σ H Q ⟨W, sl, st, h1, h2, h3, h4, h5⟩ => ?_
  refine ⟨W, sl, st, h1, h2, h3, h4, ?_⟩
  dsimp only at h5
  unfold tru
  cases hc : evc sl st with
  | ok d st1 =>
    simp only [hc, Res.bind_ok] at h5 ⊢
    cases ht : truth d st1 with
    | none =>
      rw [ht] at h5
      exact h5.elim
    | some k =>
      rw [ht] at h5
      intro W' H' l s
      cases k with
      | true => exact iteT ⟨W', sl, st1, l.K.trans h1, l.CA.trans h2, h3.mono l, s, Post.mono l h5⟩
      | false => exact iteF ⟨W', sl, st1, l.K.trans h1, l.CA.trans h2, h3.mono l, s, Post.mono l h5⟩
  | exc C fs st1 =>
    rw [hc] at h5
    exact h5
  | stuck =>
    rw [hc] at h5
    exact h5
end
end TM
set_option maxHeartbeats 1000000
/-! TM, part K: argument lists, displays, subscripts, built-ins, methods. -/
namespace TM
open PySem PySem.Spec PyProof.Rows L2
theorem post_bindL {W : Wo} {E : XK} {r : Res D} {f : D → Store → Res (List D)} {Q : List V → Hp → Prop} {G : VK} (h : PostL W E (r.bind f) Q)
    (k : ∀ d st1 W1 H1 v, Le W W1 → SR W1 st1 H1 → Rep W1 d v → PostL W1 E (f d st1) Q → G v H1) : Post W E r G := by
  cases r with
  | ok d st => exact fun W' H' v l s q => k d st W' H' v l s q (PostL.mono l h)
  | exc C fs st => exact h
  | stuck => exact h
theorem postL_bindL {W : Wo} {E : XK} {r : Res (List D)} {f : List D → Store → Res (List D)} {Q G : List V → Hp → Prop} (h : PostL W E (r.bind f) Q)
    (k : ∀ d st1 W1 H1 v, Le W W1 → SR W1 st1 H1 → RepL W1 d v → PostL W1 E (f d st1) Q → G v H1) : PostL W E r G := by
  cases r with
  | ok d st => exact fun W' H' v l s q => k d st W' H' v l s q (PostL.mono l h)
  | exc C fs st => exact h
  | stuck => exact h
section
variable {X : Cx} {B : Bx} {n : Nat} {a b c e : Expr} {es rest : List Expr} {pos : Pos} {eva evb evc : Ev} {evs : Slots → Store → Res (List D)}
theorem a_nil : PA X [] (tA B fun _ st => .ok [] st) := PA.imp pa_nil fun σ H Q ⟨W, sl, st, h1, h2, h3, h4, h5⟩ => h5 W H [] (Le.refl W) h4 .nil
theorem a_cons (hs : isStar e = false) (he : PE X e (tE B eva)) (hes : PA X es (tA B evs)) : PA X (e :: es) (tA B fun sl st => (eva sl st).bind fun d st1 => (evs sl st1).bind fun ds st2 => .ok (d :: ds) st2) := by
  refine PA.imp (pa_cons he hes (star_cons hs)) fun σ H Q ⟨W, sl, st, h1, h2, h3, h4, h5⟩ => ?_
  refine ⟨W, sl, st, h1, h2, h3, h4, post_bindL h5 fun d st1 W1 H1 v l1 s1 r1 q1 => ?_⟩
  refine ⟨W1, sl, st1, l1.K.trans h1, l1.CA.trans h2, h3.mono l1, s1, postL_bindL q1 fun ds st2 W2 H2 vs l2 s2 r2 q2 => ?_⟩
  exact q2 W2 H2 _ (Le.refl W2) s2 (.cons (r1.mono l2) r2)
theorem tA_then {ev : Slots → Store → Res (List D)} {f : List D → Store → Res D} {σ : Sg} {H : Hp} {Q : VK} {G : List V → Hp → Prop} {W : Wo} {sl : Slots} {st : Store} (h1 : W.K = B.K) (h2 : W.CA = B.CA) (h3 : SlR W sl σ) (h4 : SR W st H) (h : Post W B.E ((ev sl st).bind f) Q)
    (k : ∀ d st1 W1 H1 v, W1.K = B.K → W1.CA = B.CA → SlR W1 sl σ → SR W1 st1 H1 → RepL W1 d v → Le W W1 → Post W1 B.E (f d st1) Q → G v H1) : tA B ev σ H G :=
  ⟨W, sl, st, h1, h2, h3, h4, postL_bind h fun d st1 W1 H1 v l s r q => k d st1 W1 H1 v (l.K.trans h1) (l.CA.trans h2) (h3.mono l) s r l q⟩
theorem e_tup {x1 : Nat} (h : PA X es (tA B evs)) : PE X (.Tuple es x1 pos) (tE B fun sl st => (evs sl st).bind fun ds st1 => if ds.length ≤ sizeLine then .ok (.tup ds) st1 else .stuck) := by
  refine PE.imp (pe_tup h) fun σ H Q ⟨W, sl, st, h1, h2, h3, h4, h5⟩ => ?_
  refine tA_then h1 h2 h3 h4 h5 fun ds st1 W1 H1 vs k1 k2 k3 k4 r1 l1 q1 => ?_
  split at q1
  · rename_i hz
    exact ⟨by rw [r1.length]; exact hz, post_tup k4 r1 q1⟩
  · exact q1.elim
theorem e_lst (mt : Bool) (h : PA X es (tA B evs)) : PE X (.List es pos) (tE B fun sl st => (evs sl st).bind fun ds st1 => if ds.length ≤ sizeLine then mkL mt ds st1 else .stuck) := by
  refine PE.imp (pe_lst h) fun σ H Q ⟨W, sl, st, h1, h2, h3, h4, h5⟩ => ?_
  refine tA_then h1 h2 h3 h4 h5 fun ds st1 W1 H1 vs k1 k2 k3 k4 r1 l1 q1 => ?_
  split at q1
  · rename_i hz
    exact ⟨by rw [r1.length]; exact hz, post_mkL k4 r1 q1⟩
  · exact q1.elim
theorem e_idx {n : Nat} (c : Cok n X) (hK : B.K = X.K) (hs : isSlice b = false) (ha : PE X a (tE B eva)) (hb : PE X b (tE B evb)) : PE X (.Subscript a b pos) (tE B fun sl st => (eva sl st).bind fun x st1 => (evb sl st1).bind fun y st2 => ofO (idxD x y st2) st2) := by
  have hu := c.u64
  refine PE.imp (pe_ix (ixAny (by omega)) ha hb (sub_plain hs)) fun σ H Q ⟨W, sl, st, h1, h2, h3, h4, h5⟩ => ?_
  refine tE_then h1 h2 h3 h4 h5 fun x st1 W1 H1 v k1 k2 k3 k4 r1 l1 q1 => ?_
  refine tE_then k1 k2 k3 k4 q1 fun y st2 W2 H2 u m1 m2 m3 m4 r2 l2 q2 => ?_
  obtain ⟨d, e1, q3⟩ := post_ofO q2
  exact ⟨W2, x, y, st2, d, m4, m1.trans hK, r1.mono l2, r2, e1, fun w r => post_here m4 r q3⟩
/-! slices -/
def tO (B : Bx) (ev : Slots → Store → Res (Option Int)) : TO := fun σ H Q => ∃ W sl st, W.K = B.K ∧ W.CA = B.CA ∧ SlR W sl σ ∧ SR W st H ∧ (match ev sl st with
  | .ok o st' => ∀ W' H', Le W W' → SR W' st' H' → Q o H'
  | .exc C fs st' => PostX W B.E C fs st'
  | .stuck => False)
theorem PO.imp {X : Cx} {e : Option Expr} {t t' : TO} (h : PO X e t) (k : ∀ σ H Q, t' σ H Q → t σ H Q) : PO X e t' := ⟨fun pins s σ H Q I q => h.run pins s σ H Q I (k σ H Q q)⟩
theorem o_none : PO X none (tO B fun _ st => .ok none st) := PO.imp po_none fun σ H Q ⟨W, sl, st, h1, h2, h3, h4, h5⟩ => h5 W H (Le.refl W) h4
theorem o_some (ha : PE X a (tE B eva)) : PO X (some a) (tO B fun sl st => (eva sl st).bind fun x st1 => match x with | .int i => .ok (some i) st1 | _ => .stuck) := by
  refine PO.imp (po_some ha) fun σ H Q ⟨W, sl, st, h1, h2, h3, h4, h5⟩ => ?_
  refine ⟨W, sl, st, h1, h2, h3, h4, ?_⟩
  dsimp only at h5
  cases hr : eva sl st with
  | ok x st1 =>
    rw [hr, Res.bind_ok] at h5
    intro W' H' v l s r
    cases x with
    | int i => exact ⟨i, rep_int r, h5 W' H' l s⟩
    | _ => exact h5.elim
  | exc C fs st1 =>
    rw [hr] at h5
    exact h5
  | stuck =>
    rw [hr] at h5
    exact h5
theorem tO_then {ev : Slots → Store → Res (Option Int)} {f : Option Int → Store → Res D} {σ : Sg} {H : Hp} {Q : VK} {G : Option Int → Hp → Prop} {W : Wo} {sl : Slots} {st : Store} (h1 : W.K = B.K) (h2 : W.CA = B.CA) (h3 : SlR W sl σ) (h4 : SR W st H) (h : Post W B.E ((ev sl st).bind f) Q)
    (k : ∀ d st1 W1 H1, W1.K = B.K → W1.CA = B.CA → SlR W1 sl σ → SR W1 st1 H1 → Le W W1 → Post W1 B.E (f d st1) Q → G d H1) : tO B ev σ H G := by
  refine ⟨W, sl, st, h1, h2, h3, h4, ?_⟩
  cases hr : ev sl st with
  | ok d st1 =>
    rw [hr] at h
    exact fun W' H' l s => k d st1 W' H' (l.K.trans h1) (l.CA.trans h2) (h3.mono l) s l (Post.mono l h)
  | exc C fs st1 =>
    rw [hr] at h
    exact h
  | stuck =>
    rw [hr] at h
    exact h
/-- the reading of a slice -/
def rSlD (K : PySem.W.Frag) : V → Option Int → Option Int → Hp → VK → Prop := fun x lo hi H Q => ∃ W E dx st d, SR W st H ∧ W.K = K ∧ Rep W dx x ∧ slD dx lo hi st = some d ∧ Post W E (.ok d st) Q
theorem cut_rep {W : Wo} {ds : List D} {vs : List V} (h : RepL W ds vs) (lo hi : Option Int) : RepL W (cutD ds lo hi) (cutV vs lo hi) := by
  unfold cutD cutV
  rw [h.length]
  exact (h.drop _).take _
theorem cut_all {α : Type} {xs : List α} {lo hi : Option Int} (h : HT.sIx xs.length 0 lo = 0 ∧ HT.sIx xs.length xs.length hi = xs.length) : (xs.drop (HT.sIx xs.length 0 lo)).take (HT.sIx xs.length xs.length hi - HT.sIx xs.length 0 lo) = xs := by
  rw [h.1, h.2, List.drop_zero, Nat.sub_zero, List.take_length]
theorem sl_any : L2.SlR X (rSlD X.K) := by
  intro pins s σ H x v vl vu lo hi sl Q I rx hs pl pu ⟨W, E, dx, st, d, sr, hK, p, h, q⟩
  unfold slD at h
  split at h
  · split at h
    · rename_i hz
      cases h
      rw [rep_str p] at rx
      exact sl_str pins s σ H _ v vl vu lo hi sl Q I rx hs pl pu ⟨_, rfl, hz, post_here sr repS q⟩
    · cases h
  · cases h
    obtain ⟨a, vs, rfl, hq, rq⟩ := asT_V sr p
    rw [hK] at hq
    refine sl_tupA pins s σ H _ v vl vu lo hi sl Q I rx hs pl pu ⟨a, vs, rfl, hq, fun hw => ?_, fun _ => post_tup sr (cut_rep rq lo hi) q⟩
    rw [rq.length] at hw
    have e := cut_all hw
    unfold cutD at q
    rw [e] at q
    exact post_here sr p q
  · rw [Option.map_eq_some_iff] at h
    obtain ⟨xs, e, rfl⟩ := h
    obtain ⟨a, vs, rfl, hq, rq⟩ := asL_V sr p e
    exact sl_list pins s σ H _ v vl vu lo hi sl Q I rx hs pl pu ⟨a, vs, rfl, .inl hq, post_lst sr (cut_rep rq lo hi) q⟩
theorem e_sl {lo hi : Option Expr} {p2 : Pos} {evl evh : Slots → Store → Res (Option Int)} (hK : B.K = X.K) (ha : PE X a (tE B eva)) (hl : PO X lo (tO B evl)) (hh : PO X hi (tO B evh)) :
    PE X (.Subscript a (.Slice lo hi none p2) pos) (tE B fun sl st => (eva sl st).bind fun x st1 => (evl sl st1).bind fun l st2 => (evh sl st2).bind fun h st3 => ofO (slD x l h st3) st3) := by
  refine PE.imp (pe_slice sl_any ha hl hh) fun σ H Q ⟨W, sl, st, h1, h2, h3, h4, h5⟩ => ?_
  refine tE_then h1 h2 h3 h4 h5 fun x st1 W1 H1 v k1 k2 k3 k4 r1 l1 q1 => ?_
  refine tO_then k1 k2 k3 k4 q1 fun l st2 W2 H2 m1 m2 m3 m4 l2 q2 => ?_
  refine tO_then m1 m2 m3 m4 q2 fun h st3 W3 H3 n1 n2 n3 n4 l3 q3 => ?_
  obtain ⟨d, e1, q4⟩ := post_ofO q3
  exact ⟨W3, B.E, x, st3, d, n4, n1.trans hK, (r1.mono l2).mono l3, e1, q4⟩
/-! built-in functions -/
theorem e_bi {n : Nat} (c : Cok n X) (hK : B.K = X.K) (f : Bi) {x : Str} {p : Pos} (hg : Gl X x) (hm : X.mg x = none) (hv : bootBuiltins x = some (biVal f)) (hn : x ≠ "__name__") (hd : (x == ("__debug__" : Str)) = false) (hs : (e :: es).all (fun e => !isStar e) = true) (h : PA X (e :: es) (tA B evs)) :
    PE X (.Call (.Name x p) (e :: es) [] pos) (tE B fun sl st => (evs sl st).bind fun ds st1 => biD f ds st1) := by
  have h2 := hs
  rw [List.all_cons, Bool.and_eq_true, Bool.not_eq_true'] at h2
  have hc := biAny c f
  have k : PE X (.Call (.Name x p) (e :: es) [] pos) (tCB (rBi X.K f) (tA B evs)) := by
    cases f <;> first
      | exact pe_callB hc hg hm hv h hn hd (star_cons h2.1) (star_none h2.2)
      | exact pe_callTy hc hg hm hv h hn hd (star_cons h2.1) (star_none h2.2)
  refine PE.imp k fun σ H Q ⟨W, sl, st, h1, h2, h3, h4, h5⟩ => ?_
  refine tA_then h1 h2 h3 h4 h5 fun ds st1 W1 H1 vs k1 k2 k3 k4 r1 l1 q1 => ?_
  exact ⟨W1, B.E, ds, st1, k4, k1.trans hK, r1, q1⟩
/-! methods of built-in types -/
def meT : Me → String
  | .join => "str" | .startswith => "str" | .endswith => "str" | .find => "str" | .append => "list" | .extend => "list" | .pop => "list"
def meId : Me → String
  | .join => "str.join" | .startswith => "str.startswith" | .endswith => "str.endswith" | .find => "str.find" | .append => "list.append" | .extend => "list.extend" | .pop => "list.pop"
def meName : Me → Str
  | .join => "join" | .startswith => "startswith" | .endswith => "endswith" | .find => "find" | .append => "append" | .extend => "extend" | .pop => "pop"
def rMe (K : PySem.W.Frag) (m : Me) : V → List V → Hp → VK → Prop := fun x vs H Q => ∃ W E dx ds st, SR W st H ∧ W.K = K ∧ Rep W dx x ∧ RepL W ds vs ∧ Post W E (meD m dx ds st) Q
theorem meTy_V {W : Wo} {st : Store} {H : Hp} (sr : SR W st H) {m : Me} {d : D} {v : V} (r : Rep W d v) (h : meTy m d st = true) : tyV W.K (meT m) v H := by
  have str : ∀ {z}, d = .str z → tyV W.K "str" v H := fun {z} e => by
    subst e
    rw [rep_str r]
    exact rfl
  have lst : ∀ {n}, d = .loc n → (lstAt st n).isSome = true → tyV W.K "list" v H := fun {n} e hs => by
    subst e
    cases hl : lstAt st n with
    | none =>
      rw [hl] at hs
      cases hs
    | some xs =>
      obtain ⟨a, vs, rfl, hq, _⟩ := asL_V sr r (xs := xs) hl
      exact .inl ⟨rfl, vs, .inl hq⟩
  cases m <;> cases d <;> simp only [meTy, reduceCtorEq, Bool.false_eq_true] at h <;> first
    | exact str rfl
    | exact lst rfl h
theorem SR.write {W : Wo} {st : Store} {H : Hp} (sr : SR W st H) {n : Nat} {xs ys : List D} {a : Addr} {ws : List V} (e : st[n]? = some (.lst xs)) (ea : W.mu[n]? = some a) (r : RepL W ys ws) : SR W (setC st n (.lst ys)) (upd H a (.lst ws)) := by
  obtain ⟨f, vs, h, _⟩ := sr.lstCell e ea
  exact sr.put e ea f (fun x z => by rw [h] at z; cases z) ⟨f, ws, upd_same, r⟩
theorem dropLast_rep {W : Wo} {ds : List D} {vs : List V} (h : RepL W ds vs) : RepL W ds.dropLast vs.dropLast := by
  rw [List.dropLast_eq_take, List.dropLast_eq_take, h.length]
  exact h.take _
theorem me_str {m : Me} {id : String} {r : V → List V → Hp → VK → Prop} (h : MtR X id r) (k : ∀ {W : Wo} {E : XK} {dx : D} {ds : List D} {st : Store} {H : Hp} {x : V} {vs : List V} {Q : VK}, SR W st H → W.K = X.K → Rep W dx x → RepL W ds vs → Post W E (meD m dx ds st) Q → r x vs H Q) : MtR X id (rMe X.K m) :=
  fun pins s σ H x vs v us Q I rx rv ⟨W, E, dx, ds, st, sr, hK, p1, p2, q⟩ => h pins s σ H x vs v us Q I rx rv (k sr hK p1 p2 q)
theorem meAny (m : Me) : MtR X (meId m) (rMe X.K m) := by
  cases m
  case join =>
    refine me_str mt_join fun {W E dx ds st H x vs Q} sr hK p1 p2 q => ?_
    unfold meD at q
    split at q <;> first | contradiction | exact q.elim | skip
    obtain ⟨u, rfl, r⟩ := repL1 p2
    split at q
    · rename_i ys e
      rw [Option.bind_eq_some_iff] at e
      obtain ⟨xs, e1, e2⟩ := e
      obtain ⟨a, ws, rfl, hq, rq⟩ := asQ_V sr r e1
      have ew := rq.strs e2
      subst ew
      rw [hK] at hq
      split at q
      · rename_i hz
        exact ⟨_, a, ys, rep_str p1, rfl, hq, hz, post_here sr repS q⟩
      · exact q.elim
    · exact q.elim
  case startswith =>
    refine me_str mt_startswith fun {W E dx ds st H x vs Q} sr hK p1 p2 q => ?_
    unfold meD at q
    split at q <;> first | contradiction | exact q.elim | skip
    obtain ⟨u, rfl, r⟩ := repL1 p2
    exact ⟨_, _, rep_str p1, by rw [rep_str r], post_here sr repB q⟩
  case endswith =>
    refine me_str mt_endswith fun {W E dx ds st H x vs Q} sr hK p1 p2 q => ?_
    unfold meD at q
    split at q <;> first | contradiction | exact q.elim | skip
    obtain ⟨u, rfl, r⟩ := repL1 p2
    exact ⟨_, _, rep_str p1, by rw [rep_str r], post_here sr repB q⟩
  case find =>
    refine me_str mt_find fun {W E dx ds st H x vs Q} sr hK p1 p2 q => ?_
    unfold meD at q
    split at q <;> first | contradiction | exact q.elim | skip
    obtain ⟨u, rfl, r⟩ := repL1 p2
    exact ⟨_, _, rep_str p1, by rw [rep_str r], post_here sr repI q⟩
  case append =>
    refine me_str mt_append fun {W E dx ds st H x vs Q} sr hK p1 p2 q => ?_
    unfold meD at q
    split at q <;> first | contradiction | exact q.elim | skip
    obtain ⟨u, rfl, r⟩ := repL1 p2
    split at q
    · rename_i xs e
      split at q
      · rename_i hz
        have ec := lstAt_cell e
        simp only [Rep] at p1
        obtain ⟨a, ea, rfl⟩ := p1
        obtain ⟨f, ws, h, rq⟩ := sr.lstCell ec ea
        exact ⟨a, ws, u, rfl, rfl, h, by rw [rq.length]; exact hz, q W _ _ (Le.refl W) (sr.write ec ea (rq.snoc r)) repN⟩
      · exact q.elim
    · exact q.elim
  case pop =>
    refine me_str mt_pop fun {W E dx ds st H x vs Q} sr hK p1 p2 q => ?_
    unfold meD at q
    split at q <;> first | contradiction | exact q.elim | skip
    simp only [RepL] at p2
    subst p2
    split at q
    · rename_i xs e
      split at q
      · rename_i d ed
        have ec := lstAt_cell e
        simp only [Rep] at p1
        obtain ⟨a, ea, rfl⟩ := p1
        obtain ⟨f, ws, h, rq⟩ := sr.lstCell ec ea
        obtain ⟨w, ew, rw'⟩ := rq.get ed
        exact ⟨a, ws, w, rfl, rfl, h, by rw [rq.length]; exact ew, q W _ _ (Le.refl W) (sr.write ec ea (dropLast_rep rq)) rw'⟩
      · exact q.elim
    · exact q.elim
  case extend =>
    intro pins s σ H x vs v us Q I rx rv ⟨W, E, dx, ds, st, sr, hK, p1, p2, q⟩
    unfold meD at q
    split at q <;> first | contradiction | exact q.elim | skip
    obtain ⟨u, rfl, r⟩ := repL1 p2
    split at q
    · rename_i xs ys e e'
      split at q
      · rename_i hz
        have ec := lstAt_cell e
        simp only [Rep] at p1
        obtain ⟨a, ea, rfl⟩ := p1
        obtain ⟨f, ws, h, rq⟩ := sr.lstCell ec ea
        obtain ⟨b, zs, rfl, hb, rz⟩ := asL_V sr r e'
        obtain rfl : v = Value.ref a := rx
        obtain ⟨u1, rfl, ru⟩ := vals1 rv
        obtain rfl : u1 = Value.ref b := ru
        obtain ⟨_, l1, n1, w1, g1⟩ := rdObj I (.inl h)
        obtain ⟨_, l2, n2, w2, g2⟩ := rdObj I hb
        have z1 := w1.length
        have z2 := w2.length
        have z3 := rq.length
        have z4 := rz.length
        have fit : l1.toArray.size + l2.toArray.size ≤ sizeLine := by simp only [List.size_toArray]; omega
        have big : (sizeLine : Nat) < 2 ^ 63 := line63
        refine call_meets F.slot_list_extend ⟨_, g1, rfl⟩ F.entry_list_extend (F.args_list_extend_2 _ _)
          (AutoSeq1.list_extend_list_list_0 a l1.toArray n1 b l2.toArray n2 (by rw [notLongL fit, Bool.and_false]; decide) (by rw [List.size_toArray]; omega) (by omega)) ⟨g1, g2, ?_⟩
        refine ⟨.non, _, I.lset (its' := l1 ++ l2) h g1 (by simp) (w1.append w2) (by rw [List.length_append]; omega), rfl, ?_⟩
        exact q W _ _ (Le.refl W) (sr.write ec ea (rq.append rz)) repN
      · exact q.elim
    · exact q.elim
end
end TM
set_option maxHeartbeats 1000000
/-! TM, part L: methods, isinstance, frz, dicts, slices with a step. -/
namespace TM
open PySem PySem.Spec PyProof.Rows L2
section
variable {X : Cx} {B : Bx} {n : Nat} {a b c e : Expr} {es rest : List Expr} {pos : Pos} {eva evb evc : Ev} {evs : Slots → Store → Res (List D)}
/-! methods -/
theorem few_of {env : Env} {pos : Pos} {es : List Expr} (h : es.all (fun e => !isStar e) = true) (hl : es.length < 30) :
    ((backTo pos (starEach es env)).all (fun x => !x.1) && (backToKw pos (keywordEach [] env)).all (fun x => x.1.isSome)
      && decide (es.length + ([] : List Keyword).length + (if ([] : List Keyword).isEmpty then 0 else 1) < 30)) = true := by
  have h1 : (backTo pos (starEach es env)).all (fun x => !x.1) = true := by
    have := star_none (env := env) (pos := pos) h
    rw [List.any_eq_false] at this
    rw [List.all_eq_true]
    intro x hx
    have := this x hx
    simpa using this
  rw [h1]
  have h2 : (backToKw pos (keywordEach [] env)).all (fun x => x.1.isSome) = true := rfl
  rw [h2]
  simpa using hl
theorem tE_cond {ev : Ev} {p : D → Store → Bool} {f : D → Store → Res D} {σ : Sg} {H : Hp} {Q : VK} : True := trivial
theorem e_me0 (m : Me) {nm : Str} {apos cpos : Pos} (hK : B.K = X.K) (hn : nm = meName m) (h : noSuper a = true) (hl : (apos.endLine == cpos.line) = true) (ha : PE X a (tE B eva)) :
    PE X (.Call (.Attribute a nm apos) [] [] cpos) (tE B fun sl st => (eva sl st).bind fun x st1 => if meTy m x st1 then (Res.ok (α := List D) [] st1).bind fun ds st2 => meD m x ds st2 else .stuck) := by
  subst hn
  have hb := base_plain (n := meName m) (env := X.env) h (eval a X.env)
  have k : PE X (.Call (.Attribute a (meName m) apos) [] [] cpos) (tBM0 X.K (meT m) (rMe X.K m) (tE B eva)) := by
    cases m <;> first
      | exact pe_bm0 PySem.F.plainAttrs_str PySem.F.slot_str_join PySem.F.type_str_join (meAny .join) ha hb hl
      | exact pe_bm0 PySem.F.plainAttrs_list PySem.F.slot_list_append PySem.F.type_list_append (meAny .append) ha hb hl
      | exact pe_bm0 PySem.F.plainAttrs_list PySem.F.slot_list_extend PySem.F.type_list_extend (meAny .extend) ha hb hl
      | exact pe_bm0 PySem.F.plainAttrs_list PySem.F.slot_list_pop PySem.F.type_list_pop (meAny .pop) ha hb hl
      | exact pe_bm0 PySem.F.plainAttrs_str PySem.F.slot_str_startswith PySem.F.type_str_startswith (meAny .startswith) ha hb hl
      | exact pe_bm0 PySem.F.plainAttrs_str PySem.F.slot_str_endswith PySem.F.type_str_endswith (meAny .endswith) ha hb hl
      | exact pe_bm0 PySem.F.plainAttrs_str PySem.F.slot_str_find PySem.F.type_str_find (meAny .find) ha hb hl
  refine PE.imp k fun σ H Q ⟨W, sl, st, h1, h2, h3, h4, h5⟩ => ?_
  refine tE_then h1 h2 h3 h4 h5 fun x st1 W1 H1 v k1 k2 k3 k4 r1 l1 q1 => ?_
  split at q1
  · rename_i ht
    have t := meTy_V k4 r1 ht
    rw [k1, hK] at t
    exact ⟨t, W1, B.E, x, [], st1, k4, k1.trans hK, r1, .nil, q1⟩
  · exact q1.elim
theorem e_me (m : Me) {nm : Str} {apos cpos : Pos} (hK : B.K = X.K) (hn : nm = meName m) (h : noSuper a = true) (hl : (apos.endLine == cpos.line) = true) (hs : (e :: es).all (fun e => !isStar e) = true) (hlen : (e :: es).length < 30) (ha : PE X a (tE B eva)) (hes : PA X (e :: es) (tA B evs)) :
    PE X (.Call (.Attribute a nm apos) (e :: es) [] cpos) (tE B fun sl st => (eva sl st).bind fun x st1 => if meTy m x st1 then (evs sl st1).bind fun ds st2 => meD m x ds st2 else .stuck) := by
  subst hn
  have hb := base_plain (n := meName m) (env := X.env) h (eval a X.env)
  have hf := few_of (env := X.env) (pos := cpos) hs hlen
  have h2 := hs
  rw [List.all_cons, Bool.and_eq_true, Bool.not_eq_true'] at h2
  have hc := star_cons (env := X.env) (es := es) h2.1
  have hp := star_none (env := X.env) (pos := cpos) h2.2
  have k : PE X (.Call (.Attribute a (meName m) apos) (e :: es) [] cpos) (tBM X.K (meT m) (rMe X.K m) (tE B eva) (tA B evs)) := by
    cases m <;> first
      | exact pe_bm PySem.F.plainAttrs_str PySem.F.slot_str_join PySem.F.type_str_join (meAny .join) ha hes hb hf hl hc hp
      | exact pe_bm PySem.F.plainAttrs_list PySem.F.slot_list_append PySem.F.type_list_append (meAny .append) ha hes hb hf hl hc hp
      | exact pe_bm PySem.F.plainAttrs_list PySem.F.slot_list_extend PySem.F.type_list_extend (meAny .extend) ha hes hb hf hl hc hp
      | exact pe_bm PySem.F.plainAttrs_list PySem.F.slot_list_pop PySem.F.type_list_pop (meAny .pop) ha hes hb hf hl hc hp
      | exact pe_bm PySem.F.plainAttrs_str PySem.F.slot_str_startswith PySem.F.type_str_startswith (meAny .startswith) ha hes hb hf hl hc hp
      | exact pe_bm PySem.F.plainAttrs_str PySem.F.slot_str_endswith PySem.F.type_str_endswith (meAny .endswith) ha hes hb hf hl hc hp
      | exact pe_bm PySem.F.plainAttrs_str PySem.F.slot_str_find PySem.F.type_str_find (meAny .find) ha hes hb hf hl hc hp
  refine PE.imp k fun σ H Q ⟨W, sl, st, h1, h2, h3, h4, h5⟩ => ?_
  refine tE_then h1 h2 h3 h4 h5 fun x st1 W1 H1 v k1 k2 k3 k4 r1 l1 q1 => ?_
  split at q1
  · rename_i ht
    have t := meTy_V k4 r1 ht
    rw [k1, hK] at t
    refine ⟨t, tA_then k1 k2 k3 k4 q1 fun ds st2 W2 H2 vs m1 m2 m3 m4 r2 l2 q2 => ?_⟩
    exact ⟨W2, B.E, x, ds, st2, m4, m1.trans hK, r1.mono l2, r2, q2⟩
  · exact q1.elim
/-! isinstance -/
def tyN : Ty → String
  | .bool => "bool" | .int => "int" | .str => "str" | .list => "list" | .tuple => "tuple" | .dict => "dict" | .cls _ => "object"
def tyB : Ty → Bool
  | .cls _ => false
  | _ => true
theorem kit_tys {K : PySem.W.Frag} : ∀ {t u : Ty}, tyB t = true → tyB u = true → PySem.W.kitOne K (.type (tyN t)) (.type (tyN u)) = some (isTy t u) := by
  intro t u ht hu
  refine kit_ty ?_
  cases t <;> first | (cases ht; done) | skip
  all_goals (cases u <;> first | (cases hu; done) | skip)
  all_goals decide +kernel
theorem kit_non {K : PySem.W.Frag} : ∀ {u : Ty}, tyB u = true → PySem.W.kitOne K (.type "NoneType") (.type (tyN u)) = some false := by
  intro u hu
  refine kit_ty ?_
  cases u <;> first | (cases hu; done) | decide +kernel
theorem tyD_B {d : D} {st : Store} {t : Ty} (h : tyD d st = some t) : tyB t = true := by
  unfold tyD at h
  split at h <;> first | (cases h; rfl) | (cases h; done) | skip
  split at h <;> first | (cases h; rfl) | (cases h; done) | skip
theorem tyX_of {W : Wo} {st : Store} {H : Hp} (sr : SR W st H) {d : D} {v : V} {t : Ty} (r : Rep W d v) (h : tyD d st = some t) : TyX W.K H v (.type (tyN t)) := by
  have hl : ∀ xs, asL d st = some xs → TyX W.K H v (.type "list") := fun xs e => by
    obtain ⟨a, vs, rfl, q, _⟩ := asL_V sr r e
    rcases q with q | ⟨o, q⟩
    · exact .base (.lst q)
    · exact .base (.frz q)
  have hk : ∀ xs, asK d st = some xs → TyX W.K H v (.type "dict") := fun xs e => by
    obtain ⟨a, vs, rfl, q, _⟩ := asK_V sr r e
    rcases q with q | ⟨o, q⟩
    · exact .base (.dK q)
    · exact .fDict q
  cases d with
  | bl b => simp only [tyD, Option.some.injEq] at h; subst h; rw [rep_bl r]; exact .base (.bl b)
  | int b => simp only [tyD, Option.some.injEq] at h; subst h; rw [rep_int r]; exact .base (.int b)
  | str b => simp only [tyD, Option.some.injEq] at h; subst h; rw [rep_str r]; exact .base (.str b)
  | tup xs =>
    simp only [tyD, Option.some.injEq] at h
    subst h
    obtain ⟨a, vs, rfl, q, _⟩ := asT_V sr r
    rcases q with (q | ⟨o, q⟩) | ⟨o, its, n, q, q2, _⟩
    · exact .base (.tup q)
    · exact .fTuple q
    · exact .kTuple q q2
  | lst xs => simp only [tyD, Option.some.injEq] at h; subst h; exact hl _ rfl
  | dct xs => simp only [tyD, Option.some.injEq] at h; subst h; exact hk _ rfl
  | non => simp [tyD] at h
  | obj C fs => simp [tyD] at h
  | loc n =>
    simp only [tyD] at h
    split at h
    · rename_i xs e
      cases h
      exact hl xs (by simp [asL, lstAt, e])
    · rename_i xs e
      cases h
      exact hk xs (by simp [asK, dctAt, e])
    · cases h
theorem isin_one {W : Wo} {st : Store} {H : Hp} (sr : SR W st H) {d : D} {v : V} {ts : List Ty} {b : Bool} (r : Rep W d v) (hb : ts.all tyB = true) (h : isinD d ts st = some b) : ∃ t, TyX W.K H v t ∧ ((∀ u, ts = [u] → PySem.W.kitOne W.K t (.type (tyN u)) = some b) ∧ PySem.W.kitAny W.K t (ts.map fun u => .type (tyN u)) = some b) := by
  have gen : ∀ (t : Value) (f : Ty → Bool), (∀ u, tyB u = true → PySem.W.kitOne W.K t (.type (tyN u)) = some (f u)) → ∀ ts : List Ty, ts.all tyB = true → PySem.W.kitAny W.K t (ts.map fun u => .type (tyN u)) = some (ts.any f) := by
    intro t f hf ts
    induction ts with
    | nil => intro _; rfl
    | cons u ts ih =>
      intro hb
      rw [List.all_cons, Bool.and_eq_true] at hb
      rw [List.map_cons, List.any_cons]
      refine kitAny_cons (hf u hb.1) (fun e => ?_) (fun e => ?_)
      · rw [e, Bool.false_or]
        exact ih hb.2
      · rw [e, Bool.true_or]
  by_cases hn : d = .non
  · subst hn
    simp only [isinD, Option.some.injEq] at h
    subst h
    rw [rep_non r]
    refine ⟨_, .base .non, fun u e => ?_, ?_⟩
    · subst e
      exact kit_non (by simpa using hb)
    · rw [gen _ (fun _ => false) (fun u hu => kit_non hu) ts hb]
      simp
  · have h' : (tyD d st).map (fun t => ts.any (isTy t)) = some b := by
      cases d <;> first | exact absurd rfl hn | exact h
    rw [Option.map_eq_some_iff] at h'
    obtain ⟨t, e, rfl⟩ := h'
    have tb := tyD_B e
    refine ⟨_, tyX_of sr r e, fun u e => ?_, gen _ (isTy t) (fun u hu => kit_tys tb hu) ts hb⟩
    subst e
    simp only [List.all_cons, List.all_nil, Bool.and_true] at hb
    rw [kit_tys tb hb]
    simp
theorem e_isi {t : Ty} {T : Str} {p p' : Pos} {nm : Str} (hK : B.K = X.K) (hnm : nm = "isinstance") (hg : Gl X nm) (hm : X.mg nm = none) (hgT : Gl X T) (hmT : X.mg T = none) (hv : bootBuiltins T = some (.type (tyN t))) (hn : T ≠ "__name__") (hd : (T == ("__debug__" : Str)) = false) (hb : tyB t = true)
    (hs : isStar a = false) (ha : PE X a (tE B eva)) : PE X (.Call (.Name nm p) [a, .Name T p'] [] pos) (tE B fun sl st => (eva sl st).bind fun x st1 => ofO ((isinD x [t] st1).map .bl) st1) := by
  subst hnm
  have hT : PE X (.Name T p') (tC (.ty (tyN t))) := pe_bltn hgT hmT hv rfl hn hd
  refine PE.imp (pe_callB call_isi hg hm (by decide +kernel) (pa_cons ha (pa_cons hT pa_nil rfl) (star_cons hs)) (by decide) (by decide) (star_cons hs) rfl) fun σ H Q ⟨W, sl, st, h1, h2, h3, h4, h5⟩ => ?_
  refine tE_then h1 h2 h3 h4 h5 fun x st1 W1 H1 v k1 k2 k3 k4 r1 l1 q1 => ?_
  obtain ⟨d, e1, q3⟩ := post_ofO q1
  rw [Option.map_eq_some_iff] at e1
  obtain ⟨k, e1, rfl⟩ := e1
  obtain ⟨t', x1, x2, _⟩ := isin_one k4 r1 (ts := [t]) (by simpa using hb) e1
  rw [k1, hK] at x1 x2
  exact ⟨v, _, t', _, k, rfl, .ty _, x1, x2 _ rfl, post_here k4 repB q3⟩
/-! a dict, a list that comes to stand still -/
theorem e_frz (ha : PE X a (tE B eva)) : PE X a (tE B fun sl st => (eva sl st).bind fun x st1 => frzD x st1) := by
  refine PE.imp ha fun σ H Q ⟨W, sl, st, h1, h2, h3, h4, h5⟩ => ?_
  refine tE_then h1 h2 h3 h4 h5 fun x st1 W1 H1 v k1 k2 k3 k4 r1 l1 q1 => ?_
  unfold frzD at q1
  split at q1 <;> first | exact q1.elim | skip
  rename_i m
  simp only [Rep] at r1
  obtain ⟨p, ea, rfl⟩ := r1
  split at q1
  · rename_i xs e
    obtain ⟨f, vs, hH, rq⟩ := k4.lstCell e ea
    refine q1 (W1.still p (.lst vs)) H1 _ (le_still f) (k4.freeze e ea f hH) ?_
    simp only [Rep]
    exact ⟨p, vs, rfl, .inl upd_same, rq.mono (le_still f)⟩
  · rename_i xs e
    obtain ⟨f, vs, hH, rq⟩ := k4.dctCell e ea
    refine q1 (W1.still p (.dK vs)) H1 _ (le_still f) (k4.freeze e ea f hH) ?_
    simp only [Rep]
    exact ⟨p, vs, rfl, upd_same, rq.mono (le_still f)⟩
  · exact q1.elim
theorem e_dct0 (mt : Bool) : PE X (.Dict [] [] pos) (tE B fun sl st => (Res.ok (α := List D) [] st).bind fun ds st1 => match pairUp ds with
    | some kvs => if kvs.length ≤ 15 then mkK mt (mergeD [] kvs) st1 else .stuck
    | none => .stuck) := by
  refine PE.imp pe_dnewK fun σ H Q ⟨W, sl, st, h1, h2, h3, h4, h5⟩ => ?_
  exact post_mkK h4 (xs := []) .nil h5
/-! slices with a step -/
def tSlx (K : PySem.W.Frag) (te : TE) (ts : TO) : TE := fun σ H Q => te σ H fun x H1 => ts σ H1 fun o H2 => ∃ a xs zs, x = .ref a ∧ SqL K H2 a xs ∧ ((o = some 1 ∧ zs = xs) ∨ (o = some (-1) ∧ zs = xs.reverse)) ∧ ∀ p, H2 p = none → Q (.ref p) (upd H2 p (.lst zs))
theorem slicePick_one (items : Array Value) : slicePick items none none (some 1) = items := slicePick_all items
theorem pe_slx {e s1 : Expr} {te : TE} {ts : TO} {p3 pos : Pos} (he : PE X e te) (hs : PO X (some s1) ts) : PE X (.Subscript e (.Slice none none (some s1) p3) pos) (tSlx X.K te ts) := by
  refine ⟨fun pins s σ H Q I h => ?_⟩
  refine Subscript_ (thn (he.run pins s σ H _ I h) fun v s1 ⟨x, H1, I1, r1, q1⟩ => ?_)
  refine wpAny_Slice (thn (po_none.run pins s1 σ H1 (fun o H2 => o = none ∧ H2 = H1) I1 ⟨rfl, rfl⟩) fun vl s2 ⟨l, H2, I2, pl, el, e2⟩ => ?_)
  subst el e2
  refine thn (po_none.run pins s2 σ H2 (fun o H3 => o = none ∧ H3 = H2) I2 ⟨rfl, rfl⟩) fun vu s3 ⟨u, H3, I3, pu, eu, e3⟩ => ?_
  subst eu e3
  refine thn (hs.run pins s3 σ H3 _ I3 q1) fun vs s4 ⟨o, H4, I4, ps, q⟩ => ?_
  obtain ⟨a, xs, zs, ex, hx, ho, q⟩ := q
  subst ex
  cases r1
  have I5 : Inv X pins σ H4 { s4 with heap := s4.heap.push { cls := .type "slice", data := .fields #[vl, vu, vs] } } := I4.kept (t' := s4.toks) fun b ob q => Heap.get?_push_of_some _ q
  obtain ⟨its, r, ht, hz⟩ := I5.list hx
  have hlen := r.length
  refine tail_any (ops := [.ref a, .ref s4.heap.objs.size]) ht.isList.typeIs (PySem.slot_list_getitem.lookup) ?_ (by with_unfolding_all rfl)
  have sz : its.toArray.size ≤ sizeLine := by rw [List.size_toArray]; omega
  rcases ho with ⟨rfl, rfl⟩ | ⟨rfl, rfl⟩
  · refine wpAny_getItem_list_slice ht.isList (Heap.IsSliceOf.new _ vl vu vs) pl pu ps (by decide) ?_ sz
    rw [slicePick_one]
    refine ⟨.ref _, _, I5.laid (t' := s4.toks) (o := .lst zs) (fun b ob q => Heap.get?_push_of_some _ q) (Nat.le_refl _) ?_, rfl, q _ (I5.hok.fresh (Nat.le_refl _))⟩
    exact ⟨hz, _, 0, r, Heap.get?_push_size _ rfl⟩
  · refine wpAny_getItem_list_slice ht.isList (Heap.IsSliceOf.new _ vl vu vs) pl pu ps (by decide) ?_ sz
    rw [PySem.W.krv_pick]
    refine ⟨.ref _, _, I5.laid (t' := s4.toks) (o := .lst xs.reverse) (fun b ob q => Heap.get?_push_of_some _ q) (Nat.le_refl _) ?_, rfl, q _ (I5.hok.fresh (Nat.le_refl _))⟩
    exact ⟨by rw [List.length_reverse]; exact hz, _, 0, r.reverse, Heap.get?_push_size _ rfl⟩
theorem e_slx {s1 : Expr} {p3 : Pos} (hK : B.K = X.K) (ha : PE X a (tE B eva)) (hs : PE X s1 (tE B evb)) : PE X (.Subscript a (.Slice none none (some s1) p3) pos) (tE B fun sl st => (eva sl st).bind fun x st1 => (evb sl st1).bind fun k st2 => match asL x st2, k with
    | some xs, .int 1 => .ok (.lst xs) st2
    | some xs, .int (-1) => .ok (.lst xs.reverse) st2
    | _, _ => .stuck) := by
  refine PE.imp (pe_slx ha (o_some hs)) fun σ H Q ⟨W, sl, st, h1, h2, h3, h4, h5⟩ => ?_
  refine tE_then h1 h2 h3 h4 h5 fun x st1 W1 H1 v k1 k2 k3 k4 r1 l1 q1 => ?_
  refine tO_then (Q := Q) (f := fun o st2 => match asL x st2, o with
    | some xs, some 1 => .ok (.lst xs) st2
    | some xs, some (-1) => .ok (.lst xs.reverse) st2
    | _, _ => .stuck) k1 k2 k3 k4 ?_ fun o st2 W2 H2 m1 m2 m3 m4 l2 q2 => ?_
  · rw [bind_assoc]
    have e : (fun (k : D) (st2 : Store) => (match asL x st2, k with
      | some xs, .int 1 => .ok (.lst xs) st2
      | some xs, .int (-1) => .ok (.lst xs.reverse) st2
      | _, _ => .stuck : Res D)) = fun k st2 => (match k with | .int i => Res.ok (some i) st2 | _ => .stuck : Res (Option Int)).bind fun o st2 => match asL x st2, o with
      | some xs, some 1 => .ok (.lst xs) st2
      | some xs, some (-1) => .ok (.lst xs.reverse) st2
      | _, _ => .stuck := by
      funext k st2
      cases k with
      | int i =>
        show _ = (match asL x st2, some i with
          | some xs, some 1 => .ok (.lst xs) st2
          | some xs, some (-1) => .ok (.lst xs.reverse) st2
          | _, _ => .stuck : Res D)
        cases asL x st2 with
        | none => rfl
        | some xs =>
          by_cases e1 : i = 1
          · subst e1; rfl
          · by_cases e2 : i = -1
            · subst e2; rfl
            · split <;> split <;> simp_all
      | _ => cases asL x st2 <;> rfl
    rw [e] at q1
    exact q1
  · split at q2
    · rename_i xs e1
      obtain ⟨p, vs, rfl, hq, rq⟩ := asL_V m4 (r1.mono l2) e1
      exact ⟨p, vs, vs, rfl, .inl hq, .inl ⟨rfl, rfl⟩, post_lst m4 rq q2⟩
    · rename_i xs e1
      obtain ⟨p, vs, rfl, hq, rq⟩ := asL_V m4 (r1.mono l2) e1
      exact ⟨p, vs, vs.reverse, rfl, .inl hq, .inr ⟨rfl, rfl⟩, post_lst m4 rq.reverse q2⟩
    · exact q2.elim
end
end TM
set_option maxHeartbeats 1000000
/-! TM, part M: what is walked, targets, list comprehensions. -/
namespace TM
open PySem PySem.Spec PyProof.Rows L2
/-! ### what is walked -/
def Wk (W : Wo) (J : It) (it : Itr) : Prop := ∀ W' st' H', Li W W' → SR W' st' H' → srcOk it.src st' = true → ∀ i,
  (i < it.items.length → J.go i H' ∧ ∀ x H2, J.yld i H' x H2 → ∃ W2 d, Le W' W2 ∧ SR W2 st' H2 ∧ it.items[i]? = some d ∧ Rep W2 d x) ∧ (i = it.items.length → J.stop i H')
def tI (B : Bx) (ev : Slots → Store → Res Itr) : TI := fun σ H R => ∃ W sl st, W.K = B.K ∧ W.CA = B.CA ∧ SlR W sl σ ∧ SR W st H ∧ (match ev sl st with
  | .ok it st' => ∀ W' H' J, Le W W' → SR W' st' H' → Wk W' J it → R J H'
  | .exc C fs st' => PostX W B.E C fs st'
  | .stuck => False)
theorem PI.imp {X : Cx} {tg e : Expr} {t t' : TI} (h : PI X tg e t) (k : ∀ σ H Q, t' σ H Q → t σ H Q) : PI X tg e t' := ⟨fun pins s σ H Q I q => h.run pins s σ H Q I (k σ H Q q)⟩
theorem PI.or {X : Cx} {tg e : Expr} {t t' : TI} (h : PI X tg e t) (h' : PI X tg e t') : PI X tg e (fun σ H R => t σ H R ∨ t' σ H R) := ⟨fun pins s σ H Q I q => q.elim (h.run pins s σ H Q I) (h'.run pins s σ H Q I)⟩
theorem getE {α : Type} {xs : List α} {i : Nat} (h : i < xs.length) : ∃ x, xs[i]? = some x := ⟨xs[i], List.getElem?_eq_getElem h⟩
/-- a list's walk -/
theorem wk_seq {W : Wo} {it : Itr} {J : It} (vs : List V) (P : Hp → Prop) (hP : ∀ W' st' H', Li W W' → SR W' st' H' → srcOk it.src st' = true → ∃ vs, RepL W' it.items vs ∧
    ∀ i, (∀ x, vs[i]? = some x → J.go i H') ∧ (∀ x H2, J.yld i H' x H2 → H2 = H' ∧ vs[i]? = some x) ∧ (i = vs.length → J.stop i H')) : Wk W J it := by
  intro W' st' H' l s ok i
  obtain ⟨vs, r, h⟩ := hP W' st' H' l s ok
  obtain ⟨h1, h2, h3⟩ := h i
  have hl := r.length
  refine ⟨fun hi => ?_, fun hi => h3 (by omega)⟩
  obtain ⟨d, ed⟩ := getE hi
  obtain ⟨v, ev, rv⟩ := r.get ed
  refine ⟨h1 v ev, fun x H2 y => ?_⟩
  obtain ⟨rfl, ex⟩ := h2 x H2 y
  rw [ev] at ex
  cases ex
  exact ⟨W', d, Le.refl W', s, ed, rv⟩
theorem wk_list {W : Wo} {a : Addr} {it : Itr} (h : ∀ W' st' H', Li W W' → SR W' st' H' → srcOk it.src st' = true → ∃ vs, SqL W.K H' a vs ∧ RepL W' it.items vs)
    (inj : ∀ H xs ys, SqL W.K H a xs → SqL W.K H a ys → xs = ys) : Wk W (Itl W.K a) it := by
  refine wk_seq [] (fun _ => True) fun W' st' H' l s ok => ?_
  obtain ⟨vs, q, r⟩ := h W' st' H' l s ok
  exact ⟨vs, r, fun i => ⟨fun x e => ⟨vs, x, q, e⟩, fun x H2 y => ⟨y.1, y.2 vs q⟩, fun e => ⟨vs, q, by omega⟩⟩⟩
theorem signs_get {x : Str} {i : Nat} {c : Nat} (h : x.cps[i]? = some c) : (signs x)[i]? = some (.str ⟨#[c]⟩) := by
  unfold signs
  rw [List.getElem?_map, Array.getElem?_toList, h]
  rfl
theorem signs_len {x : Str} : (signs x).length = x.cps.size := by
  unfold signs
  rw [List.length_map, Array.length_toList]
section
variable {X : Cx} {B : Bx} {n : Nat} {a b c e tg : Expr} {es rest : List Expr} {pos : Pos} {eva evb evc : Ev} {evs : Slots → Store → Res (List D)}
theorem i_e (hK : B.K = X.K) (ha : PE X a (tE B eva)) : PI X tg a (tI B fun sl st => (eva sl st).bind fun x st1 => ofO (itD x st1) st1) := by
  refine PI.imp (PI.or (PI.or (pi_list ha) (pi_tup ha)) (pi_str ha)) fun σ H R ⟨W, sl, st, h1, h2, h3, h4, h5⟩ => ?_
  dsimp only at h5
  cases hr : eva sl st with
  | stuck =>
    rw [hr] at h5
    exact h5.elim
  | exc C fs st' =>
    rw [hr] at h5
    exact .inl (.inl ⟨W, sl, st, h1, h2, h3, h4, by rw [hr]; exact h5⟩)
  | ok x st1 =>
    rw [hr, Res.bind_ok] at h5
    cases x with
    | tup xs =>
      refine .inl (.inr ⟨W, sl, st, h1, h2, h3, h4, ?_⟩)
      rw [hr]
      intro W1 H1 v l1 s1 r1
      obtain ⟨p, vs, rfl, hq, rq⟩ := asT_V s1 r1
      have eK : W1.K = X.K := (l1.K.trans h1).trans hK
      rw [← eK]
      refine ⟨p, rfl, ⟨vs, hq⟩, h5 W1 H1 _ l1 s1 ?_⟩
      refine wk_seq [] (fun _ => True) fun W' st' H' l s ok => ?_
      simp only [Rep] at r1
      obtain ⟨p', vs', ep, q, r⟩ := r1
      cases ep
      have q' := sqT_H s.still (sqT_mono l.F q)
      exact ⟨vs', r.mono' l, fun i => ⟨fun x e => ⟨vs', x, q', e⟩, fun x H2 y => ⟨y.1, y.2 vs' q'⟩, fun e => ⟨vs', q', by omega⟩⟩⟩
    | lst xs =>
      refine .inl (.inl ⟨W, sl, st, h1, h2, h3, h4, ?_⟩)
      rw [hr]
      intro W1 H1 v l1 s1 r1
      obtain ⟨p, vs, rfl, hq, rq⟩ := asL_V s1 r1 (xs := xs) rfl
      have eK : W1.K = X.K := (l1.K.trans h1).trans hK
      rw [← eK]
      refine ⟨p, rfl, ⟨vs, .inl hq⟩, h5 W1 H1 _ l1 s1 ?_⟩
      refine wk_seq [] (fun _ => True) fun W' st' H' l s ok => ?_
      simp only [Rep] at r1
      obtain ⟨p', vs', ep, q, r⟩ := r1
      cases ep
      have q' : SqL W1.K H' p vs' := .inl (rd_H s.still (rd_mono l.F q))
      exact ⟨vs', r.mono' l, fun i => ⟨fun x e => ⟨vs', x, q', e⟩, fun x H2 y => ⟨y.1, y.2 vs' q'⟩, fun e => ⟨vs', q', by omega⟩⟩⟩
    | loc m =>
      simp only [itD] at h5
      cases hl : lstAt st1 m with
      | none =>
        rw [hl] at h5
        exact h5.elim
      | some xs =>
        rw [hl] at h5
        refine .inl (.inl ⟨W, sl, st, h1, h2, h3, h4, ?_⟩)
        rw [hr]
        intro W1 H1 v l1 s1 r1
        obtain ⟨p, vs, rfl, hq, rq⟩ := asL_V s1 r1 (xs := xs) hl
        have eK : W1.K = X.K := (l1.K.trans h1).trans hK
        rw [← eK]
        refine ⟨p, rfl, ⟨vs, .inl hq⟩, h5 W1 H1 _ l1 s1 ?_⟩
        refine wk_seq [] (fun _ => True) fun W' st' H' l s ok => ?_
        simp only [Rep] at r1
        obtain ⟨p', ea, ep⟩ := r1
        cases ep
        have ok' : st'[m]? = some (.lst xs) := by simpa [srcOk] using ok
        obtain ⟨_, vs', hh, r⟩ := s.lstCell ok' (l.mu _ _ ea)
        have q' : SqL W1.K H' p vs' := .inl (.inl hh)
        exact ⟨vs', r, fun i => ⟨fun x e => ⟨vs', x, q', e⟩, fun x H2 y => ⟨y.1, y.2 vs' q'⟩, fun e => ⟨vs', q', by omega⟩⟩⟩
    | str x =>
      refine .inr ⟨W, sl, st, h1, h2, h3, h4, ?_⟩
      rw [hr]
      intro W1 H1 v l1 s1 r1
      refine ⟨x, rep_str r1, h5 W1 H1 _ l1 s1 ?_⟩
      intro W' st' H' l s ok i
      refine ⟨fun hi => ?_, fun hi => ?_⟩
      · have hi' : i < x.cps.size := by rw [← signs_len]; exact hi
        refine ⟨hi', fun y H2 q => ?_⟩
        obtain ⟨rfl, c, ec, rfl⟩ := q
        exact ⟨W', _, Le.refl W', s, signs_get ec, repS⟩
      · show x.cps.size ≤ i
        rw [← signs_len, hi]
        exact Nat.le_refl _
    | _ => exact h5.elim
theorem rng_wk {W : Wo} {lo : Int} {k : Nat} : Wk W (L2.Itr lo k) ⟨none, (List.range k).map fun (i : Nat) => D.int (lo + (i : Int))⟩ := by
  intro W' st' H' l s ok i
  refine ⟨fun hi => ?_, fun hi => ?_⟩
  · have hi' : i < k := by simpa using hi
    refine ⟨hi', fun y H2 q => ?_⟩
    obtain ⟨rfl, rfl⟩ := q
    refine ⟨W', .int (lo + (i : Int)), Le.refl W', s, ?_, repI⟩
    simp [List.getElem?_range hi']
  · show k ≤ i
    have : i = k := by simpa using hi
    omega
theorem i_rng1 {nm : Str} {p : Pos} (hnm : nm = "range") (hg : Gl X nm) (hm : X.mg nm = none) (hs : isStar a = false) (ha : PA X [a] (tA B evs)) : PI X tg (.Call (.Name nm p) [a] [] pos) (tI B fun sl st => (evs sl st).bind fun ds st1 => if ds.length = 1 then ofO ((rngD ds).map fun xs => ⟨none, xs⟩) st1 else .stuck) := by
  subst hnm
  refine PI.imp (pi_range1 hg hm ha (star_cons hs)) fun σ H R ⟨W, sl, st, h1, h2, h3, h4, h5⟩ => ?_
  refine ⟨W, sl, st, h1, h2, h3, h4, ?_⟩
  dsimp only at h5
  cases hr : evs sl st with
  | stuck => rw [hr] at h5; exact h5.elim
  | exc C fs st' => rw [hr] at h5; exact h5
  | ok ds st1 =>
    rw [hr, Res.bind_ok] at h5
    intro W1 H1 vs l1 s1 r1
    by_cases hlen : ds.length = 1
    · rw [if_pos hlen] at h5
      cases hd : rngD ds with
      | none => rw [hd] at h5; exact h5.elim
      | some xs =>
        rw [hd] at h5
        unfold rngD at hd
        split at hd
        · split at hd
          · rename_i j hb
            cases hd
            obtain ⟨u, rfl, ru⟩ := repL1 r1
            rw [rep_int ru]
            exact ⟨j, rfl, hb.1, hb.2, h5 W1 H1 _ l1 s1 rng_wk⟩
          · cases hd
        · simp at hlen
        · cases hd
    · rw [if_neg hlen] at h5
      exact h5.elim
theorem i_rng2 {nm : Str} {p : Pos} (hnm : nm = "range") (hg : Gl X nm) (hm : X.mg nm = none) (hs : isStar a = false) (hs2 : isStar b = false) (ha : PA X [a, b] (tA B evs)) : PI X tg (.Call (.Name nm p) [a, b] [] pos) (tI B fun sl st => (evs sl st).bind fun ds st1 => if ds.length = 2 then ofO ((rngD ds).map fun xs => ⟨none, xs⟩) st1 else .stuck) := by
  subst hnm
  refine PI.imp (pi_range2 hg hm ha (by rw [star_cons hs, star_cons hs2]; rfl) (star_cons hs2)) fun σ H R ⟨W, sl, st, h1, h2, h3, h4, h5⟩ => ?_
  refine ⟨W, sl, st, h1, h2, h3, h4, ?_⟩
  dsimp only at h5
  cases hr : evs sl st with
  | stuck => rw [hr] at h5; exact h5.elim
  | exc C fs st' => rw [hr] at h5; exact h5
  | ok ds st1 =>
    rw [hr, Res.bind_ok] at h5
    intro W1 H1 vs l1 s1 r1
    by_cases hlen : ds.length = 2
    · rw [if_pos hlen] at h5
      cases hd : rngD ds with
      | none => rw [hd] at h5; exact h5.elim
      | some xs =>
        rw [hd] at h5
        unfold rngD at hd
        split at hd
        · simp at hlen
        · split at hd
          · rename_i j k hb
            cases hd
            obtain ⟨u, w, rfl, ru, rw'⟩ := repL2 r1
            rw [rep_int ru, rep_int rw']
            exact ⟨j, k, rfl, hb, h5 W1 H1 _ l1 s1 rng_wk⟩
          · cases hd
        · cases hd
    · rw [if_neg hlen] at h5
      exact h5.elim
end
/-! ### targets -/
mutual
def tgIx : CT → List Nat
  | .name i => [i]
  | .tup ts => tgIxs ts
termination_by structural t => t
def tgIxs : List CT → List Nat
  | [] => []
  | t :: ts => tgIx t ++ tgIxs ts
termination_by structural t => t
end
def gT (B : Bx) (t : CT) : TG := fun v σ H Q => ∃ W sl st d sl', W.K = B.K ∧ W.CA = B.CA ∧ SlR W sl σ ∧ SR W st H ∧ Rep W d v ∧ asgT t d sl = some sl' ∧ ∀ σ', SlR W sl' σ' → (∀ vs, (∀ i ∈ tgIx t, i ∈ vs) → wipe σ' vs = wipe σ vs) → Q σ' H
def gTs (B : Bx) (ts : List CT) : TGs := fun v σ H Q => ∃ W sl st d sl', W.K = B.K ∧ W.CA = B.CA ∧ SlR W sl σ ∧ SR W st H ∧ RepL W d v ∧ asgTs ts d sl = some sl' ∧ ∀ σ', SlR W sl' σ' → (∀ vs, (∀ i ∈ tgIxs ts, i ∈ vs) → wipe σ' vs = wipe σ vs) → Q σ' H
theorem wipe_at {σ : Sg} : ∀ {vs : List Nat} (i : Nat), (wipe σ vs)[i]? = if i ∈ vs then (if i < σ.length then some none else none) else σ[i]?
  | [], i => by simp [wipe]
  | v :: vs, i => by
    unfold wipe
    rw [List.getElem?_set, wipe_at i]
    by_cases h : v = i
    · subst h
      simp [wipe_length]
    · rw [if_neg h]
      have h' : ¬ i = v := fun z => h z.symm
      by_cases h2 : i ∈ vs <;> simp [h2, h']
theorem wipe_set {σ : Sg} {i : Nat} {v : Option V} {vs : List Nat} (h : i ∈ vs) : wipe (σ.set i v) vs = wipe σ vs := by
  apply List.ext_getElem?
  intro j
  rw [wipe_at, wipe_at]
  by_cases hj : j ∈ vs
  · simp [hj]
  · rw [if_neg hj, if_neg hj, List.getElem?_set_ne]
    exact fun z => hj (z ▸ h)
theorem wipe_idem {σ : Sg} {vs : List Nat} : wipe (wipe σ vs) vs = wipe σ vs := by
  apply List.ext_getElem?
  intro j
  rw [wipe_at, wipe_length, wipe_at]
  by_cases hj : j ∈ vs <;> simp [hj]
section
variable {X : Cx} {B : Bx} {e : Expr} {es : List Expr} {pos : Pos}
theorem PG.imp {X : Cx} {e : Expr} {t t' : TG} (h : PG X e t) (k : ∀ v σ H Q, t' v σ H Q → t v σ H Q) : PG X e t' := ⟨fun pins s σ H v u Q I r q => h.run pins s σ H v u Q I r (k v σ H Q q)⟩
theorem PGs.imp {X : Cx} {e : List Expr} {t t' : TGs} (h : PGs X e t) (k : ∀ v σ H Q, t' v σ H Q → t v σ H Q) : PGs X e t' := ⟨fun pins s σ H v u Q I r q => h.run pins s σ H v u Q I r (k v σ H Q q)⟩
theorem g_name {i : Nat} {x : Str} (hN : X.N.Nodup) (hi : X.N[i]? = some x) (hx : Loc X.env.scope x) (hf : X.fn x = true ∨ X.env.scope.names.lookup x = some .local) : PG X (.Name x pos) (gT B (.name i)) := by
  refine PG.imp (pg_name hN hi hx hf) fun v σ H Q ⟨W, sl, st, d, sl', h1, h2, h3, h4, r, e, k⟩ => ?_
  simp only [asgT] at e
  split at e
  · cases e
    exact k _ (h3.set r i) fun vs hv => wipe_set (hv i (by simp [tgIx]))
  · cases e
theorem g_nil : PGs X [] (gTs B []) := by
  refine PGs.imp pgs_nil fun v σ H Q ⟨W, sl, st, d, sl', h1, h2, h3, h4, r, e, k⟩ => ?_
  simp only [asgTs] at e
  split at e
  · cases e
    simp only [RepL] at r
    exact ⟨r, k σ h3 fun _ _ => rfl⟩
  · cases e
theorem g_cons {t : CT} {ts : List CT} (hs : (assignEach (e :: es) X.env).map (·.2) = assign e X.env :: (assignEach es X.env).map (·.2)) (h1 : PG X e (gT B t)) (h2 : PGs X es (gTs B ts)) : PGs X (e :: es) (gTs B (t :: ts)) := by
  refine PGs.imp (pgs_cons h1 h2 hs) fun v σ H Q ⟨W, sl, st, d, sl', k1, k2, k3, k4, r, e, k⟩ => ?_
  simp only [asgTs] at e
  split at e
  · rename_i d ds
    simp only [RepL] at r
    obtain ⟨u, us, rfl, r1, r2⟩ := r
    rw [Option.bind_eq_some_iff] at e
    obtain ⟨sl1, e1, e2⟩ := e
    refine ⟨u, us, rfl, W, sl, st, d, sl1, k1, k2, k3, k4, r1, e1, fun σ1 s1 w1 => ?_⟩
    refine ⟨W, sl1, st, ds, sl', k1, k2, s1, k4, r2, e2, fun σ2 s2 w2 => k σ2 s2 fun vs hv => ?_⟩
    have i1 : ∀ i ∈ tgIx t, i ∈ vs := fun i hi => hv i (by simp [tgIxs, hi])
    have i2 : ∀ i ∈ tgIxs ts, i ∈ vs := fun i hi => hv i (by simp [tgIxs, hi])
    rw [w2 vs i2, w1 vs i1]
  · cases e
theorem g_tup {ts : List CT} {k : Nat} (hK : B.K = X.K) (hc : X.calm = true) (hl : es.length = ts.length) (hn : (assignEach es X.env).length = ts.length) (hst : (assignEach es X.env).findIdx? (·.1) = none) (h : PGs X es (gTs B ts)) : PG X (.Tuple es k pos) (gT B (.tup ts)) := by
  refine PG.imp (pg_tup hc h hn hst) fun v σ H Q ⟨W, sl, st, d, sl', k1, k2, k3, k4, r, e, q⟩ => ?_
  simp only [asgT] at e
  split at e <;> first | (cases e; done) | skip
  split at e <;> first | (cases e; done) | skip
  rename_i ds hz
  obtain ⟨p, vs, rfl, hq, rq⟩ := asT_V k4 r
  rw [k1, hK] at hq
  refine ⟨p, vs, rfl, hq, by rw [rq.length, hz], W, sl, st, ds, sl', k1, k2, k3, k4, rq, e, fun σ' s' w' => q σ' s' fun vs hv => w' vs fun i hi => hv i (by simpa [tgIx] using hi)⟩
end
/-! ### comprehensions -/
def lcF (evt : Slots → Store → Res Bool) (eve : Ev) (t : CT) (vs : List Nat) (sl : Slots) : D → Store → Res (Option D) := fun d st' => match asgT t d (wipeD sl vs) with
  | none => .stuck
  | some sl' => (evt sl' st').bind fun b st2 => if b then (eve sl' st2).bind fun v st3 => .ok (some v) st3 else .ok none st2
theorem lcF_none {evt : Slots → Store → Res Bool} {eve : Ev} {t : CT} {vs : List Nat} {sl : Slots} {d : D} {st : Store} (h : asgT t d (wipeD sl vs) = none) : lcF evt eve t vs sl d st = .stuck := by
  unfold lcF
  rw [h]
theorem lcF_some {evt : Slots → Store → Res Bool} {eve : Ev} {t : CT} {vs : List Nat} {sl sl' : Slots} {d : D} {st : Store} (h : asgT t d (wipeD sl vs) = some sl') : lcF evt eve t vs sl d st = (evt sl' st).bind fun b st2 => if b then (eve sl' st2).bind fun v st3 => .ok (some v) st3 else .ok none st2 := by
  unfold lcF
  rw [h]
def tB (B : Bx) (ev : Slots → Store → Res Bool) : TT := fun σ H Q => ∃ W sl st, W.K = B.K ∧ W.CA = B.CA ∧ SlR W sl σ ∧ SR W st H ∧ PostB W B.E (ev sl st) Q
theorem lc_end {W0 W1 : Wo} {E : XK} {st : Store} {H : Hp} {Q : VK} {D0 : Addr} {acc : List D} {accV : List V} {mt : Bool} (l : Li W0 W1) (hG0 : W0.G D0 = none) (hG : W1.G = upd W0.G D0 (.lst accV)) (s : SR W1 st H) (r : RepL W1 acc accV) (q : Post W0 E (mkL mt acc st) Q) : Q (.ref D0) H := by
  have fo := s.fo D0 (.lst accV) (by rw [hG]; exact upd_same)
  obtain ⟨f1, f2, f3⟩ := fo
  have s2 : SR (W1.with W0.G) st H := s.drop W0.G fun a o e => by
    rw [hG, upd_ne (fun z => by rw [z, hG0] at e; cases e)]
    exact e
  have l2 : Le W0 (W1.with W0.G) := ⟨l.K, l.CA, l.F, l.mu, rfl⟩
  have r2 : RepL (W1.with W0.G) acc accV := r.mono' li_with
  cases mt with
  | false =>
    have q' : Post W0 E (.ok (.lst acc) st) Q := by simpa [mkL] using q
    have lf : Le (W1.with W0.G) ((W1.with W0.G).still D0 (.lst accV)) := le_still f2
    refine q' ((W1.with W0.G).still D0 (.lst accV)) H _ (l2.trans lf) (s2.settle f1 f2 f3 hG0) ?_
    simp only [Rep]
    exact ⟨D0, accV, rfl, .inl upd_same, r2.mono lf⟩
  | true =>
    have q' : Post W0 E (.ok (.loc st.length) (st ++ [.lst acc])) Q := by simpa [mkL] using q
    refine q' ((W1.with W0.G).cell D0) H _ (l2.trans le_cell) (s2.join f1 f3 hG0 ⟨f2, accV, f1, r2.mono le_cell⟩) ?_
    simp only [Rep]
    refine ⟨D0, ?_, rfl⟩
    show (W1.mu ++ [D0])[st.length]? = some D0
    rw [← s.len, List.getElem?_append_right (Nat.le_refl _)]
    simp
/-- the state at a turn -/
structure LcAt (B : Bx) (W0 : Wo) (sl : Slots) (σ : Sg) (D0 : Addr) (mt : Bool) (src : Option (Nat × List D)) (f : D → Store → Res (Option D)) (items : List D) (Q : VK) (i : Nat) (H : Hp) : Prop where
  ex : ∃ W1 st acc accV, W1.K = B.K ∧ W1.CA = B.CA ∧ Li W0 W1 ∧ W1.G = upd W0.G D0 (.lst accV) ∧ SlR W1 sl σ ∧ SR W1 st H ∧ RepL W1 acc accV ∧ Post W0 B.E ((lcLoop src f (items.drop i) acc st).bind fun vs st2 => mkL mt vs st2) Q
section
variable {X : Cx} {B : Bx}
theorem lc_run {E : XK} {W0 : Wo} {sl : Slots} {σ : Sg} {H1 : Hp} {D0 : Addr} {mt : Bool} {J : It} {it : Itr} {t : CT} {vs : List Nat} {evt : Slots → Store → Res Bool} {eve : Ev} {Q : VK} {st : Store} (hE : B.E = E)
    (hti : ∀ i ∈ tgIx t, i ∈ vs) (h1 : W0.K = B.K) (h2 : W0.CA = B.CA) (h3 : SlR W0 sl σ) (h4 : SR W0 st H1) (hw : Wk W0 J it) (hD : H1 D0 = none) (hq : Post W0 B.E ((lcLoop it.src (lcF evt eve t vs sl) it.items [] st).bind fun vs st2 => mkL mt vs st2) Q) :
    ∃ W : Nat → Nat → Hp → Prop, (∃ m, W 0 m (upd H1 D0 (.lst []))) ∧ ∀ i m H, W i m H →
      (J.stop i H ∧ Q (.ref D0) H) ∨ (J.go i H ∧ ∃ Nx : Hp → Prop, (∀ H', Nx H' → ∃ m', m' < m ∧ W (i + 1) m' H') ∧ ∀ x H', J.yld i H x H' → gT B t x (wipe σ vs) H' fun σ2 H2 => wipe σ2 vs = wipe σ vs ∧ tB B evt σ2 H2 fun b H3 =>
        if b = true then tE B eve σ2 H3 fun y H4 => ∃ acc, H4 D0 = some (.lst acc) ∧ acc.length < sizeLine ∧ Nx (upd H4 D0 (.lst (acc ++ [y]))) else Nx H3) := by
  have hG0 : W0.G D0 = none := by
    cases e : W0.G D0 with
    | none => rfl
    | some o =>
      have := (h4.fo D0 o e).1
      rw [hD] at this
      cases this
  refine ⟨fun i m H => m = it.items.length - i ∧ i ≤ it.items.length ∧ LcAt B W0 sl σ D0 mt it.src (lcF evt eve t vs sl) it.items Q i H, ⟨_, rfl, Nat.zero_le _, ⟨W0.apart D0 (.lst []), st, [], [], h1, h2, li_apart, rfl, h3.mono' li_apart, h4.laid hD _, .nil, hq⟩⟩, ?_⟩
  rintro i m H ⟨rfl, hi, ⟨W1, st1, acc, accV, k1, k2, l, hG, k3, k4, kr, kq⟩⟩
  by_cases hlt : i < it.items.length
  · obtain ⟨d, ed⟩ := getE hlt
    have edrop : it.items.drop i = d :: it.items.drop (i + 1) := by
      obtain ⟨h, e⟩ := List.getElem?_eq_some_iff.mp ed
      rw [← e]
      exact List.drop_eq_getElem_cons h
    rw [edrop] at kq
    unfold lcLoop at kq
    cases hs : srcOk it.src st1 with
    | false =>
      rw [hs] at kq
      exact kq.elim
    | true =>
      rw [hs, if_pos rfl] at kq
      obtain ⟨hgo, hy⟩ := (hw W1 st1 H l k4 hs i).1 hlt
      refine .inr ⟨hgo, fun H' => LcAt B W0 sl σ D0 mt it.src (lcF evt eve t vs sl) it.items Q (i + 1) H', fun H' p => ⟨_, by omega, rfl, by omega, p⟩, fun x H' y => ?_⟩
      obtain ⟨W2, d', l2, s2, ed', r2⟩ := hy x H' y
      rw [ed] at ed'
      cases ed'
      cases ha : asgT t d (wipeD sl vs) with
      | none =>
        rw [lcF_none ha] at kq
        exact kq.elim
      | some sl' =>
        rw [lcF_some ha] at kq
        refine ⟨W2, wipeD sl vs, st1, d, sl', l2.K.trans k1, l2.CA.trans k2, (k3.mono l2).wipe vs, s2, r2, ha, fun σ2 sr2 wp => ⟨by rw [wp vs hti, wipe_idem], ?_⟩⟩
        refine ⟨W2, sl', st1, l2.K.trans k1, l2.CA.trans k2, sr2, s2, ?_⟩
        cases ht : evt sl' st1 with
        | stuck =>
          rw [ht] at kq
          exact kq.elim
        | exc C fs st' =>
          rw [ht] at kq
          exact kq.elim
        | ok b st2 =>
          rw [ht] at kq
          intro W3 H3 l3 s3
          cases b with
          | false =>
            rw [Res.bind_ok] at kq
            simp only [Bool.false_eq_true, if_false] at kq ⊢
            have l13 := l2.trans l3
            exact ⟨W3, st2, acc, accV, l13.K.trans k1, l13.CA.trans k2, ⟨(l13.K.trans l.K), l13.CA.trans l.CA, fun a o e => l13.F a o (l.F a o e), fun n a e => l13.mu n a (l.mu n a e)⟩, l13.G.trans hG, k3.mono l13, s3, kr.mono l13, kq⟩
          | true =>
            rw [Res.bind_ok] at kq
            simp only [if_true] at kq ⊢
            refine ⟨W3, sl', st2, l3.K.trans (l2.K.trans k1), l3.CA.trans (l2.CA.trans k2), sr2.mono l3, s3, ?_⟩
            cases he : eve sl' st2 with
            | stuck =>
              rw [he] at kq
              exact kq.elim
            | exc C fs st' =>
              rw [he] at kq
              exact kq.elim
            | ok v st3 =>
              rw [he] at kq
              intro W4 H4 y4 l4 s4 r4
              rw [Res.bind_ok] at kq
              dsimp only at kq
              have l14 := (l2.trans l3).trans l4
              have eG : W4.G D0 = some (.lst accV) := by rw [l14.G, hG]; exact upd_same
              have f4 := s4.fo D0 _ eG
              split at kq
              · rename_i hz
                have rl := kr.length
                refine ⟨accV, f4.1, by omega, ⟨W4.apart D0 (.lst (accV ++ [y4])), st3, acc ++ [v], accV ++ [y4], l14.K.trans k1, l14.CA.trans k2, ?_, ?_, (k3.mono l14).mono' li_apart, s4.turn eG (fun _ z => nomatch z) _, ((kr.mono l14).snoc r4).mono' li_apart, kq⟩⟩
                · exact ⟨l14.K.trans l.K, l14.CA.trans l.CA, fun a o e => l14.F a o (l.F a o e), fun n a e => l14.mu n a (l.mu n a e)⟩
                · show upd W4.G D0 _ = _
                  rw [l14.G, hG]
                  funext a
                  by_cases h : a = D0
                  · subst h
                    rw [upd_same, upd_same]
                  · rw [upd_ne h, upd_ne h, upd_ne h]
              · exact kq.elim
  · have ei : i = it.items.length := by omega
    subst ei
    rw [List.drop_length] at kq
    unfold lcLoop at kq
    cases hs : srcOk it.src st1 with
    | false =>
      rw [hs] at kq
      exact kq.elim
    | true =>
      rw [hs, if_pos rfl, Res.bind_ok] at kq
      exact .inl ⟨(hw W1 st1 H l k4 hs _).2 rfl, lc_end l hG0 hG k4 kr kq⟩
theorem tLc_of {iter : Expr} {mt : Bool} {t : CT} {vs : List Nat} {evi : Slots → Store → Res Itr} {evt : Slots → Store → Res Bool} {eve : Ev} (hti : ∀ i ∈ tgIx t, i ∈ vs) {σ : Sg} {H : Hp} {Q : VK}
    (h : tE B (fun sl st => (evi sl st).bind fun J st1 => (lcLoop J.src (lcF evt eve t vs sl) J.items [] st1).bind fun vs st2 => mkL mt vs st2) σ H Q) : tLc (tI B evi) (gT B t) (tB B evt) (tE B eve) vs σ H Q := by
  obtain ⟨W, sl, st, h1, h2, h3, h4, h5⟩ := h
  refine ⟨W, sl, st, h1, h2, h3, h4, ?_⟩
  dsimp only at h5
  cases hr : evi sl st with
  | stuck => rw [hr] at h5; exact h5.elim
  | exc C fs st' => rw [hr] at h5; exact h5
  | ok it st1 =>
    rw [hr, Res.bind_ok] at h5
    intro W1 H1 J l1 s1 wk D0 hD
    exact lc_run rfl hti (l1.K.trans h1) (l1.CA.trans h2) (h3.mono l1) s1 wk hD (Post.mono l1 h5)
/-- the tests -/
theorem PTs.imp {X : Cx} {e : List Expr} {t t' : TT} (h : PTs X e t) (k : ∀ σ H Q, t' σ H Q → t σ H Q) : PTs X e t' := ⟨fun pins s σ H Q I q => h.run pins s σ H Q I (k σ H Q q)⟩
theorem ts_nil : PTs X [] (tB B fun _ st => .ok true st) := PTs.imp pts_nil fun σ H Q ⟨W, sl, st, h1, h2, h3, h4, h5⟩ => h5 W H (Le.refl W) h4
theorem ts_one {c : Expr} {evc : Ev} (h : PT X c (tT B evc)) : PTs X [c] (tB B fun sl st => (evc sl st).bind fun x st1 => match truth x st1 with
    | some true => .ok true st1
    | some false => .ok false st1
    | none => .stuck) := by
  refine PTs.imp (pts_one h) fun σ H Q ⟨W, sl, st, h1, h2, h3, h4, h5⟩ => ⟨W, sl, st, h1, h2, h3, h4, ?_⟩
  have e : (tru evc sl st) = (evc sl st).bind fun x st1 => match truth x st1 with
    | some true => .ok true st1
    | some false => .ok false st1
    | none => .stuck := by
    unfold tru
    congr 1
    funext x st1
    cases truth x st1 with
    | none => rfl
    | some b => cases b <;> rfl
  rw [e]
  exact h5
theorem e_lc {elt tg iter : Expr} {ifs : List Expr} {scope : Scope} {own : List (Str × Nat)} {pos : Pos} {mt : Bool} {t : CT} {evi : Slots → Store → Res Itr} {evt : Slots → Store → Res Bool} {eve : Ev} (hc : X.calm = true) (hN : X.N.Nodup) (hi : PI X tg iter (tI B evi)) (ok : BlkOk X.N X.env.scope scope own) (hti : ∀ i ∈ tgIx t, i ∈ own.map (·.2))
    (hg : ∀ (s : Shared) (H : Hp) (C : Addr) (cl : List (Str × Addr)) (fp : List Addr), PG (X.blk s H scope (compEnvC scope cl C X.env) fp) tg (gT B t)) (ht : ∀ (s : Shared) (H : Hp) (C : Addr) (cl : List (Str × Addr)) (fp : List Addr), PTs (X.blk s H scope (compEnvC scope cl C X.env) fp) ifs (tB B evt))
    (he : ∀ (s : Shared) (H : Hp) (C : Addr) (cl : List (Str × Addr)) (fp : List Addr), PE (X.blk s H scope (compEnvC scope cl C X.env) fp) elt (tE B eve)) (hs : isSet iter = false) :
    PE X (.ListComp elt [⟨tg, iter, ifs, 0⟩] scope pos) (tE B fun sl st => (evi sl st).bind fun J st1 => (lcLoop J.src (lcF evt eve t (own.map (·.2)) sl) J.items [] st1).bind fun vs st2 => mkL mt vs st2) :=
  PE.imp (pe_lc hc hN hi ok hg ht he fun x => fold_plain hs x) fun σ H Q h => tLc_of (iter := iter) hti h
end
end TM
set_option maxHeartbeats 1000000
/-! TM, part N: defs and their calls (with no guard about: a repr may be asked for). -/
namespace TM
open PySem PySem.Spec PyProof.Rows L2
/-- a def keeps its promise wherever no guard is about and the base has the table of modules -/
structure FnG (P : Program) (w : World) (K : PySem.W.Frag) (mg : Str → Option Value) (base : Heap) (k : Nat) (f : Addr) (fd : FuncData) (ps : List Str) (sp : Sp) : Prop where
  len : ∀ vs H Q E, sp vs H Q E → vs.length = ps.length
  run : ∀ (A : Around) (outer : List Env) (s : Shared) (H : Hp) (args : Args) (us : List Value) (vs : List V) (Q : VK) (E : XK), A.guards = some [] → Room k A → Env0 P w K mg base A outer s H → BindsTo s fd args (ps.zip us) → Vals vs us → sp vs H Q E →
    codeAny (model P w) A (.call (.ref f) args) (CR CX0 outer P w H s Q E) s
theorem FnG.mono {P : Program} {w : World} {K : PySem.W.Frag} {mg : Str → Option Value} {base : Heap} {j k : Nat} {f : Addr} {fd : FuncData} {ps : List Str} {sp : Sp} (F : FnG P w K mg base j f fd ps sp) (h : j ≤ k) : FnG P w K mg base k f fd ps sp :=
  ⟨F.len, fun A outer s H args us vs Q E hg hr => F.run A outer s H args us vs Q E hg (hr.mono h)⟩
/-- what a def computes -/
abbrev Fc := List D → Store → Res D
def prom (K : PySem.W.Frag) (CA : Nat → Addr) (g : Fc) : Sp := fun vs H Q _ => ∃ W ds st, W.K = K ∧ W.CA = CA ∧ RepL W ds vs ∧ SR W st H ∧ Post W E0 (g ds st) Q
/-- the values at the places pm -/
theorem perm_rep {W : Wo} {ds : List D} {vs : List V} (r : RepL W ds vs) : ∀ {pm : List Nat} {es : List D}, permA ds pm = some es → ∃ us, permA vs pm = some us ∧ RepL W es us
  | [], es, h => by
    cases h
    exact ⟨[], rfl, .nil⟩
  | i :: pm, es, h => by
    simp only [permA] at h
    split at h
    · rename_i d r' e1 e2
      cases h
      obtain ⟨us, q1, q2⟩ := perm_rep r e2
      obtain ⟨v, q3, q4⟩ := r.get e1
      exact ⟨v :: us, by simp only [permA, q3, q1], .cons q4 q2⟩
    · cases h
theorem perm_vals {vs : List V} {us : List Value} (r : Vals vs us) : ∀ {pm : List Nat} {es : List V}, permA vs pm = some es → ∃ ws, permA us pm = some ws ∧ Vals es ws
  | [], es, h => by
    cases h
    exact ⟨[], rfl, .nil⟩
  | i :: pm, es, h => by
    simp only [permA] at h
    split at h
    · rename_i d r' e1 e2
      cases h
      obtain ⟨ws, q1, q2⟩ := perm_vals r e2
      obtain ⟨v, q3, q4⟩ := r.get e1
      exact ⟨v :: ws, by simp only [permA, q3, q1], .cons q4 q2⟩
    · cases h
/-- how a call of positional values and keywords xs binds: the values at the places pm, in the parameters' order -/
structure Kform where
  np : Nat
  xs : List Str
  pm : List Nat
  deriving DecidableEq
def KB (K : PySem.W.Frag) (fd : FuncData) (ps : List Str) (q : Kform) : Prop := ∀ (s : Shared) (us ws as : List Value), K.In s.heap → us.length = q.np → ws.length = q.xs.length → permA (us ++ ws) q.pm = some as → as.length = ps.length → BindsTo s fd ⟨us, q.xs.zip ws⟩ (ps.zip as)
/-- a def by name -/
structure Fx (P : Program) (w : World) (K : PySem.W.Frag) (mg : Str → Option Value) (base : Heap) (CA : Nat → Addr) (k : Nat) (x : Str) (ps : List Str) (kf : List Kform) (g : Fc) : Prop where
  ex : ∃ fa fd, mg x = some (.ref fa) ∧ PySem.W.keepIn K (.ref fa) = true ∧ Binds K fd ps [] ∧ (∀ q ∈ kf, KB K fd ps q) ∧ FnG P w K mg base k fa fd ps (prom K CA g)
section
variable {X : Cx} {B : Bx} {n k : Nat} {a b c e : Expr} {es rest : List Expr} {p pos : Pos} {x : Str} {ps : List Str} {kf : List Kform} {g : Fc} {evs : Slots → Store → Res (List D)}
theorem run_g {fa : Addr} {fd : FuncData} {sp : Sp} {pins : List (Addr × Obj)} {σ : Sg} {H : Hp} {s : Shared} {Q : VK} {args : Args} {us : List Value} {vs : List V} {E : XK} (F : FnG X.prog X.w X.K X.mg X.base k fa fd ps sp) (c : Cok k X) (hb : BindsTo s fd args (ps.zip us))
    (I : Inv X pins σ H s) (r : Vals vs us) (h : sp vs H Q E) : wpAny (model X.prog X.w) X.A (call (.ref fa) args.pos args.kw) (EP X pins σ Q) X.xe s := by
  refine wpAny_call (codeAny_mono (F.run X.A X.stack s H args us vs Q E c.grd c.room I.env0 hb r h) fun r s' hq => ?_)
  cases r with
  | error e => exact False.elim hq
  | ok fl =>
    cases fl with
    | ret u => exact I.after hq
    | next => exact False.elim hq
    | brk => exact False.elim hq
    | cont => exact False.elim hq
theorem e_call (c : Cok k X) (hK : B.K = X.K) (hE : B.E = E0) (F : Fx X.prog X.w X.K X.mg X.base B.CA k x ps kf g) (hg : Gl X x) (hd : (x == ("__debug__" : Str)) = false) (hs : (e :: es).all (fun e => !isStar e) = true) (ha : PA X (e :: es) (tA B evs)) :
    PE X (.Call (.Name x p) (e :: es) [] pos) (tE B fun sl st => (evs sl st).bind fun ds st1 => g ds st1) := by
  obtain ⟨fa, fd, hm, hk, hb, _, G⟩ := F.ex
  have h2 := hs
  rw [List.all_cons, Bool.and_eq_true, Bool.not_eq_true'] at h2
  refine ⟨fun pins s σ H Q I ⟨W, sl, st, h1, h2', h3, h4, h5⟩ => ?_⟩
  refine wpAny_Call_Name_kw (ld_glob I hg hm ?_ hd)
  have hA : tA B evs σ H fun vs H1 => prom X.K B.CA g vs H1 Q E0 := tA_then h1 h2' h3 h4 h5 fun ds st1 W1 H1 vs k1 k2 k3 k4 r1 l1 q1 => ⟨W1, ds, st1, k1.trans hK, k2, r1, k4, by rw [← hE]; exact q1⟩
  refine PySem.W.callWith_K (h₀ := X.base) I.ok.mod.kin hk (thn (ha.run pos pins s σ H _ I hA) fun us s1 ⟨vs, H1, I1, r, q⟩ => ⟨I1.kIn, ?_⟩) (star_cons h2.1) (star_none h2.2)
  have hl : us.length = ps.length := by rw [← r.length]; exact G.len _ _ _ _ q
  have hb1 := hb s1 us I1.kIn (by rw [List.append_nil]; exact hl)
  rw [List.append_nil] at hb1
  exact run_g (args := ⟨us, []⟩) G c hb1 I1 r q
theorem e_call0 (c : Cok k X) (hK : B.K = X.K) (hE : B.E = E0) (F : Fx X.prog X.w X.K X.mg X.base B.CA k x ps kf g) (hg : Gl X x) (hd : (x == ("__debug__" : Str)) = false) :
    PE X (.Call (.Name x p) [] [] pos) (tE B fun sl st => (Res.ok (α := List D) [] st).bind fun ds st1 => g ds st1) := by
  obtain ⟨fa, fd, hm, hk, hb, _, G⟩ := F.ex
  refine ⟨fun pins s σ H Q I ⟨W, sl, st, h1, h2', h3, h4, h5⟩ => ?_⟩
  refine wpAny_Call_Name_kw (ld_glob I hg hm ?_ hd)
  have q : prom X.K B.CA g [] H Q E0 := ⟨W, [], st, h1.trans hK, h2', .nil, h4, by rw [← hE]; exact h5⟩
  have hl : ([] : List Value).length = ps.length := G.len _ _ _ _ q
  have hb1 := hb s [] I.kIn hl
  exact PySem.W.callWith_K0 I.kIn hk (run_g (args := ⟨[], []⟩) G c hb1 I .nil q)
/-! keywords -/
def PKr (kws : List Keyword) : List Expr := kws.map (·.value)
theorem PK.imp {X : Cx} {e : List Keyword} {t t' : TA} (h : PK X e t) (k : ∀ σ H Q, t' σ H Q → t σ H Q) : PK X e t' := ⟨fun p pins s σ H Q I q => h.run p pins s σ H Q I (k σ H Q q)⟩
theorem k_nil : PK X [] (tA B fun _ st => .ok [] st) := PK.imp pk_nil fun σ H Q ⟨W, sl, st, h1, h2, h3, h4, h5⟩ => h5 W H [] (Le.refl W) h4 .nil
theorem k_cons {eva : Ev} {nm : Option Str} {kp : Pos} {kws : List Keyword} (he : PE X e (tE B eva)) (hes : PK X kws (tA B evs)) : PK X (⟨nm, e, kp⟩ :: kws) (tA B fun sl st => (eva sl st).bind fun d st1 => (evs sl st1).bind fun ds st2 => .ok (d :: ds) st2) := by
  refine PK.imp (pk_cons he hes) fun σ H Q ⟨W, sl, st, h1, h2, h3, h4, h5⟩ => ?_
  refine ⟨W, sl, st, h1, h2, h3, h4, post_bindL h5 fun d st1 W1 H1 v l1 s1 r1 q1 => ?_⟩
  refine ⟨W1, sl, st1, l1.K.trans h1, l1.CA.trans h2, h3.mono l1, s1, postL_bindL q1 fun ds st2 W2 H2 vs l2 s2 r2 q2 => ?_⟩
  exact q2 W2 H2 _ (Le.refl W2) s2 (.cons (r1.mono l2) r2)
theorem kw_names {env : Env} {pos : Pos} : ∀ {kws : List Keyword} {xs : List Str}, kws.map (·.arg) = xs.map some → (backToKw pos (keywordEach kws env)).all (·.1.isSome) = true ∧ (backToKw pos (keywordEach kws env)).filterMap (·.1) = xs ∧ (backToKw pos (keywordEach kws env)).any (·.1.isNone) = false
  | [], [], _ => ⟨rfl, rfl, rfl⟩
  | ⟨_, _, _⟩ :: kws, x :: xs, h => by
    rw [List.map_cons, List.map_cons, List.cons.injEq] at h
    obtain ⟨h1, h2⟩ := h
    cases h1
    obtain ⟨q1, q2, q3⟩ := kw_names (env := env) (pos := pos) h2
    have e : ∀ v p, backToKw pos (keywordEach (⟨some x, v, p⟩ :: kws) env) = (some x, do let v ← eval v env; standAt pos; pure v) :: backToKw pos (keywordEach kws env) := fun _ _ => rfl
    rw [e, List.all_cons, List.any_cons]
    refine ⟨by rw [q1]; rfl, ?_, by rw [q3]; rfl⟩
    simp only [List.filterMap_cons, q2]
  | _ :: _, [], h => by simp at h
  | [], _ :: _, h => by simp at h
/-- evaluated one behind the other -/
def ev2 (evs evk : Slots → Store → Res (List D)) : Slots → Store → Res (List D) := fun sl st => (evs sl st).bind fun ds st1 => (evk sl st1).bind fun es st2 => .ok (ds ++ es) st2
theorem postL_len {W : Wo} {E : XK} {r : Res (List D)} {Q : List V → Hp → Prop} : True := trivial
theorem e_callK0 (c : Cok k X) (hK : B.K = X.K) (hE : B.E = E0) (F : Fx X.prog X.w X.K X.mg X.base B.CA k x ps kf g) {q : Kform} (hq : q ∈ kf) (hg : Gl X x) (hd : (x == ("__debug__" : Str)) = false) {kws : List Keyword} (hx : kws.map (·.arg) = q.xs.map some) (hnp : q.np = 0) {evk : Slots → Store → Res (List D)}
    (hlen : ∀ sl st ds st', evk sl st = .ok ds st' → ds.length = q.xs.length) (ha : PK X kws (tA B evk)) :
    PE X (.Call (.Name x p) [] kws pos) (tE B fun sl st => (evk sl st).bind fun ds st1 => match permA ds q.pm with | some vs => g vs st1 | none => .stuck) := by
  obtain ⟨fa, fd, hm, hk, _, hb, G⟩ := F.ex
  obtain ⟨n1, n2, n3⟩ := kw_names (env := X.env) (pos := pos) hx
  refine ⟨fun pins s σ H Q I ⟨W, sl, st, h1, h2', h3, h4, h5⟩ => ?_⟩
  refine wpAny_Call_Name_kw (ld_glob I hg hm ?_ hd)
  have hA : tA B evk σ H fun vs H1 => vs.length = q.xs.length ∧ ∃ us, permA vs q.pm = some us ∧ prom X.K B.CA g us H1 Q E0 := by
    refine ⟨W, sl, st, h1, h2', h3, h4, ?_⟩
    dsimp only at h5
    cases hr : evk sl st with
    | stuck => rw [hr] at h5; exact h5.elim
    | exc C fs st' => rw [hr] at h5; exact h5
    | ok ds st1 =>
      rw [hr, Res.bind_ok] at h5
      intro W1 H1 vs l1 s1 r1
      refine ⟨by rw [r1.length]; exact hlen _ _ _ _ hr, ?_⟩
      cases hp : permA ds q.pm with
      | none => rw [hp] at h5; exact h5.elim
      | some es' =>
        rw [hp] at h5
        obtain ⟨us, e1, e2⟩ := perm_rep r1 hp
        exact ⟨us, e1, W1, es', st1, (l1.K.trans h1).trans hK, l1.CA.trans h2', e2, s1, by rw [← hE]; exact Post.mono l1 h5⟩
  refine PySem.W.callWith_KW0 (h₀ := X.base) I.ok.mod.kin hk n1 (thn (ha.run pos pins s σ H _ I hA) fun ws s1 ⟨vs, H1, I1, r, hl, us, e1, q1⟩ => ⟨I1.kIn, ?_⟩) (by rw [n3]; rfl)
  rw [n2]
  obtain ⟨as, e2, rv⟩ := perm_vals r e1
  exact run_g (args := ⟨[], q.xs.zip ws⟩) G c (hb q hq s1 [] ws as I1.kIn (by rw [hnp]; rfl) (by rw [← r.length]; exact hl) (by rw [List.nil_append]; exact e2) (by rw [← rv.length]; exact G.len _ _ _ _ q1)) I1 rv q1
theorem e_callK (c : Cok k X) (hK : B.K = X.K) (hE : B.E = E0) (F : Fx X.prog X.w X.K X.mg X.base B.CA k x ps kf g) {q : Kform} (hq : q ∈ kf) (hg : Gl X x) (hd : (x == ("__debug__" : Str)) = false) {kws : List Keyword} (hx : kws.map (·.arg) = q.xs.map some) {evk : Slots → Store → Res (List D)} (hs : (e :: es).all (fun e => !isStar e) = true)
    (hlen1 : ∀ sl st ds st', evs sl st = .ok ds st' → ds.length = q.np) (hlen : ∀ sl st ds st', evk sl st = .ok ds st' → ds.length = q.xs.length) (ha : PA X (e :: es) (tA B evs)) (hka : PK X kws (tA B evk)) :
    PE X (.Call (.Name x p) (e :: es) kws pos) (tE B fun sl st => (ev2 evs evk sl st).bind fun ds st1 => match permA ds q.pm with | some vs => g vs st1 | none => .stuck) := by
  obtain ⟨fa, fd, hm, hk, _, hb, G⟩ := F.ex
  obtain ⟨n1, n2, n3⟩ := kw_names (env := X.env) (pos := pos) hx
  have h2 := hs
  rw [List.all_cons, Bool.and_eq_true, Bool.not_eq_true'] at h2
  refine ⟨fun pins s σ H Q I ⟨W, sl, st, h1, h2', h3, h4, h5⟩ => ?_⟩
  refine wpAny_Call_Name_kw (ld_glob I hg hm ?_ hd)
  have hA : tA B evs σ H fun vs H1 => vs.length = q.np ∧ tA B evk σ H1 fun zs H2 => zs.length = q.xs.length ∧ ∃ us, permA (vs ++ zs) q.pm = some us ∧ prom X.K B.CA g us H2 Q E0 := by
    refine ⟨W, sl, st, h1, h2', h3, h4, ?_⟩
    dsimp only [ev2] at h5
    cases hr : evs sl st with
    | stuck => rw [hr] at h5; exact h5.elim
    | exc C fs st' => rw [hr] at h5; exact h5
    | ok ds st1 =>
      rw [hr, Res.bind_ok] at h5
      intro W1 H1 vs l1 s1 r1
      refine ⟨by rw [r1.length]; exact hlen1 _ _ _ _ hr, W1, sl, st1, l1.K.trans h1, l1.CA.trans h2', h3.mono l1, s1, ?_⟩
      have h6 := Post.mono l1 h5
      clear h5
      cases hr2 : evk sl st1 with
      | stuck => rw [hr2] at h6; exact h6.elim
      | exc C fs st' => rw [hr2] at h6; exact h6
      | ok zs st2 =>
        rw [hr2, Res.bind_ok, Res.bind_ok] at h6
        intro W2 H2 zv l2 s2 r2
        refine ⟨by rw [r2.length]; exact hlen _ _ _ _ hr2, ?_⟩
        cases hp : permA (ds ++ zs) q.pm with
        | none => rw [hp] at h6; exact h6.elim
        | some es' =>
          rw [hp] at h6
          obtain ⟨us, e1, e2⟩ := perm_rep ((r1.mono l2).append r2) hp
          exact ⟨us, e1, W2, es', st2, (l2.K.trans (l1.K.trans h1)).trans hK, l2.CA.trans (l1.CA.trans h2'), e2, s2, by rw [← hE]; exact Post.mono l2 h6⟩
  refine PySem.W.callWith_KW (h₀ := X.base) I.ok.mod.kin hk n1 (thn (ha.run pos pins s σ H _ I hA) fun us s1 ⟨vs, H1, I1, r, hl1, q1⟩ => ?_) (by rw [star_cons h2.1]; show (false || (backTo pos (starEach es X.env)).any (·.1) || _) = false; rw [star_none h2.2, n3]; rfl) (star_cons h2.1)
  refine thn (hka.run pos pins s1 σ H1 _ I1 q1) fun ws s2 ⟨zs, H2, I2, rz, hl, as', e1, q2⟩ => ⟨I2.kIn, ?_⟩
  rw [n2]
  obtain ⟨as, e2, rv⟩ := perm_vals (r.append rz) e1
  exact run_g (args := ⟨us, q.xs.zip ws⟩) G c (hb q hq s2 us ws as I2.kIn (by rw [← r.length]; exact hl1) (by rw [← rz.length]; exact hl) e2 (by rw [← rv.length]; exact G.len _ _ _ _ q2)) I2 rv q2
end
end TM
set_option maxHeartbeats 1000000
/-! TM, part O: statements. -/
namespace TM
open PySem PySem.Spec PyProof.Rows L2
/-! ### the evaluator -/
def set1 (i : Nat) (d : D) (sl : Slots) (st : Store) : RS := if i < sl.length then .next (sl.set i (some d)) st else .stuck
section
variable (cl : Nat → List D → Store → Res D)
mutual
def evS : CS → Slots → Store → RS
  | .asg t e, sl, st => (evE cl e sl st).then fun d st1 => match asgT t d sl with
    | some sl' => .next sl' st1
    | none => .stuck
  | .asgLc i e, sl, st => (evE cl e sl st).then fun d st1 => set1 i d sl st1
  | .par i j a b, sl, st => (evE cl a sl st).then fun x st1 => (evE cl b sl st1).then fun y st2 => if i < sl.length ∧ j < sl.length then .next ((sl.set i (some x)).set j (some y)) st2 else .stuck
  | .aug _ _ _, _, _ => .stuck
  | .setI o i e, sl, st => (evE cl e sl st).then fun v st1 => (evE cl o sl st1).then fun x st2 => (evE cl i sl st2).then fun y st3 => match setID x y v st3 with
    | some st4 => .next sl st4
    | none => .stuck
  | .ex e, sl, st => (evE cl e sl st).then fun _ st1 => .next sl st1
  | .iff c t f, sl, st => (tru (evE cl c) sl st).then fun b st1 => if b then evSs t sl st1 else evSs f sl st1
  | .for_ t it b, sl, st => (evI cl it sl st).then fun J st1 => forLoop J.src (fun d sl' st' => match asgT t d sl' with
    | none => .stuck
    | some sl2 => evSs b sl2 st') J.items sl st1
  | .whl c b, sl, st => whlLoop (tru (evE cl c)) (fun sl' st' => evSs b sl' st') wfuel sl st
  | .ret e, sl, st => (evE cl e sl st).then fun d st1 => .ret d st1
  | .retN, _, st => .ret .non st
  | .pass, sl, st => .next sl st
  | .brk, sl, st => .brk sl st
  | .cnt, sl, st => .cnt sl st
termination_by structural s => s
def evSs : List CS → Slots → Store → RS
  | [], sl, st => .next sl st
  | s :: r, sl, st => match evS s sl st with
    | .next sl' st' => evSs r sl' st'
    | .ret d st' => .ret d st'
    | .brk sl' st' => .brk sl' st'
    | .cnt sl' st' => .cnt sl' st'
    | .exc C fs st' => .exc C fs st'
    | .stuck => .stuck
termination_by structural s => s
end
end
/-- a def: its name, how many parameters, how many names in all, the body -/
structure FD where
  nm : Str
  np : Nat
  nn : Nat
  kf : List Kform
  body : List CS
def endS : RS → Res D
  | .ret d st => .ok d st
  | .next _ st => .ok .non st
  | .exc C fs st => .exc C fs st
  | _ => .stuck
def slots0 (nn : Nat) (ds : List D) : Slots := ds.map some ++ List.replicate (nn - ds.length) Option.none
def evCall (FT : List FD) : Nat → Nat → List D → Store → Res D
  | 0, _, _, _ => .stuck
  | n + 1, f, ds, st => match FT[f]? with
    | none => .stuck
    | some F => if ds.length = F.np then endS (evSs (evCall FT n) F.body (slots0 F.nn ds) st) else .stuck
/-! ### soundness -/
def PostS (W : Wo) (E : XK) (r : RS) (D0 : Ends) : Prop := match r with
  | .next sl st => ∀ W' σ' H', Le W W' → SlR W' sl σ' → SR W' st H' → D0.nx σ' H'
  | .ret d st => ∀ W' H' v, Le W W' → SR W' st H' → Rep W' d v → D0.rt v H'
  | .brk sl st => ∀ W' σ' H', Le W W' → SlR W' sl σ' → SR W' st H' → D0.bk σ' H'
  | .cnt sl st => ∀ W' σ' H', Le W W' → SlR W' sl σ' → SR W' st H' → D0.ct σ' H'
  | .exc C fs st => PostX W E C fs st
  | .stuck => False
theorem PostS.mono {W W1 : Wo} {E : XK} {r : RS} {Q : Ends} (l : Le W W1) (h : PostS W E r Q) : PostS W1 E r Q := by
  cases r with
  | next sl st => exact fun W' σ' H' l' => h W' σ' H' (l.trans l')
  | ret d st => exact fun W' H' v l' => h W' H' v (l.trans l')
  | brk sl st => exact fun W' σ' H' l' => h W' σ' H' (l.trans l')
  | cnt sl st => exact fun W' σ' H' l' => h W' σ' H' (l.trans l')
  | exc C fs st => exact PostX.mono l h
  | stuck => exact h
def tS (B : Bx) (ev : Slots → Store → RS) : TS := fun D0 σ H => ∃ W sl st, W.K = B.K ∧ W.CA = B.CA ∧ SlR W sl σ ∧ SR W st H ∧ PostS W B.E (ev sl st) D0
theorem PS.imp {X : Cx} {e : Stmt} {t t' : TS} (h : PS X e t) (k : ∀ D0 σ H, t' D0 σ H → t D0 σ H) : PS X e t' := ⟨fun pins s σ H Q I q => h.run pins s σ H Q I (k Q σ H q)⟩
theorem PSs.imp {X : Cx} {e : List Stmt} {t t' : TS} (h : PSs X e t) (k : ∀ D0 σ H, t' D0 σ H → t D0 σ H) : PSs X e t' := ⟨fun pins s σ H Q I q => h.run pins s σ H Q I (k Q σ H q)⟩
section
variable {X : Cx} {B : Bx} {n : Nat} {a b c e tg : Expr} {pos : Pos} {eva evb evc : Ev} {ss : List Stmt} {s1 : Stmt} {evs evt : Slots → Store → RS}
theorem sT_E {ev : Ev} {f : D → Store → RS} {σ : Sg} {H : Hp} {Q : Ends} {G : VK} {W : Wo} {sl : Slots} {st : Store} (h1 : W.K = B.K) (h2 : W.CA = B.CA) (h3 : SlR W sl σ) (h4 : SR W st H) (h : PostS W B.E ((ev sl st).then f) Q)
    (k : ∀ d st1 W1 H1 v, W1.K = B.K → W1.CA = B.CA → SlR W1 sl σ → SR W1 st1 H1 → Rep W1 d v → Le W W1 → PostS W1 B.E (f d st1) Q → G v H1) : tE B ev σ H G := by
  refine ⟨W, sl, st, h1, h2, h3, h4, ?_⟩
  cases hr : ev sl st with
  | ok d st1 =>
    rw [hr] at h
    exact fun W1 H1 v l s r => k d st1 W1 H1 v (l.K.trans h1) (l.CA.trans h2) (h3.mono l) s r l (PostS.mono l h)
  | exc C fs st1 =>
    rw [hr] at h
    exact h
  | stuck =>
    rw [hr] at h
    exact h
theorem sT_T {ev : Ev} {f : Bool → Store → RS} {σ : Sg} {H : Hp} {Q : Ends} {G : Bool → Hp → Prop} {W : Wo} {sl : Slots} {st : Store} (h1 : W.K = B.K) (h2 : W.CA = B.CA) (h3 : SlR W sl σ) (h4 : SR W st H) (h : PostS W B.E ((tru ev sl st).then f) Q)
    (k : ∀ d st1 W1 H1, W1.K = B.K → W1.CA = B.CA → SlR W1 sl σ → SR W1 st1 H1 → Le W W1 → PostS W1 B.E (f d st1) Q → G d H1) : tT B ev σ H G := by
  refine ⟨W, sl, st, h1, h2, h3, h4, ?_⟩
  cases hr : tru ev sl st with
  | ok d st1 =>
    rw [hr] at h
    exact fun W1 H1 l s => k d st1 W1 H1 (l.K.trans h1) (l.CA.trans h2) (h3.mono l) s l (PostS.mono l h)
  | exc C fs st1 =>
    rw [hr] at h
    exact h
  | stuck =>
    rw [hr] at h
    exact h
theorem ss_nil : PSs X [] (tS B fun sl st => .next sl st) := PSs.imp pss_nil fun D0 σ H ⟨W, sl, st, h1, h2, h3, h4, h5⟩ => h5 W σ H (Le.refl W) h3 h4
theorem ss_cons (h : PS X s1 (tS B evs)) (hr : PSs X ss (tS B evt)) : PSs X (s1 :: ss) (tS B fun sl st => match evs sl st with
    | .next sl' st' => evt sl' st'
    | .ret d st' => .ret d st'
    | .brk sl' st' => .brk sl' st'
    | .cnt sl' st' => .cnt sl' st'
    | .exc C fs st' => .exc C fs st'
    | .stuck => .stuck) := by
  refine PSs.imp (pss_cons h hr) fun D0 σ H ⟨W, sl, st, h1, h2, h3, h4, h5⟩ => ⟨W, sl, st, h1, h2, h3, h4, ?_⟩
  dsimp only at h5
  cases hr : evs sl st with
  | next sl' st' =>
    rw [hr] at h5
    exact fun W' σ' H' l r s => ⟨W', sl', st', l.K.trans h1, l.CA.trans h2, r, s, PostS.mono l h5⟩
  | _ =>
    rw [hr] at h5
    exact h5
theorem s_set {i : Nat} {x : Str} {p' : Pos} (hN : X.N.Nodup) (hi : X.N[i]? = some x) (hx : Loc X.env.scope x) (hf : X.fn x = true ∨ X.env.scope.names.lookup x = some .local) (hs : isComp e = false) (he : PE X e (tE B eva)) :
    PS X (.Assign [.Name x p'] e pos) (tS B fun sl st => (eva sl st).then fun d st1 => match asgT (.name i) d sl with
    | some sl' => .next sl' st1
    | none => .stuck) := by
  refine PS.imp (ps_set hN hi hx he (swap_none hs) hf) fun D0 σ H ⟨W, sl, st, h1, h2, h3, h4, h5⟩ => ?_
  refine sT_E h1 h2 h3 h4 h5 fun d st1 W1 H1 v k1 k2 k3 k4 r l q => ?_
  split at q
  · rename_i sl' e1
    simp only [asgT] at e1
    split at e1
    · cases e1
      exact q W1 _ H1 (Le.refl W1) (k3.set r i) k4
    · cases e1
  · exact q.elim
theorem assignEach_one {tg : Expr} {env : Env} (h : isStar tg = false) : (assignEach [tg] env).map (·.2) = [assign tg env] := by
  cases tg <;> first | (simp [isStar] at h; done) | rfl
theorem s_asg {t : CT} (hs : isComp e = false) (ht : isStar tg = false) (hte : isTupE tg = false ∧ isLstE tg = false ∨ isTupE e = false) (he : PE X e (tE B eva)) (hg : PG X tg (gT B t)) :
    PS X (.Assign [tg] e pos) (tS B fun sl st => (eva sl st).then fun d st1 => match asgT t d sl with
    | some sl' => .next sl' st1
    | none => .stuck) := by
  refine PS.imp (ps_asg he hg (swap_none hs) (hte.elim (fun h => stores_none' h.1 h.2) fun h => stores_none h) (assignEach_one ht)) fun D0 σ H ⟨W, sl, st, h1, h2, h3, h4, h5⟩ => ?_
  refine sT_E h1 h2 h3 h4 h5 fun d st1 W1 H1 v k1 k2 k3 k4 r l q => ?_
  split at q
  · rename_i sl' e1
    exact ⟨W1, sl, st1, d, sl', k1, k2, k3, k4, r, e1, fun σ' s' _ => q W1 σ' H1 (Le.refl W1) s' k4⟩
  · exact q.elim
theorem s_ex (hs : isComp e = false) (he : PE X e (tE B eva)) : PS X (.Expr e pos) (tS B fun sl st => (eva sl st).then fun _ st1 => .next sl st1) := by
  refine PS.imp (ps_expr he (swap_none hs)) fun D0 σ H ⟨W, sl, st, h1, h2, h3, h4, h5⟩ => ?_
  exact sT_E h1 h2 h3 h4 h5 fun d st1 W1 H1 v k1 k2 k3 k4 r l q => q W1 σ H1 (Le.refl W1) k3 k4
theorem s_ret (he : PE X e (tE B eva)) : PS X (.Return (some e) pos) (tS B fun sl st => (eva sl st).then fun d st1 => .ret d st1) := by
  refine PS.imp (ps_ret he) fun D0 σ H ⟨W, sl, st, h1, h2, h3, h4, h5⟩ => ?_
  exact sT_E h1 h2 h3 h4 h5 fun d st1 W1 H1 v k1 k2 k3 k4 r l q => q W1 H1 v (Le.refl W1) k4 r
theorem s_retN : PS X (.Return none pos) (tS B fun _ st => .ret .non st) := PS.imp ps_retN fun D0 σ H ⟨W, sl, st, h1, h2, h3, h4, h5⟩ => h5 W H .non (Le.refl W) h4 repN
theorem s_pass : PS X (.Pass pos) (tS B fun sl st => .next sl st) := PS.imp ps_pass fun D0 σ H ⟨W, sl, st, h1, h2, h3, h4, h5⟩ => h5 W σ H (Le.refl W) h3 h4
theorem s_brk : PS X (.Break pos) (tS B fun sl st => .brk sl st) := PS.imp ps_break fun D0 σ H ⟨W, sl, st, h1, h2, h3, h4, h5⟩ => h5 W σ H (Le.refl W) h3 h4
theorem s_cnt : PS X (.Continue pos) (tS B fun sl st => .cnt sl st) := PS.imp ps_continue fun D0 σ H ⟨W, sl, st, h1, h2, h3, h4, h5⟩ => h5 W σ H (Le.refl W) h3 h4
theorem s_iff {fs : List Stmt} (hc : PT X c (tT B evc)) (ha : PSs X ss (tS B evs)) (hb : PSs X fs (tS B evt)) : PS X (.If c ss fs pos) (tS B fun sl st => (tru evc sl st).then fun b st1 => if b then evs sl st1 else evt sl st1) := by
  refine PS.imp (ps_if hc ha hb) fun D0 σ H ⟨W, sl, st, h1, h2, h3, h4, h5⟩ => ?_
  refine sT_T h1 h2 h3 h4 h5 fun d st1 W1 H1 k1 k2 k3 k4 l q => ?_
  cases d with
  | true => exact iteT ⟨W1, sl, st1, k1, k2, k3, k4, q⟩
  | false => exact iteF ⟨W1, sl, st1, k1, k2, k3, k4, q⟩
theorem sub_assign {o i : Expr} {p' : Pos} {env : Env} (h : isSlice i = false) (v : Value) : assign (.Subscript o i p') env v = (do
      let ov ← holding [v] (eval o env)
      let iv ← holding [v, ov] (eval i env)
      standAt p'
      holding [v, ov, iv] (setItem ov iv v)
      release [v, ov, iv] []) := by
  cases i <;> first | (simp [isSlice] at h; done) | rfl
theorem s_setI {o i : Expr} {p' : Pos} {evo evi : Ev} (hsl : isSlice i = false) (hu : X.A.units + 1 < cLine) (hs : isComp e = false) (he : PE X e (tE B eva)) (ho : PE X o (tE B evo)) (hi : PE X i (tE B evi)) :
    PS X (.Assign [.Subscript o i p'] e pos) (tS B fun sl st => (eva sl st).then fun v st1 => (evo sl st1).then fun x st2 => (evi sl st2).then fun y st3 => match setID x y v st3 with
    | some st4 => .next sl st4
    | none => .stuck) := by
  have A : PS X (.Assign [.Subscript o i p'] e pos) (fun D0 σ H => tAsg (tE B eva) (gSub (tE B evo) (tE B evi) rSetL) D0 σ H) := ps_asg he (pg_sub ho hi set_list fun v => sub_assign hsl v) (swap_none (t := some (.Subscript o i p')) (l := pos.line) (env := X.env) hs) (stores_none' (t := .Subscript o i p') rfl rfl) rfl
  have Bd := ps_dput (pos' := p') (pos := pos) hu ho hi he (swap_none hs)
  have or : PS X (.Assign [.Subscript o i p'] e pos) (fun D0 σ H => tAsg (tE B eva) (gSub (tE B evo) (tE B evi) rSetL) D0 σ H ∨ sDPut (tE B evo) (tE B evi) (tE B eva) D0 σ H) :=
    ⟨fun pins s σ H D0 I q => q.elim (A.run pins s σ H D0 I) (Bd.run pins s σ H D0 I)⟩
  refine PS.imp or fun D0 σ H ⟨W, sl, st, h1, h2, h3, h4, h5⟩ => ?_
  dsimp only at h5
  -- by what the container is
  cases hr : eva sl st with
  | stuck => rw [hr] at h5; exact h5.elim
  | exc C fs st' => rw [hr] at h5; exact .inl ⟨W, sl, st, h1, h2, h3, h4, by rw [hr]; exact h5⟩
  | ok v st1 =>
    rw [hr, Res.then_ok] at h5
    cases hr2 : evo sl st1 with
    | stuck => rw [hr2] at h5; exact h5.elim
    | exc C fs st' =>
      rw [hr2] at h5
      refine .inl ⟨W, sl, st, h1, h2, h3, h4, ?_⟩
      rw [hr]
      exact fun W1 H1 u l1 s1 r1 => ⟨W1, sl, st1, l1.K.trans h1, l1.CA.trans h2, h3.mono l1, s1, by rw [hr2]; exact PostX.mono l1 h5⟩
    | ok x st2 =>
      rw [hr2, Res.then_ok] at h5
      cases hr3 : evi sl st2 with
      | stuck => rw [hr3] at h5; exact h5.elim
      | exc C fs st' =>
        rw [hr3] at h5
        refine .inl ⟨W, sl, st, h1, h2, h3, h4, ?_⟩
        rw [hr]
        refine fun W1 H1 u l1 s1 r1 => ⟨W1, sl, st1, l1.K.trans h1, l1.CA.trans h2, h3.mono l1, s1, ?_⟩
        rw [hr2]
        exact fun W2 H2 u2 l2 s2 r2 => ⟨W2, sl, st2, l2.K.trans (l1.K.trans h1), l2.CA.trans (l1.CA.trans h2), (h3.mono l1).mono l2, s2, by rw [hr3]; exact PostX.mono (l1.trans l2) h5⟩
      | ok y st3 =>
        rw [hr3, Res.then_ok] at h5
        split at h5
        · rename_i st4 e4
          unfold setID at e4
          split at e4
          · rename_i m
            split at e4
            · rename_i xs ec
              split at e4
              · rename_i k
                rw [Option.map_eq_some_iff] at e4
                obtain ⟨j, ej, rfl⟩ := e4
                refine .inl ⟨W, sl, st, h1, h2, h3, h4, ?_⟩
                rw [hr]
                refine fun W1 H1 u l1 s1 r1 => ⟨W1, sl, st1, l1.K.trans h1, l1.CA.trans h2, h3.mono l1, s1, ?_⟩
                rw [hr2]
                refine fun W2 H2 u2 l2 s2 r2 => ⟨W2, sl, st2, l2.K.trans (l1.K.trans h1), l2.CA.trans (l1.CA.trans h2), (h3.mono l1).mono l2, s2, ?_⟩
                rw [hr3]
                intro W3 H3 u3 l3 s3 r3
                have r2' := r2.mono l3
                simp only [Rep] at r2'
                obtain ⟨p, ea, rfl⟩ := r2'
                rw [rep_int r3]
                obtain ⟨f, vs, hH, rq⟩ := s3.lstCell ec ea
                refine ⟨p, vs, k, j, rfl, rfl, hH, by rw [rq.length]; exact ej, ?_⟩
                exact h5 W3 σ _ ((l1.trans l2).trans l3) (((h3.mono l1).mono l2).mono l3) (s3.write ec ea (rq.set ((r1.mono l2).mono l3) j))
              · cases e4
            · rename_i kvs ec
              split at e4
              · rename_i k ek
                split at e4
                · rename_i hz
                  cases e4
                  refine .inr ⟨W, sl, st, h1, h2, h3, h4, ?_⟩
                  rw [hr]
                  refine fun W1 H1 u l1 s1 r1 => ⟨W1, sl, st1, l1.K.trans h1, l1.CA.trans h2, h3.mono l1, s1, ?_⟩
                  rw [hr2]
                  refine fun W2 H2 u2 l2 s2 r2 => ⟨W2, sl, st2, l2.K.trans (l1.K.trans h1), l2.CA.trans (l1.CA.trans h2), (h3.mono l1).mono l2, s2, ?_⟩
                  rw [hr3]
                  intro W3 H3 u3 l3 s3 r3
                  have r2' := r2.mono l3
                  simp only [Rep] at r2'
                  obtain ⟨p, ea, rfl⟩ := r2'
                  obtain ⟨f, vs, hH, rq⟩ := s3.dctCell ec ea
                  rw [keyOf_V r3 ek]
                  refine ⟨p, _, rfl, DPut.k hH (by rw [rq.length]; exact hz), ?_⟩
                  refine h5 W3 σ _ ((l1.trans l2).trans l3) (((h3.mono l1).mono l2).mono l3) ?_
                  exact s3.put ec ea f (fun x z => by rw [hH] at z; cases z) ⟨f, _, upd_same, rq.put ((r1.mono l2).mono l3)⟩
                · cases e4
              · cases e4
            · cases e4
          · cases e4
        · exact h5.elim
theorem s_asgLc {i : Nat} {y : Str} {py : Pos} {elt iter : Expr} {ifs : List Expr} {scope : Scope} {own : List (Str × Nat)} {spos : Pos} {mt : Bool} {t : CT} {evi : Slots → Store → Res Itr} {evt : Slots → Store → Res Bool} {eve : Ev} (hc : X.calm = true) (hN : X.N.Nodup) (hy : X.N[i]? = some y) (hyl : X.env.scope.names.lookup y = some .local)
    (hi : PI X tg iter (tI B evi)) (ok : BlkOk X.N X.env.scope scope own) (hti : ∀ i ∈ tgIx t, i ∈ own.map (·.2))
    (hg : ∀ (s : Shared) (H : Hp) (C : Addr) (cl : List (Str × Addr)) (fp : List Addr), PG (X.blk s H scope (compEnvC scope cl C X.env) fp) tg (gT B t)) (ht : ∀ (s : Shared) (H : Hp) (C : Addr) (cl : List (Str × Addr)) (fp : List Addr), PTs (X.blk s H scope (compEnvC scope cl C X.env) fp) ifs (tB B evt))
    (he : ∀ (s : Shared) (H : Hp) (C : Addr) (cl : List (Str × Addr)) (fp : List Addr), PE (X.blk s H scope (compEnvC scope cl C X.env) fp) elt (tE B eve)) (hs : isSet iter = false)
    (hsw : swapsWith (.ListComp elt [⟨tg, iter, ifs, 0⟩] scope pos) (some (.Name y py)) spos.line X.env = pure true) :
    PS X (.Assign [.Name y py] (.ListComp elt [⟨tg, iter, ifs, 0⟩] scope pos) spos) (tS B fun sl st => ((evi sl st).bind fun J st1 => (lcLoop J.src (lcF evt eve t (own.map (·.2)) sl) J.items [] st1).bind fun vs st2 => mkL mt vs st2).then fun d st1 => set1 i d sl st1) := by
  refine PS.imp (ps_setLc hc hN hy hyl hsw hi ok hg ht he fun x => fold_plain hs x) fun D0 σ H ⟨W, sl, st, h1, h2, h3, h4, h5⟩ => ?_
  have h6 : tE B (fun sl st => (evi sl st).bind fun J st1 => (lcLoop J.src (lcF evt eve t (own.map (·.2)) sl) J.items [] st1).bind fun vs st2 => mkL mt vs st2) σ H fun x H1 => gName i x σ H1 D0.nx := by
    refine sT_E h1 h2 h3 h4 h5 fun d st1 W1 H1 v k1 k2 k3 k4 r l q => ?_
    unfold set1 at q
    split at q
    · exact q W1 _ H1 (Le.refl W1) (k3.set r i) k4
    · exact q.elim
  exact tLc_of (iter := iter) hti h6
/-! loops -/
def frF (t : CT) (evb : Slots → Store → RS) : D → Slots → Store → RS := fun d sl' st' => match asgT t d sl' with
    | none => .stuck
    | some sl2 => evb sl2 st'
theorem frF_none {t : CT} {evb : Slots → Store → RS} {d : D} {sl : Slots} {st : Store} (h : asgT t d sl = none) : frF t evb d sl st = .stuck := by
  unfold frF
  rw [h]
theorem frF_some {t : CT} {evb : Slots → Store → RS} {d : D} {sl sl' : Slots} {st : Store} (h : asgT t d sl = some sl') : frF t evb d sl st = evb sl' st := by
  unfold frF
  rw [h]
theorem s_for {it : Expr} {t : CT} {evi : Slots → Store → Res Itr} (hx : X.xe = fun _ _ => False) (hc : X.calm = true) (hs : isSet it = false) (hi : PI X tg it (tI B evi)) (hg : PG X tg (gT B t)) (hb : PSs X ss (tS B evs)) :
    PS X (.For tg it ss [] pos) (tS B fun sl st => (evi sl st).then fun J st1 => forLoop J.src (frF t evs) J.items sl st1) := by
  refine PS.imp (ps_for (by rw [hx]; exact PassesOwn.never) hc hi hg hb fun x => fold_plain hs x) fun D0 σ H ⟨W, sl, st, h1, h2, h3, h4, h5⟩ => ?_
  refine ⟨W, sl, st, h1, h2, h3, h4, ?_⟩
  dsimp only at h5
  cases hr : evi sl st with
  | stuck => rw [hr] at h5; exact h5.elim
  | exc C fs st' => rw [hr] at h5; exact h5
  | ok it0 st1 =>
    rw [hr, Res.then_ok] at h5
    intro W0 H1 J l0 s0 wk
    have h5 := PostS.mono l0 h5
    refine ⟨fun i m σ H => m = it0.items.length - i ∧ i ≤ it0.items.length ∧ ∃ W1 sl1 st1, Le W0 W1 ∧ SlR W1 sl1 σ ∧ SR W1 st1 H ∧ PostS W1 B.E (forLoop it0.src (frF t evs) (it0.items.drop i) sl1 st1) D0, ⟨_, rfl, Nat.zero_le _, W0, sl, st1, Le.refl W0, h3.mono l0, s0, h5⟩, ?_⟩
    rintro i m σ1 H ⟨rfl, hi, W1, sl1, st2, l1, k3, k4, kq⟩
    by_cases hlt : i < it0.items.length
    · obtain ⟨d, ed⟩ := getE hlt
      have edrop : it0.items.drop i = d :: it0.items.drop (i + 1) := by
        obtain ⟨h, e⟩ := List.getElem?_eq_some_iff.mp ed
        rw [← e]
        exact List.drop_eq_getElem_cons h
      rw [edrop] at kq
      unfold forLoop at kq
      cases hs : srcOk it0.src st2 with
      | false =>
        rw [hs] at kq
        exact kq.elim
      | true =>
        rw [hs, if_pos rfl] at kq
        obtain ⟨hgo, hy⟩ := (wk W1 st2 H l1.li k4 hs i).1 hlt
        refine .inr ⟨hgo, fun σ' H' => i + 1 ≤ it0.items.length ∧ ∃ W1 sl1 st1, Le W0 W1 ∧ SlR W1 sl1 σ' ∧ SR W1 st1 H' ∧ PostS W1 B.E (forLoop it0.src (frF t evs) (it0.items.drop (i + 1)) sl1 st1) D0, fun σ' H' p => ⟨_, by omega, rfl, p.1, p.2⟩, fun x H' y => ?_⟩
        obtain ⟨W2, d', l2, s2, ed', r2⟩ := hy x H' y
        rw [ed] at ed'
        cases ed'
        have kq := PostS.mono l2 kq
        have eK : W2.K = B.K := l2.K.trans (l1.K.trans (l0.K.trans h1))
        have eC : W2.CA = B.CA := l2.CA.trans (l1.CA.trans (l0.CA.trans h2))
        cases ha : asgT t d sl1 with
        | none =>
          rw [frF_none ha] at kq
          exact kq.elim
        | some sl' =>
          rw [frF_some ha] at kq
          refine ⟨W2, sl1, st2, d, sl', eK, eC, k3.mono l2, s2, r2, ha, fun σ2 sr2 _ => ?_⟩
          refine ⟨W2, sl', st2, eK, eC, sr2, s2, ?_⟩
          cases hb : evs sl' st2 with
          | next sl3 st3 =>
            rw [hb] at kq
            exact fun W3 σ3 H3 l3 r3 s3 => ⟨by omega, W3, sl3, st3, (l1.trans l2).trans l3, r3, s3, PostS.mono l3 kq⟩
          | cnt sl3 st3 =>
            rw [hb] at kq
            exact fun W3 σ3 H3 l3 r3 s3 => ⟨by omega, W3, sl3, st3, (l1.trans l2).trans l3, r3, s3, PostS.mono l3 kq⟩
          | brk sl3 st3 =>
            rw [hb] at kq
            exact kq
          | ret d3 st3 =>
            rw [hb] at kq
            exact kq
          | exc C fs st3 =>
            rw [hb] at kq
            exact kq
          | stuck =>
            rw [hb] at kq
            exact kq
    · have ei : i = it0.items.length := by omega
      subst ei
      rw [List.drop_length] at kq
      unfold forLoop at kq
      cases hs : srcOk it0.src st2 with
      | false =>
        rw [hs] at kq
        exact kq.elim
      | true =>
        rw [hs, if_pos rfl] at kq
        exact .inl ⟨(wk W1 st2 H l1.li k4 hs _).2 rfl, kq W1 σ1 H (Le.refl W1) k3 k4⟩
theorem s_whl (hx : X.xe = fun _ _ => False) (hc : PT X c (tT B evc)) (hb : PSs X ss (tS B evs)) (N : Nat) :
    PS X (.While c ss [] pos) (tS B fun sl st => whlLoop (tru evc) evs N sl st) := by
  refine PS.imp (ps_while (by rw [hx]; exact PassesOwn.never) hc hb) fun D0 σ H ⟨W, sl, st, h1, h2, h3, h4, h5⟩ => ?_
  refine ⟨fun m σ H => ∃ W1 sl1 st1, Le W W1 ∧ SlR W1 sl1 σ ∧ SR W1 st1 H ∧ PostS W1 B.E (whlLoop (tru evc) evs m sl1 st1) D0, ⟨N, W, sl, st, Le.refl W, h3, h4, h5⟩, ?_⟩
  rintro m σ1 H1 ⟨W1, sl1, st1, l1, k3, k4, kq⟩
  have eK : W1.K = B.K := l1.K.trans h1
  have eC : W1.CA = B.CA := l1.CA.trans h2
  cases m with
  | zero => exact kq.elim
  | succ m =>
    unfold whlLoop at kq
    refine sT_T eK eC k3 k4 kq fun d st2 W2 H2 m1 m2 m3 m4 l2 q => ?_
    cases d with
    | false => exact iteF (q W2 σ1 H2 (Le.refl W2) m3 m4)
    | true =>
      rw [if_pos rfl] at q
      refine iteT ⟨fun σ' H' => ∃ W1 sl1 st1, Le W W1 ∧ SlR W1 sl1 σ' ∧ SR W1 st1 H' ∧ PostS W1 B.E (whlLoop (tru evc) evs m sl1 st1) D0, fun σ' H' p => ⟨m, by omega, p⟩, W2, sl1, st2, m1, m2, m3, m4, ?_⟩
      cases hb : evs sl1 st2 with
      | next sl3 st3 =>
        rw [hb] at q
        exact fun W3 σ3 H3 l3 r3 s3 => ⟨W3, sl3, st3, (l1.trans l2).trans l3, r3, s3, PostS.mono l3 q⟩
      | cnt sl3 st3 =>
        rw [hb] at q
        exact fun W3 σ3 H3 l3 r3 s3 => ⟨W3, sl3, st3, (l1.trans l2).trans l3, r3, s3, PostS.mono l3 q⟩
      | brk sl3 st3 =>
        rw [hb] at q
        exact q
      | ret d3 st3 =>
        rw [hb] at q
        exact q
      | exc C fs st3 =>
        rw [hb] at q
        exact q
      | stuck =>
        rw [hb] at q
        exact q
end
end TM
set_option maxHeartbeats 1000000
/-! TM, part P: the compact text is the program's text; the master theorem. -/
namespace TM
open PySem PySem.Spec PyProof.Rows L2
/-! ### chains -/
theorem marks_last {o o' : CmpOp} {b c : Expr} (h : isSet c = false) : lastMarks [o, o'] [b, c] = false := by
  cases c <;> first | (simp [isSet] at h; done) | rfl
section
variable {X : Cx} {B : Bx} {n : Nat} {a b c e : Expr} {pos : Pos} {eva evb evc : Ev}
theorem chain_read (hK : B.K = X.K) {o o' : CmpOp} {σ : Sg} {H : Hp} {Q : VK} (h : tE B (fun sl st => (eva sl st).bind fun x st1 => (evb sl st1).bind fun y st2 => match cmpD o x y st2 with
    | some true => (evc sl st2).bind fun z st3 => ofO ((cmpD o' y z st3).map .bl) st3
    | some false => .ok (.bl false) st2
    | none => .stuck) σ H Q) : tChain (rCmp X.K o) (rCmp X.K o') (tE B eva) (tE B evb) (tE B evc) σ H Q := by
  obtain ⟨W, sl, st, h1, h2, h3, h4, h5⟩ := h
  refine tE_then h1 h2 h3 h4 h5 fun x st1 W1 H1 v k1 k2 k3 k4 r1 l1 q1 => ?_
  refine tE_then k1 k2 k3 k4 q1 fun y st2 W2 H2 u m1 m2 m3 m4 r2 l2 q2 => ?_
  cases hc : cmpD o x y st2 with
  | none =>
    rw [hc] at q2
    exact q2.elim
  | some k =>
    rw [hc] at q2
    refine ⟨W2, x, y, st2, k, m4, m1.trans hK, r1.mono l2, r2, hc, k, rfl, ?_⟩
    cases k with
    | false => exact iteF (post_here m4 repB q2)
    | true =>
      refine iteT (tE_then m1 m2 m3 m4 q2 fun z st3 W3 H3 w n1 n2 n3 n4 r3 l3 q3 => ?_)
      obtain ⟨d, e1, q4⟩ := post_ofO q3
      rw [Option.map_eq_some_iff] at e1
      obtain ⟨k, e1, rfl⟩ := e1
      exact ⟨W3, y, z, st3, k, n4, n1.trans hK, r2.mono l3, r3, e1, post_here n4 repB q4⟩
theorem e_chain (hK : B.K = X.K) (hu : X.A.units + 64 < cLine) (o o' : CmpOp) (hs : isSet c = false) (ha : PE X a (tE B eva)) (hb : PE X b (tE B evb)) (hc : PE X c (tE B evc)) :
    PE X (.Compare a [o, o'] [b, c] pos) (tE B fun sl st => (eva sl st).bind fun x st1 => (evb sl st1).bind fun y st2 => match cmpD o x y st2 with
    | some true => (evc sl st2).bind fun z st3 => ofO ((cmpD o' y z st3).map .bl) st3
    | some false => .ok (.bl false) st2
    | none => .stuck) :=
  PE.imp (pe_chain (cmpAny hu o) (cmpAny hu o') ha hb hc (marks_last hs)) fun σ H Q h => chain_read hK h
theorem t_chain (hK : B.K = X.K) (hu : X.A.units + 64 < cLine) (o o' : CmpOp) (hs : isSet c = false) (ha : PE X a (tE B eva)) (hb : PE X b (tE B evb)) (hc : PE X c (tE B evc)) :
    PT X (.Compare a [o, o'] [b, c] pos) (tT B fun sl st => (eva sl st).bind fun x st1 => (evb sl st1).bind fun y st2 => match cmpD o x y st2 with
    | some true => (evc sl st2).bind fun z st3 => ofO ((cmpD o' y z st3).map .bl) st3
    | some false => .ok (.bl false) st2
    | none => .stuck) := by
  refine PT.imp (pt_chain (cmpAny hu o) (cmpAny hu o') ha hb hc (marks_last hs)) fun σ H Q ⟨W, sl, st, h1, h2, h3, h4, h5⟩ => ?_
  refine chain_read hK ⟨W, sl, st, h1, h2, h3, h4, tT_bl (fun d st' h => ?_) h5⟩
  obtain ⟨x, s1, e1, h⟩ := bind_ok h
  obtain ⟨y, s2, e2, h⟩ := bind_ok h
  split at h
  · obtain ⟨z, s3, e3, h⟩ := bind_ok h
    exact ofO_bl h
  · cases h
    exact ⟨_, rfl⟩
  · cases h
end
/-! ### the text -/
structure Kc where
  N : List Str
  sc : Scope
  fn : Str → Bool
  FT : List FD
  fr : List Str
  gb : List (Str × D)
def Kc.blk (c : Kc) (scope : Scope) : Kc := { c with sc := relS scope c.sc, fn := fun x => scope.names.lookup x == some .cell }
def Kc.vis (c : Kc) (x : Str) : Bool := (match c.sc.names.lookup x with
  | some .local => true
  | some .cell => true
  | some .free => true
  | _ => false) && !(x == ("__debug__" : Str)) && !(x == ("__classdict__" : Str))
def Kc.loc (c : Kc) (x : Str) : Bool := match c.sc.names.lookup x with
  | some .local => true
  | some .cell => c.fn x
  | _ => false
def Kc.gl (c : Kc) (x : Str) : Bool := decide (c.sc.names.lookup x = some .globalImplicit) && !(x == ("__debug__" : Str)) && !(x == ("__name__" : Str))
def Kc.fre (c : Kc) (x : Str) : Bool := c.gl x && decide (x ∈ c.fr)
def oneB (o : BoolOp) (pos : Pos) : List Expr → Expr
  | [y] => y
  | ys => .BoolOp o ys pos
def biS : Bi → Str
  | .len => "len" | .str => "str" | .int => "int" | .sorted => "sorted" | .max => "max" | .min => "min" | .sum => "sum" | .any => "any" | .all => "all" | .list => "list" | .tuple => "tuple" | .dict => "dict" | .repr => "repr" | .abs => "abs" | .ord => "ord" | .chr => "chr" | .bool => "bool"
def tyS : Ty → Str
  | .bool => "bool" | .int => "int" | .str => "str" | .list => "list" | .tuple => "tuple" | .dict => "dict" | .cls _ => "object"
def isIf : Expr → Bool
  | .IfExp _ _ _ _ => true
  | _ => false
def nostar (es : List Expr) : Bool := es.all fun e => !isStar e
mutual
def chkG (c : Kc) : CT → Expr → Bool
  | .name i, e => match e with
    | .Name x _ => decide (c.N[i]? = some x) && c.loc x
    | _ => false
  | .tup ts, e => match e with
    | .Tuple es _ _ => chkGs c ts es
    | _ => false
termination_by structural t => t
def chkGs (c : Kc) : List CT → List Expr → Bool
  | [], es => es.isEmpty
  | t :: ts, es => match es with
    | [] => false
    | e :: es => chkG c t e && chkGs c ts es
termination_by structural t => t
end
mutual
def chkE : CE → Kc → Expr → Bool
  | .var i, c, e => match e with
    | .Name x _ => decide (c.N[i]? = some x) && c.vis x
    | _ => false
  | .non, c, e => match e with
    | .Constant .none _ _ => true
    | _ => false
  | .bl b, c, e => match e with
    | .Constant (.bool b') _ _ => b == b'
    | _ => false
  | .int i, c, e => match e with
    | .Constant (.int j) _ _ => decide (i = j)
    | _ => false
  | .str i, c, e => match e with
    | .Constant (.str j) _ _ => decide (i = j)
    | _ => false
  | .glob x d, c, e => match e with
    | .Name y _ => decide (x = y) && c.gl y && decide ((x, d) ∈ c.gb)
    | _ => false
  | .op o a b, c, e => match e with
    | .BinOp l o' r _ => decide (o = o') && chkE a c l && chkE b c r
    | _ => false
  | .neg a, c, e => match e with
    | .UnaryOp .USub x _ => chkE a c x
    | _ => false
  | .not_ a, c, e => match e with
    | .UnaryOp .Not x _ => !isIf x && chkE a c x
    | _ => false
  | .and_ a b, c, e => match e with
    | .BoolOp .And (x :: y :: rest) pos => !isIf x && !isIf (oneB .And pos (y :: rest)) && chkE a c x && chkE b c (oneB .And pos (y :: rest))
    | _ => false
  | .or_ a b, c, e => match e with
    | .BoolOp .Or (x :: y :: rest) pos => !isIf x && !isIf (oneB .Or pos (y :: rest)) && chkE a c x && chkE b c (oneB .Or pos (y :: rest))
    | _ => false
  | .ife t a b, c, e => match e with
    | .IfExp x y z _ => !isIf x && chkE t c x && chkE a c y && chkE b c z
    | _ => false
  | .cmp o a b, c, e => match e with
    | .Compare x [o'] [y] _ => decide (o = o') && !isSet y && chkE a c x && chkE b c y
    | _ => false
  | .chain o p a b d, c, e => match e with
    | .Compare x [o', p'] [y, z] _ => decide (o = o') && decide (p = p') && !isSet z && chkE a c x && chkE b c y && chkE d c z
    | _ => false
  | .isin a ts, c, e => match e with
    | .Call (.Name nm _) [x, .Name T _] [] _ => decide (nm = "isinstance") && c.fre nm && c.fre T && (match ts with
      | [t] => tyB t && decide (T = tyS t)
      | _ => false) && !isStar x && chkE a c x
    | _ => false
  | .tup es, c, e => match e with
    | .Tuple xs _ _ => nostar xs && chkEs es c xs
    | _ => false
  | .lst mt es, c, e => match e with
    | .List xs _ => nostar xs && chkEs es c xs
    | _ => false
  | .dct mt es, c, e => match e with
    | .Dict [] [] _ => (match es with
      | [] => true
      | _ => false)
    | _ => false
  | .idx a b, c, e => match e with
    | .Subscript x y _ => !isSlice y && chkE a c x && chkE b c y
    | _ => false
  | .sl a lo hi, c, e => match e with
    | .Subscript x (.Slice l h none _) _ => chkE a c x && chkO lo c l && chkO hi c h
    | _ => false
  | .slx a s, c, e => match e with
    | .Subscript x (.Slice none none (some y) _) _ => chkE a c x && chkE s c y
    | _ => false
  | .call f nm es, c, e => match e with
    | .Call (.Name x _) xs [] _ => decide (x = nm) && c.gl x && decide ((c.FT[f]?).map (·.nm) = some x) && nostar xs && chkEs es c xs
    | _ => false
  | .callK f nm ks es ls pm, c, e => match e with
    | .Call (.Name x _) xs kws _ => decide (x = nm) && c.gl x && (match c.FT[f]? with
      | some F => decide (F.nm = x) && decide (⟨es.length, ks, pm⟩ ∈ F.kf)
      | none => false) && nostar xs && chkEs es c xs && decide (kws.map (·.arg) = ks.map some) && chkEs ls c (PKr kws)
    | _ => false
  | .bi b es, c, e => match e with
    | .Call (.Name x _) xs [] _ => decide (x = biS b) && c.fre x && !xs.isEmpty && nostar xs && chkEs es c xs
    | _ => false
  | .me m r es, c, e => match e with
    | .Call (.Attribute o nm apos) xs [] cpos => decide (nm = meName m) && noSuper o && (apos.endLine == cpos.line) && decide (xs.length < 30) && nostar xs && chkE r c o && chkEs es c xs
    | _ => false
  | .lc mt own t it ifs a, c, e => match e with
    | .ListComp elt [⟨tg, iter, ifs', as⟩] scope _ => decide (as = 0) && blkC c.N c.sc scope own && (tgIx t).all (fun i => decide (i ∈ own.map (·.2))) && !isSet iter && chkI it c iter && chkG (c.blk scope) t tg && chkFs ifs (c.blk scope) ifs' && chkE a (c.blk scope) elt
    | _ => false
  | .frz a, c, e => byTruth e && chkE a c e
termination_by structural e => e
def chkEs : List CE → Kc → List Expr → Bool
  | [], c, es => es.isEmpty
  | a :: as, c, es => match es with
    | [] => false
    | e :: es => chkE a c e && chkEs as c es
termination_by structural e => e
def chkFs : List CE → Kc → List Expr → Bool
  | [], c, es => es.isEmpty
  | a :: as, c, es => match es with
    | [e] => as.isEmpty && !isIf e && chkE a c e
    | _ => false
termination_by structural e => e
def chkO : CO → Kc → Option Expr → Bool
  | .none, c, o => o.isNone
  | .some a, c, o => match o with
    | some e => chkE a c e
    | none => false
termination_by structural e => e
def chkI : CI → Kc → Expr → Bool
  | .e a, c, e => chkE a c e
  | .rng es, c, e => match e with
    | .Call (.Name nm _) xs [] _ => decide (nm = "range") && c.fre nm && nostar xs && (xs.length == 1 || xs.length == 2) && chkEs es c xs
    | _ => false
  | .enum a, c, e => false
  | .zip a b, c, e => false
termination_by structural e => e
end
def swC (c : Kc) (y : Str) (py : Pos) (scope : Scope) (pos : Pos) : Bool := decide (c.sc.kind = .function) && decide (c.sc.names.lookup y = some .local) && (py.line == pos.line) && !(scope.names.any fun (n, k) => n == y && (k == .local || k == .cell))
mutual
def chkS : CS → Kc → Stmt → Bool
  | .asg t a, c, s => match s with
    | .Assign [tg] e _ => !isComp e && !isStar tg && ((!isTupE tg && !isLstE tg) || !isTupE e) && chkG c t tg && chkE a c e
    | _ => false
  | .asgLc i a, c, s => match s with
    | .Assign [.Name y py] (.ListComp elt gs scope pos) _ => decide (c.N[i]? = some y) && swC c y py scope pos && (match a with
      | .lc _ _ _ _ _ _ => true
      | _ => false) && chkE a c (.ListComp elt gs scope pos)
    | _ => false
  | .par _ _ _ _, c, s => false
  | .aug _ _ _, c, s => false
  | .setI o i a, c, s => match s with
    | .Assign [.Subscript x y _] e _ => !isSlice y && !isComp e && chkE a c e && chkE o c x && chkE i c y
    | _ => false
  | .ex a, c, s => match s with
    | .Expr e _ => !isComp e && chkE a c e
    | _ => false
  | .iff t a b, c, s => match s with
    | .If x y z _ => !isIf x && chkE t c x && chkSs a c y && chkSs b c z
    | _ => false
  | .for_ t it b, c, s => match s with
    | .For tg iter body [] _ => !isSet iter && chkG c t tg && chkI it c iter && chkSs b c body
    | _ => false
  | .whl t b, c, s => match s with
    | .While x body [] _ => !isIf x && chkE t c x && chkSs b c body
    | _ => false
  | .ret a, c, s => match s with
    | .Return (some e) _ => chkE a c e
    | _ => false
  | .retN, c, s => match s with
    | .Return none _ => true
    | _ => false
  | .pass, c, s => match s with
    | .Pass _ => true
    | _ => false
  | .brk, c, s => match s with
    | .Break _ => true
    | _ => false
  | .cnt, c, s => match s with
    | .Continue _ => true
    | _ => false
termination_by structural s => s
def chkSs : List CS → Kc → List Stmt → Bool
  | [], c, ss => ss.isEmpty
  | a :: as, c, ss => match ss with
    | [] => false
    | s :: ss => chkS a c s && chkSs as c ss
termination_by structural s => s
end
/-! ### the context fits -/
structure Fits (X : Cx) (c : Kc) (B : Bx) (n : Nat) (cl : Nat → List D → Store → Res D) : Prop where
  cok : Cok n X
  K : B.K = X.K
  E : B.E = E0
  N : X.N = c.N
  sc : X.env.scope = c.sc
  fn : X.fn = c.fn
  ft : ∀ f F, c.FT[f]? = some F → ∃ ps, Fx X.prog X.w X.K X.mg X.base B.CA n F.nm ps F.kf (cl f)
  fr : ∀ x ∈ c.fr, X.mg x = none
  gb : ∀ p ∈ c.gb, ∃ u v, X.mg p.1 = some u ∧ RelV v u ∧ flatOf p.2 = some v
section
variable {X : Cx} {c : Kc} {B : Bx} {n : Nat} {cl : Nat → List D → Store → Res D}
theorem Fits.blk (F : Fits X c B n cl) (s : Shared) (H : Hp) (scope : Scope) (C : Addr) (cls : List (Str × Addr)) (fp : List Addr) : Fits (X.blk s H scope (compEnvC scope cls C X.env) fp) (c.blk scope) B n cl :=
  ⟨⟨F.cok.calm, F.cok.nd, F.cok.room, F.cok.grd, F.cok.sm⟩, F.K, F.E, F.N, by
    show relS scope X.env.scope = relS scope c.sc
    rw [F.sc], rfl, F.ft, F.fr, F.gb⟩
theorem Fits.vis (F : Fits X c B n cl) {x : Str} (h : c.vis x = true) : Vis X.env.scope x ∧ (x == ("__debug__" : Str)) = false ∧ (x == ("__classdict__" : Str)) = false := by
  unfold Kc.vis at h
  simp only [Bool.and_eq_true, Bool.not_eq_true'] at h
  refine ⟨?_, h.1.2, h.2⟩
  have h1 := h.1.1
  rw [F.sc]
  unfold Vis
  split at h1 <;> first | (cases h1; done) | skip
  · exact .inl (by assumption)
  · exact .inr (.inl (by assumption))
  · exact .inr (.inr (by assumption))
theorem Fits.loc (F : Fits X c B n cl) {x : Str} (h : c.loc x = true) : L2.Loc X.env.scope x ∧ (X.fn x = true ∨ X.env.scope.names.lookup x = some .local) := by
  unfold Kc.loc at h
  rw [F.sc, F.fn]
  unfold L2.Loc
  split at h
  · rename_i e
    exact ⟨.inl e, .inr e⟩
  · rename_i e
    exact ⟨.inr e, .inl h⟩
  · cases h
theorem Fits.gl (F : Fits X c B n cl) {x : Str} (h : c.gl x = true) : Gl X x ∧ (x == ("__debug__" : Str)) = false ∧ x ≠ "__name__" := by
  unfold Kc.gl at h
  simp only [Bool.and_eq_true, Bool.not_eq_true', decide_eq_true_eq] at h
  refine ⟨?_, h.1.2, fun z => ?_⟩
  · show X.env.scope.names.lookup x = _
    rw [F.sc]
    exact h.1.1
  · rw [z] at h
    exact absurd h.2 (by decide)
theorem Fits.fre (F : Fits X c B n cl) {x : Str} (h : c.fre x = true) : Gl X x ∧ (x == ("__debug__" : Str)) = false ∧ x ≠ "__name__" ∧ X.mg x = none := by
  unfold Kc.fre at h
  rw [Bool.and_eq_true, decide_eq_true_eq] at h
  obtain ⟨h1, h2, h3⟩ := F.gl h.1
  exact ⟨h1, h2, h3, F.fr x h.2⟩
theorem bi_boot (b : Bi) : bootBuiltins (biS b) = some (biVal b) := by cases b <;> decide +kernel
theorem ty_boot {t : Ty} (h : tyB t = true) : bootBuiltins (tyS t) = some (.type (tyN t)) := by
  cases t <;> first | (cases h; done) | decide +kernel
theorem chkEs_len : ∀ {es : List CE} {c : Kc} {xs : List Expr}, chkEs es c xs = true → es.length = xs.length
  | [], c, xs, h => by
    simp only [chkEs, List.isEmpty_iff] at h
    rw [h]
    rfl
  | a :: as, c, [], h => by simp [chkEs] at h
  | a :: as, c, x :: xs, h => by
    simp only [chkEs, Bool.and_eq_true] at h
    rw [List.length_cons, List.length_cons, chkEs_len h.2]
theorem evEs_len : ∀ {es : List CE} {sl : Slots} {st st' : Store} {ds : List D}, evEs cl es sl st = .ok ds st' → ds.length = es.length
  | [], sl, st, st', ds, h => by
    simp only [evEs] at h
    cases h
    rfl
  | a :: as, sl, st, st', ds, h => by
    simp only [evEs] at h
    obtain ⟨d, s1, e1, h⟩ := bind_ok h
    obtain ⟨r, s2, e2, h⟩ := bind_ok h
    cases h
    rw [List.length_cons, List.length_cons, evEs_len e2]
end
end TM
set_option maxHeartbeats 4000000
/-! TM, part Q: the master theorem. -/
namespace TM
open PySem PySem.Spec PyProof.Rows L2
theorem star_of {es : List Expr} (h : nostar es = true) : es.all (fun e => !isStar e) = true := h
section
variable {B : Bx} {n : Nat} {cl : Nat → List D → Store → Res D}
/-- what is shown of an expression -/
structure Ok3 (X : Cx) (B : Bx) (e : Expr) (ev : Ev) : Prop where
  pe : PE X e (tE B ev)
  pt : isIf e = false → PT X e (tT B ev)
  pw : (∃ o ys pos, e = .BoolOp o ys pos) → PW X e (tT B ev)
theorem Ok3.plain {X : Cx} {e : Expr} {ev : Ev} (hK : B.K = X.K) (h : PE X e (tE B ev)) (hb : byTruth e = true) : Ok3 X B e ev :=
  ⟨h, fun _ => t_plain hK hb h, fun ⟨o, ys, pos, z⟩ => by subst z; cases hb⟩
theorem ok_and {X : Cx} {x y : Expr} {rest : List Expr} {pos : Pos} {eva evb : Ev} (hK : B.K = X.K) (hx : isIf x = false) (hy : isIf (oneB .And pos (y :: rest)) = false) (ha : Ok3 X B x eva) (hb : Ok3 X B (oneB .And pos (y :: rest)) evb) : Ok3 X B (.BoolOp .And (x :: y :: rest) pos) (fun sl st => (eva sl st).bind fun x st1 => match truth x st1 with
    | some true => evb sl st1
    | some false => .ok x st1
    | none => .stuck) := by
  have hE : PE X (.BoolOp .And (y :: rest) pos) (tE B evb) := by
    cases rest with
    | nil => exact pe_one hb.pe
    | cons z r => exact hb.pe
  have hW : PW X (.BoolOp .And (y :: rest) pos) (tT B evb) := by
    cases rest with
    | nil => exact pw_and1 (hb.pt hy)
    | cons z r => exact hb.pw ⟨_, _, _, rfl⟩
  have w := t_and (ha.pt hx) hW
  exact ⟨e_and hK ha.pe hE, fun _ => w.pt, fun _ => w⟩
theorem ok_or {X : Cx} {x y : Expr} {rest : List Expr} {pos : Pos} {eva evb : Ev} (hK : B.K = X.K) (hx : isIf x = false) (hy : isIf (oneB .Or pos (y :: rest)) = false) (ha : Ok3 X B x eva) (hb : Ok3 X B (oneB .Or pos (y :: rest)) evb) : Ok3 X B (.BoolOp .Or (x :: y :: rest) pos) (fun sl st => (eva sl st).bind fun x st1 => match truth x st1 with
    | some true => .ok x st1
    | some false => evb sl st1
    | none => .stuck) := by
  have hE : PE X (.BoolOp .Or (y :: rest) pos) (tE B evb) := by
    cases rest with
    | nil => exact pe_one hb.pe
    | cons z r => exact hb.pe
  have hW : PW X (.BoolOp .Or (y :: rest) pos) (tT B evb) := by
    cases rest with
    | nil => exact pw_or1 (hb.pt hy)
    | cons z r => exact hb.pw ⟨_, _, _, rfl⟩
  have w := t_or (ha.pt hx) hW
  exact ⟨e_or hK ha.pe hE, fun _ => w.pt, fun _ => w⟩
/-! targets -/
theorem each_len : ∀ {es : List Expr} {env : Env}, (assignEach es env).length = es.length
  | [], _ => rfl
  | e :: es, env => by
    have ih := each_len (es := es) (env := env)
    cases e <;> (unfold assignEach; rw [List.length_cons, List.length_cons, ih])
theorem each_cons {e : Expr} {es : List Expr} {env : Env} (h : isStar e = false) : assignEach (e :: es) env = (false, assign e env) :: assignEach es env := by
  cases e <;> first | (simp [isStar] at h; done) | rfl
theorem each_none : ∀ {es : List Expr} {env : Env}, es.all (fun e => !isStar e) = true → (assignEach es env).findIdx? (·.1) = none
  | [], _, _ => rfl
  | e :: es, env, h => by
    rw [List.all_cons, Bool.and_eq_true, Bool.not_eq_true'] at h
    rw [each_cons h.1, List.findIdx?_cons]
    simp [each_none h.2]
mutual
theorem tg_star {c : Kc} : ∀ {t : CT} {e : Expr}, chkG c t e = true → isStar e = false
  | .name i, e, h => by
    cases e <;> first | rfl | (simp [chkG] at h; done)
  | .tup ts, e, h => by
    cases e <;> first | rfl | (simp [chkG] at h; done)
theorem tgs_star {c : Kc} : ∀ {ts : List CT} {es : List Expr}, chkGs c ts es = true → es.all (fun e => !isStar e) = true ∧ es.length = ts.length
  | [], es, h => by
    simp only [chkGs, List.isEmpty_iff] at h
    subst h
    exact ⟨rfl, rfl⟩
  | t :: ts, [], h => by simp [chkGs] at h
  | t :: ts, e :: es, h => by
    simp only [chkGs, Bool.and_eq_true] at h
    obtain ⟨a, b⟩ := tgs_star h.2
    exact ⟨by rw [List.all_cons, tg_star h.1, a]; rfl, by rw [List.length_cons, List.length_cons, b]⟩
end
mutual
theorem okG {X : Cx} {c : Kc} (F : Fits X c B n cl) : ∀ {t : CT} {e : Expr}, chkG c t e = true → PG X e (gT B t)
  | .name i, e, h => by
    simp only [chkG] at h
    split at h
    · rw [Bool.and_eq_true, decide_eq_true_eq, ← F.N] at h
      obtain ⟨l1, l2⟩ := F.loc h.2
      exact g_name F.cok.nd h.1 l1 l2
    · cases h
  | .tup ts, e, h => by
    simp only [chkG] at h
    split at h
    · obtain ⟨s1, s2⟩ := tgs_star h
      exact g_tup F.K F.cok.calm s2 (by rw [each_len, s2]) (each_none s1) (okGs F h)
    · cases h
theorem okGs {X : Cx} {c : Kc} (F : Fits X c B n cl) : ∀ {ts : List CT} {es : List Expr}, chkGs c ts es = true → PGs X es (gTs B ts)
  | [], es, h => by
    simp only [chkGs, List.isEmpty_iff] at h
    subst h
    exact g_nil
  | t :: ts, [], h => by simp [chkGs] at h
  | t :: ts, e :: es, h => by
    simp only [chkGs, Bool.and_eq_true] at h
    exact g_cons (by rw [each_cons (tg_star h.1)]; rfl) (okG F h.1) (okGs F h.2)
end
theorem bind_congr {α β : Type} {r : Res α} {f g : α → Store → Res β} (h : ∀ a st, r = .ok a st → f a st = g a st) : r.bind f = r.bind g := by
  cases r with
  | ok a st => exact h a st rfl
  | exc C fs st => rfl
  | stuck => rfl
end
end TM
set_option maxHeartbeats 4000000
/-! TM, part R: the master theorem of expressions. -/
namespace TM
open PySem PySem.Spec PyProof.Rows L2
section
variable {B : Bx} {n : Nat} {cl : Nat → List D → Store → Res D}
theorem ok_bi {X : Cx} {c : Kc} (F : Fits X c B n cl) {b : Bi} {x : Str} {p pos : Pos} {xs : List Expr} {es : List CE} (g1 : Gl X x) (g4 : X.mg x = none) (hv : bootBuiltins x = some (biVal b)) (g3 : x ≠ "__name__") (g2 : (x == ("__debug__" : Str)) = false)
    (h3 : xs.isEmpty = false) (h4 : nostar xs = true) (k : PA X xs (tA B (evEs cl es))) : PE X (.Call (.Name x p) xs [] pos) (tE B (evE cl (.bi b es))) := by
  cases xs with
  | nil => cases h3
  | cons y ys => exact e_bi F.cok F.K b g1 g4 hv g3 g2 h4 k
theorem nil_of {es : List CE} {c : Kc} (h : chkEs es c [] = true) : es = [] := List.eq_nil_of_length_eq_zero (chkEs_len h)
theorem ok_me {X : Cx} {c : Kc} (F : Fits X c B n cl) {m : Me} {r : CE} {o : Expr} {nm : Str} {apos cpos : Pos} {xs : List Expr} {es : List CE} (h1 : nm = meName m) (h2 : noSuper o = true) (h3 : (apos.endLine == cpos.line) = true) (h5 : nostar xs = true) (h4 : xs.length < 30) (ho : PE X o (tE B (evE cl r)))
    (h7 : chkEs es c xs = true) (k : PA X xs (tA B (evEs cl es))) : PE X (.Call (.Attribute o nm apos) xs [] cpos) (tE B (evE cl (.me m r es))) := by
  cases xs with
  | nil =>
    have e0 := nil_of h7
    subst e0
    exact e_me0 m F.K h1 h2 h3 ho
  | cons y ys => exact e_me m F.K h1 h2 h3 h5 h4 ho k
theorem ok_call {X : Cx} {c : Kc} (F : Fits X c B n cl) {f : Nat} {x nm : Str} {ps : List Str} {kf : List Kform} {p pos : Pos} {xs : List Expr} {es : List CE} (FX : Fx X.prog X.w X.K X.mg X.base B.CA n x ps kf (cl f)) (g1 : Gl X x) (g2 : (x == ("__debug__" : Str)) = false) (h4 : nostar xs = true)
    (h5 : chkEs es c xs = true) (k : PA X xs (tA B (evEs cl es))) : PE X (.Call (.Name x p) xs [] pos) (tE B (evE cl (.call f nm es))) := by
  cases xs with
  | nil =>
    have e0 := nil_of h5
    subst e0
    exact e_call0 F.cok F.K F.E FX g1 g2
  | cons y ys => exact e_call F.cok F.K F.E FX g1 g2 h4 k
theorem ok_callK {X : Cx} {c : Kc} (F : Fits X c B n cl) {f : Nat} {x nm : Str} {ps ks : List Str} {kf : List Kform} {pm : List Nat} {p pos : Pos} {xs : List Expr} {kws : List Keyword} {es ls : List CE} (FX : Fx X.prog X.w X.K X.mg X.base B.CA n x ps kf (cl f)) (h8 : (⟨es.length, ks, pm⟩ : Kform) ∈ kf) (g1 : Gl X x) (g2 : (x == ("__debug__" : Str)) = false)
    (h6 : kws.map (·.arg) = ks.map some) (h4 : nostar xs = true) (h5 : chkEs es c xs = true) (hl : ∀ sl st ds st', evEs cl ls sl st = .ok ds st' → ds.length = ks.length) (k : PA X xs (tA B (evEs cl es))) (kk : PK X kws (tA B (evEs cl ls))) :
    PE X (.Call (.Name x p) xs kws pos) (tE B (evE cl (.callK f nm ks es ls pm))) := by
  have e1 : ∀ sl st, (evE cl (.callK f nm ks es ls pm) sl st) = (ev2 (evEs cl es) (evEs cl ls) sl st).bind fun ds st1 => match permA ds pm with
    | some vs => cl f vs st1
    | none => .stuck := fun sl st => by
    show ((evEs cl es sl st).bind fun ds st1 => (evEs cl ls sl st1).bind fun zs st2 => match permA (ds ++ zs) pm with
      | some vs => cl f vs st2
      | none => .stuck) = _
    unfold ev2
    rw [bind_assoc]
    refine bind_congr fun a st1 _ => ?_
    rw [bind_assoc]
    rfl
  have e2 : (evE cl (.callK f nm ks es ls pm)) = fun sl st => (ev2 (evEs cl es) (evEs cl ls) sl st).bind fun ds st1 => match permA ds pm with
    | some vs => cl f vs st1
    | none => .stuck := by
    funext sl st
    exact e1 sl st
  cases xs with
  | nil =>
    have e0 := nil_of h5
    subst e0
    have q := e_callK0 (p := p) (pos := pos) F.cok F.K F.E FX h8 g1 g2 h6 rfl hl kk
    exact q
  | cons y ys =>
    rw [e2]
    exact e_callK F.cok F.K F.E FX h8 g1 g2 h6 h4 (fun sl st ds st' e => evEs_len e) hl k kk
theorem ok_rng {X : Cx} {c : Kc} (F : Fits X c B n cl) {tg : Expr} {nm : Str} {p pos : Pos} {xs : List Expr} {es : List CE} (h1 : nm = "range") (g1 : Gl X nm) (g4 : X.mg nm = none) (h4 : xs.length = 1 ∨ xs.length = 2) (hl : es.length = xs.length) (hs : ∀ x ∈ xs, isStar x = false) (k : PA X xs (tA B (evEs cl es))) :
    PI X tg (.Call (.Name nm p) xs [] pos) (tI B (evI cl (.rng es))) := by
  have key : ∀ m, es.length = m → (evI cl (.rng es)) = fun sl st => (evEs cl es sl st).bind fun ds st1 => if ds.length = m then ofO ((rngD ds).map fun xs => (⟨none, xs⟩ : Itr)) st1 else .stuck := fun m hm => by
    funext sl st
    show ((evEs cl es sl st).bind fun ds st1 => ofO ((rngD ds).map fun xs => (⟨none, xs⟩ : Itr)) st1) = _
    refine bind_congr fun ds st1 e => ?_
    rw [if_pos (by rw [evEs_len e, hm])]
  match xs, h4, hl, hs, k with
  | [x], _, hl, hs, k =>
    rw [key 1 hl]
    exact i_rng1 h1 g1 g4 (hs x (by simp)) k
  | [x, y], _, hl, hs, k =>
    rw [key 2 hl]
    exact i_rng2 h1 g1 g4 (hs x (by simp)) (hs y (by simp)) k
  | [], h4, _, _, _ => simp at h4
  | _ :: _ :: _ :: _, h4, _, _, _ => simp at h4
mutual
theorem okE {X : Cx} {c : Kc} : ∀ {ce : CE} {e : Expr}, Fits X c B n cl → chkE ce c e = true → Ok3 X B e (evE cl ce)
  | .var i, e, F, h => by
    simp only [chkE] at h
    split at h
    · rw [Bool.and_eq_true, decide_eq_true_eq, ← F.N] at h
      obtain ⟨v1, v2, v3⟩ := F.vis h.2
      exact .plain F.K (e_var h.1 v1 v2 v3) rfl
    · cases h
  | .non, e, F, h => by
    simp only [chkE] at h
    split at h
    · exact .plain F.K e_non rfl
    · cases h
  | .bl b, e, F, h => by
    simp only [chkE] at h
    split at h
    · rw [beq_iff_eq] at h
      subst h
      exact .plain F.K e_bl rfl
    · cases h
  | .int b, e, F, h => by
    simp only [chkE] at h
    split at h
    · rw [decide_eq_true_eq] at h
      subst h
      exact .plain F.K e_int rfl
    · cases h
  | .str b, e, F, h => by
    simp only [chkE] at h
    split at h
    · rw [decide_eq_true_eq] at h
      subst h
      exact .plain F.K e_str rfl
    · cases h
  | .glob x d, e, F, h => by
    simp only [chkE] at h
    split at h
    · rw [Bool.and_eq_true, Bool.and_eq_true, decide_eq_true_eq, decide_eq_true_eq] at h
      obtain ⟨⟨rfl, h2⟩, h3⟩ := h
      obtain ⟨g1, g2, _⟩ := F.gl h2
      obtain ⟨u, v, m, r, f⟩ := F.gb _ h3
      exact .plain F.K (e_glob g1 m r f g2) rfl
    · cases h
  | .op o a b, e, F, h => by
    simp only [chkE] at h
    split at h
    · rw [Bool.and_eq_true, Bool.and_eq_true, decide_eq_true_eq] at h
      obtain ⟨⟨rfl, h2⟩, h3⟩ := h
      exact .plain F.K (e_op F.K (okE F h2).pe (okE F h3).pe _) rfl
    · cases h
  | .neg a, e, F, h => by
    simp only [chkE] at h
    split at h
    · exact .plain F.K (e_neg (okE F h).pe) rfl
    · cases h
  | .not_ a, e, F, h => by
    simp only [chkE] at h
    split at h
    · rw [Bool.and_eq_true, Bool.not_eq_true'] at h
      have k := okE F h.2
      exact ⟨e_not F.K k.pe, fun _ => t_not (k.pt h.1), fun ⟨_, _, _, z⟩ => by cases z⟩
    · cases h
  | .and_ a b, e, F, h => by
    simp only [chkE] at h
    split at h
    · simp only [Bool.and_eq_true, Bool.not_eq_true'] at h
      exact ok_and F.K h.1.1.1 h.1.1.2 (okE F h.1.2) (okE F h.2)
    · cases h
  | .or_ a b, e, F, h => by
    simp only [chkE] at h
    split at h
    · simp only [Bool.and_eq_true, Bool.not_eq_true'] at h
      exact ok_or F.K h.1.1.1 h.1.1.2 (okE F h.1.2) (okE F h.2)
    · cases h
  | .ife t a b, e, F, h => by
    simp only [chkE] at h
    split at h
    · simp only [Bool.and_eq_true, Bool.not_eq_true'] at h
      exact ⟨e_ife ((okE F h.1.1.2).pt h.1.1.1) (okE F h.1.2).pe (okE F h.2).pe, fun z => (by cases z), fun ⟨_, _, _, z⟩ => (by cases z)⟩
    · cases h
  | .cmp o a b, e, F, h => by
    simp only [chkE] at h
    split at h
    · simp only [Bool.and_eq_true, Bool.not_eq_true', decide_eq_true_eq] at h
      obtain ⟨⟨⟨rfl, h2⟩, h3⟩, h4⟩ := h
      have hu := F.cok.u64
      exact ⟨e_cmp F.K hu o h2 (okE F h3).pe (okE F h4).pe, fun _ => t_cmp F.K hu o h2 (okE F h3).pe (okE F h4).pe, fun ⟨_, _, _, z⟩ => by cases z⟩
    · cases h
  | .chain o p a b d, e, F, h => by
    simp only [chkE] at h
    split at h
    · simp only [Bool.and_eq_true, Bool.not_eq_true', decide_eq_true_eq] at h
      obtain ⟨⟨⟨⟨⟨rfl, rfl⟩, h2⟩, h3⟩, h4⟩, h5⟩ := h
      have hu := F.cok.u64
      exact ⟨e_chain F.K hu o p h2 (okE F h3).pe (okE F h4).pe (okE F h5).pe, fun _ => t_chain F.K hu o p h2 (okE F h3).pe (okE F h4).pe (okE F h5).pe, fun ⟨_, _, _, z⟩ => by cases z⟩
    · cases h
  | .isin a ts, e, F, h => by
    simp only [chkE] at h
    split at h
    · simp only [Bool.and_eq_true, Bool.not_eq_true', decide_eq_true_eq] at h
      obtain ⟨⟨⟨⟨⟨h1, h2⟩, h3⟩, h4⟩, h5⟩, h6⟩ := h
      split at h4
      · rename_i t
        rw [Bool.and_eq_true, decide_eq_true_eq] at h4
        obtain ⟨g1, g2, g3, g4⟩ := F.fre h2
        obtain ⟨k1, k2, k3, k4⟩ := F.fre h3
        refine .plain F.K (e_isi F.K h1 g1 g4 k1 k4 ?_ k3 k2 h4.1 h5 (okE F h6).pe) rfl
        rw [h4.2]
        exact ty_boot h4.1
      · cases h4
    · cases h
  | .tup es, e, F, h => by
    simp only [chkE] at h
    split at h
    · rw [Bool.and_eq_true] at h
      exact .plain F.K (e_tup (okEs F h.1 h.2)) rfl
    · cases h
  | .lst mt es, e, F, h => by
    simp only [chkE] at h
    split at h
    · rw [Bool.and_eq_true] at h
      exact .plain F.K (e_lst mt (okEs F h.1 h.2)) rfl
    · cases h
  | .dct mt es, e, F, h => by
    simp only [chkE] at h
    split at h
    · split at h
      · exact .plain F.K (e_dct0 mt) rfl
      · cases h
    · cases h
  | .idx a b, e, F, h => by
    simp only [chkE] at h
    split at h
    · simp only [Bool.and_eq_true, Bool.not_eq_true'] at h
      exact .plain F.K (e_idx F.cok F.K h.1.1 (okE F h.1.2).pe (okE F h.2).pe) rfl
    · cases h
  | .sl a lo hi, e, F, h => by
    simp only [chkE] at h
    split at h
    · simp only [Bool.and_eq_true] at h
      exact .plain F.K (e_sl F.K (okE F h.1.1).pe (okO F h.1.2) (okO F h.2)) rfl
    · cases h
  | .slx a s, e, F, h => by
    simp only [chkE] at h
    split at h
    · simp only [Bool.and_eq_true] at h
      exact .plain F.K (e_slx F.K (okE F h.1).pe (okE F h.2).pe) rfl
    · cases h
  | .call f nm es, e, F, h => by
    simp only [chkE] at h
    split at h
    · simp only [Bool.and_eq_true, decide_eq_true_eq] at h
      obtain ⟨⟨⟨⟨h1, h2⟩, h3⟩, h4⟩, h5⟩ := h
      obtain ⟨g1, g2, _⟩ := F.gl h2
      rw [Option.map_eq_some_iff] at h3
      obtain ⟨G, eG, rfl⟩ := h3
      obtain ⟨ps, FX⟩ := F.ft f G eG
      exact .plain F.K (ok_call F FX g1 g2 h4 h5 (okEs F h4 h5)) rfl
    · cases h
  | .callK f nm ks es ls pm, e, F, h => by
    simp only [chkE] at h
    split at h
    · simp only [Bool.and_eq_true, decide_eq_true_eq] at h
      obtain ⟨⟨⟨⟨⟨⟨h1, h2⟩, h3⟩, h4⟩, h5⟩, h6⟩, h7⟩ := h
      obtain ⟨g1, g2, _⟩ := F.gl h2
      split at h3
      · rename_i G eG
        simp only [Bool.and_eq_true, decide_eq_true_eq] at h3
        obtain ⟨h3, h8⟩ := h3
        obtain ⟨ps, FX⟩ := F.ft f G eG
        rw [h3] at FX
        have k := okEs F h4 h5
        have kk := okKs F h7
        have l2 := chkEs_len h7
        have l3 := congrArg List.length h6
        simp only [PKr, List.length_map] at l2 l3
        have hl : ∀ sl st ds st', evEs cl ls sl st = .ok ds st' → ds.length = ks.length := fun sl st ds st' e => by rw [evEs_len e]; omega
        exact .plain F.K (ok_callK F FX h8 g1 g2 h6 h4 h5 hl k kk) rfl
      · cases h3
    · cases h
  | .bi b es, e, F, h => by
    simp only [chkE] at h
    split at h
    · simp only [Bool.and_eq_true, Bool.not_eq_true', decide_eq_true_eq] at h
      obtain ⟨⟨⟨⟨h1, h2⟩, h3⟩, h4⟩, h5⟩ := h
      obtain ⟨g1, g2, g3, g4⟩ := F.fre h2
      exact .plain F.K (ok_bi F g1 g4 (by rw [h1]; exact bi_boot b) g3 g2 h3 h4 (okEs F h4 h5)) rfl
    · cases h
  | .me m r es, e, F, h => by
    simp only [chkE] at h
    split at h
    · simp only [Bool.and_eq_true, decide_eq_true_eq] at h
      obtain ⟨⟨⟨⟨⟨⟨h1, h2⟩, h3⟩, h4⟩, h5⟩, h6⟩, h7⟩ := h
      exact .plain F.K (ok_me F h1 h2 h3 h5 h4 (okE F h6).pe h7 (okEs F h5 h7)) rfl
    · cases h
  | .lc mt own t it ifs a, e, F, h => by
    simp only [chkE] at h
    split at h
    · simp only [Bool.and_eq_true, Bool.not_eq_true', decide_eq_true_eq, List.all_eq_true] at h
      obtain ⟨⟨⟨⟨⟨⟨⟨h1, h2⟩, h3⟩, h4⟩, h5⟩, h6⟩, h7⟩, h8⟩ := h
      subst h1
      refine .plain F.K (e_lc F.cok.calm F.cok.nd (okI F h5) (blkOk_by (by rw [F.N, F.sc]; exact h2)) h3 (fun s H C cls fp => okG (F.blk s H _ C cls fp) h6) (fun s H C cls fp => okFs (F.blk s H _ C cls fp) h7) (fun s H C cls fp => (okE (F.blk s H _ C cls fp) h8).pe) h4) rfl
    · cases h
  | .frz a, e, F, h => by
    simp only [chkE, Bool.and_eq_true] at h
    exact .plain F.K (e_frz (okE F h.2).pe) h.1
theorem okEs {X : Cx} {c : Kc} : ∀ {ce : List CE} {e : List Expr}, Fits X c B n cl → nostar e = true → chkEs ce c e = true → PA X e (tA B (evEs cl ce))
  | [], e, F, hs, h => by
    simp only [chkEs, List.isEmpty_iff] at h
    subst h
    exact a_nil
  | a :: as, [], F, hs, h => by simp [chkEs] at h
  | a :: as, x :: xs, F, hs, h => by
    simp only [chkEs, Bool.and_eq_true] at h
    have hs' : (x :: xs).all (fun e => !isStar e) = true := hs
    rw [List.all_cons, Bool.and_eq_true, Bool.not_eq_true'] at hs'
    exact a_cons hs'.1 (okE F h.1).pe (okEs F hs'.2 h.2)
theorem okKs {X : Cx} {c : Kc} : ∀ {ce : List CE} {kws : List Keyword}, Fits X c B n cl → chkEs ce c (PKr kws) = true → PK X kws (tA B (evEs cl ce))
  | [], kws, F, h => by
    simp only [chkEs, List.isEmpty_iff, PKr, List.map_eq_nil_iff] at h
    subst h
    exact k_nil
  | a :: as, [], F, h => by simp [chkEs, PKr] at h
  | a :: as, ⟨nm, x, p⟩ :: xs, F, h => by
    simp only [chkEs, Bool.and_eq_true, PKr, List.map_cons] at h
    exact k_cons (okE F h.1).pe (okKs F h.2)
theorem okFs {X : Cx} {c : Kc} : ∀ {ce : List CE} {e : List Expr}, Fits X c B n cl → chkFs ce c e = true → PTs X e (tB B (evTs cl ce))
  | [], e, F, h => by
    simp only [chkFs, List.isEmpty_iff] at h
    subst h
    exact ts_nil
  | a :: as, e, F, h => by
    simp only [chkFs] at h
    split at h
    · simp only [Bool.and_eq_true, Bool.not_eq_true', List.isEmpty_iff] at h
      obtain ⟨⟨rfl, h2⟩, h3⟩ := h
      exact ts_one ((okE F h3).pt h2)
    · cases h
theorem okO {X : Cx} {c : Kc} : ∀ {ce : CO} {e : Option Expr}, Fits X c B n cl → chkO ce c e = true → PO X e (tO B (evO cl ce))
  | .none, e, F, h => by
    simp only [chkO, Option.isNone_iff_eq_none] at h
    subst h
    exact o_none
  | .some a, e, F, h => by
    simp only [chkO] at h
    split at h
    · exact o_some (okE F h).pe
    · cases h
theorem okI {X : Cx} {c : Kc} {tg : Expr} : ∀ {ce : CI} {e : Expr}, Fits X c B n cl → chkI ce c e = true → PI X tg e (tI B (evI cl ce))
  | .e a, e, F, h => by
    simp only [chkI] at h
    exact i_e F.K (okE F h).pe
  | .rng es, e, F, h => by
    simp only [chkI] at h
    split at h
    · simp only [Bool.and_eq_true, decide_eq_true_eq, Bool.or_eq_true, beq_iff_eq] at h
      obtain ⟨⟨⟨⟨h1, h2⟩, h3⟩, h4⟩, h5⟩ := h
      obtain ⟨g1, g2, g3, g4⟩ := F.fre h2
      have k := okEs F h3 h5
      have hl := chkEs_len h5
      exact ok_rng F h1 g1 g4 h4 hl (fun x hx => by
        have := List.all_eq_true.mp (star_of h3) x hx
        simpa using this) k
    · cases h
  | .enum a, e, F, h => by simp [chkI] at h
  | .zip a b, e, F, h => by simp [chkI] at h
end
end
end TM
set_option maxHeartbeats 4000000
/-! TM, part S: the master theorem of statements, of defs, of tables of defs. -/
namespace TM
open PySem PySem.Spec PyProof.Rows L2
section
variable {B : Bx} {n : Nat} {cl : Nat → List D → Store → Res D}
theorem swC_of {X : Cx} {c : Kc} (F : Fits X c B n cl) {y : Str} {py pos spos : Pos} {elt : Expr} {gs : List Comprehension} {scope : Scope} (h : swC c y py scope pos = true) :
    X.env.scope.names.lookup y = some .local ∧ swapsWith (.ListComp elt gs scope pos) (some (.Name y py)) spos.line X.env = pure true := by
  unfold swC at h
  simp only [Bool.and_eq_true, decide_eq_true_eq] at h
  obtain ⟨⟨⟨h1, h2⟩, h3⟩, h4⟩ := h
  rw [← F.sc] at h1 h2
  refine ⟨h2, ?_⟩
  have e1 : X.env.blockKind = .function := by
    unfold Env.blockKind
    rw [h1]
    rfl
  have e2 : X.env.kindOf y = some .local := h2
  show pure (X.env.blockKind == .function && X.env.kindOf y == some .local && py.line == pos.line && !(scope.names.any fun (n, k) => n == y && (k == .local || k == .cell))) = _
  rw [e1, e2, h3]
  have e3 : (!(scope.names.any fun (n, k) => n == y && (k == .local || k == .cell))) = true := h4
  rw [e3]
  rfl
theorem swC_loc {X : Cx} {c : Kc} (F : Fits X c B n cl) {y : Str} {py pos : Pos} {scope : Scope} (h : swC c y py scope pos = true) : X.env.scope.names.lookup y = some .local := (swC_of F (elt := .Name y pos) (gs := []) (spos := pos) h).1
mutual
theorem okS {X : Cx} {c : Kc} (hx : X.xe = fun _ _ => False) : ∀ {cs : CS} {s : Stmt}, Fits X c B n cl → chkS cs c s = true → PS X s (tS B (evS cl cs))
  | .asg t a, s, F, h => by
    simp only [chkS] at h
    split at h
    · simp only [Bool.and_eq_true, Bool.not_eq_true', Bool.or_eq_true] at h
      obtain ⟨⟨⟨⟨h1, h2⟩, h3⟩, h4⟩, h5⟩ := h
      exact s_asg h1 h2 h3 (okE F h5).pe (okG F h4)
    · cases h
  | .asgLc i a, s, F, h => by
    simp only [chkS] at h
    split at h
    · simp only [Bool.and_eq_true, decide_eq_true_eq] at h
      obtain ⟨⟨⟨h1, h2⟩, h3⟩, h4⟩ := h
      split at h3
      · simp only [chkE] at h4
        split at h4
        · rename_i heq
          cases heq
          simp only [Bool.and_eq_true, Bool.not_eq_true', decide_eq_true_eq, List.all_eq_true] at h4
          obtain ⟨⟨⟨⟨⟨⟨⟨k1, k2⟩, k3⟩, k4⟩, k5⟩, k6⟩, k7⟩, k8⟩ := h4
          subst k1
          exact s_asgLc F.cok.calm F.cok.nd (by rw [F.N]; exact h1) (swC_loc F h2) (okI F k5) (blkOk_by (by rw [F.N, F.sc]; exact k2)) k3 (fun s H C cls fp => okG (F.blk s H _ C cls fp) k6) (fun s H C cls fp => okFs (F.blk s H _ C cls fp) k7) (fun s H C cls fp => (okE (F.blk s H _ C cls fp) k8).pe) k4 (swC_of F h2).2
        · cases h4
      · cases h3
    · cases h
  | .par _ _ _ _, s, F, h => by simp [chkS] at h
  | .aug _ _ _, s, F, h => by simp [chkS] at h
  | .setI o i a, s, F, h => by
    simp only [chkS] at h
    split at h
    · simp only [Bool.and_eq_true, Bool.not_eq_true'] at h
      obtain ⟨⟨⟨⟨h1, h2⟩, h3⟩, h4⟩, h5⟩ := h
      have hu := F.cok.u64
      exact s_setI h1 (by omega) h2 (okE F h3).pe (okE F h4).pe (okE F h5).pe
    · cases h
  | .ex a, s, F, h => by
    simp only [chkS] at h
    split at h
    · simp only [Bool.and_eq_true, Bool.not_eq_true'] at h
      exact s_ex h.1 (okE F h.2).pe
    · cases h
  | .iff t a b, s, F, h => by
    simp only [chkS] at h
    split at h
    · simp only [Bool.and_eq_true, Bool.not_eq_true'] at h
      exact s_iff ((okE F h.1.1.2).pt h.1.1.1) (okSs hx F h.1.2) (okSs hx F h.2)
    · cases h
  | .for_ t it b, s, F, h => by
    simp only [chkS] at h
    split at h
    · simp only [Bool.and_eq_true, Bool.not_eq_true'] at h
      obtain ⟨⟨⟨h1, h2⟩, h3⟩, h4⟩ := h
      exact s_for hx F.cok.calm h1 (okI F h3) (okG F h2) (okSs hx F h4)
    · cases h
  | .whl t b, s, F, h => by
    simp only [chkS] at h
    split at h
    · simp only [Bool.and_eq_true, Bool.not_eq_true'] at h
      exact s_whl hx ((okE F h.1.2).pt h.1.1) (okSs hx F h.2) wfuel
    · cases h
  | .ret a, s, F, h => by
    simp only [chkS] at h
    split at h
    · exact s_ret (okE F h).pe
    · cases h
  | .retN, s, F, h => by
    simp only [chkS] at h
    split at h
    · exact s_retN
    · cases h
  | .pass, s, F, h => by
    simp only [chkS] at h
    split at h
    · exact s_pass
    · cases h
  | .brk, s, F, h => by
    simp only [chkS] at h
    split at h
    · exact s_brk
    · cases h
  | .cnt, s, F, h => by
    simp only [chkS] at h
    split at h
    · exact s_cnt
    · cases h
theorem okSs {X : Cx} {c : Kc} (hx : X.xe = fun _ _ => False) : ∀ {cs : List CS} {s : List Stmt}, Fits X c B n cl → chkSs cs c s = true → PSs X s (tS B (evSs cl cs))
  | [], s, F, h => by
    simp only [chkSs, List.isEmpty_iff] at h
    subst h
    exact ss_nil
  | a :: as, [], F, h => by simp [chkSs] at h
  | a :: as, s :: ss, F, h => by
    simp only [chkSs, Bool.and_eq_true] at h
    exact ss_cons (okS hx F h.1) (okSs hx F h.2)
end
end
/-! ### a def -/
section
variable {P : Program} {w : World} {K : PySem.W.Frag} {mg : Str → Option Value} {base : Heap} {CA : Nat → Addr}
/-- a def of the text by its body (the wishes: no guard about, the table of modules in the base) -/
theorem fnG_of {k : Nat} {f : Addr} {fd : FuncData} {x qual : Str} {params : Arguments} {body : List Stmt} {scope : Scope} {dvs : List V} {kws : List (Str × V)} {N ps : List Str} {g : Fc} (F : FunD K x qual params body scope dvs kws f fd) (S : FnScope N ps scope)
    (len : ∀ ds st, g ds st ≠ .stuck → ds.length = ps.length)
    (hbody : ∀ (cdv : Value) (A : Around) (outer : List Env) (s : Shared) (H : Hp) (vs : List V) (Q : VK) (E : XK), A.guards = some [] → Room k (A.deeper (envOfC qual scope s.heap.objs.size f cdv)) → prom K CA g vs H Q E →
      ∃ t, PSs (cxOf CX0 P w K mg base N qual scope f cdv A outer s H E) body t ∧ t { nx := fun _ H' => Q .non H', rt := Q } (start N vs) H) : FnG P w K mg base (k + 1) f fd ps (prom K CA g) := by
  obtain ⟨oc, od, dV, kV, doc, pm, an, cdv, ct, osl, rfl, lk, hcd, _, _⟩ := F.ex
  have hlen : ∀ vs H Q E, prom K CA g vs H Q E → vs.length = ps.length := fun vs H Q E ⟨W, ds, st, _, _, r, _, q⟩ => by
    rw [r.length]
    refine len ds st fun z => ?_
    rw [z] at q
    exact q
  refine ⟨hlen, fun A outer s H args us vs Q E hg hr e0 hb r hsp => ?_⟩
  -- the entry
  have kIn : K.In s.heap := e0.mod.kin.keeps fun b o e => (e0.bs b o e).1
  have nolim : s.heap.NoLimit := e0.mod.nolimit.keeps fun b o e => (e0.bs b o e).1
  have kinds : ∀ y ∈ ps.zip us, scope.names.lookup y.1 = some .local ∨ (scope.names.lookup y.1 = some .cell ∧ ((cellsFrom (s.heap.objs.size + 1) scope.names []).lookup y.1).isSome = true) := fun y hy =>
    (S.par y.1 (List.of_mem_zip hy).1).imp id fun q => ⟨q, PySem.W.cellsFrom_some _ _ _ (.inl q)⟩
  have room1 : A.depth < recursionLimit := by
    have := hr.dp
    omega
  refine codeAny_call_function room1 (kIn _ _ lk) rfl S.co S.gen rfl (PySem.W.codeRec_of kIn hcd) (hb _ _ _ _ (wpAny_newFunctionEnv_cells S.kind kinds fun env he s1 x => ?_))
  cases he
  obtain ⟨t, ht, hq⟩ := hbody cdv A outer s H vs Q E hg (hr.deeper _) hsp
  have I := inv_start (CX := CX0) (E := E) S hr.hd e0 (hlen _ _ _ _ hsp) r x
  refine ⟨nolim.keeps x.toInCall.keep, codeAny_func (wpAny_mono (ht.run [] s1 (start N vs) H _ I hq) (fun fl s' hs => ?_) fun e s' hs => hs)⟩
  cases fl with
  | ret u =>
    obtain ⟨v, σ', H', J, rv, q⟩ := hs
    exact ⟨v, H', J.os, J.bare, J.base, J.hok, rv, q⟩
  | next =>
    obtain ⟨σ', H', J, q⟩ := hs
    exact ⟨.non, H', J.os, J.bare, J.base, J.hok, rfl, q⟩
  | brk =>
    obtain ⟨_, _, _, q⟩ := hs
    exact q.elim
  | cont =>
    obtain ⟨_, _, _, q⟩ := hs
    exact q.elim
/-- what is known of a table's def -/
structure FnT (K : PySem.W.Frag) (mg : Str → Option Value) (FT : List FD) (fr : List Str) (gb : List (Str × D)) (F : FD) : Prop where
  ex : ∃ (fa : Addr) (fd : FuncData) (qual : Str) (params : Arguments) (body : List Stmt) (scope : Scope) (dvs : List V) (kws : List (Str × V)) (N ps : List Str),
    FunD K F.nm qual params body scope dvs kws fa fd ∧ mg F.nm = some (.ref fa) ∧ Binds K fd ps [] ∧ (∀ q ∈ F.kf, KB K fd ps q) ∧ FnScope N ps scope ∧ ps.length = F.np ∧ N.length = F.nn ∧ chkSs F.body ⟨N, scope, fun _ => true, FT, fr, gb⟩ body = true
variable {FT : List FD} {fr : List Str} {gb : List (Str × D)}
theorem evCall_len {f : Nat} {F : FD} (e : FT[f]? = some F) {k : Nat} {ds : List D} {st : Store} (h : evCall FT k f ds st ≠ .stuck) : ds.length = F.np := by
  cases k with
  | zero => exact absurd rfl h
  | succ k =>
    unfold evCall at h
    rw [e] at h
    by_cases hl : ds.length = F.np
    · exact hl
    · dsimp only at h
      rw [if_neg hl] at h
      exact absurd rfl h
theorem post_end {W : Wo} {E : XK} {r : RS} {Q : VK} (h : Post W E (endS r) Q) : PostS W E r { nx := fun _ H' => Q .non H', rt := Q } := by
  cases r with
  | next sl st => exact fun W' σ' H' l _ s => h W' H' .non l s repN
  | ret d st => exact h
  | brk sl st => exact h.elim
  | cnt sl st => exact h.elim
  | exc C fs st => exact h
  | stuck => exact h.elim
/-- a def of a table, the table's defs known one level down -/
theorem def_ok {k f : Nat} {F : FD} {fa : Addr} {fd : FuncData} {qual : Str} {params : Arguments} {body : List Stmt} {scope : Scope} {dvs : List V} {kws : List (Str × V)} {N ps : List Str} (hsm : ∃ o, base.get? sysModules = some o) (hfr : ∀ x ∈ fr, mg x = none) (hgb : ∀ p ∈ gb, ∃ u v, mg p.1 = some u ∧ RelV v u ∧ flatOf p.2 = some v)
    (hk : ∀ (f : Nat) (F : FD), FT[f]? = some F → ∃ ps, Fx P w K mg base CA k F.nm ps F.kf (evCall FT k f)) (e : FT[f]? = some F) (FU : FunD K F.nm qual params body scope dvs kws fa fd) (S : FnScope N ps scope) (l1 : ps.length = F.np) (l2 : N.length = F.nn) (hc : chkSs F.body ⟨N, scope, fun _ => true, FT, fr, gb⟩ body = true) :
    FnG P w K mg base (k + 1) fa fd ps (prom K CA (evCall FT (k + 1) f)) := by
  refine fnG_of FU S (fun ds st h => by rw [l1]; exact evCall_len e h) fun cdv A outer s H vs Q E hg hr hsp => ?_
  obtain ⟨W, ds, st, h1, h2, r, sr, q⟩ := hsp
  refine ⟨_, PSs.nox (okSs (B := ⟨K, CA, E0⟩) (n := k) (cl := evCall FT k) rfl ⟨⟨rfl, S.nd, hr, hg, hsm⟩, rfl, rfl, rfl, rfl, rfl, hk, hfr, hgb⟩ hc), ?_⟩
  unfold evCall at q
  rw [e] at q
  dsimp only at q
  by_cases hl : ds.length = F.np
  · rw [if_pos hl] at q
    refine ⟨W, slots0 F.nn ds, st, h1, h2, ?_, sr, post_end q⟩
    unfold slots0
    rw [← l2]
    exact SlR.start r
  · rw [if_neg hl] at q
    exact q.elim
/-- all defs of a table, at every depth -/
theorem table_ok (hsm : ∃ o, base.get? sysModules = some o) (hT : ∀ (f : Nat) (F : FD), FT[f]? = some F → FnT K mg FT fr gb F) (hfr : ∀ x ∈ fr, mg x = none) (hgb : ∀ p ∈ gb, ∃ u v, mg p.1 = some u ∧ RelV v u ∧ flatOf p.2 = some v) :
    ∀ (k f : Nat) (F : FD), FT[f]? = some F → ∃ ps, Fx P w K mg base CA k F.nm ps F.kf (evCall FT k f)
  | 0, f, F, e => by
    obtain ⟨fa, fd, qual, params, body, scope, dvs, kws, N, ps, FU, hm, hb, hk, S, l1, l2, hc⟩ := (hT f F e).ex
    refine ⟨ps, fa, fd, hm, FU.kp, hb, hk, ⟨fun vs H Q E ⟨W, ds, st, _, _, r, _, q⟩ => q.elim, fun A outer s H args us vs Q E hg hr e0 hb r ⟨W, ds, st, _, _, r', _, q⟩ => q.elim⟩⟩
  | k + 1, f, F, e => by
    obtain ⟨fa, fd, qual, params, body, scope, dvs, kws, N, ps, FU, hm, hb, hk, S, l1, l2, hc⟩ := (hT f F e).ex
    exact ⟨ps, fa, fd, hm, FU.kp, hb, hk, def_ok hsm hfr hgb (fun f F e => table_ok hsm hT hfr hgb k f F e) e FU S l1 l2 hc⟩
end
end TM
set_option maxHeartbeats 2000000
/-! TM, part T: the law's end. -/
namespace TM
open PySem PySem.Spec PyProof.Rows L2
/-- the law's def is called: nothing is tracked but the script; the table of modules stands in the base -/
theorem law_callG {P : Program} {w : World} {K : PySem.W.Frag} {mg mb : Str → Option Value} {k : Nat} {fa a : Addr} {fd : FuncData} {x : Str} {sp : Sp} {s₁ : Shared} {vs : List Value} {ns : List Int}
    (KX : K.In s₁.heap) (hns : s₁.heap.Ns mainGlobals mg) (hb : s₁.heap.Ns builtinsNs mb) (hbb : ∀ x : Str, x ≠ "__name__" → mb x = bootBuiltins x) (hlim : s₁.heap.NoLimit) (hsm : ∃ mm, s₁.heap.Ns sysModules mm) (hg : s₁.gens = #[])
    (ha : s₁.heap.get? a = some { cls := .type "list", data := .seq vs.toArray }) (hi : IntsAre vs ns) (hl : ns.length ≤ sizeLine) (hr : Room k callerA)
    (F : ∀ base : Heap, K.In base → base.Ns mainGlobals mg → (∃ o, base.get? sysModules = some o) → FnG P w K mg base k fa fd [x] sp) (hbind : ∀ (s : Shared) (u : Value), BindsTo s fd ⟨[u], []⟩ [(x, u)])
    (hsp : ∀ H : Hp, Only H → SqL K H a (ns.map V.int) → sp [.ref a] H (fun v _ => v = .bl true) E0) :
    codeAny (model P w) callerA (.call (.ref fa) ⟨[.ref a], []⟩) (fun r s' => r = .ok (.ret (.bool true)) ∧ OldK s₁.heap s'.heap ∧ s'.os = s₁.os ∧ AllBare s'.gens) s₁ := by
  have key : ∀ H : Hp, Only H → SqL K H a (ns.map V.int) → HOk P w H s₁.heap → (∀ b, H b ≠ none → b = a ∧ K.lookup a = none) →
      codeAny (model P w) callerA (.call (.ref fa) ⟨[.ref a], []⟩) (fun r s' => r = .ok (.ret (.bool true)) ∧ OldK s₁.heap s'.heap ∧ s'.os = s₁.os ∧ AllBare s'.gens) s₁ := by
    intro H hO hS hok hA
    -- what is no script is not tracked
    have out : ∀ {b : Addr} {o : Obj}, s₁.heap.get? b = some o → (∀ n, o.data ≠ .seq vs.toArray n) → H b = none := fun {b o} e d => by
      cases q : H b with
      | none => rfl
      | some u =>
        obtain ⟨rfl, _⟩ := hA b (by rw [q]; exact fun z => nomatch z)
        rw [ha] at e
        cases e
        exact absurd rfl (d _)
    have nsB : ∀ {b : Addr} {m : Str → Option Value}, s₁.heap.Ns b m → (hidT s₁.heap H).Ns b m := fun {b m} ⟨o, es, ep, e, d, r⟩ => ⟨o, es, ep, hidT_get e (out e fun n z => by rw [d] at z; cases z), d, r⟩
    have kB : K.In (hidT s₁.heap H) := fun b o e => hidT_get (KX b o e) (by
      cases q : H b with
      | none => rfl
      | some u =>
        obtain ⟨rfl, z⟩ := hA b (by rw [q]; exact fun z => nomatch z)
        rw [z] at e
        cases e)
    obtain ⟨mc, lim1, lim2⟩ := hlim
    obtain ⟨mm, hmm⟩ := hsm
    have hM : Mod K mg (hidT s₁.heap H) := ⟨kB, nsB hns, ⟨mb, nsB hb, hbb⟩, ⟨mc, nsB lim1, lim2⟩⟩
    have e0 : Env0 P w K mg (hidT s₁.heap H) callerA [] s₁ H := ⟨rfl, hM, fun b o e => of_hidT e, Nat.le_of_eq (hidT_size _ _), trivial, fun b hb => absurd (show b ∈ ([] : List Addr) from hb) List.not_mem_nil, hok, .of_eq hg⟩
    have sysB : ∃ o, (hidT s₁.heap H).get? sysModules = some o := by
      obtain ⟨o, es, ep, e, _⟩ := nsB hmm
      exact ⟨o, e⟩
    refine codeAny_mono ((F _ kB (nsB hns) sysB).run callerA [] s₁ H ⟨[.ref a], []⟩ [.ref a] [.ref a] _ _ rfl hr e0 (hbind s₁ (.ref a)) (.cons rfl .nil) (hsp H hO hS)) fun r s' h => ?_
    cases r with
    | error e => exact False.elim h
    | ok fl =>
      cases fl with
      | next => exact False.elim h
      | brk => exact False.elim h
      | cont => exact False.elim h
      | ret u =>
        obtain ⟨v, H', os, bare, un, hok', r', q⟩ := h
        cases (show v = V.bl true from q)
        cases (show u = Value.bool true from r')
        refine ⟨rfl, OldK.of_keep fun b o e => ?_, os, bare⟩
        rcases hO b with z | ⟨ob, xs, z⟩
        · exact un.keep b o e z (fun z => absurd (show b ∈ ([] : List Addr) from z) List.not_mem_nil) List.not_mem_nil
        · obtain ⟨e1, _⟩ := hok b _ z
          obtain ⟨e2, _⟩ := hok' b _ (un.frzs b ob _ z)
          rw [e] at e1
          cases e1
          exact e2
  have rv := vals_ints hi
  have lenV := hi.length
  cases hk : K.lookup a with
  | some o =>
    have e := KX a o hk
    rw [ha] at e
    cases e
    exact key (fun _ => none) (fun _ => .inl rfl) (.inr ⟨_, vs.toArray, _, hk, rfl, rfl, rfl, by rw [List.size_toArray, lenV]; exact hl, by simpa using rv⟩) (fun b u z => nomatch (show (none : Option HO) = some u from z)) fun b z => absurd rfl z
  | none =>
    let o0 : HO := .frz { cls := .type "list", data := .seq vs.toArray } (.lst (ns.map V.int))
    have at0 : upd (fun _ => none) a o0 a = some o0 := upd_same
    have at1 : ∀ b, b ≠ a → upd (fun _ => none) a o0 b = none := fun b h => upd_ne h
    refine key (upd (fun _ => none) a o0) (fun b => ?_) (.inl (.inr ⟨_, at0⟩)) (fun b u z => ?_) fun b z => ⟨Classical.byContradiction fun h => z (at1 b h), hk⟩
    · by_cases hb : b = a
      · exact .inr ⟨_, _, by rw [hb]; exact at0⟩
      · exact .inl (at1 b hb)
    · by_cases hb : b = a
      · subst hb
        rw [at0] at z
        cases z
        exact ⟨ha, by rw [List.length_map]; exact hl, vs, _, rv, ha⟩
      · rw [at1 b hb] at z
        cases z
/-! ### a table of the text's defs -/
structure TD where
  nm : Str
  st : Stmt
  N : List Str
  ps : List Str
  kf : List Kform
  cs : List CS
def TD.fd (T : TD) : FD := ⟨T.nm, T.ps.length, T.N.length, T.kf, T.cs⟩
def scC (N P : List Str) (sc : Scope) : Bool := decide (sc.kind = .function) && !sc.isCoroutine && !sc.isGenerator && decide (N.Nodup) && decide (N.take P.length = P) && (P.all fun x => decide (sc.names.lookup x = some .local) || decide (sc.names.lookup x = some .cell)) && sc.names.all fun y => !decide (y.2 = .free)
theorem scC_ok {N P : List Str} {sc : Scope} (h : scC N P sc = true) : FnScope N P sc := by
  unfold scC at h
  simp only [Bool.and_eq_true, Bool.not_eq_true', decide_eq_true_eq, List.all_eq_true, Bool.or_eq_true, decide_eq_false_iff_not] at h
  obtain ⟨⟨⟨⟨⟨⟨h1, h2⟩, h3⟩, h4⟩, h5⟩, h6⟩, h7⟩ := h
  exact ⟨h1, h2, h3, h4, h5, h6, h7⟩
def TD.chk (T : TD) (FT : List FD) (fr : List Str) (gb : List (Str × D)) : Bool := scC T.N T.ps (defScope T.st) && chkSs T.cs ⟨T.N, defScope T.st, fun _ => true, FT, fr, gb⟩ (defBody T.st)
/-- how it binds -/
structure TD.Bd (T : TD) : Prop where
  all : ∀ (kV doc pm : Value) (an : Option Addr) (cdv ct : Value) (us : List Value), us.length = T.ps.length → bindArgs (PySem.W.fnOf T.nm T.nm (defArgs T.st) (defBody T.st) (defScope T.st) .none kV doc pm an cdv ct) ⟨us, []⟩ = pure (T.ps.zip us)
  kw : ∀ q ∈ T.kf, ∀ (kV doc pm : Value) (an : Option Addr) (cdv ct : Value) (us ws as : List Value), us.length = q.np → ws.length = q.xs.length → permA (us ++ ws) q.pm = some as → as.length = T.ps.length →
    bindArgs (PySem.W.fnOf T.nm T.nm (defArgs T.st) (defBody T.st) (defScope T.st) .none kV doc pm an cdv ct) ⟨us, q.xs.zip ws⟩ = pure (T.ps.zip as)
/-- the def's object stands in the fragment -/
def TD.Says (T : TD) (K : PySem.W.Frag) (mg : Str → Option Value) : Prop := ∃ (f : Addr) (fd : FuncData), FunD K T.nm T.nm (defArgs T.st) (defBody T.st) (defScope T.st) [] [] f fd ∧ mg T.nm = some (.ref f)
section
variable {K : PySem.W.Frag} {mg : Str → Option Value} {FT : List FD} {fr : List Str} {gb : List (Str × D)}
theorem TD.fnT {T : TD} (b : T.Bd) (hc : T.chk FT fr gb = true) (S : T.Says K mg) : FnT K mg FT fr gb T.fd := by
  obtain ⟨f, fd, F, hm⟩ := S
  unfold TD.chk at hc
  rw [Bool.and_eq_true] at hc
  refine ⟨f, fd, T.nm, defArgs T.st, defBody T.st, defScope T.st, [], [], T.N, T.ps, F, hm, F.bindsN fun kV doc pm an cdv ct us h => b.all kV doc pm an cdv ct us h, fun q hq s us ws as _ h1 h2 h3 h4 => ?_, scC_ok hc.1, rfl, rfl, hc.2⟩
  obtain ⟨oc, od, dV, kV, doc, pm, an, cdv, ct, osl, rfl, lk, hcd, hD, hK⟩ := F.ex
  rcases hD with ⟨_, rfl⟩ | ⟨e, _⟩
  · exact .of_eq (b.kw q hq kV doc pm an cdv ct us ws as h1 h2 h3 h4)
  · exact absurd rfl e
/-- a fragment without the object at a -/
def dropF (K : PySem.W.Frag) (a : Addr) : PySem.W.Frag := K.filter fun p => !(p.1 == a)
theorem dropF_self {a : Addr} : ∀ {K : PySem.W.Frag}, List.lookup a (dropF K a) = none
  | [] => rfl
  | (b, o) :: K => by
    unfold dropF
    rw [List.filter_cons]
    by_cases h : b = a
    · subst h
      simp only [beq_self_eq_true, Bool.not_true, Bool.false_eq_true, if_false]
      exact dropF_self (K := K)
    · have h1 : (b == a) = false := by simpa using h
      have h2 : (a == b) = false := by simpa using fun z : a = b => h z.symm
      simp only [h1, Bool.not_false, if_true, List.lookup_cons, h2]
      exact dropF_self (K := K)
theorem dropF_other {a b : Addr} (h : b ≠ a) : ∀ {K : PySem.W.Frag}, List.lookup b (dropF K a) = List.lookup b K
  | [] => rfl
  | (c, o) :: K => by
    unfold dropF
    rw [List.filter_cons]
    by_cases hc : c = a
    · subst hc
      have h2 : (b == c) = false := by simpa using h
      simp only [beq_self_eq_true, Bool.not_true, Bool.false_eq_true, if_false, List.lookup_cons, h2]
      exact dropF_other h (K := K)
    · have h1 : (c == a) = false := by simpa using hc
      simp only [h1, Bool.not_false, if_true, List.lookup_cons]
      cases b == c with
      | true => rfl
      | false => exact dropF_other h (K := K)
theorem dropF_in {a : Addr} {h : Heap} (x : K.In h) : (dropF K a).In h := fun b o e => by
  by_cases z : b = a
  · subst z
    rw [dropF_self] at e
    cases e
  · rw [dropF_other z] at e
    exact x b o e
theorem TD.Says.drop {T : TD} {a : Addr} {o : Obj} {vs : Array Value} {n : Nat} {h : Heap} (x : K.In h) (ha : h.get? a = some o) (hd : o.data = .seq vs n) (S : T.Says K mg) : T.Says (dropF K a) mg := by
  obtain ⟨f, fd, F, hm⟩ := S
  refine ⟨f, fd, ?_, hm⟩
  have no : ∀ {b : Addr} {u : Obj}, K.lookup b = some u → (∀ ws m, u.data ≠ .seq ws m) → b ≠ a := fun {b u} e q z => by
    subst z
    have := x _ _ e
    rw [ha] at this
    cases this
    exact q _ _ hd
  obtain ⟨oc, od, dV, kV, doc, pm, an, cdv, ct, osl, rfl, lk, hcd, hD, hK⟩ := F.ex
  have hf : f ≠ a := no lk fun _ _ z => nomatch z
  have lk' : (dropF K a).lookup f = some ⟨oc, od, .func (PySem.W.fnOf T.nm T.nm (defArgs T.st) (defBody T.st) (defScope T.st) dV kV doc pm an cdv ct), osl⟩ := (dropF_other hf).trans lk
  have hcd' : PySem.W.codeIn (dropF K a) cdv T.nm = true := by
    unfold PySem.W.codeIn at hcd ⊢
    split at hcd
    · rename_i c
      split at hcd
      · rename_i e
        have hc : c ≠ a := no e fun _ _ z => nomatch z
        have e' : (dropF K a).lookup c = _ := (dropF_other hc).trans e
        simp only [e']
        exact hcd
      · cases hcd
    · cases hcd
  refine ⟨⟨oc, od, dV, kV, doc, pm, an, cdv, ct, osl, rfl, lk', hcd', ?_, ?_⟩, ?_⟩
  · rcases hD with hD | ⟨e, _⟩
    · exact .inl hD
    · exact absurd rfl e
  · exact .inl rfl
  · unfold PySem.W.keepIn
    simp only [lk']
end
/-- what the head must tell -/
structure Told (TT : List TD) (fr : List Str) (gb : List (Str × D)) (K : PySem.W.Frag) (mg : Str → Option Value) : Prop where
  defs : ∀ T ∈ TT, T.Says K mg
  fr : ∀ x ∈ fr, mg x = none
  gb : ∀ p ∈ gb, ∃ u v, mg p.1 = some u ∧ RelV v u ∧ flatOf p.2 = some v
/-- the law's end -/
theorem walk_tm {l : PySem.W.OpenLaw} {n k f : Nat} {q : Program} {loose : List Str} {XP : (Str → Option Value) → Heap → Prop} {YP : World → Heap → Prop} {d : DefRec} {x : Str} {TT : List TD} {TL : TD} {fr : List Str} {gb : List (Str × D)}
    (hn : l.most = some n) (hn2 : n ≤ sizeLine) (hdf : d.params.defaults = []) (himp : importsNone q = true) (hr : Room (k + 1) callerA) (hf : TT[f]? = some TL) (hnm : d.name = TL.nm) (hps : TL.ps = [x])
    (hb : ∀ T ∈ TT, T.Bd) (hc : TT.all (fun T => T.chk (TT.map TD.fd) fr gb) = true)
    (F : ∀ (w : World) (mg : Str → Option Value) (fa : Addr) (h : Heap), YP w h → h.Ns mainGlobals mg → mg d.name = some (.ref fa) → ∃ (K : PySem.W.Frag), K.In h ∧ Told TT fr gb K mg)
    (hval : ∀ ns : List Int, ns.length ≤ n → (∀ z ∈ ns, Builtin.Int.intBits z ≤ 1048576) → ∃ st, evCall (TT.map TD.fd) (k + 1) f [.lst (ns.map .int)] [] = .ok (.bl true) st) :
    PySem.W.WalkO q loose XP YP l.row.toRowW d [] (fun f vs => PySem.call f vs) := by
  refine Att.attach_callB hn hdf fun w s₀ s₁ mg mb fa o pm cd doc a vs ns G Y ho hd hcd hmg hobj hints hlen hbits hg => ?_
  obtain ⟨K0, KX0, told⟩ := F w mg fa _ Y G.T.g hmg
  have KX : (dropF K0 a).In s₁.heap := dropF_in KX0
  have says : ∀ T ∈ TT, T.Says (dropF K0 a) mg := fun T hT => (told.defs T hT).drop KX0 hobj rfl
  have noA : List.lookup a (dropF K0 a) = none := dropF_self
  have facts : ∀ (i : Nat) (G : FD), (TT.map TD.fd)[i]? = some G → FnT (dropF K0 a) mg (TT.map TD.fd) fr gb G := fun i G e => by
    rw [List.getElem?_map, Option.map_eq_some_iff] at e
    obtain ⟨T, eT, rfl⟩ := e
    have hT := List.mem_of_getElem? eT
    exact TD.fnT (hb T hT) (List.all_eq_true.mp hc T hT) (says T hT)
  obtain ⟨fa', fd, FU, hm'⟩ := says TL (List.mem_of_getElem? hf)
  have efa : fa' = fa := by
    rw [hnm] at hmg
    rw [hmg] at hm'
    cases hm'
    rfl
  subst efa
  have bd : ∀ (s : Shared) (u : Value), BindsTo s fd ⟨[u], []⟩ [(x, u)] := fun s u => by
    have q := FU.bindsA (ps := TL.ps) (fun kV doc pm an cdv ct us h => (hb TL (List.mem_of_getElem? hf)).all kV doc pm an cdv ct us h) s [u] (by rw [hps]; rfl)
    rw [hps] at q
    exact q
  have tab : ∀ base : Heap, (dropF K0 a).In base → base.Ns mainGlobals mg → (∃ o, base.get? sysModules = some o) → FnG l.prog w (dropF K0 a) mg base (k + 1) fa' fd [x] (prom (dropF K0 a) (fun _ => 0) (evCall (TT.map TD.fd) (k + 1) f)) := fun base _ _ hsm => by
    have hfF : (TT.map TD.fd)[f]? = some TL.fd := by rw [List.getElem?_map, hf]; rfl
    have hcL := List.all_eq_true.mp hc TL (List.mem_of_getElem? hf)
    unfold TD.chk at hcL
    rw [Bool.and_eq_true] at hcL
    have q := def_ok (P := l.prog) (w := w) (CA := fun _ => 0) hsm told.fr told.gb (fun f F e => table_ok (k := k) hsm facts told.fr told.gb f F e) hfF FU (scC_ok hcL.1) rfl rfl hcL.2
    rw [hps] at q
    exact q
  refine law_callG KX G.T.g G.T.b G.T.builtins G.T.nolimit (let ⟨mm, h, _⟩ := (G.T.seer himp).mods; ⟨mm, h⟩) hg hobj hints (Nat.le_trans hlen hn2) hr tab bd fun H hO hS => ?_
  obtain ⟨st, ev⟩ := hval ns hlen hbits
  have hR : Rd H a (.lst (ns.map V.int)) := by
    rcases hS with h | ⟨o, its, m, h, _⟩
    · exact h
    · rw [noA] at h
      cases h
  refine ⟨⟨dropF K0 a, fun _ => 0, H, [], fun _ => none⟩, [.lst (ns.map .int)], [], rfl, rfl, ?_, ⟨fun b u e => .inl e, rfl, List.nodup_nil, fun n c b e => by simp at e, fun b hb => absurd hb List.not_mem_nil, fun b u e => nomatch (show (none : Option HO) = some u from e)⟩, ?_⟩
  · refine .cons ?_ .nil
    simp only [Rep]
    exact ⟨a, _, rfl, hR, RepL.of_ints ns⟩
  · rw [ev]
    intro W' H' v _ _ r
    exact rep_bl r
end TM
set_option maxHeartbeats 1000000
/-! TM, part U: the evaluator's steps, as equations. -/
namespace TM
open PySem PySem.Spec PyProof.Rows L2
section
variable {st : Store}
theorem opD_add {a b : Int} : opD .Add (.int a) (.int b) st = .ok (.int (a + b)) st := rfl
theorem opD_sub {a b : Int} : opD .Sub (.int a) (.int b) st = .ok (.int (a - b)) st := rfl
theorem opD_mul {a b : Int} (h : a.natAbs.log2 + b.natAbs.log2 < 1000000) : opD .Mult (.int a) (.int b) st = .ok (.int (a * b)) st := by
  show (if _ then _ else _) = _
  rw [if_pos h]
theorem opD_mod {a b : Int} (h : b ≠ 0) : opD .Mod (.int a) (.int b) st = .ok (.int (a.fmod b)) st := by
  show (if _ then _ else _) = _
  rw [if_pos h]
theorem opD_fdiv {a b : Int} (h : b ≠ 0) (h2 : b.natAbs < 1073741824) : opD .FloorDiv (.int a) (.int b) st = .ok (.int (a.fdiv b)) st := by
  show (if _ then _ else _) = _
  rw [if_pos ⟨h, h2⟩]
theorem opD_pow {a b : Int} (h : 0 ≤ b) (h2 : (Builtin.Int.intBits a : Int) * b ≤ 2 ^ 27) : opD .Pow (.int a) (.int b) st = .ok (.int (a ^ b.toNat)) st := by
  show (if _ then _ else _) = _
  rw [if_pos ⟨h, h2⟩]
theorem opD_str {a b : Str} (h : a.length + b.length ≤ sizeLine) : opD .Add (.str a) (.str b) st = .ok (.str (a ++ b)) st := by
  show (if _ then _ else _) = _
  rw [if_pos h]
theorem opD_lst {a b : List D} (h : a.length + b.length ≤ sizeLine) : opD .Add (.lst a) (.lst b) st = .ok (.lst (a ++ b)) st := by
  show (if _ then _ else _) = _
  rw [if_pos h]
theorem then_of {α : Type} {r : Res α} {a : α} {st' : Store} (h : r = .ok a st') (f : α → Store → RS) : r.then f = f a st' := by rw [h]; rfl
theorem bind_of {α β : Type} {r : Res α} {a : α} {st' : Store} (h : r = .ok a st') (f : α → Store → Res β) : r.bind f = f a st' := by rw [h]; rfl
theorem bits_lt {b : Int} {k : Nat} (h0 : 0 ≤ b) (h : b < 2 ^ k) : Builtin.Int.intBits b ≤ k := by
  unfold Builtin.Int.intBits
  split
  · omega
  · rename_i hb
    have hb' : b.natAbs ≠ 0 := by simpa using hb
    have h2 : b.natAbs < 2 ^ k := by
      have : (b.natAbs : Int) < 2 ^ k := by rw [Int.natAbs_of_nonneg h0]; exact h
      exact_mod_cast this
    have := (Nat.log2_lt hb').mpr h2
    omega
theorem fmod_in {a m : Int} (h : 0 < m) : 0 ≤ a.fmod m ∧ a.fmod m < m := ⟨Int.fmod_nonneg_of_pos a h, Int.fmod_lt_of_pos a h⟩
theorem log_small {a : Int} (h0 : 0 ≤ a) (h : a < 4294967296) : a.natAbs.log2 < 32 := by
  by_cases z : a.natAbs = 0
  · rw [z]; decide
  · exact (Nat.log2_lt z).mpr (by omega)
theorem lst_at {n : Nat} {xs : List D} (e : st[n]? = some (.lst xs)) : lstAt st n = some xs := by unfold lstAt; rw [e]
end
section
variable {cl : Nat → List D → Store → Res D} {sl : Slots} {st : Store}
@[simp] theorem x_var {i : Nat} : evE cl (.var i) sl st = (match sl[i]? with
    | some (some d) => .ok d st
    | _ => .stuck : Res D) := rfl
@[simp] theorem x_non : evE cl .non sl st = .ok .non st := rfl
@[simp] theorem x_bl {b : Bool} : evE cl (.bl b) sl st = .ok (.bl b) st := rfl
@[simp] theorem x_int {b : Int} : evE cl (.int b) sl st = .ok (.int b) st := rfl
@[simp] theorem x_str {b : Str} : evE cl (.str b) sl st = .ok (.str b) st := rfl
@[simp] theorem x_glob {x : Str} {d : D} : evE cl (.glob x d) sl st = .ok d st := rfl
@[simp] theorem x_op {o : Operator} {a b : CE} : evE cl (.op o a b) sl st = (evE cl a sl st).bind fun x st1 => (evE cl b sl st1).bind fun y st2 => opD o x y st2 := rfl
@[simp] theorem x_not {a : CE} : evE cl (.not_ a) sl st = (evE cl a sl st).bind fun x st1 => (match truth x st1 with
    | some b => .ok (.bl (!b)) st1
    | none => .stuck : Res D) := rfl
@[simp] theorem x_and {a b : CE} : evE cl (.and_ a b) sl st = (evE cl a sl st).bind fun x st1 => (match truth x st1 with
    | some true => evE cl b sl st1
    | some false => .ok x st1
    | none => .stuck : Res D) := rfl
@[simp] theorem x_or {a b : CE} : evE cl (.or_ a b) sl st = (evE cl a sl st).bind fun x st1 => (match truth x st1 with
    | some true => .ok x st1
    | some false => evE cl b sl st1
    | none => .stuck : Res D) := rfl
@[simp] theorem x_ife {t a b : CE} : evE cl (.ife t a b) sl st = (evE cl t sl st).bind fun x st1 => (match truth x st1 with
    | some true => evE cl a sl st1
    | some false => evE cl b sl st1
    | none => .stuck : Res D) := rfl
@[simp] theorem x_cmp {o : CmpOp} {a b : CE} : evE cl (.cmp o a b) sl st = (evE cl a sl st).bind fun x st1 => (evE cl b sl st1).bind fun y st2 => ofO ((cmpD o x y st2).map .bl) st2 := rfl
@[simp] theorem x_isin {a : CE} {ts : List Ty} : evE cl (.isin a ts) sl st = (evE cl a sl st).bind fun x st1 => ofO ((isinD x ts st1).map .bl) st1 := rfl
@[simp] theorem x_tup {es : List CE} : evE cl (.tup es) sl st = (evEs cl es sl st).bind fun ds st1 => if ds.length ≤ sizeLine then .ok (.tup ds) st1 else .stuck := rfl
@[simp] theorem x_lst {mt : Bool} {es : List CE} : evE cl (.lst mt es) sl st = (evEs cl es sl st).bind fun ds st1 => if ds.length ≤ sizeLine then mkL mt ds st1 else .stuck := rfl
@[simp] theorem x_dct0 {mt : Bool} : evE cl (.dct mt []) sl st = mkK mt [] st := rfl
@[simp] theorem x_idx {a b : CE} : evE cl (.idx a b) sl st = (evE cl a sl st).bind fun x st1 => (evE cl b sl st1).bind fun y st2 => ofO (idxD x y st2) st2 := rfl
@[simp] theorem x_slx {a b : CE} : evE cl (.slx a b) sl st = (evE cl a sl st).bind fun x st1 => (evE cl b sl st1).bind fun k st2 => (match asL x st2, k with
    | some xs, .int 1 => .ok (.lst xs) st2
    | some xs, .int (-1) => .ok (.lst xs.reverse) st2
    | _, _ => .stuck : Res D) := rfl
@[simp] theorem x_call {f : Nat} {x : Str} {es : List CE} : evE cl (.call f x es) sl st = (evEs cl es sl st).bind fun ds st1 => cl f ds st1 := rfl
@[simp] theorem x_callK {f : Nat} {x : Str} {ks : List Str} {es ls : List CE} {pm : List Nat} : evE cl (.callK f x ks es ls pm) sl st = (evEs cl es sl st).bind fun ds st1 => (evEs cl ls sl st1).bind fun zs st2 => (match permA (ds ++ zs) pm with
    | some vs => cl f vs st2
    | none => .stuck : Res D) := rfl
@[simp] theorem x_bi {b : Bi} {es : List CE} : evE cl (.bi b es) sl st = (evEs cl es sl st).bind fun ds st1 => biD b ds st1 := rfl
@[simp] theorem x_frz {a : CE} : evE cl (.frz a) sl st = (evE cl a sl st).bind fun x st1 => frzD x st1 := rfl
@[simp] theorem x_nil : evEs cl [] sl st = .ok [] st := rfl
@[simp] theorem x_cons {e : CE} {es : List CE} : evEs cl (e :: es) sl st = (evE cl e sl st).bind fun d st1 => (evEs cl es sl st1).bind fun ds st2 => .ok (d :: ds) st2 := rfl
@[simp] theorem x_ie {a : CE} : evI cl (.e a) sl st = (evE cl a sl st).bind fun x st1 => ofO (itD x st1) st1 := rfl
@[simp] theorem x_irng {es : List CE} : evI cl (.rng es) sl st = (evEs cl es sl st).bind fun ds st1 => ofO ((rngD ds).map fun xs => ⟨none, xs⟩) st1 := rfl
@[simp] theorem x_asg {t : CT} {e : CE} : evS cl (.asg t e) sl st = (evE cl e sl st).then fun d st1 => (match asgT t d sl with
    | some sl' => .next sl' st1
    | none => .stuck : RS) := rfl
@[simp] theorem x_asgLc {i : Nat} {e : CE} : evS cl (.asgLc i e) sl st = (evE cl e sl st).then fun d st1 => set1 i d sl st1 := rfl
@[simp] theorem x_setI {o i e : CE} : evS cl (.setI o i e) sl st = (evE cl e sl st).then fun v st1 => (evE cl o sl st1).then fun x st2 => (evE cl i sl st2).then fun y st3 => (match setID x y v st3 with
    | some st4 => .next sl st4
    | none => .stuck : RS) := rfl
@[simp] theorem x_ex {e : CE} : evS cl (.ex e) sl st = (evE cl e sl st).then fun _ st1 => .next sl st1 := rfl
@[simp] theorem x_iff {t : CE} {a b : List CS} : evS cl (.iff t a b) sl st = (tru (evE cl t) sl st).then fun c st1 => if c then evSs cl a sl st1 else evSs cl b sl st1 := rfl
@[simp] theorem x_ret {e : CE} : evS cl (.ret e) sl st = (evE cl e sl st).then fun d st1 => .ret d st1 := rfl
@[simp] theorem x_tru {e : CE} : tru (evE cl e) sl st = (evE cl e sl st).bind fun x st1 => ofO (truth x st1) st1 := rfl
@[simp] theorem x_snil : evSs cl [] sl st = .next sl st := rfl
theorem x_scons {s : CS} {r : List CS} : evSs cl (s :: r) sl st = (match evS cl s sl st with
    | .next sl' st' => evSs cl r sl' st'
    | .ret d st' => .ret d st'
    | .brk sl' st' => .brk sl' st'
    | .cnt sl' st' => .cnt sl' st'
    | .exc C fs st' => .exc C fs st'
    | .stuck => .stuck : RS) := rfl
@[simp] theorem x_fit {n : Nat} {α : Type} {a b : α} (h : n ≤ 1000) : (if n ≤ sizeLine then a else b) = a := if_pos (by rw [sizeLine_eq]; omega)
end
section
variable {st : Store}
theorem evSs_cons {cl : Nat → List D → Store → Res D} {s : CS} {r : List CS} {sl : Slots} {sl' : Slots} {st' : Store} (h : evS cl s sl st = .next sl' st') : evSs cl (s :: r) sl st = evSs cl r sl' st' := by
  simp only [evSs]
  rw [h]
theorem evSs_ret {cl : Nat → List D → Store → Res D} {s : CS} {r : List CS} {sl : Slots} {d : D} {st' : Store} (h : evS cl s sl st = .ret d st') : evSs cl (s :: r) sl st = .ret d st' := by
  simp only [evSs]
  rw [h]
end
theorem evCall_at {FT : List FD} {k f : Nat} {F : FD} {ds : List D} {st : Store} (e : FT[f]? = some F) (h : ds.length = F.np) : evCall FT (k + 1) f ds st = endS (evSs (evCall FT k) F.body (slots0 F.nn ds) st) := by
  rw [evCall, e]
  dsimp only
  rw [if_pos h]
theorem evE_lc {cl : Nat → List D → Store → Res D} {mt : Bool} {own : List (Str × Nat)} {t : CT} {it : CI} {ifs : List CE} {e : CE} {sl : Slots} {st : Store} :
    evE cl (.lc mt own t it ifs e) sl st = (evI cl it sl st).bind fun J st1 => (lcLoop J.src (lcF (evTs cl ifs) (evE cl e) t (own.map (·.2)) sl) J.items [] st1).bind fun vs st2 => mkL mt vs st2 := rfl
theorem evS_for {cl : Nat → List D → Store → Res D} {t : CT} {it : CI} {b : List CS} {sl : Slots} {st : Store} :
    evS cl (.for_ t it b) sl st = (evI cl it sl st).then fun J st1 => forLoop J.src (frF t (evSs cl b)) J.items sl st1 := rfl
theorem wipeD_len {sl : Slots} : ∀ {vs : List Nat}, (wipeD sl vs).length = sl.length
  | [] => rfl
  | v :: vs => by rw [wipeD, List.length_set, wipeD_len]
theorem lcF_name {cl : Nat → List D → Store → Res D} {eve : Ev} {i : Nat} {vs : List Nat} {sl : Slots} {d : D} {st : Store} (h : i < sl.length) :
    lcF (evTs cl []) eve (.name i) vs sl d st = (eve ((wipeD sl vs).set i (some d)) st).bind fun v st3 => .ok (some v) st3 := by
  rw [lcF_some (sl' := (wipeD sl vs).set i (some d)) (by rw [asgT, if_pos (by rw [wipeD_len]; exact h)])]
  rfl
theorem lc_walk {f : D → Store → Res (Option D)} {src : Option (Nat × List D)} {P : Store → Prop} {Q : D → D → Prop} (hsrc : ∀ st, P st → srcOk src st = true) : ∀ (items : List D) (acc : List D) (st : Store), (∀ d ∈ items, ∀ st, P st → ∃ v st', f d st = .ok (some v) st' ∧ P st' ∧ Q d v) → P st → acc.length + items.length ≤ sizeLine →
    ∃ vs st', lcLoop src f items acc st = .ok (acc ++ vs) st' ∧ P st' ∧ vs.length = items.length ∧ Paired Q items vs
  | [], acc, st, h, p, _ => ⟨[], st, by rw [lcLoop, if_pos (hsrc st p), List.append_nil], p, rfl, .nil⟩
  | d :: r, acc, st, h, p, hl => by
    obtain ⟨v, st1, e1, p1, q1⟩ := h d List.mem_cons_self st p
    rw [List.length_cons] at hl
    obtain ⟨vs, st2, e2, p2, l2, q2⟩ := lc_walk hsrc r (acc ++ [v]) st1 (fun d hd => h d (List.mem_cons_of_mem _ hd)) p1 (by rw [List.length_append, List.length_singleton]; omega)
    refine ⟨v :: vs, st2, ?_, p2, by rw [List.length_cons, List.length_cons, l2], .cons q1 q2⟩
    rw [lcLoop, if_pos (hsrc st p), e1]
    dsimp only
    rw [if_pos (by omega), e2, List.append_assoc]
    rfl
theorem for_walk {f : D → Slots → Store → RS} {src : Option (Nat × List D)} {P : Slots → Store → Prop} (hsrc : ∀ sl st, P sl st → srcOk src st = true) : ∀ (items : List D) (sl : Slots) (st : Store), (∀ d ∈ items, ∀ sl st, P sl st → ∃ sl' st', f d sl st = .next sl' st' ∧ P sl' st') → P sl st →
    ∃ sl' st', forLoop src f items sl st = .next sl' st' ∧ P sl' st'
  | [], sl, st, h, p => ⟨sl, st, by rw [forLoop, if_pos (hsrc sl st p)], p⟩
  | d :: r, sl, st, h, p => by
    obtain ⟨sl1, st1, e1, p1⟩ := h d List.mem_cons_self sl st p
    obtain ⟨sl2, st2, e2, p2⟩ := for_walk hsrc r sl1 st1 (fun d hd => h d (List.mem_cons_of_mem _ hd)) p1
    exact ⟨sl2, st2, by rw [forLoop, if_pos (hsrc sl st p), e1]; exact e2, p2⟩
theorem rngD_ok {z : Nat} (hz : z ≤ 1000000) : rngD [.int z] = some ((List.range z).map fun (i : Nat) => D.int (0 + (i : Int))) := by
  unfold rngD
  dsimp only
  have h : -(2 ^ 62) ≤ (z : Int) ∧ (z : Int) < 2 ^ 62 := ⟨by omega, by omega⟩
  rw [if_pos h]
  rfl
theorem evI_rng {cl : Nat → List D → Store → Res D} {a : CE} {sl : Slots} {st st' : Store} {z : Nat} (hz : z ≤ 1000000) (h : evE cl a sl st = .ok (.int z) st') :
    evI cl (.rng [a]) sl st = .ok ⟨none, (List.range z).map fun (i : Nat) => D.int (0 + (i : Int))⟩ st' := by
  rw [x_irng, x_cons, h, Res.bind_ok, x_nil, Res.bind_ok, Res.bind_ok, rngD_ok hz]
  rfl
theorem evE_join {cl : Nat → List D → Store → Res D} {a : Str} {e : CE} {sl : Slots} {st st' : Store} {d : D} {ys : List Str} (h : evE cl e sl st = .ok d st') (hs : (asQ d st').bind strsOf = some ys) (hz : (ys.map (·.length)).sum + ys.length * a.length ≤ 16777216) :
    evE cl (.me .join (.str a) [e]) sl st = .ok (.str (Txt.join a ys)) st' := by
  have e1 : evE cl (.me .join (.str a) [e]) sl st = (evE cl e sl st).bind fun d st1 => (Res.ok (α := List D) [d] st1).bind fun ds st2 => meD .join (.str a) ds st2 := by
    show (((evE cl e sl st).bind fun d st1 => (Res.ok (α := List D) [] st1).bind fun ds st2 => .ok (d :: ds) st2).bind fun ds st2 => meD .join (.str a) ds st2) = _
    rw [bind_assoc]
    rfl
  rw [e1, h, Res.bind_ok, Res.bind_ok]
  unfold meD
  dsimp only
  rw [hs]
  dsimp only
  rw [if_pos hz]
theorem atI_of {α : Type} {xs : List α} {r : Int} (h0 : 0 ≤ r) (h1 : r < xs.length) : ∃ x ∈ xs, atI xs r = some x := by
  refine ⟨xs[r.toNat]'(by omega), List.getElem_mem _, ?_⟩
  unfold atI ixN
  first
    | simp [h0, h1, show ¬ r < 0 by omega]
    | (rw [if_neg (show ¬ r < 0 by omega)]; simp [h0, h1])
theorem mem_joinL {c : Nat} {S : List Nat} : ∀ {ps : List (List Nat)}, c ∈ TL.joinL S ps → c ∈ S ∨ ∃ p ∈ ps, c ∈ p
  | [], h => by simp [TL.joinL] at h
  | [p], h => .inr ⟨p, List.mem_singleton.mpr rfl, h⟩
  | p :: q :: r, h => by
    rw [TL.joinL, List.mem_append, List.mem_append] at h
    rcases h with h | h | h
    · exact .inr ⟨p, List.mem_cons_self, h⟩
    · exact .inl h
    · rcases mem_joinL h with h | ⟨x, hx, h⟩
      · exact .inl h
      · exact .inr ⟨x, List.mem_cons_of_mem _ hx, h⟩
theorem mem_join {c : Nat} {y : Str} {ps : List Str} (h : c ∈ (Txt.join y ps).cps.toList) : c ∈ y.cps.toList ∨ ∃ p ∈ ps, c ∈ p.cps.toList := by
  rw [TL.join_eq] at h
  have e := TL.tl_join y ps
  have h' : c ∈ TL.joinL (TL.tl y) (ps.map TL.tl) := by rw [← e]; exact h
  rcases mem_joinL h' with h | ⟨x, hx, h⟩
  · exact .inl h
  · obtain ⟨p, hp, rfl⟩ := List.mem_map.mp hx
    exact .inr ⟨p, hp, h⟩
theorem len_join {y : Str} {ps : List Str} : (Txt.join y ps).length = (ps.map (·.length)).sum + (ps.length - 1) * y.length := size_glued y ps
/-- the other cells stay, more may come -/
structure Fr (n : Nat) (st st' : Store) : Prop where
  len : st.length ≤ st'.length
  keep : ∀ m, m ≠ n → m < st.length → st'[m]? = st[m]?
theorem Fr.refl (n : Nat) (st : Store) : Fr n st st := ⟨Nat.le_refl _, fun _ _ _ => rfl⟩
theorem Fr.trans {n : Nat} {a b c : Store} (h : Fr n a b) (h' : Fr n b c) : Fr n a c := ⟨Nat.le_trans h.len h'.len, fun m h1 h2 => (h'.keep m h1 (Nat.lt_of_lt_of_le h2 h.len)).trans (h.keep m h1 h2)⟩
/-- a stream's cell -/
def SS (st : Store) (n : Nat) : Prop := ∃ a b : Int, st[n]? = some (.lst [.int a, .int b]) ∧ 0 ≤ a ∧ 0 ≤ b ∧ b < 4294967296
end TM
set_option maxHeartbeats 0
namespace K01
open PySem PySem.Spec PyProof.Rows L2 TM
def top (i : Nat) : Stmt := PySem.Challenge.pw_soonknown_k01_documents_of_values.main.body.getD i (.Pass ⟨0, 0, 0, 0⟩)
def b_document : List CS := [
  (.iff (.isin (.var 0) [.bool]) [(.ret (.ife (.var 0) (.str "true") (.str "false")))] []),
  (.iff (.isin (.var 0) [.int]) [(.ret (.bi .str [(.var 0)]))] []),
  (.iff (.isin (.var 0) [.str]) [(.ret (.op .Add (.op .Add (.str "\"") (.var 0)) (.str "\"")))] []),
  (.iff (.isin (.var 0) [.list]) [(.ret (.op .Add (.op .Add (.str "[") (.me .join (.str ",") [(.lc false [("item", 2)] (.name 2) (.e (.var 0)) [] (.call 0 "document" [(.var 2)]))])) (.str "]")))] []),
  (.ret (.op .Add (.op .Add (.str "{") (.me .join (.str ",") [(.lc false [("name", 1)] (.name 1) (.e (.bi .sorted [(.var 0)])) [] (.op .Add (.op .Add (.op .Add (.str "\"") (.var 1)) (.str "\":")) (.call 0 "document" [(.idx (.var 0) (.var 1))])))])) (.str "}")))]
def t_document : TD := ⟨"document", top 1, ["value", "name", "item"], ["value"], [], b_document⟩
def b_same : List CS := [
  (.ret (.cmp .Eq (.call 0 "document" [(.var 0)]) (.call 0 "document" [(.var 1)])))]
def t_same : TD := ⟨"same", top 2, ["first", "second"], ["first", "second"], [⟨0, ["first", "second"], [0, 1]⟩], b_same⟩
def b__law_stream : List CS := [
  (.asg (.name 2) (.op .Add (.int 13) (.var 1))),
  (.for_ (.name 3) (.e (.var 0)) [(.asg (.name 2) (.op .Add (.op .Mod (.op .Pow (.op .Add (.op .Mult (.var 2) (.int 40127)) (.var 3)) (.int 3)) (.int 2147483629)) (.int 1)))]),
  (.asg (.name 4) (.int 0)),
  (.iff (.and_ (.cmp .Lt (.var 1) (.bi .len [(.var 0)])) (.cmp .GtE (.idx (.var 0) (.var 1)) (.op .Pow (.int 10) (.int 18)))) [(.asg (.name 4) (.op .Sub (.idx (.var 0) (.var 1)) (.op .Pow (.int 10) (.int 18))))] []),
  (.ret (.lst true [(.var 4), (.var 2)]))]
def t__law_stream : TD := ⟨"_law_stream", top 4, ["script", "start", "seed", "number", "digits"], ["script", "start"], [], b__law_stream⟩
def b__law_draw : List CS := [
  (.iff (.cmp .GtE (.idx (.var 0) (.int 0)) (.var 1)) [(.asg (.name 2) (.op .Mod (.idx (.var 0) (.int 0)) (.var 1))), (.setI (.var 0) (.int 0) (.op .FloorDiv (.idx (.var 0) (.int 0)) (.var 1))), (.ret (.var 2))] []),
  (.setI (.var 0) (.int 1) (.op .Mod (.op .Add (.op .Mult (.idx (.var 0) (.int 1)) (.int 48271)) (.int 12345)) (.int 2147483647))),
  (.ret (.op .Mod (.op .FloorDiv (.op .Mod (.op .Pow (.op .Mod (.op .Pow (.idx (.var 0) (.int 1)) (.int 3)) (.int 2147483629)) (.int 5)) (.int 1000000007)) (.int 7)) (.var 1)))]
def t__law_draw : TD := ⟨"_law_draw", top 5, ["stream", "size", "found"], ["stream", "size"], [], b__law_draw⟩
def b__law_choose : List CS := [
  (.ret (.idx (.var 1) (.call 3 "_law_draw" [(.var 0), (.bi .len [(.var 1)])])))]
def t__law_choose : TD := ⟨"_law_choose", top 6, ["stream", "items"], ["stream", "items"], [], b__law_choose⟩
def b__law_text : List CS := [
  (.iff (.isin (.var 0) [.bool]) [(.ret (.ife (.var 0) (.str "true") (.str "false")))] []),
  (.iff (.isin (.var 0) [.int]) [(.ret (.bi .str [(.var 0)]))] []),
  (.iff (.isin (.var 0) [.str]) [(.ret (.op .Add (.op .Add (.str "\"") (.var 0)) (.str "\"")))] []),
  (.iff (.isin (.var 0) [.list]) [(.ret (.op .Add (.op .Add (.str "[") (.me .join (.str ",") [(.lc false [("item", 2)] (.name 2) (.e (.var 0)) [] (.call 5 "_law_text" [(.var 2)]))])) (.str "]")))] []),
  (.ret (.op .Add (.op .Add (.str "{") (.me .join (.str ",") [(.lc false [("name", 1)] (.name 1) (.e (.bi .sorted [(.var 0)])) [] (.op .Add (.op .Add (.op .Add (.str "\"") (.var 1)) (.str "\":")) (.call 5 "_law_text" [(.idx (.var 0) (.var 1))])))])) (.str "}")))]
def t__law_text : TD := ⟨"_law_text", top 7, ["value", "name", "item"], ["value"], [], b__law_text⟩
def b__law_word : List CS := [
  (.asg (.name 2) (.call 4 "_law_choose" [(.var 0), (.lst false [(.int 0), (.int 1), (.int 2), (.var 1), (.call 3 "_law_draw" [(.var 0), (.op .Add (.var 1) (.int 1))])])])),
  (.asg (.name 3) (.call 4 "_law_choose" [(.var 0), (.lst false [(.str "abcyz"), (.str "abcdefghijklmnopqrstuvwxyz")])])),
  (.ret (.me .join (.str "") [(.lc false [("turn", 4)] (.name 4) (.rng [(.var 2)]) [] (.call 4 "_law_choose" [(.var 0), (.var 3)]))]))]
def t__law_word : TD := ⟨"_law_word", top 8, ["stream", "most", "size", "letters", "turn"], ["stream", "most"], [], b__law_word⟩
def b__law_any_value : List CS := [
  (.asg (.name 2) (.call 3 "_law_draw" [(.var 0), (.int 8)])),
  (.iff (.or_ (.cmp .Eq (.var 1) (.int 1)) (.cmp .Lt (.var 2) (.int 4))) [(.asg (.name 7) (.lst false [(.op .Pow (.int 10) (.int 9)), (.op .Sub (.int 0) (.op .Pow (.int 10) (.int 9))), (.op .Sub (.op .Pow (.int 10) (.int 9)) (.int 1)), (.int 0), (.int 7), (.op .Sub (.int 0) (.int 1)), (.op .Sub (.int 0) (.int 90)), (.call 3 "_law_draw" [(.var 0), (.op .Pow (.int 10) (.int 9))])])), (.asg (.name 8) (.call 4 "_law_choose" [(.var 0), (.var 7)])), (.ret (.call 4 "_law_choose" [(.var 0), (.lst false [(.var 8), (.var 8), (.bl true), (.bl false), (.call 6 "_law_word" [(.var 0), (.int 12)]), (.call 6 "_law_word" [(.var 0), (.int 4)])])]))] []),
  (.asg (.name 3) (.call 4 "_law_choose" [(.var 0), (.lst false [(.int 0), (.int 1), (.int 1), (.int 2), (.int 8), (.call 3 "_law_draw" [(.var 0), (.int 4)])])])),
  (.iff (.cmp .Gt (.var 1) (.int 3)) [(.asg (.name 3) (.bi .min [(.var 3), (.int 2)]))] []),
  (.asgLc 4 (.lc false [("turn", 9)] (.name 9) (.rng [(.var 3)]) [] (.call 7 "_law_any_value" [(.var 0), (.op .Sub (.op .Sub (.var 1) (.int 1)) (.op .Mult (.call 3 "_law_draw" [(.var 0), (.int 2)]) (.bi .int [(.cmp .Gt (.var 1) (.int 2))])))]))),
  (.iff (.cmp .Lt (.var 2) (.int 6)) [(.ret (.var 4))] []),
  (.asg (.name 5) (.dct true [])),
  (.for_ (.name 6) (.e (.var 4)) [(.setI (.var 5) (.call 4 "_law_choose" [(.var 0), (.lst false [(.str "a"), (.str "zzzzzzzz"), (.str "zz"), (.str "b"), (.op .Add (.call 6 "_law_word" [(.var 0), (.int 7)]) (.str "c"))])]) (.var 6))]),
  (.ret (.frz (.var 5)))]
def t__law_any_value : TD := ⟨"_law_any_value", top 9, ["stream", "depth", "kind", "amount", "parts", "found", "part", "some", "great", "turn"], ["stream", "depth"], [], b__law_any_value⟩
def b__law_other : List CS := [
  (.iff (.isin (.var 1) [.list]) [(.asgLc 2 (.lc false [("part", 4)] (.name 4) (.e (.var 1)) [] (.call 8 "_law_other" [(.var 0), (.var 4)]))), (.ret (.op .Add (.var 2) (.op .Mult (.lst false [(.int 0)]) (.bi .int [(.and_ (.cmp .Lt (.bi .len [(.var 2)]) (.int 8)) (.cmp .Eq (.call 3 "_law_draw" [(.var 0), (.int 6)]) (.int 0)))]))))] []),
  (.iff (.isin (.var 1) [.dict]) [(.asg (.name 3) (.slx (.bi .list [(.var 1)]) (.idx (.lst false [(.int 1), (.op .Sub (.int 0) (.int 1))]) (.call 3 "_law_draw" [(.var 0), (.int 2)])))), (.ret (.bi .dict [(.lc false [("name", 5)] (.name 5) (.e (.var 3)) [] (.tup [(.var 5), (.call 8 "_law_other" [(.var 0), (.idx (.var 1) (.var 5))])]))]))] []),
  (.iff (.cmp .Gt (.call 3 "_law_draw" [(.var 0), (.int 6)]) (.int 0)) [(.ret (.var 1))] []),
  (.ret (.call 4 "_law_choose" [(.var 0), (.lst false [(.bl true), (.int 1), (.int 0), (.bl false), (.str ""), (.str "a"), (.lst false []), (.dct false []), (.int 2)])]))]
def t__law_other : TD := ⟨"_law_other", top 10, ["stream", "value", "parts", "names", "part", "name"], ["stream", "value"], [], b__law_other⟩
def b_law : List CS := [
  (.for_ (.name 1) (.rng [(.bi .max [(.int 2), (.bi .min [(.int 4), (.bi .len [(.var 0)])])])]) [(.asg (.name 2) (.call 2 "_law_stream" [(.var 0), (.var 1)])), (.for_ (.name 3) (.rng [(.int 8)]) [(.asg (.name 4) (.call 7 "_law_any_value" [(.var 2), (.op .Add (.int 1) (.call 3 "_law_draw" [(.var 2), (.int 6)]))])), (.asg (.name 5) (.bi .repr [(.var 4)])), (.iff (.or_ (.cmp .NotEq (.call 0 "document" [(.var 4)]) (.call 5 "_law_text" [(.var 4)])) (.cmp .NotEq (.bi .repr [(.var 4)]) (.var 5))) [(.ret (.bl false))] []), (.asg (.name 6) (.call 8 "_law_other" [(.var 2), (.var 4)])), (.asg (.name 7) (.cmp .Eq (.call 5 "_law_text" [(.var 4)]) (.call 5 "_law_text" [(.var 6)]))), (.asg (.name 5) (.bi .repr [(.tup [(.var 4), (.var 6)])])), (.iff (.or_ (.cmp .NotEq (.bi .repr [(.call 1 "same" [(.var 4), (.var 6)])]) (.bi .repr [(.var 7)])) (.cmp .NotEq (.callK 1 "same" ["first", "second"] [] [(.var 6), (.var 4)] [0, 1]) (.var 7))) [(.ret (.bl false))] []), (.iff (.cmp .NotEq (.bi .repr [(.tup [(.var 4), (.var 6)])]) (.var 5)) [(.ret (.bl false))] [])])]),
  (.ret (.bl true))]
def t_law : TD := ⟨"law", top 11, ["script", "start", "stream", "turn", "value", "seen", "other", "expected"], ["script"], [], b_law⟩
def TT : List TD := [t_document, t_same, t__law_stream, t__law_draw, t__law_choose, t__law_text, t__law_word, t__law_any_value, t__law_other, t_law]
def fr : List Str := ["bool", "dict", "int", "isinstance", "len", "list", "max", "min", "range", "repr", "sorted", "str"]
def gb : List (Str × D) := []
def fn : List He.DefD := [⟨("document", none), "document", "document", defArgs (top 1), defBody (top 1), defScope (top 1), [], []⟩, ⟨("same", none), "same", "same", defArgs (top 2), defBody (top 2), defScope (top 2), [], []⟩, ⟨("_law_stream", none), "_law_stream", "_law_stream", defArgs (top 4), defBody (top 4), defScope (top 4), [], []⟩, ⟨("_law_draw", none), "_law_draw", "_law_draw", defArgs (top 5), defBody (top 5), defScope (top 5), [], []⟩, ⟨("_law_choose", none), "_law_choose", "_law_choose", defArgs (top 6), defBody (top 6), defScope (top 6), [], []⟩, ⟨("_law_text", none), "_law_text", "_law_text", defArgs (top 7), defBody (top 7), defScope (top 7), [], []⟩, ⟨("_law_word", none), "_law_word", "_law_word", defArgs (top 8), defBody (top 8), defScope (top 8), [], []⟩, ⟨("_law_any_value", none), "_law_any_value", "_law_any_value", defArgs (top 9), defBody (top 9), defScope (top 9), [], []⟩, ⟨("_law_other", none), "_law_other", "_law_other", defArgs (top 10), defBody (top 10), defScope (top 10), [], []⟩, ⟨("law", none), "law", "law", defArgs (top 11), defBody (top 11), defScope (top 11), [], []⟩]
def fa : List He.Fa := [.glo "document", .glo "same", .glo "_law_stream", .glo "_law_draw", .glo "_law_choose", .glo "_law_text", .glo "_law_word", .glo "_law_any_value", .glo "_law_other", .glo "law", .free "bool", .free "dict", .free "int", .free "isinstance", .free "len", .free "list", .free "max", .free "min", .free "range", .free "repr", .free "sorted", .free "str"]
theorem bd_document : TD.Bd t_document where
  all := fun _ _ _ _ _ _ us h => match us, h with
    | [_], _ => rfl
  kw := fun q hq => absurd hq List.not_mem_nil
theorem bd_same : TD.Bd t_same where
  all := fun _ _ _ _ _ _ us h => match us, h with
    | [_, _], _ => rfl
  kw := fun q hq kV doc pm an cdv ct us ws as h1 h2 h3 h4 => by
    simp only [show t_same.kf = [(⟨0, ["first", "second"], [0, 1]⟩ : Kform)] from rfl, List.mem_cons, List.not_mem_nil, or_false] at hq
    rcases hq with rfl
    · match us, ws, h1, h2 with
      | [], [w0, w1], _, _ =>
        cases h3
        rfl
theorem bd__law_stream : TD.Bd t__law_stream where
  all := fun _ _ _ _ _ _ us h => match us, h with
    | [_, _], _ => rfl
  kw := fun q hq => absurd hq List.not_mem_nil
theorem bd__law_draw : TD.Bd t__law_draw where
  all := fun _ _ _ _ _ _ us h => match us, h with
    | [_, _], _ => rfl
  kw := fun q hq => absurd hq List.not_mem_nil
theorem bd__law_choose : TD.Bd t__law_choose where
  all := fun _ _ _ _ _ _ us h => match us, h with
    | [_, _], _ => rfl
  kw := fun q hq => absurd hq List.not_mem_nil
theorem bd__law_text : TD.Bd t__law_text where
  all := fun _ _ _ _ _ _ us h => match us, h with
    | [_], _ => rfl
  kw := fun q hq => absurd hq List.not_mem_nil
theorem bd__law_word : TD.Bd t__law_word where
  all := fun _ _ _ _ _ _ us h => match us, h with
    | [_, _], _ => rfl
  kw := fun q hq => absurd hq List.not_mem_nil
theorem bd__law_any_value : TD.Bd t__law_any_value where
  all := fun _ _ _ _ _ _ us h => match us, h with
    | [_, _], _ => rfl
  kw := fun q hq => absurd hq List.not_mem_nil
theorem bd__law_other : TD.Bd t__law_other where
  all := fun _ _ _ _ _ _ us h => match us, h with
    | [_, _], _ => rfl
  kw := fun q hq => absurd hq List.not_mem_nil
theorem bd_law : TD.Bd t_law where
  all := fun _ _ _ _ _ _ us h => match us, h with
    | [_], _ => rfl
  kw := fun q hq => absurd hq List.not_mem_nil
theorem bds : ∀ T ∈ TT, T.Bd := fun T h => by
  simp only [TT, List.mem_cons, List.not_mem_nil, or_false] at h
  rcases h with rfl | rfl | rfl | rfl | rfl | rfl | rfl | rfl | rfl | rfl
  · exact bd_document
  · exact bd_same
  · exact bd__law_stream
  · exact bd__law_draw
  · exact bd__law_choose
  · exact bd__law_text
  · exact bd__law_word
  · exact bd__law_any_value
  · exact bd__law_other
  · exact bd_law
theorem chk : TT.all (fun T => T.chk (TT.map TD.fd) fr gb) = true := by decide +kernel
end K01
set_option maxHeartbeats 0
namespace K01
open PySem PySem.Spec PyProof.Rows L2 TM
abbrev R : PySem.W.OpenRow := PySem.W.OpenLaw.row PySem.Challenge.rw_soonknown_k01_documents_of_values
def loose : List Str := ["document", "same", "_law_stream", "_law_draw", "_law_choose", "_law_text", "_law_word", "_law_any_value", "_law_other"]
abbrev hk : PySem.W.Hook := He.hookD 4 fa fn
def ob (s : PySem.W.SharedT) : He.AlD := He.obsDG 4 fa fn (HandSHeadRun.getT s)
theorem ob_eq (s : PySem.W.SharedT) : ob s = hk.obs s.abs := He.obsDG_eq (HandSHeadRun.getT_eq s)
theorem run (w : World) : HandSHeadRun.RunEq R (PySem.W.view R.prog [11]) hk ob 600 loose w := by
  intro os
  kernel_rfl
theorem told {K : PySem.W.Frag} {h : Heap} {mg : Str → Option Value} (X : K.In h) (G : h.Ns mainGlobals mg) (c : He.SaysD fa fn K) : Told TT fr gb K mg := by
  refine ⟨fun T hT => ?_, fun x hx => ?_, fun p hp => absurd hp List.not_mem_nil⟩
  · simp only [TT, List.mem_cons, List.not_mem_nil, or_false] at hT
    rcases hT with rfl | rfl | rfl | rfl | rfl | rfl | rfl | rfl | rfl | rfl
    · obtain ⟨fd, F⟩ := c.def_ 0 rfl
      exact ⟨_, fd, F, He.glo_ok X G (c.fact 0 (f := .glo "document") rfl)⟩
    · obtain ⟨fd, F⟩ := c.def_ 1 rfl
      exact ⟨_, fd, F, He.glo_ok X G (c.fact 1 (f := .glo "same") rfl)⟩
    · obtain ⟨fd, F⟩ := c.def_ 2 rfl
      exact ⟨_, fd, F, He.glo_ok X G (c.fact 2 (f := .glo "_law_stream") rfl)⟩
    · obtain ⟨fd, F⟩ := c.def_ 3 rfl
      exact ⟨_, fd, F, He.glo_ok X G (c.fact 3 (f := .glo "_law_draw") rfl)⟩
    · obtain ⟨fd, F⟩ := c.def_ 4 rfl
      exact ⟨_, fd, F, He.glo_ok X G (c.fact 4 (f := .glo "_law_choose") rfl)⟩
    · obtain ⟨fd, F⟩ := c.def_ 5 rfl
      exact ⟨_, fd, F, He.glo_ok X G (c.fact 5 (f := .glo "_law_text") rfl)⟩
    · obtain ⟨fd, F⟩ := c.def_ 6 rfl
      exact ⟨_, fd, F, He.glo_ok X G (c.fact 6 (f := .glo "_law_word") rfl)⟩
    · obtain ⟨fd, F⟩ := c.def_ 7 rfl
      exact ⟨_, fd, F, He.glo_ok X G (c.fact 7 (f := .glo "_law_any_value") rfl)⟩
    · obtain ⟨fd, F⟩ := c.def_ 8 rfl
      exact ⟨_, fd, F, He.glo_ok X G (c.fact 8 (f := .glo "_law_other") rfl)⟩
    · obtain ⟨fd, F⟩ := c.def_ 9 rfl
      exact ⟨_, fd, F, He.glo_ok X G (c.fact 9 (f := .glo "law") rfl)⟩
  · obtain ⟨i, hi⟩ := List.mem_iff_getElem?.mp hx
    have hf : fa[10 + i]? = some (.free x) := by
      have e : fa = (TT.map fun T => He.Fa.glo T.nm) ++ fr.map He.Fa.free := rfl
      rw [e, List.getElem?_append_right (by simp [TT]), List.getElem?_map]
      have e2 : 10 + i - (TT.map fun T => He.Fa.glo T.nm).length = i := by simp [TT]
      rw [e2, hi]
      rfl
    exact He.free_ok X G (c.fact (10 + i) hf)
end K01
open PySem PySem.W PySem.Calls PyProof.Rows
theorem k01_end (hval : ∀ ns : List Int, ns.length ≤ 63 → (∀ z ∈ ns, Builtin.Int.intBits z ≤ 1048576) → ∃ st, TM.evCall (K01.TT.map TM.TD.fd) (100 + 1) 9 [.lst (ns.map .int)] [] = .ok (.bl true) st) : PySem.Challenge.rw_soonknown_k01_documents_of_values.Holds := by
  w_on; o_law
  refine HandSHeadRun.head_any (r := OpenLaw.row PySem.Challenge.rw_soonknown_k01_documents_of_values) (q := view (OpenLaw.row PySem.Challenge.rw_soonknown_k01_documents_of_values).prog [11]) (H := K01.hk) (ob := K01.ob) (M := 600) (loose := K01.loose) (d := HandSHeadRun.topDef (OpenLaw.row PySem.Challenge.rw_soonknown_k01_documents_of_values).prog 11) (kwd := []) K01.ob_eq
    (by kernel_rfl) (fun s => by kernel_rfl) K01.run (by kernel_rfl) (by kernel_rfl) (by kernel_rfl) (by rfl) (by first | assumption | decide +kernel) (by decide +kernel) ⟨rfl, rfl, rfl, rfl, rfl, by decide +kernel⟩ ?hw ?hc
  case hw => w_witness2
  case hc =>
    refine TM.walk_tm (l := PySem.Challenge.rw_soonknown_k01_documents_of_values) (n := 63) (k := 100) (f := 9) (x := "script") (TT := K01.TT) (TL := K01.t_law) (fr := K01.fr) (gb := K01.gb) rfl (by decide) (by kernel_rfl) (by kernel_rfl) ⟨rfl, by decide, by decide⟩ rfl (by kernel_rfl) rfl K01.bds K01.chk ?F hval
    intro w mg fa h Y G hmg
    obtain ⟨K, KX, c⟩ := Y
    exact ⟨K, KX, K01.told KX G c⟩
set_option maxHeartbeats 1000000
namespace K01
open PySem PySem.Spec PyProof.Rows L2 TM
def FT : List FD := TT.map TD.fd
abbrev C := evCall FT
theorem draw_ok {k n : Nat} {st : Store} {size : Int} (hs : SS st n) (h0 : 0 < size) (h1 : size < 1073741824) : ∃ r st', C (k + 1) 3 [.loc n, .int size] st = .ok (.int r) st' ∧ 0 ≤ r ∧ r < size ∧ SS st' n ∧ Fr n st st' := by
  obtain ⟨a, b, e, ha, hb, hb2⟩ := hs
  have hn : n < st.length := (List.getElem?_eq_some_iff.mp e).1
  have el := lst_at e
  rw [show C (k + 1) 3 [.loc n, .int size] st = endS (evSs (C k) b__law_draw (slots0 3 [.loc n, .int size]) st) from evCall_at (F := t__law_draw.fd) rfl rfl]
  have hz : size ≠ 0 := by omega
  have hz2 : size.natAbs < 1073741824 := by omega
  by_cases hc : size ≤ a
  · refine ⟨a.fmod size, st.set n (.lst [.int (a.fdiv size), .int b]), ?_, (fmod_in h0).1, (fmod_in h0).2, ⟨a.fdiv size, b, List.getElem?_set_self hn, Int.fdiv_nonneg ha (by omega), hb, hb2⟩, ⟨by simp, fun m hm _ => List.getElem?_set_ne (fun z => hm z.symm)⟩⟩
    simp [b__law_draw, slots0, evSs, evS, evE, evEs, tru, idxD, asL, el, atI, cmpD, truth, hc, asgT, opD_mod, opD_fdiv, hz, hz2, setID, e, ixN, setC, endS, ofO]
  · have hb3 := fmod_in (a := b * 48271 + 12345) (m := 2147483647) (by decide)
    generalize hb1 : (b * 48271 + 12345).fmod 2147483647 = b1 at hb3
    have m1 : ∀ st, opD .Mult (.int b) (.int 48271) st = .ok (.int (b * 48271)) st := fun st => opD_mul (by
      have := log_small hb hb2
      have e2 : (48271 : Int).natAbs.log2 = 15 := by decide +kernel
      omega)
    have e27 : (2 : Int) ^ 27 = 134217728 := by decide
    have p1 : ∀ st, opD .Pow (.int b1) (.int 3) st = .ok (.int (b1 ^ 3)) st := fun st => opD_pow (by decide) (by
      have := bits_lt (k := 32) hb3.1 (by have := hb3.2; omega)
      omega)
    generalize hc1 : (b1 ^ 3).fmod 2147483629 = c1
    have hc3 : 0 ≤ c1 ∧ c1 < 2147483629 := by rw [← hc1]; exact fmod_in (by decide)
    have p2 : ∀ st, opD .Pow (.int c1) (.int 5) st = .ok (.int (c1 ^ 5)) st := fun st => opD_pow (by decide) (by
      have := bits_lt (k := 32) hc3.1 (by have := hc3.2; omega)
      omega)
    generalize hd1 : ((c1 ^ 5).fmod 1000000007).fdiv 7 = d1
    refine ⟨d1.fmod size, st.set n (.lst [.int a, .int b1]), ?_, (fmod_in h0).1, (fmod_in h0).2, ⟨a, b1, List.getElem?_set_self hn, ha, hb3.1, by have := hb3.2; omega⟩, ⟨by simp, fun m hm _ => List.getElem?_set_ne (fun z => hm z.symm)⟩⟩
    have e2 : (st.set n (.lst [.int a, .int b1]))[n]? = some (.lst [.int a, .int b1]) := List.getElem?_set_self hn
    have el2 := lst_at e2
    simp [b__law_draw, slots0, evSs, evS, evE, evEs, tru, idxD, asL, el, el2, atI, cmpD, truth, hc, asgT, opD_mod, opD_fdiv, opD_add, hz, hz2, setID, e, ixN, setC, endS, ofO, m1, p1, p2, hb1, hc1, hd1]
end K01
namespace K01
open PySem PySem.Spec PyProof.Rows L2 TM
theorem choose_list {k n : Nat} {st : Store} {xs : List D} (hs : SS st n) (h0 : xs ≠ []) (h1 : xs.length < 1073741824) : ∃ x ∈ xs, ∃ st', C (k + 2) 4 [.loc n, .lst xs] st = .ok x st' ∧ SS st' n ∧ Fr n st st' := by
  have hp : 0 < xs.length := List.length_pos_iff.mpr h0
  obtain ⟨r, st', e, r0, r1, s', f⟩ := draw_ok (k := k) hs (size := xs.length) (by omega) (by omega)
  obtain ⟨x, hx, ex⟩ := atI_of r0 r1
  refine ⟨x, hx, st', ?_, s', f⟩
  rw [show C (k + 2) 4 [.loc n, .lst xs] st = endS (evSs (C (k + 1)) b__law_choose (slots0 2 [.loc n, .lst xs]) st) from evCall_at (F := t__law_choose.fd) rfl rfl]
  have e' : evCall FT (k + 1) 3 [D.loc n, D.int ↑xs.length] st = .ok (.int r) st' := e
  simp [b__law_choose, slots0, evSs, evS, evE, evEs, biD, asQ, asL, e', idxD, ex, ofO, endS]
theorem choose_str {k n : Nat} {st : Store} {z : Str} (hs : SS st n) (h0 : 0 < z.length) (h1 : z.length ≤ 1000) : ∃ c ∈ z.cps.toList, ∃ st', C (k + 2) 4 [.loc n, .str z] st = .ok (.str ⟨#[c]⟩) st' ∧ SS st' n ∧ Fr n st st' := by
  obtain ⟨r, st', e, r0, r1, s', f⟩ := draw_ok (k := k) hs (size := z.length) (by omega) (by omega)
  have hl : z.cps.toList.length = z.length := by rw [Array.length_toList]; rfl
  obtain ⟨x, hx, ex⟩ := atI_of (xs := z.cps.toList) r0 (by rw [hl]; exact r1)
  refine ⟨x, hx, st', ?_, s', f⟩
  rw [show C (k + 2) 4 [.loc n, .str z] st = endS (evSs (C (k + 1)) b__law_choose (slots0 2 [.loc n, .str z]) st) from evCall_at (F := t__law_choose.fd) rfl rfl]
  have e' : evCall FT (k + 1) 3 [D.loc n, D.int ↑z.length] st = .ok (.int r) st' := e
  have hz : z.length ≤ sizeLine := by rw [sizeLine_eq]; omega
  simp [b__law_choose, slots0, evSs, evS, evE, evEs, biD, e', idxD, ex, ofO, endS, hz]
/-- a word of at most m signs -/
def LW (m : Nat) (w : Str) : Prop := w.length ≤ m ∧ ∀ c ∈ w.cps.toList, c < 16 ^ 8
end K01
namespace K01
open PySem PySem.Spec PyProof.Rows L2 TM
theorem strs_of {vs : List D} {P : Str → Prop} : (∀ v ∈ vs, ∃ s, v = .str s ∧ P s) → ∃ ss : List Str, strsOf vs = some ss ∧ ss.length = vs.length ∧ ∀ s ∈ ss, P s := by
  induction vs with
  | nil => exact fun _ => ⟨[], rfl, rfl, fun s hs => absurd hs List.not_mem_nil⟩
  | cons v vs ih =>
    intro h
    obtain ⟨s, rfl, p⟩ := h v List.mem_cons_self
    obtain ⟨ss, e, l, q⟩ := ih fun v hv => h v (List.mem_cons_of_mem _ hv)
    refine ⟨s :: ss, by simp only [strsOf, e, Option.map], by simp [l], fun x hx => ?_⟩
    rcases List.mem_cons.mp hx with rfl | hx
    · exact p
    · exact q x hx
theorem paired_mem {α β : Type} {Q : α → β → Prop} : ∀ {xs : List α} {ys : List β}, Paired Q xs ys → ∀ y ∈ ys, ∃ x ∈ xs, Q x y
  | _, _, .nil, y, h => absurd h List.not_mem_nil
  | _, _, .cons q t, y, h => by
    rcases List.mem_cons.mp h with rfl | h
    · exact ⟨_, List.mem_cons_self, q⟩
    · obtain ⟨x, hx, q'⟩ := paired_mem t y h
      exact ⟨x, List.mem_cons_of_mem _ hx, q'⟩
theorem draw_at {K n : Nat} {st : Store} {size : Int} (hK : 1 ≤ K) (hs : SS st n) (h0 : 0 < size) (h1 : size < 1073741824) : ∃ r st', C K 3 [.loc n, .int size] st = .ok (.int r) st' ∧ 0 ≤ r ∧ r < size ∧ SS st' n ∧ Fr n st st' := by
  obtain ⟨k, rfl⟩ : ∃ k, K = k + 1 := ⟨K - 1, by omega⟩
  exact draw_ok hs h0 h1
theorem choose_at {K n : Nat} {st : Store} {xs : List D} (hK : 2 ≤ K) (hs : SS st n) (h0 : xs ≠ []) (h1 : xs.length < 1073741824) : ∃ x ∈ xs, ∃ st', C K 4 [.loc n, .lst xs] st = .ok x st' ∧ SS st' n ∧ Fr n st st' := by
  obtain ⟨k, rfl⟩ : ∃ k, K = k + 2 := ⟨K - 2, by omega⟩
  exact choose_list hs h0 h1
end K01
set_option maxHeartbeats 400000
namespace K01
open PySem PySem.Spec PyProof.Rows L2 TM
theorem word_ok {k n : Nat} {st : Store} {m : Nat} (hs : SS st n) (h0 : 2 ≤ m) (h1 : m ≤ 100) : ∃ w st', C (k + 3) 6 [.loc n, .int m] st = .ok (.str w) st' ∧ LW m w ∧ SS st' n ∧ Fr n st st' := by
  -- the size
  obtain ⟨r, st1, e1, r0, r1, s1, f1⟩ := draw_at (K := k + 2) (by omega) hs (size := (m : Int) + 1) (by omega) (by omega)
  obtain ⟨x, hx, st2, e2, s2, f2⟩ := choose_at (K := k + 2) (xs := [.int 0, .int 1, .int 2, .int m, .int r]) (by omega) s1 (by simp) (by simp)
  have hx' : ∃ z : Nat, x = .int z ∧ z ≤ m := by
    simp only [List.mem_cons, List.not_mem_nil, or_false] at hx
    rcases hx with rfl | rfl | rfl | rfl | rfl
    · exact ⟨0, rfl, by omega⟩
    · exact ⟨1, rfl, by omega⟩
    · exact ⟨2, rfl, h0⟩
    · exact ⟨m, rfl, Nat.le_refl _⟩
    · exact ⟨r.toNat, by rw [Int.toNat_of_nonneg r0], by omega⟩
  obtain ⟨z, rfl, hz⟩ := hx'
  obtain ⟨y, hy, st3, e3, s3, f3⟩ := choose_at (K := k + 2) (xs := [.str "abcyz", .str "abcdefghijklmnopqrstuvwxyz"]) (by omega) s2 (by simp) (by simp)
  have hy' : ∃ u : Str, y = .str u ∧ 0 < u.length ∧ u.length ≤ 1000 ∧ ∀ c ∈ u.cps.toList, c < 16 ^ 8 := by
    simp only [List.mem_cons, List.not_mem_nil, or_false] at hy
    rcases hy with rfl | rfl
    · exact ⟨_, rfl, by decide +kernel, by decide +kernel, by decide +kernel⟩
    · exact ⟨_, rfl, by decide +kernel, by decide +kernel, by decide +kernel⟩
  obtain ⟨u, rfl, u0, u1, u2⟩ := hy'
  -- the letters
  let sl : Slots := [some (.loc n), some (.int m), some (.int z), some (.str u), none]
  have body : ∀ d st, (evE (C (k + 2)) (.call 4 "_law_choose" [.var 0, .var 3])) ((wipeD sl [4]).set 4 (some d)) st = C (k + 2) 4 [.loc n, .str u] st := fun d st => by
    simp [sl, evE, evEs, wipeD]
  obtain ⟨vs, st4, e4, ⟨s4, f4⟩, l4, q4⟩ := lc_walk (src := none) (f := lcF (evTs (C (k + 2)) []) (evE (C (k + 2)) (.call 4 "_law_choose" [.var 0, .var 3])) (.name 4) [4] sl) (P := fun st => SS st n ∧ Fr n st3 st) (Q := fun _ v => ∃ c, v = .str ⟨#[c]⟩ ∧ c < 16 ^ 8) (fun _ _ => rfl)
    ((List.range z).map fun (i : Nat) => D.int (0 + (i : Int))) [] st3 (fun d hd st ⟨p1, p2⟩ => by
      obtain ⟨c, hc, st', e, s', f'⟩ := choose_str (k := k) p1 u0 u1
      exact ⟨.str ⟨#[c]⟩, st', by rw [lcF_name (by simp [sl]), body, e]; rfl, ⟨s', p2.trans f'⟩, c, rfl, u2 c hc⟩) ⟨s3, Fr.refl n st3⟩ (by simp [sizeLine_eq]; omega)
  rw [List.nil_append] at e4
  have lv : vs.length = z := by simpa using l4
  obtain ⟨ss, es, ls, qs⟩ := strs_of (vs := vs) (P := fun s => s.length = 1 ∧ ∀ c ∈ s.cps.toList, c < 16 ^ 8) fun v hv => by
    obtain ⟨_, _, c, rfl, hc⟩ := paired_mem q4 v hv
    exact ⟨_, rfl, rfl, fun c' hc' => by simpa [List.mem_singleton.mp hc'] using hc⟩
  have sum1 : ∀ (ss : List Str), (∀ s ∈ ss, s.length = 1) → (ss.map (·.length)).sum = ss.length := fun ss => by
    induction ss with
    | nil => exact fun _ => rfl
    | cons s ss ih =>
      intro h
      rw [List.map_cons, List.sum_cons, List.length_cons, h s List.mem_cons_self, ih fun s hs => h s (List.mem_cons_of_mem _ hs)]
      omega
  have hsum := sum1 ss fun s hs => (qs s hs).1
  have e0 : (Str.ofString "").length = 0 := by decide +kernel
  refine ⟨Txt.join "" ss, st4, ?_, ⟨?_, fun c hc => ?_⟩, s4, ((f1.trans f2).trans f3).trans f4⟩
  · rw [show C (k + 3) 6 [.loc n, .int m] st = endS (evSs (C (k + 2)) b__law_word (slots0 5 [.loc n, .int m]) st) from evCall_at (F := t__law_word.fd) rfl rfl]
    have v1 : evS (C (k + 2)) (b__law_word.getD 0 .pass) (slots0 5 [.loc n, .int m]) st = .next [some (.loc n), some (.int m), some (.int z), none, none] st2 := by
      simp [b__law_word, slots0, e1, e2, opD_add, asgT, mkL]
    have v2 : evS (C (k + 2)) (b__law_word.getD 1 .pass) [some (.loc n), some (.int m), some (.int z), none, none] st2 = .next sl st3 := by
      simp [b__law_word, e3, asgT, mkL, sl]
    have q2 : evE (C (k + 2)) (.lc false [("turn", 4)] (.name 4) (.rng [.var 2]) [] (.call 4 "_law_choose" [.var 0, .var 3])) sl st3 = .ok (.lst vs) st4 := by
      have hI : evI (C (k + 2)) (.rng [.var 2]) sl st3 = .ok ⟨none, (List.range z).map fun (i : Nat) => D.int (0 + (i : Int))⟩ st3 := evI_rng (by omega) rfl
      rw [evE_lc, hI, Res.bind_ok]
      show (lcLoop none (lcF (evTs (C (k + 2)) []) (evE (C (k + 2)) (.call 4 "_law_choose" [.var 0, .var 3])) (.name 4) [4] sl) ((List.range z).map fun (i : Nat) => D.int (0 + (i : Int))) [] st3).bind _ = _
      rw [e4]
      rfl
    have q3 := evE_join (a := "") q2 es (by rw [hsum, show (Str.ofString "").length = 0 from e0]; omega)
    have q4 : evSs (C (k + 2)) [.ret (.me .join (.str "") [.lc false [("turn", 4)] (.name 4) (.rng [.var 2]) [] (.call 4 "_law_choose" [.var 0, .var 3])])] sl st3 = .ret (.str (Txt.join "" ss)) st4 := evSs_ret (by rw [x_ret, q3]; rfl)
    have v3 : evSs (C (k + 2)) b__law_word (slots0 5 [.loc n, .int m]) st = .ret (.str (Txt.join "" ss)) st4 := (evSs_cons v1).trans ((evSs_cons v2).trans q4)
    rw [v3]
    rfl
  · rw [len_join, hsum, e0]
    omega
  · rcases mem_join hc with h | ⟨p, hp, h⟩
    · exact absurd h (by simp [show (Str.ofString "").cps.toList = [] by decide +kernel])
    · exact (qs p hp).2 c h
end K01
set_option maxHeartbeats 400000
namespace K01
open PySem PySem.Spec PyProof.Rows L2 TM
/-! values -/
def Sc (d : D) : Prop := (∃ b, d = .bl b) ∨ (∃ i : Int, d = .int i ∧ i.natAbs ≤ 1000000000) ∨ ∃ s, d = .str s ∧ LW 12 s
def mx (o j : Nat) : Nat := if j ≤ 2 then 8 else 2 + o
def V (o : Nat) : Nat → D → Prop
  | 0, d => Sc d ∨ (o = 1 ∧ (d = .lst [] ∨ d = .dct []))
  | j + 1, d => V o j d ∨ (∃ xs, d = .lst xs ∧ xs.length ≤ mx o (j + 1) ∧ ∀ x ∈ xs, V o j x) ∨ ∃ kvs, d = .dct kvs ∧ kvs.length ≤ mx o (j + 1) ∧ ∀ kv ∈ kvs, (∃ s, kv.1 = .inr s ∧ LW 8 s) ∧ V o j kv.2
theorem mx_le {o j : Nat} (h : o ≤ 1) : mx o j ≤ 8 := by unfold mx; split <;> omega
def T : Nat → Nat
  | 0 => 98
  | j + 1 => 8 * (T j + 12) + 2
theorem T_le : ∀ {j : Nat}, j ≤ 4 → T j ≤ 917490
  | 0, _ => by decide
  | 1, _ => by decide
  | 2, _ => by decide
  | 3, _ => by decide
  | 4, _ => by decide
theorem paired_imp {α β : Type} {P Q : α → β → Prop} (h : ∀ x y, P x y → Q x y) {xs : List α} {ys : List β} (t : Paired P xs ys) : Paired Q xs ys := by
  induction t with
  | nil => exact .nil
  | cons q _ ih => exact .cons (h _ _ q) ih
/-! loops that change nothing -/
theorem lc_exact {f : D → Store → Res (Option D)} {st : Store} : ∀ {items vs : List D} {acc : List D}, Paired (fun d v => f d st = .ok (some v) st) items vs → acc.length + items.length ≤ sizeLine → lcLoop none f items acc st = .ok (acc ++ vs) st
  | [], _, acc, .nil, _ => by
    rw [lcLoop, if_pos (show srcOk none st = true from rfl), List.append_nil]
  | d :: r, _, acc, .cons (b := v) q t, hl => by
    rw [List.length_cons] at hl
    have ih := lc_exact (acc := acc ++ [v]) t (by rw [List.length_append, List.length_singleton]; omega)
    rw [lcLoop, if_pos (show srcOk none st = true from rfl), q]
    dsimp only
    rw [if_pos (by omega), ih, List.append_assoc]
    rfl
theorem choose_all {α β : Type} {P : α → β → Prop} : ∀ {xs : List α}, (∀ x ∈ xs, ∃ y, P x y) → ∃ ys, Paired P xs ys
  | [], _ => ⟨[], .nil⟩
  | x :: xs, h => by
    obtain ⟨y, hy⟩ := h x List.mem_cons_self
    obtain ⟨ys, hys⟩ := choose_all (xs := xs) fun x hx => h x (List.mem_cons_of_mem _ hx)
    exact ⟨y :: ys, .cons hy hys⟩
theorem paired_len {α β : Type} {P : α → β → Prop} : ∀ {xs : List α} {ys : List β}, Paired P xs ys → ys.length = xs.length
  | _, _, .nil => rfl
  | _, _, .cons _ t => by rw [List.length_cons, List.length_cons, paired_len t]
theorem paired_map {α β γ δ : Type} {P : α → β → Prop} {Q : γ → δ → Prop} {f : α → γ} {g : β → δ} (h : ∀ x y, P x y → Q (f x) (g y)) : ∀ {xs : List α} {ys : List β}, Paired P xs ys → Paired Q (xs.map f) (ys.map g)
  | _, _, .nil => .nil
  | _, _, .cons q t => .cons (h _ _ q) (paired_map h t)
theorem strsOf_map : ∀ {ss : List Str}, strsOf (ss.map .str) = some ss
  | [] => rfl
  | s :: ss => by
    show (strsOf (ss.map .str)).map (s :: ·) = _
    rw [strsOf_map]
    rfl
theorem sum_le {ss : List Str} {m : Nat} (h : ∀ s ∈ ss, s.length ≤ m) : (ss.map (·.length)).sum ≤ ss.length * m := by
  induction ss with
  | nil => simp
  | cons s ss ih =>
    have h1 := h s List.mem_cons_self
    have h2 := ih fun s hs => h s (List.mem_cons_of_mem _ hs)
    rw [List.map_cons, List.sum_cons, List.length_cons, Nat.add_mul]
    omega
/-! the text of a value -/
def tb (f : Nat) (nm : Str) : List CS := [
  (.iff (.isin (.var 0) [.bool]) [(.ret (.ife (.var 0) (.str "true") (.str "false")))] []),
  (.iff (.isin (.var 0) [.int]) [(.ret (.bi .str [(.var 0)]))] []),
  (.iff (.isin (.var 0) [.str]) [(.ret (.op .Add (.op .Add (.str "\"") (.var 0)) (.str "\"")))] []),
  (.iff (.isin (.var 0) [.list]) [(.ret (.op .Add (.op .Add (.str "[") (.me .join (.str ",") [(.lc false [("item", 2)] (.name 2) (.e (.var 0)) [] (.call f nm [(.var 2)]))])) (.str "]")))] []),
  (.ret (.op .Add (.op .Add (.str "{") (.me .join (.str ",") [(.lc false [("name", 1)] (.name 1) (.e (.bi .sorted [(.var 0)])) [] (.op .Add (.op .Add (.op .Add (.str "\"") (.var 1)) (.str "\":")) (.call f nm [(.idx (.var 0) (.var 1))])))])) (.str "}")))]
theorem isif {cl : Nat → List D → Store → Res D} {sl : Slots} {st : Store} {i : Nat} {u : Ty} {x y : List CS} {d : D} {b : Bool} (h : sl[i]? = some (some d)) (hd : isinD d [u] st = some b) : evS cl (.iff (.isin (.var i) [u]) x y) sl st = if b then evSs cl x sl st else evSs cl y sl st := by
  have e : evE cl (.isin (.var i) [u]) sl st = .ok (.bl b) st := by
    rw [x_isin, x_var, h]
    dsimp only
    rw [Res.bind_ok, hd]
    rfl
  rw [x_iff, x_tru, e]
  rfl
theorem skip {cl : Nat → List D → Store → Res D} {sl : Slots} {st : Store} {i : Nat} {u : Ty} {x : List CS} {d : D} (h : sl[i]? = some (some d)) (hd : isinD d [u] st = some false) : evS cl (.iff (.isin (.var i) [u]) x []) sl st = .next sl st := (isif h hd).trans rfl
theorem take {cl : Nat → List D → Store → Res D} {sl : Slots} {st : Store} {i : Nat} {u : Ty} {x y : List CS} {d : D} (h : sl[i]? = some (some d)) (hd : isinD d [u] st = some true) : evS cl (.iff (.isin (.var i) [u]) x y) sl st = evSs cl x sl st := (isif h hd).trans rfl
section
variable {cl : Nat → List D → Store → Res D} {st : Store} {f : Nat} {nm : Str}
abbrev tsl (d : D) : Slots := [some d, none, none]
theorem tx_bl {b : Bool} : evSs cl (tb f nm) (tsl (.bl b)) st = .ret (.str (if b then "true" else "false")) st := by
  refine evSs_ret ?_
  rw [take rfl rfl]
  refine evSs_ret ?_
  cases b <;> rfl
theorem tx_int {i : Int} (h : i.natAbs.log2 < 1920) : evSs cl (tb f nm) (tsl (.int i)) st = .ret (.str (toString i : String)) st := by
  refine (evSs_cons (skip rfl rfl)).trans (evSs_ret ?_)
  rw [take rfl rfl]
  refine evSs_ret ?_
  show (biD .str [.int i] st).then _ = _
  have e : biD .str [.int i] st = .ok (.str (toString i : String)) st := if_pos h
  rw [e]
  rfl
theorem tx_str {s : Str} (h : s.length ≤ 1000) : ∃ r : Str, r.length = s.length + 2 ∧ ∀ cl f nm st, evSs cl (tb f nm) (tsl (.str s)) st = .ret (.str r) st := by
  have q : (Str.ofString "\"").length = 1 := by decide +kernel
  refine ⟨(Str.ofString "\"" ++ s) ++ Str.ofString "\"", by rw [strLen_append, strLen_append, q]; omega, fun cl f nm st => ?_⟩
  refine (evSs_cons (skip rfl rfl)).trans ((evSs_cons (skip rfl rfl)).trans (evSs_ret ?_))
  rw [take rfl rfl]
  refine evSs_ret ?_
  show ((opD .Add (.str "\"") (.str s) st).bind fun x st1 => opD .Add x (.str "\"") st1).then _ = _
  rw [opD_str (by rw [q, sizeLine_eq]; omega), Res.bind_ok, opD_str (by rw [strLen_append, q, sizeLine_eq]; omega)]
  rfl
/-- a list's text from its parts' -/
theorem tx_lst {xs : List D} {ss : List Str} {m : Nat} (hx : xs.length ≤ 8) (hm : m ≤ 917490) (hl : ∀ s ∈ ss, s.length ≤ m) (hs : ss.length = xs.length) : ∃ r : Str, r.length ≤ 8 * (m + 12) + 2 ∧ ∀ cl f nm st, Paired (fun d (s : Str) => cl f [d] st = .ok (.str s) st) xs ss → evSs cl (tb f nm) (tsl (.lst xs)) st = .ret (.str r) st := by
  have q1 : (Str.ofString "[").length = 1 := by decide +kernel
  have q2 : (Str.ofString "]").length = 1 := by decide +kernel
  have q3 : (Str.ofString ",").length = 1 := by decide +kernel
  have hj : (Txt.join "," ss).length ≤ 8 * (m + 1) := by
    rw [len_join, show (Str.ofString ",").length = 1 from q3]
    have h1 := sum_le hl
    have h2 : ss.length * m ≤ 8 * m := Nat.mul_le_mul_right _ (by omega)
    omega
  refine ⟨(Str.ofString "[" ++ Txt.join "," ss) ++ Str.ofString "]", by rw [strLen_append, strLen_append, q1, q2]; omega, fun cl f nm st hp => ?_⟩
  refine (evSs_cons (skip rfl rfl)).trans ((evSs_cons (skip rfl rfl)).trans ((evSs_cons (skip rfl rfl)).trans (evSs_ret ?_)))
  rw [take rfl rfl]
  refine evSs_ret ?_
  have lc : evE cl (.lc false [("item", 2)] (.name 2) (.e (.var 0)) [] (.call f nm [(.var 2)])) (tsl (.lst xs)) st = .ok (.lst (ss.map .str)) st := by
    have hI : evI cl (.e (.var 0)) (tsl (.lst xs)) st = .ok ⟨none, xs⟩ st := rfl
    rw [evE_lc, hI, Res.bind_ok]
    have e : lcLoop none (lcF (evTs cl []) (evE cl (.call f nm [.var 2])) (.name 2) [2] (tsl (.lst xs))) xs [] st = .ok ([] ++ ss.map .str) st := by
      refine lc_exact ?_ (by rw [sizeLine_eq]; simp; omega)
      have := paired_map (Q := fun d v => lcF (evTs cl []) (evE cl (.call f nm [.var 2])) (.name 2) [2] (tsl (.lst xs)) d st = .ok (some v) st) (f := fun d => d) (g := D.str) (fun d s h => by
        rw [lcF_name (by simp)]
        show ((cl f [d] st).bind _) = _
        rw [h]
        rfl) hp
      simpa using this
    show (lcLoop none (lcF (evTs cl []) (evE cl (.call f nm [.var 2])) (.name 2) [2] (tsl (.lst xs))) xs [] st).bind _ = _
    rw [e]
    rfl
  have hjn := evE_join (a := ",") (ys := ss) lc (by show strsOf (ss.map .str) = _; exact strsOf_map) (by
    rw [show (Str.ofString ",").length = 1 from q3]
    have h1 := sum_le hl
    have h2 : ss.length * m ≤ 8 * m := Nat.mul_le_mul_right _ (by omega)
    omega)
  show ((((evE cl (.me .join (.str ",") [(.lc false [("item", 2)] (.name 2) (.e (.var 0)) [] (.call f nm [(.var 2)]))])) (tsl (.lst xs)) st).bind fun y st2 => opD .Add (.str "[") y st2).bind fun x st1 => opD .Add x (.str "]") st1).then _ = _
  rw [hjn, Res.bind_ok, opD_str (by rw [q1, sizeLine_eq]; omega), Res.bind_ok, opD_str (by rw [strLen_append, q1, q2, sizeLine_eq]; omega)]
  rfl
end
end K01
set_option maxHeartbeats 400000
namespace K01
open PySem PySem.Spec PyProof.Rows L2 TM
theorem keys_of {kvs : List (Key × D)} {P : Str → Prop} : (∀ kv ∈ kvs, ∃ s, kv.1 = .inr s ∧ P s) → ∃ ks : List Str, inrs (kvs.map (·.1)) = some ks ∧ ks.length = kvs.length ∧ ∀ s ∈ ks, P s ∧ ∃ v, getK kvs (.inr s) = some v ∧ ∃ kv ∈ kvs, kv.2 = v := by
  have get : ∀ (kvs : List (Key × D)) (s : Str), (∃ kv ∈ kvs, kv.1 = .inr s) → ∃ v, getK kvs (.inr s) = some v ∧ ∃ kv ∈ kvs, kv.2 = v := fun kvs s => by
    induction kvs with
    | nil => exact fun ⟨kv, h, _⟩ => absurd h List.not_mem_nil
    | cons p kvs ih =>
      intro h
      by_cases e : p.1 = .inr s
      · exact ⟨p.2, by simp [getK, e], p, List.mem_cons_self, rfl⟩
      · obtain ⟨kv, hm, hk⟩ := h
        rcases List.mem_cons.mp hm with rfl | hm
        · exact absurd hk e
        · obtain ⟨v, h1, kv', h2, h3⟩ := ih ⟨kv, hm, hk⟩
          exact ⟨v, by simpa [getK, e] using h1, kv', List.mem_cons_of_mem _ h2, h3⟩
  intro h
  have names : ∀ kvs : List (Key × D), (∀ kv ∈ kvs, ∃ s, kv.1 = .inr s ∧ P s) → ∃ ks : List Str, inrs (kvs.map (·.1)) = some ks ∧ ks.length = kvs.length ∧ ∀ s ∈ ks, P s ∧ ∃ kv ∈ kvs, kv.1 = .inr s := fun kvs => by
    induction kvs with
    | nil => exact fun _ => ⟨[], rfl, rfl, fun s hs => absurd hs List.not_mem_nil⟩
    | cons p kvs ih =>
      intro h
      obtain ⟨s, e, ps⟩ := h p List.mem_cons_self
      obtain ⟨ks, e1, l1, q1⟩ := ih fun kv hk => h kv (List.mem_cons_of_mem _ hk)
      refine ⟨s :: ks, ?_, by simp [l1], fun x hx => ?_⟩
      · rw [List.map_cons, e]
        show (inrs (kvs.map (·.1))).map (s :: ·) = _
        rw [e1]
        rfl
      · rcases List.mem_cons.mp hx with rfl | hx
        · exact ⟨ps, p, List.mem_cons_self, e⟩
        · obtain ⟨a, kv, b, c⟩ := q1 x hx
          exact ⟨a, kv, List.mem_cons_of_mem _ b, c⟩
  obtain ⟨ks, e1, l1, q1⟩ := names kvs h
  exact ⟨ks, e1, l1, fun s hs => ⟨(q1 s hs).1, get kvs s (q1 s hs).2⟩⟩
section
variable {st : Store}
theorem tx_dct {kvs : List (Key × D)} {ks ss : List Str} {m : Nat} (hk : inrs (kvs.map (·.1)) = some ks) (hx : ks.length ≤ 8) (hm : m ≤ 917490) (hn : ∀ s ∈ ks, s.length ≤ 8) (hl : ∀ s ∈ ss, s.length ≤ m) :
    ∃ r : Str, r.length ≤ 8 * (m + 12) + 2 ∧ ∀ cl f nm st, Paired (fun (n : Str) (s : Str) => ∃ v, getK kvs (.inr n) = some v ∧ cl f [v] st = .ok (.str s) st) (sortS ks) ss → evSs cl (tb f nm) (tsl (.dct kvs)) st = .ret (.str r) st := by
  have q1 : (Str.ofString "{").length = 1 := by decide +kernel
  have q2 : (Str.ofString "}").length = 1 := by decide +kernel
  have q3 : (Str.ofString ",").length = 1 := by decide +kernel
  have q4 : (Str.ofString "\"").length = 1 := by decide +kernel
  have q5 : (Str.ofString "\":").length = 2 := by decide +kernel
  have pm : (sortS ks).Perm ks := List.mergeSort_perm ..
  have lk : (sortS ks).length = ks.length := pm.length_eq
  by_cases hs : ss.length = ks.length
  case neg =>
    refine ⟨Str.ofString "{", by rw [q1]; omega, fun cl f nm st hp => ?_⟩
    have := paired_len hp
    omega
  let part : Str → Str → Str := fun n s => ((Str.ofString "\"" ++ n) ++ Str.ofString "\":") ++ s
  have lp : ∀ n s, n.length ≤ 8 → s.length ≤ m → (part n s).length ≤ m + 11 := fun n s h1 h2 => by
    show (((Str.ofString "\"" ++ n) ++ Str.ofString "\":") ++ s).length ≤ _
    rw [strLen_append, strLen_append, strLen_append, q4, q5]
    omega
  let ps : List Str := List.zipWith part (sortS ks) ss
  have lps : ps.length = ks.length := by simp [ps, lk, hs]
  have hps : ∀ s ∈ ps, s.length ≤ m + 11 := by
    have gen : ∀ (as bs : List Str), (∀ a ∈ as, a.length ≤ 8) → (∀ b ∈ bs, b.length ≤ m) → ∀ s ∈ List.zipWith part as bs, s.length ≤ m + 11 := fun as => by
      induction as with
      | nil => exact fun bs _ _ s hs => by simp at hs
      | cons a as ih =>
        intro bs h1 h2 s hs
        cases bs with
        | nil => simp at hs
        | cons b bs =>
          rw [List.zipWith_cons_cons] at hs
          rcases List.mem_cons.mp hs with rfl | hs
          · exact lp a b (h1 a List.mem_cons_self) (h2 b List.mem_cons_self)
          · exact ih bs (fun x hx => h1 x (List.mem_cons_of_mem _ hx)) (fun x hx => h2 x (List.mem_cons_of_mem _ hx)) s hs
    exact gen _ _ (fun a ha => hn a (pm.mem_iff.mp ha)) hl
  have hsum : (ps.map (·.length)).sum ≤ 8 * (m + 11) := by
    have h1 := sum_le hps
    have h2 : ps.length * (m + 11) ≤ 8 * (m + 11) := Nat.mul_le_mul_right _ (by omega)
    omega
  have hj : (Txt.join "," ps).length ≤ 8 * (m + 12) := by
    rw [len_join, show (Str.ofString ",").length = 1 from q3]
    omega
  refine ⟨(Str.ofString "{" ++ Txt.join "," ps) ++ Str.ofString "}", by rw [strLen_append, strLen_append, q1, q2]; omega, fun cl f nm st hp => ?_⟩
  refine (evSs_cons (skip rfl rfl)).trans ((evSs_cons (skip rfl rfl)).trans ((evSs_cons (skip rfl rfl)).trans ((evSs_cons (skip rfl rfl)).trans (evSs_ret ?_))))
  let body : CE := .op .Add (.op .Add (.op .Add (.str "\"") (.var 1)) (.str "\":")) (.call f nm [(.idx (.var 0) (.var 1))])
  have lc : evE cl (.lc false [("name", 1)] (.name 1) (.e (.bi .sorted [(.var 0)])) [] body) (tsl (.dct kvs)) st = .ok (.lst (ps.map .str)) st := by
    have hsd : sortedD (.dct kvs) st = some (.lst ((sortS ks).map .str)) := by
      show (match inrs (kvs.map (·.1)) with
        | some ks => if ks.length < 64 then some (D.lst ((sortS ks).map .str)) else none
        | none => none) = _
      rw [hk]
      exact if_pos (by omega)
    have hI : evI cl (.e (.bi .sorted [(.var 0)])) (tsl (.dct kvs)) st = .ok ⟨none, (sortS ks).map .str⟩ st := by
      show ((ofO (sortedD (.dct kvs) st) st).bind fun x st1 => ofO (itD x st1) st1) = _
      rw [hsd]
      rfl
    rw [evE_lc, hI, Res.bind_ok]
    have pr : Paired (fun d v => lcF (evTs cl []) (evE cl body) (.name 1) [1] (tsl (.dct kvs)) d st = .ok (some v) st) ((sortS ks).map .str) (ps.map .str) := by
      have gen : ∀ (as bs : List Str), (∀ a ∈ as, a.length ≤ 8) → (∀ b ∈ bs, b.length ≤ m) → Paired (fun (n : Str) (s : Str) => ∃ v, getK kvs (.inr n) = some v ∧ cl f [v] st = .ok (.str s) st) as bs →
          Paired (fun d v => lcF (evTs cl []) (evE cl body) (.name 1) [1] (tsl (.dct kvs)) d st = .ok (some v) st) (as.map .str) ((List.zipWith part as bs).map .str) := fun as bs h1 h2 h => by
        induction h with
        | nil => exact .nil
        | @cons a b as bs q t ih =>
          refine .cons ?_ (ih (fun x hx => h1 x (List.mem_cons_of_mem _ hx)) (fun x hx => h2 x (List.mem_cons_of_mem _ hx)))
          obtain ⟨v, g, e⟩ := q
          have ha := h1 a List.mem_cons_self
          have hb := h2 b List.mem_cons_self
          rw [lcF_name (by simp)]
          show (((((opD .Add (.str "\"") (.str a) st).bind fun x st1 => opD .Add x (.str "\":") st1).bind fun x st1 => ((((ofO (getK kvs (.inr a)) st1).bind fun d st1 => Res.ok [d] st1).bind fun ds st1 => cl f ds st1).bind fun y st2 => opD .Add x y st2)).bind fun v st3 => Res.ok (some v) st3) : Res (Option D)) = _
          rw [opD_str (by rw [q4, sizeLine_eq]; omega), Res.bind_ok, opD_str (by rw [strLen_append, q4, q5, sizeLine_eq]; omega), Res.bind_ok, g, ofO_some, Res.bind_ok, Res.bind_ok, e, Res.bind_ok, opD_str (by rw [strLen_append, strLen_append, q4, q5, sizeLine_eq]; omega), Res.bind_ok]
      exact gen _ _ (fun a ha => hn a (pm.mem_iff.mp ha)) hl hp
    have e := lc_exact (acc := []) pr (by rw [sizeLine_eq]; simp [lk]; omega)
    show (lcLoop none (lcF (evTs cl []) (evE cl body) (.name 1) [1] (tsl (.dct kvs))) ((sortS ks).map .str) [] st).bind _ = _
    rw [e]
    rfl
  have hjn := evE_join (a := ",") (ys := ps) lc (by show strsOf (ps.map .str) = _; exact strsOf_map) (by
    rw [show (Str.ofString ",").length = 1 from q3]
    omega)
  show ((((evE cl (.me .join (.str ",") [(.lc false [("name", 1)] (.name 1) (.e (.bi .sorted [(.var 0)])) [] body)]) (tsl (.dct kvs)) st).bind fun y st2 => opD .Add (.str "{") y st2).bind fun x st1 => opD .Add x (.str "}") st1).then _) = _
  rw [hjn, Res.bind_ok, opD_str (by rw [q1, sizeLine_eq]; omega), Res.bind_ok, opD_str (by rw [strLen_append, q1, q2, sizeLine_eq]; omega)]
  rfl
end
/-- both texts of a value -/
def Tx (K : Nat) (d : D) (s : Str) (st : Store) : Prop := C K 0 [d] st = .ok (.str s) st ∧ C K 5 [d] st = .ok (.str s) st
theorem Tx.of {K : Nat} {d : D} {s : Str} {st : Store} (h : ∀ f nm, (f = 0 ∧ nm = ("document" : Str)) ∨ (f = 5 ∧ nm = ("_law_text" : Str)) → evSs (C K) (tb f nm) (tsl d) st = .ret (.str s) st) : Tx (K + 1) d s st := by
  constructor
  · rw [show C (K + 1) 0 [d] st = endS (evSs (C K) (tb 0 "document") (tsl d) st) from evCall_at (F := t_document.fd) rfl rfl, h 0 _ (.inl ⟨rfl, rfl⟩)]
    rfl
  · rw [show C (K + 1) 5 [d] st = endS (evSs (C K) (tb 5 "_law_text") (tsl d) st) from evCall_at (F := t__law_text.fd) rfl rfl, h 5 _ (.inr ⟨rfl, rfl⟩)]
    rfl
theorem int_len {i : Int} (h : i.natAbs ≤ 1000000000) : (Str.ofString (toString i)).length ≤ 11 := by
  have e : (10 : Int) ^ 10 = 10000000000 := by decide
  by_cases h0 : 0 ≤ i
  · exact Nat.le_trans (toString_length_le h0 (k := 10) (by decide) (by omega)) (by decide)
  · rw [len_text_neg (by omega)]
    have := toString_length_le (v := 0 - i) (by omega) (k := 10) (by decide) (by omega)
    omega
theorem Sc.text {d : D} (h : Sc d) : ∃ s, s.length ≤ 14 ∧ ∀ K st, Tx (K + 1) d s st := by
  rcases h with ⟨b, rfl⟩ | ⟨i, rfl, hi⟩ | ⟨s, rfl, hs, _⟩
  · exact ⟨_, by cases b <;> decide +kernel, fun K st => .of fun f nm _ => tx_bl⟩
  · refine ⟨_, Nat.le_trans (int_len hi) (by decide), fun K st => .of fun f nm _ => tx_int ?_⟩
    by_cases z : i.natAbs = 0
    · rw [z]; decide
    · have : i.natAbs.log2 < 30 := (Nat.log2_lt z).mpr (by have : (2 : Nat) ^ 30 = 1073741824 := (by decide); omega)
      omega
  · obtain ⟨r, hr, e⟩ := tx_str (s := s) (by omega)
    exact ⟨r, by omega, fun K st => .of fun f nm _ => e _ f nm _⟩
theorem text_ok {o : Nat} (ho : o ≤ 1) : ∀ {j : Nat} {d : D}, j ≤ 5 → V o j d → ∃ s, s.length ≤ T j ∧ ∀ (K : Nat) (st : Store), Tx (K + j + 1) d s st
  | 0, d, _, h => by
    rcases h with h | ⟨_, rfl | rfl⟩
    · obtain ⟨s, hs, e⟩ := h.text
      exact ⟨s, Nat.le_trans hs (by decide), e⟩
    · obtain ⟨r, hr, e⟩ := tx_lst (xs := []) (ss := []) (m := 0) (by simp) (by omega) (fun s hs => absurd hs List.not_mem_nil) rfl
      exact ⟨r, hr, fun K st => .of fun f nm _ => e _ f nm _ .nil⟩
    · obtain ⟨r, hr, e⟩ := tx_dct (kvs := []) (ks := []) (ss := []) (m := 0) rfl (by simp) (by omega) (fun s hs => absurd hs List.not_mem_nil) (fun s hs => absurd hs List.not_mem_nil)
      exact ⟨r, hr, fun K st => .of fun f nm _ => e _ f nm _ (by rw [show sortS [] = [] by simp [sortS]]; exact .nil)⟩
  | j + 1, d, hj, h => by
    have hT := T_le (j := j) (by omega)
    have hT5 : ∀ j, T j ≤ T (j + 1) := fun j => by show T j ≤ 8 * (T j + 12) + 2; omega
    rcases h with h | ⟨xs, rfl, hl, hx⟩ | ⟨kvs, rfl, hl, hx⟩
    · obtain ⟨s, hs, e⟩ := text_ok ho (by omega) h
      refine ⟨s, Nat.le_trans hs (hT5 j), fun K st => ?_⟩
      rw [show K + (j + 1) + 1 = K + 1 + j + 1 by omega]
      exact e (K + 1) st
    · obtain ⟨ss, hp⟩ := choose_all (P := fun d (s : Str) => s.length ≤ T j ∧ ∀ K st, Tx (K + j + 1) d s st) fun x hx' => text_ok ho (by omega) (hx x hx')
      have h8 := mx_le (j := j + 1) ho
      obtain ⟨r, hr, e⟩ := tx_lst (xs := xs) (ss := ss) (m := T j) (by omega) hT (fun s hs => by obtain ⟨x, _, q⟩ := paired_mem hp s hs; exact q.1) (paired_len hp)
      exact ⟨r, hr, fun K st => .of fun f nm hf => e _ f nm _ (paired_imp (fun d s q => by
        rcases hf with ⟨rfl, _⟩ | ⟨rfl, _⟩
        · exact (q.2 K st).1
        · exact (q.2 K st).2) hp)⟩
    · have h8 := mx_le (j := j + 1) ho
      obtain ⟨ks, e1, l1, q1⟩ := keys_of (kvs := kvs) (P := LW 8) fun kv hk => (hx kv hk).1
      have pm : (sortS ks).Perm ks := List.mergeSort_perm ..
      obtain ⟨ss, hp⟩ := choose_all (xs := sortS ks) (P := fun (n : Str) (s : Str) => s.length ≤ T j ∧ ∃ v, getK kvs (.inr n) = some v ∧ ∀ K st, Tx (K + j + 1) v s st) fun x hx' => by
        obtain ⟨_, v, g, kv, hk, rfl⟩ := q1 x (pm.mem_iff.mp hx')
        obtain ⟨s, a, b⟩ := text_ok ho (by omega) (hx kv hk).2
        exact ⟨s, a, kv.2, g, b⟩
      obtain ⟨r, hr, e⟩ := tx_dct (ss := ss) (m := T j) e1 (by omega) hT (fun s hs => (q1 s hs).1.1) (fun s hs => by obtain ⟨x, _, q⟩ := paired_mem hp s hs; exact q.1)
      exact ⟨r, hr, fun K st => .of fun f nm hf => e _ f nm _ (paired_imp (fun d s q => by
        obtain ⟨_, v, g, t⟩ := q
        refine ⟨v, g, ?_⟩
        rcases hf with ⟨rfl, _⟩ | ⟨rfl, _⟩
        · exact (t K st).1
        · exact (t K st).2) hp)⟩
end K01
set_option maxHeartbeats 400000
namespace K01
open PySem PySem.Spec PyProof.Rows L2 TM
def Bk : Nat → Nat
  | 0 => 12
  | j + 1 => mx 1 (j + 1) * (Bk j + 10)
theorem Bk_mono : ∀ j, j ≤ 4 → Bk j ≤ Bk (j + 1)
  | 0, _ => by decide
  | 1, _ => by decide
  | 2, _ => by decide
  | 3, _ => by decide
  | 4, _ => by decide
/-- a datum that repr shows -/
structure Sh (p : PyData) (b k : Nat) : Prop where
  sh : p.showable = true
  lv : p.leavesShort 11 = true
  bk : p.bulk ≤ b
  dp : p.depth ≤ k
theorem Sh.mono {p : PyData} {b k b' k' : Nat} (h : Sh p b k) (hb : b ≤ b') (hk : k ≤ k') : Sh p b' k' := ⟨h.sh, h.lv, Nat.le_trans h.bk hb, Nat.le_trans h.dp hk⟩
theorem log_of {i : Int} (hi : i.natAbs ≤ 1000000000) : i.natAbs.log2 < 1920 := by
  by_cases z : i.natAbs = 0
  · rw [z]; decide
  · have : i.natAbs.log2 < 30 := (Nat.log2_lt z).mpr (by have : (2 : Nat) ^ 30 = 1073741824 := (by decide); omega)
    omega
theorem shL {b k : Nat} : ∀ {xs : List D}, (∀ x ∈ xs, ∃ p, x.pyr = some p ∧ Sh p b k) → ∃ ps, D.pyrL xs = some ps ∧ PyData.showableAll ps = true ∧ PyData.leavesShortAll 11 ps = true ∧ PyData.bulkAll ps ≤ xs.length * (b + 1) ∧ PyData.depthAll ps ≤ k
  | [], _ => ⟨[], rfl, rfl, rfl, Nat.zero_le _, Nat.zero_le _⟩
  | x :: xs, h => by
    obtain ⟨p, e, s⟩ := h x List.mem_cons_self
    obtain ⟨ps, e1, s1, l1, b1, d1⟩ := shL (xs := xs) fun y hy => h y (List.mem_cons_of_mem _ hy)
    refine ⟨p :: ps, by simp only [D.pyrL, e, e1], by simp only [PyData.showableAll, s.sh, s1, Bool.and_self], by simp only [PyData.leavesShortAll, s.lv, l1, Bool.and_self], ?_, ?_⟩
    · have := s.bk
      simp only [PyData.bulkAll, List.length_cons, Nat.add_mul]
      omega
    · have := s.dp
      simp only [PyData.depthAll]
      omega
theorem shK {b k : Nat} : ∀ {xs : List (Key × D)}, (∀ x ∈ xs, (∃ s, x.1 = .inr s ∧ LW 8 s) ∧ ∃ p, x.2.pyr = some p ∧ Sh p b k) → 0 < k → ∃ ps, D.pyrK xs = some ps ∧ PyData.showableKv ps = true ∧ PyData.leavesShortKv 11 ps = true ∧ PyData.bulkKv ps ≤ xs.length * (b + 10) ∧ PyData.depthKv ps ≤ k
  | [], _, _ => ⟨[], rfl, rfl, rfl, Nat.zero_le _, Nat.zero_le _⟩
  | (n, x) :: xs, h, hk => by
    obtain ⟨⟨w, ew, lw⟩, p, e, s⟩ := h (n, x) List.mem_cons_self
    obtain ⟨ps, e1, s1, l1, b1, d1⟩ := shK (xs := xs) (fun y hy => h y (List.mem_cons_of_mem _ hy)) hk
    dsimp only at ew e
    subst ew
    have hsz : w.cps.size = w.length := rfl
    have hw : PyData.leavesShort 11 (.str w) = true := by
      simp only [PyData.leavesShort, List.all_eq_true, decide_eq_true_eq]
      exact lw.2
    refine ⟨(.str w, p) :: ps, by simp only [D.pyrK, D.pyrKP, e, e1, keyPy], by simp only [PyData.showableKv, PyData.showable, s.sh, s1, Bool.and_self], by simp only [PyData.leavesShortKv, hw, s.lv, l1, Bool.and_self], ?_, ?_⟩
    · have := s.bk
      have := lw.1
      simp only [PyData.bulkKv, PyData.bulk, List.length_cons, Nat.add_mul, hsz]
      omega
    · have := s.dp
      simp only [PyData.depthKv, PyData.depth]
      omega
theorem Sc.sh {d : D} (h : Sc d) : ∃ p, d.pyr = some p ∧ Sh p 12 1 := by
  rcases h with ⟨b, rfl⟩ | ⟨i, rfl, hi⟩ | ⟨s, rfl, hs, hc⟩
  · exact ⟨.bool b, rfl, rfl, rfl, Nat.zero_le _, by simp only [PyData.depth]; omega⟩
  · exact ⟨.int i, rfl, by simp only [PyData.showable, decide_eq_true_eq]; exact log_of hi, by simp only [PyData.leavesShort, PyData.shown]; exact decide_eq_true (int_len hi), Nat.zero_le _, by simp only [PyData.depth]; omega⟩
  · exact ⟨.str s, rfl, rfl, by simp only [PyData.leavesShort, List.all_eq_true, decide_eq_true_eq]; exact hc, hs, by simp only [PyData.depth]; omega⟩
theorem V.sh {o : Nat} (ho : o ≤ 1) : ∀ {j : Nat} {d : D}, j ≤ 5 → V o j d → ∃ p, d.pyr = some p ∧ Sh p (Bk j) (j + 2)
  | 0, d, _, h => by
    rcases h with h | ⟨_, rfl | rfl⟩
    · obtain ⟨p, e, s⟩ := h.sh
      exact ⟨p, e, s.mono (Nat.le_refl _) (by omega)⟩
    · exact ⟨.list [], rfl, rfl, rfl, Nat.zero_le _, by decide⟩
    · exact ⟨.dict [], rfl, rfl, rfl, Nat.zero_le _, by decide⟩
  | j + 1, d, hj, h => by
    have hm : mx o (j + 1) ≤ mx 1 (j + 1) := by unfold mx; split <;> omega
    rcases h with h | ⟨xs, rfl, hl, hx⟩ | ⟨kvs, rfl, hl, hx⟩
    · obtain ⟨p, e, s⟩ := V.sh ho (by omega) h
      exact ⟨p, e, s.mono (Bk_mono j (by omega)) (by omega)⟩
    · obtain ⟨ps, e, s1, l1, b1, d1⟩ := shL (xs := xs) fun x h => V.sh ho (by omega) (hx x h)
      refine ⟨.list ps, by simp only [D.pyr, e, Option.map], by simpa only [PyData.showable] using s1, by simpa only [PyData.leavesShort] using l1, ?_, by simp only [PyData.depth]; omega⟩
      simp only [PyData.bulk, Bk]
      have h1 : xs.length * (Bk j + 1) ≤ mx 1 (j + 1) * (Bk j + 10) := Nat.mul_le_mul (by omega) (by omega)
      omega
    · obtain ⟨ps, e, s1, l1, b1, d1⟩ := shK (xs := kvs) (fun x h => ⟨(hx x h).1, V.sh ho (by omega) (hx x h).2⟩) (by omega)
      refine ⟨.dict ps, by simp only [D.pyr, e, Option.map], by simpa only [PyData.showable] using s1, by simpa only [PyData.leavesShort] using l1, ?_, by simp only [PyData.depth]; omega⟩
      simp only [PyData.bulk, Bk]
      have h1 : kvs.length * (Bk j + 10) ≤ mx 1 (j + 1) * (Bk j + 10) := Nat.mul_le_mul (by omega) (by omega)
      omega
theorem repr_of {d : D} {p : PyData} {b k : Nat} {st : Store} (e : pyrOf d st = some p) (s : Sh p b k) (hb : b ≤ 1000000) (hk : k ≤ 20) : ∃ r, D.reprD d st = some r := by
  refine ⟨p.shown, ?_⟩
  unfold D.reprD
  rw [e]
  have h := PyData.shown_fits_bulk (B := 11) (by decide) (by decide) s.lv (Nat.le_trans s.bk (by have : (2 : Nat) ^ 20 = 1048576 := (by decide); omega))
  have h2 := s.dp
  show (if _ then _ else _) = _
  rw [if_pos (by rw [s.sh]; simp [h]; omega)]
end K01
set_option maxHeartbeats 400000
namespace K01
open PySem PySem.Spec PyProof.Rows L2 TM
theorem shp_int {a : Int} : SeqAt.shaped (PyData.int a) = true := by simp [SeqAt.shaped, PyData.canLay0, PyData.depth]
theorem shp_bl {a : Bool} : SeqAt.shaped (PyData.bool a) = true := by simp [SeqAt.shaped, PyData.canLay0, PyData.depth]
theorem eq_int {a b : Int} {st : Store} : cmpD .Eq (.int a) (.int b) st = some (decide (a = b)) := by
  show (if (SeqAt.shaped (PyData.int a) && SeqAt.shaped (PyData.int b)) = true then some (PyData.eqv (.int a) (.int b)) else none) = _
  rw [if_pos (by rw [shp_int, shp_int]; rfl)]
  simp only [PyData.eqv]
  congr 1
theorem eq_bl {a b : Bool} {st : Store} : cmpD .Eq (.bl a) (.bl b) st = some (decide (a = b)) := by
  show (if (SeqAt.shaped (PyData.bool a) && SeqAt.shaped (PyData.bool b)) = true then some (PyData.eqv (.bool a) (.bool b)) else none) = _
  rw [if_pos (by rw [shp_bl, shp_bl]; rfl)]
  simp only [PyData.eqv]
  congr 1
theorem ne_bl {a b : Bool} {st : Store} : cmpD .NotEq (.bl a) (.bl b) st = some (!decide (a = b)) := by
  show (cmpD .Eq (.bl a) (.bl b) st).map (!·) = _
  rw [eq_bl]
  rfl
theorem eq_str {a b : Str} {st : Store} : cmpD .Eq (.str a) (.str b) st = some (decide (a = b)) := rfl
theorem ne_str {a b : Str} {st : Store} : cmpD .NotEq (.str a) (.str b) st = some (!decide (a = b)) := rfl
theorem lt_int {a b : Int} {st : Store} : cmpD .Lt (.int a) (.int b) st = some (decide (a < b)) := rfl
theorem gt_int {a b : Int} {st : Store} : cmpD .Gt (.int a) (.int b) st = some (decide (b < a)) := rfl
theorem V.up {o j : Nat} {d : D} (h : V o j d) : V o (j + 1) d := .inl h
theorem pow_ten (k : Nat) (hk : k ≤ 20) {st : Store} : opD .Pow (.int 10) (.int k) st = .ok (.int (10 ^ k)) st := by
  have := opD_pow (a := 10) (b := k) (st := st) (by omega) (by
    have e : Builtin.Int.intBits 10 = 4 := by decide +kernel
    have e27 : (2 : Int) ^ 27 = 134217728 := by decide
    rw [e, e27]
    omega)
  simpa using this
def ifT : CS → List CS
  | .iff _ t _ => t
  | _ => []
/-- the slots of a value's making -/
abbrev asl (n : Nat) (dep kind : Int) : Slots := [some (.loc n), some (.int dep), some (.int kind), none, none, none, none, none, none, none]
/-- a scalar is made -/
theorem scal_ok {K n : Nat} {dep kind : Int} {st : Store} (hK : 3 ≤ K) (hs : SS st n) (sl : Slots) (hsl : sl = asl n dep kind) (hc : dep = 1 ∨ kind < 4) : ∃ d st', evS (C K) (b__law_any_value.getD 1 .pass) sl st = .ret d st' ∧ Sc d ∧ SS st' n ∧ Fr n st st' := by
  subst hsl
  obtain ⟨r, st1, e1, r0, r1, s1, f1⟩ := draw_at (K := K) (by omega) hs (size := 1000000000) (by omega) (by omega)
  obtain ⟨x, hx, st2, e2, s2, f2⟩ := choose_at (K := K) (xs := [.int 1000000000, .int (-1000000000), .int 999999999, .int 0, .int 7, .int (-1), .int (-90), .int r]) (by omega) s1 (by simp) (by simp)
  have hx' : ∃ i : Int, x = .int i ∧ i.natAbs ≤ 1000000000 := by
    simp only [List.mem_cons, List.not_mem_nil, or_false] at hx
    rcases hx with rfl | rfl | rfl | rfl | rfl | rfl | rfl | rfl <;> exact ⟨_, rfl, by omega⟩
  obtain ⟨i, rfl, hi⟩ := hx'
  obtain ⟨k, rfl⟩ : ∃ k, K = k + 3 := ⟨K - 3, by omega⟩
  obtain ⟨w1, st3, e3, l1, s3, f3⟩ := word_ok (k := k) (m := 12) s2 (by omega) (by omega)
  obtain ⟨w2, st4, e4, l2, s4, f4⟩ := word_ok (k := k) (m := 4) s3 (by omega) (by omega)
  obtain ⟨y, hy, st5, e5, s5, f5⟩ := choose_at (K := k + 3) (xs := [.int i, .int i, .bl true, .bl false, .str w1, .str w2]) (by omega) s4 (by simp) (by simp)
  refine ⟨y, st5, ?_, ?_, s5, (((f1.trans f2).trans f3).trans f4).trans f5⟩
  · have c1 : evE (C (k + 3)) (.or_ (.cmp .Eq (.var 1) (.int 1)) (.cmp .Lt (.var 2) (.int 4))) (asl n dep kind) st = .ok (.bl true) st := by
      rw [x_or]
      have q : evE (C (k + 3)) (.cmp .Eq (.var 1) (.int 1)) (asl n dep kind) st = .ok (.bl (decide (dep = 1))) st := by
        show ofO ((cmpD .Eq (.int dep) (.int 1) st).map D.bl) st = _
        rw [eq_int]
        rfl
      rw [q, Res.bind_ok]
      by_cases hd : dep = 1
      · rw [decide_eq_true hd]
        rfl
      · rw [decide_eq_false hd]
        show ofO ((cmpD .Lt (.int kind) (.int 4) st).map D.bl) st = _
        rw [lt_int, decide_eq_true (hc.resolve_left hd)]
        rfl
    have c2 : evS (C (k + 3)) (b__law_any_value.getD 1 .pass) (asl n dep kind) st = evSs (C (k + 3)) (ifT (b__law_any_value.getD 1 .pass)) (asl n dep kind) st := by
      show evS (C (k + 3)) (.iff (.or_ (.cmp .Eq (.var 1) (.int 1)) (.cmp .Lt (.var 2) (.int 4))) (ifT (b__law_any_value.getD 1 .pass)) []) (asl n dep kind) st = _
      rw [x_iff, x_tru, c1]
      rfl
    rw [c2]
    have p9 : ∀ st, opD .Pow (.int 10) (.int 9) st = .ok (.int 1000000000) st := fun st => pow_ten 9 (by omega)
    have a1 : evS (C (k + 3)) ((ifT (b__law_any_value.getD 1 .pass)).getD 0 .pass) (asl n dep kind) st = .next [some (.loc n), some (.int dep), some (.int kind), none, none, none, none, some (.lst [.int 1000000000, .int (-1000000000), .int 999999999, .int 0, .int 7, .int (-1), .int (-90), .int r]), none, none] st1 := by
      simp [b__law_any_value, ifT, asl, p9, e1, opD_sub, mkL, asgT]
    have a2 : evS (C (k + 3)) ((ifT (b__law_any_value.getD 1 .pass)).getD 1 .pass) [some (.loc n), some (.int dep), some (.int kind), none, none, none, none, some (.lst [.int 1000000000, .int (-1000000000), .int 999999999, .int 0, .int 7, .int (-1), .int (-90), .int r]), none, none] st1 = .next [some (.loc n), some (.int dep), some (.int kind), none, none, none, none, some (.lst [.int 1000000000, .int (-1000000000), .int 999999999, .int 0, .int 7, .int (-1), .int (-90), .int r]), some (.int i), none] st2 := by
      simp [b__law_any_value, ifT, e2, asgT]
    have a3 : evS (C (k + 3)) ((ifT (b__law_any_value.getD 1 .pass)).getD 2 .pass) [some (.loc n), some (.int dep), some (.int kind), none, none, none, none, some (.lst [.int 1000000000, .int (-1000000000), .int 999999999, .int 0, .int 7, .int (-1), .int (-90), .int r]), some (.int i), none] st2 = .ret y st5 := by
      have e3' : C (k + 3) 6 [.loc n, .int 12] st2 = .ok (.str w1) st3 := e3
      have e4' : C (k + 3) 6 [.loc n, .int 4] st3 = .ok (.str w2) st4 := e4
      simp [b__law_any_value, ifT, e3', e4', e5, mkL]
    exact (evSs_cons a1).trans ((evSs_cons a2).trans (evSs_ret a3))
  · simp only [List.mem_cons, List.not_mem_nil, or_false] at hy
    rcases hy with rfl | rfl | rfl | rfl | rfl | rfl
    · exact .inr (.inl ⟨i, rfl, hi⟩)
    · exact .inr (.inl ⟨i, rfl, hi⟩)
    · exact .inl ⟨_, rfl⟩
    · exact .inl ⟨_, rfl⟩
    · exact .inr (.inr ⟨_, rfl, l1⟩)
    · exact .inr (.inr ⟨_, rfl, ⟨by have := l2.1; omega, l2.2⟩⟩)
end K01
set_option maxHeartbeats 400000
namespace K01
open PySem PySem.Spec PyProof.Rows L2 TM
theorem Sc.V {o : Nat} {d : D} (h : Sc d) : ∀ j, V o j d
  | 0 => .inl h
  | j + 1 => .inl (Sc.V h j)
theorem V.le {o i : Nat} {d : D} (h : V o i d) : ∀ {j : Nat}, i ≤ j → V o j d := fun {j} hj => by
  obtain ⟨k, rfl⟩ : ∃ k, j = i + k := ⟨j - i, by omega⟩
  clear hj
  induction k with
  | zero => exact h
  | succ k ih => exact .inl ih
/-- a dict's pairs -/
def Kv (o j : Nat) (kvs : List (Key × D)) : Prop := ∀ kv ∈ kvs, (∃ s, kv.1 = .inr s ∧ LW 8 s) ∧ V o j kv.2
theorem Kv.put {o j : Nat} {kvs : List (Key × D)} {s : Str} {v : D} (h : Kv o j kvs) (hs : LW 8 s) (hv : V o j v) : Kv o j (putKD kvs (.inr s) v) ∧ (putKD kvs (.inr s) v).length ≤ kvs.length + 1 := by
  unfold putKD
  split
  · refine ⟨fun kv hk => ?_, by simp⟩
    obtain ⟨p, hp, rfl⟩ := List.mem_map.mp hk
    obtain ⟨a, b⟩ := h p hp
    by_cases e : p.1 = .inr s
    · rw [if_pos e]
      exact ⟨a, hv⟩
    · rw [if_neg e]
      exact ⟨a, b⟩
  · refine ⟨fun kv hk => ?_, by simp⟩
    rcases List.mem_append.mp hk with hk | hk
    · exact h kv hk
    · rw [List.mem_singleton] at hk
      subst hk
      exact ⟨⟨s, rfl, hs⟩, hv⟩
theorem SS.of_keep {n m : Nat} {st : Store} {c : Cell} (h : SS st n) (hm : m ≠ n) : SS (setC st m c) n := by
  obtain ⟨a, b, e, q⟩ := h
  exact ⟨a, b, (List.getElem?_set_ne hm).trans e, q⟩
theorem Fr.set {n m : Nat} {st st' : Store} {c : Cell} (h : Fr n st st') (hm : st.length ≤ m) : Fr n st (setC st' m c) :=
  ⟨by unfold setC; rw [List.length_set]; exact h.len, fun i h1 h2 => (List.getElem?_set_ne (by omega)).trans (h.keep i h1 h2)⟩
abbrev keyE : CE := .call 4 "_law_choose" [(.var 0), (.lst false [(.str "a"), (.str "zzzzzzzz"), (.str "zz"), (.str "b"), (.op .Add (.call 6 "_law_word" [(.var 0), (.int 7)]) (.str "c"))])]
theorem key_ok {k n : Nat} {st : Store} {sl : Slots} (h0 : sl[0]? = some (some (.loc n))) (hs : SS st n) : ∃ s st', evE (C (k + 3)) keyE sl st = .ok (.str s) st' ∧ LW 8 s ∧ SS st' n ∧ Fr n st st' := by
  obtain ⟨w, st1, e1, l1, s1, f1⟩ := word_ok (k := k) (m := 7) hs (by omega) (by omega)
  have e1' : C (k + 3) 6 [.loc n, .int 7] st = .ok (.str w) st1 := e1
  have qc : (Str.ofString "c").length = 1 := by decide +kernel
  have lc : LW 8 (w ++ Str.ofString "c") := by
    refine ⟨by rw [strLen_append, qc]; have := l1.1; omega, fun c hc => ?_⟩
    have e : (w ++ Str.ofString "c").cps.toList = w.cps.toList ++ (Str.ofString "c").cps.toList := by rw [Str.cps_append, Array.toList_append]
    rw [e, List.mem_append] at hc
    rcases hc with hc | hc
    · exact l1.2 c hc
    · exact (show ∀ c ∈ (Str.ofString "c").cps.toList, c < 16 ^ 8 by decide +kernel) c hc
  obtain ⟨x, hx, st2, e2, s2, f2⟩ := choose_at (K := k + 3) (xs := [.str "a", .str "zzzzzzzz", .str "zz", .str "b", .str (w ++ Str.ofString "c")]) (by omega) s1 (by simp) (by simp)
  have hx' : ∃ s, x = .str s ∧ LW 8 s := by
    simp only [List.mem_cons, List.not_mem_nil, or_false] at hx
    rcases hx with rfl | rfl | rfl | rfl | rfl
    · exact ⟨_, rfl, by decide +kernel, by decide +kernel⟩
    · exact ⟨_, rfl, by decide +kernel, by decide +kernel⟩
    · exact ⟨_, rfl, by decide +kernel, by decide +kernel⟩
    · exact ⟨_, rfl, by decide +kernel, by decide +kernel⟩
    · exact ⟨_, rfl, lc⟩
  obtain ⟨s, rfl, ls⟩ := hx'
  refine ⟨s, st2, ?_, ls, s2, f1.trans f2⟩
  have oc : ∀ st, opD .Add (.str w) (.str "c") st = .ok (.str (w ++ Str.ofString "c")) st := fun st => opD_str (by rw [qc, sizeLine_eq]; have := l1.1; omega)
  simp [keyE, h0, e1', oc, e2, mkL]
/-- the filling of a dict -/
theorem fill_ok {k n m j N : Nat} {s0 : Store} (hmn : m ≠ n) (hm0 : s0.length ≤ m) (hN : N ≤ 100) : ∀ (items : List D) (a : Int) (b c e : Option D) (q : Option D) (st : Store) (kvs : List (Key × D)), (∀ x ∈ items, V 0 j x) → SS st n → Fr n s0 st → st[m]? = some (.dct kvs) → Kv 0 j kvs → kvs.length + items.length ≤ N →
    ∃ q' st' kvs', forLoop none (frF (.name 6) (evSs (C (k + 3)) [.setI (.var 5) keyE (.var 6)])) items [some (.loc n), some (.int a), b, c, e, some (.loc m), q, none, none, none] st = .next [some (.loc n), some (.int a), b, c, e, some (.loc m), q', none, none, none] st' ∧ SS st' n ∧ Fr n s0 st' ∧ st'[m]? = some (.dct kvs') ∧ Kv 0 j kvs' ∧ kvs'.length ≤ N
  | [], a, b, c, e, q, st, kvs, hx, hs, hf, hk, hv, hl => ⟨q, st, kvs, by rw [forLoop]; exact if_pos rfl, hs, hf, hk, hv, by simpa using hl⟩
  | x :: xs, a, b, c, e, q, st, kvs, hx, hs, hf, hk, hv, hl => by
    obtain ⟨s, st1, e1, l1, s1, f1⟩ := key_ok (k := k) (sl := [some (.loc n), some (.int a), b, c, e, some (.loc m), some x, none, none, none]) rfl hs
    have hml : m < st.length := (List.getElem?_eq_some_iff.mp hk).1
    have hk1 : st1[m]? = some (.dct kvs) := (f1.keep m hmn hml).trans hk
    obtain ⟨v1, v2⟩ := hv.put l1 (hx x List.mem_cons_self)
    rw [List.length_cons] at hl
    obtain ⟨q', st', kvs', e2, r⟩ := fill_ok hmn hm0 hN xs a b c e (some x) (setC st1 m (.dct (putKD kvs (.inr s) x))) (putKD kvs (.inr s) x) (fun y hy => hx y (List.mem_cons_of_mem _ hy)) (SS.of_keep s1 hmn) (Fr.set (hf.trans f1) hm0) (List.getElem?_set_self (Nat.lt_of_lt_of_le hml f1.len)) v1 (by omega)
    refine ⟨q', st', kvs', ?_, r⟩
    rw [forLoop, if_pos (show srcOk none st = true from rfl), frF_some (sl' := [some (.loc n), some (.int a), b, c, e, some (.loc m), some x, none, none, none]) rfl]
    have st : evSs (C (k + 3)) [.setI (.var 5) keyE (.var 6)] [some (.loc n), some (.int a), b, c, e, some (.loc m), some x, none, none, none] st = .next [some (.loc n), some (.int a), b, c, e, some (.loc m), some x, none, none, none] (setC st1 m (.dct (putKD kvs (.inr s) x))) := by
      refine (evSs_cons ?_).trans rfl
      rw [x_setI]
      show ((evE (C (k + 3)) keyE [some (.loc n), some (.int a), b, c, e, some (.loc m), some x, none, none, none] st).then _) = _
      rw [e1, Res.then_ok]
      have e3 : setID (.loc m) (.str s) x st1 = some (setC st1 m (.dct (putKD kvs (.inr s) x))) := by
        unfold setID
        dsimp only
        rw [hk1]
        show (if kvs.length < sizeLine then _ else _) = _
        rw [if_pos (by rw [sizeLine_eq]; omega)]
      rw [e3]
    rw [st]
    exact e2
end K01
set_option maxHeartbeats 400000
namespace K01
open PySem PySem.Spec PyProof.Rows L2 TM
abbrev av (i : Nat) : CS := b__law_any_value.getD i .pass
theorem any_ok : ∀ (j : Nat), j ≤ 5 → ∀ (K n : Nat) (st : Store), j + 4 ≤ K → SS st n → ∃ d st', C K 7 [.loc n, .int ((j : Int) + 1)] st = .ok d st' ∧ V 0 j d ∧ SS st' n ∧ Fr n st st' := by
  intro j
  induction j using Nat.strongRecOn with
  | _ j ih =>
  intro hj K n st hK hs
  obtain ⟨k, rfl⟩ : ∃ k, K = k + 3 + 1 := ⟨K - 4, by omega⟩
  obtain ⟨kind, st1, e1, r0, r1, s1, f1⟩ := draw_at (K := k + 3) (by omega) hs (size := 8) (by omega) (by omega)
  rw [show C (k + 3 + 1) 7 [.loc n, .int ((j : Int) + 1)] st = endS (evSs (C (k + 3)) b__law_any_value (slots0 10 [.loc n, .int ((j : Int) + 1)]) st) from evCall_at (F := t__law_any_value.fd) rfl rfl]
  have q0 : evS (C (k + 3)) (av 0) (slots0 10 [.loc n, .int ((j : Int) + 1)]) st = .next (asl n ((j : Int) + 1) kind) st1 := by
    simp [av, b__law_any_value, slots0, e1, asgT, asl]
  have all : b__law_any_value = av 0 :: av 1 :: av 2 :: av 3 :: av 4 :: av 5 :: av 6 :: av 7 :: [av 8] := rfl
  by_cases hc : ((j : Int) + 1 = 1) ∨ kind < 4
  · obtain ⟨d, st2, e2, sc, s2, f2⟩ := scal_ok (K := k + 3) (by omega) s1 _ rfl hc
    refine ⟨d, st2, ?_, Sc.V sc j, s2, f1.trans f2⟩
    rw [all, evSs_cons q0, evSs_ret e2]
    rfl
  have hc1 : ¬ (j : Int) + 1 = 1 := fun z => hc (.inl z)
  have hc2 : ¬ kind < 4 := fun z => hc (.inr z)
  have hj1 : 1 ≤ j := by omega
  have q1 : evS (C (k + 3)) (av 1) (asl n ((j : Int) + 1) kind) st1 = .next (asl n ((j : Int) + 1) kind) st1 := by
    have c1 : evE (C (k + 3)) (.or_ (.cmp .Eq (.var 1) (.int 1)) (.cmp .Lt (.var 2) (.int 4))) (asl n ((j : Int) + 1) kind) st1 = .ok (.bl false) st1 := by
      rw [x_or]
      have q : evE (C (k + 3)) (.cmp .Eq (.var 1) (.int 1)) (asl n ((j : Int) + 1) kind) st1 = .ok (.bl (decide ((j : Int) + 1 = 1))) st1 := by
        show ofO ((cmpD .Eq (.int ((j : Int) + 1)) (.int 1) st1).map D.bl) st1 = _
        rw [eq_int]
        rfl
      rw [q, Res.bind_ok, decide_eq_false hc1]
      show ofO ((cmpD .Lt (.int kind) (.int 4) st1).map D.bl) st1 = _
      rw [lt_int, decide_eq_false hc2]
      rfl
    show evS (C (k + 3)) (.iff (.or_ (.cmp .Eq (.var 1) (.int 1)) (.cmp .Lt (.var 2) (.int 4))) (ifT (av 1)) []) (asl n ((j : Int) + 1) kind) st1 = _
    rw [x_iff, x_tru, c1]
    rfl
  -- the amount
  obtain ⟨r, st2, e2, r20, r21, s2, f2⟩ := draw_at (K := k + 3) (by omega) s1 (size := 4) (by omega) (by omega)
  obtain ⟨x, hx, st3, e3, s3, f3⟩ := choose_at (K := k + 3) (xs := [.int 0, .int 1, .int 1, .int 2, .int 8, .int r]) (by omega) s2 (by simp) (by simp)
  have hx' : ∃ a : Nat, x = .int a ∧ a ≤ 8 := by
    simp only [List.mem_cons, List.not_mem_nil, or_false] at hx
    rcases hx with rfl | rfl | rfl | rfl | rfl | rfl
    · exact ⟨0, rfl, by omega⟩
    · exact ⟨1, rfl, by omega⟩
    · exact ⟨1, rfl, by omega⟩
    · exact ⟨2, rfl, by omega⟩
    · exact ⟨8, rfl, by omega⟩
    · exact ⟨r.toNat, by rw [Int.toNat_of_nonneg r20], by omega⟩
  obtain ⟨a, rfl, ha⟩ := hx'
  have q2 : evS (C (k + 3)) (av 2) (asl n ((j : Int) + 1) kind) st1 = .next [some (.loc n), some (.int ((j : Int) + 1)), some (.int kind), some (.int a), none, none, none, none, none, none] st3 := by
    simp [av, b__law_any_value, asl, e2, e3, asgT, mkL]
  -- at most two
  obtain ⟨b, hb, hb3, q3⟩ : ∃ b : Nat, b ≤ 8 ∧ (3 ≤ j → b ≤ 2) ∧ evS (C (k + 3)) (av 3) [some (.loc n), some (.int ((j : Int) + 1)), some (.int kind), some (.int a), none, none, none, none, none, none] st3 = .next [some (.loc n), some (.int ((j : Int) + 1)), some (.int kind), some (.int b), none, none, none, none, none, none] st3 := by
    have c3 : evE (C (k + 3)) (.cmp .Gt (.var 1) (.int 3)) [some (.loc n), some (.int ((j : Int) + 1)), some (.int kind), some (.int a), none, none, none, none, none, none] st3 = .ok (.bl (decide ((3 : Int) < (j : Int) + 1))) st3 := rfl
    by_cases h3 : (3 : Int) < (j : Int) + 1
    · refine ⟨min a 2, by omega, fun _ => by omega, ?_⟩
      show evS (C (k + 3)) (.iff (.cmp .Gt (.var 1) (.int 3)) [(.asg (.name 3) (.bi .min [(.var 3), (.int 2)]))] []) _ st3 = _
      rw [x_iff, x_tru, c3, decide_eq_true h3]
      have e : (if (2 : Int) < (a : Int) then (2 : Int) else (a : Int)) = ((min a 2 : Nat) : Int) := by
        split <;> omega
      show evSs (C (k + 3)) [(.asg (.name 3) (.bi .min [(.var 3), (.int 2)]))] [some (.loc n), some (.int ((j : Int) + 1)), some (.int kind), some (.int a), none, none, none, none, none, none] st3 = _
      have he : evE (C (k + 3)) (.bi .min [(.var 3), (.int 2)]) [some (.loc n), some (.int ((j : Int) + 1)), some (.int kind), some (.int a), none, none, none, none, none, none] st3 = .ok (.int ((min a 2 : Nat) : Int)) st3 := by
        rw [← e]
        rfl
      have hs : evS (C (k + 3)) (.asg (.name 3) (.bi .min [(.var 3), (.int 2)])) [some (.loc n), some (.int ((j : Int) + 1)), some (.int kind), some (.int a), none, none, none, none, none, none] st3 = .next [some (.loc n), some (.int ((j : Int) + 1)), some (.int kind), some (.int ((min a 2 : Nat) : Int)), none, none, none, none, none, none] st3 := by
        rw [x_asg, he]
        rfl
      exact (evSs_cons hs).trans rfl
    · refine ⟨a, ha, fun z => absurd (show (3 : Int) < (j : Int) + 1 by omega) h3, ?_⟩
      show evS (C (k + 3)) (.iff (.cmp .Gt (.var 1) (.int 3)) [(.asg (.name 3) (.bi .min [(.var 3), (.int 2)]))] []) _ st3 = _
      rw [x_iff, x_tru, c3, decide_eq_false h3]
      rfl
  -- the parts
  let sl : Slots := [some (.loc n), some (.int ((j : Int) + 1)), some (.int kind), some (.int b), none, none, none, none, none, none]
  let pe : CE := .call 7 "_law_any_value" [(.var 0), (.op .Sub (.op .Sub (.var 1) (.int 1)) (.op .Mult (.call 3 "_law_draw" [(.var 0), (.int 2)]) (.bi .int [(.cmp .Gt (.var 1) (.int 2))])))]
  obtain ⟨vs, st4, e4, ⟨s4, f4⟩, l4, p4⟩ := lc_walk (src := none) (f := lcF (evTs (C (k + 3)) []) (evE (C (k + 3)) pe) (.name 9) [9] sl) (P := fun st => SS st n ∧ Fr n st3 st) (Q := fun _ v => V 0 (j - 1) v) (fun _ _ => rfl)
    ((List.range b).map fun (i : Nat) => D.int (0 + (i : Int))) [] st3 (fun d hd st ⟨p1, p2⟩ => by
      obtain ⟨r, st5, e5, r50, r51, s5, f5⟩ := draw_at (K := k + 3) (by omega) p1 (size := 2) (by omega) (by omega)
      let bb : Bool := decide ((2 : Int) < (j : Int) + 1)
      have hi : ∃ i : Nat, i < j ∧ ((j : Int) + 1 - 1 - r * b2z bb) = (i : Int) + 1 := by
        by_cases h2 : (2 : Int) < (j : Int) + 1
        · refine ⟨((j : Int) - r - 1).toNat, by omega, ?_⟩
          have : b2z bb = 1 := by simp [bb, h2, b2z]
          rw [this]
          omega
        · refine ⟨j - 1, by omega, ?_⟩
          have : b2z bb = 0 := by simp [bb, h2, b2z]
          rw [this]
          omega
      obtain ⟨i, hij, ei⟩ := hi
      obtain ⟨v, st6, e6, v6, s6, f6⟩ := ih i hij (by omega) (k + 3) n st5 (by omega) s5
      refine ⟨v, st6, ?_, ⟨s6, (p2.trans f5).trans f6⟩, v6.le (by omega)⟩
      have m1 : ∀ st, opD .Mult (.int r) (.int (b2z bb)) st = .ok (.int (r * b2z bb)) st := fun st => opD_mul (by
        have h1 := log_small r50 (by omega)
        have h2 : (b2z bb).natAbs.log2 = 0 := by cases bb <;> decide
        omega)
      rw [lcF_name (by simp [sl])]
      have ep : evE (C (k + 3)) pe ((wipeD sl [9]).set 9 (some d)) st = .ok v st6 := by
        have d1 : evE (C (k + 3)) (.op .Sub (.var 1) (.int 1)) ((wipeD sl [9]).set 9 (some d)) st = .ok (.int ((j : Int) + 1 - 1)) st := rfl
        have d2 : evE (C (k + 3)) (.call 3 "_law_draw" [(.var 0), (.int 2)]) ((wipeD sl [9]).set 9 (some d)) st = .ok (.int r) st5 := e5
        have d3 : evE (C (k + 3)) (.bi .int [(.cmp .Gt (.var 1) (.int 2))]) ((wipeD sl [9]).set 9 (some d)) st5 = .ok (.int (b2z bb)) st5 := rfl
        have d4 : evE (C (k + 3)) (.op .Mult (.call 3 "_law_draw" [(.var 0), (.int 2)]) (.bi .int [(.cmp .Gt (.var 1) (.int 2))])) ((wipeD sl [9]).set 9 (some d)) st = .ok (.int (r * b2z bb)) st5 := by
          rw [x_op, d2, Res.bind_ok, d3, Res.bind_ok, m1]
        have d5 : evE (C (k + 3)) (.op .Sub (.op .Sub (.var 1) (.int 1)) (.op .Mult (.call 3 "_law_draw" [(.var 0), (.int 2)]) (.bi .int [(.cmp .Gt (.var 1) (.int 2))]))) ((wipeD sl [9]).set 9 (some d)) st = .ok (.int ((i : Int) + 1)) st5 := by
          rw [x_op, d1, Res.bind_ok, d4, Res.bind_ok, opD_sub, ei]
        have d0 : evE (C (k + 3)) (.var 0) ((wipeD sl [9]).set 9 (some d)) st = .ok (.loc n) st := rfl
        have d6 : evEs (C (k + 3)) [(.var 0), (.op .Sub (.op .Sub (.var 1) (.int 1)) (.op .Mult (.call 3 "_law_draw" [(.var 0), (.int 2)]) (.bi .int [(.cmp .Gt (.var 1) (.int 2))])))] ((wipeD sl [9]).set 9 (some d)) st = .ok [.loc n, .int ((i : Int) + 1)] st5 := by
          rw [x_cons, d0, Res.bind_ok, x_cons, d5, Res.bind_ok, x_nil]
          rfl
        rw [x_call, d6]
        exact e6
      rw [ep]
      rfl) ⟨s3, Fr.refl n st3⟩ (by rw [sizeLine_eq]; simp; omega)
  rw [List.nil_append] at e4
  have lv : vs.length = b := by simpa using l4
  have hvs : ∀ x ∈ vs, V 0 (j - 1) x := fun x hx => by
    obtain ⟨_, _, q⟩ := paired_mem p4 x hx
    exact q
  have q4 : evS (C (k + 3)) (av 4) sl st3 = .next [some (.loc n), some (.int ((j : Int) + 1)), some (.int kind), some (.int b), some (.lst vs), none, none, none, none, none] st4 := by
    show evS (C (k + 3)) (.asgLc 4 (.lc false [("turn", 9)] (.name 9) (.rng [.var 3]) [] pe)) sl st3 = _
    have hI : evI (C (k + 3)) (.rng [.var 3]) sl st3 = .ok ⟨none, (List.range b).map fun (i : Nat) => D.int (0 + (i : Int))⟩ st3 := evI_rng (by omega) rfl
    rw [x_asgLc, evE_lc, hI, Res.bind_ok]
    show (((lcLoop none (lcF (evTs (C (k + 3)) []) (evE (C (k + 3)) pe) (.name 9) [9] sl) ((List.range b).map fun (i : Nat) => D.int (0 + (i : Int))) [] st3).bind _).then _) = _
    rw [e4]
    rfl
  have hmx : b ≤ mx 0 j := by
    unfold mx
    split
    · exact hb
    · exact hb3 (by omega)
  have fr4 : Fr n st st4 := ((f1.trans f2).trans f3).trans f4
  obtain ⟨j', rfl⟩ : ∃ j', j = j' + 1 := ⟨j - 1, by omega⟩
  rw [show j' + 1 - 1 = j' by omega] at hvs
  have c5 : evE (C (k + 3)) (.cmp .Lt (.var 2) (.int 6)) [some (.loc n), some (.int (((j' + 1 : Nat) : Int) + 1)), some (.int kind), some (.int b), some (.lst vs), none, none, none, none, none] st4 = .ok (.bl (decide (kind < 6))) st4 := rfl
  by_cases h6 : kind < 6
  · refine ⟨.lst vs, st4, ?_, .inr (.inl ⟨vs, rfl, by omega, hvs⟩), s4, fr4⟩
    have q5 : evS (C (k + 3)) (av 5) [some (.loc n), some (.int (((j' + 1 : Nat) : Int) + 1)), some (.int kind), some (.int b), some (.lst vs), none, none, none, none, none] st4 = .ret (.lst vs) st4 := by
      show evS (C (k + 3)) (.iff (.cmp .Lt (.var 2) (.int 6)) [(.ret (.var 4))] []) _ st4 = _
      rw [x_iff, x_tru, c5, decide_eq_true h6]
      rfl
    rw [all, evSs_cons q0, evSs_cons q1, evSs_cons q2, evSs_cons q3, evSs_cons q4, evSs_ret q5]
    rfl
  · have q5 : evS (C (k + 3)) (av 5) [some (.loc n), some (.int (((j' + 1 : Nat) : Int) + 1)), some (.int kind), some (.int b), some (.lst vs), none, none, none, none, none] st4 = .next [some (.loc n), some (.int (((j' + 1 : Nat) : Int) + 1)), some (.int kind), some (.int b), some (.lst vs), none, none, none, none, none] st4 := by
      show evS (C (k + 3)) (.iff (.cmp .Lt (.var 2) (.int 6)) [(.ret (.var 4))] []) _ st4 = _
      rw [x_iff, x_tru, c5, decide_eq_false h6]
      rfl
    let m := st4.length
    let st5 : Store := st4 ++ [.dct []]
    have q6 : evS (C (k + 3)) (av 6) [some (.loc n), some (.int (((j' + 1 : Nat) : Int) + 1)), some (.int kind), some (.int b), some (.lst vs), none, none, none, none, none] st4 = .next [some (.loc n), some (.int (((j' + 1 : Nat) : Int) + 1)), some (.int kind), some (.int b), some (.lst vs), some (.loc m), none, none, none, none] st5 := rfl
    have hn4 : n < st4.length := by
      obtain ⟨_, _, e, _⟩ := s4
      exact (List.getElem?_eq_some_iff.mp e).1
    have s5 : SS st5 n := by
      obtain ⟨x, y, e, q⟩ := s4
      exact ⟨x, y, (List.getElem?_append_left hn4).trans e, q⟩
    have f5 : Fr n st4 st5 := ⟨by simp [st5], fun i h1 h2 => List.getElem?_append_left h2⟩
    have hm5 : st5[m]? = some (.dct []) := by simp [st5, m]
    obtain ⟨p', st6, kvs, e7, s7, f7, g7, kv7, l7⟩ := fill_ok (k := k) (n := n) (m := m) (j := j') (N := b) (s0 := st4) (by omega) (Nat.le_refl _) (by omega) vs (((j' + 1 : Nat) : Int) + 1) (some (.int kind)) (some (.int b)) (some (.lst vs)) none st5 [] hvs s5 f5 hm5 (fun kv h => absurd h List.not_mem_nil) (by simp [lv])
    have q7 : evS (C (k + 3)) (av 7) [some (.loc n), some (.int (((j' + 1 : Nat) : Int) + 1)), some (.int kind), some (.int b), some (.lst vs), some (.loc m), none, none, none, none] st5 = .next [some (.loc n), some (.int (((j' + 1 : Nat) : Int) + 1)), some (.int kind), some (.int b), some (.lst vs), some (.loc m), p', none, none, none] st6 := e7
    have q8 : evS (C (k + 3)) (av 8) [some (.loc n), some (.int (((j' + 1 : Nat) : Int) + 1)), some (.int kind), some (.int b), some (.lst vs), some (.loc m), p', none, none, none] st6 = .ret (.dct kvs) (setC st6 m .dead) := by
      show ((frzD (.loc m) st6).then fun d st1 => RS.ret d st1) = _
      unfold frzD
      dsimp only
      rw [g7]
      rfl
    refine ⟨.dct kvs, setC st6 m .dead, ?_, .inr (.inr ⟨kvs, rfl, by omega, kv7⟩), SS.of_keep s7 (by omega), ?_⟩
    · rw [all, evSs_cons q0, evSs_cons q1, evSs_cons q2, evSs_cons q3, evSs_cons q4, evSs_cons q5, evSs_cons q6, evSs_cons q7, evSs_ret q8]
      rfl
    · exact fr4.trans (Fr.set f7 (Nat.le_refl _))
end K01
set_option maxHeartbeats 400000
namespace K01
open PySem PySem.Spec PyProof.Rows L2 TM
abbrev ov (i : Nat) : CS := b__law_other.getD i .pass
abbrev osl (n : Nat) (d : D) : Slots := [some (.loc n), some d, none, none, none, none]
theorem V.one : ∀ {j : Nat} {d : D}, V 0 j d → V 1 j d
  | 0, d, h => h.elim .inl fun z => absurd z.1 (by omega)
  | j + 1, d, h => by
    have hm : mx 0 (j + 1) ≤ mx 1 (j + 1) := by unfold mx; split <;> omega
    rcases h with h | ⟨xs, rfl, hl, hx⟩ | ⟨kvs, rfl, hl, hx⟩
    · exact .inl (V.one h)
    · exact .inr (.inl ⟨xs, rfl, by omega, fun x h => V.one (hx x h)⟩)
    · exact .inr (.inr ⟨kvs, rfl, by omega, fun x h => ⟨(hx x h).1, V.one (hx x h).2⟩⟩)
theorem opD_rep {c : Bool} {st : Store} : opD .Mult (.lst [.int 0]) (.int (b2z c)) st = .ok (.lst (if c then [.int 0] else [])) st := by
  have h : -(2 ^ 63) ≤ b2z c ∧ b2z c < 2 ^ 63 ∧ [D.int 0].length * (b2z c).toNat ≤ sizeLine := by
    have h1 : 0 ≤ b2z c ∧ b2z c ≤ 1 := by cases c <;> decide
    refine ⟨by omega, by omega, ?_⟩
    rw [sizeLine_eq]
    simp
    omega
  show (if _ then _ else _) = _
  rw [if_pos h]
  cases c <;> rfl
theorem merge_ok {o j : Nat} : ∀ (es : List (Key × D)) {ds : List (Key × D)}, Kv o j ds → Kv o j es → Kv o j (mergeD ds es) ∧ (mergeD ds es).length ≤ ds.length + es.length
  | [], ds, h, _ => ⟨h, Nat.le_refl _⟩
  | (k, v) :: es, ds, h, h' => by
    obtain ⟨⟨s, e, l⟩, hv⟩ := h' (k, v) List.mem_cons_self
    dsimp only at e hv
    subst e
    obtain ⟨p1, p2⟩ := h.put l hv
    obtain ⟨m1, m2⟩ := merge_ok es p1 fun kv hk => h' kv (List.mem_cons_of_mem _ hk)
    refine ⟨m1, ?_⟩
    show (mergeD (putKD ds (.inr s) v) es).length ≤ _
    rw [List.length_cons]
    omega
theorem pairs_ok {o j : Nat} : ∀ {vs : List D}, (∀ x ∈ vs, ∃ s v, x = .tup [.str s, v] ∧ LW 8 s ∧ V o j v) → ∃ kvs, pairsD vs = some kvs ∧ kvs.length = vs.length ∧ Kv o j kvs
  | [], _ => ⟨[], rfl, rfl, fun kv h => absurd h List.not_mem_nil⟩
  | x :: vs, h => by
    obtain ⟨s, v, rfl, l, hv⟩ := h x List.mem_cons_self
    obtain ⟨kvs, e, ln, q⟩ := pairs_ok (vs := vs) fun y hy => h y (List.mem_cons_of_mem _ hy)
    refine ⟨(.inr s, v) :: kvs, ?_, by simp [ln], fun kv hk => ?_⟩
    · simp only [pairsD, keyOf, e]
    · rcases List.mem_cons.mp hk with rfl | hk
      · exact ⟨⟨s, rfl, l⟩, hv⟩
      · exact q kv hk
/-- behind the two tests -/
theorem leaf_ok {k n : Nat} {d : D} {st : Store} (hK : 2 ≤ k) (hs : SS st n) : ∃ d' st', evSs (C k) [ov 2, ov 3] (osl n d) st = .ret d' st' ∧ (d' = d ∨ V 1 0 d') ∧ SS st' n ∧ Fr n st st' := by
  obtain ⟨r, st1, e1, r0, r1, s1, f1⟩ := draw_at (K := k) (by omega) hs (size := 6) (by omega) (by omega)
  have c : evE (C k) (.cmp .Gt (.call 3 "_law_draw" [(.var 0), (.int 6)]) (.int 0)) (osl n d) st = .ok (.bl (decide (0 < r))) st1 := by
    have d2 : evE (C k) (.call 3 "_law_draw" [(.var 0), (.int 6)]) (osl n d) st = .ok (.int r) st1 := e1
    rw [x_cmp, d2]
    rfl
  by_cases h : 0 < r
  · refine ⟨d, st1, ?_, .inl rfl, s1, f1⟩
    have q : evS (C k) (ov 2) (osl n d) st = .ret d st1 := by
      show evS (C k) (.iff (.cmp .Gt (.call 3 "_law_draw" [(.var 0), (.int 6)]) (.int 0)) [(.ret (.var 1))] []) (osl n d) st = _
      rw [x_iff, x_tru, c, decide_eq_true h]
      rfl
    exact evSs_ret q
  · have q : evS (C k) (ov 2) (osl n d) st = .next (osl n d) st1 := by
      show evS (C k) (.iff (.cmp .Gt (.call 3 "_law_draw" [(.var 0), (.int 6)]) (.int 0)) [(.ret (.var 1))] []) (osl n d) st = _
      rw [x_iff, x_tru, c, decide_eq_false h]
      rfl
    obtain ⟨x, hx, st2, e2, s2, f2⟩ := choose_at (K := k) (xs := [.bl true, .int 1, .int 0, .bl false, .str "", .str "a", .lst [], .dct [], .int 2]) (by omega) s1 (by simp) (by simp)
    refine ⟨x, st2, ?_, .inr ?_, s2, f1.trans f2⟩
    · have q3 : evS (C k) (ov 3) (osl n d) st1 = .ret x st2 := by
        have e2' : evE (C k) (.call 4 "_law_choose" [(.var 0), (.lst false [(.bl true), (.int 1), (.int 0), (.bl false), (.str ""), (.str "a"), (.lst false []), (.dct false []), (.int 2)])]) (osl n d) st1 = .ok x st2 := by
          have d1 : evE (C k) (.lst false [(.bl true), (.int 1), (.int 0), (.bl false), (.str ""), (.str "a"), (.lst false []), (.dct false []), (.int 2)]) (osl n d) st1 = .ok (.lst [.bl true, .int 1, .int 0, .bl false, .str "", .str "a", .lst [], .dct [], .int 2]) st1 := by
            simp [mkL, mkK]
          have d0 : evE (C k) (.var 0) (osl n d) st1 = .ok (.loc n) st1 := rfl
          rw [x_call, x_cons, d0, Res.bind_ok, x_cons, d1, Res.bind_ok, x_nil]
          exact e2
        show evS (C k) (.ret _) (osl n d) st1 = _
        rw [x_ret, e2']
        rfl
      rw [evSs_cons q, evSs_ret q3]
    · simp only [List.mem_cons, List.not_mem_nil, or_false] at hx
      rcases hx with rfl | rfl | rfl | rfl | rfl | rfl | rfl | rfl | rfl
      · exact .inl (.inl ⟨_, rfl⟩)
      · exact .inl (.inr (.inl ⟨_, rfl, by decide⟩))
      · exact .inl (.inr (.inl ⟨_, rfl, by decide⟩))
      · exact .inl (.inl ⟨_, rfl⟩)
      · exact .inl (.inr (.inr ⟨_, rfl, by decide +kernel, by decide +kernel⟩))
      · exact .inl (.inr (.inr ⟨_, rfl, by decide +kernel, by decide +kernel⟩))
      · exact .inr ⟨rfl, .inl rfl⟩
      · exact .inr ⟨rfl, .inr rfl⟩
      · exact .inl (.inr (.inl ⟨_, rfl, by decide⟩))
theorem other_ok : ∀ (j : Nat), j ≤ 5 → ∀ (d : D), V 0 j d → ∀ (K n : Nat) (st : Store), j + 3 ≤ K → SS st n → ∃ d' st', C K 8 [.loc n, d] st = .ok d' st' ∧ V 1 j d' ∧ SS st' n ∧ Fr n st st'
  | 0, _, d, h, K, n, st, hK, hs => by
    have sc : Sc d := h.elim id fun z => absurd z.1 (by omega)
    obtain ⟨k, rfl⟩ : ∃ k, K = k + 1 := ⟨K - 1, by omega⟩
    obtain ⟨d', st', e, hd, s', f'⟩ := leaf_ok (k := k) (d := d) (by omega) hs
    refine ⟨d', st', ?_, ?_, s', f'⟩
    · have n1 : isinD d [.list] st = some false := by
        rcases sc with ⟨b, rfl⟩ | ⟨i, rfl, _⟩ | ⟨s, rfl, _⟩ <;> rfl
      have n2 : isinD d [.dict] st = some false := by
        rcases sc with ⟨b, rfl⟩ | ⟨i, rfl, _⟩ | ⟨s, rfl, _⟩ <;> rfl
      have z0 : evS (C k) (ov 0) (osl n d) st = .next (osl n d) st := skip (i := 1) rfl n1
      have z1 : evS (C k) (ov 1) (osl n d) st = .next (osl n d) st := skip (i := 1) rfl n2
      rw [show C (k + 1) 8 [.loc n, d] st = endS (evSs (C k) [ov 0, ov 1, ov 2, ov 3] (osl n d) st) from evCall_at (F := t__law_other.fd) rfl rfl, evSs_cons z0, evSs_cons z1, e]
      rfl
    · rcases hd with rfl | hd
      · exact V.one h
      · exact hd
  | j + 1, hj, d, h, K, n, st, hK, hs => by
    obtain ⟨k, rfl⟩ : ∃ k, K = k + 1 := ⟨K - 1, by omega⟩
    have ih := other_ok j (by omega)
    rcases h with h | ⟨xs, rfl, hl, hx⟩ | ⟨kvs, rfl, hl, hx⟩
    · obtain ⟨d', st', e, v, s', f'⟩ := ih d h (k + 1) n st (by omega) hs
      exact ⟨d', st', e, .inl v, s', f'⟩
    · have h8 := mx_le (o := 0) (j := j + 1) (by omega)
      obtain ⟨vs, st1, e1, ⟨s1, f1⟩, l1, p1⟩ := lc_walk (src := none) (f := lcF (evTs (C k) []) (evE (C k) (.call 8 "_law_other" [(.var 0), (.var 4)])) (.name 4) [4] (osl n (.lst xs))) (P := fun st' => SS st' n ∧ Fr n st st') (Q := fun _ v => V 1 j v) (fun _ _ => rfl) xs [] st (fun d hd st2 ⟨p1, p2⟩ => by
        obtain ⟨v, st3, e, hv, s3, f3⟩ := ih d (hx d hd) k n st2 (by omega) p1
        refine ⟨v, st3, ?_, ⟨s3, p2.trans f3⟩, hv⟩
        rw [lcF_name (by simp)]
        have e' : evE (C k) (.call 8 "_law_other" [(.var 0), (.var 4)]) ((wipeD (osl n (.lst xs)) [4]).set 4 (some d)) st2 = .ok v st3 := e
        rw [e']
        rfl) ⟨hs, Fr.refl n st⟩ (by rw [sizeLine_eq]; simp; omega)
      rw [List.nil_append] at e1
      have q1 : evS (C k) ((ifT (ov 0)).getD 0 .pass) (osl n (.lst xs)) st = .next [some (.loc n), some (.lst xs), some (.lst vs), none, none, none] st1 := by
        show evS (C k) (.asgLc 2 (.lc false [("part", 4)] (.name 4) (.e (.var 1)) [] (.call 8 "_law_other" [(.var 0), (.var 4)]))) (osl n (.lst xs)) st = _
        have hI : evI (C k) (.e (.var 1)) (osl n (.lst xs)) st = .ok ⟨none, xs⟩ st := rfl
        rw [x_asgLc, evE_lc, hI, Res.bind_ok]
        show (((lcLoop none (lcF (evTs (C k) []) (evE (C k) (.call 8 "_law_other" [(.var 0), (.var 4)])) (.name 4) [4] (osl n (.lst xs))) xs [] st).bind _).then _) = _
        rw [e1]
        rfl
      -- one more part, perhaps
      obtain ⟨c, st2, ec, hc, s2, f2⟩ : ∃ (c : Bool) (st2 : Store), evE (C k) (.and_ (.cmp .Lt (.bi .len [(.var 2)]) (.int 8)) (.cmp .Eq (.call 3 "_law_draw" [(.var 0), (.int 6)]) (.int 0))) [some (.loc n), some (.lst xs), some (.lst vs), none, none, none] st1 = .ok (.bl c) st2 ∧ (c = true → vs.length < 8) ∧ SS st2 n ∧ Fr n st1 st2 := by
        have c1 : evE (C k) (.cmp .Lt (.bi .len [(.var 2)]) (.int 8)) [some (.loc n), some (.lst xs), some (.lst vs), none, none, none] st1 = .ok (.bl (decide ((vs.length : Int) < 8))) st1 := rfl
        by_cases h : (vs.length : Int) < 8
        · obtain ⟨r, st2, e2, _, _, s2, f2⟩ := draw_at (K := k) (by omega) s1 (size := 6) (by omega) (by omega)
          refine ⟨decide (r = 0), st2, ?_, fun _ => by omega, s2, f2⟩
          have d2 : evE (C k) (.call 3 "_law_draw" [(.var 0), (.int 6)]) [some (.loc n), some (.lst xs), some (.lst vs), none, none, none] st1 = .ok (.int r) st2 := e2
          have d3 : evE (C k) (.cmp .Eq (.call 3 "_law_draw" [(.var 0), (.int 6)]) (.int 0)) [some (.loc n), some (.lst xs), some (.lst vs), none, none, none] st1 = .ok (.bl (decide (r = 0))) st2 := by
            rw [x_cmp, d2]
            show ofO ((cmpD .Eq (.int r) (.int 0) st2).map D.bl) st2 = _
            rw [eq_int]
            rfl
          rw [x_and, c1, decide_eq_true h, Res.bind_ok]
          exact d3
        · refine ⟨false, st1, ?_, fun z => (by cases z), s1, Fr.refl n st1⟩
          rw [x_and, c1, decide_eq_false h]
          rfl
      have q2 : evS (C k) ((ifT (ov 0)).getD 1 .pass) [some (.loc n), some (.lst xs), some (.lst vs), none, none, none] st1 = .ret (.lst (vs ++ (if c then [.int 0] else []))) st2 := by
        show evS (C k) (.ret (.op .Add (.var 2) (.op .Mult (.lst false [(.int 0)]) (.bi .int [(.and_ (.cmp .Lt (.bi .len [(.var 2)]) (.int 8)) (.cmp .Eq (.call 3 "_law_draw" [(.var 0), (.int 6)]) (.int 0)))])))) [some (.loc n), some (.lst xs), some (.lst vs), none, none, none] st1 = _
        have d1 : evE (C k) (.lst false [(.int 0)]) [some (.loc n), some (.lst xs), some (.lst vs), none, none, none] st1 = .ok (.lst [.int 0]) st1 := by
          simp [mkL]
        have d2 : evE (C k) (.bi .int [(.and_ (.cmp .Lt (.bi .len [(.var 2)]) (.int 8)) (.cmp .Eq (.call 3 "_law_draw" [(.var 0), (.int 6)]) (.int 0)))]) [some (.loc n), some (.lst xs), some (.lst vs), none, none, none] st1 = .ok (.int (b2z c)) st2 := by
          rw [x_bi, x_cons, ec]
          rfl
        have d3 : evE (C k) (.var 2) [some (.loc n), some (.lst xs), some (.lst vs), none, none, none] st1 = .ok (.lst vs) st1 := rfl
        rw [x_ret, x_op, d3, Res.bind_ok, x_op, d1, Res.bind_ok, d2, Res.bind_ok, opD_rep, Res.bind_ok, opD_lst (by rw [sizeLine_eq]; split <;> simp <;> omega)]
        rfl
      refine ⟨.lst (vs ++ (if c then [.int 0] else [])), st2, ?_, .inr (.inl ⟨_, rfl, ?_, fun y hy => ?_⟩), s2, f1.trans f2⟩
      · have q0 : evS (C k) (ov 0) (osl n (.lst xs)) st = .ret (.lst (vs ++ (if c then [.int 0] else []))) st2 := by
          refine (take (i := 1) (d := .lst xs) rfl rfl : evS (C k) (ov 0) (osl n (.lst xs)) st = evSs (C k) (ifT (ov 0)) (osl n (.lst xs)) st).trans ?_
          exact (evSs_cons q1).trans (evSs_ret q2)
        rw [show C (k + 1) 8 [.loc n, .lst xs] st = endS (evSs (C k) [ov 0, ov 1, ov 2, ov 3] (osl n (.lst xs)) st) from evCall_at (F := t__law_other.fd) rfl rfl, evSs_ret q0]
        rfl
      · rw [List.length_append]
        unfold mx at hl ⊢
        have hcl : (if c then [D.int 0] else []).length ≤ 1 ∧ ((if c then [D.int 0] else []).length = 1 → vs.length < 8) := by
          cases c with
          | false => exact ⟨by simp, fun z => by simp at z⟩
          | true => exact ⟨by simp, fun _ => hc rfl⟩
        by_cases h2 : j + 1 ≤ 2
        · rw [if_pos h2] at hl ⊢
          by_cases h3 : (if c then [D.int 0] else []).length = 1
          · have := hcl.2 h3
            omega
          · have := hcl.1
            omega
        · rw [if_neg h2] at hl ⊢
          have := hcl.1
          omega
      · rcases List.mem_append.mp hy with hy | hy
        · obtain ⟨_, _, q⟩ := paired_mem p1 y hy
          exact q
        · cases c with
          | false => exact absurd hy List.not_mem_nil
          | true =>
            rw [if_pos rfl, List.mem_singleton] at hy
            subst hy
            exact Sc.V (.inr (.inl ⟨0, rfl, by decide⟩)) j
    · have h8 := mx_le (o := 0) (j := j + 1) (by omega)
      have hmx : mx 0 (j + 1) ≤ mx 1 (j + 1) := by unfold mx; split <;> omega
      obtain ⟨ks, ek, lk, qk⟩ := keys_of (kvs := kvs) (P := LW 8) fun kv hk => (hx kv hk).1
      let L : List D := kvs.map fun kv => ofKey kv.1
      have hL : ∀ x ∈ L, ∃ s, x = .str s ∧ LW 8 s ∧ ∃ v, getK kvs (.inr s) = some v ∧ V 0 j v := fun x hx' => by
        obtain ⟨kv, hk, rfl⟩ := List.mem_map.mp hx'
        obtain ⟨s, es, ls⟩ := (hx kv hk).1
        refine ⟨s, by rw [es]; rfl, ls, ?_⟩
        have : s ∈ ks := by
          have gen : ∀ (kvs : List (Key × D)) (ks : List Str), inrs (kvs.map (·.1)) = some ks → ∀ kv ∈ kvs, kv.1 = .inr s → s ∈ ks := fun kvs => by
            induction kvs with
            | nil => exact fun ks _ kv h => absurd h List.not_mem_nil
            | cons p kvs ih =>
              intro ks e kv h es
              obtain ⟨pk, pv⟩ := p
              cases pk with
              | inl i => exact nomatch (show (none : Option (List Str)) = some ks from e)
              | inr w =>
                have e' : (inrs (kvs.map (·.1))).map (w :: ·) = some ks := e
                rw [Option.map_eq_some_iff] at e'
                obtain ⟨r, er, rfl⟩ := e'
                rcases List.mem_cons.mp h with rfl | h
                · cases es
                  exact List.mem_cons_self
                · exact List.mem_cons_of_mem _ (ih r er kv h es)
          exact gen kvs ks ek kv hk es
        obtain ⟨_, v, g, kv', hk', rfl⟩ := qk s this
        exact ⟨kv'.2, g, (hx kv' hk').2⟩
      obtain ⟨r, st1, e1, r0, r1, s1, f1⟩ := draw_at (K := k) (by omega) hs (size := 2) (by omega) (by omega)
      obtain ⟨L', hL', q1⟩ : ∃ L' : List D, (L' = L ∨ L' = L.reverse) ∧ evS (C k) ((ifT (ov 1)).getD 0 .pass) (osl n (.dct kvs)) st = .next [some (.loc n), some (.dct kvs), none, some (.lst L'), none, none] st1 := by
        have d1 : evE (C k) (.bi .list [(.var 1)]) (osl n (.dct kvs)) st = .ok (.lst L) st := rfl
        have d2 : evE (C k) (.lst false [(.int 1), (.op .Sub (.int 0) (.int 1))]) (osl n (.dct kvs)) st = .ok (.lst [.int 1, .int (-1)]) st := by
          simp [mkL, opD_sub]
        have d3 : evE (C k) (.call 3 "_law_draw" [(.var 0), (.int 2)]) (osl n (.dct kvs)) st = .ok (.int r) st1 := e1
        have hr : r = 0 ∨ r = 1 := by omega
        rcases hr with rfl | rfl
        · refine ⟨L, .inl rfl, ?_⟩
          show evS (C k) (.asg (.name 3) (.slx (.bi .list [(.var 1)]) (.idx (.lst false [(.int 1), (.op .Sub (.int 0) (.int 1))]) (.call 3 "_law_draw" [(.var 0), (.int 2)])))) (osl n (.dct kvs)) st = _
          have d4 : evE (C k) (.idx (.lst false [(.int 1), (.op .Sub (.int 0) (.int 1))]) (.call 3 "_law_draw" [(.var 0), (.int 2)])) (osl n (.dct kvs)) st = .ok (.int 1) st1 := by
            rw [x_idx, d2, Res.bind_ok, d3]
            rfl
          rw [x_asg, x_slx, d1, Res.bind_ok, d4]
          rfl
        · refine ⟨L.reverse, .inr rfl, ?_⟩
          show evS (C k) (.asg (.name 3) (.slx (.bi .list [(.var 1)]) (.idx (.lst false [(.int 1), (.op .Sub (.int 0) (.int 1))]) (.call 3 "_law_draw" [(.var 0), (.int 2)])))) (osl n (.dct kvs)) st = _
          have d4 : evE (C k) (.idx (.lst false [(.int 1), (.op .Sub (.int 0) (.int 1))]) (.call 3 "_law_draw" [(.var 0), (.int 2)])) (osl n (.dct kvs)) st = .ok (.int (-1)) st1 := by
            rw [x_idx, d2, Res.bind_ok, d3]
            rfl
          rw [x_asg, x_slx, d1, Res.bind_ok, d4]
          rfl
      have hl' : L'.length = kvs.length := by
        rcases hL' with rfl | rfl <;> simp [L]
      have hLm : ∀ x ∈ L', x ∈ L := fun x h => by
        rcases hL' with rfl | rfl
        · exact h
        · exact List.mem_reverse.mp h
      let sl3 : Slots := [some (.loc n), some (.dct kvs), none, some (.lst L'), none, none]
      let pe : CE := .tup [(.var 5), (.call 8 "_law_other" [(.var 0), (.idx (.var 1) (.var 5))])]
      obtain ⟨vs, st2, e2, ⟨s2, f2⟩, l2, p2⟩ := lc_walk (src := none) (f := lcF (evTs (C k) []) (evE (C k) pe) (.name 5) [5] sl3) (P := fun st' => SS st' n ∧ Fr n st1 st') (Q := fun _ v => ∃ s w, v = .tup [.str s, w] ∧ LW 8 s ∧ V 1 j w) (fun _ _ => rfl) L' [] st1 (fun d hd st2 ⟨p1, p2⟩ => by
        obtain ⟨s, rfl, ls, v, g, hv⟩ := hL d (hLm d hd)
        obtain ⟨w, st3, e, hw, s3, f3⟩ := ih v hv k n st2 (by omega) p1
        refine ⟨.tup [.str s, w], st3, ?_, ⟨s3, p2.trans f3⟩, s, w, rfl, ls, hw⟩
        rw [lcF_name (by simp [sl3])]
        have d0 : evE (C k) (.var 0) ((wipeD sl3 [5]).set 5 (some (.str s))) st2 = .ok (.loc n) st2 := rfl
        have d5 : evE (C k) (.var 5) ((wipeD sl3 [5]).set 5 (some (.str s))) st2 = .ok (.str s) st2 := rfl
        have d1 : evE (C k) (.idx (.var 1) (.var 5)) ((wipeD sl3 [5]).set 5 (some (.str s))) st2 = .ok v st2 := by
          show ofO (getK kvs (.inr s)) st2 = _
          rw [g]
          rfl
        have d2 : evE (C k) (.call 8 "_law_other" [(.var 0), (.idx (.var 1) (.var 5))]) ((wipeD sl3 [5]).set 5 (some (.str s))) st2 = .ok w st3 := by
          rw [x_call, x_cons, d0, Res.bind_ok, x_cons, d1, Res.bind_ok, x_nil]
          exact e
        have d3 : evE (C k) pe ((wipeD sl3 [5]).set 5 (some (.str s))) st2 = .ok (.tup [.str s, w]) st3 := by
          rw [x_tup, x_cons, d5, Res.bind_ok, x_cons, d2, Res.bind_ok, x_nil, Res.bind_ok, Res.bind_ok, Res.bind_ok, x_fit (by simp)]
        rw [d3]
        rfl) ⟨s1, Fr.refl n st1⟩ (by rw [sizeLine_eq]; simp; omega)
      rw [List.nil_append] at e2
      obtain ⟨kvs', ep, lp, qp⟩ := pairs_ok (o := 1) (j := j) (vs := vs) fun y hy => by
        obtain ⟨_, _, q⟩ := paired_mem p2 y hy
        exact q
      obtain ⟨m1, m2⟩ := merge_ok (o := 1) (j := j) kvs' (ds := []) (fun kv h => absurd h List.not_mem_nil) qp
      have q2 : evS (C k) ((ifT (ov 1)).getD 1 .pass) sl3 st1 = .ret (.dct (mergeD [] kvs')) st2 := by
        show evS (C k) (.ret (.bi .dict [(.lc false [("name", 5)] (.name 5) (.e (.var 3)) [] pe)])) sl3 st1 = _
        have hI : evI (C k) (.e (.var 3)) sl3 st1 = .ok ⟨none, L'⟩ st1 := rfl
        have hlc : evE (C k) (.lc false [("name", 5)] (.name 5) (.e (.var 3)) [] pe) sl3 st1 = .ok (.lst vs) st2 := by
          rw [evE_lc, hI, Res.bind_ok]
          show ((lcLoop none (lcF (evTs (C k) []) (evE (C k) pe) (.name 5) [5] sl3) L' [] st1).bind _) = _
          rw [e2]
          rfl
        rw [x_ret, x_bi, x_cons, hlc, Res.bind_ok, x_nil, Res.bind_ok, Res.bind_ok]
        show ((match pairsD vs with
          | some kvs => Res.ok (D.dct (mergeD [] kvs)) st2
          | none => .stuck).then fun d st1 => RS.ret d st1) = _
        rw [ep]
        rfl
      refine ⟨.dct (mergeD [] kvs'), st2, ?_, .inr (.inr ⟨_, rfl, ?_, m1⟩), s2, f1.trans f2⟩
      · have z0 : evS (C k) (ov 0) (osl n (.dct kvs)) st = .next (osl n (.dct kvs)) st := skip (i := 1) (d := .dct kvs) rfl rfl
        have z1 : evS (C k) (ov 1) (osl n (.dct kvs)) st = .ret (.dct (mergeD [] kvs')) st2 := by
          refine (take (i := 1) (d := .dct kvs) rfl rfl : evS (C k) (ov 1) (osl n (.dct kvs)) st = evSs (C k) (ifT (ov 1)) (osl n (.dct kvs)) st).trans ?_
          exact (evSs_cons q1).trans (evSs_ret q2)
        rw [show C (k + 1) 8 [.loc n, .dct kvs] st = endS (evSs (C k) [ov 0, ov 1, ov 2, ov 3] (osl n (.dct kvs)) st) from evCall_at (F := t__law_other.fd) rfl rfl, evSs_cons z0, evSs_ret z1]
        rfl
      · rw [List.length_nil] at m2
        omega
end K01
set_option maxHeartbeats 400000
namespace K01
open PySem PySem.Spec PyProof.Rows L2 TM
theorem bits_abs {x : Int} {k : Nat} (h : x.natAbs < 2 ^ k) : Builtin.Int.intBits x ≤ k := by
  unfold Builtin.Int.intBits
  split
  · omega
  · rename_i hb
    have hb' : x.natAbs ≠ 0 := by simpa using hb
    have := (Nat.log2_lt hb').mpr h
    omega
theorem abs_bits {x : Int} {k : Nat} (h : Builtin.Int.intBits x ≤ k) : x.natAbs < 2 ^ k := by
  unfold Builtin.Int.intBits at h
  split at h
  · rename_i hb
    have hb' : x.natAbs = 0 := by simpa using hb
    rw [hb']
    exact Nat.two_pow_pos k
  · rename_i hb
    have hb' : x.natAbs ≠ 0 := by simpa using hb
    exact (Nat.log2_lt hb').mp (by omega)
theorem sum_bits {a z : Int} {k : Nat} (hk : 48 ≤ k) (ha : a.natAbs < 2 ^ 48) (hz : z.natAbs < 2 ^ k) : (a + z).natAbs < 2 ^ (k + 1) := by
  have h1 : 2 ^ 48 ≤ 2 ^ k := Nat.pow_le_pow_right (by decide) hk
  have h2 : (2 : Nat) ^ (k + 1) = 2 ^ k + 2 ^ k := by rw [Nat.pow_succ]; omega
  omega
abbrev stv (i : Nat) : CS := b__law_stream.getD i .pass
abbrev seedE : CE := .op .Add (.op .Mod (.op .Pow (.op .Add (.op .Mult (.var 2) (.int 40127)) (.var 3)) (.int 3)) (.int 2147483629)) (.int 1)
theorem seed_ok {K : Nat} {S : D} {a : Int} {st : Store} : ∀ (ns : List Int) (s : Int) (q : Option D), (∀ z ∈ ns, Builtin.Int.intBits z ≤ 1048576) → 0 ≤ s → s < 4294967296 →
    ∃ s' q', forLoop none (frF (.name 3) (evSs (C K) [.asg (.name 2) seedE])) (ns.map .int) [some S, some (.int a), some (.int s), q, none] st = .next [some S, some (.int a), some (.int s'), q', none] st ∧ 0 ≤ s' ∧ s' < 4294967296
  | [], s, q, _, h0, h1 => ⟨s, q, by rw [List.map_nil, forLoop]; exact if_pos rfl, h0, h1⟩
  | z :: ns, s, q, hz, h0, h1 => by
    have m1 : ∀ st, opD .Mult (.int s) (.int 40127) st = .ok (.int (s * 40127)) st := fun st => opD_mul (by
      have := log_small h0 h1
      have e2 : (40127 : Int).natAbs.log2 = 15 := by decide +kernel
      omega)
    have hb : (s * 40127).natAbs < 2 ^ 48 := by
      have e : (2 : Nat) ^ 48 = 281474976710656 := by decide
      omega
    have p1 : ∀ st, opD .Pow (.int (s * 40127 + z)) (.int 3) st = .ok (.int ((s * 40127 + z) ^ 3)) st := fun st => opD_pow (by decide) (by
      have := bits_abs (sum_bits (k := 1048576) (by decide) hb (abs_bits (hz z List.mem_cons_self)))
      have e27 : (2 : Int) ^ 27 = 134217728 := by decide
      rw [e27]
      omega)
    have hm := fmod_in (a := (s * 40127 + z) ^ 3) (m := 2147483629) (by decide)
    generalize hc : ((s * 40127 + z) ^ 3).fmod 2147483629 = c at hm
    obtain ⟨s', q', e, r⟩ := seed_ok (K := K) (S := S) (a := a) (st := st) ns (c + 1) (some (.int z)) (fun y hy => hz y (List.mem_cons_of_mem _ hy)) (by omega) (by omega)
    refine ⟨s', q', ?_, r⟩
    rw [List.map_cons, forLoop, if_pos (show srcOk none st = true from rfl), frF_some (sl' := [some S, some (.int a), some (.int s), some (.int z), none]) rfl]
    have d1 : evE (C K) seedE [some S, some (.int a), some (.int s), some (.int z), none] st = .ok (.int (c + 1)) st := by
      have v2 : evE (C K) (.var 2) [some S, some (.int a), some (.int s), some (.int z), none] st = .ok (.int s) st := rfl
      have v3 : evE (C K) (.var 3) [some S, some (.int a), some (.int s), some (.int z), none] st = .ok (.int z) st := rfl
      rw [x_op, x_op, x_op, x_op, x_op, v2, Res.bind_ok, x_int, Res.bind_ok, m1, Res.bind_ok, v3, Res.bind_ok, opD_add, Res.bind_ok, x_int, Res.bind_ok, p1, Res.bind_ok, x_int, Res.bind_ok, opD_mod (by decide), Res.bind_ok, x_int, Res.bind_ok, opD_add, hc]
    have d2 : evSs (C K) [.asg (.name 2) seedE] [some S, some (.int a), some (.int s), some (.int z), none] st = .next [some S, some (.int a), some (.int (c + 1)), some (.int z), none] st := by
      refine (evSs_cons ?_).trans rfl
      rw [x_asg, d1]
      rfl
    rw [d2]
    exact e
theorem stream_ok {K a : Nat} {ns : List Int} {st : Store} (ha : a ≤ 100) (hn : ns.length ≤ 63) (hz : ∀ z ∈ ns, Builtin.Int.intBits z ≤ 1048576) : ∃ x y : Int, C (K + 1) 2 [.lst (ns.map .int), .int a] st = .ok (.loc st.length) (st ++ [.lst [.int x, .int y]]) ∧ 0 ≤ x ∧ 0 ≤ y ∧ y < 4294967296 := by
  let S : D := .lst (ns.map .int)
  obtain ⟨s, q, e1, s0, s1⟩ := seed_ok (K := K) (S := S) (a := a) (st := st) ns (13 + a) none hz (by omega) (by omega)
  have q0 : evS (C K) (stv 0) (slots0 5 [S, .int a]) st = .next [some S, some (.int a), some (.int (13 + a)), none, none] st := rfl
  have q1 : evS (C K) (stv 1) [some S, some (.int a), some (.int (13 + a)), none, none] st = .next [some S, some (.int a), some (.int s), q, none] st := e1
  have q2 : evS (C K) (stv 2) [some S, some (.int a), some (.int s), q, none] st = .next [some S, some (.int a), some (.int s), q, some (.int 0)] st := rfl
  obtain ⟨x, x0, q3⟩ : ∃ x : Int, 0 ≤ x ∧ evS (C K) (stv 3) [some S, some (.int a), some (.int s), q, some (.int 0)] st = .next [some S, some (.int a), some (.int s), q, some (.int x)] st := by
    let sl : Slots := [some S, some (.int a), some (.int s), q, some (.int 0)]
    have p18 : ∀ st, opD .Pow (.int 10) (.int 18) st = .ok (.int 1000000000000000000) st := fun st => pow_ten 18 (by omega)
    have c1 : evE (C K) (.cmp .Lt (.var 1) (.bi .len [(.var 0)])) sl st = .ok (.bl (decide ((a : Int) < ((ns.map D.int).length : Nat)))) st := rfl
    have cg : ∀ b : Bool, evE (C K) (.and_ (.cmp .Lt (.var 1) (.bi .len [(.var 0)])) (.cmp .GtE (.idx (.var 0) (.var 1)) (.op .Pow (.int 10) (.int 18)))) sl st = .ok (.bl b) st →
        evS (C K) (stv 3) sl st = if b then evSs (C K) (ifT (stv 3)) sl st else .next sl st := fun b h => by
      show evS (C K) (.iff (.and_ (.cmp .Lt (.var 1) (.bi .len [(.var 0)])) (.cmp .GtE (.idx (.var 0) (.var 1)) (.op .Pow (.int 10) (.int 18)))) (ifT (stv 3)) []) sl st = _
      rw [x_iff, x_tru, h]
      cases b <;> rfl
    by_cases h : (a : Int) < ((ns.map D.int).length : Nat)
    · obtain ⟨d, hd, ed⟩ := atI_of (xs := ns.map D.int) (r := a) (by omega) h
      obtain ⟨z, _, rfl⟩ := List.mem_map.mp hd
      have di : evE (C K) (.idx (.var 0) (.var 1)) sl st = .ok (.int z) st := by
        show ofO (atI (ns.map D.int) a) st = _
        rw [ed]
        rfl
      have dp : evE (C K) (.op .Pow (.int 10) (.int 18)) sl st = .ok (.int 1000000000000000000) st := by
        rw [x_op, x_int, Res.bind_ok, x_int, Res.bind_ok, p18]
      have c2 : evE (C K) (.cmp .GtE (.idx (.var 0) (.var 1)) (.op .Pow (.int 10) (.int 18))) sl st = .ok (.bl (decide ((1000000000000000000 : Int) ≤ z))) st := by
        rw [x_cmp, di, Res.bind_ok, dp]
        rfl
      have c3 : evE (C K) (.and_ (.cmp .Lt (.var 1) (.bi .len [(.var 0)])) (.cmp .GtE (.idx (.var 0) (.var 1)) (.op .Pow (.int 10) (.int 18)))) sl st = .ok (.bl (decide ((1000000000000000000 : Int) ≤ z))) st := by
        rw [x_and, c1, decide_eq_true h, Res.bind_ok]
        exact c2
      by_cases h2 : (1000000000000000000 : Int) ≤ z
      · refine ⟨z - 1000000000000000000, by omega, ?_⟩
        rw [cg _ c3, decide_eq_true h2, if_pos rfl]
        refine (evSs_cons (?_ : evS (C K) ((ifT (stv 3)).getD 0 .pass) sl st = _)).trans rfl
        show evS (C K) (.asg (.name 4) (.op .Sub (.idx (.var 0) (.var 1)) (.op .Pow (.int 10) (.int 18)))) sl st = _
        rw [x_asg, x_op, di, Res.bind_ok, dp, Res.bind_ok, opD_sub]
        rfl
      · refine ⟨0, by omega, ?_⟩
        rw [cg _ c3, decide_eq_false h2]
        rfl
    · refine ⟨0, by omega, ?_⟩
      have c3 : evE (C K) (.and_ (.cmp .Lt (.var 1) (.bi .len [(.var 0)])) (.cmp .GtE (.idx (.var 0) (.var 1)) (.op .Pow (.int 10) (.int 18)))) sl st = .ok (.bl false) st := by
        rw [x_and, c1, decide_eq_false h]
        rfl
      rw [cg _ c3]
      rfl
  refine ⟨x, s, ?_, x0, s0, s1⟩
  have q4 : evS (C K) (stv 4) [some S, some (.int a), some (.int s), q, some (.int x)] st = .ret (.loc st.length) (st ++ [.lst [.int x, .int s]]) := by
    have : evE (C K) (.lst true [(.var 4), (.var 2)]) [some S, some (.int a), some (.int s), q, some (.int x)] st = .ok (.loc st.length) (st ++ [.lst [.int x, .int s]]) := by
      simp [mkL]
    show evS (C K) (.ret (.lst true [(.var 4), (.var 2)])) _ st = _
    rw [x_ret, this]
    rfl
  rw [show C (K + 1) 2 [S, .int a] st = endS (evSs (C K) [stv 0, stv 1, stv 2, stv 3, stv 4] (slots0 5 [S, .int a]) st) from evCall_at (F := t__law_stream.fd) rfl rfl, evSs_cons q0, evSs_cons q1, evSs_cons q2, evSs_cons q3, evSs_ret q4]
  rfl
end K01
set_option maxHeartbeats 400000
namespace K01
open PySem PySem.Spec PyProof.Rows L2 TM
theorem text_at {o j : Nat} {d : D} (ho : o ≤ 1) (hj : j ≤ 5) (h : V o j d) : ∃ s, ∀ (K : Nat) (st : Store), 6 ≤ K → Tx K d s st := by
  obtain ⟨s, _, e⟩ := text_ok ho hj h
  refine ⟨s, fun K st hK => ?_⟩
  have q := e (K - j - 1) st
  rw [show K - j - 1 + j + 1 = K by omega] at q
  exact q
theorem Tx.ext {K K' : Nat} {d : D} {s s' : Str} {st st' : Store} : True := trivial
theorem same_ok {K : Nat} {x y : D} {a b : Str} {st : Store} (hx : Tx K x a st) (hy : Tx K y b st) : C (K + 1) 1 [x, y] st = .ok (.bl (decide (a = b))) st := by
  have d0 : evE (C K) (.call 0 "document" [(.var 0)]) [some x, some y] st = .ok (.str a) st := hx.1
  have d1 : evE (C K) (.call 0 "document" [(.var 1)]) [some x, some y] st = .ok (.str b) st := hy.1
  have q : evSs (C K) b_same [some x, some y] st = .ret (.bl (decide (a = b))) st := by
    refine evSs_ret ?_
    rw [x_ret, x_cmp, d0, Res.bind_ok, d1]
    rfl
  rw [show C (K + 1) 1 [x, y] st = endS (evSs (C K) b_same [some x, some y] st) from evCall_at (F := t_same.fd) rfl rfl, q]
  rfl
theorem py_of {d : D} {p : PyData} {st : Store} (e : d.pyr = some p) : pyrOf d st = some p := by
  cases d <;> first | exact e | exact nomatch (show (none : Option PyData) = some p from e)
theorem repr_V {o j : Nat} {d : D} (ho : o ≤ 1) (hj : j ≤ 5) (h : V o j d) (st : Store) : ∃ r, ∀ st, D.reprD d st = some r := by
  obtain ⟨p, e, s⟩ := V.sh ho hj h
  have hb : ∀ j, j ≤ 5 → Bk j ≤ 40566 := fun j hj => by
    have : j = 0 ∨ j = 1 ∨ j = 2 ∨ j = 3 ∨ j = 4 ∨ j = 5 := by omega
    rcases this with rfl | rfl | rfl | rfl | rfl | rfl <;> decide
  have hb := hb j hj
  obtain ⟨r, er⟩ := repr_of (st := st) (py_of e) s (by omega) (by omega)
  refine ⟨r, fun st' => ?_⟩
  unfold D.reprD at er ⊢
  rw [py_of e] at er ⊢
  exact er
theorem repr_two {j : Nat} {d d' : D} (hj : j ≤ 5) (h : V 0 j d) (h' : V 1 j d') (st : Store) : ∃ r, ∀ st, D.reprD (.tup [d, d']) st = some r := by
  obtain ⟨p, e, s⟩ := V.sh (by omega) hj h
  obtain ⟨p', e', s'⟩ := V.sh (by omega) hj h'
  have hb : ∀ j, j ≤ 5 → Bk j ≤ 40566 := fun j hj => by
    have : j = 0 ∨ j = 1 ∨ j = 2 ∨ j = 3 ∨ j = 4 ∨ j = 5 := by omega
    rcases this with rfl | rfl | rfl | rfl | rfl | rfl <;> decide
  have hb := hb j hj
  have e2 : (D.tup [d, d']).pyr = some (.tuple [p, p']) := by simp only [D.pyr, D.pyrL, e, e', Option.map]
  have h1 := s.bk
  have h2 := s'.bk
  have h3 := s.dp
  have h4 := s'.dp
  have sh : Sh (.tuple [p, p']) 200000 20 := ⟨by simp only [PyData.showable, PyData.showableAll, s.sh, s'.sh, Bool.and_self], by simp only [PyData.leavesShort, PyData.leavesShortAll, s.lv, s'.lv, Bool.and_self], by simp only [PyData.bulk, PyData.bulkAll]; omega, by simp only [PyData.depth, PyData.depthAll]; omega⟩
  obtain ⟨r, er⟩ := repr_of (st := st) (py_of e2) sh (by omega) (by omega)
  refine ⟨r, fun st' => ?_⟩
  unfold D.reprD at er ⊢
  rw [py_of e2] at er ⊢
  exact er
def forB : CS → List CS
  | .for_ _ _ b => b
  | _ => []
abbrev lw : CS := b_law.getD 0 .pass
abbrev inner : CS := (forB lw).getD 1 .pass
abbrev bw (i : Nat) : CS := (forB inner).getD i .pass
abbrev lsl (S : D) (a : Int) (n : Nat) (t : Int) (v s o e : Option D) : Slots := [some S, some (.int a), some (.loc n), some (.int t), v, s, o, e]
theorem ev_repr {cl : Nat → List D → Store → Res D} {x : CE} {d : D} {r : Str} {sl : Slots} {st st' : Store} (h : evE cl x sl st = .ok d st') (hr : D.reprD d st' = some r) : evE cl (.bi .repr [x]) sl st = .ok (.str r) st' := by
  rw [x_bi, x_cons, h, Res.bind_ok, x_nil, Res.bind_ok, Res.bind_ok]
  show ofO ((D.reprD d st').map D.str) st' = _
  rw [hr]
  rfl
theorem ev_or {cl : Nat → List D → Store → Res D} {x y : CE} {sl : Slots} {st : Store} (h : evE cl x sl st = .ok (.bl false) st) (h' : evE cl y sl st = .ok (.bl false) st) : evE cl (.or_ x y) sl st = .ok (.bl false) st := by
  rw [x_or, h]
  exact h'
theorem ev_ne {cl : Nat → List D → Store → Res D} {x y : CE} {a : Str} {sl : Slots} {st : Store} (h : evE cl x sl st = .ok (.str a) st) (h' : evE cl y sl st = .ok (.str a) st) : evE cl (.cmp .NotEq x y) sl st = .ok (.bl false) st := by
  rw [x_cmp, h, Res.bind_ok, h', Res.bind_ok, ne_str, decide_eq_true rfl]
  rfl
theorem ev_iff {cl : Nat → List D → Store → Res D} {x : CE} {t : List CS} {sl : Slots} {st : Store} (h : evE cl x sl st = .ok (.bl false) st) : evS cl (.iff x t []) sl st = .next sl st := by
  rw [x_iff, x_tru, h]
  rfl
/-- one turn -/
theorem turn_ok {K : Nat} (hK : 20 ≤ K) {S : D} {a t : Int} {n : Nat} {v s o e : Option D} {st : Store} (hs : SS st n) :
    ∃ v' s' o' e' st', evSs (C (K + 1)) (forB inner) (lsl S a n t v s o e) st = .next (lsl S a n t v' s' o' e') st' ∧ SS st' n ∧ Fr n st st' := by
  obtain ⟨r, st1, e1, r0, r1, s1, f1⟩ := draw_at (K := K + 1) (by omega) hs (size := 6) (by omega) (by omega)
  obtain ⟨d, st2, e2, v2, s2, f2⟩ := any_ok r.toNat (by omega) (K + 1) n st1 (by omega) s1
  have hr : 1 + r = (r.toNat : Int) + 1 := by omega
  obtain ⟨d', st3, e3, v3, s3, f3⟩ := other_ok r.toNat (by omega) d v2 (K + 1) n st2 (by omega) s2
  obtain ⟨rp, hrp⟩ := repr_V (by omega) (by omega) v2 st2
  obtain ⟨rt, hrt⟩ := repr_two (by omega) v2 v3 st3
  obtain ⟨x, tx⟩ := text_at (by omega) (by omega) v2
  obtain ⟨y, ty⟩ := text_at (by omega) (by omega) v3
  have txa := tx (K + 1) st2 (by omega)
  have txb := tx (K + 1) st3 (by omega)
  have tyb := ty (K + 1) st3 (by omega)
  have sm := same_ok (tx K st3 (by omega)) (ty K st3 (by omega))
  have sm' := same_ok (ty K st3 (by omega)) (tx K st3 (by omega))
  let b : Bool := decide (x = y)
  obtain ⟨rb, hrb⟩ : ∃ r, ∀ st, D.reprD (.bl b) st = some r := repr_V (o := 0) (j := 0) (by omega) (by omega) (.inl (.inl ⟨b, rfl⟩)) st3
  refine ⟨some d, some (.str rt), some d', some (.bl b), st3, ?_, s3, (f1.trans f2).trans f3⟩
  have all : forB inner = [bw 0, bw 1, bw 2, bw 3, bw 4, bw 5, bw 6, bw 7] := rfl
  have q0 : evS (C (K + 1)) (bw 0) (lsl S a n t v s o e) st = .next (lsl S a n t (some d) s o e) st2 := by
    show evS (C (K + 1)) (.asg (.name 4) (.call 7 "_law_any_value" [(.var 2), (.op .Add (.int 1) (.call 3 "_law_draw" [(.var 2), (.int 6)]))])) (lsl S a n t v s o e) st = _
    have d1 : evE (C (K + 1)) (.call 3 "_law_draw" [(.var 2), (.int 6)]) (lsl S a n t v s o e) st = .ok (.int r) st1 := e1
    have d0 : evE (C (K + 1)) (.var 2) (lsl S a n t v s o e) st = .ok (.loc n) st := rfl
    rw [x_asg, x_call, x_cons, d0, Res.bind_ok, x_cons, x_op, x_int, Res.bind_ok, d1, Res.bind_ok, opD_add, Res.bind_ok, x_nil, Res.bind_ok, Res.bind_ok, Res.bind_ok, hr, e2]
    rfl
  have q1 : evS (C (K + 1)) (bw 1) (lsl S a n t (some d) s o e) st2 = .next (lsl S a n t (some d) (some (.str rp)) o e) st2 := by
    show evS (C (K + 1)) (.asg (.name 5) (.bi .repr [(.var 4)])) (lsl S a n t (some d) s o e) st2 = _
    rw [x_asg, ev_repr (d := d) (st' := st2) rfl (hrp st2)]
    rfl
  have q2 : evS (C (K + 1)) (bw 2) (lsl S a n t (some d) (some (.str rp)) o e) st2 = .next (lsl S a n t (some d) (some (.str rp)) o e) st2 := by
    show evS (C (K + 1)) (.iff (.or_ (.cmp .NotEq (.call 0 "document" [(.var 4)]) (.call 5 "_law_text" [(.var 4)])) (.cmp .NotEq (.bi .repr [(.var 4)]) (.var 5))) [(.ret (.bl false))] []) _ st2 = _
    exact ev_iff (ev_or (ev_ne (a := x) txa.1 txa.2) (ev_ne (a := rp) (ev_repr (d := d) rfl (hrp st2)) rfl))
  have q3 : evS (C (K + 1)) (bw 3) (lsl S a n t (some d) (some (.str rp)) o e) st2 = .next (lsl S a n t (some d) (some (.str rp)) (some d') e) st3 := by
    show evS (C (K + 1)) (.asg (.name 6) (.call 8 "_law_other" [(.var 2), (.var 4)])) _ st2 = _
    have d1 : evE (C (K + 1)) (.call 8 "_law_other" [(.var 2), (.var 4)]) (lsl S a n t (some d) (some (.str rp)) o e) st2 = .ok d' st3 := e3
    rw [x_asg, d1]
    rfl
  have q4 : evS (C (K + 1)) (bw 4) (lsl S a n t (some d) (some (.str rp)) (some d') e) st3 = .next (lsl S a n t (some d) (some (.str rp)) (some d') (some (.bl b))) st3 := by
    show evS (C (K + 1)) (.asg (.name 7) (.cmp .Eq (.call 5 "_law_text" [(.var 4)]) (.call 5 "_law_text" [(.var 6)]))) _ st3 = _
    have d1 : evE (C (K + 1)) (.call 5 "_law_text" [(.var 4)]) (lsl S a n t (some d) (some (.str rp)) (some d') e) st3 = .ok (.str x) st3 := txb.2
    have d2 : evE (C (K + 1)) (.call 5 "_law_text" [(.var 6)]) (lsl S a n t (some d) (some (.str rp)) (some d') e) st3 = .ok (.str y) st3 := tyb.2
    rw [x_asg, x_cmp, d1, Res.bind_ok, d2]
    rfl
  have ht : evE (C (K + 1)) (.tup [(.var 4), (.var 6)]) (lsl S a n t (some d) (some (.str rp)) (some d') (some (.bl b))) st3 = .ok (.tup [d, d']) st3 := by
    simp
  have q5 : evS (C (K + 1)) (bw 5) (lsl S a n t (some d) (some (.str rp)) (some d') (some (.bl b))) st3 = .next (lsl S a n t (some d) (some (.str rt)) (some d') (some (.bl b))) st3 := by
    show evS (C (K + 1)) (.asg (.name 5) (.bi .repr [(.tup [(.var 4), (.var 6)])])) _ st3 = _
    rw [x_asg, ev_repr ht (hrt st3)]
    rfl
  have q6 : evS (C (K + 1)) (bw 6) (lsl S a n t (some d) (some (.str rt)) (some d') (some (.bl b))) st3 = .next (lsl S a n t (some d) (some (.str rt)) (some d') (some (.bl b))) st3 := by
    show evS (C (K + 1)) (.iff (.or_ (.cmp .NotEq (.bi .repr [(.call 1 "same" [(.var 4), (.var 6)])]) (.bi .repr [(.var 7)])) (.cmp .NotEq (.callK 1 "same" ["first", "second"] [] [(.var 6), (.var 4)] [0, 1]) (.var 7))) [(.ret (.bl false))] []) _ st3 = _
    have d1 : evE (C (K + 1)) (.call 1 "same" [(.var 4), (.var 6)]) (lsl S a n t (some d) (some (.str rt)) (some d') (some (.bl b))) st3 = .ok (.bl b) st3 := sm
    have d2 : evE (C (K + 1)) (.callK 1 "same" ["first", "second"] [] [(.var 6), (.var 4)] [0, 1]) (lsl S a n t (some d) (some (.str rt)) (some d') (some (.bl b))) st3 = .ok (.bl b) st3 := by
      have : C (K + 1) 1 [d', d] st3 = .ok (.bl b) st3 := by
        rw [sm']
        congr 2
        exact decide_eq_decide.mpr ⟨fun z => z.symm, fun z => z.symm⟩
      exact this
    have d3 : evE (C (K + 1)) (.cmp .NotEq (.callK 1 "same" ["first", "second"] [] [(.var 6), (.var 4)] [0, 1]) (.var 7)) (lsl S a n t (some d) (some (.str rt)) (some d') (some (.bl b))) st3 = .ok (.bl false) st3 := by
      have d7 : evE (C (K + 1)) (.var 7) (lsl S a n t (some d) (some (.str rt)) (some d') (some (.bl b))) st3 = .ok (.bl b) st3 := rfl
      rw [x_cmp, d2, Res.bind_ok, d7, Res.bind_ok, ne_bl, decide_eq_true rfl]
      rfl
    exact ev_iff (ev_or (ev_ne (a := rb) (ev_repr d1 (hrb st3)) (ev_repr (d := .bl b) rfl (hrb st3))) d3)
  have ht' : evE (C (K + 1)) (.tup [(.var 4), (.var 6)]) (lsl S a n t (some d) (some (.str rt)) (some d') (some (.bl b))) st3 = .ok (.tup [d, d']) st3 := by
    simp
  have q7 : evS (C (K + 1)) (bw 7) (lsl S a n t (some d) (some (.str rt)) (some d') (some (.bl b))) st3 = .next (lsl S a n t (some d) (some (.str rt)) (some d') (some (.bl b))) st3 := by
    show evS (C (K + 1)) (.iff (.cmp .NotEq (.bi .repr [(.tup [(.var 4), (.var 6)])]) (.var 5)) [(.ret (.bl false))] []) _ st3 = _
    exact ev_iff (ev_ne (a := rt) (ev_repr ht' (hrt st3)) rfl)
  rw [all, evSs_cons q0, evSs_cons q1, evSs_cons q2, evSs_cons q3, evSs_cons q4, evSs_cons q5, evSs_cons q6, evSs_cons q7]
  rfl
theorem law_val (ns : List Int) (hn : ns.length ≤ 63) (hz : ∀ z ∈ ns, Builtin.Int.intBits z ≤ 1048576) : ∃ st, C (100 + 1) 9 [.lst (ns.map .int)] [] = .ok (.bl true) st := by
  let S : D := .lst (ns.map .int)
  -- the outer loop
  let P : Slots → Store → Prop := fun sl st => ∃ a b t v s o e, sl = [some S, a, b, t, v, s, o, e]
  let body := evSs (C 100) (forB lw)
  have outer : ∀ d ∈ (List.range (max 2 (min 4 ns.length))).map (fun (i : Nat) => D.int (0 + (i : Int))), ∀ sl st, P sl st → ∃ sl' st', frF (.name 1) body d sl st = .next sl' st' ∧ P sl' st' := by
    intro d hd sl st ⟨a, b, t, v, s, o, e, h⟩
    subst h
    obtain ⟨i, hi, rfl⟩ := List.mem_map.mp hd
    have hi' : i ≤ 100 := by
      have := List.mem_range.mp hi
      omega
    have ei : (0 : Int) + (i : Int) = (i : Int) := by omega
    rw [ei]
    obtain ⟨x, y, es, x0, y0, y1⟩ := stream_ok (K := 99) (st := st) hi' hn hz
    let st1 : Store := st ++ [.lst [.int x, .int y]]
    let n := st.length
    have s1 : SS st1 n := ⟨x, y, by simp [st1, n], x0, y0, y1⟩
    rw [frF_some (sl' := [some S, some (.int i), b, t, v, s, o, e]) rfl]
    have all : forB lw = [(forB lw).getD 0 .pass, inner] := rfl
    have q0 : evS (C 100) ((forB lw).getD 0 .pass) [some S, some (.int i), b, t, v, s, o, e] st = .next [some S, some (.int i), some (.loc n), t, v, s, o, e] st1 := by
      show evS (C 100) (.asg (.name 2) (.call 2 "_law_stream" [(.var 0), (.var 1)])) _ st = _
      have d1 : evE (C 100) (.call 2 "_law_stream" [(.var 0), (.var 1)]) [some S, some (.int i), b, t, v, s, o, e] st = .ok (.loc n) st1 := es
      rw [x_asg, d1]
      rfl
    -- the turns
    obtain ⟨sl2, st2, e2, t2, v2, s2, o2, e2', h2, ss2⟩ := for_walk (src := none) (f := frF (.name 3) (evSs (C 100) (forB inner))) (P := fun sl st => ∃ t v s o e, sl = [some S, some (.int i), some (.loc n), t, v, s, o, e] ∧ SS st n) (fun _ _ _ => rfl)
      ((List.range 8).map fun (i : Nat) => D.int (0 + (i : Int))) [some S, some (.int i), some (.loc n), t, v, s, o, e] st1 (fun d hd sl st ⟨t, v, s, o, e, h, hs⟩ => by
        subst h
        obtain ⟨k, _, rfl⟩ := List.mem_map.mp hd
        obtain ⟨v', s', o', e', st', q, s2, _⟩ := turn_ok (K := 99) (by omega) (S := S) (a := i) (t := 0 + (k : Int)) (n := n) (v := v) (s := s) (o := o) (e := e) hs
        refine ⟨lsl S i n (0 + (k : Int)) v' s' o' e', st', ?_, some (.int (0 + (k : Int))), v', s', o', e', rfl, s2⟩
        rw [frF_some (sl' := lsl S i n (0 + (k : Int)) v s o e) rfl]
        exact q) ⟨t, v, s, o, e, rfl, s1⟩
    have q1 : evS (C 100) inner [some S, some (.int i), some (.loc n), t, v, s, o, e] st1 = .next sl2 st2 := by
      show evS (C 100) (.for_ (.name 3) (.rng [(.int 8)]) (forB inner)) _ st1 = _
      rw [evS_for, evI_rng (z := 8) (st' := st1) (by omega) rfl]
      exact e2
    refine ⟨sl2, st2, ?_, some (.int i), some (.loc n), t2, v2, s2, o2, e2', h2⟩
    show evSs (C 100) (forB lw) _ st = _
    rw [all, evSs_cons q0, evSs_cons q1]
    rfl
  obtain ⟨sl', st', e1, a, b, t, v, s, o, e, h⟩ := for_walk (src := none) (f := frF (.name 1) body) (P := P) (fun _ _ _ => rfl) _ (slots0 8 [S]) [] outer ⟨none, none, none, none, none, none, none, rfl⟩
  have dn : evE (C 100) (.bi .max [(.int 2), (.bi .min [(.int 4), (.bi .len [(.var 0)])])]) (slots0 8 [S]) [] = .ok (.int ((max 2 (min 4 ns.length) : Nat) : Int)) [] := by
    have d1 : evE (C 100) (.bi .len [(.var 0)]) (slots0 8 [S]) [] = .ok (.int ((ns.map D.int).length : Nat)) [] := rfl
    have d2 : evE (C 100) (.bi .min [(.int 4), (.bi .len [(.var 0)])]) (slots0 8 [S]) [] = .ok (.int ((min 4 ns.length : Nat) : Int)) [] := by
      rw [x_bi, x_cons, x_int, Res.bind_ok, x_cons, d1, Res.bind_ok, x_nil, Res.bind_ok, Res.bind_ok, Res.bind_ok, List.length_map]
      show Res.ok (D.int (if ((ns.length : Nat) : Int) < 4 then ((ns.length : Nat) : Int) else 4)) [] = _
      have : (if ((ns.length : Nat) : Int) < 4 then ((ns.length : Nat) : Int) else 4) = ((min 4 ns.length : Nat) : Int) := by split <;> omega
      rw [this]
    rw [x_bi, x_cons, x_int, Res.bind_ok, x_cons, d2, Res.bind_ok, x_nil, Res.bind_ok, Res.bind_ok, Res.bind_ok]
    show Res.ok (D.int (if ((min 4 ns.length : Nat) : Int) > 2 then ((min 4 ns.length : Nat) : Int) else 2)) [] = _
    have : (if ((min 4 ns.length : Nat) : Int) > 2 then ((min 4 ns.length : Nat) : Int) else 2) = ((max 2 (min 4 ns.length) : Nat) : Int) := by split <;> omega
    rw [this]
  have q0 : evS (C 100) lw (slots0 8 [S]) [] = .next sl' st' := by
    show evS (C 100) (.for_ (.name 1) (.rng [(.bi .max [(.int 2), (.bi .min [(.int 4), (.bi .len [(.var 0)])])])]) (forB lw)) _ [] = _
    rw [evS_for, evI_rng (by omega) dn]
    exact e1
  refine ⟨st', ?_⟩
  have all : b_law = [lw, b_law.getD 1 .pass] := rfl
  have q1 : evS (C 100) (b_law.getD 1 .pass) sl' st' = .ret (.bl true) st' := rfl
  rw [show C (100 + 1) 9 [S] [] = endS (evSs (C 100) b_law (slots0 8 [S]) []) from evCall_at (F := t_law.fd) rfl rfl, all, evSs_cons q0, evSs_ret q1]
  rfl
end K01
theorem PySem.Challenge.cw_soonknown_k01_documents_of_values_holds : PySem.Challenge.rw_soonknown_k01_documents_of_values.Holds := by
  exact k01_end fun ns h1 h2 => K01.law_val ns h1 h2
