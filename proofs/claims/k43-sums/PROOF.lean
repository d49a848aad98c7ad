import PyProof.Rows.All
import Wide.All
import OpenK.AllK
import Wide.FinOn
import HandS.Base
import HandS.Call
import HandS.List
import HandS.Comp
import HandS.Dict
import HandS.Iter
import HandS.Text
import HandS.Wide
import HandS.TupAny
import HandS.More
import HandS.Conv
import KE.KEqDict
import KE.KDictList
import KE.KIsAll
import HandS.NoneIn
import HandS.IsInst
import PyProof.ListStr
import HandS.WordsDict
import HandS.Flow
import HandS.Words
import HandS.Style
import HandS.Zip
import KE.GoesEnum
import KE.GoesMore
import HandS.DictComp
import KE.KUnpackStar
import KE.KDictZip
import HandS.SetFor
import HandS.SetTxt0
import HandS.Strs
import HandS.Codes
import HandS.Exc
import HandS.ExcOwn
import HandS.Defaults
import HandS.Ends
import HandS.EndBits
import HandS.ClsMeth
import HandS.Star
import HandS.SlotsOwn
import KE.KOpsOwn
import PyProof.InstNe
import HandS.ExcInit
import HandS.ExcField
import KE.KStateDown
import HandS.WordsExc
import HandS.Head0
import HandS.Head1
import HandS.Head2
import HandS.HeadEnd
import HandS.HeadHook1
import HandS.HeadHook2
import PyProof.ReprBulk
import PyProof.FitsReplace
import PySem.Challenge.RW_soonknown_k43_sums_of_scripts
set_option Elab.async false
set_option linter.all false
set_option maxRecDepth 100000
set_option maxHeartbeats 1000000
/-! TM, part A: data as trees, a store of cells, an evaluator over a compact text. -/
namespace TM
open PySem PySem.Spec PyProof.Rows L2

inductive D where
  | non | bl (b : Bool) | int (i : Int) | str (x : Str)
  | tup (xs : List D) | lst (xs : List D) | dct (kvs : List (Key × D)) | obj (C : Nat) (fs : List (Str × D)) | loc (n : Nat) | nkd | cls (C : Nat)
  deriving Inhabited

mutual
def D.beq : D → D → Bool
  | .non, .non => true
  | .bl a, .bl b => a == b
  | .int a, .int b => decide (a = b)
  | .str a, .str b => decide (a = b)
  | .tup a, .tup b => D.beqL a b
  | .lst a, .lst b => D.beqL a b
  | .dct a, .dct b => D.beqK a b
  | .obj C a, .obj C' b => decide (C = C') && D.beqF a b
  | .loc a, .loc b => decide (a = b)
  | .nkd, .nkd => true
  | .cls a, .cls b => decide (a = b)
  | _, _ => false
termination_by structural x => x
def D.beqL : List D → List D → Bool
  | [], [] => true
  | a :: r, b :: s => D.beq a b && D.beqL r s
  | _, _ => false
termination_by structural x => x
def D.beqK : List (Key × D) → List (Key × D) → Bool
  | [], [] => true
  | a :: r, b :: s => D.beqKP a b && D.beqK r s
  | _, _ => false
termination_by structural x => x
def D.beqKP : Key × D → Key × D → Bool
  | (k, a), (l, b) => decide (k = l) && D.beq a b
termination_by structural x => x
def D.beqF : List (Str × D) → List (Str × D) → Bool
  | [], [] => true
  | a :: r, b :: s => D.beqFP a b && D.beqF r s
  | _, _ => false
termination_by structural x => x
def D.beqFP : Str × D → Str × D → Bool
  | (k, a), (l, b) => decide (k = l) && D.beq a b
termination_by structural x => x
end

mutual
theorem D.beq_eq : ∀ {a b : D}, D.beq a b = true → a = b
  | .non, b, h => by cases b <;> simp_all [D.beq]
  | .bl x, b, h => by cases b <;> simp_all [D.beq]
  | .int x, b, h => by cases b <;> simp_all [D.beq]
  | .str x, b, h => by cases b <;> simp_all [D.beq]
  | .tup x, b, h => by
    cases b with
    | tup y =>
      simp only [D.beq] at h
      rw [D.beqL_eq h]
    | _ => simp [D.beq] at h
  | .lst x, b, h => by
    cases b with
    | lst y =>
      simp only [D.beq] at h
      rw [D.beqL_eq h]
    | _ => simp [D.beq] at h
  | .dct x, b, h => by
    cases b with
    | dct y =>
      simp only [D.beq] at h
      rw [D.beqK_eq h]
    | _ => simp [D.beq] at h
  | .obj C x, b, h => by
    cases b with
    | obj C' y =>
      simp only [D.beq, Bool.and_eq_true, decide_eq_true_eq] at h
      rw [h.1, D.beqF_eq h.2]
    | _ => simp [D.beq] at h
  | .loc x, b, h => by cases b <;> simp_all [D.beq]
  | .nkd, b, h => by cases b <;> simp_all [D.beq]
  | .cls x, b, h => by cases b <;> simp_all [D.beq]
termination_by structural x => x
theorem D.beqL_eq : ∀ {a b : List D}, D.beqL a b = true → a = b
  | [], b, h => by cases b <;> simp_all [D.beqL]
  | x :: r, b, h => by
    cases b with
    | nil => simp [D.beqL] at h
    | cons y s =>
      simp only [D.beqL, Bool.and_eq_true] at h
      rw [D.beq_eq h.1, D.beqL_eq h.2]
termination_by structural x => x
theorem D.beqK_eq : ∀ {a b : List (Key × D)}, D.beqK a b = true → a = b
  | [], b, h => by cases b <;> simp_all [D.beqK]
  | x :: r, b, h => by
    cases b with
    | nil => simp [D.beqK] at h
    | cons y s =>
      simp only [D.beqK, Bool.and_eq_true] at h
      rw [D.beqKP_eq h.1, D.beqK_eq h.2]
termination_by structural x => x
theorem D.beqKP_eq : ∀ {a b : Key × D}, D.beqKP a b = true → a = b
  | (k, a), (l, b), h => by
    simp only [D.beqKP, Bool.and_eq_true, decide_eq_true_eq] at h
    rw [h.1, D.beq_eq h.2]
termination_by structural x => x
theorem D.beqF_eq : ∀ {a b : List (Str × D)}, D.beqF a b = true → a = b
  | [], b, h => by cases b <;> simp_all [D.beqF]
  | x :: r, b, h => by
    cases b with
    | nil => simp [D.beqF] at h
    | cons y s =>
      simp only [D.beqF, Bool.and_eq_true] at h
      rw [D.beqFP_eq h.1, D.beqF_eq h.2]
termination_by structural x => x
theorem D.beqFP_eq : ∀ {a b : Str × D}, D.beqFP a b = true → a = b
  | (k, a), (l, b), h => by
    simp only [D.beqFP, Bool.and_eq_true, decide_eq_true_eq] at h
    rw [h.1, D.beq_eq h.2]
termination_by structural x => x
end
mutual
theorem D.beq_rfl : ∀ (a : D), D.beq a a = true
  | .non | .bl x | .int x | .str x | .loc x | .nkd | .cls x => by simp [D.beq]
  | .tup x => by simp [D.beq, D.beqL_rfl x]
  | .lst x => by simp [D.beq, D.beqL_rfl x]
  | .dct x => by simp [D.beq, D.beqK_rfl x]
  | .obj C x => by simp [D.beq, D.beqF_rfl x]
termination_by structural x => x
theorem D.beqL_rfl : ∀ (a : List D), D.beqL a a = true
  | [] => by simp [D.beqL]
  | x :: r => by simp [D.beqL, D.beq_rfl x, D.beqL_rfl r]
termination_by structural x => x
theorem D.beqK_rfl : ∀ (a : List (Key × D)), D.beqK a a = true
  | [] => by simp [D.beqK]
  | x :: r => by simp [D.beqK, D.beqKP_rfl x, D.beqK_rfl r]
termination_by structural x => x
theorem D.beqKP_rfl : ∀ (a : Key × D), D.beqKP a a = true
  | (k, a) => by simp [D.beqKP, D.beq_rfl a]
termination_by structural x => x
theorem D.beqF_rfl : ∀ (a : List (Str × D)), D.beqF a a = true
  | [] => by simp [D.beqF]
  | x :: r => by simp [D.beqF, D.beqFP_rfl x, D.beqF_rfl r]
termination_by structural x => x
theorem D.beqFP_rfl : ∀ (a : Str × D), D.beqFP a a = true
  | (k, a) => by simp [D.beqFP, D.beq_rfl a]
termination_by structural x => x
end
instance : DecidableEq D := fun a b => if h : D.beq a b = true then .isTrue (D.beq_eq h) else .isFalse fun e => h (e ▸ D.beq_rfl a)

inductive Cell where
  | lst (xs : List D) | dct (kvs : List (Key × D)) | ins (C : Nat) (fs : List (Str × D)) | dead
  deriving DecidableEq, Inhabited
abbrev Store := List Cell
abbrev Slots := List (Option D)


/-! ### results -/
inductive Res (α : Type) where
  | ok (a : α) (st : Store) | exc (C : Nat) (fs : List (Str × D)) (st : Store) | stuck
def Res.bind {α β : Type} (r : Res α) (f : α → Store → Res β) : Res β := match r with
  | .ok a st => f a st
  | .exc C fs st => .exc C fs st
  | .stuck => .stuck
inductive RS where
  | next (sl : Slots) (st : Store) | ret (d : D) (st : Store) | brk (sl : Slots) (st : Store) | cnt (sl : Slots) (st : Store) | exc (C : Nat) (fs : List (Str × D)) (st : Store) | stuck
def Res.then {α : Type} (r : Res α) (f : α → Store → RS) : RS := match r with
  | .ok a st => f a st
  | .exc C fs st => .exc C fs st
  | .stuck => .stuck
@[simp] theorem Res.bind_ok {α β : Type} (a : α) (st : Store) (f : α → Store → Res β) : (Res.ok a st).bind f = f a st := rfl
@[simp] theorem Res.bind_stuck {α β : Type} (f : α → Store → Res β) : (Res.stuck : Res α).bind f = .stuck := rfl
@[simp] theorem Res.then_ok {α : Type} (a : α) (st : Store) (f : α → Store → RS) : (Res.ok a st).then f = f a st := rfl
@[simp] theorem Res.then_stuck {α : Type} (f : α → Store → RS) : (Res.stuck : Res α).then f = .stuck := rfl
def ofO {α : Type} (o : Option α) (st : Store) : Res α := match o with
  | some a => .ok a st
  | none => .stuck
@[simp] theorem ofO_some {α : Type} (a : α) (st : Store) : ofO (some a) st = .ok a st := rfl
@[simp] theorem ofO_none {α : Type} (st : Store) : ofO (none : Option α) st = .stuck := rfl

/-! ### looks -/
def lstAt (st : Store) (n : Nat) : Option (List D) := match st[n]? with
  | some (.lst xs) => some xs
  | _ => none
def dctAt (st : Store) (n : Nat) : Option (List (Key × D)) := match st[n]? with
  | some (.dct xs) => some xs
  | _ => none
/-- a list -/
def asL (d : D) (st : Store) : Option (List D) := match d with
  | .lst xs => some xs
  | .loc n => lstAt st n
  | _ => none
def asT (d : D) : Option (List D) := match d with
  | .tup xs => some xs
  | _ => none
def asK (d : D) (st : Store) : Option (List (Key × D)) := match d with
  | .dct xs => some xs
  | .loc n => dctAt st n
  | _ => none
/-- a list or a tuple -/
def asQ (d : D) (st : Store) : Option (List D) := match d with
  | .tup xs => some xs
  | d => asL d st
def truth (d : D) (st : Store) : Option Bool := match d with
  | .non => some false
  | .bl b => some b
  | .int i => some (i != 0)
  | .str x => if x.length ≤ sizeLine then some ((x.length : Int) != 0) else none
  | .tup xs => some (!xs.isEmpty)
  | .lst xs => some (!xs.isEmpty)
  | .loc n => match st[n]? with
    | some (.lst xs) => some (!xs.isEmpty)
    | _ => none
  | _ => none
def keyOf : D → Option Key
  | .int i => some (.inl i)
  | .str x => some (.inr x)
  | _ => none
def ofKey : Key → D
  | .inl i => .int i
  | .inr x => .str x
def getK {κ : Type} [DecidableEq κ] (kvs : List (κ × D)) (k : κ) : Option D := (kvs.find? fun kv => decide (kv.1 = k)).map (·.2)
def putKD {κ : Type} [DecidableEq κ] (kvs : List (κ × D)) (k : κ) (v : D) : List (κ × D) :=
  if kvs.any (fun kv => decide (kv.1 = k)) then kvs.map fun kv => if kv.1 = k then (kv.1, v) else kv else kvs ++ [(k, v)]
def strsOf : List D → Option (List Str)
  | [] => some []
  | .str x :: r => (strsOf r).map (x :: ·)
  | _ => none
def intsOf : List D → Option (List Int)
  | [] => some []
  | .int x :: r => (intsOf r).map (x :: ·)
  | _ => none
def blsOf : List D → Option (List Bool)
  | [] => some []
  | .bl x :: r => (blsOf r).map (x :: ·)
  | _ => none
def flatD : D → Bool
  | .non => true
  | .bl _ => true
  | .int _ => true
  | .str _ => true
  | _ => false
/-- == of flat values -/
def eqF : D → D → Bool
  | .non, .non => true
  | .bl a, .bl b => a == b
  | .bl a, .int b => (if a then 1 else 0) == b
  | .int a, .bl b => a == (if b then 1 else 0)
  | .int a, .int b => a == b
  | .str a, .str b => a == b
  | _, _ => false
mutual
/-- the data of a tree without dicts -/
def D.py : D → Option PyData
  | .non => some .none
  | .bl b => some (.bool b)
  | .int i => some (.int i)
  | .str x => some (.str x)
  | .tup xs => (D.pyL xs).map .tuple
  | .lst xs => (D.pyL xs).map .list
  | _ => none
termination_by structural x => x
def D.pyL : List D → Option (List PyData)
  | [] => some []
  | d :: r => match D.py d, D.pyL r with
    | some a, some b => some (a :: b)
    | _, _ => none
termination_by structural x => x
end
def keyPy : Key → PyData
  | .inl i => .int i
  | .inr x => .str x
mutual
/-- the data of a tree, with dicts -/
def D.pyr : D → Option PyData
  | .non => some .none
  | .bl b => some (.bool b)
  | .int i => some (.int i)
  | .str x => some (.str x)
  | .tup xs => (D.pyrL xs).map .tuple
  | .lst xs => (D.pyrL xs).map .list
  | .dct kvs => (D.pyrK kvs).map .dict
  | .nkd => some (.dict [(.none, .int 0)])
  | _ => none
termination_by structural x => x
def D.pyrL : List D → Option (List PyData)
  | [] => some []
  | d :: r => match D.pyr d, D.pyrL r with
    | some a, some b => some (a :: b)
    | _, _ => none
termination_by structural x => x
def D.pyrK : List (Key × D) → Option (List (PyData × PyData))
  | [] => some []
  | d :: r => match D.pyrKP d, D.pyrK r with
    | some a, some b => some (a :: b)
    | _, _ => none
termination_by structural x => x
def D.pyrKP : Key × D → Option (PyData × PyData)
  | (k, d) => match D.pyr d with
    | some a => some (keyPy k, a)
    | none => none
termination_by structural x => x
end
/-- a list in the store, too -/
def pyOf (d : D) (st : Store) : Option PyData := match d with
  | .loc n => match st[n]? with
    | some (.lst xs) => (D.pyL xs).map .list
    | _ => none
  | d => d.py
def pyrOf (d : D) (st : Store) : Option PyData := match d with
  | .loc n => match st[n]? with
    | some (.lst xs) => (D.pyrL xs).map .list
    | _ => none
  | d => d.pyr
end TM
set_option maxHeartbeats 1000000
/-! TM, part B: the compact text and its evaluator. -/
namespace TM
open PySem PySem.Spec PyProof.Rows L2

inductive Ty where
  | bool | int | str | list | tuple | dict | cls (C : Nat)
  deriving DecidableEq
/-- built-in functions -/
inductive Bi where
  | len | str | int | sorted | max | min | sum | any | all | list | tuple | dict | repr | abs | ord | chr | bool | listC | dictC
  deriving DecidableEq
/-- methods of built-in types -/
inductive Me where
  | join | append | extend | pop | startswith | endswith | find | index
  deriving DecidableEq
/-- how an own method is asked for -/
inductive Way where
  | dot | bin (o : Operator) | cmp (o : CmpOp) | ne | inv | len | call
  deriving DecidableEq
inductive CT where
  | name (i : Nat) | tup (ts : List CT)

mutual
inductive CE where
  | var (i : Nat) | non | nkd | bl (b : Bool) | int (i : Int) | str (x : Str) | glob (x : Str) (d : D)
  | op (o : Operator) (a b : CE) | neg (a : CE) | not_ (a : CE) | and_ (a b : CE) | or_ (a b : CE) | ife (c a b : CE)
  | cmp (o : CmpOp) (a b : CE) | chain (o o' : CmpOp) (a b c : CE) | isin (e : CE) (ts : List Ty)
  | tup (es : List CE) | lst (mt : Bool) (es : List CE) | dct (mt : Bool) (kvs : List CE)
  | idx (a b : CE) | sl (a : CE) (lo hi : CO) | slx (a : CE) (step : CE)
  | call (f : Nat) (x : Str) (es : List CE) | callK (f : Nat) (x : Str) (xs : List Str) (es ks : List CE) (pm : List Nat)
  | bi (b : Bi) (es : List CE) | me (m : Me) (r : CE) (es : List CE)
  | lc (mt : Bool) (own : List (Str × Nat)) (t : CT) (it : CI) (ifs : List CE) (e : CE)
  | dc (mt : Bool) (own : List (Str × Nat)) (t : CT) (it : CI) (ifs : List CE) (k v : CE)
  | lenum (e : CE)
  | lset (srt : Bool) (e : CE)
  | new (mt : Bool) (C f : Nat) (x : Str) (es : List CE) | newv (mt : Bool) (i C f : Nat) (es : List CE)
  | fld (nc : Nat) (e : CE) (x : Str) | mth (w : Way) (C f : Nat) (m : Str) (r : CE) (es : List CE)
  | mthK (C f : Nat) (m : Str) (ks : List Str) (r : CE) (es ls : List CE) (pm : List Nat)
  | cmth (C f : Nat) (x m : Str) (es : List CE) | isc (nc : Nat) (e : CE) (x : Str) (anc : List Nat)
  | frz (e : CE)
inductive CO where
  | none | some (e : CE)
inductive CI where
  | e (a : CE) | rng (es : List CE) | enum (a : CE) | zip (a b : CE) | vals (a : CE)
end

inductive CS where
  | asg (t : CT) (e : CE) | asgLc (i : Nat) (e : CE) | par (i j : Nat) (a b : CE) | aug (i : Nat) (o : Operator) (e : CE) | setI (o i e : CE) | ex (e : CE)
  | iff (c : CE) (t f : List CS) | for_ (t : CT) (it : CI) (b : List CS) | whl (c : CE) (b : List CS)
  | ret (e : CE) | retN | pass | brk | cnt | dead | asgS (is : List Nat) (i : Nat) (e : CE) | setA (nc : Nat) (o : CE) (x : Str) (e : CE)
  | par3 (i j l : Nat) (a b c : CE) | rais (C : Nat) (x f : Str) (e : CE)
  | tryX (b : CS) (x xn : Str) (cs os : List Nat) (i : Nat) (k : Option Nat) (wr : Bool) (f : Str)

/-! ### operations on data -/
def opD (o : Operator) (x y : D) (st : Store) : Res D := match o, x, y with
  | .Add, .int a, .int b => .ok (.int (a + b)) st
  | .Add, .str a, .str b => if a.length + b.length ≤ sizeLine then .ok (.str (a ++ b)) st else .stuck
  | .Add, .tup a, .tup b => if a.length + b.length ≤ sizeLine then .ok (.tup (a ++ b)) st else .stuck
  | .Add, x, y => match asL x st, asL y st with
    | some a, some b => if a.length + b.length ≤ sizeLine then .ok (.lst (a ++ b)) st else .stuck
    | _, _ => .stuck
  | .Sub, .int a, .int b => .ok (.int (a - b)) st
  | .Mult, .str a, .int k => if 2 ≤ k ∧ 1 ≤ a.length ∧ a.length * k.toNat ≤ 1000000 then .ok (.str ⟨(List.replicate k.toNat a.cps).foldl (· ++ ·) #[]⟩) st else .stuck
  | .Mult, .int a, .int b => if a.natAbs.log2 + b.natAbs.log2 < 1000000 then .ok (.int (a * b)) st else .stuck
  | .Mult, x, .int k => match asL x st with
    | some a => if -(2 ^ 63) ≤ k ∧ k < 2 ^ 63 ∧ a.length * k.toNat ≤ sizeLine then .ok (.lst (List.replicate k.toNat a).flatten) st else .stuck
    | _ => .stuck
  | .FloorDiv, .int a, .int b => if b ≠ 0 ∧ b.natAbs < 1073741824 then .ok (.int (a.fdiv b)) st else .stuck
  | .Mod, .int a, .int b => if b ≠ 0 then .ok (.int (a.fmod b)) st else .stuck
  | .Pow, .int a, .int b => if 0 ≤ b ∧ (Builtin.Int.intBits a : Int) * b ≤ 2 ^ 27 then .ok (.int (a ^ b.toNat)) st else .stuck
  | _, _, _ => .stuck
def eqRes0 (x y : D) (st : Store) : Option Bool := match pyOf x st, pyOf y st with
  | some a, some b => if SeqAt.shaped a && SeqAt.shaped b then some (PyData.eqv a b) else none
  | _, _ => none
def eqRes (x y : D) (st : Store) : Option Bool := match x, y with
  | .lst xs, .lst [] => some xs.isEmpty
  | x, y => eqRes0 x y st
def neRes (x y : D) (st : Store) : Option Bool := match x, y with
  | .lst xs, .lst [] => some xs.isEmpty
  | .dct xs, .dct [] => some xs.isEmpty
  | x, y => eqRes0 x y st
def inRes (x y : D) (st : Store) : Option Bool := match y with
  | .str z => (match x with
    | .str w => some (!(Builtin.Str.occurrences z w 0 z.length 1).isEmpty)
    | _ => none)
  | y => match asQ y st with
    | some xs => if flatD x && xs.all flatD then some (xs.any fun y => eqF y x) else none
    | none => match asK y st, keyOf x with
      | some kvs, some k => some (getK kvs k).isSome
      | _, _ => none
def cmpD (o : CmpOp) (x y : D) (st : Store) : Option Bool := match o, x, y with
  | .Eq, .str a, .str b => some (decide (a = b))
  | .NotEq, .str a, .str b => some (!decide (a = b))
  | .Eq, x, y => eqRes x y st
  | .NotEq, x, y => (neRes x y st).map (!·)
  | .Lt, .int a, .int b => some (decide (a < b))
  | .LtE, .int a, .int b => some (decide (a ≤ b))
  | .Gt, .int a, .int b => some (decide (b < a))
  | .GtE, .int a, .int b => some (decide (b ≤ a))
  | .Lt, .str a, .str b => some (decide (a.cps.toList < b.cps.toList))
  | .LtE, .str a, .str b => some (!decide (b.cps.toList < a.cps.toList))
  | .Gt, .str a, .str b => some (decide (b.cps.toList < a.cps.toList))
  | .GtE, .str a, .str b => some (!decide (a.cps.toList < b.cps.toList))
  | .Is, x, .non => some (decide (x = .non))
  | .IsNot, x, .non => some (!decide (x = .non))
  | .Is, .bl a, .bl b => some (decide (a = b))
  | .IsNot, .bl a, .bl b => some (!decide (a = b))
  | .In, x, y => inRes x y st
  | .NotIn, x, y => (inRes x y st).map (!·)
  | _, _, _ => none
def tyD (d : D) (st : Store) : Option Ty := match d with
  | .bl _ => some .bool
  | .int _ => some .int
  | .str _ => some .str
  | .tup _ => some .tuple
  | .lst _ => some .list
  | .dct _ => some .dict
  | .nkd => some .dict
  | .loc n => match st[n]? with
    | some (.lst _) => some .list
    | some (.dct _) => some .dict
    | _ => none
  | _ => none
def isTy (t u : Ty) : Bool := decide (t = u) || (decide (t = .bool) && decide (u = .int))
def isinD (d : D) (ts : List Ty) (st : Store) : Option Bool := match d with
  | .non => some false
  | d => (tyD d st).map fun t => ts.any (isTy t)
def idxD (x y : D) (st : Store) : Option D := match x, y with
  | .str z, .int i => if z.length ≤ sizeLine then (atI z.cps.toList i).map fun c => .str ⟨#[c]⟩ else none
  | .tup xs, .int i => atI xs i
  | x, y => match asL x st, y with
    | some xs, .int i => atI xs i
    | some _, _ => none
    | none, y => match asK x st, keyOf y with
      | some kvs, some k => getK kvs k
      | _, _ => none
def cutD (xs : List D) (lo hi : Option Int) : List D := (xs.drop (HT.sIx xs.length 0 lo)).take (HT.sIx xs.length xs.length hi - HT.sIx xs.length 0 lo)
def slD (x : D) (lo hi : Option Int) (st : Store) : Option D := match x with
  | .str z => if z.length ≤ sizeLine then some (.str (cutS z lo hi)) else none
  | .tup xs => some (.tup (cutD xs lo hi))
  | x => (asL x st).map fun xs => .lst (cutD xs lo hi)
def ordS (a b : Str) : Bool := !decide (b.cps.toList < a.cps.toList)
def sortS (xs : List Str) : List Str := xs.mergeSort ordS
def sortI (xs : List Int) : List Int := xs.mergeSort fun a b => decide (a ≤ b)
def maxI : List Int → Option Int
  | [] => none
  | a :: r => some (r.foldl (fun m x => if x > m then x else m) a)
def minI : List Int → Option Int
  | [] => none
  | a :: r => some (r.foldl (fun m x => if x < m then x else m) a)
def b2z (b : Bool) : Int := if b then 1 else 0
/-- the texts of xs, each once, the last met first -/
def seen (xs : List Str) : List Str := xs.foldl (fun l k => if k ∈ l then l else k :: l) []
def inrs : List Key → Option (List Str)
  | [] => some []
  | .inr x :: r => (inrs r).map (x :: ·)
  | _ => none
def sortedD (d : D) (st : Store) : Option D := match asK d st with
  | some kvs => (match inrs (kvs.map (·.1)) with
    | some ks => if ks.length < 64 then some (.lst ((sortS ks).map .str)) else none
    | none => none)
  | none => match asL d st with
    | some xs => (match strsOf xs with
      | some ss => if ss.length < 64 then some (.lst ((sortS ss).map .str)) else none
      | none => match intsOf xs with
        | some ns => if ns.length < 64 then some (.lst ((sortI ns).map .int)) else none
        | none => none)
    | none => none
/-- a dict's pairs: key, value, key, value .. -/
def pairUp : List D → Option (List (Key × D))
  | [] => some []
  | k :: v :: r => match keyOf k, pairUp r with
    | some k, some kvs => some ((k, v) :: kvs)
    | _, _ => none
  | _ => none
/-- dict(pairs) -/
def pairsD : List D → Option (List (Key × D))
  | [] => some []
  | .tup [k, v] :: r => match keyOf k, pairsD r with
    | some k, some kvs => some ((k, v) :: kvs)
    | _, _ => none
  | _ => none
def mergeD (kvs more : List (Key × D)) : List (Key × D) := more.foldl (fun acc kv => putKD acc kv.1 kv.2) kvs
/-- the text of a tree as repr gives it -/
def D.reprD (d : D) (st : Store) : Option Str := (pyrOf d st).bind fun p => if p.shown.length ≤ sizeLine && p.showable && decide (p.depth ≤ 40) then some p.shown else none
/-- a new list, a new dict: a tree, or a cell -/
def mkL (mt : Bool) (xs : List D) (st : Store) : Res D := if mt then .ok (.loc st.length) (st ++ [.lst xs]) else .ok (.lst xs) st
def mkK (mt : Bool) (kvs : List (Key × D)) (st : Store) : Res D := if mt then .ok (.loc st.length) (st ++ [.dct kvs]) else .ok (.dct kvs) st
def signs (x : Str) : List D := x.cps.toList.map fun c => .str ⟨#[c]⟩
def biD (b : Bi) (ds : List D) (st : Store) : Res D := match b, ds with
  | .len, [.str x] => if x.length ≤ sizeLine then .ok (.int x.length) st else .stuck
  | .len, [.nkd] => .ok (.int 1) st
  | .len, [d] => (match asQ d st with
    | some xs => .ok (.int xs.length) st
    | none => match asK d st with
      | some kvs => .ok (.int kvs.length) st
      | none => .stuck)
  | .str, [.int i] => if i.natAbs.log2 < 1920 then .ok (.str (toString i : String)) st else .stuck
  | .str, [.str x] => .ok (.str x) st
  | .int, [.int i] => .ok (.int i) st
  | .int, [.bl b] => .ok (.int (b2z b)) st
  | .int, [.str x] => if x.length ≤ 640 then (match PySem.intText? x with
    | some n => .ok (.int n) st
    | none => .stuck) else .stuck
  | .sorted, [d] => ofO (sortedD d st) st
  | .max, [.int a, .int b] => .ok (.int (if b > a then b else a)) st
  | .min, [.int a, .int b] => .ok (.int (if b < a then b else a)) st
  | .max, [d] => (match (asL d st).bind intsOf with
    | some ns => ofO ((maxI ns).map .int) st
    | none => .stuck)
  | .min, [d] => (match (asL d st).bind intsOf with
    | some ns => ofO ((minI ns).map .int) st
    | none => .stuck)
  | .sum, [d] => (match (asL d st).bind intsOf with
    | some ns => .ok (.int ns.sum) st
    | none => .stuck)
  | .any, [d] => (match (asL d st).bind blsOf with
    | some bs => .ok (.bl (bs.any id)) st
    | none => .stuck)
  | .all, [d] => (match (asL d st).bind blsOf with
    | some bs => .ok (.bl (bs.all id)) st
    | none => .stuck)
  | .list, [.str x] => if x.length ≤ sizeLine then .ok (.lst (signs x)) st else .stuck
  | .list, [d] => (match asQ d st with
    | some xs => .ok (.lst xs) st
    | none => match asK d st with
      | some kvs => .ok (.lst (kvs.map fun kv => ofKey kv.1)) st
      | none => .stuck)
  | .tuple, [d] => (match asQ d st with
    | some xs => .ok (.tup xs) st
    | none => .stuck)
  | .dict, [d] => (match asK d st with
    | some kvs => .ok (.dct kvs) st
    | none => match (asL d st).bind pairsD with
      | some kvs => .ok (.dct (mergeD [] kvs)) st
      | none => .stuck)
  | .repr, [d] => ofO ((D.reprD d st).map .str) st
  | .abs, [.int i] => .ok (.int (if i < 0 then -i else i)) st
  | .listC, [d] => (match asQ d st with
    | some xs => mkL true xs st
    | none => .stuck)
  | .dictC, [d] => (match asK d st with
    | some kvs => mkK true kvs st
    | none => .stuck)
  | _, _ => .stuck
def setC (st : Store) (n : Nat) (c : Cell) : Store := st.set n c
def meTy (m : Me) (x : D) (st : Store) : Bool := match m, x with
  | .join, .str _ => true
  | .startswith, .str _ => true
  | .endswith, .str _ => true
  | .find, .str _ => true
  | .append, .loc n => (lstAt st n).isSome
  | .extend, .loc n => (lstAt st n).isSome
  | .pop, .loc n => (lstAt st n).isSome
  | .index, .lst _ => true
  | _, _ => false
def meD (m : Me) (r : D) (ds : List D) (st : Store) : Res D := match m, r, ds with
  | .join, .str a, [d] => (match (asQ d st).bind strsOf with
    | some ys => if (ys.map (·.length)).sum + ys.length * a.length ≤ 16777216 then .ok (.str (Txt.join a ys)) st else .stuck
    | none => .stuck)
  | .append, .loc n, [d] => (match lstAt st n with
    | some xs => if xs.length < sizeLine then .ok .non (setC st n (.lst (xs ++ [d]))) else .stuck
    | none => .stuck)
  | .extend, .loc n, [d] => (match lstAt st n, asL d st with
    | some xs, some ys => if xs.length + ys.length ≤ sizeLine then .ok .non (setC st n (.lst (xs ++ ys))) else .stuck
    | _, _ => .stuck)
  | .pop, .loc n, [] => (match lstAt st n with
    | some xs => (match xs[xs.length - 1]? with
      | some d => .ok d (setC st n (.lst xs.dropLast))
      | none => .stuck)
    | none => .stuck)
  | .pop, .loc n, [.int i] => (match lstAt st n with
    | some xs => (match ixN xs.length i with
      | some k => (match xs[k]? with
        | some d => if -(2 ^ 63) ≤ i ∧ i < 2 ^ 63 then .ok d (setC st n (.lst (xs.eraseIdx k))) else .stuck
        | none => .stuck)
      | none => .stuck)
    | none => .stuck)
  | .index, .lst xs, [d] => if flatD d && xs.all flatD then (match xs.findIdx? (fun y => eqF y d) with
    | some j => .ok (.int j) st
    | none => .stuck) else .stuck
  | .startswith, .str a, [.str b] => .ok (.bl (Txt.startswith a b)) st
  | .endswith, .str a, [.str b] => .ok (.bl (Txt.endswith a b)) st
  | .find, .str a, [.str b] => .ok (.int (Txt.find a b)) st
  | _, _, _ => .stuck
def setID (o i v : D) (st : Store) : Option Store := match o with
  | .loc n => (match st[n]? with
    | some (.lst xs) => (match i with
      | .int k => (ixN xs.length k).map fun j => setC st n (.lst (xs.set j v))
      | _ => none)
    | some (.dct kvs) => (match keyOf i with
      | some k => if kvs.length < sizeLine then some (setC st n (.dct (putKD kvs k v))) else none
      | none => none)
    | _ => none)
  | _ => none
def frzD (d : D) (st : Store) : Res D := match d with
  | .loc n => (match st[n]? with
    | some (.lst xs) => .ok (.lst xs) (setC st n .dead)
    | some (.dct kvs) => .ok (.dct kvs) (setC st n .dead)
    | _ => .stuck)
  | _ => .stuck
/-! ### instances -/
def fldsOf (d : D) (st : Store) : Option (Nat × List (Str × D)) := match d with
  | .obj C fs => some (C, fs)
  | .loc n => (match st[n]? with
    | some (.ins C fs) => some (C, fs)
    | _ => none)
  | _ => none
def putFD (f : Str) (v : D) : List (Str × D) → List (Str × D)
  | [] => [(f, v)]
  | (g, x) :: r => if g = f then (g, v) :: r else (g, x) :: putFD f v r
/-- an instance of C without an own attribute m -/
def isI (m : Str) (C : Nat) (x : D) (st : Store) : Bool := match fldsOf x st with
  | some (C', fs) => decide (C' = C) && (fs.lookup m).isNone
  | none => false
def isC (C : Nat) (x : D) (st : Store) : Bool := match fldsOf x st with
  | some (C', _) => decide (C' = C)
  | none => false
def newEnd (mt : Bool) (n C : Nat) (st : Store) : Res D := match st[n]? with
  | some (.ins C' fs) => if C' = C then (if mt then .ok (.loc n) st else .ok (.obj C fs) (setC st n .dead)) else .stuck
  | _ => .stuck
def setAD (nc : Nat) (x : D) (f : Str) (v : D) (st : Store) : Option Store := match x with
  | .loc n => (match st[n]? with
    | some (.ins C fs) => if fs.length < 1000 ∧ C < nc then some (setC st n (.ins C (putFD f v fs))) else none
    | _ => none)
  | _ => none
def wayOk (w : Way) (C : Nat) (ds : List D) (st : Store) : Bool := match w, ds with
  | .dot, _ => true
  | .call, _ => true
  | .inv, [] => true
  | .len, [] => true
  | .bin _, [y] => isC C y st
  | .cmp _, [y] => isC C y st
  | .ne, [y] => isC C y st
  | _, _ => false
def wayEnd (w : Way) (d : D) (st : Store) : Res D := match w, d with
  | .ne, .bl b => .ok (.bl (!b)) st
  | .ne, _ => .stuck
  | .cmp _, .bl b => .ok (.bl b) st
  | .cmp _, _ => .stuck
  | .len, .int n => if 0 ≤ n ∧ n < 2 ^ 62 then .ok (.int n) st else .stuck
  | .len, _ => .stuck
  | _, d => .ok d st
def iscD (nc : Nat) (anc : List Nat) (d : D) (st : Store) : Option Bool := match fldsOf d st with
  | some (C, _) => if C < nc then some (decide (C ∈ anc)) else none
  | none => (match d with
    | .non => some false
    | d => (tyD d st).map fun _ => false)
/-! ### targets -/
mutual
def asgT : CT → D → Slots → Option Slots
  | .name i, d, sl => if i < sl.length then some (sl.set i (some d)) else none
  | .tup ts, d, sl => match d with
    | .tup ds => if ds.length = ts.length then asgTs ts ds sl else none
    | .lst ds => if ds.length = ts.length then asgTs ts ds sl else none
    | _ => none
termination_by structural t => t
def asgTs : List CT → List D → Slots → Option Slots
  | [], ds, sl => match ds with
    | [] => some sl
    | _ => none
  | t :: ts, ds, sl => match ds with
    | d :: ds => (asgT t d sl).bind fun sl' => asgTs ts ds sl'
    | [] => none
termination_by structural t => t
end
/-! ### what is walked: the cell that must stay, the items -/
structure Itr where
  src : Option (Nat × List D)
  items : List D
def srcOk (src : Option (Nat × List D)) (st : Store) : Bool := match src with
  | none => true
  | some (n, xs) => decide (st[n]? = some (.lst xs))
def itD (d : D) (st : Store) : Option Itr := match d with
  | .tup xs => some ⟨none, xs⟩
  | .lst xs => some ⟨none, xs⟩
  | .loc n => (lstAt st n).map fun xs => ⟨some (n, xs), xs⟩
  | .str x => some ⟨none, signs x⟩
  | .dct kvs => some ⟨none, kvs.map fun kv => ofKey kv.1⟩
  | .nkd => some ⟨none, [.non]⟩
  | _ => none
def enumFrom (i : Int) : List D → List D
  | [] => []
  | d :: r => .tup [.int i, d] :: enumFrom (i + 1) r
def srcD (x : D) (xs : List D) : Option (Nat × List D) := match x with
  | .loc n => some (n, xs)
  | _ => none
def sqD (x : D) : Option (List D) := match x with
  | .tup xs => some xs
  | .lst xs => some xs
  | _ => none
def rngD : List D → Option (List D)
  | [.int n] => if -(2 ^ 62) ≤ n ∧ n < 2 ^ 62 then some ((List.range n.toNat).map fun (i : Nat) => D.int (0 + (i : Int))) else none
  | [.int a, .int b] => if -(2 ^ 62) ≤ a ∧ a < 2 ^ 62 ∧ -(2 ^ 62) ≤ b ∧ b < 2 ^ 62 then some ((List.range (b - a).toNat).map fun (i : Nat) => D.int (a + (i : Int))) else none
  | _ => none
/-! ### loops -/
def lcLoop (src : Option (Nat × List D)) (f : D → Store → Res (Option D)) : List D → List D → Store → Res (List D)
  | [], acc, st => if srcOk src st then .ok acc st else .stuck
  | d :: r, acc, st => if srcOk src st then (match f d st with
    | .ok (some v) st' => if acc.length < sizeLine then lcLoop src f r (acc ++ [v]) st' else .stuck
    | .ok none st' => lcLoop src f r acc st'
    | _ => .stuck) else .stuck
def dcLoop (src : Option (Nat × List D)) (f : D → Store → Res (Option (Key × D))) : List D → List (Key × D) → Store → Res (List (Key × D))
  | [], acc, st => if srcOk src st then .ok acc st else .stuck
  | d :: r, acc, st => if srcOk src st then (match f d st with
    | .ok (some kv) st' => if acc.length < sizeLine then dcLoop src f r (putKD acc kv.1 kv.2) st' else .stuck
    | .ok none st' => dcLoop src f r acc st'
    | _ => .stuck) else .stuck
def zipD (xs ys : List D) : List D := List.zipWith (fun x y => D.tup [x, y]) xs ys
def forLoop (src : Option (Nat × List D)) (f : D → Slots → Store → RS) : List D → Slots → Store → RS
  | [], sl, st => if srcOk src st then .next sl st else .stuck
  | d :: r, sl, st => if srcOk src st then (match f d sl st with
    | .next sl' st' => forLoop src f r sl' st'
    | .cnt sl' st' => forLoop src f r sl' st'
    | .brk sl' st' => .next sl' st'
    | .ret v st' => .ret v st'
    | .exc C fs st' => .exc C fs st'
    | .stuck => .stuck) else .stuck
def whlLoop (c : Slots → Store → Res Bool) (f : Slots → Store → RS) : Nat → Slots → Store → RS
  | 0, _, _ => .stuck
  | n + 1, sl, st => (c sl st).then fun b st1 => if b then (match f sl st1 with
    | .next sl' st' => whlLoop c f n sl' st'
    | .cnt sl' st' => whlLoop c f n sl' st'
    | .brk sl' st' => .next sl' st'
    | .ret v st' => .ret v st'
    | .exc C fs st' => .exc C fs st'
    | .stuck => .stuck) else .next sl st1
def wfuel : Nat := 1000000
def wipeD (sl : Slots) : List Nat → Slots
  | [] => sl
  | v :: vs => (wipeD sl vs).set v none
/-- the arguments in the parameters' order -/
def permA {α : Type} (ds : List α) : List Nat → Option (List α)
  | [] => some []
  | i :: pm => match ds[i]?, permA ds pm with
    | some d, some r => some (d :: r)
    | _, _ => none

/-! ### the evaluator -/
section
variable (cl : Nat → List D → Store → Res D)
mutual
def evE : CE → Slots → Store → Res D
  | .var i, sl, st => match sl[i]? with
    | some (some d) => .ok d st
    | _ => .stuck
  | .non, _, st => .ok .non st
  | .nkd, _, st => .ok .nkd st
  | .bl b, _, st => .ok (.bl b) st
  | .int i, _, st => .ok (.int i) st
  | .str x, _, st => .ok (.str x) st
  | .glob _ d, _, st => .ok d st
  | .op o a b, sl, st => (evE a sl st).bind fun x st1 => (evE b sl st1).bind fun y st2 => opD o x y st2
  | .neg a, sl, st => (evE a sl st).bind fun x st1 => match x with
    | .int i => .ok (.int (-i)) st1
    | _ => .stuck
  | .not_ a, sl, st => (evE a sl st).bind fun x st1 => match truth x st1 with
    | some b => .ok (.bl (!b)) st1
    | none => .stuck
  | .and_ a b, sl, st => (evE a sl st).bind fun x st1 => match truth x st1 with
    | some true => evE b sl st1
    | some false => .ok x st1
    | none => .stuck
  | .or_ a b, sl, st => (evE a sl st).bind fun x st1 => match truth x st1 with
    | some true => .ok x st1
    | some false => evE b sl st1
    | none => .stuck
  | .ife c a b, sl, st => (evE c sl st).bind fun x st1 => match truth x st1 with
    | some true => evE a sl st1
    | some false => evE b sl st1
    | none => .stuck
  | .cmp o a b, sl, st => (evE a sl st).bind fun x st1 => (evE b sl st1).bind fun y st2 => ofO ((cmpD o x y st2).map .bl) st2
  | .chain o o' a b c, sl, st => (evE a sl st).bind fun x st1 => (evE b sl st1).bind fun y st2 => match cmpD o x y st2 with
    | some true => (evE c sl st2).bind fun z st3 => ofO ((cmpD o' y z st3).map .bl) st3
    | some false => .ok (.bl false) st2
    | none => .stuck
  | .isin e ts, sl, st => (evE e sl st).bind fun x st1 => ofO ((isinD x ts st1).map .bl) st1
  | .tup es, sl, st => (evEs es sl st).bind fun ds st1 => if ds.length ≤ sizeLine then .ok (.tup ds) st1 else .stuck
  | .lst mt es, sl, st => (evEs es sl st).bind fun ds st1 => if ds.length ≤ sizeLine then mkL mt ds st1 else .stuck
  | .dct mt es, sl, st => (evEs es sl st).bind fun ds st1 => match pairUp ds with
    | some kvs => if kvs.length ≤ 15 then mkK mt (mergeD [] kvs) st1 else .stuck
    | none => .stuck
  | .idx a b, sl, st => (evE a sl st).bind fun x st1 => (evE b sl st1).bind fun y st2 => ofO (idxD x y st2) st2
  | .sl a lo hi, sl, st => (evE a sl st).bind fun x st1 => (evO lo sl st1).bind fun l st2 => (evO hi sl st2).bind fun h st3 => ofO (slD x l h st3) st3
  | .slx a s, sl, st => (evE a sl st).bind fun x st1 => (evE s sl st1).bind fun k st2 => match asL x st2, k with
    | some xs, .int 1 => .ok (.lst xs) st2
    | some xs, .int (-1) => .ok (.lst xs.reverse) st2
    | _, _ => .stuck
  | .call f _ es, sl, st => (evEs es sl st).bind fun ds st1 => cl f ds st1
  | .callK f _ _ es ks pm, sl, st => (evEs es sl st).bind fun ds st1 => (evEs ks sl st1).bind fun zs st2 => match permA (ds ++ zs) pm with
    | some vs => cl f vs st2
    | none => .stuck
  | .bi b es, sl, st => (evEs es sl st).bind fun ds st1 => biD b ds st1
  | .me m r es, sl, st => (evE r sl st).bind fun x st1 => if meTy m x st1 then (evEs es sl st1).bind fun ds st2 => meD m x ds st2 else .stuck
  | .lc mt own t it ifs e, sl, st => (evI it sl st).bind fun J st1 =>
    (lcLoop J.src (fun d st' => match asgT t d (wipeD sl (own.map (·.2))) with
      | none => .stuck
      | some sl' => (evTs ifs sl' st').bind fun b st2 => if b then (evE e sl' st2).bind fun v st3 => .ok (some v) st3 else .ok none st2) J.items [] st1).bind fun vs st2 => mkL mt vs st2
  | .dc mt own t it ifs k v, sl, st => (evI it sl st).bind fun J st1 =>
    (dcLoop J.src (fun d st' => match asgT t d (wipeD sl (own.map (·.2))) with
      | none => .stuck
      | some sl' => (evTs ifs sl' st').bind fun b st2 => if b then (evE k sl' st2).bind fun kd st3 => (evE v sl' st3).bind fun vd st4 => match keyOf kd with
        | some kk => .ok (some (kk, vd)) st4
        | none => .stuck else .ok none st2) J.items [] st1).bind fun kvs st2 => mkK mt kvs st2
  | .lenum e, sl, st => (evE e sl st).bind fun x st1 => match x with
    | .tup xs => .ok (.lst (enumFrom 0 xs)) st1
    | _ => .stuck
  | .lset srt e, sl, st => (evE e sl st).bind fun x st1 => match (asL x st1).bind strsOf with
    | some xs => if xs.length < 60 then .ok (if srt then .lst ((sortS (seen xs)).map .str) else .int (seen xs).length) st1 else .stuck
    | none => .stuck
  | .frz e, sl, st => (evE e sl st).bind fun x st1 => frzD x st1
  | .new mt C f _ es, sl, st => (evEs es sl st).bind fun ds st1 => (cl f (.loc st1.length :: ds) (st1 ++ [.ins C []])).bind fun r st2 => if r = .non then newEnd mt st1.length C st2 else .stuck
  | .newv mt i C f es, sl, st => if sl[i]? = some (some (.cls C)) then (evEs es sl st).bind fun ds st1 => (cl f (.loc st1.length :: ds) (st1 ++ [.ins C []])).bind fun r st2 => if r = .non then newEnd mt st1.length C st2 else .stuck else .stuck
  | .fld nc e x, sl, st => (evE e sl st).bind fun d st1 => match fldsOf d st1 with
    | some (C, fs) => if C < nc then ofO (fs.lookup x) st1 else .stuck
    | none => .stuck
  | .mth w C f m r es, sl, st => (evE r sl st).bind fun x st1 => if isI m C x st1 then (evEs es sl st1).bind fun ds st2 => if isC C x st2 && wayOk w C ds st2 then (cl f (x :: ds) st2).bind fun d st3 => wayEnd w d st3 else .stuck else .stuck
  | .mthK C f m _ r es ks pm, sl, st => (evE r sl st).bind fun x st1 => if isI m C x st1 then (evEs es sl st1).bind fun ds st2 => (evEs ks sl st2).bind fun zs st3 => match permA (x :: ds ++ zs) pm with
    | some vs => cl f vs st3
    | none => .stuck else .stuck
  | .cmth C f _ _ es, sl, st => (evEs es sl st).bind fun ds st1 => cl f (.cls C :: ds) st1
  | .isc nc e _ anc, sl, st => (evE e sl st).bind fun x st1 => ofO ((iscD nc anc x st1).map .bl) st1
termination_by structural e => e
def evEs : List CE → Slots → Store → Res (List D)
  | [], _, st => .ok [] st
  | e :: es, sl, st => (evE e sl st).bind fun d st1 => (evEs es sl st1).bind fun ds st2 => .ok (d :: ds) st2
termination_by structural e => e
/-- the tests of a comprehension -/
def evTs : List CE → Slots → Store → Res Bool
  | [], _, st => .ok true st
  | e :: es, sl, st => (evE e sl st).bind fun x st1 => match truth x st1 with
    | some true => evTs es sl st1
    | some false => .ok false st1
    | none => .stuck
termination_by structural e => e
def evO : CO → Slots → Store → Res (Option Int)
  | .none, _, st => .ok none st
  | .some e, sl, st => (evE e sl st).bind fun x st1 => match x with
    | .int i => .ok (some i) st1
    | _ => .stuck
termination_by structural e => e
def evI : CI → Slots → Store → Res Itr
  | .e a, sl, st => (evE a sl st).bind fun x st1 => ofO (itD x st1) st1
  | .rng es, sl, st => (evEs es sl st).bind fun ds st1 => ofO ((rngD ds).map fun xs => ⟨none, xs⟩) st1
  | .enum a, sl, st => (evE a sl st).bind fun x st1 => match asQ x st1 with
    | some xs => .ok ⟨srcD x xs, enumFrom 0 xs⟩ st1
    | none => .stuck
  | .zip a b, sl, st => (evE a sl st).bind fun x st1 => (evE b sl st1).bind fun y st2 => match sqD x, sqD y with
    | some xs, some ys => .ok ⟨none, zipD xs ys⟩ st2
    | _, _ => .stuck
  | .vals a, sl, st => (evE a sl st).bind fun x st1 => match x with
    | .dct kvs => .ok ⟨none, kvs.map (·.2)⟩ st1
    | _ => .stuck
termination_by structural e => e
end
end
end TM
set_option maxHeartbeats 1000000
/-! TM, part C: trees and cells in the tracked heap. -/
namespace TM
open PySem PySem.Spec PyProof.Rows L2
abbrev Sg := L2.St

/-- what the data stand on: the written part, the classes by number, the still heap, the cells by number -/
structure Wo where
  K : PySem.W.Frag
  CA : Nat → Addr
  F : Hp
  mu : List Addr
  G : Hp
/-- the dict {None: 0} -/
def NkO (a : Addr) : HO := .ext fun h => (a == sysModules) = false ∧ ∃ o t ep, h.get? a = some o ∧ o.ExactDict ∧ o.data = .dict #[⟨reduceHash 0xFCA86420, .none, .int 0 t⟩] ep
mutual
def Rep (W : Wo) : D → V → Prop
  | .non, v => v = .non
  | .bl b, v => v = .bl b
  | .int i, v => v = .int i
  | .str x, v => v = .str x
  | .tup ds, v => ∃ a xs, v = .ref a ∧ SqT W.K W.F a xs ∧ RepL W ds xs
  | .lst ds, v => ∃ a xs, v = .ref a ∧ Rd W.F a (.lst xs) ∧ RepL W ds xs
  | .dct kvs, v => ∃ a es, v = .ref a ∧ Rd W.F a (.dK es) ∧ RepK W kvs es
  | .obj C fs, v => ∃ a dx es, v = .ref a ∧ W.F a = some (.ins (W.CA C) dx es) ∧ RepF W fs es
  | .loc n, v => ∃ a, W.mu[n]? = some a ∧ v = .ref a
  | .nkd, v => ∃ a od, v = .ref a ∧ W.F a = some (.frz od (NkO a))
  | .cls C, v => v = .ref (W.CA C)
termination_by structural d => d
def RepL (W : Wo) : List D → List V → Prop
  | [], vs => vs = []
  | d :: ds, vs => ∃ v r, vs = v :: r ∧ Rep W d v ∧ RepL W ds r
termination_by structural d => d
def RepK (W : Wo) : List (Key × D) → List (Key × V) → Prop
  | [], vs => vs = []
  | d :: ds, vs => ∃ v r, vs = v :: r ∧ RepKP W d v ∧ RepK W ds r
termination_by structural d => d
def RepKP (W : Wo) : Key × D → Key × V → Prop
  | (k, d), v => k = v.1 ∧ Rep W d v.2
termination_by structural d => d
def RepF (W : Wo) : List (Str × D) → List (Str × V) → Prop
  | [], vs => vs = []
  | d :: ds, vs => ∃ v r, vs = v :: r ∧ RepFP W d v ∧ RepF W ds r
termination_by structural d => d
def RepFP (W : Wo) : Str × D → Str × V → Prop
  | (k, d), v => k = v.1 ∧ Rep W d v.2
termination_by structural d => d
end
/-- what stands still in F stands in H; a dict may be locked there -/
def Still (F H : Hp) : Prop := ∀ a o, F a = some o → H a = some o ∨ ∃ es od, o = .dK es ∧ H a = some (.frz od o)
theorem Still.refl (F : Hp) : Still F F := fun a o h => .inl h
theorem Still.trans {F G H : Hp} (a : Still F G) (b : Still G H) : Still F H := fun x o h => by
  rcases a x o h with h | ⟨es, od, e, h⟩
  · exact b x o h
  · rcases b x _ h with h | ⟨es', od', e', _⟩
    · exact .inr ⟨es, od, e, h⟩
    · cases e'
/-- more stands still, more cells -/
structure Le (W W' : Wo) : Prop where
  K : W'.K = W.K
  CA : W'.CA = W.CA
  F : Still W.F W'.F
  mu : ∀ (n : Nat) a, W.mu[n]? = some a → W'.mu[n]? = some a
  G : W'.G = W.G
theorem Le.refl (W : Wo) : Le W W := ⟨rfl, rfl, Still.refl _, fun _ _ h => h, rfl⟩
theorem Le.trans {W W1 W2 : Wo} (a : Le W W1) (b : Le W1 W2) : Le W W2 := ⟨b.K.trans a.K, b.CA.trans a.CA, a.F.trans b.F, fun n x h => b.mu n x (a.mu n x h), b.G.trans a.G⟩
/-- the same but for what is kept apart -/
structure Li (W W' : Wo) : Prop where
  K : W'.K = W.K
  CA : W'.CA = W.CA
  F : Still W.F W'.F
  mu : ∀ (n : Nat) a, W.mu[n]? = some a → W'.mu[n]? = some a
theorem Le.li {W W' : Wo} (l : Le W W') : Li W W' := ⟨l.K, l.CA, l.F, l.mu⟩
theorem rd_mono {F F' : Hp} {a : Addr} {xs : List V} (h : Still F F') (r : Rd F a (.lst xs)) : Rd F' a (.lst xs) := by
  rcases r with r | ⟨o, r⟩
  · rcases h _ _ r with q | ⟨_, _, z, _⟩
    · exact .inl q
    · cases z
  · rcases h _ _ r with q | ⟨_, _, z, _⟩
    · exact .inr ⟨o, q⟩
    · cases z
theorem rdK_mono {F F' : Hp} {a : Addr} {xs : List (Key × V)} (h : Still F F') (r : Rd F a (.dK xs)) : Rd F' a (.dK xs) := by
  rcases r with r | ⟨o, r⟩
  · rcases h _ _ r with q | ⟨_, od, _, q⟩
    · exact .inl q
    · exact .inr ⟨od, q⟩
  · rcases h _ _ r with q | ⟨_, _, z, _⟩
    · exact .inr ⟨o, q⟩
    · cases z
theorem in_mono {F F' : Hp} {a : Addr} {o : HO} (h : Still F F') (hn : ∀ es, o ≠ .dK es) (r : F a = some o) : F' a = some o := by
  rcases h _ _ r with q | ⟨es, _, z, _⟩
  · exact q
  · exact absurd z (hn es)
theorem sqL_mono {K : PySem.W.Frag} {F F' : Hp} {a : Addr} {xs : List V} (h : Still F F') (r : SqL K F a xs) : SqL K F' a xs := r.imp (rd_mono h) id
theorem rdT_mono {F F' : Hp} {a : Addr} {xs : List V} (h : Still F F') (r : Rd F a (.tup xs)) : Rd F' a (.tup xs) := by
  rcases r with r | ⟨o, r⟩
  · exact .inl (in_mono h (fun _ z => nomatch z) r)
  · exact .inr ⟨o, in_mono h (fun _ z => nomatch z) r⟩
theorem sqT_mono {K : PySem.W.Frag} {F F' : Hp} {a : Addr} {xs : List V} (h : Still F F') (r : SqT K F a xs) : SqT K F' a xs := r.imp (rdT_mono h) id
mutual
theorem Rep.mono' {W W' : Wo} (l : Li W W') : ∀ {d : D} {v : V}, Rep W d v → Rep W' d v
  | .non, _, h => by simpa only [Rep] using h
  | .bl _, _, h => by simpa only [Rep] using h
  | .int _, _, h => by simpa only [Rep] using h
  | .str _, _, h => by simpa only [Rep] using h
  | .tup ds, _, h => by
    simp only [Rep] at h ⊢
    obtain ⟨a, xs, e, s, r⟩ := h
    rw [l.K]
    exact ⟨a, xs, e, sqT_mono l.F s, RepL.mono' l r⟩
  | .lst ds, _, h => by
    simp only [Rep] at h ⊢
    obtain ⟨a, xs, e, s, r⟩ := h
    exact ⟨a, xs, e, rd_mono l.F s, RepL.mono' l r⟩
  | .dct kvs, _, h => by
    simp only [Rep] at h ⊢
    obtain ⟨a, es, e, s, r⟩ := h
    exact ⟨a, es, e, rdK_mono l.F s, RepK.mono' l r⟩
  | .obj C fs, _, h => by
    simp only [Rep] at h ⊢
    obtain ⟨a, dx, es, e, s, r⟩ := h
    rw [l.CA]
    exact ⟨a, dx, es, e, in_mono l.F (fun _ z => nomatch z) s, RepF.mono' l r⟩
  | .loc n, _, h => by
    simp only [Rep] at h ⊢
    obtain ⟨a, e, r⟩ := h
    exact ⟨a, l.mu _ _ e, r⟩
  | .nkd, _, h => by
    simp only [Rep] at h ⊢
    obtain ⟨a, od, e, s⟩ := h
    exact ⟨a, od, e, in_mono l.F (fun _ z => nomatch z) s⟩
  | .cls C, _, h => by
    simp only [Rep] at h ⊢
    rw [l.CA]
    exact h
termination_by structural d => d
theorem RepL.mono' {W W' : Wo} (l : Li W W') : ∀ {ds : List D} {vs : List V}, RepL W ds vs → RepL W' ds vs
  | [], _, h => by simpa only [RepL] using h
  | d :: ds, _, h => by
    simp only [RepL] at h ⊢
    obtain ⟨v, r, e, h1, h2⟩ := h
    exact ⟨v, r, e, Rep.mono' l h1, RepL.mono' l h2⟩
termination_by structural ds => ds
theorem RepK.mono' {W W' : Wo} (l : Li W W') : ∀ {ds : List (Key × D)} {vs : List (Key × V)}, RepK W ds vs → RepK W' ds vs
  | [], _, h => by simpa only [RepK] using h
  | d :: ds, _, h => by
    simp only [RepK] at h ⊢
    obtain ⟨v, r, e, h1, h2⟩ := h
    exact ⟨v, r, e, RepKP.mono' l h1, RepK.mono' l h2⟩
termination_by structural ds => ds
theorem RepKP.mono' {W W' : Wo} (l : Li W W') : ∀ {d : Key × D} {v : Key × V}, RepKP W d v → RepKP W' d v
  | (k, d), _, h => by
    simp only [RepKP] at h ⊢
    exact ⟨h.1, Rep.mono' l h.2⟩
termination_by structural d => d
theorem RepF.mono' {W W' : Wo} (l : Li W W') : ∀ {ds : List (Str × D)} {vs : List (Str × V)}, RepF W ds vs → RepF W' ds vs
  | [], _, h => by simpa only [RepF] using h
  | d :: ds, _, h => by
    simp only [RepF] at h ⊢
    obtain ⟨v, r, e, h1, h2⟩ := h
    exact ⟨v, r, e, RepFP.mono' l h1, RepF.mono' l h2⟩
termination_by structural ds => ds
theorem RepFP.mono' {W W' : Wo} (l : Li W W') : ∀ {d : Str × D} {v : Str × V}, RepFP W d v → RepFP W' d v
  | (k, d), _, h => by
    simp only [RepFP] at h ⊢
    exact ⟨h.1, Rep.mono' l h.2⟩
termination_by structural d => d
end
theorem Rep.mono {W W' : Wo} (l : Le W W') {d : D} {v : V} (h : Rep W d v) : Rep W' d v := h.mono' l.li
theorem RepL.mono {W W' : Wo} (l : Le W W') {d : List D} {v : List V} (h : RepL W d v) : RepL W' d v := h.mono' l.li
theorem RepK.mono {W W' : Wo} (l : Le W W') {d : List (Key × D)} {v : List (Key × V)} (h : RepK W d v) : RepK W' d v := h.mono' l.li
theorem RepF.mono {W W' : Wo} (l : Le W W') {d : List (Str × D)} {v : List (Str × V)} (h : RepF W d v) : RepF W' d v := h.mono' l.li
theorem RepL.length {W : Wo} : ∀ {ds : List D} {vs : List V}, RepL W ds vs → vs.length = ds.length
  | [], _, h => by
    simp only [RepL] at h
    rw [h]
    rfl
  | d :: ds, _, h => by
    simp only [RepL] at h
    obtain ⟨v, r, rfl, _, h2⟩ := h
    rw [List.length_cons, List.length_cons, RepL.length h2]
theorem RepL.append {W : Wo} : ∀ {ds es : List D} {vs us : List V}, RepL W ds vs → RepL W es us → RepL W (ds ++ es) (vs ++ us)
  | [], _, _, _, h, h' => by
    simp only [RepL] at h
    rw [h]
    exact h'
  | d :: ds, _, _, _, h, h' => by
    simp only [RepL] at h
    obtain ⟨v, r, rfl, h1, h2⟩ := h
    rw [List.cons_append, List.cons_append]
    simp only [RepL]
    exact ⟨v, _, rfl, h1, h2.append h'⟩
theorem RepL.get {W : Wo} : ∀ {ds : List D} {vs : List V} {i : Nat} {d : D}, RepL W ds vs → ds[i]? = some d → ∃ v, vs[i]? = some v ∧ Rep W d v
  | [], _, _, _, _, e => by simp at e
  | d :: ds, _, 0, _, h, e => by
    simp only [RepL] at h
    obtain ⟨v, r, rfl, h1, _⟩ := h
    simp at e
    subst e
    exact ⟨v, rfl, h1⟩
  | d :: ds, _, i + 1, _, h, e => by
    simp only [RepL] at h
    obtain ⟨v, r, rfl, _, h2⟩ := h
    obtain ⟨u, e1, e2⟩ := RepL.get (i := i) h2 (by simpa using e)
    exact ⟨u, by simpa using e1, e2⟩
theorem RepL.take {W : Wo} : ∀ {ds : List D} {vs : List V} (n : Nat), RepL W ds vs → RepL W (ds.take n) (vs.take n)
  | [], _, n, h => by
    simp only [RepL] at h
    rw [h, List.take_nil, List.take_nil]
    simp only [RepL]
  | d :: ds, _, 0, h => by simp [RepL]
  | d :: ds, _, n + 1, h => by
    simp only [RepL] at h
    obtain ⟨v, r, rfl, h1, h2⟩ := h
    simp only [List.take_succ_cons, RepL]
    exact ⟨v, _, rfl, h1, h2.take n⟩
theorem RepL.drop {W : Wo} : ∀ {ds : List D} {vs : List V} (n : Nat), RepL W ds vs → RepL W (ds.drop n) (vs.drop n)
  | [], _, n, h => by
    simp only [RepL] at h
    rw [h, List.drop_nil, List.drop_nil]
    simp only [RepL]
  | d :: ds, _, 0, h => h
  | d :: ds, _, n + 1, h => by
    simp only [RepL] at h
    obtain ⟨v, r, rfl, h1, h2⟩ := h
    exact h2.drop n
theorem RepL.set {W : Wo} {d : D} {v : V} (q : Rep W d v) : ∀ {ds : List D} {vs : List V} (n : Nat), RepL W ds vs → RepL W (ds.set n d) (vs.set n v)
  | [], _, n, h => by
    simp only [RepL] at h
    rw [h]
    simp [RepL]
  | _ :: ds, _, 0, h => by
    simp only [RepL] at h
    obtain ⟨u, r, rfl, h1, h2⟩ := h
    simp only [List.set_cons_zero, RepL]
    exact ⟨v, _, rfl, q, h2⟩
  | _ :: ds, _, n + 1, h => by
    simp only [RepL] at h
    obtain ⟨u, r, rfl, h1, h2⟩ := h
    simp only [List.set_cons_succ, RepL]
    exact ⟨u, _, rfl, h1, RepL.set q n h2⟩
theorem RepL.reverse {W : Wo} : ∀ {ds : List D} {vs : List V}, RepL W ds vs → RepL W ds.reverse vs.reverse
  | [], _, h => by
    simp only [RepL] at h
    rw [h]
    simp [RepL]
  | d :: ds, _, h => by
    simp only [RepL] at h
    obtain ⟨u, r, rfl, h1, h2⟩ := h
    rw [List.reverse_cons, List.reverse_cons]
    exact h2.reverse.append (by simp only [RepL]; exact ⟨u, [], rfl, h1, rfl⟩)
theorem RepL.rep {W : Wo} {ds : List D} {vs : List V} (h : RepL W ds vs) : ∀ n : Nat, RepL W (List.replicate n ds).flatten (List.replicate n vs).flatten
  | 0 => by simp [RepL]
  | n + 1 => by
    rw [List.replicate_succ, List.replicate_succ, List.flatten_cons, List.flatten_cons]
    exact h.append (h.rep n)
theorem RepL.snoc {W : Wo} {ds : List D} {vs : List V} {d : D} {v : V} (h : RepL W ds vs) (q : Rep W d v) : RepL W (ds ++ [d]) (vs ++ [v]) :=
  h.append (by simp only [RepL]; exact ⟨v, [], rfl, q, rfl⟩)
theorem RepL.nil {W : Wo} : RepL W [] [] := by simp only [RepL]
theorem RepL.cons {W : Wo} {ds : List D} {vs : List V} {d : D} {v : V} (q : Rep W d v) (h : RepL W ds vs) : RepL W (d :: ds) (v :: vs) := by
  simp only [RepL]
  exact ⟨v, vs, rfl, q, h⟩
/-- flat lists -/
theorem RepL.strs {W : Wo} : ∀ {ds : List D} {vs : List V} {xs : List Str}, RepL W ds vs → strsOf ds = some xs → vs = xs.map V.str
  | [], _, _, h, e => by
    simp only [RepL] at h
    simp only [strsOf, Option.some.injEq] at e
    rw [h, ← e]
    rfl
  | .str x :: ds, _, _, h, e => by
    simp only [RepL, Rep] at h
    obtain ⟨v, r, rfl, rfl, h2⟩ := h
    simp only [strsOf, Option.map_eq_some_iff] at e
    obtain ⟨ys, e1, rfl⟩ := e
    rw [RepL.strs h2 e1]
    rfl
  | .non :: _, _, _, _, e | .bl _ :: _, _, _, _, e | .int _ :: _, _, _, _, e | .tup _ :: _, _, _, _, e | .lst _ :: _, _, _, _, e | .dct _ :: _, _, _, _, e | .obj _ _ :: _, _, _, _, e | .loc _ :: _, _, _, _, e | .nkd :: _, _, _, _, e | .cls _ :: _, _, _, _, e => by simp [strsOf] at e
theorem RepL.ints {W : Wo} : ∀ {ds : List D} {vs : List V} {xs : List Int}, RepL W ds vs → intsOf ds = some xs → vs = xs.map V.int
  | [], _, _, h, e => by
    simp only [RepL] at h
    simp only [intsOf, Option.some.injEq] at e
    rw [h, ← e]
    rfl
  | .int x :: ds, _, _, h, e => by
    simp only [RepL, Rep] at h
    obtain ⟨v, r, rfl, rfl, h2⟩ := h
    simp only [intsOf, Option.map_eq_some_iff] at e
    obtain ⟨ys, e1, rfl⟩ := e
    rw [RepL.ints h2 e1]
    rfl
  | .non :: _, _, _, _, e | .bl _ :: _, _, _, _, e | .str _ :: _, _, _, _, e | .tup _ :: _, _, _, _, e | .lst _ :: _, _, _, _, e | .dct _ :: _, _, _, _, e | .obj _ _ :: _, _, _, _, e | .loc _ :: _, _, _, _, e | .nkd :: _, _, _, _, e | .cls _ :: _, _, _, _, e => by simp [intsOf] at e
theorem RepL.bls {W : Wo} : ∀ {ds : List D} {vs : List V} {xs : List Bool}, RepL W ds vs → blsOf ds = some xs → vs = xs.map V.bl
  | [], _, _, h, e => by
    simp only [RepL] at h
    simp only [blsOf, Option.some.injEq] at e
    rw [h, ← e]
    rfl
  | .bl x :: ds, _, _, h, e => by
    simp only [RepL, Rep] at h
    obtain ⟨v, r, rfl, rfl, h2⟩ := h
    simp only [blsOf, Option.map_eq_some_iff] at e
    obtain ⟨ys, e1, rfl⟩ := e
    rw [RepL.bls h2 e1]
    rfl
  | .non :: _, _, _, _, e | .int _ :: _, _, _, _, e | .str _ :: _, _, _, _, e | .tup _ :: _, _, _, _, e | .lst _ :: _, _, _, _, e | .dct _ :: _, _, _, _, e | .obj _ _ :: _, _, _, _, e | .loc _ :: _, _, _, _, e | .nkd :: _, _, _, _, e | .cls _ :: _, _, _, _, e => by simp [blsOf] at e
theorem RepL.of_strs {W : Wo} : ∀ xs : List Str, RepL W (xs.map D.str) (xs.map V.str)
  | [] => .nil
  | _ :: r => .cons (by simp only [Rep]) (RepL.of_strs r)
theorem RepL.of_ints {W : Wo} : ∀ xs : List Int, RepL W (xs.map D.int) (xs.map V.int)
  | [] => .nil
  | _ :: r => .cons (by simp only [Rep]) (RepL.of_ints r)
theorem flatD_V {W : Wo} {d : D} {v : V} (h : Rep W d v) (f : flatD d = true) : flatV v = true := by
  cases d <;> simp only [Rep] at h <;> first | (subst h; rfl) | exact absurd f Bool.false_ne_true
theorem flatL_V {W : Wo} : ∀ {ds : List D} {vs : List V}, RepL W ds vs → ds.all flatD = true → vs.all flatV = true
  | [], _, h, _ => by
    simp only [RepL] at h
    rw [h]
    rfl
  | d :: ds, _, h, f => by
    simp only [RepL] at h
    obtain ⟨v, r, rfl, h1, h2⟩ := h
    rw [List.all_cons, Bool.and_eq_true] at f ⊢
    exact ⟨flatD_V h1 f.1, flatL_V h2 f.2⟩
theorem eqF_V {W : Wo} {d e : D} {v u : V} (h : Rep W d v) (h' : Rep W e u) (f : flatD d = true) (f' : flatD e = true) : eqV v u = eqF d e := by
  cases d <;> first | exact absurd f Bool.false_ne_true | skip
  all_goals
    simp only [Rep] at h
    subst h
    cases e <;> first | exact absurd f' Bool.false_ne_true | skip
    all_goals
      simp only [Rep] at h'
      subst h'
      rfl
theorem inF_V {W : Wo} {e : D} {u : V} (h' : Rep W e u) (f' : flatD e = true) : ∀ {ds : List D} {vs : List V}, RepL W ds vs → ds.all flatD = true → inV u vs = ds.any fun y => eqF y e
  | [], _, h, _ => by
    simp only [RepL] at h
    rw [h]
    rfl
  | d :: ds, _, h, f => by
    simp only [RepL] at h
    obtain ⟨v, r, rfl, h1, h2⟩ := h
    rw [List.all_cons, Bool.and_eq_true] at f
    have ih := inF_V h' f' h2 f.2
    unfold inV at ih ⊢
    rw [List.any_cons, List.any_cons, ih, eqF_V h1 h' f.1 f']
/-- keys -/
theorem keyOf_V {W : Wo} {d : D} {v : V} {k : Key} (h : Rep W d v) (e : keyOf d = some k) : v = kV k := by
  cases d <;> simp only [keyOf, Option.some.injEq, reduceCtorEq] at e
  all_goals
    subst e
    simp only [Rep] at h
    exact h
theorem ofKey_V {W : Wo} (k : Key) : Rep W (ofKey k) (kV k) := by
  cases k <;> simp only [ofKey, Rep, kV]
theorem RepK.keys {W : Wo} : ∀ {ds : List (Key × D)} {vs : List (Key × V)}, RepK W ds vs → vs.map (·.1) = ds.map (·.1)
  | [], _, h => by
    simp only [RepK] at h
    rw [h]
    rfl
  | (k, d) :: ds, _, h => by
    simp only [RepK, RepKP] at h
    obtain ⟨v, r, rfl, ⟨rfl, _⟩, h2⟩ := h
    rw [List.map_cons, List.map_cons, h2.keys]
theorem RepK.length {W : Wo} {ds : List (Key × D)} {vs : List (Key × V)} (h : RepK W ds vs) : vs.length = ds.length := by
  have q := congrArg List.length h.keys
  simpa using q
theorem RepK.get {W : Wo} : ∀ {ds : List (Key × D)} {vs : List (Key × V)} (k : Key), RepK W ds vs → (getK ds k = none ∧ valV vs k = none) ∨ ∃ d v, getK ds k = some d ∧ valV vs k = some v ∧ Rep W d v
  | [], _, k, h => by
    simp only [RepK] at h
    subst h
    exact .inl ⟨rfl, rfl⟩
  | (l, d) :: ds, _, k, h => by
    simp only [RepK, RepKP] at h
    obtain ⟨v, r, rfl, ⟨rfl, h1⟩, h2⟩ := h
    by_cases e : v.1 = k
    · exact .inr ⟨d, v.2, by simp [getK, e], valV_pos e, h1⟩
    · have e1 : getK ((v.1, d) :: ds) k = getK ds k := by simp [getK, e]
      rw [e1, valV_neg e]
      exact h2.get k
theorem RepK.mem_any {W : Wo} {ds : List (Key × D)} {vs : List (Key × V)} (h : RepK W ds vs) (k : Key) : (vs.any fun kv => decide (kv.1 = k)) = ds.any fun kv => decide (kv.1 = k) := by
  have e1 : (vs.any fun kv => decide (kv.1 = k)) = (vs.map (·.1)).any fun x => decide (x = k) := by rw [List.any_map]; rfl
  have e2 : (ds.any fun kv => decide (kv.1 = k)) = (ds.map (·.1)).any fun x => decide (x = k) := by rw [List.any_map]; rfl
  rw [e1, e2, h.keys]
theorem RepK.append {W : Wo} : ∀ {ds es : List (Key × D)} {vs us : List (Key × V)}, RepK W ds vs → RepK W es us → RepK W (ds ++ es) (vs ++ us)
  | [], _, _, _, h, h' => by
    simp only [RepK] at h
    rw [h]
    exact h'
  | d :: ds, _, _, _, h, h' => by
    simp only [RepK] at h
    obtain ⟨v, r, rfl, h1, h2⟩ := h
    rw [List.cons_append, List.cons_append]
    simp only [RepK]
    exact ⟨v, _, rfl, h1, h2.append h'⟩
theorem RepK.put {W : Wo} {ds : List (Key × D)} {vs : List (Key × V)} {k : Key} {d : D} {v : V} (h : RepK W ds vs) (q : Rep W d v) : RepK W (putKD ds k d) (putK vs k v) := by
  unfold putKD putK
  rw [h.mem_any k]
  split
  · have go : ∀ {ds : List (Key × D)} {vs : List (Key × V)}, RepK W ds vs → RepK W (ds.map fun kv => if kv.1 = k then (kv.1, d) else kv) (vs.map fun kv => if kv.1 = k then (kv.1, v) else kv) := by
      intro ds
      induction ds with
      | nil =>
        intro vs h
        simp only [RepK] at h
        rw [h]
        simp [RepK]
      | cons p ds ih =>
        obtain ⟨l, e⟩ := p
        intro vs h
        simp only [RepK, RepKP] at h
        obtain ⟨u, r, rfl, ⟨rfl, h1⟩, h2⟩ := h
        rw [List.map_cons, List.map_cons]
        simp only [RepK]
        refine ⟨_, _, rfl, ?_, ih h2⟩
        by_cases e1 : u.1 = k
        · rw [if_pos e1, if_pos e1]
          simp only [RepKP]
          exact ⟨trivial, q⟩
        · rw [if_neg e1, if_neg e1]
          simp only [RepKP]
          exact ⟨trivial, h1⟩
    exact go h
  · exact h.append (by simp only [RepK, RepKP]; exact ⟨(k, v), [], rfl, ⟨rfl, q⟩, rfl⟩)
theorem RepK.merge {W : Wo} : ∀ (es : List (Key × D)) {us : List (Key × V)} {ds : List (Key × D)} {vs : List (Key × V)}, RepK W ds vs → RepK W es us → RepK W (mergeD ds es) (mergeK vs us)
  | [], _, _, _, h, h' => by
    simp only [RepK] at h'
    rw [h']
    exact h
  | (k, d) :: es, _, ds, vs, h, h' => by
    simp only [RepK, RepKP] at h'
    obtain ⟨v, r, rfl, ⟨rfl, h1⟩, h2⟩ := h'
    have q := RepK.merge es (h.put (k := v.1) h1) h2
    exact q
theorem RepK.nil {W : Wo} : RepK W [] [] := by simp only [RepK]
theorem RepK.cons {W : Wo} {ds : List (Key × D)} {vs : List (Key × V)} {k : Key} {d : D} {v : V} (q : Rep W d v) (h : RepK W ds vs) : RepK W ((k, d) :: ds) ((k, v) :: vs) := by
  simp only [RepK, RepKP]
  exact ⟨_, vs, rfl, ⟨rfl, q⟩, h⟩
theorem RepK.keysL {W : Wo} : ∀ {ds : List (Key × D)} {vs : List (Key × V)}, RepK W ds vs → RepL W (ds.map fun kv => ofKey kv.1) (vs.map fun kv => kV kv.1)
  | [], _, h => by
    simp only [RepK] at h
    rw [h]
    exact .nil
  | (k, d) :: ds, _, h => by
    simp only [RepK, RepKP] at h
    obtain ⟨v, r, rfl, ⟨rfl, _⟩, h2⟩ := h
    exact .cons (ofKey_V _) h2.keysL

theorem RepF.nil {W : Wo} : RepF W [] [] := by simp only [RepF]
theorem RepF.look {W : Wo} {x : Str} : ∀ {fs : List (Str × D)} {es : List (Str × V)}, RepF W fs es → (fs.lookup x = none ∧ es.lookup x = none) ∨ ∃ d v, fs.lookup x = some d ∧ es.lookup x = some v ∧ Rep W d v
  | [], _, h => by
    simp only [RepF] at h
    subst h
    exact .inl ⟨rfl, rfl⟩
  | (k, d) :: fs, _, h => by
    simp only [RepF, RepFP] at h
    obtain ⟨v, r, rfl, ⟨rfl, h1⟩, h2⟩ := h
    obtain ⟨k, u⟩ := v
    cases e : (x == k) with
    | true => exact .inr ⟨d, u, by simp only [List.lookup, e], by simp only [List.lookup, e], h1⟩
    | false =>
      simp only [List.lookup, e]
      exact h2.look
theorem RepF.put {W : Wo} {f : Str} {d : D} {v : V} (q : Rep W d v) : ∀ {fs : List (Str × D)} {es : List (Str × V)}, RepF W fs es → RepF W (putFD f d fs) (putF f v es)
  | [], _, h => by
    simp only [RepF] at h
    subst h
    simp only [putFD, putF, RepF, RepFP]
    exact ⟨(f, v), [], rfl, ⟨rfl, q⟩, rfl⟩
  | (k, c) :: fs, _, h => by
    simp only [RepF, RepFP] at h
    obtain ⟨u, r, rfl, ⟨rfl, h1⟩, h2⟩ := h
    obtain ⟨k, u⟩ := u
    simp only [putFD, putF]
    by_cases e : k = f
    · rw [if_pos e, if_pos e]
      simp only [RepF, RepFP]
      exact ⟨(k, v), r, rfl, ⟨rfl, q⟩, h2⟩
    · rw [if_neg e, if_neg e]
      simp only [RepF, RepFP]
      exact ⟨(k, u), _, rfl, ⟨rfl, h1⟩, h2.put q⟩
theorem RepF.length {W : Wo} : ∀ {fs : List (Str × D)} {es : List (Str × V)}, RepF W fs es → es.length = fs.length
  | [], _, h => by
    simp only [RepF] at h
    rw [h]
    rfl
  | (k, d) :: fs, _, h => by
    simp only [RepF, RepFP] at h
    obtain ⟨v, r, rfl, _, h2⟩ := h
    rw [List.length_cons, List.length_cons, h2.length]
/-! ### the cells -/
def CellOk (W : Wo) (H : Hp) (a : Addr) : Cell → Prop
  | .lst ds => W.F a = none ∧ ∃ vs, H a = some (.lst vs) ∧ RepL W ds vs
  | .dct kvs => W.F a = none ∧ ∃ es, H a = some (.dK es) ∧ RepK W kvs es
  | .ins C fs => W.F a = none ∧ ∃ dx es, H a = some (.ins (W.CA C) dx es) ∧ RepF W fs es
  | .dead => True
/-- the still heap is held (a dict may be locked) -/
structure SR (W : Wo) (st : Store) (H : Hp) : Prop where
  still : Still W.F H
  len : W.mu.length = st.length
  nd : W.mu.Nodup
  cell : ∀ (n : Nat) c a, st[n]? = some c → W.mu[n]? = some a → CellOk W H a c
  al : ∀ a ∈ W.mu, ∃ o, H a = some o
  fo : ∀ a o, W.G a = some o → H a = some o ∧ W.F a = none ∧ a ∉ W.mu
def SlR (W : Wo) : Slots → Sg → Prop
  | [], s => s = []
  | d :: ds, s => ∃ v r, s = v :: r ∧ (∀ x, d = some x → ∃ u, v = some u ∧ Rep W x u) ∧ SlR W ds r
theorem SlR.mono' {W W' : Wo} (l : Li W W') : ∀ {ds : Slots} {s : Sg}, SlR W ds s → SlR W' ds s
  | [], _, h => h
  | d :: ds, _, ⟨v, r, e, h1, h2⟩ => ⟨v, r, e, fun x q => let ⟨u, a, b⟩ := h1 x q; ⟨u, a, b.mono' l⟩, h2.mono' l⟩
theorem SlR.mono {W W' : Wo} (l : Le W W') {ds : Slots} {s : Sg} (h : SlR W ds s) : SlR W' ds s := h.mono' l.li
theorem SlR.length {W : Wo} : ∀ {ds : Slots} {s : Sg}, SlR W ds s → s.length = ds.length
  | [], _, h => by rw [show _ = [] from h]; rfl
  | d :: ds, _, ⟨v, r, e, h1, h2⟩ => by rw [e, List.length_cons, List.length_cons, h2.length]
theorem SlR.get {W : Wo} : ∀ {ds : Slots} {s : Sg} {i : Nat} {d : D}, SlR W ds s → ds[i]? = some (some d) → ∃ v, s[i]? = some (some v) ∧ Rep W d v
  | [], _, _, _, _, e => by simp at e
  | d :: ds, _, 0, _, ⟨v, r, rfl, h1, h2⟩, e => by
    simp at e
    obtain ⟨u, rfl, q⟩ := h1 _ e
    exact ⟨u, rfl, q⟩
  | d :: ds, _, i + 1, _, ⟨v, r, rfl, h1, h2⟩, e => by
    obtain ⟨u, a, b⟩ := SlR.get (i := i) h2 (by simpa using e)
    exact ⟨u, by simpa using a, b⟩
theorem SlR.set {W : Wo} {d : D} {v : V} (q : Rep W d v) : ∀ {ds : Slots} {s : Sg} (i : Nat), SlR W ds s → SlR W (ds.set i (some d)) (s.set i (some v))
  | [], _, _, h => by rw [show _ = [] from h]; exact rfl
  | _ :: ds, _, 0, ⟨u, r, rfl, h1, h2⟩ => ⟨some v, r, rfl, fun x e => ⟨v, rfl, by cases e; exact q⟩, h2⟩
  | _ :: ds, _, i + 1, ⟨u, r, rfl, h1, h2⟩ => ⟨u, r.set i (some v), rfl, h1, SlR.set q i h2⟩
theorem SlR.none {W : Wo} : ∀ {ds : Slots} {s : Sg} (i : Nat), SlR W ds s → SlR W (ds.set i none) (s.set i none)
  | [], _, _, h => by rw [show _ = [] from h]; exact rfl
  | _ :: ds, _, 0, ⟨u, r, rfl, h1, h2⟩ => ⟨_, r, rfl, fun x e => (nomatch e), h2⟩
  | _ :: ds, _, i + 1, ⟨u, r, rfl, h1, h2⟩ => ⟨u, r.set i Option.none, rfl, h1, SlR.none i h2⟩
theorem SlR.wipe {W : Wo} {ds : Slots} {s : Sg} (h : SlR W ds s) : ∀ vs : List Nat, SlR W (wipeD ds vs) (L2.wipe s vs)
  | [] => h
  | v :: vs => SlR.none v (SlR.wipe h vs)
theorem SlR.start {W : Wo} {N : List Str} : ∀ {ds : List D} {vs : List V}, RepL W ds vs → SlR W (ds.map some ++ List.replicate (N.length - ds.length) Option.none) (L2.start N vs) := by
  intro ds vs h
  unfold L2.start
  rw [h.length]
  have go : ∀ {ds : List D} {vs : List V} (n : Nat), RepL W ds vs → SlR W (ds.map some ++ List.replicate n Option.none) (vs.map some ++ List.replicate n Option.none) := by
    intro ds
    induction ds with
    | nil =>
      intro vs n h
      simp only [RepL] at h
      subst h
      induction n with
      | zero => exact rfl
      | succ n ih => exact ⟨_, _, rfl, fun x e => (nomatch e), ih⟩
    | cons d ds ih =>
      intro vs n h
      simp only [RepL] at h
      obtain ⟨v, r, rfl, h1, h2⟩ := h
      exact ⟨_, _, rfl, fun x e => ⟨v, rfl, by cases e; exact h1⟩, ih n h2⟩
  exact go _ h
end TM
set_option maxHeartbeats 1000000
/-! TM, part D: the operations by value. -/
namespace TM
open PySem PySem.Spec PyProof.Rows L2

/-! ### a wish about a result -/
def PostX (W : Wo) (E : XK) (C : Nat) (fs : List (Str × D)) (st : Store) : Prop :=
  ∀ W' H' dx es, Le W W' → SR W' st H' → H' dx = some (.xd es) → RepF W' fs es → E (.ref (W'.CA C)) (some dx) H'
def Post (W : Wo) (E : XK) (r : Res D) (Q : VK) : Prop := match r with
  | .ok d st => ∀ W' H' v, Le W W' → SR W' st H' → Rep W' d v → Q v H'
  | .exc C fs st => PostX W E C fs st
  | .stuck => False
def PostL (W : Wo) (E : XK) (r : Res (List D)) (Q : List V → Hp → Prop) : Prop := match r with
  | .ok d st => ∀ W' H' v, Le W W' → SR W' st H' → RepL W' d v → Q v H'
  | .exc C fs st => PostX W E C fs st
  | .stuck => False
theorem PostX.mono {W W1 : Wo} {E : XK} {C : Nat} {fs : List (Str × D)} {st : Store} (l : Le W W1) (h : PostX W E C fs st) : PostX W1 E C fs st := fun W' H' dx es l' => h W' H' dx es (l.trans l')
theorem Post.mono {W W1 : Wo} {E : XK} {r : Res D} {Q : VK} (l : Le W W1) (h : Post W E r Q) : Post W1 E r Q := by
  cases r with
  | ok d st => exact fun W' H' v l' => h W' H' v (l.trans l')
  | exc C fs st => exact PostX.mono l h
  | stuck => exact h
theorem PostL.mono {W W1 : Wo} {E : XK} {r : Res (List D)} {Q : List V → Hp → Prop} (l : Le W W1) (h : PostL W E r Q) : PostL W1 E r Q := by
  cases r with
  | ok d st => exact fun W' H' v l' => h W' H' v (l.trans l')
  | exc C fs st => exact PostX.mono l h
  | stuck => exact h
theorem post_bind {W : Wo} {E : XK} {r : Res D} {f : D → Store → Res D} {Q G : VK} (h : Post W E (r.bind f) Q)
    (k : ∀ d st1 W1 H1 v, Le W W1 → SR W1 st1 H1 → Rep W1 d v → Post W1 E (f d st1) Q → G v H1) : Post W E r G := by
  cases r with
  | ok d st => exact fun W' H' v l s q => k d st W' H' v l s q (Post.mono l h)
  | exc C fs st => exact h
  | stuck => exact h
theorem postL_bind {W : Wo} {E : XK} {r : Res (List D)} {f : List D → Store → Res D} {Q : VK} {G : List V → Hp → Prop} (h : Post W E (r.bind f) Q)
    (k : ∀ d st1 W1 H1 v, Le W W1 → SR W1 st1 H1 → RepL W1 d v → Post W1 E (f d st1) Q → G v H1) : PostL W E r G := by
  cases r with
  | ok d st => exact fun W' H' v l s q => k d st W' H' v l s q (Post.mono l h)
  | exc C fs st => exact h
  | stuck => exact h

/-! ### the relation grows -/
theorem SR.free {W : Wo} {st : Store} {H : Hp} (s : SR W st H) {p : Addr} (h : H p = none) : W.F p = none := by
  cases e : W.F p with
  | none => rfl
  | some o =>
    rcases s.still p o e with q | ⟨_, _, _, q⟩ <;> rw [q] at h <;> cases h
theorem SR.notMu {W : Wo} {st : Store} {H : Hp} (s : SR W st H) {p : Addr} (h : H p = none) : p ∉ W.mu := fun hm => by
  obtain ⟨o, e⟩ := s.al p hm
  rw [e] at h
  cases h
def Wo.still (W : Wo) (p : Addr) (o : HO) : Wo := { W with F := upd W.F p o }
def Wo.cell (W : Wo) (p : Addr) : Wo := { W with mu := W.mu ++ [p] }
theorem le_still {W : Wo} {p : Addr} {o : HO} (h : W.F p = none) : Le W (W.still p o) := by
  refine ⟨rfl, rfl, fun a u e => .inl ?_, fun _ _ e => e, rfl⟩
  show upd W.F p o a = some u
  rw [upd_ne (fun z => by rw [z, h] at e; cases e)]
  exact e
theorem le_cell {W : Wo} {p : Addr} : Le W (W.cell p) := by
  refine ⟨rfl, rfl, Still.refl _, fun n a e => ?_, rfl⟩
  show (W.mu ++ [p])[n]? = some a
  rw [List.getElem?_append_left (List.getElem?_eq_some_iff.mp e).1]
  exact e
theorem CellOk.keep {W W' : Wo} {H H' : Hp} {a : Addr} {c : Cell} (l : Li W W') (hF : W.F a = none → W'.F a = none) (hH : ∀ x o, W.F a = none → (x = a ∨ H x = some (.own a)) → H x = some o → H' x = some o) (h : CellOk W H a c) : CellOk W' H' a c := by
  cases c with
  | lst ds =>
    obtain ⟨f, vs, e, r⟩ := h
    exact ⟨hF f, vs, hH a _ f (.inl rfl) e, r.mono' l⟩
  | dct ds =>
    obtain ⟨f, vs, e, r⟩ := h
    exact ⟨hF f, vs, hH a _ f (.inl rfl) e, r.mono' l⟩
  | ins C fs =>
    obtain ⟨f, dx, vs, e, r⟩ := h
    refine ⟨hF f, dx, vs, ?_, r.mono' l⟩
    rw [l.CA]
    exact hH a _ f (.inl rfl) e
  | dead => trivial
/-- a new object that stands still -/
theorem SR.tree {W : Wo} {st : Store} {H : Hp} (s : SR W st H) {p : Addr} (h : H p = none) (o : HO) : SR (W.still p o) st (upd H p o) := by
  have hf := s.free h
  refine ⟨fun a u e => ?_, s.len, s.nd, fun n c a e1 e2 => ?_, fun a hm => ?_, fun a u e => ?_⟩
  · have e' : upd W.F p o a = some u := e
    by_cases ha : a = p
    · subst ha
      rw [upd_same] at e'
      cases e'
      exact .inl upd_same
    · rw [upd_ne ha] at e'
      rw [upd_ne ha]
      exact s.still a u e'
  · have hne : a ≠ p := fun z => s.notMu h (z ▸ List.mem_of_getElem? e2)
    refine (s.cell n c a e1 e2).keep (le_still hf).li (fun f => ?_) fun x u f hx e => ?_
    · show upd W.F p o a = none
      rw [upd_ne hne]
      exact f
    · rw [upd_ne (ne_of_none e h)]
      exact e
  · obtain ⟨u, e⟩ := s.al a hm
    exact ⟨u, by rw [upd_ne (ne_of_none e h)]; exact e⟩
  · obtain ⟨e1, e2, e3⟩ := s.fo a u e
    refine ⟨by rw [upd_ne (ne_of_none e1 h)]; exact e1, ?_, e3⟩
    show upd W.F p o a = none
    rw [upd_ne (ne_of_none e1 h)]
    exact e2
/-- a new cell -/
theorem SR.new {W : Wo} {st : Store} {H : Hp} (s : SR W st H) {p : Addr} (h : H p = none) {o : HO} {c : Cell} (hc : W.F p = none → CellOk (W.cell p) (upd H p o) p c) : SR (W.cell p) (st ++ [c]) (upd H p o) := by
  have hn := s.notMu h
  refine ⟨fun a u e => ?_, ?_, ?_, fun n c' a e1 e2 => ?_, fun a hm => ?_, fun a u e => ?_⟩
  · have e' : W.F a = some u := e
    have ha : a ≠ p := fun z => by rw [z, s.free h] at e'; cases e'
    rw [upd_ne ha]
    exact s.still a u e'
  · show (W.mu ++ [p]).length = _
    rw [List.length_append, List.length_append, s.len]
    rfl
  · show (W.mu ++ [p]).Nodup
    rw [List.nodup_append]
    exact ⟨s.nd, by simp, fun a ha b hb => by
      rw [List.mem_singleton] at hb
      subst hb
      exact fun z => hn (z ▸ ha)⟩
  · have e2' : (W.mu ++ [p])[n]? = some a := e2
    by_cases hl : n < st.length
    · rw [List.getElem?_append_left hl] at e1
      rw [List.getElem?_append_left (by rw [s.len]; exact hl)] at e2'
      have hne : a ≠ p := fun z => hn (z ▸ List.mem_of_getElem? e2')
      exact (s.cell n c' a e1 e2').keep le_cell.li id fun x u f hx e => by rw [upd_ne (ne_of_none e h)]; exact e
    · have e3 : n = st.length := by
        have := (List.getElem?_eq_some_iff.mp e1).1
        rw [List.length_append] at this
        simp at this
        omega
      subst e3
      rw [List.getElem?_append_right (Nat.le_refl _)] at e1
      rw [List.getElem?_append_right (by rw [s.len]; exact Nat.le_refl _), s.len] at e2'
      simp at e1 e2'
      subst e1 e2'
      exact hc (s.free h)
  · have hm' : a ∈ W.mu ++ [p] := hm
    rcases List.mem_append.mp hm' with hm' | hm'
    · obtain ⟨u, e⟩ := s.al a hm'
      exact ⟨u, by rw [upd_ne (ne_of_none e h)]; exact e⟩
    · rw [List.mem_singleton] at hm'
      subst hm'
      exact ⟨o, upd_same⟩
  · obtain ⟨e1, e2, e3⟩ := s.fo a u e
    refine ⟨by rw [upd_ne (ne_of_none e1 h)]; exact e1, e2, fun z => ?_⟩
    rcases List.mem_append.mp (show a ∈ W.mu ++ [p] from z) with z | z
    · exact e3 z
    · exact ne_of_none e1 h (List.mem_singleton.mp z)
theorem SR.muAt {W : Wo} {st : Store} {H : Hp} (s : SR W st H) {n : Nat} {c : Cell} (e : st[n]? = some c) : ∃ a, W.mu[n]? = some a := by
  have hl := (List.getElem?_eq_some_iff.mp e).1
  exact ⟨W.mu[n]'(by rw [s.len]; exact hl), List.getElem?_eq_getElem _⟩
theorem SR.other {W : Wo} {st : Store} {H : Hp} (s : SR W st H) {n m : Nat} {a b : Addr} (e1 : W.mu[n]? = some a) (e2 : W.mu[m]? = some b) (h : n ≠ m) : a ≠ b := fun z => by
  subst z
  obtain ⟨h1, q1⟩ := List.getElem?_eq_some_iff.mp e1
  obtain ⟨h2, q2⟩ := List.getElem?_eq_some_iff.mp e2
  exact h ((List.getElem_inj s.nd).mp (q1.trans q2.symm))
/-- a cell written -/
theorem SR.put {W : Wo} {st : Store} {H : Hp} (s : SR W st H) {n : Nat} {c c' : Cell} {a : Addr} {o : HO} (e1 : st[n]? = some c) (e2 : W.mu[n]? = some a) (hf : W.F a = none) (hno : ∀ x, H a ≠ some (.own x)) (hc : CellOk W (upd H a o) a c') :
    SR W (st.set n c') (upd H a o) := by
  have hl := (List.getElem?_eq_some_iff.mp e1).1
  refine ⟨fun b u e => ?_, by rw [List.length_set]; exact s.len, s.nd, fun m d b e3 e4 => ?_, fun b hm => ?_, fun b u e => ?_⟩
  · have hb : b ≠ a := fun z => by rw [z, hf] at e; cases e
    rw [upd_ne hb]
    exact s.still b u e
  · by_cases hm : m = n
    · subst hm
      rw [List.getElem?_set_self hl] at e3
      cases e3
      rw [e2] at e4
      cases e4
      exact hc
    · rw [List.getElem?_set_ne (fun z => hm z.symm)] at e3
      have hne := s.other e4 e2 hm
      refine (s.cell m d b e3 e4).keep (Le.refl W).li id fun x u f hx e => ?_
      rw [upd_ne]
      · exact e
      · rintro rfl
        rcases hx with z | z
        · exact hne z.symm
        · exact hno b z
  · by_cases hb : b = a
    · exact ⟨o, by rw [hb]; exact upd_same⟩
    · obtain ⟨u, e⟩ := s.al b hm
      exact ⟨u, by rw [upd_ne hb]; exact e⟩
  · obtain ⟨q1, q2, q3⟩ := s.fo b u e
    have hb : b ≠ a := fun z => q3 (z ▸ List.mem_of_getElem? e2)
    exact ⟨by rw [upd_ne hb]; exact q1, q2, q3⟩
/-- a cell comes to stand still -/
theorem SR.freeze {W : Wo} {st : Store} {H : Hp} (s : SR W st H) {n : Nat} {c : Cell} {a : Addr} {o : HO} (e1 : st[n]? = some c) (e2 : W.mu[n]? = some a) (hf : W.F a = none) (h : H a = some o) : SR (W.still a o) (st.set n .dead) H := by
  have hl := (List.getElem?_eq_some_iff.mp e1).1
  refine ⟨fun b u e => ?_, by rw [List.length_set]; exact s.len, s.nd, fun m d b e3 e4 => ?_, s.al, fun b u e => ?_⟩
  · have e' : upd W.F a o b = some u := e
    by_cases hb : b = a
    · subst hb
      rw [upd_same] at e'
      cases e'
      exact .inl h
    · rw [upd_ne hb] at e'
      exact s.still b u e'
  · by_cases hm : m = n
    · subst hm
      rw [List.getElem?_set_self hl] at e3
      cases e3
      trivial
    · rw [List.getElem?_set_ne (fun z => hm z.symm)] at e3
      have hne := s.other (show W.mu[m]? = some b from e4) e2 hm
      refine (s.cell m d b e3 e4).keep (le_still hf).li (fun f => ?_) fun x u f hx e => e
      show upd W.F a o b = none
      rw [upd_ne hne]
      exact f
  · obtain ⟨q1, q2, q3⟩ := s.fo b u e
    have hb : b ≠ a := fun z => q3 (z ▸ List.mem_of_getElem? e2)
    refine ⟨q1, ?_, q3⟩
    show upd W.F a o b = none
    rw [upd_ne hb]
    exact q2
/-- an object kept apart: laid, changed, come to stand still, come to be a cell -/
def Wo.apart (W : Wo) (p : Addr) (o : HO) : Wo := { W with G := upd W.G p o }
def Wo.with (W : Wo) (g : Hp) : Wo := { W with G := g }
theorem li_apart {W : Wo} {p : Addr} {o : HO} : Li W (W.apart p o) := ⟨rfl, rfl, Still.refl _, fun _ _ e => e⟩
theorem li_with {W : Wo} {g : Hp} : Li W (W.with g) := ⟨rfl, rfl, Still.refl _, fun _ _ e => e⟩
theorem SR.laid {W : Wo} {st : Store} {H : Hp} (s : SR W st H) {p : Addr} (h : H p = none) (o : HO) : SR (W.apart p o) st (upd H p o) := by
  have hn := s.notMu h
  refine ⟨fun a u e => ?_, s.len, s.nd, fun n c a e1 e2 => ?_, fun a hm => ?_, fun a u e => ?_⟩
  · have e' : W.F a = some u := e
    have ha : a ≠ p := fun z => by rw [z, s.free h] at e'; cases e'
    rw [upd_ne ha]
    exact s.still a u e'
  · exact (s.cell n c a e1 e2).keep li_apart id fun x u f hx e => by rw [upd_ne (ne_of_none e h)]; exact e
  · obtain ⟨u, e⟩ := s.al a hm
    exact ⟨u, by rw [upd_ne (ne_of_none e h)]; exact e⟩
  · have e' : upd W.G p o a = some u := e
    by_cases ha : a = p
    · subst ha
      rw [upd_same] at e'
      cases e'
      exact ⟨upd_same, s.free h, hn⟩
    · rw [upd_ne ha] at e'
      obtain ⟨q1, q2, q3⟩ := s.fo a u e'
      exact ⟨by rw [upd_ne ha]; exact q1, q2, q3⟩
/-- the object at p, kept apart, is let go: g is what is kept apart besides -/
theorem SR.drop {W : Wo} {st : Store} {H : Hp} (s : SR W st H) (g : Hp) (hg : ∀ a o, g a = some o → W.G a = some o) : SR (W.with g) st H :=
  ⟨s.still, s.len, s.nd, fun n c a e1 e2 => (s.cell n c a e1 e2).keep li_with id fun _ _ _ _ e => e, s.al, fun a o e => s.fo a o (hg a o e)⟩
/-- and is changed -/
theorem SR.turn {W : Wo} {st : Store} {H : Hp} (s : SR W st H) {p : Addr} {o : HO} (h : W.G p = some o) (hno : ∀ x, o ≠ .own x) (o' : HO) : SR (W.apart p o') st (upd H p o') := by
  obtain ⟨hH, hF, hn⟩ := s.fo p o h
  refine ⟨fun a u e => ?_, s.len, s.nd, fun n c a e1 e2 => ?_, fun a hm => ?_, fun a u e => ?_⟩
  · have e' : W.F a = some u := e
    have ha : a ≠ p := fun z => by rw [z, hF] at e'; cases e'
    rw [upd_ne ha]
    exact s.still a u e'
  · have hne : a ≠ p := fun z => hn (z ▸ List.mem_of_getElem? e2)
    refine (s.cell n c a e1 e2).keep li_apart id fun x u f hx e => ?_
    rw [upd_ne]
    · exact e
    · rintro rfl
      rcases hx with z | z
      · exact hne z.symm
      · rw [hH] at z
        cases z
        exact hno a rfl
  · have hne : a ≠ p := fun z => hn (z ▸ hm)
    obtain ⟨u, e⟩ := s.al a hm
    exact ⟨u, by rw [upd_ne hne]; exact e⟩
  · have e' : upd W.G p o' a = some u := e
    by_cases ha : a = p
    · subst ha
      rw [upd_same] at e'
      cases e'
      exact ⟨upd_same, hF, hn⟩
    · rw [upd_ne ha] at e'
      obtain ⟨q1, q2, q3⟩ := s.fo a u e'
      exact ⟨by rw [upd_ne ha]; exact q1, q2, q3⟩
theorem SR.settle {W : Wo} {st : Store} {H : Hp} (s : SR W st H) {p : Addr} {o : HO} (hH : H p = some o) (hF : W.F p = none) (hn : p ∉ W.mu) (hG : W.G p = none) : SR (W.still p o) st H := by
  refine ⟨fun a u e => ?_, s.len, s.nd, fun n c a e1 e2 => ?_, s.al, fun a u e => ?_⟩
  · have e' : upd W.F p o a = some u := e
    by_cases ha : a = p
    · subst ha
      rw [upd_same] at e'
      cases e'
      exact .inl hH
    · rw [upd_ne ha] at e'
      exact s.still a u e'
  · have hne : a ≠ p := fun z => hn (z ▸ List.mem_of_getElem? e2)
    refine (s.cell n c a e1 e2).keep (le_still hF).li (fun f => ?_) fun x u f hx e => e
    show upd W.F p o a = none
    rw [upd_ne hne]
    exact f
  · obtain ⟨q1, q2, q3⟩ := s.fo a u e
    have ha : a ≠ p := fun z => by
      have e' : W.G a = some u := e
      rw [z, hG] at e'
      cases e'
    refine ⟨q1, ?_, q3⟩
    show upd W.F p o a = none
    rw [upd_ne ha]
    exact q2
theorem SR.join {W : Wo} {st : Store} {H : Hp} (s : SR W st H) {p : Addr} {o : HO} {c : Cell} (hH : H p = some o) (hn : p ∉ W.mu) (hG : W.G p = none) (hc : CellOk (W.cell p) H p c) : SR (W.cell p) (st ++ [c]) H := by
  refine ⟨fun a u e => s.still a u e, ?_, ?_, fun n c' a e1 e2 => ?_, fun a hm => ?_, fun a u e => ?_⟩
  · show (W.mu ++ [p]).length = _
    rw [List.length_append, List.length_append, s.len]
    rfl
  · show (W.mu ++ [p]).Nodup
    rw [List.nodup_append]
    exact ⟨s.nd, by simp, fun a ha b hb => by
      rw [List.mem_singleton] at hb
      subst hb
      exact fun z => hn (z ▸ ha)⟩
  · have e2' : (W.mu ++ [p])[n]? = some a := e2
    by_cases hl : n < st.length
    · rw [List.getElem?_append_left hl] at e1
      rw [List.getElem?_append_left (by rw [s.len]; exact hl)] at e2'
      exact (s.cell n c' a e1 e2').keep le_cell.li id fun x u f hx e => e
    · have e3 : n = st.length := by
        have := (List.getElem?_eq_some_iff.mp e1).1
        rw [List.length_append] at this
        simp at this
        omega
      subst e3
      rw [List.getElem?_append_right (Nat.le_refl _)] at e1
      rw [List.getElem?_append_right (by rw [s.len]; exact Nat.le_refl _), s.len] at e2'
      simp at e1 e2'
      subst e1 e2'
      exact hc
  · rcases List.mem_append.mp (show a ∈ W.mu ++ [p] from hm) with hm' | hm'
    · exact s.al a hm'
    · rw [List.mem_singleton] at hm'
      subst hm'
      exact ⟨o, hH⟩
  · obtain ⟨e1, e2, e3⟩ := s.fo a u e
    refine ⟨e1, e2, fun z => ?_⟩
    rcases List.mem_append.mp (show a ∈ W.mu ++ [p] from z) with z | z
    · exact e3 z
    · have e' : W.G a = some u := e
      rw [List.mem_singleton.mp z, hG] at e'
      cases e'

/-- a dict is locked -/
def Wo.locked (W : Wo) (p : Addr) (o : HO) : Wo := { W with F := upd W.F p o }
theorem le_locked {W : Wo} {p : Addr} {es : List (Key × V)} {od : Obj} (h : W.F p = some (.dK es)) : Le W (W.locked p (.frz od (.dK es))) := by
  refine ⟨rfl, rfl, fun a u e => ?_, fun _ _ e => e, rfl⟩
  by_cases ha : a = p
  · subst ha
    rw [h] at e
    cases e
    exact .inr ⟨es, od, rfl, upd_same⟩
  · refine .inl ?_
    show upd W.F p _ a = some u
    rw [upd_ne ha]
    exact e
theorem SR.lock {W : Wo} {st : Store} {H : Hp} (s : SR W st H) {p : Addr} {es : List (Key × V)} {od : Obj} (hF : W.F p = some (.dK es)) (hH : H p = some (.dK es)) : SR (W.locked p (.frz od (.dK es))) st (upd H p (.frz od (.dK es))) := by
  have nF : ∀ {a : Addr}, W.F a = none → a ≠ p := fun {a} e z => by rw [z, hF] at e; cases e
  refine ⟨fun a u e => ?_, s.len, s.nd, fun n c a e1 e2 => ?_, fun a hm => ?_, fun a u e => ?_⟩
  · have e' : upd W.F p (.frz od (.dK es)) a = some u := e
    by_cases ha : a = p
    · subst ha
      rw [upd_same] at e'
      cases e'
      exact .inl upd_same
    · rw [upd_ne ha] at e' ⊢
      exact s.still a u e'
  · refine (s.cell n c a e1 e2).keep (le_locked hF).li (fun f => ?_) fun x u f hx e => ?_
    · show upd W.F p _ a = none
      rw [upd_ne (nF f)]
      exact f
    · rw [upd_ne]
      · exact e
      · rintro rfl
        rw [hH] at e
        rcases hx with z | z
        · exact nF f z.symm
        · rw [hH] at z
          cases z
  · obtain ⟨u, e⟩ := s.al a hm
    by_cases ha : a = p
    · exact ⟨_, by rw [ha]; exact upd_same⟩
    · exact ⟨u, by rw [upd_ne ha]; exact e⟩
  · obtain ⟨q1, q2, q3⟩ := s.fo a u e
    have ha := nF q2
    refine ⟨by rw [upd_ne ha]; exact q1, ?_, q3⟩
    show upd W.F p _ a = none
    rw [upd_ne ha]
    exact q2
/-! ### looks -/
theorem rd_H {F H : Hp} (s : Still F H) {a : Addr} {xs : List V} (h : Rd F a (.lst xs)) : Rd H a (.lst xs) := by
  rcases h with h | ⟨o, h⟩
  · rcases s _ _ h with q | ⟨_, _, z, _⟩
    · exact .inl q
    · cases z
  · rcases s _ _ h with q | ⟨_, _, z, _⟩
    · exact .inr ⟨o, q⟩
    · cases z
theorem sqT_H {K : PySem.W.Frag} {F H : Hp} (s : Still F H) {a : Addr} {xs : List V} (h : SqT K F a xs) : SqT K H a xs := by
  rcases h with (h | ⟨o, h⟩) | h
  · rcases s _ _ h with q | ⟨_, _, z, _⟩
    · exact .inl (.inl q)
    · cases z
  · rcases s _ _ h with q | ⟨_, _, z, _⟩
    · exact .inl (.inr ⟨o, q⟩)
    · cases z
  · exact .inr h
theorem rdK_H {F H : Hp} (s : Still F H) {a : Addr} {xs : List (Key × V)} (h : Rd F a (.dK xs)) : Rd H a (.dK xs) := rdK_mono s h
section
variable {W : Wo} {st : Store} {H : Hp} {d : D} {v : V}
theorem lstAt_cell {n : Nat} {xs : List D} (e : lstAt st n = some xs) : st[n]? = some (.lst xs) := by
  unfold lstAt at e
  split at e
  · cases e
    assumption
  · cases e
theorem dctAt_cell {n : Nat} {xs : List (Key × D)} (e : dctAt st n = some xs) : st[n]? = some (.dct xs) := by
  unfold dctAt at e
  split at e
  · cases e
    assumption
  · cases e
theorem SR.lstCell (s : SR W st H) {n : Nat} {xs : List D} {a : Addr} (e : st[n]? = some (.lst xs)) (ea : W.mu[n]? = some a) : W.F a = none ∧ ∃ vs, H a = some (.lst vs) ∧ RepL W xs vs := s.cell n _ a e ea
theorem SR.dctCell (s : SR W st H) {n : Nat} {xs : List (Key × D)} {a : Addr} (e : st[n]? = some (.dct xs)) (ea : W.mu[n]? = some a) : W.F a = none ∧ ∃ vs, H a = some (.dK vs) ∧ RepK W xs vs := s.cell n _ a e ea
theorem asL_V (s : SR W st H) (r : Rep W d v) {xs : List D} (e : asL d st = some xs) : ∃ a vs, v = .ref a ∧ Rd H a (.lst vs) ∧ RepL W xs vs := by
  cases d with
  | lst ds =>
    simp only [asL, Option.some.injEq] at e
    subst e
    simp only [Rep] at r
    obtain ⟨a, vs, e, h, q⟩ := r
    exact ⟨a, vs, e, rd_H s.still h, q⟩
  | loc n =>
    simp only [asL] at e
    have ec := lstAt_cell e
    simp only [Rep] at r
    obtain ⟨a, ea, rfl⟩ := r
    obtain ⟨_, vs, h, q⟩ := s.lstCell ec ea
    exact ⟨a, vs, rfl, .inl h, q⟩
  | _ => simp [asL] at e
theorem asT_V (s : SR W st H) (r : Rep W (.tup xs) v) : ∃ a vs, v = .ref a ∧ SqT W.K H a vs ∧ RepL W xs vs := by
  simp only [Rep] at r
  obtain ⟨a, vs, e, h, q⟩ := r
  exact ⟨a, vs, e, sqT_H s.still h, q⟩
theorem asK_V (s : SR W st H) (r : Rep W d v) {xs : List (Key × D)} (e : asK d st = some xs) : ∃ a vs, v = .ref a ∧ Rd H a (.dK vs) ∧ RepK W xs vs := by
  cases d with
  | dct ds =>
    simp only [asK, Option.some.injEq] at e
    subst e
    simp only [Rep] at r
    obtain ⟨a, vs, e, h, q⟩ := r
    exact ⟨a, vs, e, rdK_H s.still h, q⟩
  | loc n =>
    simp only [asK] at e
    have ec := dctAt_cell e
    simp only [Rep] at r
    obtain ⟨a, ea, rfl⟩ := r
    obtain ⟨_, vs, h, q⟩ := s.dctCell ec ea
    exact ⟨a, vs, rfl, .inl h, q⟩
  | _ => simp [asK] at e
theorem asQ_V (s : SR W st H) (r : Rep W d v) {xs : List D} (e : asQ d st = some xs) : ∃ a vs, v = .ref a ∧ (SqL W.K H a vs ∨ SqT W.K H a vs) ∧ RepL W xs vs := by
  cases d with
  | tup ds =>
    simp only [asQ, Option.some.injEq] at e
    subst e
    obtain ⟨a, vs, e, h, q⟩ := asT_V s r
    exact ⟨a, vs, e, .inr h, q⟩
  | _ =>
    obtain ⟨a, vs, e, h, q⟩ := asL_V s r (xs := xs) (by simpa [asQ] using e)
    exact ⟨a, vs, e, .inl (.inl h), q⟩
end
/-- a result that is a new tree, a new cell -/
theorem post_lst {W : Wo} {st : Store} {H : Hp} {E : XK} {Q : VK} {xs : List D} {vs : List V} (s : SR W st H) (r : RepL W xs vs) (h : Post W E (.ok (.lst xs) st) Q) : ∀ p, H p = none → Q (.ref p) (upd H p (.lst vs)) := fun p hp => by
  have l := le_still (o := .lst vs) (s.free hp)
  exact h _ _ _ l (s.tree hp _) (by simp only [Rep]; exact ⟨p, vs, rfl, .inl upd_same, r.mono l⟩)
theorem post_tup {W : Wo} {st : Store} {H : Hp} {E : XK} {Q : VK} {xs : List D} {vs : List V} (s : SR W st H) (r : RepL W xs vs) (h : Post W E (.ok (.tup xs) st) Q) : ∀ p, H p = none → Q (.ref p) (upd H p (.tup vs)) := fun p hp => by
  have l := le_still (o := .tup vs) (s.free hp)
  exact h _ _ _ l (s.tree hp _) (by simp only [Rep]; exact ⟨p, vs, rfl, .inl (.inl upd_same), r.mono l⟩)
theorem post_dct {W : Wo} {st : Store} {H : Hp} {E : XK} {Q : VK} {xs : List (Key × D)} {vs : List (Key × V)} (s : SR W st H) (r : RepK W xs vs) (h : Post W E (.ok (.dct xs) st) Q) : ∀ p, H p = none → Q (.ref p) (upd H p (.dK vs)) := fun p hp => by
  have l := le_still (o := .dK vs) (s.free hp)
  exact h _ _ _ l (s.tree hp _) (by simp only [Rep]; exact ⟨p, vs, rfl, .inl upd_same, r.mono l⟩)
theorem post_mkL {W : Wo} {st : Store} {H : Hp} {E : XK} {Q : VK} {mt : Bool} {xs : List D} {vs : List V} (s : SR W st H) (r : RepL W xs vs) (h : Post W E (mkL mt xs st) Q) : ∀ p, H p = none → Q (.ref p) (upd H p (.lst vs)) := fun p hp => by
  cases mt with
  | false => exact post_lst s r (by simpa [mkL] using h) p hp
  | true =>
    have h' : Post W E (.ok (.loc st.length) (st ++ [.lst xs])) Q := by simpa [mkL] using h
    refine h' (W.cell p) _ _ le_cell (s.new hp fun f => ⟨f, vs, upd_same, r.mono le_cell⟩) ?_
    simp only [Rep]
    refine ⟨p, ?_, rfl⟩
    show (W.mu ++ [p])[st.length]? = some p
    rw [← s.len, List.getElem?_append_right (Nat.le_refl _)]
    simp
theorem post_mkK {W : Wo} {st : Store} {H : Hp} {E : XK} {Q : VK} {mt : Bool} {xs : List (Key × D)} {vs : List (Key × V)} (s : SR W st H) (r : RepK W xs vs) (h : Post W E (mkK mt xs st) Q) : ∀ p, H p = none → Q (.ref p) (upd H p (.dK vs)) := fun p hp => by
  cases mt with
  | false => exact post_dct s r (by simpa [mkK] using h) p hp
  | true =>
    have h' : Post W E (.ok (.loc st.length) (st ++ [.dct xs])) Q := by simpa [mkK] using h
    refine h' (W.cell p) _ _ le_cell (s.new hp fun f => ⟨f, vs, upd_same, r.mono le_cell⟩) ?_
    simp only [Rep]
    refine ⟨p, ?_, rfl⟩
    show (W.mu ++ [p])[st.length]? = some p
    rw [← s.len, List.getElem?_append_right (Nat.le_refl _)]
    simp
theorem post_here {W : Wo} {st : Store} {H : Hp} {E : XK} {Q : VK} {d : D} {v : V} (s : SR W st H) (r : Rep W d v) (h : Post W E (.ok d st) Q) : Q v H := h W H v (Le.refl W) s r
theorem sr_extra {W : Wo} {st : Store} {H : Hp} (s : SR W st H) {p : Addr} (h : H p = none) (o : HO) : SR W st (upd H p o) := by
  have q := (s.laid h o).drop W.G fun b u e => by
    show upd W.G p o b = some u
    rw [upd_ne]
    · exact e
    · rintro rfl
      rw [(s.fo b u e).1] at h
      cases h
  exact q
/-- a new instance -/
theorem SR.newIns {W : Wo} {st : Store} {H : Hp} (s : SR W st H) {x dx : Addr} (hx : H x = none) (hd : H dx = none) (ne : dx ≠ x) (C : Nat) : SR (W.cell x) (st ++ [.ins C []]) (upd (upd H dx (.own x)) x (.ins (W.CA C) dx [])) := by
  refine (sr_extra s hd (.own x)).new (by rw [upd_ne (fun z => ne z.symm)]; exact hx) fun f => ⟨f, dx, [], upd_same, RepF.nil⟩
theorem new_at {W : Wo} {st : Store} {H : Hp} (s : SR W st H) {x : Addr} : (W.cell x).mu[st.length]? = some x := by
  show (W.mu ++ [x])[st.length]? = some x
  rw [← s.len, List.getElem?_append_right (Nat.le_refl _)]
  simp
/-- an instance as the heap has it -/
theorem flds_V {W : Wo} {st : Store} {H : Hp} (s : SR W st H) {d : D} {v : V} (r : Rep W d v) {C : Nat} {fs : List (Str × D)} (e : fldsOf d st = some (C, fs)) : ∃ a dx es, v = .ref a ∧ H a = some (.ins (W.CA C) dx es) ∧ RepF W fs es := by
  unfold fldsOf at e
  split at e
  · cases e
    simp only [Rep] at r
    obtain ⟨a, dx, es, rfl, h, q⟩ := r
    exact ⟨a, dx, es, rfl, in_mono s.still (fun _ z => nomatch z) h, q⟩
  · split at e
    · rename_i n _ _ ec
      cases e
      simp only [Rep] at r
      obtain ⟨a, ea, rfl⟩ := r
      obtain ⟨_, dx, es, h, q⟩ := s.cell _ _ a ec ea
      exact ⟨a, dx, es, rfl, h, q⟩
    · cases e
  · cases e
end TM
set_option maxHeartbeats 1000000
/-! TM, part E: operators and comparisons over trees. -/
namespace TM
open PySem PySem.Spec PyProof.Rows L2
section
variable {X : Cx} {pins : List (Addr × Obj)} {σ : Sg} {H : Hp} {s : Shared} {a b : Addr} {xs ys : List V}
theorem rdObj (I : Inv X pins σ H s) (h : Rd H a (.lst xs)) : xs.length ≤ sizeLine ∧ ∃ (its : List Value) (n : Nat), Vals xs its ∧ s.heap.get? a = some { cls := .type "list", data := .seq its.toArray n } := h.ok I.hok
/-- two lists put together -/
def rCatR : R2 := fun x y H Q => ∃ a b xs ys, x = .ref a ∧ y = .ref b ∧ Rd H a (.lst xs) ∧ Rd H b (.lst ys) ∧ xs.length + ys.length ≤ sizeLine ∧ ∀ p, H p = none → Q (.ref p) (upd H p (.lst (xs ++ ys)))
theorem opCatR : OpR X (binaryOp .Add) rCatR := by
  intro pins s σ H x y v u Q I r1 r2 ⟨a, b, xs, ys, e1, e2, ha, hb, hz, q⟩
  subst e1 e2
  obtain rfl : v = Value.ref a := r1
  obtain rfl : u = Value.ref b := r2
  obtain ⟨_, l1, n1, w1, g1⟩ := rdObj I ha
  obtain ⟨_, l2, n2, w2, g2⟩ := rdObj I hb
  have k1 := w1.length
  have k2 := w2.length
  have new := I.lnew (t' := s.toks) (w1.append w2) (by rw [List.length_append]; exact hz)
  refine PySem.P.add_list g1 g2 ⟨.ref s.heap.objs.size, _, ?_, rfl, q _ I.fresh⟩ (by simp only [List.size_toArray]; omega)
  rw [List.append_toArray]
  exact new
/-- a list some times -/
def rRepR : R2 := fun x y H Q => ∃ a k xs, x = .ref a ∧ y = .int k ∧ Rd H a (.lst xs) ∧ -(2 ^ 63) ≤ k ∧ k < 2 ^ 63 ∧ xs.length * k.toNat ≤ sizeLine ∧ ∀ p, H p = none → Q (.ref p) (upd H p (.lst (List.replicate k.toNat xs).flatten))
theorem opRepR : OpR X (binaryOp .Mult) rRepR := by
  intro pins s σ H x y v u Q I r1 r2 ⟨a, k, xs, e1, e2, ha, lo, hi, hz, q⟩
  subst e1 e2
  obtain rfl : v = Value.ref a := r1
  obtain ⟨t, rfl⟩ := r2
  obtain ⟨_, l1, n1, w1, g1⟩ := rdObj I ha
  have k1 := w1.length
  have big : (sizeLine : Nat) ≤ (2 ^ 63 - 1) / 8 := by decide
  have len : l1.toArray.size * k.toNat ≤ sizeLine := by rw [List.size_toArray, ← k1]; exact hz
  have made : List.foldl (fun p q => p ++ q) #[] (List.replicate (if l1.toArray.isEmpty = true then 0 else k.toNat) l1.toArray) = (List.replicate k.toNat l1).flatten.toArray := by
    have go := fun m : Nat => foldl_rep l1 m []
    simp only [List.nil_append] at go
    refine (go _).trans ?_
    cases l1 with
    | nil => simp
    | cons c r => simp
  have f1 : ¬ (!Builtin.List.listFitsIndex k) = true := by rw [fitsIndex_both lo hi]; decide
  have f2 : ¬ Builtin.List.listTooLong (l1.toArray.size * k.toNat) = true := by rw [notLongL len]; decide
  refine wpAny_binaryOp_repeat_ref (T := "list") (U := "int") (by decide) ⟨_, g1, rfl⟩ (fun z => typeIs_int z k t) noFill_list_mul F.fills_int_mul F.slot_int_rmul repeat_list F.slot_int_index.lookup ?_
  refine call_meets F.slot_int_rmul (typeIs_int s k t) F.entry_int_rmul (F.args_int_rmul_2 _ _) (int___rmul___int_list k t a l1.toArray n1) ⟨g1, rfl, ⟨_, g1, rfl⟩, ?_⟩
  refine call_meets F.slot_list_mul ⟨_, g1, rfl⟩ F.entry_list_mul (F.args_list_mul_2 _ _) (AutoListH.list___mul___list_int_3 a l1.toArray n1 k t f1 (by omega) f2) ⟨g1, ?_⟩
  rw [made]
  exact ⟨.ref _, _, I.lnew (t' := s.toks) (w1.rep k.toNat) (by rw [PyProof.Rows.lm_len_rep_flat, Nat.mul_comm]; exact hz), rfl, q _ I.fresh⟩
/-- a power of any size -/
theorem opPowW : OpR X (binaryOp .Pow) (rI (fun i j => 0 ≤ j ∧ (Builtin.Int.intBits i : Int) * j ≤ 2 ^ 27) fun i j => .int (i ^ j.toNat)) := opI fun _ _ _ _ _ _ _ hc q => pow_int hc.1 hc.2 q
theorem opInD (hu : X.A.units + 1 < cLine) : OpR X (compareOp .In) (fun x y H Q => ∃ a o, y = .ref a ∧ DGet H a x o ∧ Q (.bl o.isSome) H) := by
  intro pins s σ H x y v u Q I r1 r2 ⟨a, o, e, g, q⟩
  subst e
  obtain rfl : u = Value.ref a := r2
  exact d_in hu I g r1 fun s' J => ⟨.bl o.isSome, H, J, rfl, q⟩
theorem opNotInD (hu : X.A.units + 1 < cLine) : OpR X (compareOp .NotIn) (fun x y H Q => ∃ a o, y = .ref a ∧ DGet H a x o ∧ Q (.bl (!o.isSome)) H) := by
  intro pins s σ H x y v u Q I r1 r2 ⟨a, o, e, g, q⟩
  subst e
  obtain rfl : u = Value.ref a := r2
  exact d_notIn hu I g r1 fun s' J => ⟨.bl (!o.isSome), H, J, rfl, q⟩
theorem ixD (hu : X.A.units + 1 < cLine) : IxR X (fun x y H Q => ∃ a v, x = .ref a ∧ DGet H a y (some v) ∧ Q v H) := by
  intro value slice pins s σ H x y v u Q I r1 r2 ⟨a, w, e, g, q⟩ hs
  subst e
  obtain rfl : v = Value.ref a := r1
  exact tail_any (dict_typeIs I g) slot_dict_getitem.lookup (d_getItem hu I g r2 fun w' s' J r' => ⟨w, H, J, r', q⟩) hs
end

/-- the reading of an operator over trees -/
def rOp (K : PySem.W.Frag) (o : Operator) : R2 := fun x y H Q => ∃ W E dx dy st, SR W st H ∧ W.K = K ∧ Rep W dx x ∧ Rep W dy y ∧ Post W E (opD o dx dy st) Q
section
variable {X : Cx}
theorem rep_int {W : Wo} {i : Int} {v : V} (h : Rep W (.int i) v) : v = .int i := by simpa only [Rep] using h
theorem rep_str {W : Wo} {i : Str} {v : V} (h : Rep W (.str i) v) : v = .str i := by simpa only [Rep] using h
theorem rep_bl {W : Wo} {i : Bool} {v : V} (h : Rep W (.bl i) v) : v = .bl i := by simpa only [Rep] using h
theorem rep_non {W : Wo} {v : V} (h : Rep W .non v) : v = .non := by simpa only [Rep] using h
theorem repI {W : Wo} {i : Int} : Rep W (.int i) (.int i) := by simp only [Rep]
theorem repS {W : Wo} {i : Str} : Rep W (.str i) (.str i) := by simp only [Rep]
theorem repB {W : Wo} {i : Bool} : Rep W (.bl i) (.bl i) := by simp only [Rep]
theorem repN {W : Wo} : Rep W .non .non := by simp only [Rep]
theorem opAdd : OpR X (binaryOp .Add) (rOp X.K .Add) := by
  intro pins s σ H x y v u Q I r1 r2 ⟨W, E, dx, dy, st, sr, hK, p1, p2, h⟩
  have lists : ∀ {as bs}, asL dx st = some as → asL dy st = some bs → Post W E (if as.length + bs.length ≤ sizeLine then .ok (.lst (as ++ bs)) st else .stuck) Q → wpAny (model X.prog X.w) X.A (binaryOp .Add v u) (EP X pins σ Q) X.xe s := fun {as bs} e1 e2 h => by
    obtain ⟨a, vs, rfl, ha, ra⟩ := asL_V sr p1 e1
    obtain ⟨b, us, rfl, hb, rb⟩ := asL_V sr p2 e2
    split at h
    · rename_i hz
      refine opCatR pins s σ H _ _ v u Q I r1 r2 ⟨a, b, vs, us, rfl, rfl, ha, hb, by rw [ra.length, rb.length]; exact hz, ?_⟩
      exact post_lst sr (ra.append rb) h
    · exact h.elim
  unfold opD at h
  split at h
  · rename_i o a b e
    rw [rep_int p1] at r1
    rw [rep_int p2] at r2
    exact op_add pins s σ H _ _ v u Q I r1 r2 ⟨_, _, rfl, rfl, post_here sr repI h⟩
  · rename_i a b e
    rw [rep_str p1] at r1
    rw [rep_str p2] at r2
    split at h
    · rename_i hz
      exact op_add_str pins s σ H _ _ v u Q I r1 r2 ⟨_, _, rfl, rfl, hz, post_here sr repS h⟩
    · exact h.elim
  · rename_i as bs e
    obtain ⟨a, vs, rfl, ha, ra⟩ := asT_V sr p1
    obtain ⟨b, us, rfl, hb, rb⟩ := asT_V sr p2
    split at h
    · rename_i hz
      rw [hK] at ha hb
      refine op_catA pins s σ H _ _ v u Q I r1 r2 ⟨a, b, vs, us, rfl, rfl, ha, hb, by rw [ra.length, rb.length]; exact hz, fun z => ?_, fun _ z => ?_, fun _ _ => post_tup sr (ra.append rb) h⟩
      · have : as = [] := by
          have := ra.length
          rw [z] at this
          exact List.eq_nil_of_length_eq_zero this.symm
        subst this
        exact post_here sr p2 h
      · have : bs = [] := by
          have := rb.length
          rw [z] at this
          exact List.eq_nil_of_length_eq_zero this.symm
        subst this
        rw [List.append_nil] at h
        exact post_here sr p1 h
    · exact h.elim
  · split at h
    · rename_i as bs e1 e2
      exact lists e1 e2 h
    · exact h.elim
  all_goals first | exact h.elim | contradiction | skip
theorem opSub : OpR X (binaryOp .Sub) (rOp X.K .Sub) := by
  intro pins s σ H x y v u Q I r1 r2 ⟨W, E, dx, dy, st, sr, hK, p1, p2, h⟩
  unfold opD at h
  split at h <;> first | contradiction | exact h.elim | skip
  rw [rep_int p1] at r1
  rw [rep_int p2] at r2
  exact op_sub pins s σ H _ _ v u Q I r1 r2 ⟨_, _, rfl, rfl, post_here sr repI h⟩
theorem fold_size {α : Type} (a : Array α) : ∀ (n : Nat) (b : Array α), ((List.replicate n a).foldl (· ++ ·) b).size = b.size + n * a.size
  | 0, b => by simp
  | n + 1, b => by
    rw [List.replicate_succ, List.foldl_cons, fold_size a n (b ++ a), Array.size_append, Nat.add_mul, Nat.one_mul]
    omega
/-- a text times k -/
def rMulStr : R2 := fun x y H Q => ∃ (a : Str) (k : Int), x = .str a ∧ y = .int k ∧ (2 ≤ k ∧ 1 ≤ a.length ∧ a.length * k.toNat ≤ 1000000) ∧ Q (.str ⟨(List.replicate k.toNat a.cps).foldl (· ++ ·) #[]⟩) H
theorem op_mulStr : OpR X (binaryOp .Mult) rMulStr := by
  intro pins s σ H x y v u Q I r1 r2 ⟨a, k, ex, ey, ⟨k2, a1, hz⟩, q⟩
  subst ex ey
  obtain ⟨t, rfl⟩ := r1
  obtain ⟨t', rfl⟩ := r2
  have hk : k.toNat ≤ 1000000 := Nat.le_trans (Nat.le_mul_of_pos_left _ a1) hz
  have e0 : (k : Int) = k.toNat := by omega
  refine P.mul_str (by
      have h1 : ¬ k < -(2 ^ 63 : Int) := by omega
      have h2 : ¬ k ≥ 2 ^ 63 := by omega
      rw [decide_eq_false h1, decide_eq_false h2] <;> rfl) (fun _ _ h => ?_) (fun _ _ => ?_) ?_
  · have h3 : (a.length : Int) * k ≤ 1000000 := by
      rw [e0, ← Int.natCast_mul]
      exact Int.ofNat_le.mpr hz
    have h4 : (a.length : Int) ≤ (2 ^ 63 - 1) / k := by
      rw [Int.le_ediv_iff_mul_le (by omega)]
      omega
    omega
  · show decide (a.length * k.toNat > sizeLine) = false
    exact decide_eq_false (by rw [sizeLine_eq]; omega)
  · have n1 : ¬ k < 1 := by omega
    have n2 : ¬ ((k == 1 || a.length == 0) = true) := by
      rw [Bool.or_eq_true, beq_iff_eq, beq_iff_eq]
      omega
    rw [if_neg n1, if_neg n2]
    refine ⟨?_, .str _, H, I.tok _, ⟨_, rfl⟩, q⟩
    show ((List.replicate k.toNat a.cps).foldl (· ++ ·) #[]).size ≤ sizeLine
    rw [fold_size, sizeLine_eq]
    have : k.toNat * a.cps.size = a.length * k.toNat := Nat.mul_comm _ _
    rw [this]
    simp
    omega
theorem opMul : OpR X (binaryOp .Mult) (rOp X.K .Mult) := by
  intro pins s σ H x y v u Q I r1 r2 ⟨W, E, dx, dy, st, sr, hK, p1, p2, h⟩
  unfold opD at h
  split at h <;> first | contradiction | exact h.elim | skip
  · rw [rep_str p1] at r1
    rw [rep_int p2] at r2
    split at h
    · rename_i xx kk hz
      exact op_mulStr pins s σ H _ _ v u Q I r1 r2 ⟨_, _, rfl, rfl, hz, post_here sr repS h⟩
    · exact h.elim
  · rw [rep_int p1] at r1
    rw [rep_int p2] at r2
    split at h
    · rename_i hz
      exact op_mulW pins s σ H _ _ v u Q I r1 r2 ⟨_, _, rfl, rfl, hz, post_here sr repI h⟩
    · exact h.elim
  · split at h
    · rename_i as e1
      obtain ⟨a, vs, rfl, ha, ra⟩ := asL_V sr p1 e1
      rw [rep_int p2] at r2
      split at h
      · rename_i hz
        exact opRepR pins s σ H _ _ v u Q I r1 r2 ⟨a, _, vs, rfl, rfl, ha, hz.1, hz.2.1, by rw [ra.length]; exact hz.2.2, post_lst sr (ra.rep _) h⟩
      · exact h.elim
    · exact h.elim
theorem opFdiv : OpR X (binaryOp .FloorDiv) (rOp X.K .FloorDiv) := by
  intro pins s σ H x y v u Q I r1 r2 ⟨W, E, dx, dy, st, sr, hK, p1, p2, h⟩
  unfold opD at h
  split at h <;> first | contradiction | exact h.elim | skip
  rw [rep_int p1] at r1
  rw [rep_int p2] at r2
  split at h
  · rename_i hz
    exact op_fdivN pins s σ H _ _ v u Q I r1 r2 ⟨_, _, rfl, rfl, hz, post_here sr repI h⟩
  · exact h.elim
theorem opMod : OpR X (binaryOp .Mod) (rOp X.K .Mod) := by
  intro pins s σ H x y v u Q I r1 r2 ⟨W, E, dx, dy, st, sr, hK, p1, p2, h⟩
  unfold opD at h
  split at h <;> first | contradiction | exact h.elim | skip
  rw [rep_int p1] at r1
  rw [rep_int p2] at r2
  split at h
  · rename_i hz
    exact op_modN pins s σ H _ _ v u Q I r1 r2 ⟨_, _, rfl, rfl, hz, post_here sr repI h⟩
  · exact h.elim
theorem opPow : OpR X (binaryOp .Pow) (rOp X.K .Pow) := by
  intro pins s σ H x y v u Q I r1 r2 ⟨W, E, dx, dy, st, sr, hK, p1, p2, h⟩
  unfold opD at h
  split at h <;> first | contradiction | exact h.elim | skip
  rw [rep_int p1] at r1
  rw [rep_int p2] at r2
  split at h
  · rename_i hz
    exact opPowW pins s σ H _ _ v u Q I r1 r2 ⟨_, _, rfl, rfl, hz, post_here sr repI h⟩
  · exact h.elim
theorem opAny (o : Operator) : OpR X (binaryOp o) (rOp X.K o) := by
  cases o
  case Add => exact opAdd
  case Sub => exact opSub
  case Mult => exact opMul
  case FloorDiv => exact opFdiv
  case Mod => exact opMod
  case Pow => exact opPow
  all_goals
    intro pins s σ H x y v u Q I r1 r2 ⟨W, E, dx, dy, st, sr, hK, p1, p2, h⟩
    unfold opD at h
    split at h <;> first | contradiction | exact h.elim
end
end TM
set_option maxHeartbeats 1000000
/-! TM, part F: comparisons, truth, subscripts. -/
namespace TM
open PySem PySem.Spec PyProof.Rows L2
mutual
theorem py_Dp {W : Wo} {H : Hp} (st : Still W.F H) : ∀ {d : D} {v : V} {p : PyData}, Rep W d v → d.py = some p → Dp W.K H v p
  | .non, _, _, r, e => by
    simp only [D.py, Option.some.injEq] at e
    subst e
    rw [rep_non r]
    exact .non
  | .bl _, _, _, r, e => by
    simp only [D.py, Option.some.injEq] at e
    subst e
    rw [rep_bl r]
    exact .bl _
  | .int _, _, _, r, e => by
    simp only [D.py, Option.some.injEq] at e
    subst e
    rw [rep_int r]
    exact .int _
  | .str _, _, _, r, e => by
    simp only [D.py, Option.some.injEq] at e
    subst e
    rw [rep_str r]
    exact .str _
  | .tup ds, _, _, r, e => by
    simp only [D.py, Option.map_eq_some_iff] at e
    obtain ⟨ps, e, rfl⟩ := e
    simp only [Rep] at r
    obtain ⟨a, vs, rfl, h, q⟩ := r
    exact .tup (sqT_H st h) (py_DpL st q e)
  | .lst ds, _, _, r, e => by
    simp only [D.py, Option.map_eq_some_iff] at e
    obtain ⟨ps, e, rfl⟩ := e
    simp only [Rep] at r
    obtain ⟨a, vs, rfl, h, q⟩ := r
    exact .lst (.inl (rd_H st h)) (py_DpL st q e)
  | .dct _, _, _, _, e | .obj _ _, _, _, _, e | .loc _, _, _, _, e | .nkd, _, _, _, e | .cls _, _, _, _, e => by simp [D.py] at e
termination_by structural d => d
theorem py_DpL {W : Wo} {H : Hp} (st : Still W.F H) : ∀ {d : List D} {v : List V} {p : List PyData}, RepL W d v → D.pyL d = some p → DpAll W.K H v p
  | [], _, _, r, e => by
    simp only [D.pyL, Option.some.injEq] at e
    simp only [RepL] at r
    subst e r
    exact .nil
  | d :: ds, _, _, r, e => by
    simp only [D.pyL] at e
    simp only [RepL] at r
    obtain ⟨v, vs, rfl, h1, h2⟩ := r
    split at e
    · rename_i p ps e1 e2
      cases e
      exact .cons (py_Dp st h1 e1) (py_DpL st h2 e2)
    · cases e
termination_by structural d => d
end
theorem pyOf_Dp {W : Wo} {st : Store} {H : Hp} (s : SR W st H) {d : D} {v : V} {p : PyData} (r : Rep W d v) (e : pyOf d st = some p) : Dp W.K H v p := by
  cases d with
  | loc n =>
    simp only [pyOf] at e
    split at e
    · rename_i xs ec
      simp only [Option.map_eq_some_iff] at e
      obtain ⟨ps, e, rfl⟩ := e
      simp only [Rep] at r
      obtain ⟨a, ea, rfl⟩ := r
      obtain ⟨_, vs, h, q⟩ := s.lstCell ec ea
      exact .lst (.inl (.inl h)) (py_DpL s.still q e)
    · cases e
  | _ => exact py_Dp s.still r (by simpa [pyOf] using e)

/-- the reading of a comparison over trees -/
def rCmp (K : PySem.W.Frag) (o : CmpOp) : R2 := fun x y H Q => ∃ W dx dy st b, SR W st H ∧ W.K = K ∧ Rep W dx x ∧ Rep W dy y ∧ cmpD o dx dy st = some b ∧ Q (.bl b) H
section
variable {X : Cx}
theorem inStr {z w : Str} {b : Bool} (h : (some (!(Builtin.Str.occurrences z w 0 z.length 1).isEmpty)) = some b) : b = !(Builtin.Str.occurrences z w 0 z.length 1).isEmpty := (Option.some.inj h).symm
theorem cmpIn (hu : X.A.units + 1 < cLine) {pins : List (Addr × Obj)} {s : Shared} {σ : Sg} {H : Hp} {x y : V} {v u : Value} {Q : VK} (I : Inv X pins σ H s) (r1 : RelV x v) (r2 : RelV y u)
    {W : Wo} {dx dy : D} {st : Store} {b : Bool} (sr : SR W st H) (hK : W.K = X.K) (p1 : Rep W dx x) (p2 : Rep W dy y) (h : inRes dx dy st = some b) :
    (Q (.bl b) H → wpAny (model X.prog X.w) X.A (compareOp .In v u) (EP X pins σ Q) X.xe s) ∧ (Q (.bl (!b)) H → wpAny (model X.prog X.w) X.A (compareOp .NotIn v u) (EP X pins σ Q) X.xe s) := by
  have str : ∀ z, dy = .str z → (Q (.bl b) H → wpAny (model X.prog X.w) X.A (compareOp .In v u) (EP X pins σ Q) X.xe s) ∧ (Q (.bl (!b)) H → wpAny (model X.prog X.w) X.A (compareOp .NotIn v u) (EP X pins σ Q) X.xe s) := by
    intro z e
    subst e
    unfold inRes at h
    cases dx with
    | str w =>
      simp only [Option.some.injEq] at h
      rw [rep_str p1] at r1
      rw [rep_str p2] at r2
      exact ⟨fun q => op_in_str pins s σ H _ _ v u Q I r1 r2 ⟨_, _, rfl, rfl, by rw [h]; exact q⟩, fun q => op_notIn_str pins s σ H _ _ v u Q I r1 r2 ⟨_, _, rfl, rfl, by rw [h]; exact q⟩⟩
    | _ => simp at h
  by_cases hs : ∃ z, dy = .str z
  · obtain ⟨z, e⟩ := hs
    exact str z e
  · have h' : (match asQ dy st with
      | some xs => if flatD dx && xs.all flatD then some (xs.any fun y => eqF y dx) else none
      | none => match asK dy st, keyOf dx with
        | some kvs, some k => some (getK kvs k).isSome
        | _, _ => none) = some b := by
      unfold inRes at h
      cases dy <;> first | exact h | exact absurd ⟨_, rfl⟩ hs
    split at h'
    · rename_i ds e
      split at h'
      · rename_i hf
        rw [Bool.and_eq_true] at hf
        cases h'
        obtain ⟨a, vs, rfl, hq, rq⟩ := asQ_V sr p2 e
        rw [hK] at hq
        have ei := inF_V p1 hf.1 rq hf.2
        have fx := flatD_V p1 hf.1
        have fl := flatL_V rq hf.2
        exact ⟨fun q => op_in_seq pins s σ H _ _ v u Q I r1 r2 ⟨a, vs, rfl, hq, fx, fl, by show Q (.bl (inV x vs)) H; rw [ei]; exact q⟩,
          fun q => op_notIn_seq pins s σ H _ _ v u Q I r1 r2 ⟨a, vs, rfl, hq, fx, fl, by show Q (.bl (!inV x vs)) H; rw [ei]; exact q⟩⟩
      · cases h'
    · split at h'
      · rename_i kvs k e1 e2
        cases h'
        obtain ⟨a, es, rfl, hd, rk⟩ := asK_V sr p2 e1
        have ek := keyOf_V p1 e2
        have g : DGet H a x (valV es k) := .inl ⟨es, k, hd, ek, rfl⟩
        have eo : (valV es k).isSome = (getK kvs k).isSome := by
          rcases rk.get k with ⟨z1, z2⟩ | ⟨d, w, z1, z2, _⟩ <;> rw [z1, z2] <;> rfl
        exact ⟨fun q => opInD hu pins s σ H _ _ v u Q I r1 r2 ⟨a, _, rfl, g, by rw [eo]; exact q⟩, fun q => opNotInD hu pins s σ H _ _ v u Q I r1 r2 ⟨a, _, rfl, g, by rw [eo]; exact q⟩⟩
      · cases h'
theorem eqRes_of {x y : D} {st : Store} {b : Bool} (h : eqRes0 x y st = some b) : ∃ p q, pyOf x st = some p ∧ pyOf y st = some q ∧ SeqAt.shaped p = true ∧ SeqAt.shaped q = true ∧ b = PyData.eqv p q := by
  unfold eqRes0 at h
  split at h
  · rename_i p q e1 e2
    split at h
    · rename_i hs
      rw [Bool.and_eq_true] at hs
      cases h
      exact ⟨p, q, e1, e2, hs.1, hs.2, rfl⟩
    · cases h
  · cases h
/-- a list and the empty list -/
theorem op_eqE (hu : X.A.units + 64 < cLine) : OpR X (compareOp .Eq) (fun x y H Q => ∃ a b xs, x = .ref a ∧ y = .ref b ∧ Rd H a (.lst xs) ∧ Rd H b (.lst []) ∧ Q (.bl xs.isEmpty) H) := by
  intro pins s σ H x y v u Q I rx ry ⟨a, b, xs, ex, ey, ha, hb, q⟩
  subst ex ey
  obtain rfl : v = Value.ref a := rx
  obtain rfl : u = Value.ref b := ry
  obtain ⟨its, rv, pl, _⟩ := I.list (.inl ha)
  obtain ⟨its2, rv2, pl2, _⟩ := I.list (.inl hb)
  have l1 := rv.length
  have l2 := rv2.length
  simp only [List.length_nil] at l2
  by_cases hz : xs = []
  · subst hz
    simp only [List.length_nil] at l1
    refine PySem.SeqAt.eq_listAt (e := fun _ => true) pl.isList pl2.isList (by rw [List.size_toArray, List.size_toArray]; omega) (by omega) (fun j h1 => by rw [List.size_toArray] at h1; omega) ?_
    rw [List.size_toArray, ← l1]
    exact ⟨.bl true, H, I, rfl, q⟩
  · have hx : 0 < xs.length := List.length_pos_iff.mpr hz
    refine PySem.SeqAt.eq_list_lengthsAt pl.isList pl2.isList (by rw [List.size_toArray, List.size_toArray, bne_iff_ne]; omega) (by omega) ?_
    have e : xs.isEmpty = false := by
      cases xs
      · exact absurd rfl hz
      · rfl
    rw [e] at q
    exact ⟨.bl false, H, I, rfl, q⟩
/-- a list, a dict and an empty one -/
theorem op_neE (hu : X.A.units + 64 < cLine) : OpR X (compareOp .NotEq) (fun x y H Q => ∃ a b xs, x = .ref a ∧ y = .ref b ∧ Rd H a (.lst xs) ∧ Rd H b (.lst []) ∧ Q (.bl (!xs.isEmpty)) H) := by
  intro pins s σ H x y v u Q I rx ry ⟨a, b, xs, ex, ey, ha, hb, q⟩
  subst ex ey
  obtain rfl : v = Value.ref a := rx
  obtain rfl : u = Value.ref b := ry
  obtain ⟨its, rv, pl, _⟩ := I.list (.inl ha)
  obtain ⟨its2, rv2, pl2, _⟩ := I.list (.inl hb)
  have l1 := rv.length
  have l2 := rv2.length
  simp only [List.length_nil] at l2
  by_cases hz : xs = []
  · subst hz
    simp only [List.length_nil] at l1
    refine PySem.SeqAt.RcNeAt.lists (e := fun _ => true) pl.isList pl2.isList (by rw [List.size_toArray, List.size_toArray]; omega) (by omega) (fun j h1 => by rw [List.size_toArray] at h1; omega) _ _ _ _ ?_
    rw [List.size_toArray, ← l1]
    exact ⟨.bl false, H, I, rfl, q⟩
  · have hx : 0 < xs.length := List.length_pos_iff.mpr hz
    refine PySem.SeqAt.RcNeAt.lists_lengths pl.isList pl2.isList (by rw [List.size_toArray, List.size_toArray, bne_iff_ne]; omega) (by omega) _ _ _ _ ?_
    have e : xs.isEmpty = false := by
      cases xs
      · exact absurd rfl hz
      · rfl
    rw [e] at q
    exact ⟨.bl true, H, I, rfl, q⟩
theorem op_neKE (hu : X.A.units + 64 < cLine) : OpR X (compareOp .NotEq) (fun x y H Q => ∃ a b xs, x = .ref a ∧ y = .ref b ∧ Rd H a (.dK xs) ∧ Rd H b (.dK []) ∧ Q (.bl (!xs.isEmpty)) H) := by
  intro pins s σ H x y v u Q I rx ry ⟨a, b, xs, ex, ey, ha, hb, q⟩
  subst ex ey
  obtain rfl : v = Value.ref a := rx
  obtain rfl : u = Value.ref b := ry
  obtain ⟨_, h1, vs, r1, d1⟩ := dk_rd I.hok ha
  obtain ⟨_, h2, us, r2, d2⟩ := dk_rd I.hok hb
  cases r2
  refine PySem.W.keq_ne (knd := mixKind X.prog X.w) (r := true) h1 h2 d1 d2 (by omega) (fun hl => ?_) ?_
  · cases vs with
    | nil => exact .nil
    | cons p r => simp at hl
  · have e : (vs.length == ([] : List (Key × Value)).length && true) = xs.isEmpty := by
      have := r1.length
      cases xs <;> cases vs <;> simp_all
    rw [e]
    exact ⟨.bl _, H, I, rfl, q⟩
theorem cmpAny (hu : X.A.units + 64 < cLine) (o : CmpOp) : OpR X (compareOp o) (rCmp X.K o) := by
  intro pins s σ H x y v u Q I r1 r2 ⟨W, dx, dy, st, b, sr, hK, p1, p2, h, q⟩
  unfold cmpD at h
  split at h
  · cases h
    rw [rep_str p1] at r1
    rw [rep_str p2] at r2
    refine op_eq pins s σ H _ _ v u Q I r1 r2 ⟨rfl, ?_⟩
    rename_i a b
    rw [show decide (V.str a = V.str b) = decide (a = b) from decide_eq_decide.mpr ⟨fun z => V.str.inj z, fun z => congrArg V.str z⟩]
    exact q
  · cases h
    rw [rep_str p1] at r1
    rw [rep_str p2] at r2
    refine op_ne pins s σ H _ _ v u Q I r1 r2 ⟨rfl, ?_⟩
    rename_i a b
    rw [show decide (V.str a = V.str b) = decide (a = b) from decide_eq_decide.mpr ⟨fun z => V.str.inj z, fun z => congrArg V.str z⟩]
    exact q
  · unfold eqRes at h
    split at h
    · cases h
      obtain ⟨a, ws, rfl, hq, rq⟩ := asL_V sr p1 (xs := _) rfl
      obtain ⟨a2, ws2, rfl, hq2, rq2⟩ := asL_V sr p2 (xs := []) rfl
      simp only [RepL] at rq2
      subst rq2
      refine op_eqE hu pins s σ H _ _ v u Q I r1 r2 ⟨_, _, ws, rfl, rfl, hq, hq2, ?_⟩
      have e : ∀ {ds : List D} {vs : List V}, RepL W ds vs → vs.isEmpty = ds.isEmpty := fun {ds vs} r => by
        have := r.length
        cases ds <;> cases vs <;> simp_all
      rw [e rq]
      exact q
    obtain ⟨p, p', e1, e2, s1, s2, rfl⟩ := eqRes_of h
    have d1 := pyOf_Dp sr p1 e1
    have d2 := pyOf_Dp sr p2 e2
    rw [hK] at d1 d2
    exact op_eqD hu pins s σ H _ _ v u Q I r1 r2 ⟨_, _, d1, d2, s1, s2, q⟩
  · rw [Option.map_eq_some_iff] at h
    obtain ⟨b', h, rfl⟩ := h
    unfold neRes at h
    split at h
    · cases h
      obtain ⟨a, ws, rfl, hq, rq⟩ := asL_V sr p1 (xs := _) rfl
      obtain ⟨a2, ws2, rfl, hq2, rq2⟩ := asL_V sr p2 (xs := []) rfl
      simp only [RepL] at rq2
      subst rq2
      refine op_neE hu pins s σ H _ _ v u Q I r1 r2 ⟨_, _, ws, rfl, rfl, hq, hq2, ?_⟩
      have e : ∀ {ds : List D} {vs : List V}, RepL W ds vs → vs.isEmpty = ds.isEmpty := fun {ds vs} r => by
        have := r.length
        cases ds <;> cases vs <;> simp_all
      rw [e rq]
      exact q
    · cases h
      obtain ⟨a, ws, rfl, hq, rq⟩ := asK_V sr p1 (xs := _) rfl
      obtain ⟨a2, ws2, rfl, hq2, rq2⟩ := asK_V sr p2 (xs := []) rfl
      simp only [RepK] at rq2
      subst rq2
      refine op_neKE hu pins s σ H _ _ v u Q I r1 r2 ⟨_, _, ws, rfl, rfl, hq, hq2, ?_⟩
      have e : ∀ {ds : List (Key × D)} {vs : List (Key × V)}, RepK W ds vs → vs.isEmpty = ds.isEmpty := fun {ds vs} r => by
        have := r.length
        cases ds <;> cases vs <;> simp_all
      rw [e rq]
      exact q
    obtain ⟨p, p', e1, e2, s1, s2, rfl⟩ := eqRes_of h
    have d1 := pyOf_Dp sr p1 e1
    have d2 := pyOf_Dp sr p2 e2
    rw [hK] at d1 d2
    exact op_neD hu pins s σ H _ _ v u Q I r1 r2 ⟨_, _, d1, d2, s1, s2, q⟩
  · cases h
    rw [rep_int p1] at r1
    rw [rep_int p2] at r2
    exact op_lt pins s σ H _ _ v u Q I r1 r2 ⟨_, _, rfl, rfl, q⟩
  · cases h
    rw [rep_int p1] at r1
    rw [rep_int p2] at r2
    exact op_le pins s σ H _ _ v u Q I r1 r2 ⟨_, _, rfl, rfl, q⟩
  · cases h
    rw [rep_int p1] at r1
    rw [rep_int p2] at r2
    exact op_gt pins s σ H _ _ v u Q I r1 r2 ⟨_, _, rfl, rfl, q⟩
  · cases h
    rw [rep_int p1] at r1
    rw [rep_int p2] at r2
    exact op_ge pins s σ H _ _ v u Q I r1 r2 ⟨_, _, rfl, rfl, q⟩
  · cases h
    rw [rep_str p1] at r1
    rw [rep_str p2] at r2
    exact op_lt_str pins s σ H _ _ v u Q I r1 r2 ⟨_, _, rfl, rfl, q⟩
  · cases h
    rw [rep_str p1] at r1
    rw [rep_str p2] at r2
    exact op_le_str pins s σ H _ _ v u Q I r1 r2 ⟨_, _, rfl, rfl, q⟩
  · cases h
    rw [rep_str p1] at r1
    rw [rep_str p2] at r2
    exact op_gt_str pins s σ H _ _ v u Q I r1 r2 ⟨_, _, rfl, rfl, q⟩
  · cases h
    rw [rep_str p1] at r1
    rw [rep_str p2] at r2
    exact op_ge_str pins s σ H _ _ v u Q I r1 r2 ⟨_, _, rfl, rfl, q⟩
  · cases h
    rw [rep_non p2] at r2
    refine op_isN pins s σ H _ _ v u Q I r1 r2 ⟨rfl, ?_⟩
    have e : decide (x = .non) = decide (dx = .non) := by
      cases dx <;> simp only [Rep] at p1
      all_goals first | (subst p1; simp) | (obtain ⟨a, _, rfl, _⟩ := p1; simp) | (obtain ⟨a, _, _, rfl, _⟩ := p1; simp) | (obtain ⟨a, _, rfl⟩ := p1; simp)
    rw [e]
    exact q
  · cases h
    rw [rep_non p2] at r2
    refine op_notN pins s σ H _ _ v u Q I r1 r2 ⟨rfl, ?_⟩
    have e : decide (x = .non) = decide (dx = .non) := by
      cases dx <;> simp only [Rep] at p1
      all_goals first | (subst p1; simp) | (obtain ⟨a, _, rfl, _⟩ := p1; simp) | (obtain ⟨a, _, _, rfl, _⟩ := p1; simp) | (obtain ⟨a, _, rfl⟩ := p1; simp)
    rw [e]
    exact q
  · cases h
    rename_i a b
    rw [rep_bl p1] at r1
    rw [rep_bl p2] at r2
    cases r1
    cases r2
    show wpAny _ _ ((isSame (Value.bool a) (Value.bool b)) >>= fun z => pure (Value.bool z)) _ _ s
    refine wpAny_bind (wpAny_isSame_plain rfl (wpAny_pure (fin_bl I q ?_)))
    cases a <;> cases b <;> rfl
  · cases h
    rename_i a b
    rw [rep_bl p1] at r1
    rw [rep_bl p2] at r2
    cases r1
    cases r2
    show wpAny _ _ ((isSame (Value.bool a) (Value.bool b)) >>= fun z => pure (Value.bool (!z))) _ _ s
    refine wpAny_bind (wpAny_isSame_plain rfl (wpAny_pure (fin_bl I q ?_)))
    cases a <;> cases b <;> rfl
  · exact (cmpIn (by omega) I r1 r2 sr hK p1 p2 h).1 q
  · rw [Option.map_eq_some_iff] at h
    obtain ⟨b', h, rfl⟩ := h
    exact (cmpIn (by omega) I r1 r2 sr hK p1 p2 h).2 q
  · cases h

/-! ### truth -/
theorem truth_V {W : Wo} {st : Store} {H : Hp} (sr : SR W st H) {d : D} {v : V} {b : Bool} (r : Rep W d v) (e : truth d st = some b) : TruV W.K v H b := by
  cases d with
  | non =>
    cases e
    rw [rep_non r]
    exact rfl
  | bl k =>
    cases e
    rw [rep_bl r]
    exact rfl
  | int k =>
    cases e
    rw [rep_int r]
    exact rfl
  | str k =>
    simp only [truth] at e
    split at e
    · rename_i hz
      cases e
      rw [rep_str r]
      exact ⟨hz, rfl⟩
    · cases e
  | tup ds =>
    cases e
    obtain ⟨a, vs, rfl, h, q⟩ := asT_V sr r
    refine .inr (.inl ⟨vs, h, ?_⟩)
    cases ds <;> simp only [RepL] at q
    · rw [q]
      rfl
    · obtain ⟨_, _, rfl, _⟩ := q
      rfl
  | lst ds =>
    cases e
    obtain ⟨a, vs, rfl, h, q⟩ := asL_V sr r (xs := ds) rfl
    refine .inl ⟨vs, .inl h, ?_⟩
    cases ds <;> simp only [RepL] at q
    · rw [q]
      rfl
    · obtain ⟨_, _, rfl, _⟩ := q
      rfl
  | loc n =>
    simp only [truth] at e
    split at e
    · rename_i ds ec
      cases e
      simp only [Rep] at r
      obtain ⟨a, ea, rfl⟩ := r
      obtain ⟨_, vs, h, q⟩ := sr.lstCell ec ea
      refine .inl ⟨vs, .inl (.inl h), ?_⟩
      cases ds <;> simp only [RepL] at q
      · rw [q]
        rfl
      · obtain ⟨_, _, rfl, _⟩ := q
        rfl
    · cases e
  | _ => cases e

/-! ### subscripts -/
theorem atI_L {W : Wo} {ds : List D} {vs : List V} {i : Int} {d : D} (h : RepL W ds vs) (e : atI ds i = some d) : ∃ v, atI vs i = some v ∧ Rep W d v := by
  unfold atI at e ⊢
  rw [Option.bind_eq_some_iff] at e
  obtain ⟨j, e1, e2⟩ := e
  obtain ⟨v, q1, q2⟩ := h.get e2
  rw [h.length, e1]
  exact ⟨v, q1, q2⟩
/-- the reading of a subscription -/
def rIxT' (K : PySem.W.Frag) : R2 := fun x y H Q => ∃ W dx dy st d, SR W st H ∧ W.K = K ∧ Rep W dx x ∧ Rep W dy y ∧ idxD dx dy st = some d ∧ ∀ v, Rep W d v → Q v H
theorem ixAny (hu : X.A.units + 1 < cLine) : IxR X (rIxT' X.K) := by
  intro value slice pins s σ H x y v u Q I r1 r2 ⟨W, dx, dy, st, d, sr, hK, p1, p2, h, q⟩ hs
  unfold idxD at h
  split at h
  · split at h
    · rename_i hz
      rw [Option.map_eq_some_iff] at h
      obtain ⟨c, h, rfl⟩ := h
      rw [rep_str p1] at r1
      rw [rep_int p2] at r2
      exact ix_str value slice pins s σ H _ _ v u Q I r1 r2 ⟨_, _, c, rfl, rfl, hz, h, q _ repS⟩ hs
    · cases h
  · obtain ⟨a, vs, rfl, hq, rq⟩ := asT_V sr p1
    rw [rep_int p2] at r2
    obtain ⟨w, e1, e2⟩ := atI_L rq h
    rw [hK] at hq
    exact ix_tup value slice pins s σ H _ _ v u Q I r1 r2 ⟨a, vs, _, w, rfl, rfl, hq, e1, q _ e2⟩ hs
  · split at h
    · rename_i e1 _ _
      obtain ⟨a, vs, rfl, hq, rq⟩ := asL_V sr p1 e1
      rw [rep_int p2] at r2
      obtain ⟨w, e1, e2⟩ := atI_L rq h
      exact ix_list value slice pins s σ H _ _ v u Q I r1 r2 ⟨a, vs, _, w, rfl, rfl, .inl hq, e1, q _ e2⟩ hs
    · cases h
    · split at h
      · rename_i kvs k e1 e2
        obtain ⟨a, es, rfl, hd, rk⟩ := asK_V sr p1 e1
        have ek := keyOf_V p2 e2
        rcases rk.get k with ⟨z1, z2⟩ | ⟨d', w, z1, z2, rw'⟩
        · rw [z1] at h
          cases h
        · rw [z1] at h
          cases h
          exact ixD hu value slice pins s σ H _ _ v u Q I r1 r2 ⟨a, w, rfl, .inl ⟨es, k, hd, ek, z2.symm⟩, q _ rw'⟩ hs
      · cases h
end
end TM
set_option maxHeartbeats 1000000
/-! TM, part G: built-in functions and methods over trees. -/
namespace TM
open PySem PySem.Spec PyProof.Rows L2

/-! ### sorts have one answer -/
theorem cps_ext {a b : Str} (h : a.cps.toList = b.cps.toList) : a = b := by
  cases a
  cases b
  congr
  exact Array.toList_inj.mp h
theorem ordS_total (a b : Str) : (ordS a b || ordS b a) = true := by
  unfold ordS
  by_cases h : b.cps.toList < a.cps.toList
  · have h2 : ¬ a.cps.toList < b.cps.toList := fun z => List.lt_irrefl _ (List.lt_trans h z)
    rw [decide_eq_true h, decide_eq_false h2]
    rfl
  · rw [decide_eq_false h]
    rfl
theorem ordS_iff {a b : Str} : ordS a b = true ↔ a.cps.toList ≤ b.cps.toList := by
  unfold ordS
  rw [Bool.not_eq_true', decide_eq_false_iff_not]
  exact Iff.rfl
theorem ordS_trans (a b c : Str) (h : ordS a b = true) (h' : ordS b c = true) : ordS a c = true := ordS_iff.mpr (List.le_trans (ordS_iff.mp h) (ordS_iff.mp h'))
theorem ordS_anti {a b : Str} (h : ordS a b = true) (h' : ordS b a = true) : a = b := cps_ext (List.le_antisymm (ordS_iff.mp h) (ordS_iff.mp h'))
theorem rising_pair : ∀ (r : List Str) (p : Str), risingS p r = true → (p :: r).Pairwise (fun a b => ordS a b = true)
  | [], p, _ => List.pairwise_singleton _ _
  | x :: r, p, h => by
    simp only [risingS, Bool.and_eq_true] at h
    have hp : ordS p x = true := by
      have := h.1
      rw [ltCps_eq] at this
      exact this
    have ih := rising_pair r x h.2
    refine List.pairwise_cons.mpr ⟨fun y hy => ?_, ih⟩
    rcases List.mem_cons.mp hy with e | hy
    · subst e
      exact hp
    · exact ordS_trans _ _ _ hp ((List.pairwise_cons.mp ih).1 y hy)
theorem sorted_pair {ys : List Str} (h : sortedS ys = true) : ys.Pairwise (fun a b => ordS a b = true) := by
  cases ys with
  | nil => exact List.Pairwise.nil
  | cons x r => exact rising_pair r x h
theorem sortS_one {xs ys : List Str} (p : ys.Perm xs) (h : sortedS ys = true) : ys = sortS xs :=
  List.Perm.eq_of_pairwise (le := fun a b => ordS a b = true) (fun _ _ _ _ => ordS_anti) (sorted_pair h) (List.pairwise_mergeSort ordS_trans ordS_total xs) (p.trans (List.mergeSort_perm xs ordS).symm)
theorem sortI_one {xs ys : List Int} (p : ys.Perm xs) (h : ys.Pairwise (· ≤ ·)) : ys = sortI xs := by
  have q := List.pairwise_mergeSort (le := fun a b : Int => decide (a ≤ b)) (fun a b c h h' => by simp only [decide_eq_true_eq] at *; omega) (fun a b => by simp only [Bool.or_eq_true, decide_eq_true_eq]; omega) xs
  exact List.Perm.eq_of_pairwise (le := fun a b => a ≤ b) (fun _ _ _ _ h h' => Int.le_antisymm h h') h (q.imp fun h => of_decide_eq_true h) (p.trans (List.mergeSort_perm xs _).symm)
theorem fold_max : ∀ (r : List Int) (a : Int), (r.foldl (fun m x => if x > m then x else m) a ∈ a :: r) ∧ ∀ y ∈ a :: r, y ≤ r.foldl (fun m x => if x > m then x else m) a
  | [], a => ⟨List.mem_singleton.mpr rfl, fun y hy => by rw [List.mem_singleton.mp hy]; exact Int.le_refl _⟩
  | x :: r, a => by
    have ih := fold_max r (if x > a then x else a)
    rw [List.foldl_cons]
    have top := ih.2 _ List.mem_cons_self
    refine ⟨?_, fun y hy => ?_⟩
    · rcases List.mem_cons.mp ih.1 with h | h
      · rw [h]
        by_cases c : x > a
        · rw [if_pos c]
          exact List.mem_cons_of_mem _ List.mem_cons_self
        · rw [if_neg c]
          exact List.mem_cons_self
      · exact List.mem_cons_of_mem _ (List.mem_cons_of_mem _ h)
    · rcases List.mem_cons.mp hy with e | hy
      · subst e
        refine Int.le_trans ?_ top
        split <;> omega
      · rcases List.mem_cons.mp hy with e | hy
        · subst e
          refine Int.le_trans ?_ top
          split <;> omega
        · exact ih.2 y (List.mem_cons_of_mem _ hy)
theorem fold_min : ∀ (r : List Int) (a : Int), (r.foldl (fun m x => if x < m then x else m) a ∈ a :: r) ∧ ∀ y ∈ a :: r, r.foldl (fun m x => if x < m then x else m) a ≤ y
  | [], a => ⟨List.mem_singleton.mpr rfl, fun y hy => by rw [List.mem_singleton.mp hy]; exact Int.le_refl _⟩
  | x :: r, a => by
    have ih := fold_min r (if x < a then x else a)
    rw [List.foldl_cons]
    have top := ih.2 _ List.mem_cons_self
    refine ⟨?_, fun y hy => ?_⟩
    · rcases List.mem_cons.mp ih.1 with h | h
      · rw [h]
        by_cases c : x < a
        · rw [if_pos c]
          exact List.mem_cons_of_mem _ List.mem_cons_self
        · rw [if_neg c]
          exact List.mem_cons_self
      · exact List.mem_cons_of_mem _ (List.mem_cons_of_mem _ h)
    · rcases List.mem_cons.mp hy with e | hy
      · subst e
        refine Int.le_trans top ?_
        split <;> omega
      · rcases List.mem_cons.mp hy with e | hy
        · subst e
          refine Int.le_trans top ?_
          split <;> omega
        · exact ih.2 y (List.mem_cons_of_mem _ hy)

/-! ### what is read for repr -/
section
variable {X : Cx} {pins : List (Addr × Obj)} {σ : Sg} {H : Hp} {s : Shared}
theorem key_reads {h : Heap} {k : Key} {v : Value} (e : keyIs k v = true) : Reads h v (keyPy k) [] := by
  rcases keyIs_shape e with ⟨i, t, rfl, rfl⟩ | ⟨x, t, rfl, rfl⟩
  · exact Reads.int i t
  · exact Reads.str x t
mutual
theorem rep_reads (I : Inv X pins σ H s) (hm : H sysModules = none) {W : Wo} (hK : W.K = X.K) (st : Still W.F H) : ∀ {d : D} {v : V} {u : Value} {p : PyData}, Rep W d v → d.pyr = some p → RelV v u → ∃ as, Reads s.heap u p as ∧ sysModules ∉ as
  | .non, _, _, _, r, e, q => by
    simp only [D.pyr, Option.some.injEq] at e
    subst e
    rw [rep_non r] at q
    cases q
    exact ⟨_, Reads.none, by simp⟩
  | .bl _, _, _, _, r, e, q => by
    simp only [D.pyr, Option.some.injEq] at e
    subst e
    rw [rep_bl r] at q
    cases q
    exact ⟨_, Reads.bool _, by simp⟩
  | .int _, _, _, _, r, e, q => by
    simp only [D.pyr, Option.some.injEq] at e
    subst e
    rw [rep_int r] at q
    obtain ⟨t, rfl⟩ := q
    exact ⟨_, Reads.int _ t, by simp⟩
  | .str _, _, _, _, r, e, q => by
    simp only [D.pyr, Option.some.injEq] at e
    subst e
    rw [rep_str r] at q
    obtain ⟨t, rfl⟩ := q
    exact ⟨_, Reads.str _ t, by simp⟩
  | .tup ds, _, _, _, r, e, q => by
    simp only [D.pyr, Option.map_eq_some_iff] at e
    obtain ⟨ps, e, rfl⟩ := e
    simp only [Rep] at r
    obtain ⟨a, vs, rfl, h, q2⟩ := r
    cases q
    rw [hK] at h
    obtain ⟨its, rv, ⟨o, ho, hc, n, hd⟩, _⟩ := I.tuple (sqT_H st h)
    obtain ⟨as, h1, h2⟩ := rep_readsL I hm hK st q2 e rv
    exact ⟨_, Reads.tuple ho hc hd h1, h2⟩
  | .lst ds, _, _, _, r, e, q => by
    simp only [D.pyr, Option.map_eq_some_iff] at e
    obtain ⟨ps, e, rfl⟩ := e
    simp only [Rep] at r
    obtain ⟨a, vs, rfl, h, q2⟩ := r
    cases q
    have hr := rd_H st h
    obtain ⟨_, its, n, rv, ho⟩ := rdObj I hr
    obtain ⟨as, h1, h2⟩ := rep_readsL I hm hK st q2 e rv
    refine ⟨_, Reads.list ho rfl rfl h1, fun z => ?_⟩
    rcases List.mem_cons.mp z with z | z
    · rw [z] at hm
      rcases hr with hr | ⟨_, hr⟩ <;> rw [hm] at hr <;> cases hr
    · exact h2 z
  | .dct kvs, _, _, _, r, e, q => by
    simp only [D.pyr, Option.map_eq_some_iff] at e
    obtain ⟨ps, e, rfl⟩ := e
    simp only [Rep] at r
    obtain ⟨a, es, rfl, h, q2⟩ := r
    cases q
    obtain ⟨_, hs, vs, rk, o, ds, ep, ho, hx, hdat, _, hp, _⟩ := dk_rd I.hok (rdK_H st h)
    obtain ⟨bs, h1, h2, h3⟩ := rep_readsK I hm hK st q2 e rk hp
    refine ⟨_, Reads.dict ho hx.1 hdat h1 h2, fun z => ?_⟩
    rcases List.mem_append.mp z with z | z
    · rcases List.mem_cons.mp z with z | z
      · rw [← z] at hs
        simp at hs
      · cases z
    · exact h3 z
  | .nkd, _, _, _, r, e, q => by
    simp only [D.pyr, Option.some.injEq] at e
    subst e
    simp only [Rep] at r
    obtain ⟨a, od, rfl, h⟩ := r
    cases q
    have h' : H a = some (.frz od (NkO a)) := in_mono st (fun _ z => nomatch z) h
    obtain ⟨ho', ⟨hs, o, t, ep, ho, hx, hd⟩, _, _⟩ := I.hok a _ h'
    refine ⟨_, Reads.dict ho hx.1 hd (.cons (as := []) .none .nil) (.cons (as := []) (.int 0 t) .nil), fun z => ?_⟩
    rcases List.mem_append.mp z with z | z
    · rcases List.mem_cons.mp z with z | z
      · rw [← z] at hs
        simp at hs
      · cases z
    · simp at z
  | .obj _ _, _, _, _, _, e, _ | .loc _, _, _, _, _, e, _ | .cls _, _, _, _, _, e, _ => by simp [D.pyr] at e
termination_by structural d => d
theorem rep_readsL (I : Inv X pins σ H s) (hm : H sysModules = none) {W : Wo} (hK : W.K = X.K) (st : Still W.F H) : ∀ {d : List D} {v : List V} {u : List Value} {p : List PyData}, RepL W d v → D.pyrL d = some p → Vals v u → ∃ as, ReadsAll s.heap u p as ∧ sysModules ∉ as
  | [], _, _, _, r, e, q => by
    simp only [D.pyrL, Option.some.injEq] at e
    simp only [RepL] at r
    subst e r
    cases q
    exact ⟨_, ReadsAll.nil, by simp⟩
  | d :: ds, _, _, _, r, e, q => by
    simp only [D.pyrL] at e
    simp only [RepL] at r
    obtain ⟨v, vs, rfl, h1, h2⟩ := r
    split at e
    · rename_i p ps e1 e2
      cases e
      cases q with
      | cons q1 q2 =>
        obtain ⟨as, a1, a2⟩ := rep_reads I hm hK st h1 e1 q1
        obtain ⟨bs, b1, b2⟩ := rep_readsL I hm hK st h2 e2 q2
        exact ⟨_, ReadsAll.cons a1 b1, fun z => (List.mem_append.mp z).elim a2 b2⟩
    · cases e
termination_by structural d => d
theorem rep_readsK (I : Inv X pins σ H s) (hm : H sysModules = none) {W : Wo} (hK : W.K = X.K) (st : Still W.F H) : ∀ {d : List (Key × D)} {v : List (Key × V)} {u : List (Key × Value)} {p : List (PyData × PyData)} {es : List DictEntry}, RepK W d v → D.pyrK d = some p → KV v u → Pairs (mixKind X.prog X.w) es u →
    ∃ bs, ReadsAll s.heap (es.map (·.key)) (p.map (·.1)) [] ∧ ReadsAll s.heap (es.map (·.val)) (p.map (·.2)) bs ∧ sysModules ∉ bs
  | [], _, _, _, _, r, e, q, hp => by
    simp only [D.pyrK, Option.some.injEq] at e
    simp only [RepK] at r
    subst e r
    cases q
    cases hp
    exact ⟨_, ReadsAll.nil, ReadsAll.nil, by simp⟩
  | d :: ds, _, _, _, _, r, e, q, hp => by
    simp only [D.pyrK] at e
    simp only [RepK] at r
    obtain ⟨v, vs, rfl, h1, h2⟩ := r
    split at e
    · rename_i p ps e1 e2
      cases e
      cases q with
      | cons q1 q2 =>
        cases hp with
        | cons hk hv hp =>
          obtain ⟨as, a0, a1, a2⟩ := rep_readsKP I hm hK st h1 e1 q1.1 q1.2 hk
          obtain ⟨bs, b0, b1, b2⟩ := rep_readsK I hm hK st h2 e2 q2 hp
          refine ⟨_, ReadsAll.cons a0 b0, ReadsAll.cons (by dsimp only; rw [hv]; exact a1) b1, fun z => (List.mem_append.mp z).elim a2 b2⟩
    · cases e
termination_by structural d => d
theorem rep_readsKP (I : Inv X pins σ H s) (hm : H sysModules = none) {W : Wo} (hK : W.K = X.K) (st : Still W.F H) : ∀ {d : Key × D} {v : Key × V} {k : Key} {u : Value} {p : PyData × PyData} {ku : Value}, RepKP W d v → D.pyrKP d = some p → v.1 = k → RelV v.2 u → keyIs k ku = true →
    ∃ bs, Reads s.heap ku p.1 [] ∧ Reads s.heap u p.2 bs ∧ sysModules ∉ bs
  | (k, d), _, _, _, _, _, r, e, ek, q, hk => by
    simp only [D.pyrKP] at e
    simp only [RepKP] at r
    split at e
    · rename_i p e1
      cases e
      obtain ⟨as, a1, a2⟩ := rep_reads I hm hK st r.2 e1 q
      rw [← ek, ← r.1] at hk
      exact ⟨as, key_reads hk, a1, a2⟩
    · cases e
termination_by structural d => d
end
theorem repOf_reads (I : Inv X pins σ H s) (hm : H sysModules = none) {W : Wo} {st : Store} (hK : W.K = X.K) (sr : SR W st H) {d : D} {v : V} {u : Value} {p : PyData} (r : Rep W d v) (e : pyrOf d st = some p) (q : RelV v u) : ∃ as, Reads s.heap u p as ∧ sysModules ∉ as := by
  cases d with
  | loc n =>
    simp only [pyrOf] at e
    split at e
    · rename_i xs ec
      simp only [Option.map_eq_some_iff] at e
      obtain ⟨ps, e, rfl⟩ := e
      simp only [Rep] at r
      obtain ⟨a, ea, rfl⟩ := r
      cases q
      obtain ⟨_, vs, h, q2⟩ := sr.lstCell ec ea
      obtain ⟨_, its, n, rv, ho⟩ := rdObj I (.inl h)
      obtain ⟨as, h1, h2⟩ := rep_readsL I hm hK sr.still q2 e rv
      refine ⟨_, Reads.list ho rfl rfl h1, fun z => ?_⟩
      rcases List.mem_cons.mp z with z | z
      · rw [z, h] at hm
        cases hm
      · exact h2 z
    · cases e
  | _ => exact rep_reads I hm hK sr.still r (by simpa [pyrOf] using e) q
/-- repr -/
theorem call_repr (hg : X.A.guards = some []) (hu : X.A.units + 64 < cLine) (hsm : ∃ o, X.base.get? sysModules = some o) : CallR X (.builtin "repr") (fun xs H Q => ∃ W d v st x, xs = [v] ∧ SR W st H ∧ W.K = X.K ∧ Rep W d v ∧ D.reprD d st = some x ∧ Q (.str x) H) := by
  intro pins s σ H xs us Q I r ⟨W, d, v, st, x, e, sr, hK, rp, hx, q⟩
  subst e
  obtain ⟨u, rfl, ru⟩ := vals1 r
  obtain ⟨so, hso⟩ := hsm
  have hm : H sysModules = none := (I.bs _ _ hso).2
  unfold D.reprD at hx
  rw [Option.bind_eq_some_iff] at hx
  obtain ⟨p, ep, hx⟩ := hx
  split at hx
  · rename_i hc
    simp only [Bool.and_eq_true, decide_eq_true_eq] at hc
    obtain ⟨⟨hz, hsh⟩, hdp⟩ := hc
    cases hx
    obtain ⟨as, rd, hn⟩ := repOf_reads I hm hK sr rp ep ru
    have fin : ∀ (h' : Heap) (t tk : Tok), (∀ b o, s.heap.get? b = some o → h'.get? b = some o) → EP X pins σ Q (.str p.shown t) { s with heap := h', toks := tk } := fun h' t tk k => ⟨.str p.shown, H, I.kept (t' := tk) k, ⟨_, rfl⟩, q⟩
    cases rd with
    | none => exact PySem.P.repr_of_none (fin s.heap _ _ fun _ _ e => e)
    | bool b =>
      have := fin s.heap s.toks (s.toks + 1) fun _ _ e => e
      simp only [PyData.shown] at this
      exact PySem.P.repr_of_bool this
    | int i t =>
      have := fin s.heap s.toks (s.toks + 1) fun _ _ e => e
      simp only [PyData.shown] at this
      simp only [PyData.showable, decide_eq_true_eq] at hsh
      exact PySem.P.repr_of_int hsh this
    | str y t =>
      have := fin s.heap s.toks (s.toks + 1) fun _ _ e => e
      simp only [PyData.shown] at this hz
      exact PySem.P.repr_of_str this hz
    | list a1 a2 a3 a4 => exact repr_of_reads' (Reads.list a1 a2 a3 a4) hsh (fun _ => hn) hg (by omega) (fun _ _ e => e) (fun h' t tk k => fin h' t tk k) hz
    | tuple a1 a2 a3 a4 => exact repr_of_reads' (Reads.tuple a1 a2 a3 a4) hsh (fun _ => hn) hg (by omega) (fun _ _ e => e) (fun h' t tk k => fin h' t tk k) hz
    | dict a1 a2 a3 a4 a5 => exact repr_of_reads' (Reads.dict a1 a2 a3 a4 a5) hsh (fun _ => hn) hg (by omega) (fun _ _ e => e) (fun h' t tk k => fin h' t tk k) hz
  · cases hx
end
end TM
set_option maxHeartbeats 1000000
/-! TM, part X: the dict {None: 0}; the list of a text. -/
namespace TM
open PySem PySem.Spec PyProof.Rows L2
theorem vals_at : ∀ {xs : List V} {us : List Value}, us.length = xs.length → (∀ (j : Nat) (v : Value), us[j]? = some v → ∃ x, xs[j]? = some x ∧ RelV x v) → Vals xs us
  | [], [], _, _ => .nil
  | x :: xs, u :: us, l, h => by
    obtain ⟨y, e1, e2⟩ := h 0 u rfl
    cases (show some x = some y from e1)
    exact .cons e2 (vals_at (by simpa using l) fun j v e => h (j + 1) v e)
section
variable {X : Cx}
theorem call_list_str (hcalm : X.calm = true) : CallR X (.type "list") (fun xs H Q => ∃ x : Str, xs = [.str x] ∧ x.length ≤ sizeLine ∧ ∀ p, H p = none → Q (.ref p) (upd H p (.lst (x.cps.toList.map fun c => V.str ⟨#[c]⟩)))) := by
  intro pins s σ H xs us Q I r q
  obtain ⟨x, ex, hz, q⟩ := q
  subst ex
  obtain ⟨u, eu, rx⟩ := vals1 r
  subst eu
  obtain ⟨t, rfl⟩ := rx
  refine PySem.call_list_str (hn := hz) (I.ok.hd hcalm) x t fun h' tk acc c' hk hD hacc => ?_
  have hv : Vals (x.cps.toList.map fun c => V.str ⟨#[c]⟩) acc.toList := vals_at (by rw [Array.length_toList, List.length_map, Array.length_toList]; exact hacc.1) fun j v e => by
    obtain ⟨c, u, e1, rfl⟩ := hacc.2 j v (by rw [← Array.getElem?_toList]; exact e)
    refine ⟨.str ⟨#[c]⟩, ?_, u, rfl⟩
    rw [List.getElem?_map, Array.getElem?_toList, e1]
    rfl
  refine ⟨.ref s.heap.objs.size, upd H s.heap.objs.size (.lst (x.cps.toList.map fun c => V.str ⟨#[c]⟩)), I.laid (t' := tk) hk (Nat.le_refl _)
    (show ObjOk X.prog X.w _ _ _ (.lst (x.cps.toList.map fun c => V.str ⟨#[c]⟩)) from ⟨by rw [List.length_map, Array.length_toList]; exact hz, acc.toList, c', hv, by rw [Array.toArray_toList]; exact hD⟩), rfl, q _ (I.hok.fresh (Nat.le_refl _))⟩
/-! ### {None: 0} -/
theorem nk_dict {P : Program} {w : World} {h : Heap} {a : Addr} (q : (a == sysModules) = false ∧ ∃ o t ep, h.get? a = some o ∧ o.ExactDict ∧ o.data = .dict #[⟨reduceHash 0xFCA86420, .none, .int 0 t⟩] ep) :
    ∃ t, h.DictOf (noneKind P w) a [(none, .int 0 t)] := by
  obtain ⟨_, o, t, ep, ho, hx, hd⟩ := q
  refine ⟨t, o, _, ep, ho, hx, hd, fun e he => ?_, ?_, by simp⟩
  · have : e = ⟨reduceHash 0xFCA86420, .none, .int 0 t⟩ := by simpa using he
    subst this
    exact ⟨none, rfl, rfl⟩
  · exact .cons rfl rfl .nil
section
variable {pins : List (Addr × Obj)} {σ : L2.St} {H : Hp} {s : Shared}
theorem nk_get (I : Inv X pins σ H s) {a : Addr} {od : Obj} (h : H a = some (.frz od (NkO a))) : (a == sysModules) = false ∧ s.heap.get? a = some od ∧ od.ExactDict ∧ ∃ t ep, od.data = .dict #[⟨reduceHash 0xFCA86420, .none, .int 0 t⟩] ep := by
  obtain ⟨ho', ⟨hs, o, t, ep, ho, hx, hd⟩, _, _⟩ := I.hok a _ h
  rw [ho'] at ho
  cases ho
  exact ⟨hs, ho', hx, t, ep, hd⟩
theorem nk_at (I : Inv X pins σ H s) {a : Addr} {od : Obj} (h : H a = some (.frz od (NkO a))) : ∃ t, s.heap.DictOf (noneKind X.prog X.w) a [(none, .int 0 t)] := by
  obtain ⟨hs, ho, hx, t, ep, hd⟩ := nk_get I h
  exact nk_dict ⟨hs, od, t, ep, ho, hx, hd⟩
end
theorem call_len_nk : CallR X (.builtin "len") (fun xs H Q => ∃ a od, xs = [V.ref a] ∧ H a = some (.frz od (NkO a)) ∧ Q (.int 1) H) := by
  intro pins s σ H xs us Q I r ⟨a, od, e, h, q⟩
  subst e
  obtain ⟨u, rfl, ru⟩ := vals1 r
  obtain rfl : u = Value.ref a := ru
  obtain ⟨hs, _⟩ := nk_get I h
  obtain ⟨t, dd⟩ := nk_at I h
  exact call_len_dict hs dd (by show ((1 : Nat) : Int) < 2 ^ 63; decide) ⟨.int 1, H, I.tok _, ⟨_, rfl⟩, q⟩
/-- a value's type, {None: 0} too -/
inductive TyN (K : PySem.W.Frag) (H : Hp) : V → Value → Prop where
  | base {x : V} {t : Value} (h : TyX K H x t) : TyN K H x t
  | nk {a : Addr} {od : Obj} (h : H a = some (.frz od (NkO a))) : TyN K H (.ref a) (.type "dict")
theorem kit_ofN {pins : List (Addr × Obj)} {σ : L2.St} {H : Hp} {s : Shared} {x : V} {u t : Value} (I : Inv X pins σ H s) (rx : RelV x u) (ty : TyN X.K H x t) : ∃ P : Heap → Prop, PySem.W.KitX X.K u t P ∧ P s.heap ∧ u ≠ .builtin "__main__.__loader__#opaque" := by
  cases ty with
  | base h => exact kit_of I rx h
  | @nk a od h =>
    obtain ⟨_, ho, hx, _⟩ := nk_get I h
    cases (show u = Value.ref a from rx)
    exact ⟨_, PySem.W.kitx_dict, ⟨od, ho, hx.1⟩, fun z => nomatch z⟩
def rIsiN (K : PySem.W.Frag) : List V → Hp → VK → Prop := fun xs H Q => ∃ (x c : V) (t u : Value) (b : Bool), xs = [x, c] ∧ ClsV c u ∧ TyN K H x t ∧ PySem.W.kitOne K t u = some b ∧ Q (.bl b) H
def rIsiTN (K : PySem.W.Frag) : List V → Hp → VK → Prop := fun xs H Q => ∃ (x : V) (tp : Addr) (cs : List V) (t : Value) (us : List Value) (b : Bool), xs = [x, .ref tp] ∧ H tp = some (.tup cs) ∧ Paired ClsV cs us ∧ TyN K H x t ∧ PySem.W.kitAny K t us = some b ∧ Q (.bl b) H
theorem call_isiN : CallR X (.builtin "isinstance") (rIsiN X.K) := by
  intro pins s σ H xs us Q I r h
  obtain ⟨x, c, t, u, b, rfl, k, ty, e, q⟩ := h
  obtain ⟨u1, u2, rfl, r1, r2⟩ := vals2 r
  have e2 := k.eq r2
  subst e2
  obtain ⟨P, Z, p, hx⟩ := kit_ofN I r1 ty
  exact PySem.W.kia_one Z I.kIn p e hx fun tk => ⟨.bl b, H, I.tok tk, rfl, q⟩
theorem call_isiTN : CallR X (.builtin "isinstance") (rIsiTN X.K) := by
  intro pins s σ H xs us Q I r h
  obtain ⟨x, tp, cs, t, ws, b, rfl, hT, k, ty, e, q⟩ := h
  obtain ⟨u1, u2, rfl, r1, r2⟩ := vals2 r
  cases (show u2 = Value.ref tp from r2)
  obtain ⟨P, Z, p, hx⟩ := kit_ofN I r1 ty
  obtain ⟨_, its, rv, o, h1, h2, n, h3⟩ := (show ObjOk X.prog X.w H s.heap tp (.tup cs) from I.hok tp _ hT)
  have e3 := ClsV.all k rv
  subst e3
  obtain ⟨oc, od, dt, sl⟩ := o
  simp only at h2 h3
  subst h2 h3
  exact PySem.W.kia_tup Z I.kIn p h1 e hx fun tk => ⟨.bl b, H, I.tok tk, rfl, q⟩
end
section
variable {X : Cx} {pos : Pos}
/-- the display -/
theorem pe_nk {k v : Expr} (hk : PE X k fun σ H Q => Q .non H) (hv : PE X v fun σ H Q => Q (.int 0) H) : PE X (.Dict [some k] [v] pos) (fun σ H Q => ∀ p od, H p = none → Q (.ref p) (upd H p (.frz od (NkO p)))) := by
  refine ⟨fun pins s σ H Q I q => ?_⟩
  have hn := I.hok.fresh (Nat.le_refl s.heap.objs.size)
  have I1 := I.laid (a := s.heap.objs.size) (o := .dK []) (h' := s.heap.push { cls := .type "dict", data := .dict #[] }) (t' := s.toks) (fun _ _ q => Heap.get?_push_of_some _ q) (Nat.le_refl _) (dk_empty s.heap I.big)
  have hp : PPs X pos [some k] [v] [((fun σ H Q => Q .non H), (fun σ H Q => Q (.int 0) H))] := pps_cons hk hv pps_nil
  refine wpAny_Dict_walk (knd := noneKind X.prog X.w) rfl rfl (by simp) (by show 1 ≤ 15; decide) (thn (hp.run pins _ σ _ (fun ps H2 => ps = [(.non, .int 0)] ∧ H2 = upd H s.heap.objs.size (.dK [])) I1 ⟨rfl, rfl⟩) fun ws s2 ⟨ps, H2, I2, rel, ep, eH⟩ => ?_)
  subst ep eH
  obtain ⟨z, hd, vs0, r0, o0, es0, ep0, g0, x0, d0, k0, p0, _⟩ := dk_of I2.hok (kvs := []) upd_same
  cases r0
  have ez : es0 = #[] := by
    cases es0 with
    | mk l =>
      cases l with
      | nil => rfl
      | cons e l => cases p0
  subst ez
  cases rel with
  | @cons _ p1 _ _ h1 h2 =>
    cases h2
    obtain ⟨u1, u2⟩ := p1
    obtain ⟨e1, t, e2⟩ := h1
    have e1' : u1 = Value.none := e1
    have e2' : u2 = Value.int 0 t := e2
    subst e1' e2'
    refine ⟨[(none, .int 0 t)], ⟨rfl, rfl, trivial⟩, ⟨o0, #[], ep0, g0, x0, d0, fun e he => by simp at he, .nil, by simp⟩, fun h' dd' hs => ?_⟩
    obtain ⟨o', es', ep', g', x', d', k', p', _⟩ := dd'
    have ee : es' = #[⟨reduceHash 0xFCA86420, .none, .int 0 t⟩] := by
      cases es' with
      | mk l =>
        rw [show merged [] [((none : Option Key), Value.int 0 t)] = [(none, .int 0 t)] from rfl] at p'
        cases p' with
        | @cons e _ _ _ a1 a2 a3 =>
          cases a3
          obtain ⟨kk, b1, b2⟩ := k' e (by simp)
          have ek := nk_none a1
          obtain ⟨eh, ekk, ev⟩ := e
          simp only at ek a2 b2 b1
          subst ek a2
          cases kk with
          | none => rw [b2]; rfl
          | some j => exact absurd b1 (keyIs_none j)
    subst ee
    have ok : ObjOk X.prog X.w (upd (upd H s.heap.objs.size (.dK [])) s.heap.objs.size (NkO s.heap.objs.size)) h' s.heap.objs.size (NkO s.heap.objs.size) :=
      ⟨⟨hd, o', t, ep', g', x', d'⟩, ⟨o', g'⟩, fun h1 h2 ⟨a, o, t, ep, b1, b2, b3⟩ k => ⟨a, o, t, ep, k o b1, b2, b3⟩⟩
    have I3 := d_write (t' := s2.toks + 1) I2 (by rw [upd_same]; exact True.intro) hs ⟨o', g'⟩ ok
    rw [upd_upd] at I3
    obtain ⟨od, I4⟩ := I3.lock (u := NkO s.heap.objs.size) upd_same trivial
    rw [upd_upd] at I4
    exact ⟨.ref s.heap.objs.size, _, I4, rfl, q _ od hn⟩
end
/-- its keys -/
def ItN (d : Addr) (o : Obj) : It :=
  ⟨fun i H => H d = some (.frz o (NkO d)) ∧ i < 1, fun i H x H' => H' = H ∧ x = .non, fun i H => H d = some (.frz o (NkO d)) ∧ 1 ≤ i⟩
theorem turn_nk {P : Program} {w : World} {K : PySem.W.Frag} {tg : Expr} {d : Addr} {o : Obj} {es : Array DictEntry} {ep : Nat} (it : Addr) (hod : o.data = .dict es ep) : Turn P w K tg (ItN d o) [it] it (fun i h => h.IsKeyIter it d i 1 ep) where
  mem := by simp
  obj := fun i h st b hb => by
    have e : b = it := by simpa using hb
    subst e
    obtain ⟨oi, e, c, dd⟩ := st
    exact ⟨oi, e, fun v z => by rw [dd] at z; cases z⟩
  keep := fun i h h' st k => st.at fun oi e => k it (by simp) oi e
  item := by
    intro X hP hw hK hc i pins s σ H E I hf st hg
    subst hP hw hK
    obtain ⟨hd, hi⟩ := hg
    obtain ⟨f0, f1, f2, f3, f4, f5⟩ := hf it (by simp)
    obtain ⟨hs, hgd, hx, t, ep', hdt⟩ := nk_get I hd
    obtain ⟨rfl, rfl⟩ := dict_ep hod hdt
    obtain rfl : i = 0 := by omega
    refine next_key_item st hgd hod rfl (i := 0) (en := ⟨reduceHash 0xFCA86420, .none, .int 0 t⟩) rfl fun h' st' sb => ?_
    have I1 : Inv X pins σ H { s with heap := h' } := I.turned (t' := s.toks) (fun b ob hb e => (sb.2 b hb).trans e) f0 f1 f3 f4 f5
    obtain ⟨oi, e, c, dd⟩ := id st'
    exact ⟨.none, rfl, go_of (s := { s with heap := h' }) e c dd (by decide) ⟨.non, H, I1, rfl, ⟨rfl, rfl⟩, st', fun b hb => (hf b hb).1⟩⟩
  done := by
    intro X hP hw hK hc i pins s σ H E I hf st hg
    subst hP hw hK
    obtain ⟨hd, hi⟩ := hg
    obtain ⟨f0, f1, f2, f3, f4, f5⟩ := hf it (by simp)
    obtain ⟨hs, hgd, hx, t, ep', hdt⟩ := nk_get I hd
    obtain ⟨rfl, rfl⟩ := dict_ep hod hdt
    exact next_key_end (I.ok.hd hc) st hgd hdt rfl hi fun h' eb => ⟨rfl, I.turned (t' := s.toks) (fun b ob hb e => eb b ob hb e) f0 f1 f3 f4 f5⟩
  self := fun A i s Q E st h => wpAny_pyIter_keyiter st h
section
variable {X : Cx} {tg e : Expr} {td : TE} {apos cpos : Pos}
theorem pi_nk (he : PE X e td) : PI X tg e (fun σ H R => td σ H fun x H1 => ∃ d o, x = .ref d ∧ H1 d = some (.frz o (NkO d)) ∧ R (ItN d o) H1) := by
  refine ⟨fun pins s σ H R I h => ?_⟩
  refine thn (he.run pins s σ H _ I h) fun u s1 ⟨x, H1, I1, rx, d, o, ex, hd, q⟩ => ?_
  subst ex
  obtain rfl : u = Value.ref d := rx
  obtain ⟨hs, hgd, hx, t, ep, hdt⟩ := nk_get I1 hd
  refine iter_keys hs hgd hx hdt (pi_one (tk := s1.toks) I1 _ (turn_nk _ hdt) ⟨_, Heap.get?_push_size _ rfl, rfl, rfl⟩ q)
/-- the values of a dict: it is locked first -/
theorem pi_valsL (he : PE X e td) (hbase : attributeBase e "values" X.env (eval e X.env) = eval e X.env) (hline : (apos.endLine == cpos.line) = true) : PI X tg (.Call (.Attribute e "values" apos) [] [] cpos)
    (fun σ H R => td σ H fun x H1 => ∃ d kvs, x = .ref d ∧ ((∃ o, H1 d = some (.frz o (.dK kvs)) ∧ R (Itd d o kvs) H1) ∨ (H1 d = some (.dK kvs) ∧ ∀ o, R (Itd d o kvs) (upd H1 d (.frz o (.dK kvs)))))) := by
  refine ⟨fun pins s σ H R I h => ?_⟩
  refine wpAny_Call_method (T := "dict") (id := "dict.values") hbase rfl hline F.plainAttrs_dict F.slot_dict_values F.type_dict_values (thn (he.run pins s σ H _ I h) fun u s1 ⟨x, H1, I1, rx, d, kvs, ex, q⟩ => ?_)
  subst ex
  obtain rfl : u = Value.ref d := rx
  have go : ∀ {H2 : Hp} {o : Obj}, L2.Inv X pins σ H2 s1 → H2 d = some (.frz o (.dK kvs)) → R (Itd d o kvs) H2 → s1.TypeIs (.ref d) "dict" ∧ (∀ b, Value.ref d = .ref b → ∃ ob, s1.heap.get? b = some ob ∧ ob.dict = none) ∧ wpAny (model X.prog X.w) X.A (callWith cpos (.builtin "dict.values") [.ref d] [] []) (fun v s1 => wpAny (model X.prog X.w) X.A (pyIter v) (PIE X pins σ tg R) X.xe s1) X.xe s1 := fun {H2 o} I2' hd q => by
    obtain ⟨hs, hgd, hx, es, ep, vs, hdt, hsz, kv, hm⟩ := I2'.frzK hd
    have hl : kvs.length = vs.length := Paired.length kv
    refine ⟨hm.dictOf.typeIs, hm.dictOf.mapOf.noDict, ?_⟩
    have I2 : Inv X pins σ H2 { s1 with heap := s1.heap.push { cls := .type "dict_values", data := .fields #[.ref d] } } := I2'.kept (t' := s1.toks) fun b ob q => Heap.get?_push_of_some _ q
    have fin : wpAny (model X.prog X.w) X.A (pyIter (.ref s1.heap.objs.size)) (PIE X pins σ tg R) X.xe { s1 with heap := s1.heap.push { cls := .type "dict_values", data := .fields #[.ref d] } } := by
      refine wpAny_pyIter_values (d := d) (knd := mixKind X.prog X.w) ⟨_, Heap.get?_push_size _ rfl, rfl, rfl⟩ (hm.push _) (pi_one (tk := s1.toks) I2 _ (turn_vals _ hdt) ⟨_, Heap.get?_push_size _ rfl, rfl, ?_⟩ q)
      rw [hl] <;> rfl
    exact method_meetsIn F.slot_dict_values F.entry_dict_values rfl (PySem.evalArgs_none ⟨rfl, hm.dictOf.typeIs, F.args_dict_values_1 _, _, meets_dict_values (mixKind X.prog X.w) d hs, ⟨vs, hm.dictOf⟩, fin⟩)
  rcases q with ⟨o, hd, q⟩ | ⟨hd, q⟩
  · exact go I1 hd q
  · obtain ⟨od, I2⟩ := I1.lock hd trivial
    exact go I2 upd_same (q od)
end
end TM
set_option maxHeartbeats 1000000
/-! TM, part H: built-in functions and methods over trees. -/
namespace TM
open PySem PySem.Spec PyProof.Rows L2
/-- where a body runs -/
structure Cok (n : Nat) (X : Cx) : Prop where
  calm : X.calm = true
  nd : X.N.Nodup
  room : Room n X.A
  grd : X.A.guards = some []
  sm : ∃ o, X.base.get? sysModules = some o
theorem Cok.u64 {n : Nat} {X : Cx} (h : Cok n X) : X.A.units + 64 < cLine := h.room.units
def biVal : Bi → Value
  | .len => .builtin "len" | .str => .type "str" | .int => .type "int" | .sorted => .builtin "sorted" | .max => .builtin "max" | .min => .builtin "min" | .sum => .builtin "sum" | .any => .builtin "any"
  | .all => .builtin "all" | .list => .type "list" | .tuple => .type "tuple" | .dict => .type "dict" | .repr => .builtin "repr" | .abs => .builtin "abs" | .ord => .builtin "ord" | .chr => .builtin "chr" | .bool => .type "bool" | .listC => .type "list" | .dictC => .type "dict"
def rBi (K : PySem.W.Frag) (b : Bi) : List V → Hp → VK → Prop := fun vs H Q => ∃ W E ds st, SR W st H ∧ W.K = K ∧ RepL W ds vs ∧ Post W E (biD b ds st) Q
section
variable {X : Cx}
theorem repL1 {W : Wo} {d : D} {vs : List V} (h : RepL W [d] vs) : ∃ v, vs = [v] ∧ Rep W d v := by
  simp only [RepL] at h
  obtain ⟨v, r, rfl, h1, rfl⟩ := h
  exact ⟨v, rfl, h1⟩
theorem repL2 {W : Wo} {d e : D} {vs : List V} (h : RepL W [d, e] vs) : ∃ v u, vs = [v, u] ∧ Rep W d v ∧ Rep W e u := by
  simp only [RepL] at h
  obtain ⟨v, r, rfl, h1, u, r', rfl, h2, rfl⟩ := h
  exact ⟨v, u, rfl, h1, h2⟩
theorem lenRd : CallR X (.builtin "len") (fun xs H Q => ∃ a kvs, xs = [V.ref a] ∧ Rd H a (.dK kvs) ∧ Q (.int kvs.length) H) := by
  intro pins s σ H xs us Q I r ⟨a, kvs, e, h, q⟩
  subst e
  obtain ⟨u, rfl, ru⟩ := vals1 r
  obtain rfl : u = Value.ref a := ru
  exact d_len I h fun t s' J => ⟨.int kvs.length, H, J, ⟨t, rfl⟩, q⟩
theorem inrs_of : ∀ {ks : List Key} {xs : List Str}, inrs ks = some xs → ks = xs.map Sum.inr
  | [], _, e => by
    cases e
    rfl
  | .inr x :: r, _, e => by
    simp only [inrs, Option.map_eq_some_iff] at e
    obtain ⟨ys, e, rfl⟩ := e
    rw [inrs_of e]
    rfl
  | .inl _ :: _, _, e => by simp [inrs] at e
theorem pairs_rep {W : Wo} {st : Store} {H : Hp} (sr : SR W st H) : ∀ {ds : List D} {vs : List V} {kvs : List (Key × D)}, RepL W ds vs → pairsD ds = some kvs →
    ∃ (ps : List Addr) (es : List (Key × V)), vs = ps.map V.ref ∧ Paired (fun p kv => SqT W.K H p [kV kv.1, kv.2]) ps es ∧ RepK W kvs es
  | [], _, _, h, e => by
    simp only [RepL] at h
    cases e
    subst h
    exact ⟨[], [], rfl, .nil, .nil⟩
  | d :: r, vs, kvs, h, e => by
    simp only [RepL] at h
    obtain ⟨v, vr, rfl, h1, h2⟩ := h
    unfold pairsD at e
    split at e
    · rename_i e0
      cases e0
    · rename_i e0
      cases e0
      split at e
      · rename_i k kr e1 e2
        cases e
        obtain ⟨ps, es, rfl, p1, p2⟩ := pairs_rep sr h2 e2
        obtain ⟨a, ws, rfl, hq, rq⟩ := asT_V sr h1
        obtain ⟨x, y, rfl, rx, ry⟩ := repL2 rq
        rw [keyOf_V rx e1] at hq
        exact ⟨a :: ps, (k, y) :: es, rfl, .cons hq p1, .cons ry p2⟩
      · cases e
    · cases e
theorem sortedAny {n : Nat} (c : Cok n X) {pins : List (Addr × Obj)} {s : Shared} {σ : Sg} {H : Hp} {vs : List V} {us : List Value} {Q : VK} (I : Inv X pins σ H s) (rv : Vals vs us)
    {W : Wo} {E : XK} {d x : D} {st : Store} (sr : SR W st H) (hK : W.K = X.K) (rp : RepL W [d] vs) (h : sortedD d st = some x) (q : Post W E (.ok x st) Q) : wpAny (model X.prog X.w) X.A (call (.builtin "sorted") us) (EP X pins σ Q) X.xe s := by
  obtain ⟨v, rfl, r⟩ := repL1 rp
  unfold sortedD at h
  split at h
  · rename_i kvs e1
    obtain ⟨a, es, rfl, hd, rk⟩ := asK_V sr r e1
    split at h
    · rename_i ks e2
      split at h
      · rename_i hz
        cases h
        refine call_sortedD c.calm pins s σ H _ us Q I rv ⟨a, es, ks, rfl, hd, by rw [rk.keys, inrs_of e2], hz, fun ys p pm so hp => ?_⟩
        rw [sortS_one pm so]
        exact post_lst sr (.of_strs _) q p hp
      · cases h
    · cases h
  · split at h
    · rename_i xs e1
      obtain ⟨a, ws, rfl, hq, rq⟩ := asL_V sr r e1
      split at h
      · rename_i ss e2
        have ew := rq.strs e2
        subst ew
        split at h
        · rename_i hz
          cases h
          refine cr_sortedS pins s σ H _ us Q I rv ⟨a, ss, rfl, .inl hq, hz, fun ys p pm so hp => ?_⟩
          rw [sortS_one pm so]
          exact post_lst sr (.of_strs _) q p hp
        · cases h
      · split at h
        · rename_i ns e2
          have ew := rq.ints e2
          subst ew
          split at h
          · rename_i hz
            cases h
            refine cr_sorted pins s σ H _ us Q I rv ⟨a, ns, rfl, .inl hq, hz, fun ys p pm so hp => ?_⟩
            rw [sortI_one pm so]
            exact post_lst sr (.of_ints _) q p hp
          · cases h
        · cases h
    · cases h
theorem tup_is {pins : List (Addr × Obj)} {s : Shared} {σ : Sg} {H : Hp} (I : Inv X pins σ H s) {W : Wo} {st : Store} (sr : SR W st H) {d : D} {a : Addr} {xs : List D} {ws : List V} (r : Rep W d (.ref a)) (e : asQ d st = some xs) (hq : SqT X.K H a ws) : d = .tup xs := by
  have no : ∀ {ys : List D}, asL d st = some ys → False := fun {ys} e => by
    obtain ⟨b, w2, e2, hq2, _⟩ := asL_V sr r e
    cases e2
    obtain ⟨_, its, n1, _, g1⟩ := rdObj I hq2
    obtain ⟨_, _, ⟨o, g2, g3, _⟩, _⟩ := I.tuple hq
    rw [g1] at g2
    cases g2
    simp at g3
  cases d with
  | tup ys =>
    simp only [asQ, Option.some.injEq] at e
    rw [e]
  | _ => exact (no (ys := xs) (by simpa [asQ] using e)).elim
theorem signs_rep {W : Wo} (x : Str) : RepL W (signs x) (x.cps.toList.map fun c => V.str ⟨#[c]⟩) := by
  unfold signs
  generalize x.cps.toList = l
  induction l with
  | nil => exact .nil
  | cons c l ih => exact .cons repS ih
theorem biAny {n : Nat} (c : Cok n X) (b : Bi) : CallR X (biVal b) (rBi X.K b) := by
  intro pins s σ H vs us Q I rv ⟨W, E, ds, st, sr, hK, rp, h⟩
  unfold biD at h
  split at h <;> simp only [biVal]
  · obtain ⟨v, rfl, r⟩ := repL1 rp
    rw [rep_str r] at rv
    split at h
    · rename_i hz
      exact call_len_str pins s σ H _ us Q I rv ⟨_, rfl, hz, post_here sr repI h⟩
    · exact h.elim
  · obtain ⟨v, rfl, r⟩ := repL1 rp
    simp only [Rep] at r
    obtain ⟨a, od, rfl, hF⟩ := r
    exact call_len_nk pins s σ H _ us Q I rv ⟨a, od, rfl, in_mono sr.still (fun _ z => nomatch z) hF, post_here sr repI h⟩
  · obtain ⟨v, rfl, r⟩ := repL1 rp
    split at h
    · rename_i xs e
      obtain ⟨a, ws, rfl, hq, rq⟩ := asQ_V sr r e
      rw [hK] at hq
      refine call_len_seq pins s σ H _ us Q I rv ⟨a, ws, rfl, hq, ?_⟩
      rw [rq.length]
      exact post_here sr repI h
    · split at h
      · rename_i kvs e
        obtain ⟨a, es, rfl, hd, rk⟩ := asK_V sr r e
        refine lenRd pins s σ H _ us Q I rv ⟨a, es, rfl, hd, ?_⟩
        rw [rk.length]
        exact post_here sr repI h
      · exact h.elim
  · obtain ⟨v, rfl, r⟩ := repL1 rp
    rw [rep_int r] at rv
    split at h
    · rename_i hz
      exact call_str_int pins s σ H _ us Q I rv ⟨_, rfl, hz, post_here sr repS h⟩
    · exact h.elim
  · obtain ⟨v, rfl, r⟩ := repL1 rp
    rw [rep_str r] at rv
    obtain ⟨u, rfl, t, rfl⟩ := vals1 rv
    exact PySem.P.str_of_str ⟨.str _, H, I, ⟨t, rfl⟩, post_here sr repS h⟩
  · obtain ⟨v, rfl, r⟩ := repL1 rp
    rw [rep_int r] at rv
    exact call_int1 pins s σ H _ us Q I rv (.inl ⟨_, rfl, post_here sr repI h⟩)
  · obtain ⟨v, rfl, r⟩ := repL1 rp
    rw [rep_bl r] at rv
    exact call_int1 pins s σ H _ us Q I rv (.inr ⟨_, rfl, post_here sr repI h⟩)
  · obtain ⟨v, rfl, r⟩ := repL1 rp
    rw [rep_str r] at rv
    split at h
    · rename_i hz
      split at h
      · rename_i m e
        exact call_int_str pins s σ H _ us Q I rv ⟨_, _, rfl, e, hz, post_here sr repI h⟩
      · exact h.elim
    · exact h.elim
  · rename_i d
    cases e : sortedD d st with
    | none =>
      rw [e] at h
      exact h.elim
    | some x =>
      rw [e] at h
      exact sortedAny c I rv sr hK rp e h
  · obtain ⟨v, u, rfl, r1, r2⟩ := repL2 rp
    rw [rep_int r1, rep_int r2] at rv
    exact call_max2 c.calm pins s σ H _ us Q I rv ⟨_, _, rfl, post_here sr repI h⟩
  · obtain ⟨v, u, rfl, r1, r2⟩ := repL2 rp
    rw [rep_int r1, rep_int r2] at rv
    exact call_min2 c.calm pins s σ H _ us Q I rv ⟨_, _, rfl, post_here sr repI h⟩
  · obtain ⟨v, rfl, r⟩ := repL1 rp
    split at h
    · rename_i ns e
      rw [Option.bind_eq_some_iff] at e
      obtain ⟨xs, e1, e2⟩ := e
      obtain ⟨a, ws, rfl, hq, rq⟩ := asL_V sr r e1
      have ew := rq.ints e2
      subst ew
      cases ns with
      | nil => exact h.elim
      | cons m r =>
        refine cr_max c.calm pins s σ H _ us Q I rv ⟨a, m :: r, rfl, .inl hq, Nat.zero_lt_succ _, fun k hk hle => ?_⟩
        have f := fold_max r m
        have ek : k = r.foldl (fun m x => if x > m then x else m) m := Int.le_antisymm (f.2 k hk) (hle _ f.1)
        rw [ek]
        exact post_here sr repI h
    · exact h.elim
  · obtain ⟨v, rfl, r⟩ := repL1 rp
    split at h
    · rename_i ns e
      rw [Option.bind_eq_some_iff] at e
      obtain ⟨xs, e1, e2⟩ := e
      obtain ⟨a, ws, rfl, hq, rq⟩ := asL_V sr r e1
      have ew := rq.ints e2
      subst ew
      cases ns with
      | nil => exact h.elim
      | cons m r =>
        refine cr_min c.calm pins s σ H _ us Q I rv ⟨a, m :: r, rfl, .inl hq, Nat.zero_lt_succ _, fun k hk hle => ?_⟩
        have f := fold_min r m
        have ek : k = r.foldl (fun m x => if x < m then x else m) m := Int.le_antisymm (hle _ f.1) (f.2 k hk)
        rw [ek]
        exact post_here sr repI h
    · exact h.elim
  · obtain ⟨v, rfl, r⟩ := repL1 rp
    split at h
    · rename_i ns e
      rw [Option.bind_eq_some_iff] at e
      obtain ⟨xs, e1, e2⟩ := e
      obtain ⟨a, ws, rfl, hq, rq⟩ := asL_V sr r e1
      have ew := rq.ints e2
      subst ew
      exact cr_sum c.calm pins s σ H _ us Q I rv ⟨a, ns, rfl, .inl hq, post_here sr repI h⟩
    · exact h.elim
  · obtain ⟨v, rfl, r⟩ := repL1 rp
    split at h
    · rename_i ns e
      rw [Option.bind_eq_some_iff] at e
      obtain ⟨xs, e1, e2⟩ := e
      obtain ⟨a, ws, rfl, hq, rq⟩ := asL_V sr r e1
      have ew := rq.bls e2
      subst ew
      exact cr_any c.calm pins s σ H _ us Q I rv ⟨a, ns, rfl, .inl hq, post_here sr repB h⟩
    · exact h.elim
  · obtain ⟨v, rfl, r⟩ := repL1 rp
    split at h
    · rename_i ns e
      rw [Option.bind_eq_some_iff] at e
      obtain ⟨xs, e1, e2⟩ := e
      obtain ⟨a, ws, rfl, hq, rq⟩ := asL_V sr r e1
      have ew := rq.bls e2
      subst ew
      exact cr_all c.calm pins s σ H _ us Q I rv ⟨a, ns, rfl, .inl hq, post_here sr repB h⟩
    · exact h.elim
  · obtain ⟨v, rfl, r⟩ := repL1 rp
    rw [rep_str r] at rv
    split at h
    · rename_i hz
      exact call_list_str c.calm pins s σ H _ us Q I rv ⟨_, rfl, hz, post_lst sr (signs_rep _) h⟩
    · exact h.elim
  · obtain ⟨v, rfl, r⟩ := repL1 rp
    split at h
    · rename_i xs e
      obtain ⟨a, ws, rfl, hq, rq⟩ := asQ_V sr r e
      rw [hK] at hq
      exact call_list_of pins s σ H _ us Q I rv ⟨a, ws, rfl, hq, post_lst sr rq h⟩
    · split at h
      · rename_i kvs e
        obtain ⟨a, es, rfl, hd, rk⟩ := asK_V sr r e
        exact call_listD c.calm pins s σ H _ us Q I rv ⟨a, es, rfl, hd, post_lst sr rk.keysL h⟩
      · exact h.elim
  · obtain ⟨v, rfl, r⟩ := repL1 rp
    split at h
    · rename_i xs e
      obtain ⟨a, ws, rfl, hq, rq⟩ := asQ_V sr r e
      rw [hK] at hq
      refine call_tuple_of pins s σ H _ us Q I rv ⟨a, ws, rfl, ?_⟩
      rcases hq with hq | hq
      · exact .inl ⟨hq, post_tup sr rq h⟩
      · refine .inr ⟨hq, ?_⟩
        rw [tup_is I sr r e hq] at r
        exact post_here sr r h
    · exact h.elim
  · obtain ⟨v, rfl, r⟩ := repL1 rp
    split at h
    · rename_i kvs e
      obtain ⟨a, es, rfl, hd, rk⟩ := asK_V sr r e
      exact call_dictD pins s σ H _ us Q I rv ⟨a, es, rfl, hd, post_dct sr rk h⟩
    · split at h
      · rename_i kvs e
        rw [Option.bind_eq_some_iff] at e
        obtain ⟨xs, e1, e2⟩ := e
        obtain ⟨a, ws, rfl, hq, rq⟩ := asL_V sr r e1
        obtain ⟨ps, es, rfl, p1, p2⟩ := pairs_rep sr rq e2
        rw [hK] at p1
        exact call_dictP c.calm pins s σ H _ us Q I rv ⟨a, ps, es, rfl, .inl hq, p1, post_dct sr (RepK.merge kvs .nil p2) h⟩
      · exact h.elim
  · obtain ⟨v, rfl, r⟩ := repL1 rp
    rename_i d
    cases e : D.reprD d st with
    | none =>
      rw [e] at h
      exact h.elim
    | some x =>
      rw [e] at h
      exact call_repr c.grd c.u64 c.sm pins s σ H _ us Q I rv ⟨W, d, v, st, x, rfl, sr, hK, r, e, post_here sr repS h⟩
  · obtain ⟨v, rfl, r⟩ := repL1 rp
    rw [rep_int r] at rv
    exact call_abs pins s σ H _ us Q I rv ⟨_, rfl, post_here sr repI h⟩
  · obtain ⟨v, rfl, r⟩ := repL1 rp
    split at h
    · rename_i xs e
      obtain ⟨a, ws, rfl, hq, rq⟩ := asQ_V sr r e
      rw [hK] at hq
      exact call_list_of pins s σ H _ us Q I rv ⟨a, ws, rfl, hq, post_mkL sr rq h⟩
    · exact h.elim
  · obtain ⟨v, rfl, r⟩ := repL1 rp
    split at h
    · rename_i kvs e
      obtain ⟨a, es, rfl, hd, rk⟩ := asK_V sr r e
      exact call_dictD pins s σ H _ us Q I rv ⟨a, es, rfl, hd, post_mkK sr rk h⟩
    · exact h.elim
  · exact h.elim
end
end TM
set_option maxHeartbeats 1000000
/-! TM, part I: readings of expressions. -/
namespace TM
open PySem PySem.Spec PyProof.Rows L2

/-! ### the form of a piece of syntax -/
def isStar : Expr → Bool
  | .Starred _ _ => true
  | _ => false
def isSet : Expr → Bool
  | .Set _ _ _ => true
  | _ => false
def isSlice : Expr → Bool
  | .Slice _ _ _ _ => true
  | _ => false
def isComp : Expr → Bool
  | .ListComp _ _ _ _ => true
  | .SetComp _ _ _ _ => true
  | .DictComp _ _ _ _ _ => true
  | _ => false
def isTupE : Expr → Bool
  | .Tuple _ _ _ => true
  | _ => false
def isLstE : Expr → Bool
  | .List _ _ => true
  | _ => false
/-- its truth is its value's -/
def byTruth : Expr → Bool
  | .UnaryOp .Not _ _ => false
  | .BoolOp _ _ _ => false
  | .IfExp _ _ _ _ => false
  | .Compare _ _ _ _ => false
  | _ => true
def noSuper : Expr → Bool
  | .Call (.Name _ _) [] [] _ => false
  | _ => true
theorem star_cons {e : Expr} {es : List Expr} {env : Env} (h : isStar e = false) : starEach (e :: es) env = (false, eval e env) :: starEach es env := by
  cases e <;> first | (simp [isStar] at h; done) | rfl
theorem star_none {env : Env} {pos : Pos} : ∀ {es : List Expr}, es.all (fun e => !isStar e) = true → (backTo pos (starEach es env)).any (·.1) = false
  | [], _ => rfl
  | e :: es, h => by
    rw [List.all_cons, Bool.and_eq_true, Bool.not_eq_true'] at h
    rw [star_cons h.1]
    have ih := star_none (env := env) (pos := pos) h.2
    unfold backTo at ih ⊢
    rw [List.map_cons, List.any_cons, ih]
    rfl
theorem mark_none {o : CmpOp} {e : Expr} (h : isSet e = false) : behindInMarks o e = false := by
  cases e <;> first | (simp [isSet] at h; done) | rfl
theorem sub_plain {e : Expr} (h : isSlice e = false) : PlainIx e := fun o i => by
  cases e <;> first | (simp [isSlice] at h; done) | rfl
theorem swap_none {e : Expr} {t : Option Expr} {l : Nat} {env : Env} (h : isComp e = false) : swapsWith e t l env = pure false := by
  cases e <;> first | (simp [isComp] at h; done) | rfl
theorem swap_tup {e tg : Expr} {l : Nat} {env : Env} (h : isTupE tg = true) : swapsWith e (some tg) l env = pure false := by
  cases tg <;> first | (simp [isTupE] at h; done) | (cases e <;> rfl)
theorem stores_none {t e : Expr} {env : Env} (h : isTupE e = false) : swappedStores [t] e env = pure none := by
  cases e <;> first | (simp [isTupE] at h; done) | (cases t <;> rfl)
theorem stores_none' {t e : Expr} {env : Env} (h : isTupE t = false) (h2 : isLstE t = false) : swappedStores [t] e env = pure none := by
  cases t <;> first | (simp [isTupE] at h; done) | (simp [isLstE] at h2; done) | (cases e <;> rfl)
theorem truth_plain {e : Expr} {env : Env} (h : byTruth e = true) (whole : Sem Value) : isTrue e env whole = (do let v ← whole; standAt e.pos; holding [v] (truthy v)) := by
  cases e with
  | UnaryOp o a p => cases o <;> first | (simp [byTruth] at h; done) | rfl
  | BoolOp _ _ _ => simp [byTruth] at h
  | IfExp _ _ _ _ => simp [byTruth] at h
  | Compare _ _ _ _ => simp [byTruth] at h
  | _ => rfl
theorem base_plain {e : Expr} {n : Str} {env : Env} (h : noSuper e = true) (whole : Sem Value) : attributeBase e n env whole = whole := by
  unfold attributeBase
  split
  · simp [noSuper] at h
  · rfl
theorem fold_plain {e : Expr} {env : Env} (h : isSet e = false) (x : Value) : foldedSetIterable e env x = pure x := by
  cases e <;> first | (simp [isSet] at h; done) | rfl

/-! ### readings by the evaluator -/
/-- the machine's result of an expression -/
abbrev Ev := Slots → Store → Res D
structure Bx where
  K : PySem.W.Frag
  CA : Nat → Addr
  E : Sg → XK
/-- .. where no exception is wished for -/
abbrev Bx.z (B : Bx) : Bx := ⟨B.K, B.CA, fun _ _ _ _ => False⟩
def tE (B : Bx) (ev : Ev) : TE := fun σ H Q => ∃ W sl st, W.K = B.K ∧ W.CA = B.CA ∧ SlR W sl σ ∧ SR W st H ∧ Post W (B.E σ) (ev sl st) Q
def PostB (W : Wo) (E : XK) (r : Res Bool) (Q : Bool → Hp → Prop) : Prop := match r with
  | .ok b st => ∀ W' H', Le W W' → SR W' st H' → Q b H'
  | .exc C fs st => PostX W E C fs st
  | .stuck => False
def tru (ev : Ev) : Slots → Store → Res Bool := fun sl st => (ev sl st).bind fun x st1 => ofO (truth x st1) st1
def tT (B : Bx) (ev : Ev) : TT := fun σ H Q => ∃ W sl st, W.K = B.K ∧ W.CA = B.CA ∧ SlR W sl σ ∧ SR W st H ∧ PostB W (B.E σ) (tru ev sl st) Q
def tA (B : Bx) (ev : Slots → Store → Res (List D)) : TA := fun σ H Q => ∃ W sl st, W.K = B.K ∧ W.CA = B.CA ∧ SlR W sl σ ∧ SR W st H ∧ PostL W (B.E σ) (ev sl st) Q
theorem PE.imp {X : Cx} {e : Expr} {t t' : TE} (h : PE X e t) (k : ∀ σ H Q, t' σ H Q → t σ H Q) : PE X e t' := ⟨fun pins s σ H Q I q => h.run pins s σ H Q I (k σ H Q q)⟩
theorem PT.imp {X : Cx} {e : Expr} {t t' : TT} (h : PT X e t) (k : ∀ σ H Q, t' σ H Q → t σ H Q) : PT X e t' := ⟨fun pins s σ H Q I q => h.run pins s σ H Q I (k σ H Q q)⟩
theorem PW.imp {X : Cx} {e : Expr} {t t' : TT} (h : PW X e t) (k : ∀ σ H Q, t' σ H Q → t σ H Q) : PW X e t' := ⟨fun w pins s σ H Q I q => h.run w pins s σ H Q I (k σ H Q q)⟩
theorem PA.imp {X : Cx} {e : List Expr} {t t' : TA} (h : PA X e t) (k : ∀ σ H Q, t' σ H Q → t σ H Q) : PA X e t' := ⟨fun p pins s σ H Q I q => h.run p pins s σ H Q I (k σ H Q q)⟩
/-- a first part, then the rest -/
theorem tE_then {B : Bx} {ev : Ev} {f : D → Store → Res D} {σ : Sg} {H : Hp} {Q G : VK} {W : Wo} {sl : Slots} {st : Store} (h1 : W.K = B.K) (h2 : W.CA = B.CA) (h3 : SlR W sl σ) (h4 : SR W st H) (h : Post W (B.E σ) ((ev sl st).bind f) Q)
    (k : ∀ d st1 W1 H1 v, W1.K = B.K → W1.CA = B.CA → SlR W1 sl σ → SR W1 st1 H1 → Rep W1 d v → Le W W1 → Post W1 (B.E σ) (f d st1) Q → G v H1) : tE B ev σ H G :=
  ⟨W, sl, st, h1, h2, h3, h4, post_bind h fun d st1 W1 H1 v l s r q => k d st1 W1 H1 v (l.K.trans h1) (l.CA.trans h2) (h3.mono l) s r l q⟩
theorem post_ofO {W : Wo} {E : XK} {o : Option D} {st : Store} {Q : VK} (h : Post W E (ofO o st) Q) : ∃ d, o = some d ∧ Post W E (.ok d st) Q := by
  cases o with
  | none => exact h.elim
  | some d => exact ⟨d, rfl, h⟩
section
variable {X : Cx} {B : Bx} {n : Nat} {a b c e : Expr} {pos : Pos} {eva evb evc : Ev}
theorem e_op (hK : B.K = X.K) (ha : PE X a (tE B eva)) (hb : PE X b (tE B evb)) (o : Operator) : PE X (.BinOp a o b pos) (tE B fun sl st => (eva sl st).bind fun x st1 => (evb sl st1).bind fun y st2 => opD o x y st2) := by
  refine PE.imp (pe_op (opAny o) ha hb) fun σ H Q ⟨W, sl, st, h1, h2, h3, h4, h5⟩ => ?_
  refine tE_then h1 h2 h3 h4 h5 fun x st1 W1 H1 v k1 k2 k3 k4 r1 l1 q1 => ?_
  refine tE_then k1 k2 k3 k4 q1 fun y st2 W2 H2 u m1 m2 m3 m4 r2 l2 q2 => ?_
  exact ⟨W2, (B.E σ), x, y, st2, m4, m1.trans hK, r1.mono l2, r2, q2⟩
theorem e_neg (ha : PE X a (tE B eva)) : PE X (.UnaryOp .USub a pos) (tE B fun sl st => (eva sl st).bind fun x st1 => match x with | .int i => .ok (.int (-i)) st1 | _ => .stuck) := by
  refine PE.imp (pe_un un_neg ha) fun σ H Q ⟨W, sl, st, h1, h2, h3, h4, h5⟩ => ?_
  refine tE_then h1 h2 h3 h4 h5 fun x st1 W1 H1 v k1 k2 k3 k4 r1 l1 q1 => ?_
  cases x with
  | int i => exact ⟨i, rep_int r1, post_here k4 repI q1⟩
  | _ => exact q1.elim
theorem e_cmp (hK : B.K = X.K) (hu : X.A.units + 64 < cLine) (o : CmpOp) (hs : isSet b = false) (ha : PE X a (tE B eva)) (hb : PE X b (tE B evb)) : PE X (.Compare a [o] [b] pos) (tE B fun sl st => (eva sl st).bind fun x st1 => (evb sl st1).bind fun y st2 => ofO ((cmpD o x y st2).map .bl) st2) := by
  refine PE.imp (pe_cmpR (cmpAny hu o) ha hb (mark_none hs)) fun σ H Q ⟨W, sl, st, h1, h2, h3, h4, h5⟩ => ?_
  refine tE_then h1 h2 h3 h4 h5 fun x st1 W1 H1 v k1 k2 k3 k4 r1 l1 q1 => ?_
  refine tE_then k1 k2 k3 k4 q1 fun y st2 W2 H2 u m1 m2 m3 m4 r2 l2 q2 => ?_
  obtain ⟨d, e1, q3⟩ := post_ofO q2
  rw [Option.map_eq_some_iff] at e1
  obtain ⟨k, e1, rfl⟩ := e1
  exact ⟨W2, x, y, st2, k, m4, m1.trans hK, r1.mono l2, r2, e1, post_here m4 repB q3⟩
theorem tT_of {ev : Ev} {σ : Sg} {H : Hp} {Q : Bool → Hp → Prop} {W : Wo} {sl : Slots} {st : Store} (h1 : W.K = B.K) (h2 : W.CA = B.CA) (h3 : SlR W sl σ) (h4 : SR W st H) (h : PostB W (B.E σ) (tru ev sl st) Q) :
    tE B ev σ H fun x H1 => ∃ k, TruV B.K x H1 k ∧ Q k H1 := by
  refine ⟨W, sl, st, h1, h2, h3, h4, ?_⟩
  unfold tru at h
  cases hr : ev sl st with
  | ok d st1 =>
    rw [hr] at h
    intro W' H' v l s r
    rw [Res.bind_ok] at h
    cases ht : truth d st1 with
    | none =>
      rw [ht] at h
      exact h.elim
    | some k =>
      rw [ht] at h
      have := truth_V s r ht
      rw [l.K, h1] at this
      exact ⟨k, this, h W' H' l s⟩
  | exc C fs st1 =>
    rw [hr] at h
    exact h
  | stuck =>
    rw [hr] at h
    exact h
theorem t_plain (hK : B.K = X.K) (hb : byTruth a = true) (ha : PE X a (tE B eva)) : PT X a (tT B eva) := by
  refine PT.imp (pt_truth ha (truth_plain hb)) fun σ H Q ⟨W, sl, st, h1, h2, h3, h4, h5⟩ => ?_
  rw [← hK]
  exact tT_of h1 h2 h3 h4 h5
/-- where the value is a truth value -/
theorem tT_bl {E : XK} {ev : Ev} {Q : Bool → Hp → Prop} {W : Wo} {sl : Slots} {st : Store} (hb : ∀ d st', ev sl st = .ok d st' → ∃ k, d = D.bl k) (h : PostB W E (tru ev sl st) Q) : Post W E (ev sl st) fun x H1 => ∃ c, x = .bl c ∧ Q c H1 := by
  unfold tru at h
  cases hr : ev sl st with
  | ok d st1 =>
    rw [hr] at h
    obtain ⟨k, rfl⟩ := hb d st1 hr
    exact fun W' H' v l s r => ⟨k, rep_bl r, h W' H' l s⟩
  | exc C fs st1 =>
    rw [hr] at h
    exact h
  | stuck =>
    rw [hr] at h
    exact h
theorem bind_ok {α β : Type} {r : Res α} {f : α → Store → Res β} {d : β} {st' : Store} (h : r.bind f = .ok d st') : ∃ a st1, r = .ok a st1 ∧ f a st1 = .ok d st' := by
  cases r with
  | ok a st1 => exact ⟨a, st1, rfl, h⟩
  | exc C fs st1 => cases h
  | stuck => cases h
theorem ofO_bl {o : Option Bool} {st st' : Store} {d : D} (h : ofO (o.map D.bl) st = .ok d st') : ∃ k, d = D.bl k := by
  cases o with
  | none => cases h
  | some k =>
    cases h
    exact ⟨k, rfl⟩
theorem t_cmp (hK : B.K = X.K) (hu : X.A.units + 64 < cLine) (o : CmpOp) (hs : isSet b = false) (ha : PE X a (tE B eva)) (hb : PE X b (tE B evb)) : PT X (.Compare a [o] [b] pos) (tT B fun sl st => (eva sl st).bind fun x st1 => (evb sl st1).bind fun y st2 => ofO ((cmpD o x y st2).map D.bl) st2) := by
  refine PT.imp (pt_cmpR (cmpAny hu o) ha hb (mark_none hs)) fun σ H Q ⟨W, sl, st, h1, h2, h3, h4, h5⟩ => ?_
  have h6 := tT_bl (fun d st' e => by
    obtain ⟨_, _, _, e⟩ := bind_ok e
    obtain ⟨_, _, _, e⟩ := bind_ok e
    exact ofO_bl e) h5
  refine tE_then h1 h2 h3 h4 h6 fun x st1 W1 H1 v k1 k2 k3 k4 r1 l1 q1 => ?_
  refine tE_then k1 k2 k3 k4 q1 fun y st2 W2 H2 u m1 m2 m3 m4 r2 l2 q2 => ?_
  obtain ⟨d, e1, q3⟩ := post_ofO q2
  rw [Option.map_eq_some_iff] at e1
  obtain ⟨k, e1, rfl⟩ := e1
  obtain ⟨k', e2, q4⟩ := post_here m4 repB q3
  cases e2
  exact ⟨W2, x, y, st2, k, m4, m1.trans hK, r1.mono l2, r2, e1, k, rfl, q4⟩
end
end TM
set_option maxHeartbeats 1000000
/-! TM, part J: readings of further expressions. -/
namespace TM
open PySem PySem.Spec PyProof.Rows L2
section
variable {X : Cx} {B : Bx} {n : Nat} {a b c e : Expr} {es rest : List Expr} {pos : Pos} {eva evb evc : Ev} {evs : Slots → Store → Res (List D)}
theorem e_var {i : Nat} {x : Str} (hN : X.N[i]? = some x) (hv : Vis X.env.scope x) (hd : (x == ("__debug__" : Str)) = false) (hc : (x == ("__classdict__" : Str)) = false) : PE X (.Name x pos) (tE B fun sl st => match sl[i]? with | some (some d) => .ok d st | _ => .stuck) := by
  refine PE.imp (pe_var hN hv hd hc) fun σ H Q ⟨W, sl, st, h1, h2, h3, h4, h5⟩ => ?_
  dsimp only at h5
  split at h5
  · rename_i d e1
    obtain ⟨v, e2, r⟩ := h3.get e1
    exact ⟨v, e2, post_here h4 r h5⟩
  · exact h5.elim
theorem e_int {i : Int} {k : Nat} : PE X (.Constant (.int i) k pos) (tE B fun _ st => .ok (.int i) st) := PE.imp pe_int fun σ H Q ⟨W, sl, st, h1, h2, h3, h4, h5⟩ => post_here h4 repI h5
theorem e_bl {i : Bool} {k : Nat} : PE X (.Constant (.bool i) k pos) (tE B fun _ st => .ok (.bl i) st) := PE.imp pe_bl fun σ H Q ⟨W, sl, st, h1, h2, h3, h4, h5⟩ => post_here h4 repB h5
theorem e_non {k : Nat} : PE X (.Constant .none k pos) (tE B fun _ st => .ok .non st) := PE.imp pe_non fun σ H Q ⟨W, sl, st, h1, h2, h3, h4, h5⟩ => post_here h4 repN h5
theorem e_str {i : Str} {k : Nat} : PE X (.Constant (.str i) k pos) (tE B fun _ st => .ok (.str i) st) := PE.imp pe_str fun σ H Q ⟨W, sl, st, h1, h2, h3, h4, h5⟩ => post_here h4 repS h5
/-- a module's int or text -/
def flatOf : D → Option V
  | .int i => some (.int i)
  | .str x => some (.str x)
  | .bl b => some (.bl b)
  | .non => some .non
  | _ => none
theorem flat_rep {W : Wo} {d : D} {v : V} (h : flatOf d = some v) : Rep W d v := by
  cases d <;> simp only [flatOf, Option.some.injEq, reduceCtorEq] at h
  all_goals
    subst h
    simp only [Rep]
theorem e_glob {x : Str} {d : D} {v : V} {u : Value} (hg : Gl X x) (hm : X.mg x = some u) (r : RelV v u) (hf : flatOf d = some v) (hd : (x == ("__debug__" : Str)) = false) : PE X (.Name x pos) (tE B fun _ st => .ok d st) :=
  PE.imp (pe_glob hg hm r hd) fun σ H Q ⟨W, sl, st, h1, h2, h3, h4, h5⟩ => post_here h4 (flat_rep hf) h5
theorem post_tr {W : Wo} {E : XK} {o : Option Bool} {f : Bool → Res D} {Q : VK} (h : Post W E (match o with | some b => f b | none => .stuck) Q) : ∃ b, o = some b ∧ Post W E (f b) Q := by
  cases o with
  | none => exact h.elim
  | some b => exact ⟨b, rfl, h⟩
theorem e_not (hK : B.K = X.K) (ha : PE X a (tE B eva)) : PE X (.UnaryOp .Not a pos) (tE B fun sl st => (eva sl st).bind fun x st1 => match truth x st1 with | some b => .ok (.bl (!b)) st1 | none => .stuck) := by
  refine PE.imp (pe_notT ha) fun σ H Q ⟨W, sl, st, h1, h2, h3, h4, h5⟩ => ?_
  refine tE_then h1 h2 h3 h4 h5 fun x st1 W1 H1 v k1 k2 k3 k4 r1 l1 q1 => ?_
  obtain ⟨k, e1, q2⟩ := post_tr (f := fun b => .ok (.bl (!b)) st1) q1
  have t := truth_V k4 r1 e1
  rw [k1, hK] at t
  exact ⟨k, t, post_here k4 repB q2⟩
theorem e_and (hK : B.K = X.K) (ha : PE X a (tE B eva)) (hb : PE X (.BoolOp .And (b :: rest) pos) (tE B evb)) : PE X (.BoolOp .And (a :: b :: rest) pos) (tE B fun sl st => (eva sl st).bind fun x st1 => match truth x st1 with | some true => evb sl st1 | some false => .ok x st1 | none => .stuck) := by
  refine PE.imp (pe_andT ha hb) fun σ H Q ⟨W, sl, st, h1, h2, h3, h4, h5⟩ => ?_
  refine tE_then h1 h2 h3 h4 h5 fun x st1 W1 H1 v k1 k2 k3 k4 r1 l1 q1 => ?_
  split at q1
  · rename_i e1
    have t := truth_V k4 r1 e1
    rw [k1, hK] at t
    exact ⟨true, t, iteT ⟨W1, sl, st1, k1, k2, k3, k4, q1⟩⟩
  · rename_i e1
    have t := truth_V k4 r1 e1
    rw [k1, hK] at t
    exact ⟨false, t, iteF (post_here k4 r1 q1)⟩
  · exact q1.elim
theorem e_or (hK : B.K = X.K) (ha : PE X a (tE B eva)) (hb : PE X (.BoolOp .Or (b :: rest) pos) (tE B evb)) : PE X (.BoolOp .Or (a :: b :: rest) pos) (tE B fun sl st => (eva sl st).bind fun x st1 => match truth x st1 with | some true => .ok x st1 | some false => evb sl st1 | none => .stuck) := by
  refine PE.imp (pe_orT ha hb) fun σ H Q ⟨W, sl, st, h1, h2, h3, h4, h5⟩ => ?_
  refine tE_then h1 h2 h3 h4 h5 fun x st1 W1 H1 v k1 k2 k3 k4 r1 l1 q1 => ?_
  split at q1
  · rename_i e1
    have t := truth_V k4 r1 e1
    rw [k1, hK] at t
    exact ⟨true, t, iteT (post_here k4 r1 q1)⟩
  · rename_i e1
    have t := truth_V k4 r1 e1
    rw [k1, hK] at t
    exact ⟨false, t, iteF ⟨W1, sl, st1, k1, k2, k3, k4, q1⟩⟩
  · exact q1.elim
/-! tests -/
theorem postB_bind {W : Wo} {E : XK} {r : Res Bool} {f : Bool → Store → Res Bool} {Q : Bool → Hp → Prop} {G : Bool → Hp → Prop} (h : PostB W E (r.bind f) Q)
    (k : ∀ d st1 W1 H1, Le W W1 → SR W1 st1 H1 → PostB W1 E (f d st1) Q → G d H1) : PostB W E r G := by
  cases r with
  | ok d st =>
    intro W' H' l s
    refine k d st W' H' l s ?_
    have h' : PostB W E (f d st) Q := h
    cases hr : f d st with
    | ok b st2 =>
      rw [hr] at h'
      exact fun W2 H2 l2 => h' W2 H2 (l.trans l2)
    | exc C fs st2 =>
      rw [hr] at h'
      exact PostX.mono l h'
    | stuck =>
      rw [hr] at h'
      exact h'
  | exc C fs st => exact h
  | stuck => exact h
theorem tT_then {ev : Ev} {f : Bool → Store → Res Bool} {σ : Sg} {H : Hp} {Q G : Bool → Hp → Prop} {W : Wo} {sl : Slots} {st : Store} (h1 : W.K = B.K) (h2 : W.CA = B.CA) (h3 : SlR W sl σ) (h4 : SR W st H) (h : PostB W (B.E σ) ((tru ev sl st).bind f) Q)
    (k : ∀ d st1 W1 H1, W1.K = B.K → W1.CA = B.CA → SlR W1 sl σ → SR W1 st1 H1 → PostB W1 (B.E σ) (f d st1) Q → G d H1) : tT B ev σ H G :=
  ⟨W, sl, st, h1, h2, h3, h4, postB_bind h fun d st1 W1 H1 l s q => k d st1 W1 H1 (l.K.trans h1) (l.CA.trans h2) (h3.mono l) s q⟩
theorem bind_assoc {α β γ : Type} (r : Res α) (f : α → Store → Res β) (g : β → Store → Res γ) : (r.bind f).bind g = r.bind fun a st => (f a st).bind g := by
  cases r <;> rfl
theorem tru_eq {ev : Ev} {sl : Slots} {st : Store} {f g : Bool → Store → Res Bool} (h : ∀ b st, f b st = g b st) : (tru ev sl st).bind f = (tru ev sl st).bind g := by
  cases tru ev sl st <;> first | rfl | exact h _ _
theorem t_not (ha : PT X a (tT B eva)) : PT X (.UnaryOp .Not a pos) (tT B fun sl st => (eva sl st).bind fun x st1 => match truth x st1 with | some b => .ok (.bl (!b)) st1 | none => .stuck) := by
  refine PT.imp (pt_not ha) fun σ H Q ⟨W, sl, st, h1, h2, h3, h4, h5⟩ => ?_
  have h6 : PostB W (B.E σ) ((tru eva sl st).bind fun b st1 => .ok (!b) st1) Q := by
    have e : (tru eva sl st).bind (fun b st1 => .ok (!b) st1) = tru (fun sl st => (eva sl st).bind fun x st1 => match truth x st1 with | some b => .ok (.bl (!b)) st1 | none => .stuck) sl st := by
      unfold tru
      rw [bind_assoc, bind_assoc]
      cases eva sl st with
      | ok d st1 =>
        simp only [Res.bind_ok]
        cases truth d st1 <;> rfl
      | _ => rfl
    rw [e]
    exact h5
  exact tT_then h1 h2 h3 h4 h6 fun d st1 W1 H1 k1 k2 k3 k4 q => q W1 H1 (Le.refl W1) k4
theorem t_and (ha : PT X a (tT B eva)) (hb : PW X (.BoolOp .And (b :: rest) pos) (tT B evb)) : PW X (.BoolOp .And (a :: b :: rest) pos) (tT B fun sl st => (eva sl st).bind fun x st1 => match truth x st1 with | some true => evb sl st1 | some false => .ok x st1 | none => .stuck) := by
  refine PW.imp (pw_and ha hb) fun σ H Q ⟨W, sl, st, h1, h2, h3, h4, h5⟩ => ?_
  have h6 : PostB W (B.E σ) ((tru eva sl st).bind fun b st1 => if b then tru evb sl st1 else .ok false st1) Q := by
    have e : (tru eva sl st).bind (fun b st1 => if b then tru evb sl st1 else .ok false st1) = tru (fun sl st => (eva sl st).bind fun x st1 => match truth x st1 with | some true => evb sl st1 | some false => .ok x st1 | none => .stuck) sl st := by
      unfold tru
      rw [bind_assoc, bind_assoc]
      cases eva sl st with
      | ok d st1 =>
        simp only [Res.bind_ok]
        cases ht : truth d st1 with
        | none => rfl
        | some k =>
          cases k with
          | true => rfl
          | false => simp [ht]
      | _ => rfl
    rw [e]
    exact h5
  refine tT_then h1 h2 h3 h4 h6 fun d st1 W1 H1 k1 k2 k3 k4 q => ?_
  cases d with
  | true => exact iteT ⟨W1, sl, st1, k1, k2, k3, k4, q⟩
  | false => exact iteF (q W1 H1 (Le.refl W1) k4)
theorem t_or (ha : PT X a (tT B eva)) (hb : PW X (.BoolOp .Or (b :: rest) pos) (tT B evb)) : PW X (.BoolOp .Or (a :: b :: rest) pos) (tT B fun sl st => (eva sl st).bind fun x st1 => match truth x st1 with | some true => .ok x st1 | some false => evb sl st1 | none => .stuck) := by
  refine PW.imp (pw_or ha hb) fun σ H Q ⟨W, sl, st, h1, h2, h3, h4, h5⟩ => ?_
  have h6 : PostB W (B.E σ) ((tru eva sl st).bind fun b st1 => if b then .ok true st1 else tru evb sl st1) Q := by
    have e : (tru eva sl st).bind (fun b st1 => if b then .ok true st1 else tru evb sl st1) = tru (fun sl st => (eva sl st).bind fun x st1 => match truth x st1 with | some true => .ok x st1 | some false => evb sl st1 | none => .stuck) sl st := by
      unfold tru
      rw [bind_assoc, bind_assoc]
      cases eva sl st with
      | ok d st1 =>
        simp only [Res.bind_ok]
        cases ht : truth d st1 with
        | none => rfl
        | some k =>
          cases k with
          | true => simp [ht]
          | false => rfl
      | _ => rfl
    rw [e]
    exact h5
  refine tT_then h1 h2 h3 h4 h6 fun d st1 W1 H1 k1 k2 k3 k4 q => ?_
  cases d with
  | true => exact iteT (q W1 H1 (Le.refl W1) k4)
  | false => exact iteF ⟨W1, sl, st1, k1, k2, k3, k4, q⟩
theorem e_ife (ht : PT X c (tT B evc)) (ha : PE X a (tE B eva)) (hb : PE X b (tE B evb)) : PE X (.IfExp c a b pos) (tE B fun sl st => (evc sl st).bind fun x st1 => match truth x st1 with | some true => eva sl st1 | some false => evb sl st1 | none => .stuck) := by
  refine PE.imp (pe_ifExp ht ha hb) fun σ H Q ⟨W, sl, st, h1, h2, h3, h4, h5⟩ => ?_
  refine ⟨W, sl, st, h1, h2, h3, h4, ?_⟩
  dsimp only at h5
  unfold tru
  cases hc : evc sl st with
  | ok d st1 =>
    simp only [hc, Res.bind_ok] at h5 ⊢
    cases ht : truth d st1 with
    | none =>
      rw [ht] at h5
      exact h5.elim
    | some k =>
      rw [ht] at h5
      intro W' H' l s
      cases k with
      | true => exact iteT ⟨W', sl, st1, l.K.trans h1, l.CA.trans h2, h3.mono l, s, Post.mono l h5⟩
      | false => exact iteF ⟨W', sl, st1, l.K.trans h1, l.CA.trans h2, h3.mono l, s, Post.mono l h5⟩
  | exc C fs st1 =>
    rw [hc] at h5
    exact h5
  | stuck =>
    rw [hc] at h5
    exact h5
end
end TM
set_option maxHeartbeats 1000000
/-! TM, part K: argument lists, displays, subscripts, built-ins, methods. -/
namespace TM
open PySem PySem.Spec PyProof.Rows L2
theorem post_bindL {W : Wo} {E : XK} {r : Res D} {f : D → Store → Res (List D)} {Q : List V → Hp → Prop} {G : VK} (h : PostL W E (r.bind f) Q)
    (k : ∀ d st1 W1 H1 v, Le W W1 → SR W1 st1 H1 → Rep W1 d v → PostL W1 E (f d st1) Q → G v H1) : Post W E r G := by
  cases r with
  | ok d st => exact fun W' H' v l s q => k d st W' H' v l s q (PostL.mono l h)
  | exc C fs st => exact h
  | stuck => exact h
theorem postL_bindL {W : Wo} {E : XK} {r : Res (List D)} {f : List D → Store → Res (List D)} {Q G : List V → Hp → Prop} (h : PostL W E (r.bind f) Q)
    (k : ∀ d st1 W1 H1 v, Le W W1 → SR W1 st1 H1 → RepL W1 d v → PostL W1 E (f d st1) Q → G v H1) : PostL W E r G := by
  cases r with
  | ok d st => exact fun W' H' v l s q => k d st W' H' v l s q (PostL.mono l h)
  | exc C fs st => exact h
  | stuck => exact h
section
variable {X : Cx} {B : Bx} {n : Nat} {a b c e : Expr} {es rest : List Expr} {pos : Pos} {eva evb evc : Ev} {evs : Slots → Store → Res (List D)}
theorem a_nil : PA X [] (tA B fun _ st => .ok [] st) := PA.imp pa_nil fun σ H Q ⟨W, sl, st, h1, h2, h3, h4, h5⟩ => h5 W H [] (Le.refl W) h4 .nil
theorem a_cons (hs : isStar e = false) (he : PE X e (tE B eva)) (hes : PA X es (tA B evs)) : PA X (e :: es) (tA B fun sl st => (eva sl st).bind fun d st1 => (evs sl st1).bind fun ds st2 => .ok (d :: ds) st2) := by
  refine PA.imp (pa_cons he hes (star_cons hs)) fun σ H Q ⟨W, sl, st, h1, h2, h3, h4, h5⟩ => ?_
  refine ⟨W, sl, st, h1, h2, h3, h4, post_bindL h5 fun d st1 W1 H1 v l1 s1 r1 q1 => ?_⟩
  refine ⟨W1, sl, st1, l1.K.trans h1, l1.CA.trans h2, h3.mono l1, s1, postL_bindL q1 fun ds st2 W2 H2 vs l2 s2 r2 q2 => ?_⟩
  exact q2 W2 H2 _ (Le.refl W2) s2 (.cons (r1.mono l2) r2)
theorem tA_then {ev : Slots → Store → Res (List D)} {f : List D → Store → Res D} {σ : Sg} {H : Hp} {Q : VK} {G : List V → Hp → Prop} {W : Wo} {sl : Slots} {st : Store} (h1 : W.K = B.K) (h2 : W.CA = B.CA) (h3 : SlR W sl σ) (h4 : SR W st H) (h : Post W (B.E σ) ((ev sl st).bind f) Q)
    (k : ∀ d st1 W1 H1 v, W1.K = B.K → W1.CA = B.CA → SlR W1 sl σ → SR W1 st1 H1 → RepL W1 d v → Le W W1 → Post W1 (B.E σ) (f d st1) Q → G v H1) : tA B ev σ H G :=
  ⟨W, sl, st, h1, h2, h3, h4, postL_bind h fun d st1 W1 H1 v l s r q => k d st1 W1 H1 v (l.K.trans h1) (l.CA.trans h2) (h3.mono l) s r l q⟩
theorem e_tup {x1 : Nat} (h : PA X es (tA B evs)) : PE X (.Tuple es x1 pos) (tE B fun sl st => (evs sl st).bind fun ds st1 => if ds.length ≤ sizeLine then .ok (.tup ds) st1 else .stuck) := by
  refine PE.imp (pe_tup h) fun σ H Q ⟨W, sl, st, h1, h2, h3, h4, h5⟩ => ?_
  refine tA_then h1 h2 h3 h4 h5 fun ds st1 W1 H1 vs k1 k2 k3 k4 r1 l1 q1 => ?_
  split at q1
  · rename_i hz
    exact ⟨by rw [r1.length]; exact hz, post_tup k4 r1 q1⟩
  · exact q1.elim
theorem e_lst (mt : Bool) (h : PA X es (tA B evs)) : PE X (.List es pos) (tE B fun sl st => (evs sl st).bind fun ds st1 => if ds.length ≤ sizeLine then mkL mt ds st1 else .stuck) := by
  refine PE.imp (pe_lst h) fun σ H Q ⟨W, sl, st, h1, h2, h3, h4, h5⟩ => ?_
  refine tA_then h1 h2 h3 h4 h5 fun ds st1 W1 H1 vs k1 k2 k3 k4 r1 l1 q1 => ?_
  split at q1
  · rename_i hz
    exact ⟨by rw [r1.length]; exact hz, post_mkL k4 r1 q1⟩
  · exact q1.elim
theorem e_idx {n : Nat} (c : Cok n X) (hK : B.K = X.K) (hs : isSlice b = false) (ha : PE X a (tE B eva)) (hb : PE X b (tE B evb)) : PE X (.Subscript a b pos) (tE B fun sl st => (eva sl st).bind fun x st1 => (evb sl st1).bind fun y st2 => ofO (idxD x y st2) st2) := by
  have hu := c.u64
  refine PE.imp (pe_ix (ixAny (by omega)) ha hb (sub_plain hs)) fun σ H Q ⟨W, sl, st, h1, h2, h3, h4, h5⟩ => ?_
  refine tE_then h1 h2 h3 h4 h5 fun x st1 W1 H1 v k1 k2 k3 k4 r1 l1 q1 => ?_
  refine tE_then k1 k2 k3 k4 q1 fun y st2 W2 H2 u m1 m2 m3 m4 r2 l2 q2 => ?_
  obtain ⟨d, e1, q3⟩ := post_ofO q2
  exact ⟨W2, x, y, st2, d, m4, m1.trans hK, r1.mono l2, r2, e1, fun w r => post_here m4 r q3⟩
/-! slices -/
def tO (B : Bx) (ev : Slots → Store → Res (Option Int)) : TO := fun σ H Q => ∃ W sl st, W.K = B.K ∧ W.CA = B.CA ∧ SlR W sl σ ∧ SR W st H ∧ (match ev sl st with
  | .ok o st' => ∀ W' H', Le W W' → SR W' st' H' → Q o H'
  | .exc C fs st' => PostX W (B.E σ) C fs st'
  | .stuck => False)
theorem PO.imp {X : Cx} {e : Option Expr} {t t' : TO} (h : PO X e t) (k : ∀ σ H Q, t' σ H Q → t σ H Q) : PO X e t' := ⟨fun pins s σ H Q I q => h.run pins s σ H Q I (k σ H Q q)⟩
theorem o_none : PO X none (tO B fun _ st => .ok none st) := PO.imp po_none fun σ H Q ⟨W, sl, st, h1, h2, h3, h4, h5⟩ => h5 W H (Le.refl W) h4
theorem o_some (ha : PE X a (tE B eva)) : PO X (some a) (tO B fun sl st => (eva sl st).bind fun x st1 => match x with | .int i => .ok (some i) st1 | _ => .stuck) := by
  refine PO.imp (po_some ha) fun σ H Q ⟨W, sl, st, h1, h2, h3, h4, h5⟩ => ?_
  refine ⟨W, sl, st, h1, h2, h3, h4, ?_⟩
  dsimp only at h5
  cases hr : eva sl st with
  | ok x st1 =>
    rw [hr, Res.bind_ok] at h5
    intro W' H' v l s r
    cases x with
    | int i => exact ⟨i, rep_int r, h5 W' H' l s⟩
    | _ => exact h5.elim
  | exc C fs st1 =>
    rw [hr] at h5
    exact h5
  | stuck =>
    rw [hr] at h5
    exact h5
theorem tO_then {ev : Slots → Store → Res (Option Int)} {f : Option Int → Store → Res D} {σ : Sg} {H : Hp} {Q : VK} {G : Option Int → Hp → Prop} {W : Wo} {sl : Slots} {st : Store} (h1 : W.K = B.K) (h2 : W.CA = B.CA) (h3 : SlR W sl σ) (h4 : SR W st H) (h : Post W (B.E σ) ((ev sl st).bind f) Q)
    (k : ∀ d st1 W1 H1, W1.K = B.K → W1.CA = B.CA → SlR W1 sl σ → SR W1 st1 H1 → Le W W1 → Post W1 (B.E σ) (f d st1) Q → G d H1) : tO B ev σ H G := by
  refine ⟨W, sl, st, h1, h2, h3, h4, ?_⟩
  cases hr : ev sl st with
  | ok d st1 =>
    rw [hr] at h
    exact fun W' H' l s => k d st1 W' H' (l.K.trans h1) (l.CA.trans h2) (h3.mono l) s l (Post.mono l h)
  | exc C fs st1 =>
    rw [hr] at h
    exact h
  | stuck =>
    rw [hr] at h
    exact h
/-- the reading of a slice -/
def rSlD (K : PySem.W.Frag) : V → Option Int → Option Int → Hp → VK → Prop := fun x lo hi H Q => ∃ W E dx st d, SR W st H ∧ W.K = K ∧ Rep W dx x ∧ slD dx lo hi st = some d ∧ Post W E (.ok d st) Q
theorem cut_rep {W : Wo} {ds : List D} {vs : List V} (h : RepL W ds vs) (lo hi : Option Int) : RepL W (cutD ds lo hi) (cutV vs lo hi) := by
  unfold cutD cutV
  rw [h.length]
  exact (h.drop _).take _
theorem cut_all {α : Type} {xs : List α} {lo hi : Option Int} (h : HT.sIx xs.length 0 lo = 0 ∧ HT.sIx xs.length xs.length hi = xs.length) : (xs.drop (HT.sIx xs.length 0 lo)).take (HT.sIx xs.length xs.length hi - HT.sIx xs.length 0 lo) = xs := by
  rw [h.1, h.2, List.drop_zero, Nat.sub_zero, List.take_length]
theorem sl_any : L2.SlR X (rSlD X.K) := by
  intro pins s σ H x v vl vu lo hi sl Q I rx hs pl pu ⟨W, E, dx, st, d, sr, hK, p, h, q⟩
  unfold slD at h
  split at h
  · split at h
    · rename_i hz
      cases h
      rw [rep_str p] at rx
      exact sl_str pins s σ H _ v vl vu lo hi sl Q I rx hs pl pu ⟨_, rfl, hz, post_here sr repS q⟩
    · cases h
  · cases h
    obtain ⟨a, vs, rfl, hq, rq⟩ := asT_V sr p
    rw [hK] at hq
    refine sl_tupA pins s σ H _ v vl vu lo hi sl Q I rx hs pl pu ⟨a, vs, rfl, hq, fun hw => ?_, fun _ => post_tup sr (cut_rep rq lo hi) q⟩
    rw [rq.length] at hw
    have e := cut_all hw
    unfold cutD at q
    rw [e] at q
    exact post_here sr p q
  · rw [Option.map_eq_some_iff] at h
    obtain ⟨xs, e, rfl⟩ := h
    obtain ⟨a, vs, rfl, hq, rq⟩ := asL_V sr p e
    exact sl_list pins s σ H _ v vl vu lo hi sl Q I rx hs pl pu ⟨a, vs, rfl, .inl hq, post_lst sr (cut_rep rq lo hi) q⟩
theorem e_sl {lo hi : Option Expr} {p2 : Pos} {evl evh : Slots → Store → Res (Option Int)} (hK : B.K = X.K) (ha : PE X a (tE B eva)) (hl : PO X lo (tO B evl)) (hh : PO X hi (tO B evh)) :
    PE X (.Subscript a (.Slice lo hi none p2) pos) (tE B fun sl st => (eva sl st).bind fun x st1 => (evl sl st1).bind fun l st2 => (evh sl st2).bind fun h st3 => ofO (slD x l h st3) st3) := by
  refine PE.imp (pe_slice sl_any ha hl hh) fun σ H Q ⟨W, sl, st, h1, h2, h3, h4, h5⟩ => ?_
  refine tE_then h1 h2 h3 h4 h5 fun x st1 W1 H1 v k1 k2 k3 k4 r1 l1 q1 => ?_
  refine tO_then k1 k2 k3 k4 q1 fun l st2 W2 H2 m1 m2 m3 m4 l2 q2 => ?_
  refine tO_then m1 m2 m3 m4 q2 fun h st3 W3 H3 n1 n2 n3 n4 l3 q3 => ?_
  obtain ⟨d, e1, q4⟩ := post_ofO q3
  exact ⟨W3, (B.E σ), x, st3, d, n4, n1.trans hK, (r1.mono l2).mono l3, e1, q4⟩
/-! built-in functions -/
theorem e_bi {n : Nat} (c : Cok n X) (hK : B.K = X.K) (f : Bi) {x : Str} {p : Pos} (hg : Gl X x) (hm : X.mg x = none) (hv : bootBuiltins x = some (biVal f)) (hn : x ≠ "__name__") (hd : (x == ("__debug__" : Str)) = false) (hs : (e :: es).all (fun e => !isStar e) = true) (h : PA X (e :: es) (tA B evs)) :
    PE X (.Call (.Name x p) (e :: es) [] pos) (tE B fun sl st => (evs sl st).bind fun ds st1 => biD f ds st1) := by
  have h2 := hs
  rw [List.all_cons, Bool.and_eq_true, Bool.not_eq_true'] at h2
  have hc := biAny c f
  have k : PE X (.Call (.Name x p) (e :: es) [] pos) (tCB (rBi X.K f) (tA B evs)) := by
    cases f <;> first
      | exact pe_callB hc hg hm hv h hn hd (star_cons h2.1) (star_none h2.2)
      | exact pe_callTy hc hg hm hv h hn hd (star_cons h2.1) (star_none h2.2)
  refine PE.imp k fun σ H Q ⟨W, sl, st, h1, h2, h3, h4, h5⟩ => ?_
  refine tA_then h1 h2 h3 h4 h5 fun ds st1 W1 H1 vs k1 k2 k3 k4 r1 l1 q1 => ?_
  exact ⟨W1, (B.E σ), ds, st1, k4, k1.trans hK, r1, q1⟩
/-! methods of built-in types -/
def meT : Me → String
  | .join => "str" | .startswith => "str" | .endswith => "str" | .find => "str" | .append => "list" | .extend => "list" | .pop => "list" | .index => "list"
def meId : Me → String
  | .join => "str.join" | .startswith => "str.startswith" | .endswith => "str.endswith" | .find => "str.find" | .append => "list.append" | .extend => "list.extend" | .pop => "list.pop" | .index => "list.index"
def meName : Me → Str
  | .join => "join" | .startswith => "startswith" | .endswith => "endswith" | .find => "find" | .append => "append" | .extend => "extend" | .pop => "pop" | .index => "index"
def rMe (K : PySem.W.Frag) (m : Me) : V → List V → Hp → VK → Prop := fun x vs H Q => ∃ W E dx ds st, SR W st H ∧ W.K = K ∧ Rep W dx x ∧ RepL W ds vs ∧ Post W E (meD m dx ds st) Q
theorem meTy_V {W : Wo} {st : Store} {H : Hp} (sr : SR W st H) {m : Me} {d : D} {v : V} (r : Rep W d v) (h : meTy m d st = true) : tyV W.K (meT m) v H := by
  have str : ∀ {z}, d = .str z → tyV W.K "str" v H := fun {z} e => by
    subst e
    rw [rep_str r]
    exact rfl
  have lst : ∀ {n}, d = .loc n → (lstAt st n).isSome = true → tyV W.K "list" v H := fun {n} e hs => by
    subst e
    cases hl : lstAt st n with
    | none =>
      rw [hl] at hs
      cases hs
    | some xs =>
      obtain ⟨a, vs, rfl, hq, _⟩ := asL_V sr r (xs := xs) hl
      exact .inl ⟨rfl, vs, .inl hq⟩
  have tr : ∀ {xs}, d = .lst xs → tyV W.K "list" v H := fun {xs} e => by
    subst e
    obtain ⟨a, vs, rfl, hq, _⟩ := asL_V sr r (xs := xs) rfl
    exact .inl ⟨rfl, vs, .inl hq⟩
  cases m <;> cases d <;> simp only [meTy, reduceCtorEq, Bool.false_eq_true] at h <;> first
    | exact str rfl
    | exact tr rfl
    | exact lst rfl h
theorem SR.write {W : Wo} {st : Store} {H : Hp} (sr : SR W st H) {n : Nat} {xs ys : List D} {a : Addr} {ws : List V} (e : st[n]? = some (.lst xs)) (ea : W.mu[n]? = some a) (r : RepL W ys ws) : SR W (setC st n (.lst ys)) (upd H a (.lst ws)) := by
  obtain ⟨f, vs, h, _⟩ := sr.lstCell e ea
  exact sr.put e ea f (fun x z => by rw [h] at z; cases z) ⟨f, ws, upd_same, r⟩
theorem dropLast_rep {W : Wo} {ds : List D} {vs : List V} (h : RepL W ds vs) : RepL W ds.dropLast vs.dropLast := by
  rw [List.dropLast_eq_take, List.dropLast_eq_take, h.length]
  exact h.take _
theorem eraseIdx_rep {W : Wo} : ∀ {ds : List D} {vs : List V} (h : RepL W ds vs) (k : Nat), RepL W (ds.eraseIdx k) (vs.eraseIdx k)
  | [], vs, h, k => by
    simp only [RepL] at h
    subst h
    exact .nil
  | d :: ds, vs, h, k => by
    simp only [RepL] at h
    obtain ⟨v, vs', rfl, r, t⟩ := h
    cases k with
    | zero => exact t
    | succ k => exact .cons r (eraseIdx_rep t k)
theorem me_str {m : Me} {id : String} {r : V → List V → Hp → VK → Prop} (h : MtR X id r) (k : ∀ {W : Wo} {E : XK} {dx : D} {ds : List D} {st : Store} {H : Hp} {x : V} {vs : List V} {Q : VK}, SR W st H → W.K = X.K → Rep W dx x → RepL W ds vs → Post W E (meD m dx ds st) Q → r x vs H Q) : MtR X id (rMe X.K m) :=
  fun pins s σ H x vs v us Q I rx rv ⟨W, E, dx, ds, st, sr, hK, p1, p2, q⟩ => h pins s σ H x vs v us Q I rx rv (k sr hK p1 p2 q)
theorem meAny (m : Me) : MtR X (meId m) (rMe X.K m) := by
  cases m
  case join =>
    refine me_str mt_join fun {W E dx ds st H x vs Q} sr hK p1 p2 q => ?_
    unfold meD at q
    split at q <;> first | contradiction | exact q.elim | skip
    obtain ⟨u, rfl, r⟩ := repL1 p2
    split at q
    · rename_i ys e
      rw [Option.bind_eq_some_iff] at e
      obtain ⟨xs, e1, e2⟩ := e
      obtain ⟨a, ws, rfl, hq, rq⟩ := asQ_V sr r e1
      have ew := rq.strs e2
      subst ew
      rw [hK] at hq
      split at q
      · rename_i hz
        exact ⟨_, a, ys, rep_str p1, rfl, hq, hz, post_here sr repS q⟩
      · exact q.elim
    · exact q.elim
  case startswith =>
    refine me_str mt_startswith fun {W E dx ds st H x vs Q} sr hK p1 p2 q => ?_
    unfold meD at q
    split at q <;> first | contradiction | exact q.elim | skip
    obtain ⟨u, rfl, r⟩ := repL1 p2
    exact ⟨_, _, rep_str p1, by rw [rep_str r], post_here sr repB q⟩
  case endswith =>
    refine me_str mt_endswith fun {W E dx ds st H x vs Q} sr hK p1 p2 q => ?_
    unfold meD at q
    split at q <;> first | contradiction | exact q.elim | skip
    obtain ⟨u, rfl, r⟩ := repL1 p2
    exact ⟨_, _, rep_str p1, by rw [rep_str r], post_here sr repB q⟩
  case find =>
    refine me_str mt_find fun {W E dx ds st H x vs Q} sr hK p1 p2 q => ?_
    unfold meD at q
    split at q <;> first | contradiction | exact q.elim | skip
    obtain ⟨u, rfl, r⟩ := repL1 p2
    exact ⟨_, _, rep_str p1, by rw [rep_str r], post_here sr repI q⟩
  case append =>
    refine me_str mt_append fun {W E dx ds st H x vs Q} sr hK p1 p2 q => ?_
    unfold meD at q
    split at q <;> first | contradiction | exact q.elim | skip
    obtain ⟨u, rfl, r⟩ := repL1 p2
    split at q
    · rename_i xs e
      split at q
      · rename_i hz
        have ec := lstAt_cell e
        simp only [Rep] at p1
        obtain ⟨a, ea, rfl⟩ := p1
        obtain ⟨f, ws, h, rq⟩ := sr.lstCell ec ea
        exact ⟨a, ws, u, rfl, rfl, h, by rw [rq.length]; exact hz, q W _ _ (Le.refl W) (sr.write ec ea (rq.snoc r)) repN⟩
      · exact q.elim
    · exact q.elim
  case pop =>
    intro pins s σ H x vs v us Q I rx rv ⟨W, E, dx, ds, st, sr, hK, p1, p2, q⟩
    unfold meD at q
    split at q <;> first | contradiction | exact q.elim | skip
    · simp only [RepL] at p2
      subst p2
      split at q
      · rename_i xs e
        split at q
        · rename_i d ed
          have ec := lstAt_cell e
          simp only [Rep] at p1
          obtain ⟨a, ea, rfl⟩ := p1
          obtain ⟨f, ws, h, rq⟩ := sr.lstCell ec ea
          obtain ⟨w, ew, rw'⟩ := rq.get ed
          exact mt_pop pins s σ H _ _ v us Q I rx rv ⟨a, ws, w, rfl, rfl, h, by rw [rq.length]; exact ew, q W _ _ (Le.refl W) (sr.write ec ea (dropLast_rep rq)) rw'⟩
        · exact q.elim
      · exact q.elim
    · obtain ⟨u, rfl, r⟩ := repL1 p2
      split at q
      · rename_i xs e
        split at q
        · rename_i k ek
          split at q
          · rename_i d ed
            split at q
            · rename_i hz
              have ec := lstAt_cell e
              simp only [Rep] at p1
              obtain ⟨a, ea, rfl⟩ := p1
              obtain ⟨f, ws, h, rq⟩ := sr.lstCell ec ea
              obtain ⟨w, ew, rw'⟩ := rq.get ed
              have ei := rep_int r
              subst ei
              exact mt_popAt pins s σ H _ _ v us Q I rx rv ⟨a, ws, _, k, w, rfl, rfl, h, hz.1, hz.2, by rw [rq.length]; exact (ixN_seq ek).1, ew, q W _ _ (Le.refl W) (sr.write ec ea (eraseIdx_rep rq k)) rw'⟩
            · exact q.elim
          · exact q.elim
        · exact q.elim
      · exact q.elim
  case index =>
    refine me_str mt_index fun {W E dx ds st H x vs Q} sr hK p1 p2 q => ?_
    unfold meD at q
    split at q <;> first | contradiction | exact q.elim | skip
    rename_i xs d _
    obtain ⟨u, rfl, r⟩ := repL1 p2
    split at q
    · rename_i hf
      rw [Bool.and_eq_true] at hf
      split at q
      · rename_i j hj
        obtain ⟨a, ws, rfl, hq, rq⟩ := asL_V sr p1 (xs := xs) rfl
        obtain ⟨hl, pj, pm⟩ := List.findIdx?_eq_some_iff_getElem.mp hj
        obtain ⟨z, ez, rz⟩ := rq.get (List.getElem?_eq_getElem hl)
        have fl : ∀ y ∈ xs, flatD y = true := List.all_eq_true.mp hf.2
        refine ⟨a, ws, u, j, z, rfl, rfl, .inl hq, flatD_V r hf.1, flatL_V rq hf.2, ez, ?_, fun m z' hm e => ?_, post_here sr repI q⟩
        · rw [eqF_V rz r (fl _ (List.getElem_mem hl)) hf.1]
          exact pj
        · have hml : m < xs.length := by omega
          obtain ⟨z2, ez2, rz2⟩ := rq.get (List.getElem?_eq_getElem hml)
          rw [ez2] at e
          cases e
          rw [eqF_V rz2 r (fl _ (List.getElem_mem hml)) hf.1]
          have := pm m hm
          simpa using this
      · exact q.elim
    · exact q.elim
  case extend =>
    intro pins s σ H x vs v us Q I rx rv ⟨W, E, dx, ds, st, sr, hK, p1, p2, q⟩
    unfold meD at q
    split at q <;> first | contradiction | exact q.elim | skip
    obtain ⟨u, rfl, r⟩ := repL1 p2
    split at q
    · rename_i xs ys e e'
      split at q
      · rename_i hz
        have ec := lstAt_cell e
        simp only [Rep] at p1
        obtain ⟨a, ea, rfl⟩ := p1
        obtain ⟨f, ws, h, rq⟩ := sr.lstCell ec ea
        obtain ⟨b, zs, rfl, hb, rz⟩ := asL_V sr r e'
        obtain rfl : v = Value.ref a := rx
        obtain ⟨u1, rfl, ru⟩ := vals1 rv
        obtain rfl : u1 = Value.ref b := ru
        obtain ⟨_, l1, n1, w1, g1⟩ := rdObj I (.inl h)
        obtain ⟨_, l2, n2, w2, g2⟩ := rdObj I hb
        have z1 := w1.length
        have z2 := w2.length
        have z3 := rq.length
        have z4 := rz.length
        have fit : l1.toArray.size + l2.toArray.size ≤ sizeLine := by simp only [List.size_toArray]; omega
        have big : (sizeLine : Nat) < 2 ^ 63 := line63
        refine call_meets F.slot_list_extend ⟨_, g1, rfl⟩ F.entry_list_extend (F.args_list_extend_2 _ _)
          (AutoSeq1.list_extend_list_list_0 a l1.toArray n1 b l2.toArray n2 (by rw [notLongL fit, Bool.and_false]; decide) (by rw [List.size_toArray]; omega) (by omega)) ⟨g1, g2, ?_⟩
        refine ⟨.non, _, I.lset (its' := l1 ++ l2) h g1 (by simp) (w1.append w2) (by rw [List.length_append]; omega), rfl, ?_⟩
        exact q W _ _ (Le.refl W) (sr.write ec ea (rq.append rz)) repN
      · exact q.elim
    · exact q.elim
end
end TM
set_option maxHeartbeats 1000000
/-! TM, part L: methods, isinstance, frz, dicts, slices with a step. -/
namespace TM
open PySem PySem.Spec PyProof.Rows L2
section
variable {X : Cx} {B : Bx} {n : Nat} {a b c e : Expr} {es rest : List Expr} {pos : Pos} {eva evb evc : Ev} {evs : Slots → Store → Res (List D)}
/-! methods -/
theorem few_of {env : Env} {pos : Pos} {es : List Expr} (h : es.all (fun e => !isStar e) = true) (hl : es.length < 30) :
    ((backTo pos (starEach es env)).all (fun x => !x.1) && (backToKw pos (keywordEach [] env)).all (fun x => x.1.isSome)
      && decide (es.length + ([] : List Keyword).length + (if ([] : List Keyword).isEmpty then 0 else 1) < 30)) = true := by
  have h1 : (backTo pos (starEach es env)).all (fun x => !x.1) = true := by
    have := star_none (env := env) (pos := pos) h
    rw [List.any_eq_false] at this
    rw [List.all_eq_true]
    intro x hx
    have := this x hx
    simpa using this
  rw [h1]
  have h2 : (backToKw pos (keywordEach [] env)).all (fun x => x.1.isSome) = true := rfl
  rw [h2]
  simpa using hl
theorem tE_cond {ev : Ev} {p : D → Store → Bool} {f : D → Store → Res D} {σ : Sg} {H : Hp} {Q : VK} : True := trivial
theorem e_me0 (m : Me) {nm : Str} {apos cpos : Pos} (hK : B.K = X.K) (hn : nm = meName m) (h : noSuper a = true) (hl : (apos.endLine == cpos.line) = true) (ha : PE X a (tE B eva)) :
    PE X (.Call (.Attribute a nm apos) [] [] cpos) (tE B fun sl st => (eva sl st).bind fun x st1 => if meTy m x st1 then (Res.ok (α := List D) [] st1).bind fun ds st2 => meD m x ds st2 else .stuck) := by
  subst hn
  have hb := base_plain (n := meName m) (env := X.env) h (eval a X.env)
  have k : PE X (.Call (.Attribute a (meName m) apos) [] [] cpos) (tBM0 X.K (meT m) (rMe X.K m) (tE B eva)) := by
    cases m <;> first
      | exact pe_bm0 PySem.F.plainAttrs_str PySem.F.slot_str_join PySem.F.type_str_join (meAny .join) ha hb hl
      | exact pe_bm0 PySem.F.plainAttrs_list PySem.F.slot_list_append PySem.F.type_list_append (meAny .append) ha hb hl
      | exact pe_bm0 PySem.F.plainAttrs_list PySem.F.slot_list_extend PySem.F.type_list_extend (meAny .extend) ha hb hl
      | exact pe_bm0 PySem.F.plainAttrs_list PySem.F.slot_list_pop PySem.F.type_list_pop (meAny .pop) ha hb hl
      | exact pe_bm0 PySem.F.plainAttrs_str PySem.F.slot_str_startswith PySem.F.type_str_startswith (meAny .startswith) ha hb hl
      | exact pe_bm0 PySem.F.plainAttrs_str PySem.F.slot_str_endswith PySem.F.type_str_endswith (meAny .endswith) ha hb hl
      | exact pe_bm0 PySem.F.plainAttrs_str PySem.F.slot_str_find PySem.F.type_str_find (meAny .find) ha hb hl
      | exact pe_bm0 PySem.F.plainAttrs_list PySem.F.slot_list_index PySem.F.type_list_index (meAny .index) ha hb hl
  refine PE.imp k fun σ H Q ⟨W, sl, st, h1, h2, h3, h4, h5⟩ => ?_
  refine tE_then h1 h2 h3 h4 h5 fun x st1 W1 H1 v k1 k2 k3 k4 r1 l1 q1 => ?_
  split at q1
  · rename_i ht
    have t := meTy_V k4 r1 ht
    rw [k1, hK] at t
    exact ⟨t, W1, (B.E σ), x, [], st1, k4, k1.trans hK, r1, .nil, q1⟩
  · exact q1.elim
theorem e_me (m : Me) {nm : Str} {apos cpos : Pos} (hK : B.K = X.K) (hn : nm = meName m) (h : noSuper a = true) (hl : (apos.endLine == cpos.line) = true) (hs : (e :: es).all (fun e => !isStar e) = true) (hlen : (e :: es).length < 30) (ha : PE X a (tE B eva)) (hes : PA X (e :: es) (tA B evs)) :
    PE X (.Call (.Attribute a nm apos) (e :: es) [] cpos) (tE B fun sl st => (eva sl st).bind fun x st1 => if meTy m x st1 then (evs sl st1).bind fun ds st2 => meD m x ds st2 else .stuck) := by
  subst hn
  have hb := base_plain (n := meName m) (env := X.env) h (eval a X.env)
  have hf := few_of (env := X.env) (pos := cpos) hs hlen
  have h2 := hs
  rw [List.all_cons, Bool.and_eq_true, Bool.not_eq_true'] at h2
  have hc := star_cons (env := X.env) (es := es) h2.1
  have hp := star_none (env := X.env) (pos := cpos) h2.2
  have k : PE X (.Call (.Attribute a (meName m) apos) (e :: es) [] cpos) (tBM X.K (meT m) (rMe X.K m) (tE B eva) (tA B evs)) := by
    cases m <;> first
      | exact pe_bm PySem.F.plainAttrs_str PySem.F.slot_str_join PySem.F.type_str_join (meAny .join) ha hes hb hf hl hc hp
      | exact pe_bm PySem.F.plainAttrs_list PySem.F.slot_list_append PySem.F.type_list_append (meAny .append) ha hes hb hf hl hc hp
      | exact pe_bm PySem.F.plainAttrs_list PySem.F.slot_list_extend PySem.F.type_list_extend (meAny .extend) ha hes hb hf hl hc hp
      | exact pe_bm PySem.F.plainAttrs_list PySem.F.slot_list_pop PySem.F.type_list_pop (meAny .pop) ha hes hb hf hl hc hp
      | exact pe_bm PySem.F.plainAttrs_str PySem.F.slot_str_startswith PySem.F.type_str_startswith (meAny .startswith) ha hes hb hf hl hc hp
      | exact pe_bm PySem.F.plainAttrs_str PySem.F.slot_str_endswith PySem.F.type_str_endswith (meAny .endswith) ha hes hb hf hl hc hp
      | exact pe_bm PySem.F.plainAttrs_str PySem.F.slot_str_find PySem.F.type_str_find (meAny .find) ha hes hb hf hl hc hp
      | exact pe_bm PySem.F.plainAttrs_list PySem.F.slot_list_index PySem.F.type_list_index (meAny .index) ha hes hb hf hl hc hp
  refine PE.imp k fun σ H Q ⟨W, sl, st, h1, h2, h3, h4, h5⟩ => ?_
  refine tE_then h1 h2 h3 h4 h5 fun x st1 W1 H1 v k1 k2 k3 k4 r1 l1 q1 => ?_
  split at q1
  · rename_i ht
    have t := meTy_V k4 r1 ht
    rw [k1, hK] at t
    refine ⟨t, tA_then k1 k2 k3 k4 q1 fun ds st2 W2 H2 vs m1 m2 m3 m4 r2 l2 q2 => ?_⟩
    exact ⟨W2, (B.E σ), x, ds, st2, m4, m1.trans hK, r1.mono l2, r2, q2⟩
  · exact q1.elim
/-! isinstance -/
def tyN : Ty → String
  | .bool => "bool" | .int => "int" | .str => "str" | .list => "list" | .tuple => "tuple" | .dict => "dict" | .cls _ => "object"
def tyB : Ty → Bool
  | .cls _ => false
  | _ => true
theorem kit_tys {K : PySem.W.Frag} : ∀ {t u : Ty}, tyB t = true → tyB u = true → PySem.W.kitOne K (.type (tyN t)) (.type (tyN u)) = some (isTy t u) := by
  intro t u ht hu
  refine kit_ty ?_
  cases t <;> first | (cases ht; done) | skip
  all_goals (cases u <;> first | (cases hu; done) | skip)
  all_goals decide +kernel
theorem kit_non {K : PySem.W.Frag} : ∀ {u : Ty}, tyB u = true → PySem.W.kitOne K (.type "NoneType") (.type (tyN u)) = some false := by
  intro u hu
  refine kit_ty ?_
  cases u <;> first | (cases hu; done) | decide +kernel
theorem tyD_B {d : D} {st : Store} {t : Ty} (h : tyD d st = some t) : tyB t = true := by
  unfold tyD at h
  split at h <;> first | (cases h; rfl) | (cases h; done) | skip
  split at h <;> first | (cases h; rfl) | (cases h; done) | skip
theorem tyX_of {W : Wo} {st : Store} {H : Hp} (sr : SR W st H) {d : D} {v : V} {t : Ty} (r : Rep W d v) (hn : d ≠ .nkd) (h : tyD d st = some t) : TyX W.K H v (.type (tyN t)) := by
  have hl : ∀ xs, asL d st = some xs → TyX W.K H v (.type "list") := fun xs e => by
    obtain ⟨a, vs, rfl, q, _⟩ := asL_V sr r e
    rcases q with q | ⟨o, q⟩
    · exact .base (.lst q)
    · exact .base (.frz q)
  have hk : ∀ xs, asK d st = some xs → TyX W.K H v (.type "dict") := fun xs e => by
    obtain ⟨a, vs, rfl, q, _⟩ := asK_V sr r e
    rcases q with q | ⟨o, q⟩
    · exact .base (.dK q)
    · exact .fDict q
  cases d with
  | bl b => simp only [tyD, Option.some.injEq] at h; subst h; rw [rep_bl r]; exact .base (.bl b)
  | int b => simp only [tyD, Option.some.injEq] at h; subst h; rw [rep_int r]; exact .base (.int b)
  | str b => simp only [tyD, Option.some.injEq] at h; subst h; rw [rep_str r]; exact .base (.str b)
  | tup xs =>
    simp only [tyD, Option.some.injEq] at h
    subst h
    obtain ⟨a, vs, rfl, q, _⟩ := asT_V sr r
    rcases q with (q | ⟨o, q⟩) | ⟨o, its, n, q, q2, _⟩
    · exact .base (.tup q)
    · exact .fTuple q
    · exact .kTuple q q2
  | lst xs => simp only [tyD, Option.some.injEq] at h; subst h; exact hl _ rfl
  | dct xs => simp only [tyD, Option.some.injEq] at h; subst h; exact hk _ rfl
  | non => simp [tyD] at h
  | obj C fs => simp [tyD] at h
  | cls C => simp [tyD] at h
  | nkd => exact absurd rfl hn
  | loc n =>
    simp only [tyD] at h
    split at h
    · rename_i xs e
      cases h
      exact hl xs (by simp [asL, lstAt, e])
    · rename_i xs e
      cases h
      exact hk xs (by simp [asK, dctAt, e])
    · cases h
theorem tyN_of {W : Wo} {st : Store} {H : Hp} (sr : SR W st H) {d : D} {v : V} {t : Ty} (r : Rep W d v) (h : tyD d st = some t) : TyN W.K H v (.type (tyN t)) := by
  by_cases hn : d = .nkd
  · subst hn
    simp only [tyD, Option.some.injEq] at h
    subst h
    simp only [Rep] at r
    obtain ⟨a, od, rfl, hF⟩ := r
    exact .nk (in_mono sr.still (fun _ z => nomatch z) hF)
  · exact .base (tyX_of sr r hn h)
theorem isin_one {W : Wo} {st : Store} {H : Hp} (sr : SR W st H) {d : D} {v : V} {ts : List Ty} {b : Bool} (r : Rep W d v) (hb : ts.all tyB = true) (h : isinD d ts st = some b) : ∃ t, TyN W.K H v t ∧ ((∀ u, ts = [u] → PySem.W.kitOne W.K t (.type (tyN u)) = some b) ∧ PySem.W.kitAny W.K t (ts.map fun u => .type (tyN u)) = some b) := by
  have gen : ∀ (t : Value) (f : Ty → Bool), (∀ u, tyB u = true → PySem.W.kitOne W.K t (.type (tyN u)) = some (f u)) → ∀ ts : List Ty, ts.all tyB = true → PySem.W.kitAny W.K t (ts.map fun u => .type (tyN u)) = some (ts.any f) := by
    intro t f hf ts
    induction ts with
    | nil => intro _; rfl
    | cons u ts ih =>
      intro hb
      rw [List.all_cons, Bool.and_eq_true] at hb
      rw [List.map_cons, List.any_cons]
      refine kitAny_cons (hf u hb.1) (fun e => ?_) (fun e => ?_)
      · rw [e, Bool.false_or]
        exact ih hb.2
      · rw [e, Bool.true_or]
  by_cases hn : d = .non
  · subst hn
    simp only [isinD, Option.some.injEq] at h
    subst h
    rw [rep_non r]
    refine ⟨_, .base (.base .non), fun u e => ?_, ?_⟩
    · subst e
      exact kit_non (by simpa using hb)
    · rw [gen _ (fun _ => false) (fun u hu => kit_non hu) ts hb]
      simp
  · have h' : (tyD d st).map (fun t => ts.any (isTy t)) = some b := by
      cases d <;> first | exact absurd rfl hn | exact h
    rw [Option.map_eq_some_iff] at h'
    obtain ⟨t, e, rfl⟩ := h'
    have tb := tyD_B e
    refine ⟨_, tyN_of sr r e, fun u e => ?_, gen _ (isTy t) (fun u hu => kit_tys tb hu) ts hb⟩
    subst e
    simp only [List.all_cons, List.all_nil, Bool.and_true] at hb
    rw [kit_tys tb hb]
    simp
theorem e_isi {t : Ty} {T : Str} {p p' : Pos} {nm : Str} (hK : B.K = X.K) (hnm : nm = "isinstance") (hg : Gl X nm) (hm : X.mg nm = none) (hgT : Gl X T) (hmT : X.mg T = none) (hv : bootBuiltins T = some (.type (tyN t))) (hn : T ≠ "__name__") (hd : (T == ("__debug__" : Str)) = false) (hb : tyB t = true)
    (hs : isStar a = false) (ha : PE X a (tE B eva)) : PE X (.Call (.Name nm p) [a, .Name T p'] [] pos) (tE B fun sl st => (eva sl st).bind fun x st1 => ofO ((isinD x [t] st1).map .bl) st1) := by
  subst hnm
  have hT : PE X (.Name T p') (tC (.ty (tyN t))) := pe_bltn hgT hmT hv rfl hn hd
  refine PE.imp (pe_callB call_isiN hg hm (by decide +kernel) (pa_cons ha (pa_cons hT pa_nil rfl) (star_cons hs)) (by decide) (by decide) (star_cons hs) rfl) fun σ H Q ⟨W, sl, st, h1, h2, h3, h4, h5⟩ => ?_
  refine tE_then h1 h2 h3 h4 h5 fun x st1 W1 H1 v k1 k2 k3 k4 r1 l1 q1 => ?_
  obtain ⟨d, e1, q3⟩ := post_ofO q1
  rw [Option.map_eq_some_iff] at e1
  obtain ⟨k, e1, rfl⟩ := e1
  obtain ⟨t', x1, x2, _⟩ := isin_one k4 r1 (ts := [t]) (by simpa using hb) e1
  rw [k1, hK] at x1 x2
  exact ⟨v, _, t', _, k, rfl, .ty _, x1, x2 _ rfl, post_here k4 repB q3⟩
/-! a dict, a list that comes to stand still -/
theorem e_frz (ha : PE X a (tE B eva)) : PE X a (tE B fun sl st => (eva sl st).bind fun x st1 => frzD x st1) := by
  refine PE.imp ha fun σ H Q ⟨W, sl, st, h1, h2, h3, h4, h5⟩ => ?_
  refine tE_then h1 h2 h3 h4 h5 fun x st1 W1 H1 v k1 k2 k3 k4 r1 l1 q1 => ?_
  unfold frzD at q1
  split at q1 <;> first | exact q1.elim | skip
  rename_i m
  simp only [Rep] at r1
  obtain ⟨p, ea, rfl⟩ := r1
  split at q1
  · rename_i xs e
    obtain ⟨f, vs, hH, rq⟩ := k4.lstCell e ea
    refine q1 (W1.still p (.lst vs)) H1 _ (le_still f) (k4.freeze e ea f hH) ?_
    simp only [Rep]
    exact ⟨p, vs, rfl, .inl upd_same, rq.mono (le_still f)⟩
  · rename_i xs e
    obtain ⟨f, vs, hH, rq⟩ := k4.dctCell e ea
    refine q1 (W1.still p (.dK vs)) H1 _ (le_still f) (k4.freeze e ea f hH) ?_
    simp only [Rep]
    exact ⟨p, vs, rfl, .inl upd_same, rq.mono (le_still f)⟩
  · exact q1.elim
theorem e_dct0 (mt : Bool) : PE X (.Dict [] [] pos) (tE B fun sl st => (Res.ok (α := List D) [] st).bind fun ds st1 => match pairUp ds with
    | some kvs => if kvs.length ≤ 15 then mkK mt (mergeD [] kvs) st1 else .stuck
    | none => .stuck) := by
  refine PE.imp pe_dnewK fun σ H Q ⟨W, sl, st, h1, h2, h3, h4, h5⟩ => ?_
  exact post_mkK h4 (xs := []) .nil h5
/-! slices with a step -/
def tSlx (K : PySem.W.Frag) (te : TE) (ts : TO) : TE := fun σ H Q => te σ H fun x H1 => ts σ H1 fun o H2 => ∃ a xs zs, x = .ref a ∧ SqL K H2 a xs ∧ ((o = some 1 ∧ zs = xs) ∨ (o = some (-1) ∧ zs = xs.reverse)) ∧ ∀ p, H2 p = none → Q (.ref p) (upd H2 p (.lst zs))
theorem slicePick_one (items : Array Value) : slicePick items none none (some 1) = items := slicePick_all items
theorem pe_slx {e s1 : Expr} {te : TE} {ts : TO} {p3 pos : Pos} (he : PE X e te) (hs : PO X (some s1) ts) : PE X (.Subscript e (.Slice none none (some s1) p3) pos) (tSlx X.K te ts) := by
  refine ⟨fun pins s σ H Q I h => ?_⟩
  refine Subscript_ (thn (he.run pins s σ H _ I h) fun v s1 ⟨x, H1, I1, r1, q1⟩ => ?_)
  refine wpAny_Slice (thn (po_none.run pins s1 σ H1 (fun o H2 => o = none ∧ H2 = H1) I1 ⟨rfl, rfl⟩) fun vl s2 ⟨l, H2, I2, pl, el, e2⟩ => ?_)
  subst el e2
  refine thn (po_none.run pins s2 σ H2 (fun o H3 => o = none ∧ H3 = H2) I2 ⟨rfl, rfl⟩) fun vu s3 ⟨u, H3, I3, pu, eu, e3⟩ => ?_
  subst eu e3
  refine thn (hs.run pins s3 σ H3 _ I3 q1) fun vs s4 ⟨o, H4, I4, ps, q⟩ => ?_
  obtain ⟨a, xs, zs, ex, hx, ho, q⟩ := q
  subst ex
  cases r1
  have I5 : Inv X pins σ H4 { s4 with heap := s4.heap.push { cls := .type "slice", data := .fields #[vl, vu, vs] } } := I4.kept (t' := s4.toks) fun b ob q => Heap.get?_push_of_some _ q
  obtain ⟨its, r, ht, hz⟩ := I5.list hx
  have hlen := r.length
  refine tail_any (ops := [.ref a, .ref s4.heap.objs.size]) ht.isList.typeIs (PySem.slot_list_getitem.lookup) ?_ (by with_unfolding_all rfl)
  have sz : its.toArray.size ≤ sizeLine := by rw [List.size_toArray]; omega
  rcases ho with ⟨rfl, rfl⟩ | ⟨rfl, rfl⟩
  · refine wpAny_getItem_list_slice ht.isList (Heap.IsSliceOf.new _ vl vu vs) pl pu ps (by decide) ?_ sz
    rw [slicePick_one]
    refine ⟨.ref _, _, I5.laid (t' := s4.toks) (o := .lst zs) (fun b ob q => Heap.get?_push_of_some _ q) (Nat.le_refl _) ?_, rfl, q _ (I5.hok.fresh (Nat.le_refl _))⟩
    exact ⟨hz, _, 0, r, Heap.get?_push_size _ rfl⟩
  · refine wpAny_getItem_list_slice ht.isList (Heap.IsSliceOf.new _ vl vu vs) pl pu ps (by decide) ?_ sz
    rw [PySem.W.krv_pick]
    refine ⟨.ref _, _, I5.laid (t' := s4.toks) (o := .lst xs.reverse) (fun b ob q => Heap.get?_push_of_some _ q) (Nat.le_refl _) ?_, rfl, q _ (I5.hok.fresh (Nat.le_refl _))⟩
    exact ⟨by rw [List.length_reverse]; exact hz, _, 0, r.reverse, Heap.get?_push_size _ rfl⟩
theorem e_slx {s1 : Expr} {p3 : Pos} (hK : B.K = X.K) (ha : PE X a (tE B eva)) (hs : PE X s1 (tE B evb)) : PE X (.Subscript a (.Slice none none (some s1) p3) pos) (tE B fun sl st => (eva sl st).bind fun x st1 => (evb sl st1).bind fun k st2 => match asL x st2, k with
    | some xs, .int 1 => .ok (.lst xs) st2
    | some xs, .int (-1) => .ok (.lst xs.reverse) st2
    | _, _ => .stuck) := by
  refine PE.imp (pe_slx ha (o_some hs)) fun σ H Q ⟨W, sl, st, h1, h2, h3, h4, h5⟩ => ?_
  refine tE_then h1 h2 h3 h4 h5 fun x st1 W1 H1 v k1 k2 k3 k4 r1 l1 q1 => ?_
  refine tO_then (Q := Q) (f := fun o st2 => match asL x st2, o with
    | some xs, some 1 => .ok (.lst xs) st2
    | some xs, some (-1) => .ok (.lst xs.reverse) st2
    | _, _ => .stuck) k1 k2 k3 k4 ?_ fun o st2 W2 H2 m1 m2 m3 m4 l2 q2 => ?_
  · rw [bind_assoc]
    have e : (fun (k : D) (st2 : Store) => (match asL x st2, k with
      | some xs, .int 1 => .ok (.lst xs) st2
      | some xs, .int (-1) => .ok (.lst xs.reverse) st2
      | _, _ => .stuck : Res D)) = fun k st2 => (match k with | .int i => Res.ok (some i) st2 | _ => .stuck : Res (Option Int)).bind fun o st2 => match asL x st2, o with
      | some xs, some 1 => .ok (.lst xs) st2
      | some xs, some (-1) => .ok (.lst xs.reverse) st2
      | _, _ => .stuck := by
      funext k st2
      cases k with
      | int i =>
        show _ = (match asL x st2, some i with
          | some xs, some 1 => .ok (.lst xs) st2
          | some xs, some (-1) => .ok (.lst xs.reverse) st2
          | _, _ => .stuck : Res D)
        cases asL x st2 with
        | none => rfl
        | some xs =>
          by_cases e1 : i = 1
          · subst e1; rfl
          · by_cases e2 : i = -1
            · subst e2; rfl
            · split <;> split <;> simp_all
      | _ => cases asL x st2 <;> rfl
    rw [e] at q1
    exact q1
  · split at q2
    · rename_i xs e1
      obtain ⟨p, vs, rfl, hq, rq⟩ := asL_V m4 (r1.mono l2) e1
      exact ⟨p, vs, vs, rfl, .inl hq, .inl ⟨rfl, rfl⟩, post_lst m4 rq q2⟩
    · rename_i xs e1
      obtain ⟨p, vs, rfl, hq, rq⟩ := asL_V m4 (r1.mono l2) e1
      exact ⟨p, vs, vs.reverse, rfl, .inl hq, .inr ⟨rfl, rfl⟩, post_lst m4 rq.reverse q2⟩
    · exact q2.elim
end
end TM
set_option maxHeartbeats 1000000
/-! TM, part M: what is walked, targets, list comprehensions. -/
namespace TM
open PySem PySem.Spec PyProof.Rows L2
/-! ### what is walked -/
def Wk (W : Wo) (J : It) (it : Itr) : Prop := ∀ W' st' H', Li W W' → SR W' st' H' → srcOk it.src st' = true → ∀ i,
  (i < it.items.length → J.go i H' ∧ ∀ x H2, J.yld i H' x H2 → ∃ W2 d, Le W' W2 ∧ SR W2 st' H2 ∧ it.items[i]? = some d ∧ Rep W2 d x) ∧ (i = it.items.length → J.stop i H')
def tI (B : Bx) (ev : Slots → Store → Res Itr) : TI := fun σ H R => ∃ W sl st, W.K = B.K ∧ W.CA = B.CA ∧ SlR W sl σ ∧ SR W st H ∧ (match ev sl st with
  | .ok it st' => ∀ W' H' J, Le W W' → SR W' st' H' → Wk W' J it → R J H'
  | .exc C fs st' => PostX W (B.E σ) C fs st'
  | .stuck => False)
theorem PI.imp {X : Cx} {tg e : Expr} {t t' : TI} (h : PI X tg e t) (k : ∀ σ H Q, t' σ H Q → t σ H Q) : PI X tg e t' := ⟨fun pins s σ H Q I q => h.run pins s σ H Q I (k σ H Q q)⟩
theorem PI.or {X : Cx} {tg e : Expr} {t t' : TI} (h : PI X tg e t) (h' : PI X tg e t') : PI X tg e (fun σ H R => t σ H R ∨ t' σ H R) := ⟨fun pins s σ H Q I q => q.elim (h.run pins s σ H Q I) (h'.run pins s σ H Q I)⟩
theorem getE {α : Type} {xs : List α} {i : Nat} (h : i < xs.length) : ∃ x, xs[i]? = some x := ⟨xs[i], List.getElem?_eq_getElem h⟩
/-- a list's walk -/
theorem wk_seq {W : Wo} {it : Itr} {J : It} (vs : List V) (P : Hp → Prop) (hP : ∀ W' st' H', Li W W' → SR W' st' H' → srcOk it.src st' = true → ∃ vs, RepL W' it.items vs ∧
    ∀ i, (∀ x, vs[i]? = some x → J.go i H') ∧ (∀ x H2, J.yld i H' x H2 → H2 = H' ∧ vs[i]? = some x) ∧ (i = vs.length → J.stop i H')) : Wk W J it := by
  intro W' st' H' l s ok i
  obtain ⟨vs, r, h⟩ := hP W' st' H' l s ok
  obtain ⟨h1, h2, h3⟩ := h i
  have hl := r.length
  refine ⟨fun hi => ?_, fun hi => h3 (by omega)⟩
  obtain ⟨d, ed⟩ := getE hi
  obtain ⟨v, ev, rv⟩ := r.get ed
  refine ⟨h1 v ev, fun x H2 y => ?_⟩
  obtain ⟨rfl, ex⟩ := h2 x H2 y
  rw [ev] at ex
  cases ex
  exact ⟨W', d, Le.refl W', s, ed, rv⟩
theorem wk_list {W : Wo} {a : Addr} {it : Itr} (h : ∀ W' st' H', Li W W' → SR W' st' H' → srcOk it.src st' = true → ∃ vs, SqL W.K H' a vs ∧ RepL W' it.items vs)
    (inj : ∀ H xs ys, SqL W.K H a xs → SqL W.K H a ys → xs = ys) : Wk W (Itl W.K a) it := by
  refine wk_seq [] (fun _ => True) fun W' st' H' l s ok => ?_
  obtain ⟨vs, q, r⟩ := h W' st' H' l s ok
  exact ⟨vs, r, fun i => ⟨fun x e => ⟨vs, x, q, e⟩, fun x H2 y => ⟨y.1, y.2 vs q⟩, fun e => ⟨vs, q, by omega⟩⟩⟩
theorem signs_get {x : Str} {i : Nat} {c : Nat} (h : x.cps[i]? = some c) : (signs x)[i]? = some (.str ⟨#[c]⟩) := by
  unfold signs
  rw [List.getElem?_map, Array.getElem?_toList, h]
  rfl
theorem signs_len {x : Str} : (signs x).length = x.cps.size := by
  unfold signs
  rw [List.length_map, Array.length_toList]
section
variable {X : Cx} {B : Bx} {n : Nat} {a b c e tg : Expr} {es rest : List Expr} {pos : Pos} {eva evb evc : Ev} {evs : Slots → Store → Res (List D)}
/-- a dict by its keys: it is locked first -/
theorem pi_keysL {te : TE} (he : PE X e te) : PI X tg e (fun σ H R => te σ H fun x H1 => ∃ d kvs, x = .ref d ∧ ((∃ o, H1 d = some (.frz o (.dK kvs)) ∧ R (Itk d o kvs) H1) ∨ (H1 d = some (.dK kvs) ∧ ∀ o, R (Itk d o kvs) (upd H1 d (.frz o (.dK kvs)))))) := by
  refine ⟨fun pins s σ H R I h => ?_⟩
  refine thn (he.run pins s σ H _ I h) fun u s1 ⟨x, H1, I1, rx, d, kvs, ex, q⟩ => ?_
  subst ex
  obtain rfl : u = Value.ref d := rx
  have go : ∀ {H2 : Hp} {o : Obj}, L2.Inv X pins σ H2 s1 → H2 d = some (.frz o (.dK kvs)) → R (Itk d o kvs) H2 → wpAny (model X.prog X.w) X.A (pyIter (.ref d)) (PIE X pins σ tg R) X.xe s1 := fun {H2 o} I2 hd q => by
    obtain ⟨hs, hgd, hx, es, ep, vs, hdt, hsz, kv, hm⟩ := I2.frzK hd
    refine iter_keys hs hgd hx hdt (pi_one (tk := s1.toks) I2 _ (turn_keys _ hdt) ⟨_, Heap.get?_push_size _ rfl, rfl, ?_⟩ q)
    rw [hsz] <;> rfl
  rcases q with ⟨o, hd, q⟩ | ⟨hd, q⟩
  · exact go I1 hd q
  · obtain ⟨od, I2⟩ := I1.lock hd trivial
    exact go I2 upd_same (q od)
theorem RepK.getk {W : Wo} : ∀ {ds : List (Key × D)} {vs : List (Key × V)} {i : Nat} {k : Key} {v : V}, RepK W ds vs → vs[i]? = some (k, v) → (ds.map fun kv => ofKey kv.1)[i]? = some (ofKey k) := fun {ds vs i k v} r e => by
  have q := r.keys
  have e1 : (vs.map (·.1))[i]? = some k := by rw [List.getElem?_map, e]; rfl
  rw [q, List.getElem?_map] at e1
  rw [List.getElem?_map]
  cases hd : ds[i]? with
  | none => rw [hd] at e1; cases e1
  | some p =>
    rw [hd] at e1
    simp only [Option.map_some, Option.some.injEq] at e1
    simp only [Option.map_some, e1]
theorem wk_dct {W : Wo} {d : Addr} {o : Obj} {kvs : List (Key × D)} {vs : List (Key × V)} (hF : W.F d = some (.frz o (.dK vs))) (r : RepK W kvs vs) : Wk W (Itk d o vs) ⟨none, kvs.map fun kv => ofKey kv.1⟩ := by
  intro W' st' H' l s ok i
  have q : H' d = some (.frz o (.dK vs)) := in_mono s.still (fun _ z => nomatch z) (in_mono l.F (fun _ z => nomatch z) hF)
  have hl := r.length
  refine ⟨fun hi => ?_, fun hi => ?_⟩
  · have hi' : i < vs.length := by rw [hl]; simpa using hi
    refine ⟨⟨q, hi'⟩, fun x H2 y => ?_⟩
    obtain ⟨rfl, k, v, e, rfl⟩ := y
    exact ⟨W', ofKey k, Le.refl W', s, r.getk e, ofKey_V k⟩
  · refine ⟨q, ?_⟩
    have : i = kvs.length := by simpa using hi
    omega
theorem RepK.getv {W : Wo} : ∀ {ds : List (Key × D)} {vs : List (Key × V)} {i : Nat} {k : Key} {v : V}, RepK W ds vs → vs[i]? = some (k, v) → ∃ d, (ds.map (·.2))[i]? = some d ∧ Rep W d v
  | [], _, _, _, _, r, e => by
    simp only [RepK] at r
    subst r
    simp at e
  | (l, d) :: ds, _, 0, k, v, r, e => by
    simp only [RepK, RepKP] at r
    obtain ⟨u, us, rfl, ⟨_, h1⟩, _⟩ := r
    have e' : u = (k, v) := by simpa using e
    subst e'
    exact ⟨d, rfl, h1⟩
  | (l, d) :: ds, _, i + 1, k, v, r, e => by
    simp only [RepK, RepKP] at r
    obtain ⟨u, us, rfl, _, h2⟩ := r
    obtain ⟨x, q1, q2⟩ := RepK.getv (i := i) h2 (by simpa using e)
    exact ⟨x, by simpa using q1, q2⟩
theorem wk_vals {W : Wo} {d : Addr} {o : Obj} {kvs : List (Key × D)} {vs : List (Key × V)} (hF : W.F d = some (.frz o (.dK vs))) (r : RepK W kvs vs) : Wk W (Itd d o vs) ⟨none, kvs.map (·.2)⟩ := by
  intro W' st' H' l s ok i
  have q : H' d = some (.frz o (.dK vs)) := in_mono s.still (fun _ z => nomatch z) (in_mono l.F (fun _ z => nomatch z) hF)
  have hl := r.length
  refine ⟨fun hi => ?_, fun hi => ?_⟩
  · have hi' : i < vs.length := by rw [hl]; simpa using hi
    refine ⟨⟨q, hi'⟩, fun x H2 y => ?_⟩
    obtain ⟨rfl, k, e⟩ := y
    obtain ⟨d', e1, e2⟩ := r.getv e
    exact ⟨W', d', Le.refl W', s, e1, e2.mono' l⟩
  · refine ⟨q, ?_⟩
    have : i = kvs.length := by simpa using hi
    omega
theorem wk_nk {W : Wo} {d : Addr} {o : Obj} (hF : W.F d = some (.frz o (NkO d))) : Wk W (ItN d o) ⟨none, [.non]⟩ := by
  intro W' st' H' l s ok i
  have q : H' d = some (.frz o (NkO d)) := in_mono s.still (fun _ z => nomatch z) (in_mono l.F (fun _ z => nomatch z) hF)
  refine ⟨fun hi => ?_, fun hi => ?_⟩
  · have hi' : i < 1 := by simpa using hi
    refine ⟨⟨q, hi'⟩, fun x H2 y => ?_⟩
    obtain ⟨rfl, rfl⟩ := y
    obtain rfl : i = 0 := by omega
    exact ⟨W', .non, Le.refl W', s, rfl, repN⟩
  · refine ⟨q, ?_⟩
    have : i = 1 := by simpa using hi
    omega
/-- a dict comes to be locked -/
theorem dct_lock {W1 : Wo} {st1 : Store} {H1 : Hp} (s1 : SR W1 st1 H1) {p : Addr} {es : List (Key × V)} (q : Rd W1.F p (.dK es)) :
    (∃ od, H1 p = some (.frz od (.dK es)) ∧ ∃ W2, Le W1 W2 ∧ SR W2 st1 H1 ∧ W2.F p = some (.frz od (.dK es))) ∨ (H1 p = some (.dK es) ∧ ∀ od, ∃ W2, Le W1 W2 ∧ SR W2 st1 (upd H1 p (.frz od (.dK es))) ∧ W2.F p = some (.frz od (.dK es))) := by
  rcases q with q | ⟨od, q⟩
  · rcases s1.still _ _ q with z | ⟨es', od, ez, z⟩
    · exact .inr ⟨z, fun o => ⟨_, le_locked (od := o) q, s1.lock q z, upd_same⟩⟩
    · cases ez
      have lk : SR (W1.locked p (.frz od (.dK es))) st1 H1 := by
        have nF : ∀ {a : Addr}, W1.F a = none → a ≠ p := fun {a} e z' => by rw [z', q] at e; cases e
        refine ⟨fun a u e => ?_, s1.len, s1.nd, fun n c a e1 e2 => (s1.cell n c a e1 e2).keep (le_locked q).li (fun f => ?_) fun x u f hx e => e, s1.al, fun a u e => ?_⟩
        · have e' : upd W1.F p (.frz od (.dK es)) a = some u := e
          by_cases ha : a = p
          · subst ha
            rw [upd_same] at e'
            cases e'
            exact .inl z
          · rw [upd_ne ha] at e'
            exact s1.still a u e'
        · show upd W1.F p _ a = none
          rw [upd_ne (nF f)]
          exact f
        · obtain ⟨q1, q2, q3⟩ := s1.fo a u e
          refine ⟨q1, ?_, q3⟩
          show upd W1.F p _ a = none
          rw [upd_ne (nF q2)]
          exact q2
      exact .inl ⟨od, z, _, le_locked (od := od) q, lk, upd_same⟩
  · have z := in_mono (o := .frz od (.dK es)) s1.still (fun _ z => nomatch z) q
    exact .inl ⟨od, z, W1, Le.refl W1, s1, q⟩
theorem i_vals {apos cpos : Pos} (hbase : attributeBase a "values" X.env (eval a X.env) = eval a X.env) (hline : (apos.endLine == cpos.line) = true) (ha : PE X a (tE B eva)) : PI X tg (.Call (.Attribute a "values" apos) [] [] cpos) (tI B fun sl st => (eva sl st).bind fun x st1 => match x with
    | .dct kvs => .ok ⟨none, kvs.map (·.2)⟩ st1
    | _ => .stuck) := by
  refine PI.imp (pi_valsL ha hbase hline) fun σ H R ⟨W, sl, st, h1, h2, h3, h4, h5⟩ => ?_
  dsimp only at h5
  refine ⟨W, sl, st, h1, h2, h3, h4, ?_⟩
  cases hr : eva sl st with
  | stuck =>
    rw [hr] at h5
    exact h5.elim
  | exc C fs st' =>
    rw [hr] at h5
    exact h5
  | ok x st1 =>
    rw [hr, Res.bind_ok] at h5
    cases x with
    | dct kvs =>
      intro W1 H1 v l1 s1 r1
      simp only [Rep] at r1
      obtain ⟨p, es, rfl, q, rk⟩ := r1
      refine ⟨p, es, rfl, ?_⟩
      rcases dct_lock s1 q with ⟨od, z, W2, ll, lk, hf⟩ | ⟨z, hz⟩
      · exact .inl ⟨od, z, h5 _ _ _ (l1.trans ll) lk (wk_vals hf (rk.mono ll))⟩
      · refine .inr ⟨z, fun od => ?_⟩
        obtain ⟨W2, ll, lk, hf⟩ := hz od
        exact h5 _ _ _ (l1.trans ll) lk (wk_vals hf (rk.mono ll))
    | _ => exact h5.elim
theorem i_e (hK : B.K = X.K) (ha : PE X a (tE B eva)) : PI X tg a (tI B fun sl st => (eva sl st).bind fun x st1 => ofO (itD x st1) st1) := by
  refine PI.imp (PI.or (PI.or (PI.or (PI.or (pi_list ha) (pi_tup ha)) (pi_str ha)) (pi_keysL ha)) (pi_nk ha)) fun σ H R ⟨W, sl, st, h1, h2, h3, h4, h5⟩ => ?_
  dsimp only at h5
  cases hr : eva sl st with
  | stuck =>
    rw [hr] at h5
    exact h5.elim
  | exc C fs st' =>
    rw [hr] at h5
    exact .inl (.inl (.inl (.inl ⟨W, sl, st, h1, h2, h3, h4, by rw [hr]; exact h5⟩)))
  | ok x st1 =>
    rw [hr, Res.bind_ok] at h5
    cases x with
    | tup xs =>
      refine .inl (.inl (.inl (.inr ⟨W, sl, st, h1, h2, h3, h4, ?_⟩)))
      rw [hr]
      intro W1 H1 v l1 s1 r1
      obtain ⟨p, vs, rfl, hq, rq⟩ := asT_V s1 r1
      have eK : W1.K = X.K := (l1.K.trans h1).trans hK
      rw [← eK]
      refine ⟨p, rfl, ⟨vs, hq⟩, h5 W1 H1 _ l1 s1 ?_⟩
      refine wk_seq [] (fun _ => True) fun W' st' H' l s ok => ?_
      simp only [Rep] at r1
      obtain ⟨p', vs', ep, q, r⟩ := r1
      cases ep
      have q' := sqT_H s.still (sqT_mono l.F q)
      exact ⟨vs', r.mono' l, fun i => ⟨fun x e => ⟨vs', x, q', e⟩, fun x H2 y => ⟨y.1, y.2 vs' q'⟩, fun e => ⟨vs', q', by omega⟩⟩⟩
    | lst xs =>
      refine .inl (.inl (.inl (.inl ⟨W, sl, st, h1, h2, h3, h4, ?_⟩)))
      rw [hr]
      intro W1 H1 v l1 s1 r1
      obtain ⟨p, vs, rfl, hq, rq⟩ := asL_V s1 r1 (xs := xs) rfl
      have eK : W1.K = X.K := (l1.K.trans h1).trans hK
      rw [← eK]
      refine ⟨p, rfl, ⟨vs, .inl hq⟩, h5 W1 H1 _ l1 s1 ?_⟩
      refine wk_seq [] (fun _ => True) fun W' st' H' l s ok => ?_
      simp only [Rep] at r1
      obtain ⟨p', vs', ep, q, r⟩ := r1
      cases ep
      have q' : SqL W1.K H' p vs' := .inl (rd_H s.still (rd_mono l.F q))
      exact ⟨vs', r.mono' l, fun i => ⟨fun x e => ⟨vs', x, q', e⟩, fun x H2 y => ⟨y.1, y.2 vs' q'⟩, fun e => ⟨vs', q', by omega⟩⟩⟩
    | loc m =>
      simp only [itD] at h5
      cases hl : lstAt st1 m with
      | none =>
        rw [hl] at h5
        exact h5.elim
      | some xs =>
        rw [hl] at h5
        refine .inl (.inl (.inl (.inl ⟨W, sl, st, h1, h2, h3, h4, ?_⟩)))
        rw [hr]
        intro W1 H1 v l1 s1 r1
        obtain ⟨p, vs, rfl, hq, rq⟩ := asL_V s1 r1 (xs := xs) hl
        have eK : W1.K = X.K := (l1.K.trans h1).trans hK
        rw [← eK]
        refine ⟨p, rfl, ⟨vs, .inl hq⟩, h5 W1 H1 _ l1 s1 ?_⟩
        refine wk_seq [] (fun _ => True) fun W' st' H' l s ok => ?_
        simp only [Rep] at r1
        obtain ⟨p', ea, ep⟩ := r1
        cases ep
        have ok' : st'[m]? = some (.lst xs) := by simpa [srcOk] using ok
        obtain ⟨_, vs', hh, r⟩ := s.lstCell ok' (l.mu _ _ ea)
        have q' : SqL W1.K H' p vs' := .inl (.inl hh)
        exact ⟨vs', r, fun i => ⟨fun x e => ⟨vs', x, q', e⟩, fun x H2 y => ⟨y.1, y.2 vs' q'⟩, fun e => ⟨vs', q', by omega⟩⟩⟩
    | str x =>
      refine .inl (.inl (.inr ⟨W, sl, st, h1, h2, h3, h4, ?_⟩))
      rw [hr]
      intro W1 H1 v l1 s1 r1
      refine ⟨x, rep_str r1, h5 W1 H1 _ l1 s1 ?_⟩
      intro W' st' H' l s ok i
      refine ⟨fun hi => ?_, fun hi => ?_⟩
      · have hi' : i < x.cps.size := by rw [← signs_len]; exact hi
        refine ⟨hi', fun y H2 q => ?_⟩
        obtain ⟨rfl, c, ec, rfl⟩ := q
        exact ⟨W', _, Le.refl W', s, signs_get ec, repS⟩
      · show x.cps.size ≤ i
        rw [← signs_len, hi]
        exact Nat.le_refl _
    | dct kvs =>
      refine .inl (.inr ⟨W, sl, st, h1, h2, h3, h4, ?_⟩)
      rw [hr]
      intro W1 H1 v l1 s1 r1
      simp only [Rep] at r1
      obtain ⟨p, es, rfl, q, rk⟩ := r1
      refine ⟨p, es, rfl, ?_⟩
      rcases dct_lock s1 q with ⟨od, z, W2, ll, lk, hf⟩ | ⟨z, hz⟩
      · exact .inl ⟨od, z, h5 _ _ _ (l1.trans ll) lk (wk_dct hf (rk.mono ll))⟩
      · refine .inr ⟨z, fun od => ?_⟩
        obtain ⟨W2, ll, lk, hf⟩ := hz od
        exact h5 _ _ _ (l1.trans ll) lk (wk_dct hf (rk.mono ll))
    | nkd =>
      refine .inr ⟨W, sl, st, h1, h2, h3, h4, ?_⟩
      rw [hr]
      intro W1 H1 v l1 s1 r1
      simp only [Rep] at r1
      obtain ⟨p, od, rfl, q⟩ := r1
      exact ⟨p, od, rfl, in_mono s1.still (fun _ z => nomatch z) q, h5 _ _ _ l1 s1 (wk_nk q)⟩
    | _ => exact h5.elim
theorem rng_wk {W : Wo} {lo : Int} {k : Nat} : Wk W (L2.Itr lo k) ⟨none, (List.range k).map fun (i : Nat) => D.int (lo + (i : Int))⟩ := by
  intro W' st' H' l s ok i
  refine ⟨fun hi => ?_, fun hi => ?_⟩
  · have hi' : i < k := by simpa using hi
    refine ⟨hi', fun y H2 q => ?_⟩
    obtain ⟨rfl, rfl⟩ := q
    refine ⟨W', .int (lo + (i : Int)), Le.refl W', s, ?_, repI⟩
    simp [List.getElem?_range hi']
  · show k ≤ i
    have : i = k := by simpa using hi
    omega
theorem i_rng1 {nm : Str} {p : Pos} (hnm : nm = "range") (hg : Gl X nm) (hm : X.mg nm = none) (hs : isStar a = false) (ha : PA X [a] (tA B evs)) : PI X tg (.Call (.Name nm p) [a] [] pos) (tI B fun sl st => (evs sl st).bind fun ds st1 => if ds.length = 1 then ofO ((rngD ds).map fun xs => ⟨none, xs⟩) st1 else .stuck) := by
  subst hnm
  refine PI.imp (pi_range1 hg hm ha (star_cons hs)) fun σ H R ⟨W, sl, st, h1, h2, h3, h4, h5⟩ => ?_
  refine ⟨W, sl, st, h1, h2, h3, h4, ?_⟩
  dsimp only at h5
  cases hr : evs sl st with
  | stuck => rw [hr] at h5; exact h5.elim
  | exc C fs st' => rw [hr] at h5; exact h5
  | ok ds st1 =>
    rw [hr, Res.bind_ok] at h5
    intro W1 H1 vs l1 s1 r1
    by_cases hlen : ds.length = 1
    · rw [if_pos hlen] at h5
      cases hd : rngD ds with
      | none => rw [hd] at h5; exact h5.elim
      | some xs =>
        rw [hd] at h5
        unfold rngD at hd
        split at hd
        · split at hd
          · rename_i j hb
            cases hd
            obtain ⟨u, rfl, ru⟩ := repL1 r1
            rw [rep_int ru]
            exact ⟨j, rfl, hb.1, hb.2, h5 W1 H1 _ l1 s1 rng_wk⟩
          · cases hd
        · simp at hlen
        · cases hd
    · rw [if_neg hlen] at h5
      exact h5.elim
theorem i_rng2 {nm : Str} {p : Pos} (hnm : nm = "range") (hg : Gl X nm) (hm : X.mg nm = none) (hs : isStar a = false) (hs2 : isStar b = false) (ha : PA X [a, b] (tA B evs)) : PI X tg (.Call (.Name nm p) [a, b] [] pos) (tI B fun sl st => (evs sl st).bind fun ds st1 => if ds.length = 2 then ofO ((rngD ds).map fun xs => ⟨none, xs⟩) st1 else .stuck) := by
  subst hnm
  refine PI.imp (pi_range2 hg hm ha (by rw [star_cons hs, star_cons hs2]; rfl) (star_cons hs2)) fun σ H R ⟨W, sl, st, h1, h2, h3, h4, h5⟩ => ?_
  refine ⟨W, sl, st, h1, h2, h3, h4, ?_⟩
  dsimp only at h5
  cases hr : evs sl st with
  | stuck => rw [hr] at h5; exact h5.elim
  | exc C fs st' => rw [hr] at h5; exact h5
  | ok ds st1 =>
    rw [hr, Res.bind_ok] at h5
    intro W1 H1 vs l1 s1 r1
    by_cases hlen : ds.length = 2
    · rw [if_pos hlen] at h5
      cases hd : rngD ds with
      | none => rw [hd] at h5; exact h5.elim
      | some xs =>
        rw [hd] at h5
        unfold rngD at hd
        split at hd
        · simp at hlen
        · split at hd
          · rename_i j k hb
            cases hd
            obtain ⟨u, w, rfl, ru, rw'⟩ := repL2 r1
            rw [rep_int ru, rep_int rw']
            exact ⟨j, k, rfl, hb, h5 W1 H1 _ l1 s1 rng_wk⟩
          · cases hd
        · cases hd
    · rw [if_neg hlen] at h5
      exact h5.elim
end
/-! ### targets -/
mutual
def tgIx : CT → List Nat
  | .name i => [i]
  | .tup ts => tgIxs ts
termination_by structural t => t
def tgIxs : List CT → List Nat
  | [] => []
  | t :: ts => tgIx t ++ tgIxs ts
termination_by structural t => t
end
def gT (B : Bx) (t : CT) : TG := fun v σ H Q => ∃ W sl st d sl', W.K = B.K ∧ W.CA = B.CA ∧ SlR W sl σ ∧ SR W st H ∧ Rep W d v ∧ asgT t d sl = some sl' ∧ ∀ σ', SlR W sl' σ' → (∀ vs, (∀ i ∈ tgIx t, i ∈ vs) → wipe σ' vs = wipe σ vs) → Q σ' H
def gTs (B : Bx) (ts : List CT) : TGs := fun v σ H Q => ∃ W sl st d sl', W.K = B.K ∧ W.CA = B.CA ∧ SlR W sl σ ∧ SR W st H ∧ RepL W d v ∧ asgTs ts d sl = some sl' ∧ ∀ σ', SlR W sl' σ' → (∀ vs, (∀ i ∈ tgIxs ts, i ∈ vs) → wipe σ' vs = wipe σ vs) → Q σ' H
theorem wipe_at {σ : Sg} : ∀ {vs : List Nat} (i : Nat), (wipe σ vs)[i]? = if i ∈ vs then (if i < σ.length then some none else none) else σ[i]?
  | [], i => by simp [wipe]
  | v :: vs, i => by
    unfold wipe
    rw [List.getElem?_set, wipe_at i]
    by_cases h : v = i
    · subst h
      simp [wipe_length]
    · rw [if_neg h]
      have h' : ¬ i = v := fun z => h z.symm
      by_cases h2 : i ∈ vs <;> simp [h2, h']
theorem wipe_set {σ : Sg} {i : Nat} {v : Option V} {vs : List Nat} (h : i ∈ vs) : wipe (σ.set i v) vs = wipe σ vs := by
  apply List.ext_getElem?
  intro j
  rw [wipe_at, wipe_at]
  by_cases hj : j ∈ vs
  · simp [hj]
  · rw [if_neg hj, if_neg hj, List.getElem?_set_ne]
    exact fun z => hj (z ▸ h)
theorem wipe_idem {σ : Sg} {vs : List Nat} : wipe (wipe σ vs) vs = wipe σ vs := by
  apply List.ext_getElem?
  intro j
  rw [wipe_at, wipe_length, wipe_at]
  by_cases hj : j ∈ vs <;> simp [hj]
section
variable {X : Cx} {B : Bx} {e : Expr} {es : List Expr} {pos : Pos}
theorem PG.imp {X : Cx} {e : Expr} {t t' : TG} (h : PG X e t) (k : ∀ v σ H Q, t' v σ H Q → t v σ H Q) : PG X e t' := ⟨fun pins s σ H v u Q I r q => h.run pins s σ H v u Q I r (k v σ H Q q)⟩
theorem PGs.imp {X : Cx} {e : List Expr} {t t' : TGs} (h : PGs X e t) (k : ∀ v σ H Q, t' v σ H Q → t v σ H Q) : PGs X e t' := ⟨fun pins s σ H v u Q I r q => h.run pins s σ H v u Q I r (k v σ H Q q)⟩
theorem g_name {i : Nat} {x : Str} (hN : X.N.Nodup) (hi : X.N[i]? = some x) (hx : Loc X.env.scope x) (hf : X.fn x = true ∨ X.env.scope.names.lookup x = some .local) : PG X (.Name x pos) (gT B (.name i)) := by
  refine PG.imp (pg_name hN hi hx hf) fun v σ H Q ⟨W, sl, st, d, sl', h1, h2, h3, h4, r, e, k⟩ => ?_
  simp only [asgT] at e
  split at e
  · cases e
    exact k _ (h3.set r i) fun vs hv => wipe_set (hv i (by simp [tgIx]))
  · cases e
theorem g_nil : PGs X [] (gTs B []) := by
  refine PGs.imp pgs_nil fun v σ H Q ⟨W, sl, st, d, sl', h1, h2, h3, h4, r, e, k⟩ => ?_
  simp only [asgTs] at e
  split at e
  · cases e
    simp only [RepL] at r
    exact ⟨r, k σ h3 fun _ _ => rfl⟩
  · cases e
theorem g_cons {t : CT} {ts : List CT} (hs : (assignEach (e :: es) X.env).map (·.2) = assign e X.env :: (assignEach es X.env).map (·.2)) (h1 : PG X e (gT B t)) (h2 : PGs X es (gTs B ts)) : PGs X (e :: es) (gTs B (t :: ts)) := by
  refine PGs.imp (pgs_cons h1 h2 hs) fun v σ H Q ⟨W, sl, st, d, sl', k1, k2, k3, k4, r, e, k⟩ => ?_
  simp only [asgTs] at e
  split at e
  · rename_i d ds
    simp only [RepL] at r
    obtain ⟨u, us, rfl, r1, r2⟩ := r
    rw [Option.bind_eq_some_iff] at e
    obtain ⟨sl1, e1, e2⟩ := e
    refine ⟨u, us, rfl, W, sl, st, d, sl1, k1, k2, k3, k4, r1, e1, fun σ1 s1 w1 => ?_⟩
    refine ⟨W, sl1, st, ds, sl', k1, k2, s1, k4, r2, e2, fun σ2 s2 w2 => k σ2 s2 fun vs hv => ?_⟩
    have i1 : ∀ i ∈ tgIx t, i ∈ vs := fun i hi => hv i (by simp [tgIxs, hi])
    have i2 : ∀ i ∈ tgIxs ts, i ∈ vs := fun i hi => hv i (by simp [tgIxs, hi])
    rw [w2 vs i2, w1 vs i1]
  · cases e
theorem PG.or {X : Cx} {tg : Expr} {t t' : TG} (h : PG X tg t) (h' : PG X tg t') : PG X tg (fun v σ H Q => t v σ H Q ∨ t' v σ H Q) := ⟨fun pins s σ H v u Q I r q => q.elim (h.run pins s σ H v u Q I r) (h'.run pins s σ H v u Q I r)⟩
theorem g_tup {ts : List CT} {k : Nat} (hK : B.K = X.K) (hc : X.calm = true) (hl : es.length = ts.length) (hn : (assignEach es X.env).length = ts.length) (hst : (assignEach es X.env).findIdx? (·.1) = none) (h : PGs X es (gTs B ts)) : PG X (.Tuple es k pos) (gT B (.tup ts)) := by
  refine PG.imp (PG.or (pg_tup hc h hn hst) (pg_unl hc h hn hst)) fun v σ H Q ⟨W, sl, st, d, sl', k1, k2, k3, k4, r, e, q⟩ => ?_
  simp only [asgT] at e
  split at e <;> first | (cases e; done) | skip
  · split at e <;> first | (cases e; done) | skip
    rename_i ds hz
    obtain ⟨p, vs, rfl, hq, rq⟩ := asT_V k4 r
    rw [k1, hK] at hq
    exact .inl ⟨p, vs, rfl, hq, by rw [rq.length, hz], W, sl, st, ds, sl', k1, k2, k3, k4, rq, e, fun σ' s' w' => q σ' s' fun vs hv => w' vs fun i hi => hv i (by simpa [tgIx] using hi)⟩
  · split at e <;> first | (cases e; done) | skip
    rename_i ds hz
    obtain ⟨p, vs, rfl, hq, rq⟩ := asL_V k4 r (xs := ds) rfl
    exact .inr ⟨p, vs, rfl, .inl hq, by rw [rq.length, hz], W, sl, st, ds, sl', k1, k2, k3, k4, rq, e, fun σ' s' w' => q σ' s' fun vs hv => w' vs fun i hi => hv i (by simpa [tgIx] using hi)⟩
end
/-! ### comprehensions -/
def lcF (evt : Slots → Store → Res Bool) (eve : Ev) (t : CT) (vs : List Nat) (sl : Slots) : D → Store → Res (Option D) := fun d st' => match asgT t d (wipeD sl vs) with
  | none => .stuck
  | some sl' => (evt sl' st').bind fun b st2 => if b then (eve sl' st2).bind fun v st3 => .ok (some v) st3 else .ok none st2
theorem lcF_none {evt : Slots → Store → Res Bool} {eve : Ev} {t : CT} {vs : List Nat} {sl : Slots} {d : D} {st : Store} (h : asgT t d (wipeD sl vs) = none) : lcF evt eve t vs sl d st = .stuck := by
  unfold lcF
  rw [h]
theorem lcF_some {evt : Slots → Store → Res Bool} {eve : Ev} {t : CT} {vs : List Nat} {sl sl' : Slots} {d : D} {st : Store} (h : asgT t d (wipeD sl vs) = some sl') : lcF evt eve t vs sl d st = (evt sl' st).bind fun b st2 => if b then (eve sl' st2).bind fun v st3 => .ok (some v) st3 else .ok none st2 := by
  unfold lcF
  rw [h]
def tB (B : Bx) (ev : Slots → Store → Res Bool) : TT := fun σ H Q => ∃ W sl st, W.K = B.K ∧ W.CA = B.CA ∧ SlR W sl σ ∧ SR W st H ∧ PostB W (B.E σ) (ev sl st) Q
theorem lc_end {W0 W1 : Wo} {E : XK} {st : Store} {H : Hp} {Q : VK} {D0 : Addr} {acc : List D} {accV : List V} {mt : Bool} (l : Li W0 W1) (hG0 : W0.G D0 = none) (hG : W1.G = upd W0.G D0 (.lst accV)) (s : SR W1 st H) (r : RepL W1 acc accV) (q : Post W0 E (mkL mt acc st) Q) : Q (.ref D0) H := by
  have fo := s.fo D0 (.lst accV) (by rw [hG]; exact upd_same)
  obtain ⟨f1, f2, f3⟩ := fo
  have s2 : SR (W1.with W0.G) st H := s.drop W0.G fun a o e => by
    rw [hG, upd_ne (fun z => by rw [z, hG0] at e; cases e)]
    exact e
  have l2 : Le W0 (W1.with W0.G) := ⟨l.K, l.CA, l.F, l.mu, rfl⟩
  have r2 : RepL (W1.with W0.G) acc accV := r.mono' li_with
  cases mt with
  | false =>
    have q' : Post W0 E (.ok (.lst acc) st) Q := by simpa [mkL] using q
    have lf : Le (W1.with W0.G) ((W1.with W0.G).still D0 (.lst accV)) := le_still f2
    refine q' ((W1.with W0.G).still D0 (.lst accV)) H _ (l2.trans lf) (s2.settle f1 f2 f3 hG0) ?_
    simp only [Rep]
    exact ⟨D0, accV, rfl, .inl upd_same, r2.mono lf⟩
  | true =>
    have q' : Post W0 E (.ok (.loc st.length) (st ++ [.lst acc])) Q := by simpa [mkL] using q
    refine q' ((W1.with W0.G).cell D0) H _ (l2.trans le_cell) (s2.join f1 f3 hG0 ⟨f2, accV, f1, r2.mono le_cell⟩) ?_
    simp only [Rep]
    refine ⟨D0, ?_, rfl⟩
    show (W1.mu ++ [D0])[st.length]? = some D0
    rw [← s.len, List.getElem?_append_right (Nat.le_refl _)]
    simp
/-- the state at a turn -/
structure LcAt (B : Bx) (W0 : Wo) (sl : Slots) (σ : Sg) (D0 : Addr) (mt : Bool) (src : Option (Nat × List D)) (f : D → Store → Res (Option D)) (items : List D) (Q : VK) (i : Nat) (H : Hp) : Prop where
  ex : ∃ W1 st acc accV, W1.K = B.K ∧ W1.CA = B.CA ∧ Li W0 W1 ∧ W1.G = upd W0.G D0 (.lst accV) ∧ SlR W1 sl σ ∧ SR W1 st H ∧ RepL W1 acc accV ∧ Post W0 (B.E σ) ((lcLoop src f (items.drop i) acc st).bind fun vs st2 => mkL mt vs st2) Q
section
variable {X : Cx} {B : Bx}
theorem lc_run {E : XK} {W0 : Wo} {sl : Slots} {σ : Sg} {H1 : Hp} {D0 : Addr} {mt : Bool} {J : It} {it : Itr} {t : CT} {vs : List Nat} {evt : Slots → Store → Res Bool} {eve : Ev} {Q : VK} {st : Store} (hE : (B.E σ) = E)
    (hti : ∀ i ∈ tgIx t, i ∈ vs) (h1 : W0.K = B.K) (h2 : W0.CA = B.CA) (h3 : SlR W0 sl σ) (h4 : SR W0 st H1) (hw : Wk W0 J it) (hD : H1 D0 = none) (hq : Post W0 (B.E σ) ((lcLoop it.src (lcF evt eve t vs sl) it.items [] st).bind fun vs st2 => mkL mt vs st2) Q) :
    ∃ W : Nat → Nat → Hp → Prop, (∃ m, W 0 m (upd H1 D0 (.lst []))) ∧ ∀ i m H, W i m H →
      (J.stop i H ∧ Q (.ref D0) H) ∨ (J.go i H ∧ ∃ Nx : Hp → Prop, (∀ H', Nx H' → ∃ m', m' < m ∧ W (i + 1) m' H') ∧ ∀ x H', J.yld i H x H' → gT B t x (wipe σ vs) H' fun σ2 H2 => wipe σ2 vs = wipe σ vs ∧ tB B.z evt σ2 H2 fun b H3 =>
        if b = true then tE B.z eve σ2 H3 fun y H4 => ∃ acc, H4 D0 = some (.lst acc) ∧ acc.length < sizeLine ∧ Nx (upd H4 D0 (.lst (acc ++ [y]))) else Nx H3) := by
  have hG0 : W0.G D0 = none := by
    cases e : W0.G D0 with
    | none => rfl
    | some o =>
      have := (h4.fo D0 o e).1
      rw [hD] at this
      cases this
  refine ⟨fun i m H => m = it.items.length - i ∧ i ≤ it.items.length ∧ LcAt B W0 sl σ D0 mt it.src (lcF evt eve t vs sl) it.items Q i H, ⟨_, rfl, Nat.zero_le _, ⟨W0.apart D0 (.lst []), st, [], [], h1, h2, li_apart, rfl, h3.mono' li_apart, h4.laid hD _, .nil, hq⟩⟩, ?_⟩
  rintro i m H ⟨rfl, hi, ⟨W1, st1, acc, accV, k1, k2, l, hG, k3, k4, kr, kq⟩⟩
  by_cases hlt : i < it.items.length
  · obtain ⟨d, ed⟩ := getE hlt
    have edrop : it.items.drop i = d :: it.items.drop (i + 1) := by
      obtain ⟨h, e⟩ := List.getElem?_eq_some_iff.mp ed
      rw [← e]
      exact List.drop_eq_getElem_cons h
    rw [edrop] at kq
    unfold lcLoop at kq
    cases hs : srcOk it.src st1 with
    | false =>
      rw [hs] at kq
      exact kq.elim
    | true =>
      rw [hs, if_pos rfl] at kq
      obtain ⟨hgo, hy⟩ := (hw W1 st1 H l k4 hs i).1 hlt
      refine .inr ⟨hgo, fun H' => LcAt B W0 sl σ D0 mt it.src (lcF evt eve t vs sl) it.items Q (i + 1) H', fun H' p => ⟨_, by omega, rfl, by omega, p⟩, fun x H' y => ?_⟩
      obtain ⟨W2, d', l2, s2, ed', r2⟩ := hy x H' y
      rw [ed] at ed'
      cases ed'
      cases ha : asgT t d (wipeD sl vs) with
      | none =>
        rw [lcF_none ha] at kq
        exact kq.elim
      | some sl' =>
        rw [lcF_some ha] at kq
        refine ⟨W2, wipeD sl vs, st1, d, sl', l2.K.trans k1, l2.CA.trans k2, (k3.mono l2).wipe vs, s2, r2, ha, fun σ2 sr2 wp => ⟨by rw [wp vs hti, wipe_idem], ?_⟩⟩
        refine ⟨W2, sl', st1, l2.K.trans k1, l2.CA.trans k2, sr2, s2, ?_⟩
        cases ht : evt sl' st1 with
        | stuck =>
          rw [ht] at kq
          exact kq.elim
        | exc C fs st' =>
          rw [ht] at kq
          exact kq.elim
        | ok b st2 =>
          rw [ht] at kq
          intro W3 H3 l3 s3
          cases b with
          | false =>
            rw [Res.bind_ok] at kq
            simp only [Bool.false_eq_true, if_false] at kq ⊢
            have l13 := l2.trans l3
            exact ⟨W3, st2, acc, accV, l13.K.trans k1, l13.CA.trans k2, ⟨(l13.K.trans l.K), l13.CA.trans l.CA, l.F.trans l13.F, fun n a e => l13.mu n a (l.mu n a e)⟩, l13.G.trans hG, k3.mono l13, s3, kr.mono l13, kq⟩
          | true =>
            rw [Res.bind_ok] at kq
            simp only [if_true] at kq ⊢
            refine ⟨W3, sl', st2, l3.K.trans (l2.K.trans k1), l3.CA.trans (l2.CA.trans k2), sr2.mono l3, s3, ?_⟩
            cases he : eve sl' st2 with
            | stuck =>
              rw [he] at kq
              exact kq.elim
            | exc C fs st' =>
              rw [he] at kq
              exact kq.elim
            | ok v st3 =>
              rw [he] at kq
              intro W4 H4 y4 l4 s4 r4
              rw [Res.bind_ok] at kq
              dsimp only at kq
              have l14 := (l2.trans l3).trans l4
              have eG : W4.G D0 = some (.lst accV) := by rw [l14.G, hG]; exact upd_same
              have f4 := s4.fo D0 _ eG
              split at kq
              · rename_i hz
                have rl := kr.length
                refine ⟨accV, f4.1, by omega, ⟨W4.apart D0 (.lst (accV ++ [y4])), st3, acc ++ [v], accV ++ [y4], l14.K.trans k1, l14.CA.trans k2, ?_, ?_, (k3.mono l14).mono' li_apart, s4.turn eG (fun _ z => nomatch z) _, ((kr.mono l14).snoc r4).mono' li_apart, kq⟩⟩
                · exact ⟨l14.K.trans l.K, l14.CA.trans l.CA, l.F.trans l14.F, fun n a e => l14.mu n a (l.mu n a e)⟩
                · show upd W4.G D0 _ = _
                  rw [l14.G, hG]
                  funext a
                  by_cases h : a = D0
                  · subst h
                    rw [upd_same, upd_same]
                  · rw [upd_ne h, upd_ne h, upd_ne h]
              · exact kq.elim
  · have ei : i = it.items.length := by omega
    subst ei
    rw [List.drop_length] at kq
    unfold lcLoop at kq
    cases hs : srcOk it.src st1 with
    | false =>
      rw [hs] at kq
      exact kq.elim
    | true =>
      rw [hs, if_pos rfl, Res.bind_ok] at kq
      exact .inl ⟨(hw W1 st1 H l k4 hs _).2 rfl, lc_end l hG0 hG k4 kr kq⟩
theorem tLc_of {iter : Expr} {mt : Bool} {t : CT} {vs : List Nat} {evi : Slots → Store → Res Itr} {evt : Slots → Store → Res Bool} {eve : Ev} (hti : ∀ i ∈ tgIx t, i ∈ vs) {σ : Sg} {H : Hp} {Q : VK}
    (h : tE B (fun sl st => (evi sl st).bind fun J st1 => (lcLoop J.src (lcF evt eve t vs sl) J.items [] st1).bind fun vs st2 => mkL mt vs st2) σ H Q) : tLc (tI B evi) (gT B t) (tB B.z evt) (tE B.z eve) vs σ H Q := by
  obtain ⟨W, sl, st, h1, h2, h3, h4, h5⟩ := h
  refine ⟨W, sl, st, h1, h2, h3, h4, ?_⟩
  dsimp only at h5
  cases hr : evi sl st with
  | stuck => rw [hr] at h5; exact h5.elim
  | exc C fs st' => rw [hr] at h5; exact h5
  | ok it st1 =>
    rw [hr, Res.bind_ok] at h5
    intro W1 H1 J l1 s1 wk D0 hD
    exact lc_run rfl hti (l1.K.trans h1) (l1.CA.trans h2) (h3.mono l1) s1 wk hD (Post.mono l1 h5)
/-- the tests -/
theorem PTs.imp {X : Cx} {e : List Expr} {t t' : TT} (h : PTs X e t) (k : ∀ σ H Q, t' σ H Q → t σ H Q) : PTs X e t' := ⟨fun pins s σ H Q I q => h.run pins s σ H Q I (k σ H Q q)⟩
theorem ts_nil : PTs X [] (tB B fun _ st => .ok true st) := PTs.imp pts_nil fun σ H Q ⟨W, sl, st, h1, h2, h3, h4, h5⟩ => h5 W H (Le.refl W) h4
theorem ts_one {c : Expr} {evc : Ev} (h : PT X c (tT B evc)) : PTs X [c] (tB B fun sl st => (evc sl st).bind fun x st1 => match truth x st1 with
    | some true => .ok true st1
    | some false => .ok false st1
    | none => .stuck) := by
  refine PTs.imp (pts_one h) fun σ H Q ⟨W, sl, st, h1, h2, h3, h4, h5⟩ => ⟨W, sl, st, h1, h2, h3, h4, ?_⟩
  have e : (tru evc sl st) = (evc sl st).bind fun x st1 => match truth x st1 with
    | some true => .ok true st1
    | some false => .ok false st1
    | none => .stuck := by
    unfold tru
    congr 1
    funext x st1
    cases truth x st1 with
    | none => rfl
    | some b => cases b <;> rfl
  rw [e]
  exact h5
theorem e_lc {elt tg iter : Expr} {ifs : List Expr} {scope : Scope} {own : List (Str × Nat)} {pos : Pos} {mt : Bool} {t : CT} {evi : Slots → Store → Res Itr} {evt : Slots → Store → Res Bool} {eve : Ev} (hc : X.calm = true) (hN : X.N.Nodup) (hi : PI X tg iter (tI B evi)) (ok : BlkOk X.N X.env.scope scope own) (hti : ∀ i ∈ tgIx t, i ∈ own.map (·.2))
    (hg : ∀ (s : Shared) (H : Hp) (C : Addr) (cl : List (Str × Addr)) (fp : List Addr), PG (X.blk s H scope (compEnvC scope cl C X.env) fp) tg (gT B t)) (ht : ∀ (s : Shared) (H : Hp) (C : Addr) (cl : List (Str × Addr)) (fp : List Addr), PTs (X.blk s H scope (compEnvC scope cl C X.env) fp) ifs (tB B.z evt))
    (he : ∀ (s : Shared) (H : Hp) (C : Addr) (cl : List (Str × Addr)) (fp : List Addr), PE (X.blk s H scope (compEnvC scope cl C X.env) fp) elt (tE B.z eve)) (hs : isSet iter = false) :
    PE X (.ListComp elt [⟨tg, iter, ifs, 0⟩] scope pos) (tE B fun sl st => (evi sl st).bind fun J st1 => (lcLoop J.src (lcF evt eve t (own.map (·.2)) sl) J.items [] st1).bind fun vs st2 => mkL mt vs st2) :=
  PE.imp (pe_lc hc hN hi ok hg ht he fun x => fold_plain hs x) fun σ H Q h => tLc_of (iter := iter) hti h
end
end TM
set_option maxHeartbeats 1000000
/-! TM, part Z: zip and enumerate over lists and tuples, mixed. -/
namespace TM
open PySem PySem.Spec PyProof.Rows L2
/-- a list or a tuple -/
def SqM (t : Bool) (K : PySem.W.Frag) (H : Hp) (a : Addr) (xs : List V) : Prop := match t with
  | true => SqT K H a xs
  | false => SqL K H a xs
def ItM (t : Bool) (h : Heap) (it a : Addr) (i : Nat) : Prop := match t with
  | true => h.IsTupleIter it a i
  | false => h.IsListIter it a i
def AtM (t : Bool) (h : Heap) (a : Addr) (its : Array Value) : Prop := match t with
  | true => h.IsTuple a its
  | false => h.IsList a its
def ioM (t : Bool) (a : Addr) : Obj := match t with
  | true => { cls := .type "tuple_iterator", data := .fields #[.ref a, .int 0 0] }
  | false => { cls := .type "list_iterator", data := .fields #[.ref a, .int 0 0] }
theorem itM_at {t : Bool} {h : Heap} {it a : Addr} {i : Nat} (x : ItM t h it a i) : ∃ o, h.get? it = some o ∧ ∀ v, o.data ≠ .cell v := by
  cases t with
  | true =>
    obtain ⟨o, e, _, d⟩ := x
    exact ⟨o, e, fun v q => by rw [d] at q; cases q⟩
  | false =>
    obtain ⟨o, e, _, d⟩ := x
    exact ⟨o, e, fun v q => by rw [d] at q; cases q⟩
theorem itM_keep {t : Bool} {h h' : Heap} {it a : Addr} {i : Nat} (x : ItM t h it a i) (k : ∀ o, h.get? it = some o → h'.get? it = some o) : ItM t h' it a i := by
  cases t with
  | true => exact Heap.IsTupleIter.at x k
  | false => exact Heap.IsListIter.at x k
theorem itM_new {t : Bool} {h : Heap} {it a : Addr} (e : h.get? it = some (ioM t a)) : ItM t h it a 0 := by
  cases t with
  | true => exact ⟨_, e, rfl, rfl⟩
  | false => exact ⟨_, e, rfl, rfl⟩
theorem begM (t : Bool) (a : Addr) (its : Array Value) : Begins (.ref a) (ioM t a) fun h => AtM t h a its := by
  cases t with
  | true => exact begins_tuple a its
  | false => exact begins_list a its
theorem drawsM {prog : Program} {w : World} {A : Around} (hh : A.handled = none) (t : Bool) (it a : Addr) (hne : a ≠ it) (its : Array Value) :
    Draws prog w A it [it, a] its.size (fun i v => its[i]? = some v) (fun i h => ItM t h it a i ∧ AtM t h a its) := by
  cases t with
  | true => exact Draws.tuple hh it a hne its
  | false => exact Draws.list hh it a hne its
section
variable {X : Cx} {pins : List (Addr × Obj)} {σ : Sg} {H : Hp} {s : Shared} {a : Addr} {xs ys : List V} {t : Bool}
theorem inv_seqM (I : Inv X pins σ H s) (h : SqM t X.K H a xs) : ∃ its : List Value, Vals xs its ∧ AtM t s.heap a its.toArray ∧ a < s.heap.objs.size := by
  cases t with
  | true =>
    obtain ⟨its, rv, p, _⟩ := I.tuple h
    obtain ⟨o, e, _⟩ := id p
    exact ⟨its, rv, (show s.heap.IsTuple a its.toArray from p), Heap.lt_size e⟩
  | false =>
    obtain ⟨its, rv, p, _⟩ := I.list h
    exact ⟨its, rv, p.isList, p.lt⟩
theorem inv_seqM_inj (I : Inv X pins σ H s) (h : SqM t X.K H a xs) (h' : SqM t X.K H a ys) : xs = ys := by
  cases t with
  | true => exact I.tuple_inj h h'
  | false => exact I.list_inj h h'
end
theorem of_mem5 {α : Type} {P : α → Prop} {c a1 a2 a3 a4 a5 : α} (h : c ∈ [a1, a2, a3, a4, a5]) (p1 : P a1) (p2 : P a2) (p3 : P a3) (p4 : P a4) (p5 : P a5) : P c := by
  simp only [List.mem_cons, List.not_mem_nil, or_false] at h
  rcases h with rfl | rfl | rfl | rfl | rfl <;> assumption
theorem of_mem2 {α : Type} {P : α → Prop} {c a1 a2 : α} (h : c ∈ [a1, a2]) (p1 : P a1) (p2 : P a2) : P c := by
  simp only [List.mem_cons, List.not_mem_nil, or_false] at h
  rcases h with rfl | rfl <;> assumption
/-- an iterator is not what it walks -/
theorem itM_ne {t : Bool} {h : Heap} {it a : Addr} {i : Nat} {its : Array Value} (x : ItM t h it a i) (y : AtM t h a its) : a ≠ it := fun e => by
  subst e
  cases t with
  | true =>
    obtain ⟨_, u1, _, w1⟩ := x
    obtain ⟨_, u2, _, _, w2⟩ := y
    rw [u1] at u2; cases u2; rw [w1] at w2; cases w2
  | false =>
    obtain ⟨_, u1, _, w1⟩ := x
    obtain ⟨_, u2, _, _, w2⟩ := y
    rw [u1] at u2; cases u2; rw [w1] at w2; cases w2
/-! ### zip -/
def ItzM (t1 t2 : Bool) (K : PySem.W.Frag) (a b : Addr) : It :=
  ⟨fun i H => ∃ (xs ys : List V) (x y : V), SqM t1 K H a xs ∧ SqM t2 K H b ys ∧ xs[i]? = some x ∧ ys[i]? = some y,
    fun i H v H' => ∃ T x y, v = .ref T ∧ H T = none ∧ H' = upd H T (.tup [x, y]) ∧ (∀ xs, SqM t1 K H a xs → xs[i]? = some x) ∧ ∀ ys, SqM t2 K H b ys → ys[i]? = some y,
    fun i H => ∃ xs ys : List V, SqM t1 K H a xs ∧ SqM t2 K H b ys ∧ i ≤ xs.length ∧ i ≤ ys.length ∧ (xs.length = i ∨ ys.length = i)⟩
theorem turn_zipM {t1 t2 : Bool} {P : Program} {w : World} {K : PySem.W.Frag} {elts : List Expr} {kk : Nat} {tpos : Pos} {a b z TI TO i1 i2 : Addr} (D : ZipSep2 z TI TO i1 i2 [i1, a] [i2, b]) :
    Turn P w K (.Tuple elts kk tpos) (ItzM t1 t2 K a b) [z, TI, TO, i1, i2] z (fun i h => IsZip h z TI TO .none ∧ IsTupOf2 h TI (.ref i1) (.ref i2) ∧ (∃ x y, IsTupOf2 h TO x y) ∧ ItM t1 h i1 a i ∧ ItM t2 h i2 b i) where
  mem := List.mem_cons_self
  obj := fun i h ⟨zz, zi, ⟨_, _, zo⟩, w1, w2⟩ c hc => of_mem5 (P := fun c => ∃ o, h.get? c = some o ∧ ∀ v, o.data ≠ .cell v) hc ⟨_, zz, fun _ e => nomatch e⟩ ⟨_, zi, fun _ e => nomatch e⟩ ⟨_, zo, fun _ e => nomatch e⟩ (itM_at w1) (itM_at w2)
  keep := fun i h h' ⟨zz, zi, ⟨_, _, zo⟩, w1, w2⟩ kp => ⟨kp _ (by simp) _ zz, kp _ (by simp) _ zi, ⟨_, _, kp _ (by simp) _ zo⟩, itM_keep w1 fun _ e => kp _ (by simp) _ e, itM_keep w2 fun _ e => kp _ (by simp) _ e⟩
  item := by
    intro X eP ew eK calm i pn s σ H E I fp ⟨zz, zi, ⟨_, _, zo⟩, w1, w2⟩ ⟨xs, ys, x, y, sx, sy, gx, gy⟩
    subst eP ew eK
    obtain ⟨l1, v1, c1, _⟩ := inv_seqM I sx
    obtain ⟨l2, v2, c2, _⟩ := inv_seqM I sy
    obtain ⟨u1, m1, ru1⟩ := v1.get gx
    obtain ⟨u2, m2, ru2⟩ := v2.get gy
    have zlt : z < s.heap.objs.size := Heap.lt_size zz
    have nh : X.A.in1.handled = none := I.ok.hd calm
    have dr1 := drawsM (prog := X.prog) (w := X.w) nh t1 i1 a (itM_ne w1 c1) l1.toArray
    have dr2 := drawsM (prog := X.prog) (w := X.w) nh t2 i2 b (itM_ne w2 c2) l2.toArray
    have lt1 : i < l1.toArray.size := by simpa using (List.getElem?_eq_some_iff.mp m1).1
    have lt2 : i < l2.toArray.size := by simpa using (List.getElem?_eq_some_iff.mp m2).1
    refine wpAny_pyNext_zipD2_item D dr1 dr2 zz zi zo ⟨w1, c1⟩ ⟨w2, c2⟩ lt1 lt2 fun y1 y2 hn tk g1 g2 zz' zo' n1 n2 nT _ kp => ?_
    have ey1 : y1 = u1 := by
      have g : l1.toArray[i]? = some y1 := g1
      rw [List.getElem?_toArray, m1] at g
      exact (Option.some.inj g).symm
    have ey2 : y2 = u2 := by
      have g : l2.toArray[i]? = some y2 := g2
      rw [List.getElem?_toArray, m2] at g
      exact (Option.some.inj g).symm
    subst ey1 ey2
    refine ⟨_, rfl, wpAny_letOwnedTupleGo_zip (s := { s with heap := hn, toks := tk }) zz' fun hm zz2 same => ?_⟩
    have made : hm.get? s.heap.objs.size = some { cls := .type "tuple", data := .seq #[y1, y2] } := (same.2 _ (Nat.ne_of_gt zlt)).trans nT
    have tok : ObjOk X.prog X.w (upd H s.heap.objs.size (.tup [x, y])) hm s.heap.objs.size (.tup [x, y]) := ⟨show 2 ≤ sizeLine by decide, _, .cons ru1 (.cons ru2 .nil), ⟨_, made, rfl, _, rfl⟩⟩
    have I1 : Inv X pn σ (upd H s.heap.objs.size (.tup [x, y])) { s with heap := hm, toks := tk } :=
      I.turnedNew (t' := tk) (ch := [z, TI, TO, i1, i2]) (fun c o no e => by
        simp only [List.mem_cons, List.not_mem_nil, or_false, not_or] at no
        exact (same.2 c no.1).trans (kp c o no.1 no.2.2.1 no.2.2.2.1 no.2.2.2.2 e)) fp (Nat.le_refl _) tok
    have i1z : i1 ≠ z := fun e => D.zf1 (by simp [e])
    have i2z : i2 ≠ z := fun e => D.zf2 (by simp [e])
    have old : ∀ c ∈ [z, TI, TO, i1, i2], c < s.heap.objs.size := fun c hc => of_mem5 (P := fun c => c < s.heap.objs.size) hc zlt (Heap.lt_size zi) (Heap.lt_size zo) (by obtain ⟨_, e, _⟩ := itM_at w1; exact Heap.lt_size e) (by obtain ⟨_, e, _⟩ := itM_at w2; exact Heap.lt_size e)
    exact ⟨.ref s.heap.objs.size, _, I1, rfl, ⟨_, x, y, rfl, I.hok.fresh (Nat.le_refl _), rfl, fun l e => by rw [inv_seqM_inj I e sx]; exact gx, fun l e => by rw [inv_seqM_inj I e sy]; exact gy⟩,
      ⟨zz2, (same.2 _ D.TIz).trans (kp _ _ D.TIz D.TITO D.TIi1 D.TIi2 zi), ⟨_, _, (same.2 _ D.TOz).trans zo'⟩, itM_keep n1.1 fun _ e => (same.2 _ i1z).trans e, itM_keep n2.1 fun _ e => (same.2 _ i2z).trans e⟩,
      fun c hc => (upd_ne (Nat.ne_of_lt (old c hc))).trans (fp c hc).1⟩
  done := by
    intro X eP ew eK calm i pn s σ H E I fp ⟨zz, zi, ⟨_, _, zo⟩, w1, w2⟩ ⟨xs, ys, sx, sy, k1, k2, fin⟩
    subst eP ew eK
    obtain ⟨l1, v1, c1, _⟩ := inv_seqM I sx
    obtain ⟨l2, v2, c2, _⟩ := inv_seqM I sy
    have n1 := v1.length
    have n2 := v2.length
    have nh : X.A.in1.handled = none := I.ok.hd calm
    have dr1 := drawsM (prog := X.prog) (w := X.w) nh t1 i1 a (itM_ne w1 c1) l1.toArray
    have dr2 := drawsM (prog := X.prog) (w := X.w) nh t2 i2 b (itM_ne w2 c2) l2.toArray
    refine wpAny_pyNext_zipD2_end D dr1 dr2 zz zi zo ⟨w1, c1⟩ ⟨w2, c2⟩ (by simp; omega) (by simp; omega) (by simp; omega) fun hn tk kp => ⟨rfl, I.turnedL (t' := tk) (ch := [z, TI, TO, i1, i2]) (fun c o no e => ?_) fp⟩
    simp only [List.mem_cons, List.not_mem_nil, or_false, not_or] at no
    exact kp c o no.1 no.2.2.1 no.2.2.2.1 no.2.2.2.2 e
  self := fun _ _ _ _ _ x y => wpAny_pyIter_zip x.1 y
def iZipM (K : PySem.W.Frag) (ta : TA) : TI := fun σ H R => ta σ H fun vs H1 => ∃ t1 t2 a b xs ys, vs = [.ref a, .ref b] ∧ SqM t1 K H1 a xs ∧ SqM t2 K H1 b ys ∧ R (ItzM t1 t2 K a b) H1
theorem pi_zipM {X : Cx} {e e2 : Expr} {ta : TA} {p pos tpos : Pos} {elts : List Expr} {kk : Nat} (hg : Gl X "zip") (hm : X.mg "zip" = none) (ha : PA X [e, e2] ta) (he : starEach [e, e2] X.env = (false, eval e X.env) :: starEach [e2] X.env) (he2 : (backTo pos (starEach [e2] X.env)).any (·.1) = false) :
    PI X (.Tuple elts kk tpos) (.Call (.Name "zip" p) [e, e2] [] pos) (iZipM X.K ta) := by
  refine ⟨fun pn s σ H R I w => Call_ (ld_blt I hg hm PyProof.Rows.boot_zip (PyProof.Rows.callWith_type1 (thn (ha.run pos pn s σ H _ I w) fun us s1 ⟨vs, H1, I1, rv, q1⟩ => ?_) he he2))⟩
  obtain ⟨t1, t2, a, b, xs, ys, rfl, sx, sy, q⟩ := q1
  obtain ⟨u, u', rfl, ru, ru'⟩ : ∃ u u', us = [u, u'] ∧ u = Value.ref a ∧ u' = Value.ref b := by
    cases rv with
    | cons r1 rr => cases rr with
      | cons r2 rr => cases rr; exact ⟨_, _, rfl, r1, r2⟩
  subst ru ru'
  obtain ⟨l1, _, c1, la⟩ := inv_seqM I1 sx
  obtain ⟨l2, _, c2, lb⟩ := inv_seqM I1 sy
  refine zip_begins2 (begM t1 a l1.toArray) (begM t2 b l2.toArray) c1 c2 fun hn zz zi zo o1 o2 _ kp => wpAny_pyIter_zip zz ?_
  refine ⟨s1.heap.objs.size + 4, [s1.heap.objs.size + 4, s1.heap.objs.size + 2, s1.heap.objs.size + 3, s1.heap.objs.size, s1.heap.objs.size + 1], _, _, H1, rfl, I1.kept (h' := hn) (t' := s1.toks) kp,
    turn_zipM (zip_sep2 (N := s1.heap.objs.size) (fp1 := [a]) (fp2 := [b]) (fun c hc => by rw [List.mem_singleton] at hc; rw [hc]; exact la) fun c hc => by rw [List.mem_singleton] at hc; rw [hc]; exact lb), ⟨zz, zi, ⟨_, _, zo⟩, itM_new o1, itM_new o2⟩, fun c hc => ?_, q⟩
  have up : s1.heap.objs.size ≤ c := of_mem5 (P := fun c => s1.heap.objs.size ≤ c) hc (Nat.le_add_right _ _) (Nat.le_add_right _ _) (Nat.le_add_right _ _) (Nat.le_refl _) (Nat.le_add_right _ _)
  exact I1.fpOk up (I1.hok.fresh up)
/-! ### enumerate -/
def IteM (t : Bool) (K : PySem.W.Frag) (a : Addr) : It :=
  ⟨fun i H => ∃ (xs : List V) (x : V), SqM t K H a xs ∧ xs[i]? = some x, fun i H v H' => ∃ T x, v = .ref T ∧ H T = none ∧ H' = upd H T (.tup [.int (i : Nat), x]) ∧ ∀ xs, SqM t K H a xs → xs[i]? = some x, fun i H => ∃ xs : List V, SqM t K H a xs ∧ xs.length = i⟩
theorem turn_enumM {t : Bool} {P : Program} {w : World} {K : PySem.W.Frag} {elts : List Expr} {kk : Nat} {tpos : Pos} (a e it : Addr) (hae : a ≠ e) :
    Turn P w K (.Tuple elts kk tpos) (IteM t K a) [e, it] e (fun i h => (∃ old, IsEnum h e it ((i : Nat) : Int) old) ∧ ItM t h it a i ∧ e ≠ it) where
  mem := List.mem_cons_self
  obj := fun i h ⟨⟨_, en⟩, wi, _⟩ c hc => of_mem2 (P := fun c => ∃ o, h.get? c = some o ∧ ∀ v, o.data ≠ .cell v) hc ⟨_, en, fun _ e => nomatch e⟩ (itM_at wi)
  keep := fun i h h' ⟨⟨_, en⟩, wi, ne⟩ kp => ⟨⟨_, kp _ (by simp) _ en⟩, itM_keep wi fun _ q => kp _ (by simp) _ q, ne⟩
  item := by
    intro X eP ew eK calm i pn s σ H E I fp ⟨⟨_, en⟩, wi, ne⟩ ⟨xs, x, sx, gx⟩
    subst eP ew eK
    obtain ⟨l1, v1, c1, _⟩ := inv_seqM I sx
    obtain ⟨u1, m1, ru1⟩ := v1.get gx
    have elt : e < s.heap.objs.size := Heap.lt_size en
    have dr := drawsM (prog := X.prog) (w := X.w) (A := X.A.in1) (I.ok.hd calm) t it a (itM_ne wi c1) l1.toArray
    have lt1 : i < l1.toArray.size := by simpa using (List.getElem?_eq_some_iff.mp m1).1
    refine wpAny_pyNext_enum_itemD dr en ⟨wi, c1⟩ lt1 ne (by simp; exact ⟨ne, fun z => hae z.symm⟩) fun y1 hn tk g1 out n1 nT _ kp => ?_
    have ey1 : y1 = u1 := by
      have g : l1.toArray[i]? = some y1 := g1
      rw [List.getElem?_toArray, m1] at g
      exact (Option.some.inj g).symm
    subst ey1
    refine ⟨_, rfl, wpAny_letOwnedTupleGo_enum (s := { s with heap := hn, toks := tk + 1 }) out fun hm en2 same => ?_⟩
    have made : hm.get? s.heap.objs.size = some { cls := .type "tuple", data := .seq #[.int i tk, y1] } := (same.2 _ (Nat.ne_of_gt elt)).trans nT
    have tok : ObjOk X.prog X.w (upd H s.heap.objs.size (.tup [.int (i : Nat), x])) hm s.heap.objs.size (.tup [.int (i : Nat), x]) := ⟨show 2 ≤ sizeLine by decide, _, .cons ⟨_, rfl⟩ (.cons ru1 .nil), ⟨_, made, rfl, _, rfl⟩⟩
    have I1 : Inv X pn σ (upd H s.heap.objs.size (.tup [.int (i : Nat), x])) { s with heap := hm, toks := tk + 1 } :=
      I.turnedNew (ch := [e, it]) (fun c o no q => by
        simp only [List.mem_cons, List.not_mem_nil, or_false, not_or] at no
        exact (same.2 c no.1).trans (kp c o no.1 no.2 q)) fp (Nat.le_refl _) tok
    have old : ∀ c ∈ [e, it], c < s.heap.objs.size := fun c hc => of_mem2 (P := fun c => c < s.heap.objs.size) hc elt (by obtain ⟨_, q, _⟩ := itM_at wi; exact Heap.lt_size q)
    refine ⟨.ref s.heap.objs.size, _, I1, rfl, ⟨_, x, rfl, I.hok.fresh (Nat.le_refl _), rfl, fun l q => by rw [inv_seqM_inj I q sx]; exact gx⟩, ⟨⟨y1, ?_⟩, itM_keep n1.1 fun _ q => (same.2 it (Ne.symm ne)).trans q, ne⟩, fun c hc => (upd_ne (Nat.ne_of_lt (old c hc))).trans (fp c hc).1⟩
    rw [show ((i + 1 : Nat) : Int) = (i : Int) + 1 by omega]
    exact en2
  done := by
    intro X eP ew eK calm i pn s σ H E I fp ⟨⟨_, en⟩, wi, ne⟩ ⟨xs, sx, ex⟩
    subst eP ew eK
    obtain ⟨l1, v1, c1, _⟩ := inv_seqM I sx
    have n1 := v1.length
    have dr := drawsM (prog := X.prog) (w := X.w) (A := X.A.in1) (I.ok.hd calm) t it a (itM_ne wi c1) l1.toArray
    have ei : i = l1.toArray.size := by simp; omega
    have wi2 : ItM t s.heap it a l1.toArray.size := by rw [← ei]; exact wi
    obtain ⟨k0, k1, k2, k3, k4, k5⟩ := fp it (by simp)
    exact wpAny_pyNext_enum_endD dr en ⟨wi2, c1⟩ fun hn eb => ⟨rfl, I.turned (t' := s.toks) (fun c o no q => eb c o no q) k0 k1 k3 k4 k5⟩
  self := fun _ _ _ _ _ ⟨⟨_, en⟩, _⟩ y => wpAny_pyIter_enum en y
end TM
set_option maxHeartbeats 1000000
/-! TM, part Mx: zip, dict comprehensions. -/
namespace TM
open PySem PySem.Spec PyProof.Rows L2
/-! ### zip -/
theorem zipD_get {xs ys : List D} {i : Nat} {x y : D} (hx : xs[i]? = some x) (hy : ys[i]? = some y) : (zipD xs ys)[i]? = some (.tup [x, y]) := by
  unfold zipD
  rw [List.getElem?_zipWith, hx, hy]
theorem zipD_len {xs ys : List D} : (zipD xs ys).length = min xs.length ys.length := by
  unfold zipD
  exact List.length_zipWith
section
variable {X : Cx} {B : Bx} {n : Nat} {a b c e tg : Expr} {es rest : List Expr} {pos : Pos} {eva evb evc : Ev} {evs : Slots → Store → Res (List D)}
/-- what is walked stands -/
theorem seqM_V {K : PySem.W.Frag} {W : Wo} {st : Store} {H : Hp} (s : SR W st H) (hK : W.K = K) {x : D} {v : V} (r : Rep W x v) {xs : List D} (e : asQ x st = some xs) :
    ∃ t a, v = .ref a ∧ ∀ W' st' H', Li W W' → SR W' st' H' → srcOk (srcD x xs) st' = true → ∃ vs, SqM t K H' a vs ∧ RepL W' xs vs := by
  subst hK
  cases x with
  | tup ys =>
    cases e
    simp only [Rep] at r
    obtain ⟨p, vs, rfl, q, rq⟩ := r
    exact ⟨true, p, rfl, fun W' st' H' l s' _ => ⟨vs, by
      have := sqT_H s'.still (sqT_mono l.F q)
      exact this, rq.mono' l⟩⟩
  | lst ys =>
    cases e
    simp only [Rep] at r
    obtain ⟨p, vs, rfl, q, rq⟩ := r
    exact ⟨false, p, rfl, fun W' st' H' l s' _ => ⟨vs, .inl (rd_H s'.still (rd_mono l.F q)), rq.mono' l⟩⟩
  | loc n =>
    have e' : lstAt st n = some xs := e
    simp only [Rep] at r
    obtain ⟨p, ea, rfl⟩ := r
    exact ⟨false, p, rfl, fun W' st' H' l s' ok => by
      have ok' : st'[n]? = some (.lst xs) := by simpa [srcOk, srcD] using ok
      obtain ⟨f, vs, hH, rq⟩ := s'.lstCell ok' (l.mu n p ea)
      exact ⟨vs, .inl (.inl hH), rq⟩⟩
  | _ => cases e
theorem sqD_asQ {x : D} {xs : List D} (h : sqD x = some xs) (st : Store) : asQ x st = some xs ∧ srcD x xs = none := by
  cases x <;> first | (cases h; done) | (cases h; exact ⟨rfl, rfl⟩)
theorem i_zip {nm : Str} {p tpos : Pos} {elts : List Expr} {kk : Nat} (hK : B.K = X.K) (hnm : nm = "zip") (hg : Gl X nm) (hm : X.mg nm = none) (hs : isStar a = false) (hs2 : isStar b = false) (ha : PE X a (tE B eva)) (hb : PE X b (tE B evb)) :
    PI X (.Tuple elts kk tpos) (.Call (.Name nm p) [a, b] [] pos) (tI B fun sl st => (eva sl st).bind fun x st1 => (evb sl st1).bind fun y st2 => match sqD x, sqD y with
    | some xs, some ys => .ok ⟨none, zipD xs ys⟩ st2
    | _, _ => .stuck) := by
  subst hnm
  have hA : PA X [a, b] (tA B fun sl st => (eva sl st).bind fun d st1 => ((fun sl st => (evb sl st).bind fun d st1 => (Res.ok (α := List D) [] st1).bind fun ds st2 => .ok (d :: ds) st2) sl st1).bind fun ds st2 => .ok (d :: ds) st2) := a_cons hs ha (a_cons hs2 hb a_nil)
  refine PI.imp (pi_zipM hg hm hA (by rw [star_cons hs]) (by rw [star_cons hs2]; rfl)) fun σ H R ⟨W, sl, st, h1, h2, h3, h4, h5⟩ => ?_
  refine ⟨W, sl, st, h1, h2, h3, h4, ?_⟩
  dsimp only at h5 ⊢
  cases hr : eva sl st with
  | stuck => rw [hr] at h5; exact h5.elim
  | exc C fs st' => rw [hr] at h5; exact h5
  | ok x st1 =>
    rw [hr, Res.bind_ok] at h5
    rw [Res.bind_ok]
    cases hr2 : evb sl st1 with
    | stuck => rw [hr2] at h5; exact h5.elim
    | exc C fs st' => rw [hr2] at h5; exact h5
    | ok y st2 =>
      rw [hr2, Res.bind_ok] at h5
      simp only [Res.bind_ok]
      intro W1 H1 vs l1 s1 r1
      obtain ⟨v, u, rfl, rv, ru⟩ := repL2 r1
      have eK : W1.K = X.K := (l1.K.trans h1).trans hK
      cases hx : sqD x with
      | none => rw [hx] at h5; exact h5.elim
      | some xs =>
        cases hy : sqD y with
        | none => rw [hx, hy] at h5; exact h5.elim
        | some ys =>
          rw [hx, hy] at h5
          obtain ⟨ex, ex2⟩ := sqD_asQ hx st2
          obtain ⟨ey, ey2⟩ := sqD_asQ hy st2
          obtain ⟨t1, p1, rfl, f1⟩ := seqM_V s1 eK rv ex
          obtain ⟨t2, p2, rfl, f2⟩ := seqM_V s1 eK ru ey
          obtain ⟨vx, z1, _⟩ := f1 W1 st2 H1 ⟨rfl, rfl, Still.refl _, fun _ _ h => h⟩ s1 (by rw [ex2]; rfl)
          obtain ⟨vy, z2, _⟩ := f2 W1 st2 H1 ⟨rfl, rfl, Still.refl _, fun _ _ h => h⟩ s1 (by rw [ey2]; rfl)
          refine ⟨t1, t2, p1, p2, vx, vy, rfl, z1, z2, h5 W1 H1 _ l1 s1 ?_⟩
          intro W' st' H' l s ok i
          obtain ⟨vx, y1, rq1⟩ := f1 W' st' H' l s (by rw [ex2]; rfl)
          obtain ⟨vy, y2, rq2⟩ := f2 W' st' H' l s (by rw [ey2]; rfl)
          have e1 := rq1.length
          have e2 := rq2.length
          refine ⟨fun hi => ?_, fun hi => ?_⟩
          · rw [zipD_len] at hi
            obtain ⟨dx, ex⟩ := getE (show i < xs.length by omega)
            obtain ⟨dy, ey⟩ := getE (show i < ys.length by omega)
            obtain ⟨wx, fx, rx⟩ := rq1.get ex
            obtain ⟨wy, fy, ry⟩ := rq2.get ey
            refine ⟨⟨vx, vy, wx, wy, y1, y2, fx, fy⟩, fun x H2 q => ?_⟩
            obtain ⟨T, x', y', rfl, hT, rfl, g1, g2⟩ := q
            have j1 := g1 _ y1
            have j2 := g2 _ y2
            rw [fx] at j1
            rw [fy] at j2
            cases j1
            cases j2
            have lt := le_still (o := .tup [wx, wy]) (s.free hT)
            refine ⟨W'.still T (.tup [wx, wy]), .tup [dx, dy], lt, s.tree hT _, zipD_get ex ey, ?_⟩
            simp only [Rep]
            exact ⟨T, [wx, wy], rfl, .inl (.inl upd_same), .cons (rx.mono lt) (.cons (ry.mono lt) .nil)⟩
          · rw [zipD_len] at hi
            exact ⟨vx, vy, y1, y2, by omega, by omega, by omega⟩
end
/-! ### dict comprehensions -/
def dcF (evt : Slots → Store → Res Bool) (evk evv : Ev) (t : CT) (vs : List Nat) (sl : Slots) : D → Store → Res (Option (Key × D)) := fun d st' => match asgT t d (wipeD sl vs) with
  | none => .stuck
  | some sl' => (evt sl' st').bind fun b st2 => if b then (evk sl' st2).bind fun kd st3 => (evv sl' st3).bind fun vd st4 => match keyOf kd with
    | some kk => .ok (some (kk, vd)) st4
    | none => .stuck else .ok none st2
theorem dcF_none {evt : Slots → Store → Res Bool} {evk evv : Ev} {t : CT} {vs : List Nat} {sl : Slots} {d : D} {st : Store} (h : asgT t d (wipeD sl vs) = none) : dcF evt evk evv t vs sl d st = .stuck := by
  unfold dcF
  rw [h]
theorem dcF_some {evt : Slots → Store → Res Bool} {evk evv : Ev} {t : CT} {vs : List Nat} {sl sl' : Slots} {d : D} {st : Store} (h : asgT t d (wipeD sl vs) = some sl') : dcF evt evk evv t vs sl d st = (evt sl' st).bind fun b st2 => if b then (evk sl' st2).bind fun kd st3 => (evv sl' st3).bind fun vd st4 => match keyOf kd with
    | some kk => .ok (some (kk, vd)) st4
    | none => .stuck else .ok none st2 := by
  unfold dcF
  rw [h]
theorem dc_end {W0 W1 : Wo} {E : XK} {st : Store} {H : Hp} {Q : VK} {D0 : Addr} {acc : List (Key × D)} {accV : List (Key × V)} {mt : Bool} (l : Li W0 W1) (hG0 : W0.G D0 = none) (hG : W1.G = upd W0.G D0 (.dK accV)) (s : SR W1 st H) (r : RepK W1 acc accV) (q : Post W0 E (mkK mt acc st) Q) : Q (.ref D0) H := by
  have fo := s.fo D0 (.dK accV) (by rw [hG]; exact upd_same)
  obtain ⟨f1, f2, f3⟩ := fo
  have s2 : SR (W1.with W0.G) st H := s.drop W0.G fun a o e => by
    rw [hG, upd_ne (fun z => by rw [z, hG0] at e; cases e)]
    exact e
  have l2 : Le W0 (W1.with W0.G) := ⟨l.K, l.CA, l.F, l.mu, rfl⟩
  have r2 : RepK (W1.with W0.G) acc accV := r.mono' li_with
  cases mt with
  | false =>
    have q' : Post W0 E (.ok (.dct acc) st) Q := by simpa [mkK] using q
    have lf : Le (W1.with W0.G) ((W1.with W0.G).still D0 (.dK accV)) := le_still f2
    refine q' ((W1.with W0.G).still D0 (.dK accV)) H _ (l2.trans lf) (s2.settle f1 f2 f3 hG0) ?_
    simp only [Rep]
    exact ⟨D0, accV, rfl, .inl upd_same, r2.mono lf⟩
  | true =>
    have q' : Post W0 E (.ok (.loc st.length) (st ++ [.dct acc])) Q := by simpa [mkK] using q
    refine q' ((W1.with W0.G).cell D0) H _ (l2.trans le_cell) (s2.join f1 f3 hG0 ⟨f2, accV, f1, r2.mono le_cell⟩) ?_
    simp only [Rep]
    refine ⟨D0, ?_, rfl⟩
    show (W1.mu ++ [D0])[st.length]? = some D0
    rw [← s.len, List.getElem?_append_right (Nat.le_refl _)]
    simp
structure DcAt (B : Bx) (W0 : Wo) (sl : Slots) (σ : Sg) (D0 : Addr) (mt : Bool) (src : Option (Nat × List D)) (f : D → Store → Res (Option (Key × D))) (items : List D) (Q : VK) (i : Nat) (H : Hp) : Prop where
  ex : ∃ W1 st acc accV, W1.K = B.K ∧ W1.CA = B.CA ∧ Li W0 W1 ∧ W1.G = upd W0.G D0 (.dK accV) ∧ SlR W1 sl σ ∧ SR W1 st H ∧ RepK W1 acc accV ∧ Post W0 (B.E σ) ((dcLoop src f (items.drop i) acc st).bind fun vs st2 => mkK mt vs st2) Q
section
variable {X : Cx} {B : Bx}
theorem dc_run {E : XK} {W0 : Wo} {sl : Slots} {σ : Sg} {H1 : Hp} {D0 : Addr} {mt : Bool} {J : It} {it : Itr} {t : CT} {vs : List Nat} {evt : Slots → Store → Res Bool} {evk evv : Ev} {Q : VK} {st : Store} (hE : (B.E σ) = E)
    (hti : ∀ i ∈ tgIx t, i ∈ vs) (h1 : W0.K = B.K) (h2 : W0.CA = B.CA) (h3 : SlR W0 sl σ) (h4 : SR W0 st H1) (hw : Wk W0 J it) (hD : H1 D0 = none) (hq : Post W0 (B.E σ) ((dcLoop it.src (dcF evt evk evv t vs sl) it.items [] st).bind fun vs st2 => mkK mt vs st2) Q) :
    ∃ W : Nat → Nat → Hp → Prop, (∃ m, W 0 m (upd H1 D0 (.dK []))) ∧ ∀ i m H, W i m H →
      (J.stop i H ∧ Q (.ref D0) H) ∨ (J.go i H ∧ ∃ Nx : Hp → Prop, (∀ H', Nx H' → ∃ m', m' < m ∧ W (i + 1) m' H') ∧ ∀ x H', J.yld i H x H' → gT B t x (wipe σ vs) H' fun σ2 H2 => wipe σ2 vs = wipe σ vs ∧ tB B.z evt σ2 H2 fun b H3 =>
        if b = true then tE B.z evk σ2 H3 fun y H4 => tE B.z evv σ2 H4 fun z H5 => ∃ kvs k, y = kV k ∧ H5 D0 = some (.dK kvs) ∧ kvs.length < sizeLine ∧ Nx (upd H5 D0 (.dK (putK kvs k z))) else Nx H3) := by
  have hG0 : W0.G D0 = none := by
    cases e : W0.G D0 with
    | none => rfl
    | some o =>
      have := (h4.fo D0 o e).1
      rw [hD] at this
      cases this
  refine ⟨fun i m H => m = it.items.length - i ∧ i ≤ it.items.length ∧ DcAt B W0 sl σ D0 mt it.src (dcF evt evk evv t vs sl) it.items Q i H, ⟨_, rfl, Nat.zero_le _, ⟨W0.apart D0 (.dK []), st, [], [], h1, h2, li_apart, rfl, h3.mono' li_apart, h4.laid hD _, .nil, hq⟩⟩, ?_⟩
  rintro i m H ⟨rfl, hi, ⟨W1, st1, acc, accV, k1, k2, l, hG, k3, k4, kr, kq⟩⟩
  by_cases hlt : i < it.items.length
  · obtain ⟨d, ed⟩ := getE hlt
    have edrop : it.items.drop i = d :: it.items.drop (i + 1) := by
      obtain ⟨h, e⟩ := List.getElem?_eq_some_iff.mp ed
      rw [← e]
      exact List.drop_eq_getElem_cons h
    rw [edrop] at kq
    unfold dcLoop at kq
    cases hs : srcOk it.src st1 with
    | false =>
      rw [hs] at kq
      exact kq.elim
    | true =>
      rw [hs, if_pos rfl] at kq
      obtain ⟨hgo, hy⟩ := (hw W1 st1 H l k4 hs i).1 hlt
      refine .inr ⟨hgo, fun H' => DcAt B W0 sl σ D0 mt it.src (dcF evt evk evv t vs sl) it.items Q (i + 1) H', fun H' p => ⟨_, by omega, rfl, by omega, p⟩, fun x H' y => ?_⟩
      obtain ⟨W2, d', l2, s2, ed', r2⟩ := hy x H' y
      rw [ed] at ed'
      cases ed'
      cases ha : asgT t d (wipeD sl vs) with
      | none =>
        rw [dcF_none ha] at kq
        exact kq.elim
      | some sl' =>
        rw [dcF_some ha] at kq
        refine ⟨W2, wipeD sl vs, st1, d, sl', l2.K.trans k1, l2.CA.trans k2, (k3.mono l2).wipe vs, s2, r2, ha, fun σ2 sr2 wp => ⟨by rw [wp vs hti, wipe_idem], ?_⟩⟩
        refine ⟨W2, sl', st1, l2.K.trans k1, l2.CA.trans k2, sr2, s2, ?_⟩
        cases ht : evt sl' st1 with
        | stuck =>
          rw [ht] at kq
          exact kq.elim
        | exc C fs st' =>
          rw [ht] at kq
          exact kq.elim
        | ok b st2 =>
          rw [ht] at kq
          intro W3 H3 l3 s3
          cases b with
          | false =>
            rw [Res.bind_ok] at kq
            simp only [Bool.false_eq_true, if_false] at kq ⊢
            have l13 := l2.trans l3
            exact ⟨W3, st2, acc, accV, l13.K.trans k1, l13.CA.trans k2, ⟨(l13.K.trans l.K), l13.CA.trans l.CA, l.F.trans l13.F, fun n a e => l13.mu n a (l.mu n a e)⟩, l13.G.trans hG, k3.mono l13, s3, kr.mono l13, kq⟩
          | true =>
            rw [Res.bind_ok] at kq
            simp only [if_true] at kq ⊢
            refine ⟨W3, sl', st2, l3.K.trans (l2.K.trans k1), l3.CA.trans (l2.CA.trans k2), sr2.mono l3, s3, ?_⟩
            cases hk : evk sl' st2 with
            | stuck =>
              rw [hk] at kq
              exact kq.elim
            | exc C fs st' =>
              rw [hk] at kq
              exact kq.elim
            | ok kd st3 =>
              rw [hk] at kq
              intro W4 H4 y4 l4 s4 r4
              rw [Res.bind_ok] at kq
              refine ⟨W4, sl', st3, l4.K.trans (l3.K.trans (l2.K.trans k1)), l4.CA.trans (l3.CA.trans (l2.CA.trans k2)), (sr2.mono l3).mono l4, s4, ?_⟩
              cases he : evv sl' st3 with
              | stuck =>
                rw [he] at kq
                exact kq.elim
              | exc C fs st' =>
                rw [he] at kq
                exact kq.elim
              | ok v st4 =>
                rw [he] at kq
                intro W5 H5 z5 l5 s5 r5
                rw [Res.bind_ok] at kq
                cases ek : keyOf kd with
                | none =>
                  rw [ek] at kq
                  exact kq.elim
                | some kk =>
                  rw [ek] at kq
                  dsimp only at kq
                  have l15 := ((l2.trans l3).trans l4).trans l5
                  have eG : W5.G D0 = some (.dK accV) := by rw [l15.G, hG]; exact upd_same
                  have f4 := s5.fo D0 _ eG
                  split at kq
                  · rename_i hz
                    have rl := kr.length
                    refine ⟨accV, kk, keyOf_V r4 ek, f4.1, by omega, ⟨W5.apart D0 (.dK (putK accV kk z5)), st4, putKD acc kk v, putK accV kk z5, l15.K.trans k1, l15.CA.trans k2, ?_, ?_, (k3.mono l15).mono' li_apart, s5.turn eG (fun _ z => nomatch z) _, ((kr.mono l15).put r5).mono' li_apart, kq⟩⟩
                    · exact ⟨l15.K.trans l.K, l15.CA.trans l.CA, l.F.trans l15.F, fun n a e => l15.mu n a (l.mu n a e)⟩
                    · show upd W5.G D0 _ = _
                      rw [l15.G, hG]
                      funext a
                      by_cases h : a = D0
                      · subst h
                        rw [upd_same, upd_same]
                      · rw [upd_ne h, upd_ne h, upd_ne h]
                  · exact kq.elim
  · have ei : i = it.items.length := by omega
    subst ei
    rw [List.drop_length] at kq
    unfold dcLoop at kq
    cases hs : srcOk it.src st1 with
    | false =>
      rw [hs] at kq
      exact kq.elim
    | true =>
      rw [hs, if_pos rfl, Res.bind_ok] at kq
      exact .inl ⟨(hw W1 st1 H l k4 hs _).2 rfl, dc_end l hG0 hG k4 kr kq⟩
theorem tDc_of {iter : Expr} {mt : Bool} {t : CT} {vs : List Nat} {evi : Slots → Store → Res Itr} {evt : Slots → Store → Res Bool} {evk evv : Ev} (hti : ∀ i ∈ tgIx t, i ∈ vs) {σ : Sg} {H : Hp} {Q : VK}
    (h : tE B (fun sl st => (evi sl st).bind fun J st1 => (dcLoop J.src (dcF evt evk evv t vs sl) J.items [] st1).bind fun vs st2 => mkK mt vs st2) σ H Q) : tDc (tI B evi) (gT B t) (tB B.z evt) (tE B.z evk) (tE B.z evv) vs σ H Q := by
  obtain ⟨W, sl, st, h1, h2, h3, h4, h5⟩ := h
  refine ⟨W, sl, st, h1, h2, h3, h4, ?_⟩
  dsimp only at h5
  cases hr : evi sl st with
  | stuck => rw [hr] at h5; exact h5.elim
  | exc C fs st' => rw [hr] at h5; exact h5
  | ok it st1 =>
    rw [hr, Res.bind_ok] at h5
    intro W1 H1 J l1 s1 wk D0 hD
    exact dc_run rfl hti (l1.K.trans h1) (l1.CA.trans h2) (h3.mono l1) s1 wk hD (Post.mono l1 h5)
theorem e_dc {kx vx tg iter : Expr} {ifs : List Expr} {scope : Scope} {own : List (Str × Nat)} {pos : Pos} {mt : Bool} {t : CT} {evi : Slots → Store → Res Itr} {evt : Slots → Store → Res Bool} {evk evv : Ev} (hc : X.calm = true) (hN : X.N.Nodup) (hi : PI X tg iter (tI B evi)) (ok : BlkOk X.N X.env.scope scope own) (hti : ∀ i ∈ tgIx t, i ∈ own.map (·.2))
    (hg : ∀ (s : Shared) (H : Hp) (C : Addr) (cl : List (Str × Addr)) (fp : List Addr), PG (X.blk s H scope (compEnvC scope cl C X.env) fp) tg (gT B t)) (ht : ∀ (s : Shared) (H : Hp) (C : Addr) (cl : List (Str × Addr)) (fp : List Addr), PTs (X.blk s H scope (compEnvC scope cl C X.env) fp) ifs (tB B.z evt))
    (hk : ∀ (s : Shared) (H : Hp) (C : Addr) (cl : List (Str × Addr)) (fp : List Addr), PE (X.blk s H scope (compEnvC scope cl C X.env) fp) kx (tE B.z evk))
    (he : ∀ (s : Shared) (H : Hp) (C : Addr) (cl : List (Str × Addr)) (fp : List Addr), PE (X.blk s H scope (compEnvC scope cl C X.env) fp) vx (tE B.z evv)) (hs : isSet iter = false) :
    PE X (.DictComp kx vx [⟨tg, iter, ifs, 0⟩] scope pos) (tE B fun sl st => (evi sl st).bind fun J st1 => (dcLoop J.src (dcF evt evk evv t (own.map (·.2)) sl) J.items [] st1).bind fun vs st2 => mkK mt vs st2) :=
  PE.imp (pe_dc hc hN hi ok hg ht hk he fun x => fold_plain hs x) fun σ H Q h => tDc_of (iter := iter) hti h
end
end TM
set_option maxHeartbeats 1000000
/-! TM, part My: list(enumerate(a tuple)). -/
namespace TM
open PySem PySem.Spec PyProof.Rows L2 PySem.W PySem.Calls
section
variable {prog : Program} {w : World} {A : Around} {E : Value → Shared → Prop} {s : Shared}
/-- enumerate(v): its two new cells -/
theorem meets_enumerate_newB1 {v : Value} {o : Obj} {H : Heap → Prop} (B : Begins v o H) :
    Meets (Builtin.«enumerate.__new__» ⟨[.type "enumerate", v], []⟩) (fun _ R s => H s.heap ∧
      R (.ok (.ret (.ref (s.heap.push o).objs.size))) { s with heap := (s.heap.push o).push { cls := .type "enumerate", data := .fields #[.none, .bool false, .ref s.heap.objs.size, rawInt 0, .none, .none] } }) :=
  .of_wp fun prog w A R s h => by
    obtain ⟨hp, g, d, tk, os⟩ := s; obtain ⟨h1, h⟩ := h
    have hsub := sub_enumerate
    have q1 : ∀ {A' : Around} {E : Value → Shared → Prop} {Q : Value → Shared → Prop}, Q (.ref hp.objs.size) ⟨hp.push o, g, d, tk, os⟩ → wpAny (model prog w) A' (pyIter v) Q E ⟨hp, g, d, tk, os⟩ :=
      fun q => B.iter prog w _ _ ⟨hp, g, d, tk, os⟩ _ h1 q
    wp_walk using q1
    refine wpAny_stack_any fun st => wpAny_pure ?_
    split
    · rename_i c _ _ _ _ _
      cases (c == Value.type "enumerate")
      · wp_walk using q1
        exact ⟨_, rfl, h⟩
      · wp_walk using q1
        exact ⟨_, rfl, h⟩
    · wp_walk using q1
      exact ⟨_, rfl, h⟩
theorem enum_begins1 {v : Value} {o : Obj} {H : Heap → Prop} {Q : Value → Shared → Prop} (B : Begins v o H) (h1 : H s.heap)
    (h : ∀ h', IsEnum h' (s.heap.objs.size + 1) s.heap.objs.size 0 .none → h'.get? s.heap.objs.size = some o → h'.objs.size = s.heap.objs.size + 2 →
      (∀ b o, s.heap.get? b = some o → h'.get? b = some o) → Q (.ref (s.heap.objs.size + 1)) { s with heap := h' }) :
    wpAny (model prog w) A (call (.type "enumerate") [v]) Q E s := by
  refine callType_new F.called_enumerate (by decide) (F.typeCall_enumerate_1 _) (F.newCall_enumerate_1 _) (fun obj => F.args_object_init_2 obj _) F.entry_enumerate_new
    (meets_enumerate_newB1 B) ⟨h1, ?_⟩
  have hz : (s.heap.push o).objs.size = s.heap.objs.size + 1 := Heap.size_push ..
  show _ ∧ _
  rw [hz]
  have he : IsEnum ((s.heap.push o).push { cls := .type "enumerate", data := .fields #[.none, .bool false, .ref s.heap.objs.size, rawInt 0, .none, .none] }) (s.heap.objs.size + 1) s.heap.objs.size 0 .none := by
    have := Heap.get?_push_size (s.heap.push o) (o := { cls := .type "enumerate", data := .fields #[.none, .bool false, .ref s.heap.objs.size, rawInt 0, .none, .none] }) rfl
    rw [hz] at this; exact this
  refine ⟨⟨_, he, rfl⟩, h _ he (Heap.get?_push_of_some _ (Heap.get?_push_size _ B.free)) (by rw [Heap.size_push, hz]) fun b o x => Heap.get?_push_of_some _ (Heap.get?_push_of_some _ x)⟩
/-- the next pair while the last one is still held -/
theorem enum_next_heldD {e it T : Addr} {fp : List Addr} {n i : Nat} {c : Int} {P : Nat → Value → Prop} {St : Nat → Heap → Prop} {old : Value} {f : Bool} {oT : Obj} {Q : Value → Shared → Prop}
    (D : Draws prog w A it fp n P St) (he : IsEnumHeld s.heap e it c old T f) (hT : s.heap.get? T = some oT) (hTe : T ≠ e) (hTi : T ≠ it) (hst : St i s.heap) (hlt : i < n) (hne : e ≠ it) (hef : e ∉ fp)
    (hQ : ∀ x h' tk, P i x → IsEnumHeld h' e it (c + 1) old T true → St (i + 1) h' →
      h'.get? s.heap.objs.size = some { cls := .type "tuple", data := .seq #[.int c tk, x] } → h'.objs.size = s.heap.objs.size + 1 →
      (∀ b o, b ≠ e → b ≠ it → s.heap.get? b = some o → h'.get? b = some o) → Q (.ref s.heap.objs.size) { s with heap := h', toks := tk + 1 }) :
    wpAny (model prog w) A (Builtin.«enumerate.__next__» ⟨[.ref e], []⟩) (fun fin s' => ∃ v, fin = .done (.ret v) ∧ Q v s') E s := by
  obtain ⟨hp, g, d, tk₀, os⟩ := s
  show wpAny _ _ (field (.ref e) 2 >>= _) _ _ _
  refine wpAny_bind (wpAny_field he rfl (x := .ref it) rfl ?_)
  refine wpAny_bind (D.item i _ _ _ hlt hst fun x h₁ tk hPx hit₁ hs₁ => ?_)
  replace hs₁ : Heap.SameBut it hp h₁ := hs₁
  have he₁ : IsEnumHeld h₁ e it c old T f := (hs₁.2 e hne).trans he
  show wpAny _ _ (field (.ref e) 3 >>= _) _ _ ⟨h₁, g, d, tk, os⟩
  refine wpAny_bind (wpAny_field he₁ rfl (x := rawInt c) rfl ?_)
  show wpAny _ _ (field (.ref e) 4 >>= _) _ _ ⟨h₁, g, d, tk, os⟩
  refine wpAny_bind (wpAny_field he₁ rfl (x := .none) rfl ?_)
  show wpAny _ _ (mkInt c >>= _) _ _ ⟨h₁, g, d, tk, os⟩
  refine wpAny_bind (wpAny_mkInt ?_)
  show wpAny _ _ (setField (.ref e) 3 (rawInt (c + 1)) >>= _) _ _ ⟨h₁, g, d, tk + 1, os⟩
  refine wpAny_bind (wpAny_setField_rec he₁ (by simp) fun h₂ he₂ hs₂ => ?_)
  replace hs₂ : Heap.SameBut e h₁ h₂ := hs₂
  replace he₂ : IsEnumHeld h₂ e it (c + 1) old T f := he₂
  show wpAny _ _ (setField (.ref e) 4 .none >>= _) _ _ ⟨h₂, g, d, tk + 1, os⟩
  refine wpAny_bind (wpAny_setField_rec he₂ (by simp) fun h₃ he₃ hs₃ => ?_)
  replace hs₃ : Heap.SameBut e h₂ h₃ := hs₃
  replace he₃ : IsEnumHeld h₃ e it (c + 1) old T f := he₃
  show wpAny _ _ (newTuple [.int c tk, x] >>= _) _ _ ⟨h₃, g, d, tk + 1, os⟩
  refine wpAny_bind (wpAny_newTuple ?_)
  have he₄ : IsEnumHeld (h₃.push { cls := .type "tuple", data := .seq #[.int c tk, x] }) e it (c + 1) old T f := Heap.get?_push_of_some _ he₃
  generalize hh₄ : h₃.push { cls := .type "tuple", data := .seq #[.int c tk, x] } = h₄ at he₄
  have hsz : h₃.objs.size = hp.objs.size := by rw [hs₃.1, hs₂.1, hs₁.1]
  have hel : e < hp.objs.size := Heap.lt_size he
  have ht₄ : h₄.get? hp.objs.size = some { cls := .type "tuple", data := .seq #[.int c tk, x] } := by rw [← hh₄, ← hsz]; exact Heap.get?_push_size _ rfl
  have hz₄ : h₄.objs.size = hp.objs.size + 1 := by rw [← hh₄, Heap.size_push, hsz]
  have hk₄ : ∀ b o, b ≠ e → b ≠ it → hp.get? b = some o → h₄.get? b = some o := fun b o hbe hbi hb => by
    rw [← hh₄]; exact Heap.get?_push_of_some _ (hs₃.extBut b o hbe (hs₂.extBut b o hbe (hs₁.extBut b o hbi hb)))
  have hit₄ : St (i + 1) h₄ := D.frame _ _ _ hit₁ fun b hb o y => by
    have hbe : b ≠ e := fun q => hef (q ▸ hb)
    rw [← hh₄]; exact Heap.get?_push_of_some _ (hs₃.extBut b o hbe (hs₂.extBut b o hbe y))
  show wpAny _ _ (Builtin.SmallTypes.ownedTupleIsFree (.ref e) >>= _) _ _ ⟨h₄, g, d, tk + 1, os⟩
  rw [hsz]
  clear hh₄ he₃ hs₃ he₂ hs₂ he₁ hs₁ hit₁ hsz h₃ h₂ h₁
  refine wpAny_bind (wpAny_tupleHeld_enum (s := ⟨h₄, g, d, tk + 1, os⟩) he₄ (hk₄ T oT hTe hTi hT) fun h₅ he₅ hs₅ => ?_)
  replace hs₅ : Heap.SameBut e h₄ h₅ := hs₅
  simp only [Bool.false_eq_true, if_false]
  refine wpAny_pure ⟨_, rfl, hQ x h₅ tk hPx he₅ (D.frame _ _ _ hit₄ fun b hb o y => hs₅.extBut b o (fun q => hef (q ▸ hb)) y) (hs₅.extBut _ _ (Nat.ne_of_gt hel) ht₄) ?_ fun b o hbe hbi hb => hs₅.extBut b o hbe (hk₄ b o hbe hbi hb)⟩
  show h₅.objs.size = hp.objs.size + 1
  rw [hs₅.1, hz₄]
/-- where an enumerate stands: nothing is out, or a pair that is held -/
def EnAt (h : Heap) (S e it : Addr) (c : Int) : Prop := (∃ old, IsEnum h e it c old) ∨ ∃ old T f oT, IsEnumHeld h e it c old T f ∧ h.get? T = some oT ∧ T ≠ e ∧ T ≠ it ∧ T ≠ S
theorem EnAt.ty {S e it : Addr} {c : Int} (h : EnAt s.heap S e it c) : s.TypeIs (.ref e) "enumerate" := by
  rcases h with ⟨_, h⟩ | ⟨_, _, _, _, h, _⟩
  · exact ⟨_, h, rfl⟩
  · exact ⟨_, h, rfl⟩
theorem EnAt.lt {h : Heap} {S e it : Addr} {c : Int} (x : EnAt h S e it c) : e < h.objs.size := by
  rcases x with ⟨_, h⟩ | ⟨_, _, _, _, h, _⟩
  · exact Heap.lt_size h
  · exact Heap.lt_size h
theorem en_item {S e it : Addr} {fp : List Addr} {n i : Nat} {c : Int} {P : Nat → Value → Prop} {St : Nat → Heap → Prop} {Q : Option Value → Shared → Prop}
    (D : Draws prog w A.in1 it fp n P St) (he : EnAt s.heap S e it c) (hS : S < s.heap.objs.size) (hst : St i s.heap) (hlt : i < n) (hne : e ≠ it) (hef : e ∉ fp)
    (hQ : ∀ x h' tk, P i x → EnAt h' S e it (c + 1) → St (i + 1) h' →
      h'.get? s.heap.objs.size = some { cls := .type "tuple", data := .seq #[.int c tk, x] } → h'.objs.size = s.heap.objs.size + 1 →
      (∀ b o, b ≠ e → b ≠ it → s.heap.get? b = some o → h'.get? b = some o) → Q (some (.ref s.heap.objs.size)) { s with heap := h', toks := tk + 1 }) :
    wpAny (model prog w) A (pyNext (.ref e)) Q E s := by
  have hel := he.lt
  have hil : it < s.heap.objs.size := by obtain ⟨_, y⟩ := D.live _ _ hst; exact Heap.lt_size y
  have hty := he.ty
  rcases he with ⟨old, he⟩ | ⟨old, T, f, oT, he, hT, t1, t2, t3⟩
  · exact wpAny_pyNext_enum_itemC D he hst hlt hne hef fun x h' tk a b c' d k q => hQ x h' tk a (.inr ⟨x, s.heap.objs.size, false, _, b, d, Nat.ne_of_gt hel, Nat.ne_of_gt hil, Nat.ne_of_gt hS⟩) c' d k q
  · unfold pyNext
    exact wpAny_bind (wpAny_attempt (wpAny_callSpecial?_slot (name := Str.ofString "__next__") hty F.slot_enumerate_next
      (wpAny_call_entry F.slot_enumerate_next hty F.entry_enumerate_next
        (enum_next_heldD D he hT t1 t2 hst hlt hne hef fun x h' tk a b c' d k q => wpAny_pure (hQ x h' tk a (.inr ⟨old, T, true, oT, b, q T oT t1 t2 hT, t1, t2, t3⟩) c' d k q)) (F.args_enumerate_next_1 _))))
theorem en_end {S e it : Addr} {fp : List Addr} {n : Nat} {c : Int} {P : Nat → Value → Prop} {St : Nat → Heap → Prop} {Q : Option Value → Shared → Prop}
    (D : Draws prog w A.in1 it fp n P St) (he : EnAt s.heap S e it c) (hst : St n s.heap) (hQ : ∀ h', Heap.ExtBut it s.heap h' → Q none { s with heap := h' }) : wpAny (model prog w) A (pyNext (.ref e)) Q E s := by
  have hty := he.ty
  have fin : ∀ {f0 f1 f4 f5 : Value} {k : Int}, s.heap.get? e = some { cls := .type "enumerate", dict := none, data := .fields #[f0, f1, .ref it, rawInt k, f4, f5], slots := #[] } → wpAny (model prog w) A (pyNext (.ref e)) Q E s := fun {f0 f1 f4 f5 k} he => by
    unfold pyNext
    refine wpAny_bind (wpAny_attempt (wpAny_callSpecial?_slot (name := Str.ofString "__next__") hty F.slot_enumerate_next
      (wpAny_call_entry F.slot_enumerate_next hty F.entry_enumerate_next ?_ (F.args_enumerate_next_1 _))))
    show wpAny _ _ (field (.ref e) 2 >>= _) _ _ _
    refine wpAny_bind (wpAny_field he rfl (x := .ref it) rfl ?_)
    refine wpAny_bind (D.done _ _ _ hst fun h' x he' hx' => ?_)
    obtain ⟨o, ho, hc⟩ := hx'
    refine wpAny_bind (wpAny_isInstance (T := "StopIteration") (b := true) ⟨o, ho, hc⟩ isSubtype_stop ?_)
    exact wpAny_pure (hQ _ he')
  rcases he with ⟨old, he⟩ | ⟨old, T, f, oT, he, _⟩
  · exact fin he
  · exact fin he
structure DrOk (h0 h : Heap) (S e it : Addr) (items : Array Value) (acc : Array Value) (Ts : List Addr) : Prop where
  acc : acc.toList = Ts.map Value.ref
  nd : Ts.Nodup
  tup : ∀ (j : Nat) (T : Addr), Ts[j]? = some T → h0.objs.size ≤ T ∧ T ≠ S ∧ T ≠ e ∧ T ≠ it ∧ ∃ tk x, items[j]? = some x ∧ h.get? T = some { cls := .type "tuple", data := .seq #[.int (j : Int) tk, x] }
  base : ∀ b o, h0.get? b = some o → h.get? b = some o
theorem DrOk.keep {h0 h h' : Heap} {S e it : Addr} {items : Array Value} {acc : Array Value} {Ts : List Addr} (x : DrOk h0 h S e it items acc Ts) (h1 : h0.objs.size ≤ S) (h2 : h0.objs.size ≤ e) (h3 : h0.objs.size ≤ it) (k : ∀ b o, b ≠ S → b ≠ e → b ≠ it → h.get? b = some o → h'.get? b = some o) : DrOk h0 h' S e it items acc Ts :=
  ⟨x.acc, x.nd, fun j T q => by
    obtain ⟨a1, a2, a3, a4, tk, v, e1, e2⟩ := x.tup j T q
    exact ⟨a1, a2, a3, a4, tk, v, e1, k T _ a2 a3 a4 e2⟩, fun b o q => by
    have hb := Heap.lt_size q
    exact k b o (fun z => absurd (z ▸ hb) (Nat.not_lt.mpr h1)) (fun z => absurd (z ▸ hb) (Nat.not_lt.mpr h2)) (fun z => absurd (z ▸ hb) (Nat.not_lt.mpr h3)) (x.base b o q)⟩
theorem drainE {S e it t : Addr} {items : Array Value} {res : Value} {h0 : Heap} {R : Result → Shared → Prop} (hh : A.handled = none) (hsz : items.size ≤ sizeLine) (h1 : h0.objs.size ≤ S) (h2 : h0.objs.size ≤ e) (h3 : h0.objs.size ≤ it) (ht : t < h0.objs.size) (hei : e ≠ it) (hSe : S ≠ e) (hSi : S ≠ it) :
    ∀ (k i : Nat) (s : Shared) (acc : Array Value) (c : Nat) (Ts : List Addr), items.size - i = k → i ≤ items.size → EnAt s.heap S e it (i : Int) → (s.heap.IsTupleIter it t i ∧ s.heap.IsTuple t items) → s.heap.get? S = some { cls := .type "list", dict := none, data := .seq acc c, slots := #[] } →
    DrOk h0 s.heap S e it items acc Ts → Ts.length = i →
    (∀ h' tk acc' c' Ts', h'.get? S = some { cls := .type "list", dict := none, data := .seq acc' c', slots := #[] } → DrOk h0 h' S e it items acc' Ts' → Ts'.length = items.size → R (.ok (.ret res)) { s with heap := h', toks := tk }) →
    codeAny (model prog w) A (.builtin "list.extend.loop" ⟨[.ref S, .ref e, res], []⟩) R s := by
  have D : Draws prog w A.in1.in1 it [it, t] items.size (fun i v => items[i]? = some v) (fun i h => h.IsTupleIter it t i ∧ h.IsTuple t items) := Draws.tuple (A := A.in1.in1) hh it t (fun z => absurd (z ▸ ht) (Nat.not_lt.mpr h3)) items
  have hte : t ≠ e := fun z => absurd (z ▸ ht) (Nat.not_lt.mpr h2)
  have htS : t ≠ S := fun z => absurd (z ▸ ht) (Nat.not_lt.mpr h1)
  have hef : e ∉ [it, t] := by simp [hei, Ne.symm hte]
  intro k
  induction k with
  | zero =>
    intro i s acc c Ts hk hi he hst hS ok hl hR
    have hin : i = items.size := by omega
    refine codeAny_builtin F.entry_extend_loop ?_
    rw [Around.under_plainId F.plain_extend_loop _]
    show wpAny _ A.in1 (pyNext (.ref e) >>= _) _ _ s
    refine wpAny_bind (en_end D he (by rw [← hin]; exact hst) fun h' hx => ?_)
    refine wpAny_pure (hR h' s.toks acc c Ts (hx S _ hSi hS) (ok.keep h1 h2 h3 fun b o _ _ b3 q => hx b o b3 q) (by rw [hl, hin]))
  | succ k ih =>
    intro i s acc c Ts hk hi he hst hS ok hl hR
    have hlt : i < items.size := by omega
    have hSl := Heap.lt_size hS
    have hel := he.lt
    have hil : it < s.heap.objs.size := by obtain ⟨_, y⟩ := D.live _ _ hst; exact Heap.lt_size y
    have hasz : acc.size = i := by
      have := congrArg List.length ok.acc
      simpa [hl] using this
    refine codeAny_builtin F.entry_extend_loop ?_
    rw [Around.under_plainId F.plain_extend_loop _]
    show wpAny _ A.in1 (pyNext (.ref e) >>= _) _ _ s
    refine wpAny_bind (en_item D he hSl hst hlt hei hef fun x h' tk hx he' hst' hT hz hkp => ?_)
    have hS' := hkp S _ hSe hSi hS
    show wpAny _ A.in1 (updateSeq S (·.push (.ref s.heap.objs.size)) >>= _) _ _ _
    refine wpAny_bind ?_
    refine wpAny_updateSeq hS' rfl (wpAny_pure ⟨plainId_quiet F.plain_extend_loop _, ?_⟩) (by rw [hasz]; omega) (by show (acc.push _).size ≤ sizeLine + 1; rw [Array.size_push, hasz]; omega)
    have up : ∀ b o, b ≠ S → h'.get? b = some o → (h'.update S (Obj.mapSeq (·.push (.ref s.heap.objs.size)))).get? b = some o := fun b o hb q => (Heap.get?_update_other _ _ (Ne.symm hb)).trans q
    have hle : h0.objs.size ≤ s.heap.objs.size := by
      have := Nat.le_of_lt (Nat.lt_of_le_of_lt h1 hSl)
      exact this
    refine ih (i + 1) { s with heap := h'.update S (Obj.mapSeq (·.push (.ref s.heap.objs.size))), toks := tk + 1 } (acc.push (.ref s.heap.objs.size)) _ (Ts ++ [s.heap.objs.size]) (by omega) hlt ?_ ?_ (Heap.get?_update_self _ hS' rfl) ?_ (by rw [List.length_append, hl]; rfl) fun h2' tk2 acc' c' Ts' q1 q2 q3 => hR h2' tk2 acc' c' Ts' q1 q2 q3
    · have e1 : (((i + 1 : Nat)) : Int) = (i : Int) + 1 := by omega
      rw [e1]
      rcases he' with ⟨old, z⟩ | ⟨old, T, f, oT, z, z1, z2, z3, z4⟩
      · exact .inl ⟨old, up e _ (Ne.symm hSe) z⟩
      · exact .inr ⟨old, T, f, oT, up e _ (Ne.symm hSe) z, up T _ z4 z1, z2, z3, z4⟩
    · exact D.frame _ _ _ hst' fun b hb o q => up b o (fun z => by
        rw [z] at hb
        rcases List.mem_cons.mp hb with y | y
        · exact hSi y
        · exact htS (List.mem_singleton.mp y).symm) q
    · have ok2 := ok.keep (h' := h'.update S (Obj.mapSeq (·.push (.ref s.heap.objs.size)))) h1 h2 h3 fun b o b1 b2 b3 q => up b o b1 (hkp b o b2 b3 q)
      refine ⟨?_, ?_, fun j T q => ?_, ok2.base⟩
      · rw [Array.toList_push, ok.acc, List.map_append]
        rfl
      · rw [List.nodup_append]
        refine ⟨ok.nd, by simp, fun a ha b hb => ?_⟩
        rw [List.mem_singleton] at hb
        subst hb
        obtain ⟨j, hj⟩ := List.mem_iff_getElem?.mp ha
        obtain ⟨_, _, _, _, tk', v, _, e2⟩ := ok.tup j a hj
        exact Nat.ne_of_lt (Heap.lt_size e2)
      · by_cases hj : j < Ts.length
        · rw [List.getElem?_append_left hj] at q
          exact ok2.tup j T q
        · have hj' : j = Ts.length := by
            have := (List.getElem?_eq_some_iff.mp q).1
            rw [List.length_append] at this
            simp at this
            omega
          subst hj'
          rw [List.getElem?_append_right (Nat.le_refl _)] at q
          simp at q
          subst q
          refine ⟨hle, Nat.ne_of_gt hSl, Nat.ne_of_gt hel, Nat.ne_of_gt hil, tk, x, by rw [hl]; exact hx, ?_⟩
          rw [hl]
          exact up _ _ (Nat.ne_of_gt hSl) hT
theorem en_no_len : typeLookup (.type "enumerate") "__len__" = pure none := am_miss_of_fast (by decide +kernel)
theorem en_no_hint : typeLookup (.type "enumerate") "__length_hint__" = pure none := am_miss_of_fast (by decide +kernel)
/-- list(e) of an enumerate just made over the tuple at t -/
theorem call_list_en {e it t : Addr} {items : Array Value} {h0 : Heap} {Q : Value → Shared → Prop} (hh : A.handled = none) (hsz : items.size ≤ sizeLine) (h2 : h0.objs.size ≤ e) (h3 : h0.objs.size ≤ it) (ht : t < h0.objs.size) (hei : e ≠ it) (he : IsEnum s.heap e it 0 .none) (hst : s.heap.IsTupleIter it t 0 ∧ s.heap.IsTuple t items)
    (hb : ∀ b o, h0.get? b = some o → s.heap.get? b = some o) (h1 : h0.objs.size ≤ s.heap.objs.size)
    (hQ : ∀ S h' tk acc c Ts, h0.objs.size ≤ S → h'.get? S = some { cls := .type "list", dict := none, data := .seq acc c, slots := #[] } → DrOk h0 h' S e it items acc Ts → Ts.length = items.size → Q (.ref S) { s with heap := h', toks := tk }) :
    wpAny (model prog w) A (call (.type "list") [.ref e]) Q E s := by
  have hel : e < s.heap.objs.size := Heap.lt_size he
  have hil : it < s.heap.objs.size := by obtain ⟨⟨o, q, _⟩, _⟩ := hst; exact Heap.lt_size q
  have hSe : s.heap.objs.size ≠ e := Nat.ne_of_gt hel
  have hSi : s.heap.objs.size ≠ it := Nat.ne_of_gt hil
  refine callType_codes (Q₁ := fun obj s₁ => obj = .ref s.heap.objs.size ∧ s₁ = { s with heap := s.heap.push { cls := .type "list", data := .seq #[] } }) F.called_list (F.typeCall_list_1 _) F.entry_list_init
    (code_list_new _ ⟨rfl, rfl⟩) fun obj s₁ h₁ => ?_
  obtain ⟨rfl, rfl⟩ := h₁
  have hS : (s.heap.push { cls := .type "list", data := .seq #[] }).get? s.heap.objs.size = some { cls := .type "list", data := .seq #[] } := Heap.get?_push_size _ rfl
  refine ⟨⟨_, hS, rfl⟩, F.args_list_init_2 _ _, ?_⟩
  show wpAny _ A.in1.in1 (do let old ← Builtin.List.listItems (.ref s.heap.objs.size); Builtin.List.listUpdate (.ref s.heap.objs.size) (fun _ => #[]); letGo old.toList.reverse; Builtin.List.listExtendWith (.ref s.heap.objs.size) (.ref e) .none) _ _ _
  refine wpAny_bind ?_
  unfold Builtin.List.listItems
  refine wpAny_bind (wpAny_seqItems hS rfl (wpAny_pure ?_))
  show wpAny _ A.in1.in1 (updateSeq s.heap.objs.size (fun _ => #[]) >>= fun _ => letGo (#[] : Array Value).toList.reverse >>= fun _ => Builtin.List.listExtendWith (.ref s.heap.objs.size) (.ref e) .none) _ _ _
  refine wpAny_bind (wpAny_updateSeq hS rfl ?_)
  have hS2 := Heap.get?_update_self (Obj.mapSeq (fun _ => (#[] : Array Value))) hS rfl
  refine wpAny_bind (wpAny_letGo ?_)
  unfold Builtin.List.listExtendWith
  have up : ∀ (h : Heap) (f : Obj → Obj), (∀ b o, s.heap.get? b = some o → h.get? b = some o) → ∀ b o, s.heap.get? b = some o → (h.update s.heap.objs.size f).get? b = some o := fun h f q b o e =>
    (Heap.get?_update_other _ _ (Ne.symm (Nat.ne_of_lt (Heap.lt_size e)))).trans (q b o e)
  have k1 : ∀ b o, s.heap.get? b = some o → (s.heap.push { cls := .type "list", data := .seq #[] }).get? b = some o := fun b o e => Heap.get?_push_of_some _ e
  have k2 := up _ (Obj.mapSeq (fun _ => (#[] : Array Value))) k1
  have gty : ∀ {h : Heap}, (∀ b o, s.heap.get? b = some o → h.get? b = some o) → ({ s with heap := h } : Shared).TypeIs (.ref e) "enumerate" := fun {h} q => ⟨_, q _ _ he, rfl⟩
  refine wpAny_bind (wpAny_typeOf (gty k2) ?_)
  have g1 : Builtin.List.listSameRef (.ref s.heap.objs.size) (.ref e) = false := by simp [Builtin.List.listSameRef, hSe]
  have g2 : (Value.type "enumerate" == Value.type "list") = false := by decide
  have g3 : (Value.type "enumerate" == Value.type "tuple") = false := by decide
  simp only [g1, g2, g3, Bool.or_false, Bool.false_eq_true, if_false]
  refine wpAny_bind (wpAny_pyIter_enum (s := { s with heap := _ }) (k2 _ _ he) ?_)
  refine wpAny_bind (wpAny_holding ?_)
  unfold Builtin.List.listLengthHint
  refine wpAny_bind (wpAny_specialOf (gty k2) en_no_len ?_)
  show wpAny _ A.in1.in1 (specialOf (Value.ref e) (Str.ofString "__length_hint__") >>= _) _ _ _
  refine wpAny_bind (wpAny_specialOf (gty k2) en_no_hint ?_)
  refine wpAny_pure ?_
  show wpAny _ A.in1.in1 (rule "list.extend.makes-room" >>= fun _ => Builtin.List.listTouch (.ref s.heap.objs.size) >>= fun _ =>
    again (.builtin "list.extend.loop" ⟨[.ref s.heap.objs.size, .ref e, .none], []⟩)) _ _ _
  refine wpAny_bind (wpAny_rule ?_)
  refine wpAny_bind ?_
  show wpAny _ A.in1.in1 (updateSeq s.heap.objs.size (·.push .none) >>= fun _ => updateSeq s.heap.objs.size (·.pop)) _ _ _
  refine wpAny_bind (wpAny_updateSeq hS2 rfl ?_)
  have hS3 := Heap.get?_update_self (Obj.mapSeq (·.push Value.none)) hS2 rfl
  refine wpAny_updateSeq (hz := by seq_fits) hS3 rfl ?_
  have hS4 := Heap.get?_update_self (Obj.mapSeq (·.pop)) hS3 rfl
  have k4 := up _ (Obj.mapSeq (·.pop)) (up _ (Obj.mapSeq (·.push Value.none)) k2)
  refine wpAny_pure ⟨plainId_quiet F.plain_extend_loop _, ?_⟩
  refine drainE (prog := prog) (w := w) (A := A.in1) (h0 := h0) (t := t) (items := items) hh hsz h1 h2 h3 ht hei hSe hSi items.size 0 _ #[] _ [] (by omega) (Nat.zero_le _) (.inl ⟨_, k4 _ _ he⟩) ⟨hst.1.at fun o q => k4 _ o q, hst.2.at fun o q => k4 _ o q⟩ (by simpa [Obj.mapSeq] using hS4) ⟨rfl, .nil, fun j T q => by simp at q, fun b o q => k4 b o (hb b o q)⟩ rfl
    fun h' tk acc' c' Ts' q1 q2 q3 => ⟨rfl, hQ _ h' tk acc' c' Ts' h1 q1 q2 q3⟩
end
theorem vals_refs : ∀ Ts : List Addr, Vals (Ts.map V.ref) (Ts.map Value.ref)
  | [] => .nil
  | _ :: r => .cons rfl (vals_refs r)
/-! ### the pairs laid -/
def layT : Hp → Int → List Addr → List V → Hp
  | H, i, T :: Ts, x :: xs => layT (upd H T (.tup [.int i, x])) (i + 1) Ts xs
  | H, _, _, _ => H
theorem layT_ne : ∀ {Ts : List Addr} {xs : List V} {H : Hp} {i : Int} {b : Addr}, b ∉ Ts → layT H i Ts xs b = H b
  | [], xs, H, i, b, h => by cases xs <;> rfl
  | T :: Ts, [], H, i, b, h => rfl
  | T :: Ts, x :: xs, H, i, b, h => by
    rw [List.mem_cons, not_or] at h
    show layT (upd H T _) (i + 1) Ts xs b = H b
    rw [layT_ne h.2, upd_ne h.1]
theorem layT_at : ∀ {Ts : List Addr} {xs : List V} {H : Hp} {i : Int} {j : Nat} {T : Addr} {x : V}, Ts.Nodup → Ts[j]? = some T → xs[j]? = some x → layT H i Ts xs T = some (.tup [.int (i + (j : Int)), x])
  | [], _, _, _, _, _, _, _, h, _ => by simp at h
  | _ :: _, [], _, _, _, _, _, _, _, h => by simp at h
  | T :: Ts, x :: xs, H, i, 0, T', x', nd, h1, h2 => by
    simp at h1 h2
    subst h1 h2
    rw [List.nodup_cons] at nd
    show layT (upd H T _) (i + 1) Ts xs T = _
    rw [layT_ne nd.1, upd_same, show i + ((0 : Nat) : Int) = i by omega]
  | T :: Ts, x :: xs, H, i, j + 1, T', x', nd, h1, h2 => by
    rw [List.nodup_cons] at nd
    show layT (upd H T _) (i + 1) Ts xs T' = _
    rw [layT_at nd.2 (by simpa using h1) (by simpa using h2), show i + 1 + (j : Int) = i + ((j + 1 : Nat) : Int) by omega]
theorem lay_rep {st : Store} : ∀ {Ts : List Addr} {ds : List D} {vs : List V} {W : Wo} {H : Hp} {i : Int}, SR W st H → RepL W ds vs → Ts.length = ds.length → Ts.Nodup → (∀ T ∈ Ts, H T = none) → ∃ W', Le W W' ∧ SR W' st (layT H i Ts vs) ∧ RepL W' (enumFrom i ds) (Ts.map V.ref)
  | [], [], vs, W, H, i, s, r, _, _, _ => by
    refine ⟨W, Le.refl W, ?_, .nil⟩
    cases vs <;> exact s
  | [], _ :: _, _, _, _, _, _, _, h, _, _ => by simp at h
  | _ :: _, [], _, _, _, _, _, _, h, _, _ => by simp at h
  | T :: Ts, d :: ds, vs, W, H, i, s, r, hl, nd, hf => by
    simp only [RepL] at r
    obtain ⟨v, vs, rfl, r1, r2⟩ := r
    rw [List.nodup_cons] at nd
    have hT := hf T (List.mem_cons_self ..)
    have lt := le_still (W := W) (o := .tup [.int i, v]) (s.free hT)
    obtain ⟨W', l, s', r'⟩ := lay_rep (i := i + 1) (s.tree hT (.tup [.int i, v])) (r2.mono lt) (by simpa using hl) nd.2 (fun T' h' => by
      rw [upd_ne (show T' ≠ T from fun z => nd.1 (z ▸ h'))]
      exact hf T' (List.mem_cons_of_mem _ h'))
    refine ⟨W', lt.trans l, s', .cons (Rep.mono l ?_) r'⟩
    simp only [Rep]
    exact ⟨T, [.int i, v], rfl, .inl (.inl upd_same), .cons repI (.cons (r1.mono lt) .nil)⟩
def tLE (K : PySem.W.Frag) (ta : TE) : TE := fun σ H Q => ta σ H fun x H1 => ∃ a xs, x = .ref a ∧ SqT K H1 a xs ∧ ∀ (S : Addr) (Ts : List Addr), Ts.length = xs.length → Ts.Nodup → (∀ T ∈ Ts, H1 T = none ∧ T ≠ S) → H1 S = none → Q (.ref S) (upd (layT H1 0 Ts xs) S (.lst (Ts.map V.ref)))
section
variable {X : Cx} {B : Bx} {a : Expr} {eva : Ev} {ta : TE}
theorem pe_lenum {p p2 pos pos2 : Pos} (hc : X.calm = true) (hg : Gl X "list") (hm : X.mg "list" = none) (hg2 : Gl X "enumerate") (hm2 : X.mg "enumerate" = none) (na : starEach [a] X.env = (false, eval a X.env) :: starEach [] X.env) (ha : PE X a ta) :
    PE X (.Call (.Name "list" p) [.Call (.Name "enumerate" p2) [a] [] pos2] [] pos) (tLE X.K ta) := by
  refine ⟨fun pins s σ H Q I h => ?_⟩
  have na2 : starEach [Expr.Call (.Name "enumerate" p2) [a] [] pos2] X.env = (false, eval (Expr.Call (.Name "enumerate" p2) [a] [] pos2) X.env) :: starEach [] X.env := rfl
  have inner : wpAny (model X.prog X.w) X.A (eval (Expr.Call (.Name "enumerate" p2) [a] [] pos2) X.env) (fun u s' => ∃ (s1 : Shared) (H1 : Hp) (h' : Heap) (t : Addr) (xs : List V) (its : List Value), u = .ref (s1.heap.objs.size + 1) ∧ s' = { s1 with heap := h' } ∧ L2.Inv X pins σ H1 s1 ∧ Vals xs its ∧ xs.length ≤ sizeLine ∧ IsTup s1.heap t its.toArray ∧
      IsEnum h' (s1.heap.objs.size + 1) s1.heap.objs.size 0 .none ∧ h'.get? s1.heap.objs.size = some { cls := .type "tuple_iterator", data := .fields #[.ref t, .int 0 0] } ∧ h'.objs.size = s1.heap.objs.size + 2 ∧ (∀ b o, s1.heap.get? b = some o → h'.get? b = some o) ∧
      ∀ (S : Addr) (Ts : List Addr), Ts.length = xs.length → Ts.Nodup → (∀ T ∈ Ts, H1 T = none ∧ T ≠ S) → H1 S = none → Q (.ref S) (upd (layT H1 0 Ts xs) S (.lst (Ts.map V.ref)))) X.xe s := by
    refine Call_ (ld_blt I hg2 hm2 boot_enumerate (PyProof.Rows.callWith_type1 (one_arg ha I h (fun v s2 x H2 I2 r q => ?_) na) na))
    obtain ⟨t, xs, ex, hq, q⟩ := q
    subst ex
    obtain rfl : v = Value.ref t := r
    obtain ⟨its, rv, ht, hz⟩ := I2.tuple hq
    exact enum_begins1 (begins_tuple t its.toArray) (show s2.heap.IsTuple t its.toArray from ht) fun h' e1 e2 e3 e4 => ⟨s2, H2, h', t, xs, its, rfl, rfl, I2, rv, hz, ht, e1, e2, e3, e4, q⟩
  refine Call_ (ld_blt I hg hm boot_list (PyProof.Rows.callWith_type1 (args_cons (thn inner fun u s' ⟨s1, H1, h', t, xs, its, eu, es, I1, rv, hz, ht, e1, e2, e3, e4, q⟩ => args_nil ?_) na2) na2))
  subst eu es
  have hxl := rv.length
  have htl : t < s1.heap.objs.size := by obtain ⟨o, ho, _⟩ := id ht; exact Heap.lt_size ho
  have ht2 : h'.IsTuple t its.toArray := (show s1.heap.IsTuple t its.toArray from ht).at fun o q => e4 t o q
  refine call_list_en (s := { s1 with heap := h' }) (h0 := s1.heap) (t := t) (items := its.toArray) (it := s1.heap.objs.size) (I1.ok.hd hc) (by rw [List.size_toArray, ← hxl]; exact hz) (Nat.le_succ _) (Nat.le_refl _) htl (Nat.succ_ne_self _) e1 ⟨⟨_, e2, rfl, rfl⟩, ht2⟩ e4 (by show _ ≤ h'.objs.size; rw [e3]; exact Nat.le_add_right _ _)
    fun S h2 tk acc c Ts hS hget ok hlen => ?_
  have hlen' : Ts.length = xs.length := by rw [hlen, List.size_toArray, hxl]
  have nS : H1 S = none := I1.hok.fresh hS
  have nT : ∀ T ∈ Ts, H1 T = none ∧ T ≠ S := fun T hT => by
    obtain ⟨j, hj⟩ := List.mem_iff_getElem?.mp hT
    obtain ⟨a1, a2, _⟩ := ok.tup j T hj
    exact ⟨I1.hok.fresh a1, a2⟩
  have oth : ∀ {b : Addr}, b ≠ S → b ∉ Ts → upd (layT H1 0 Ts xs) S (.lst (Ts.map V.ref)) b = H1 b := fun {b} b1 b2 => by rw [upd_ne b1, layT_ne b2]
  have tr : ∀ {b : Addr} {u : HO}, H1 b = some u → upd (layT H1 0 Ts xs) S (.lst (Ts.map V.ref)) b = some u := fun {b u} e => by
    rw [oth (fun z => by rw [z, nS] at e; cases e) (fun z => by rw [(nT b z).1] at e; cases e)]
    exact e
  refine ⟨.ref S, upd (layT H1 0 Ts xs) S (.lst (Ts.map V.ref)), ?_, rfl, q S Ts hlen' ok.nd nT nS⟩
  refine I1.un (h' := h2) (t' := tk) ⟨fun b o e _ _ _ => ok.base b o e, fun b o e _ _ _ => ⟨o.slots, ok.base b o e⟩, fun b o e n _ => ?_, fun b o e _ => ⟨o, ok.base b o e⟩, fun b ys e => tr e, fun b o y e => tr e, fun b ps e => ⟨#[], by rw [Array.append_empty]; exact tr e⟩⟩ fun b u e => ?_
  · have hb := Heap.lt_size e
    rw [oth (fun z => absurd (z ▸ hb) (Nat.not_lt.mpr hS)) (fun z => by
      obtain ⟨j, hj⟩ := List.mem_iff_getElem?.mp z
      exact absurd hb (Nat.not_lt.mpr (ok.tup j b hj).1))]
    exact n
  · by_cases hb : b = S
    · subst hb
      rw [upd_same] at e
      cases e
      refine ⟨by rw [List.length_map, hlen']; exact hz, acc.toList, c, ?_, by simpa using hget⟩
      rw [ok.acc]
      exact vals_refs Ts
    · rw [upd_ne hb] at e
      by_cases hT : b ∈ Ts
      · obtain ⟨j, hj⟩ := List.mem_iff_getElem?.mp hT
        obtain ⟨_, _, _, _, tk', x, e1', e2'⟩ := ok.tup j b hj
        have hj2 : j < xs.length := by rw [← hlen']; exact (List.getElem?_eq_some_iff.mp hj).1
        obtain ⟨y, ey⟩ := getE hj2
        obtain ⟨x', ex', rx⟩ := rv.get ey
        have : x' = x := by
          have : its[j]? = some x := by simpa using e1'
          rw [ex'] at this
          cases this
          rfl
        subst this
        rw [layT_at ok.nd hj ey] at e
        cases e
        refine ⟨by show 2 ≤ sizeLine; decide, [.int (j : Int) tk', x'], .cons ⟨tk', by rw [Int.zero_add]⟩ (.cons rx .nil), ⟨_, e2', rfl, _, rfl⟩⟩
      · rw [layT_ne hT] at e
        exact (I1.hok b u e).stay (fun b' u' _ q' => ok.base b' u' q') (fun b' q' => tr q') fun b' ys q' => tr q'
theorem e_lenum {nm nm2 : Str} {p p2 pos pos2 : Pos} (hc : X.calm = true) (hK : B.K = X.K) (h1 : nm = "list") (h2 : nm2 = "enumerate") (hg : Gl X nm) (hm : X.mg nm = none) (hg2 : Gl X nm2) (hm2 : X.mg nm2 = none) (hs : isStar a = false) (ha : PE X a (tE B eva)) :
    PE X (.Call (.Name nm p) [.Call (.Name nm2 p2) [a] [] pos2] [] pos) (tE B fun sl st => (eva sl st).bind fun x st1 => match x with
    | .tup xs => .ok (.lst (enumFrom 0 xs)) st1
    | _ => .stuck) := by
  subst h1 h2
  refine PE.imp (pe_lenum hc hg hm hg2 hm2 (star_cons hs) ha) fun σ H Q ⟨W, sl, st, k1, k2, k3, k4, k5⟩ => ?_
  refine tE_then k1 k2 k3 k4 k5 fun x st1 W1 H1 v m1 m2 m3 m4 r l q => ?_
  cases x with
  | tup ds =>
    obtain ⟨t, vs, rfl, hq, rq⟩ := asT_V m4 r
    rw [m1, hK] at hq
    refine ⟨t, vs, rfl, hq, fun S Ts hl nd hf hS => ?_⟩
    obtain ⟨W2, l2, s2, r2⟩ := lay_rep (i := 0) m4 rq (by rw [hl, rq.length]) nd fun T hT => (hf T hT).1
    have q2 := Post.mono l2 q
    exact post_lst s2 r2 q2 S (by rw [layT_ne fun z => (hf S z).2 rfl]; exact hS)
  | _ => exact q.elim
end
/-! ### for i, x in enumerate(xs) -/
theorem enumFrom_get : ∀ {xs : List D} {k : Int} {i : Nat} {d : D}, xs[i]? = some d → (enumFrom k xs)[i]? = some (.tup [.int (k + i), d])
  | [], _, _, _, h => by simp at h
  | x :: xs, k, 0, d, h => by
    simp at h
    subst h
    simp [enumFrom]
  | x :: xs, k, i + 1, d, h => by
    have := enumFrom_get (xs := xs) (k := k + 1) (i := i) (d := d) (by simpa using h)
    simp only [enumFrom, List.getElem?_cons_succ]
    rw [this]
    congr 3
    simp
    omega
theorem enumFrom_len : ∀ {xs : List D} {k : Int}, (enumFrom k xs).length = xs.length
  | [], _ => rfl
  | x :: xs, k => by
    simp only [enumFrom, List.length_cons]
    rw [enumFrom_len]
def iEnumM (K : PySem.W.Frag) (ta : TA) : TI := fun σ H R => ta σ H fun vs H1 => ∃ t a xs, vs = [.ref a] ∧ SqM t K H1 a xs ∧ R (IteM t K a) H1
theorem pi_enumM {X : Cx} {e : Expr} {ta : TA} {p pos tpos : Pos} {elts : List Expr} {kk : Nat} (hg : Gl X "enumerate") (hm : X.mg "enumerate" = none) (ha : PA X [e] ta) (hs : starEach [e] X.env = [(false, eval e X.env)] := by rfl) :
    PI X (.Tuple elts kk tpos) (.Call (.Name "enumerate" p) [e] [] pos) (iEnumM X.K ta) := by
  refine ⟨fun pins s σ H R I h => ?_⟩
  refine Call_ (ld_blt I hg hm PyProof.Rows.boot_enumerate (PyProof.Rows.callWith_type1 (thn (ha.run pos pins s σ H _ I h) fun us s1 ⟨vs, H1, I1, r1, q1⟩ => ?_) hs rfl))
  obtain ⟨t, a, xs, ex, hq, q⟩ := q1
  subst ex
  cases r1 with
  | cons r rr =>
    cases rr
    cases r
    obtain ⟨its, rv, p', la⟩ := inv_seqM I1 hq
    refine enum_begins1 (begM t a its.toArray) p' fun h' he hit hsz hk => wpAny_pyIter_enum he ?_
    have I2 : Inv X pins σ H1 { s1 with heap := h' } := I1.kept (t' := s1.toks) hk
    refine ⟨s1.heap.objs.size + 1, [s1.heap.objs.size + 1, s1.heap.objs.size], _, _, H1, rfl, I2, turn_enumM a (s1.heap.objs.size + 1) s1.heap.objs.size (Nat.ne_of_lt (Nat.lt_succ_of_lt la)), ⟨⟨.none, he⟩, itM_new hit, Nat.succ_ne_self _⟩, fun b hb => ?_, q⟩
    have e' : b = s1.heap.objs.size + 1 ∨ b = s1.heap.objs.size := by simpa using hb
    have hle : s1.heap.objs.size ≤ b := by
      rcases e' with z | z
      · rw [z]; exact Nat.le_add_right _ _
      · rw [z]; exact Nat.le_refl _
    exact I1.fpOk hle (I1.hok.fresh hle)
section
variable {X : Cx} {B : Bx} {a : Expr} {pos : Pos} {eva : Ev}
theorem i_enum {nm : Str} {p tpos : Pos} {elts : List Expr} {kk : Nat} (hK : B.K = X.K) (hnm : nm = "enumerate") (hg : Gl X nm) (hm : X.mg nm = none) (hs : isStar a = false) (ha : PE X a (tE B eva)) :
    PI X (.Tuple elts kk tpos) (.Call (.Name nm p) [a] [] pos) (tI B fun sl st => (eva sl st).bind fun x st1 => match asQ x st1 with
    | some xs => .ok ⟨srcD x xs, enumFrom 0 xs⟩ st1
    | none => .stuck) := by
  subst hnm
  have hA : PA X [a] (tA B fun sl st => (eva sl st).bind fun d st1 => (Res.ok (α := List D) [] st1).bind fun ds st2 => .ok (d :: ds) st2) := a_cons hs ha a_nil
  refine PI.imp (pi_enumM hg hm hA (by rw [star_cons hs]; rfl)) fun σ H R ⟨W, sl, st, h1, h2, h3, h4, h5⟩ => ?_
  refine ⟨W, sl, st, h1, h2, h3, h4, ?_⟩
  dsimp only at h5 ⊢
  cases hr : eva sl st with
  | stuck => rw [hr] at h5; exact h5.elim
  | exc C fs st' => rw [hr] at h5; exact h5
  | ok x st1 =>
    rw [hr, Res.bind_ok] at h5
    rw [Res.bind_ok, Res.bind_ok]
    intro W1 H1 vs l1 s1 r1
    obtain ⟨v, rfl, rv⟩ := repL1 r1
    have eK : W1.K = X.K := (l1.K.trans h1).trans hK
    cases hx : asQ x st1 with
    | none => rw [hx] at h5; exact h5.elim
    | some xs =>
      rw [hx] at h5
      obtain ⟨t, p1, rfl, f1⟩ := seqM_V s1 eK rv hx
      have ok0 : srcOk (srcD x xs) st1 = true := by
        cases x <;> first | rfl | skip
        rename_i n
        have e' : lstAt st1 n = some xs := hx
        have e2 : st1[n]? = some (.lst xs) := by
          unfold lstAt at e'
          split at e'
          · rename_i ys q
            cases e'
            exact q
          · cases e'
        simp [srcOk, srcD, e2]
      obtain ⟨vx, z1, _⟩ := f1 W1 st1 H1 ⟨rfl, rfl, Still.refl _, fun _ _ h => h⟩ s1 ok0
      refine ⟨t, p1, vx, rfl, z1, h5 W1 H1 _ l1 s1 ?_⟩
      intro W' st' H' l s ok i
      obtain ⟨vx, y1, rq1⟩ := f1 W' st' H' l s ok
      have e1 := rq1.length
      refine ⟨fun hi => ?_, fun hi => ?_⟩
      · have hi' : i < xs.length := by
          have : i < (enumFrom 0 xs).length := hi
          rwa [enumFrom_len] at this
        obtain ⟨dx, ex⟩ := getE hi'
        obtain ⟨wx, fx, rx⟩ := rq1.get ex
        refine ⟨⟨vx, wx, y1, fx⟩, fun x H2 q => ?_⟩
        obtain ⟨T, x', rfl, hT, rfl, g1⟩ := q
        have j1 := g1 _ y1
        rw [fx] at j1
        cases j1
        have lt := le_still (o := .tup [.int (i : Nat), wx]) (s.free hT)
        refine ⟨W'.still T (.tup [.int (i : Nat), wx]), .tup [.int (i : Nat), dx], lt, s.tree hT _, ?_, ?_⟩
        · have := enumFrom_get (k := 0) ex
          rw [Int.zero_add] at this
          exact this
        · simp only [Rep]
          exact ⟨T, [.int (i : Nat), wx], rfl, .inl (.inl upd_same), .cons repI (.cons (rx.mono lt) .nil)⟩
      · have hi' : i = (enumFrom 0 xs).length := hi
        rw [enumFrom_len] at hi'
        exact ⟨vx, y1, by omega⟩
end
end TM
set_option maxHeartbeats 4000000
/-! TM, part V: the set of a list of texts, its length, its members in order. -/
namespace TM
open PySem PySem.Spec PyProof.Rows L2
open PySem.Froz (SD sObj TxOk addTx tailTx add_x add_ok is_str upd_const get_upd)
/-- a set of the texts l stands at a; its table can be walked -/
structure TxS (P : Program) (w : World) (h : Heap) (a : Addr) (l : List Str) (D : SD) : Prop where
  here : h.get? a = some (sObj "set" D)
  ok : TxOk P w D l
  nd : l.Nodup
  ris : Ris D.2.2.place.toList
  led : w.params.followText "set-order" = true ∨ D.2.2.led = true
section
variable {P : Program} {w : World} {A : Around} {E : Value → Shared → Prop} {s : Shared} {a : Addr} {l : List Str} {D : SD}
theorem TxS.kept {h h' : Heap} (R : TxS P w h a l D) (k : ∀ o, h.get? a = some o → h'.get? a = some o) : TxS P w h' a l D := ⟨k _ R.here, R.ok, R.nd, R.ris, R.led⟩
theorem tail_ris {ep : Nat} {es : Array (Int × Value)} {t : SetTable} {b : Bool} (r : Ris t.place.toList) : Ris (tailTx ep es t b).2.2.place.toList := by
  unfold tailTx
  by_cases c : (!b && t.tooFull) = true
  · rw [if_pos c]
    exact relayAll_ris _ _ _
  · rw [if_neg c]
    exact r
theorem tail_led {ep : Nat} {es : Array (Int × Value)} {t : SetTable} {b : Bool} (r : t.led = true) : (tailTx ep es t b).2.2.led = true := by
  unfold tailTx
  by_cases c : (!b && t.tooFull) = true
  · rw [if_pos c]
    exact (relayAll_led _ _ _).trans r
  · rw [if_neg c]
    exact r
theorem add_ris {h : Int} {v : Value} (r : Ris D.2.2.place.toList) : Ris (addTx h v D).2.2.place.toList := by
  have q := layNew_ris D.2.2 D.1 h v r
  unfold addTx
  refine tail_ris ?_
  by_cases c : (layNew D.2.2 D.1 h v).2.1.plain = true
  · rw [if_pos c]
    exact q
  · rw [if_neg c]
    exact q
theorem add_led {h : Int} {v : Value} (r : w.params.followText "set-order" = true ∨ D.2.2.led = true) : w.params.followText "set-order" = true ∨ (addTx h v D).2.2.led = true := by
  refine r.imp id fun z => ?_
  have q := (layNew_led D.2.2 D.1 h v).trans z
  unfold addTx
  refine tail_led ?_
  by_cases c : (layNew D.2.2 D.1 h v).2.1.plain = true
  · rw [if_pos c]
    exact q
  · rw [if_neg c]
    exact q
theorem txs_add {k : Str} {u : Tok} {Q : Bool → Shared → Prop} (R : TxS P w s.heap a l D) (room : l.length + 1 < scanBound)
    (h : ∀ b h' D', (∀ c o, c ≠ a → s.heap.get? c = some o → h'.get? c = some o) → TxS P w h' a (if k ∈ l then l else k :: l) D' → Q b { s with heap := h' }) : wpAny (model P w) A (setAddHashed a (.str k u) (hashStr w k)) Q E s := by
  by_cases hk : k ∈ l
  · have q := h false s.heap D (fun c o _ e => e) (by rw [if_pos hk]; exact R)
    obtain ⟨es, ep, t⟩ := D
    have hel : ElemsOf (PySem.strKind P w) es.toList := R.ok.el
    have hsz : es.size = l.length := R.ok.sz
    have hd : (sObj "set" (es, ep, t)).data = .set es ep t := rfl
    unfold setAddHashed setAddHashedIn
    refine wpAny_holding (wpAny_bind (wpAny_setState_of R.here hd R.ok.fit ?_))
    show wpAny _ _ _ _ _ _
    dsimp only
    rw [byScan_of (x := Value.str k u) rfl (by omega) hel]
    simp only [↓reduceIte]
    unfold setAddByScan
    refine wpAny_bind (wpAny_bind (wpAny_rule (wpAny_bind (wpAny_setScan_of (knd := PySem.strKind P w) (k := k) (is_str k u) R.here hd R.ok.fit hel ?_))))
    obtain ⟨e, he, z⟩ := (R.ok.mem k).mp hk
    cases hr : List.findIdx? (fun e => (PySem.strKind P w).is k e.2) es.toList with
    | none => exact absurd z (by simpa using List.findIdx?_eq_none_iff.mp hr e he)
    | some j =>
      dsimp only
      exact wpAny_pure (wpAny_pure q)
  · refine add_x R.here R.ok hk room (h true _ (addTx (hashStr w k) (.str k u) D) (fun c o hc e => PySem.Heap.get?_update_of_ne _ (Ne.symm hc) e) ?_)
    rw [if_neg hk]
    exact ⟨get_upd _ R.here rfl, add_ok u R.ok, List.nodup_cons.mpr ⟨hk, R.nd⟩, add_ris R.ris, add_led R.led⟩
theorem foldl_seen : ∀ (xs l : List Str), l.Nodup → (xs.foldl (fun l k => if k ∈ l then l else k :: l) l).Nodup ∧ ∀ k, k ∈ xs.foldl (fun l k => if k ∈ l then l else k :: l) l ↔ k ∈ l ∨ k ∈ xs
  | [], l, h => ⟨h, fun k => by simp⟩
  | x :: xs, l, h => by
    rw [List.foldl_cons]
    by_cases hx : x ∈ l
    · rw [if_pos hx]
      obtain ⟨h1, h2⟩ := foldl_seen xs l h
      refine ⟨h1, fun k => (h2 k).trans ?_⟩
      rw [List.mem_cons]
      constructor
      · exact fun q => q.imp id .inr
      · rintro (q | q | q)
        · exact .inl q
        · exact .inl (q ▸ hx)
        · exact .inr q
    · rw [if_neg hx]
      obtain ⟨h1, h2⟩ := foldl_seen xs (x :: l) (List.nodup_cons.mpr ⟨hx, h⟩)
      refine ⟨h1, fun k => (h2 k).trans ?_⟩
      rw [List.mem_cons, List.mem_cons]
      constructor
      · rintro ((q | q) | q)
        · exact .inr (.inl q)
        · exact .inl q
        · exact .inr (.inr q)
      · rintro (q | q | q)
        · exact .inl (.inr q)
        · exact .inl (.inl q)
        · exact .inr q
theorem seen_nodup (xs : List Str) : (seen xs).Nodup := (foldl_seen xs [] List.nodup_nil).1
theorem mem_seen {xs : List Str} {k : Str} : k ∈ seen xs ↔ k ∈ xs := ((foldl_seen xs [] List.nodup_nil).2 k).trans (by simp)
theorem seen_len_le : ∀ (xs l : List Str), (xs.foldl (fun l k => if k ∈ l then l else k :: l) l).length ≤ l.length + xs.length
  | [], l => Nat.le_refl _
  | x :: xs, l => by
    have := seen_len_le xs (if x ∈ l then l else x :: l)
    rw [List.foldl_cons, List.length_cons]
    split at this
    · rw [if_pos ‹_›]; omega
    · rw [if_neg ‹_›]; rw [List.length_cons] at this; omega
theorem txs_loop {I : Addr} {fp wr : List Addr} {G : Array GenState → Array GenState → Prop} {n : Nat} {Pv : Nat → Value → Prop} {St : Nat → Shared → Prop} {R : Result → Shared → Prop}
    (W : WalksS P w A.in1 I fp wr G n Pv St) (S : Addr) (nf : S ∉ fp) (xs : List Str) (hn : n = xs.length) (hb : xs.length + 1 < scanBound) (val : ∀ i v, Pv i v → ∃ k t, xs[i]? = some k ∧ v = .str k t) :
    ∀ (m i : Nat) (s : Shared) (D : SD), n - i = m → i ≤ n → St i s → TxS P w s.heap S (seen (xs.take i)) D →
      (∀ s' D', Moved (S :: wr) G s s' → TxS P w s'.heap S (seen xs) D' → R (.ok (.ret .none)) s') →
      codeAny (model P w) A (.builtin "set.update.loop" ⟨[.ref S, .ref I], []⟩) R s := by
  have nw : S ∉ wr := fun h => nf (W.sub _ h)
  have sub : ∀ b ∈ wr, b ∈ S :: wr := fun b hb => List.mem_cons_of_mem _ hb
  intro m
  induction m with
  | zero =>
    intro i s D e hi hst T hR
    obtain rfl : i = n := by omega
    refine codeAny_builtin F.entry_set_update_loop ?_
    rw [Around.under_plainId F.plain_set_update_loop _]
    refine wpAny_bind (m := pyNext (.ref I)) (W.done s _ _ hst fun s' hm => wpAny_pure (hR s' D (hm.mono sub) ?_))
    have q := T.kept (h' := s'.heap) fun o e => hm.heap S o nw e
    rwa [List.take_of_length_le (by omega)] at q
  | succ m ih =>
    intro i s D e hi hst T hR
    have lt : i < n := by omega
    refine codeAny_builtin F.entry_set_update_loop ?_
    rw [Around.under_plainId F.plain_set_update_loop _]
    refine wpAny_bind (m := pyNext (.ref I)) (W.item i s _ _ lt hst fun v s1 hP hst1 hm => ?_)
    obtain ⟨z, t, hz, rfl⟩ := val i v hP
    have T1 := T.kept (h' := s1.heap) fun o e => hm.heap S o nw e
    refine wpAny_bind (m := holding [Value.str z t] (setAdd S (.str z t))) (wpAny_holding ?_)
    unfold setAdd
    have room : (seen (xs.take i)).length + 1 < scanBound := by
      have := seen_len_le (xs.take i) []
      rw [List.length_take, List.length_nil] at this
      show (seen (xs.take i)).length + 1 < scanBound
      unfold seen
      omega
    refine wpAny_holding (wpAny_bind ((PySem.strKind P w).pyHash (k := z) (is_str z t) (txs_add (s := { s1 with toks := s1.toks + 1 }) T1 room fun b h' D' sb T2 => ?_)))
    have T3 : TxS P w h' S (seen (xs.take (i + 1))) D' := by
      have e : seen (xs.take (i + 1)) = if z ∈ seen (xs.take i) then seen (xs.take i) else z :: seen (xs.take i) := by
        rw [List.take_add_one, hz]
        unfold seen
        rw [List.foldl_append]
        rfl
      rw [e]
      exact T2
    refine wpAny_pure ⟨plainId_quiet F.plain_set_update_loop _, ih (i + 1) _ D' (by omega) lt (W.frame _ s1 _ _ hst1 (Nat.le_succ _) fun b hb o e => ?_) T3 fun s2 D2 hm2 T4 => ?_⟩
    · exact sb b o (fun h => nf (h ▸ hb)) e
    · exact hR s2 D2 (Moved.trans W.gtrans ((hm.mono sub).then_heap (Nat.le_succ _) fun b o hb e => sb b o (fun h => hb (by rw [h]; exact List.mem_cons_self)) e) hm2) T4
/-- set(l), a list of texts -/
theorem call_set_txt {p : Addr} {items : Array Value} {xs : List Str} {Q : Value → Shared → Prop} (hh : A.handled = none) (hl : s.heap.IsList p items) (hi : StrsAre items.toList xs) (hb : xs.length + 1 < scanBound)
    (h : ∀ (h' : Heap) (tk : Nat) (D : SD), TxS P w h' s.heap.objs.size (seen xs) D → (∀ b o, s.heap.get? b = some o → h'.get? b = some o) → Q (.ref s.heap.objs.size) { s with heap := h', toks := tk }) :
    wpAny (model P w) A (call (.type "set") [.ref p]) Q E s := by
  have isz : items.size = xs.length := by rw [← StrsAre.len_eq hi, Array.length_toList]
  obtain ⟨c, tl, mro⟩ := F.called_set.mro
  have made := F.called_set.made
  have csub := F.called_set.sub
  refine wpAny_call (codeAny_of_tree ?_)
  show wpAny _ _ (callAny (.type "set") _) _ _ _
  refine wpAny_pure ⟨Code.quiet_builtin _ (by decide +kernel), codeAny_builtin F.entry_type_call ?_⟩
  rw [Around.under_plain (weight_type_call_type "set" [.ref p] []) rfl]
  have g1 := F.called_set.notType
  have g2 := F.called_set.canCreate
  have g3 := F.typeCall_set_1 (.ref p)
  repeat (any_goals (first | assumption | wp_step))
  let N : Obj := sObj "set" (#[], 0, .fresh 0 0 (!w.params.followText "set-order"))
  refine codeAny_mono (code_set_led1 (.ref p) (E := E) (Q₁ := fun obj s₁ => obj = .ref s.heap.objs.size ∧ s₁ = { s with heap := s.heap.push N }) ⟨rfl, rfl⟩) fun r s₁ hr => ?_
  match r, hr with
  | .error e, hr => exact hr
  | .ok (.ret obj), hr =>
    obtain ⟨rfl, rfl⟩ := hr
    have hS : (s.heap.push N).get? s.heap.objs.size = some N := Heap.get?_push_size _ rfl
    have hT : Shared.TypeIs { s with heap := s.heap.push N } (.ref s.heap.objs.size) "set" := ⟨_, hS, rfl⟩
    have g4 := F.called_set.init.lookup
    have g5 := F.called_set.init.bind (.ref s.heap.objs.size)
    repeat (any_goals (first | assumption | wp_step))
    refine codeAny_mono (codeAny_call_builtin (R := wants (fun r s₂ => r = .none ∧ ∃ h' tk D, s₂ = { s with heap := h', toks := tk } ∧ TxS P w h' s.heap.objs.size (seen xs) D ∧ (∀ b o, s.heap.get? b = some o → h'.get? b = some o)) E)
      F.called_set.init.plain F.entry_set_init (check_set_init_1 hT ?_)) fun r₂ s₂ hr₂ => ?_
    · obtain ⟨⟨oc, od, dt, os⟩, hol, hcl, nl, hdl⟩ := hl
      simp only at hcl hdl
      subst hcl hdl
      have hol' : (s.heap.push N).get? p = some { cls := .type "list", dict := od, data := .seq items nl, slots := os } := Heap.get?_push_of_some _ hol
      have k1 := F.sub_list_set
      have k2 := F.sub_list_frozenset
      have k3 : (Value.type "list" == Value.type "dict") = false := by decide
      have hl1 : (s.heap.push N).IsList p items := ⟨_, hol', rfl, nl, rfl⟩
      unfold Builtin.«set.__init__» noKeywords Builtin.Frozenset.updateFrom
      generalize hPI : pyIter = PI
      wp_walk
      subst hPI
      refine wpAny_pyIter_list hl1 (wpAny_bind (wpAny_runValue ?_))
      have lt := Heap.lt_size hol
      have hz : (s.heap.push N).objs.size = s.heap.objs.size + 1 := Heap.size_push ..
      have val : ∀ (i : Nat) (v : Value), items[i]? = some v → ∃ k t, xs[i]? = some k ∧ v = .str k t := fun i v hv => by
        have hi' : i < xs.length := by rw [← isz]; exact (Array.getElem?_eq_some_iff.mp hv).1
        obtain ⟨t, e⟩ := SS.strs_at hi i v (by rw [Array.getElem?_toList]; exact hv)
        refine ⟨xs[i], t, List.getElem?_eq_getElem hi', ?_⟩
        rw [e, List.getD_eq_getElem?_getD, List.getElem?_eq_getElem hi'] <;> rfl
      refine txs_loop ((Walks.list (A := A.in1.in1.in1) (by simp [hh]) _ p (by rw [hz]; exact Nat.ne_of_lt (Nat.lt_succ_of_lt lt)) items).toS) s.heap.objs.size (by rw [hz]; simp only [List.mem_cons, List.not_mem_nil, or_false, not_or]; exact ⟨Nat.ne_of_lt (Nat.lt_succ_self _), Nat.ne_of_gt lt⟩)
        xs isz hb val (items.size - 0) 0 _ (#[], 0, .fresh 0 0 (!w.params.followText "set-order")) rfl (Nat.zero_le _) ⟨⟨_, Heap.get?_push_size _ rfl, rfl, rfl⟩, hl1.push _⟩ ⟨Heap.get?_push_of_some _ hS, TxOk.nil rfl, List.nodup_nil, List.Pairwise.nil, ?_⟩ ?_
      · show _ ∨ (!w.params.followText "set-order") = true
        cases w.params.followText "set-order"
        · exact .inr rfl
        · exact .inl rfl
      · intro s' D' hm T
        obtain ⟨h', g2, d', tk', os'⟩ := s'
        obtain rfl : g2 = s.gens := hm.gens
        obtain rfl : d' = s.drawn := hm.drawn
        obtain rfl : os' = s.os := hm.os
        show wpAny _ _ _ _ _ _
        refine wpAny_pure (wpAny_pure ⟨rfl, h', tk', D', rfl, T, fun b o e => ?_⟩)
        have b0 := Heap.lt_size e
        exact hm.heap b o (by rw [hz]; simp only [List.mem_cons, List.not_mem_nil, or_false, not_or]; exact ⟨Nat.ne_of_lt b0, Nat.ne_of_lt (Nat.lt_succ_of_lt b0)⟩) (Heap.get?_push_of_some _ (Heap.get?_push_of_some _ e))
    · match r₂, hr₂ with
      | .error e, hr₂ => exact hr₂
      | .ok (.ret r), hr₂ =>
        obtain ⟨rfl, h', tk, D', rfl, T, k'⟩ := hr₂
        repeat (any_goals (first | assumption | wp_step))
        exact h _ _ _ T k'
end
end TM
set_option maxHeartbeats 4000000
/-! TM, part M, third: len(set(texts)), sorted(set(texts)), isinstance with a tuple of types, dict displays of constants. -/
namespace TM
open PySem PySem.Spec PyProof.Rows L2
theorem perm_same : ∀ {l xs : List Str}, l.Nodup → xs.length = l.length → (∀ k ∈ l, k ∈ xs) → xs.Perm l
  | [], xs, _, h, _ => by
    rw [List.length_nil] at h
    rw [List.eq_nil_of_length_eq_zero h]
  | x :: l, xs, nd, h, m => by
    obtain ⟨n1, n2⟩ := List.nodup_cons.mp nd
    have hx := m x List.mem_cons_self
    have p := List.perm_cons_erase hx
    have hl : (xs.erase x).length = l.length := by
      have := p.length_eq
      rw [List.length_cons] at this h
      omega
    refine p.trans (List.Perm.cons x (perm_same n2 hl fun k hk => ?_))
    exact (List.mem_erase_of_ne (fun e : k = x => n1 (e ▸ hk))).mpr (m k (List.mem_cons_of_mem _ hk))
section
variable {P : Program} {w : World} {A : Around} {E : Value → Shared → Prop} {s : Shared} {a : Addr} {l : List Str} {D : PySem.Froz.SD}
theorem str_of_is {k : Str} {v : Value} (h : (PySem.strKind P w).is k v = true) : ∃ t, v = .str k t := by
  cases v with
  | str x t =>
    have h' : Value.isStrOf k (.str x t) = true := h
    have e : x = k := by simpa [Value.isStrOf] using h'
    exact ⟨t, by rw [e]⟩
  | _ => exact absurd (show (false : Bool) = true from h) (by decide)
theorem call_sorted_txt {Q : Value → Shared → Prop} (R : TxS P w s.heap a l D) (hh : A.handled = none) (h60 : l.length < 60)
    (hQ : ∀ s' p (out : Array Value) (c : Nat), (∀ b o, s.heap.get? b = some o → s'.heap.get? b = some o) → s'.gens = s.gens → s'.os = s.os → s.heap.objs.size ≤ p → s'.heap.get? p = some (seqObj "list" out c) → StrsAre out.toList (sortS l) → Q (.ref p) s') :
    wpAny (model P w) A (call (.builtin "sorted") [.ref a]) Q E s := by
  have sz : D.1.size = l.length := R.ok.sz
  refine Calls.call_function_entry kind_sorted plain_sorted entry_sorted (args_sorted1 _) ?_
  unfold Builtin.«sorted»
  refine wpAny_bind (m := checkCount "sorted" 1 1 _) (wpAny_pure (wpAny_bind (collect_set (A := A.in1) hh ⟨_, R.here, rfl, rfl⟩ R.ok.fit (by rw [sz]; unfold scanBound; omega) R.ris R.led fun s1 vs k1 hz g1 o1 pm => ?_)))
  have vl : vs.length = l.length := by rw [pm.length_eq, List.length_map, Array.length_toList]; exact sz
  have all : ∀ v ∈ vs, ∃ x t, v = Value.str x t := fun v hv => by
    obtain ⟨e, he, q⟩ := List.mem_map.mp (pm.mem_iff.mp hv)
    obtain ⟨⟨k, z, _⟩, _⟩ := R.ok.el e he
    obtain ⟨t, et⟩ := str_of_is z
    exact ⟨k, t, by rw [← q, et]⟩
  have hS : StrsAre vs (vs.map strOf) := strsAre_map vs all
  have pk : (vs.map strOf).Perm l := perm_same R.nd (by rw [List.length_map]; exact vl) fun k hk => by
    obtain ⟨e, he, z⟩ := (R.ok.mem k).mp hk
    obtain ⟨t, et⟩ := str_of_is z
    exact List.mem_map.mpr ⟨e.2, pm.mem_iff.mpr (List.mem_map.mpr ⟨e, he, rfl⟩), by rw [et]; rfl⟩
  refine wpAny_bind (wpAny_newList ?_ (by rw [vl, sizeLine_eq]; omega))
  have hoL : (s1.heap.push (seqObj "list" vs.toArray 0)).get? s1.heap.objs.size = some (seqObj "list" vs.toArray 0) := Heap.get?_push_size _ rfl
  refine wpAny_bind (wpAny_holding (wpAny_call_entry slot_list_sort ⟨_, hoL, rfl⟩ entry_list_sort (list_sort_treeK strKind_oneLt hoL hS.keysOf (fun v₁ v₂ rest e => keyKind_strs (by rw [← e]; exact hS)) (by omega) fun st' hp hs => ⟨_, rfl, ?_⟩) (args_list_sort _)))
  obtain ⟨ss, h1, h2, h3⟩ := sorted_out_str hS hp hs
  obtain ⟨c, hc⟩ := sortedHeap_at (vs := vs) (out := (arrOf st').map (·.2)) hoL
  have e := sortS_one (h2.trans pk) h3
  rw [e] at h1
  refine wpAny_pure ⟨_, rfl, hQ _ s1.heap.objs.size _ c (fun b u e => ?_) g1 o1 hz hc h1⟩
  have q := k1 b u e
  have lt := Heap.lt_size q
  show (sortedHeap (s1.heap.push (seqObj "list" vs.toArray 0)) s1.heap.objs.size vs _).get? b = some u
  rw [sortedHeap_old (Nat.ne_of_lt lt) (by rw [size_push']; exact Nat.lt_succ_of_lt lt)]
  exact Heap.get?_push_of_some _ q
end
theorem strsAre_of' : ∀ {ys : List Str} {us : List Value}, Vals (ys.map V.str) us → StrsAre us ys
  | [], _, .nil => .nil
  | y :: ys, _, .cons r t => by
    obtain ⟨k, rfl⟩ := r
    exact .cons y k (strsAre_of' t)
/-- len(set(xs)), sorted(set(xs)), xs a list of texts -/
def tLSet (K : PySem.W.Frag) (srt : Bool) (ta : TE) : TE := fun σ H Q => ta σ H fun x H1 => ∃ l, ∃ xs : List Str, x = .ref l ∧ SqL K H1 l (xs.map V.str) ∧ xs.length < 60 ∧
  (if srt = true then ∀ p, H1 p = none → Q (.ref p) (upd H1 p (.lst ((sortS (seen xs)).map V.str))) else Q (.int (seen xs).length) H1)
def setNm (srt : Bool) : Str := if srt then "sorted" else "len"
theorem seen_le (xs : List Str) : (seen xs).length ≤ xs.length := by
  have := seen_len_le xs []
  rw [List.length_nil] at this
  unfold seen
  omega
section
variable {X : Cx} {B : Bx} {a : Expr} {ta : TE} {eva : Ev} {p p2 pos pos2 : Pos}
theorem boot_sorted' : bootBuiltins "sorted" = some (.builtin "sorted") := by decide +kernel
theorem boot_len' : bootBuiltins "len" = some (.builtin "len") := by decide +kernel
theorem boot_set' : bootBuiltins "set" = some (.type "set") := by decide +kernel
theorem pe_lset (srt : Bool) (hc : X.calm = true) (hg : Gl X (setNm srt)) (hm : X.mg (setNm srt) = none) (hg2 : Gl X "set") (hm2 : X.mg "set" = none) (na : starEach [a] X.env = (false, eval a X.env) :: starEach [] X.env) (ha : PE X a ta) :
    PE X (.Call (.Name (setNm srt) p) [.Call (.Name "set" p2) [a] [] pos2] [] pos) (tLSet X.K srt ta) := by
  refine ⟨fun pins s σ H Q I h => ?_⟩
  have inner : wpAny (model X.prog X.w) X.A (eval (Expr.Call (.Name "set" p2) [a] [] pos2) X.env) (fun u s' => ∃ (s1 : Shared) (H1 : Hp) (xs : List Str) (h' : Heap) (tk : Nat) (D : PySem.Froz.SD), u = .ref s1.heap.objs.size ∧ s' = { s1 with heap := h', toks := tk } ∧ L2.Inv X pins σ H1 s1 ∧ xs.length < 60 ∧
      TxS X.prog X.w h' s1.heap.objs.size (seen xs) D ∧ (∀ b o, s1.heap.get? b = some o → h'.get? b = some o) ∧ (if srt = true then ∀ p, H1 p = none → Q (.ref p) (upd H1 p (.lst ((sortS (seen xs)).map V.str))) else Q (.int (seen xs).length) H1)) X.xe s := by
    refine Call_ (ld_blt I hg2 hm2 boot_set' (PyProof.Rows.callWith_type1 (one_arg ha I h (fun v s2 x H2 I2 r q => ?_) na) na))
    obtain ⟨l, xs, ex, hq, hl, q⟩ := q
    subst ex
    obtain rfl : v = Value.ref l := r
    obtain ⟨its, rv, pl, hz⟩ := I2.list hq
    have rs := strsAre_of' rv
    exact call_set_txt (I2.ok.hd hc) pl.isList (by simpa using rs) (by unfold scanBound; omega) fun h' tk D T k => ⟨s2, H2, xs, h', tk, D, rfl, rfl, I2, hl, T, k, q⟩
  have na2 : starEach [Expr.Call (.Name "set" p2) [a] [] pos2] X.env = (false, eval (Expr.Call (.Name "set" p2) [a] [] pos2) X.env) :: starEach [] X.env := rfl
  cases srt with
  | false =>
    refine Call_ (ld_blt I hg hm boot_len' (PyProof.Rows.callWith_builtin1 (args_cons (thn inner fun u s' ⟨s1, H1, xs, h', tk, D, eu, es, I1, hl, T, k, q⟩ => args_nil ?_) na2) na2 rfl))
    subst eu es
    have I2 : L2.Inv X pins σ H1 { s1 with heap := h', toks := tk } := I1.kept fun b o e => k b o e
    have sz : D.1.size = (seen xs).length := T.ok.sz
    have := seen_le xs
    refine call_len_set T.here ⟨rfl, rfl, rfl⟩ rfl T.ok.fit (by omega) ⟨.int (seen xs).length, H1, I2.tok _, ⟨_, by rw [sz]⟩, q⟩
  | true =>
    refine Call_ (ld_blt I hg hm boot_sorted' (PyProof.Rows.callWith_builtin1 (args_cons (thn inner fun u s' ⟨s1, H1, xs, h', tk, D, eu, es, I1, hl, T, k, q⟩ => args_nil ?_) na2) na2 rfl))
    subst eu es
    have I2 : L2.Inv X pins σ H1 { s1 with heap := h', toks := tk } := I1.kept fun b o e => k b o e
    have hle := seen_le xs
    refine call_sorted_txt (s := { s1 with heap := h', toks := tk }) T (I1.ok.hd hc) (by omega) fun s' p out c k2 g o hp hg2 hi => ?_
    have hlen : ((sortS (seen xs)).map V.str).length ≤ sizeLine := by
      rw [List.length_map, sizeLine_eq]
      have : (sortS (seen xs)).length = (seen xs).length := (List.mergeSort_perm (seen xs) ordS).length_eq
      omega
    have hn : H1 p = none := I2.hok.fresh hp
    have J : L2.Inv X pins σ (upd H1 p (.lst ((sortS (seen xs)).map V.str))) { s1 with heap := s'.heap, gens := s'.gens, drawn := s'.drawn, toks := s'.toks } :=
      L2.Inv.call (s := { s1 with heap := h', toks := tk }) (ch := []) I2 (Un.laid k2 hp hn) (I2.hok.laid k2 hp ⟨hlen, out.toList, c, vals_of_strs hi, hg2⟩) (by rw [g]; exact I2.bare) (fun _ z => nomatch z)
    have e : s' = { s1 with heap := s'.heap, gens := s'.gens, drawn := s'.drawn, toks := s'.toks } := by
      cases s'
      cases s1
      cases o
      rfl
    rw [e]
    exact ⟨.ref p, _, J, rfl, q p hn⟩
theorem e_lset {nm nm2 : Str} (srt : Bool) (hc : X.calm = true) (hK : B.K = X.K) (h1 : nm = setNm srt) (h2 : nm2 = "set") (hg : Gl X nm) (hm : X.mg nm = none) (hg2 : Gl X nm2) (hm2 : X.mg nm2 = none) (hs : isStar a = false) (ha : PE X a (tE B eva)) :
    PE X (.Call (.Name nm p) [.Call (.Name nm2 p2) [a] [] pos2] [] pos) (tE B fun sl st => (eva sl st).bind fun x st1 => match (asL x st1).bind strsOf with
    | some xs => if xs.length < 60 then .ok (if srt then .lst ((sortS (seen xs)).map .str) else .int (seen xs).length) st1 else .stuck
    | none => .stuck) := by
  subst h1 h2
  refine PE.imp (pe_lset srt hc hg hm hg2 hm2 (star_cons hs) ha) fun σ H Q ⟨W, sl, st, k1, k2, k3, k4, k5⟩ => ?_
  refine tE_then k1 k2 k3 k4 k5 fun x st1 W1 H1 v m1 m2 m3 m4 r l q => ?_
  split at q
  · rename_i xs e
    rw [Option.bind_eq_some_iff] at e
    obtain ⟨ys, e1, e2⟩ := e
    obtain ⟨b, ws, rfl, hq, rq⟩ := asL_V m4 r e1
    have ew := rq.strs e2
    subst ew
    split at q
    · rename_i hl
      refine ⟨b, xs, rfl, .inl hq, hl, ?_⟩
      cases srt with
      | true =>
        rw [if_pos rfl]
        rw [if_pos rfl] at q
        exact post_lst m4 (RepL.of_strs _) q
      | false =>
        rw [if_neg Bool.false_ne_true]
        rw [if_neg Bool.false_ne_true] at q
        exact post_here m4 repI q
    · exact q.elim
  · exact q.elim
end
end TM
namespace TM
open PySem PySem.Spec PyProof.Rows L2
section
variable {X : Cx} {B : Bx} {a : Expr} {eva : Ev} {p pos : Pos}
/-! isinstance with several types -/
def TyEs (X : Cx) : List Ty → List Expr → Prop := Paired fun t e => ∃ T q, e = .Name T q ∧ Gl X T ∧ X.mg T = none ∧ bootBuiltins T = some (.type (tyN t)) ∧ T ≠ "__name__" ∧ (T == ("__debug__" : Str)) = false
theorem pa_types : ∀ {ts : List Ty} {es : List Expr}, TyEs X ts es → PA X es (fun _ H Q => Q (ts.map fun t => V.ty (tyN t)) H)
  | _, _, .nil => pa_nil
  | _, _, .cons ⟨T, q, e, hg, hm, hv, hn, hd⟩ t => by
    subst e
    exact PA.imp (pa_cons (pe_bltn (v := .ty (tyN _)) hg hm hv rfl hn hd) (pa_types t) rfl) fun σ H Q h => h
theorem cls_tys : ∀ ts : List Ty, Paired ClsV (ts.map fun t => V.ty (tyN t)) (ts.map fun t => Value.type (tyN t))
  | [] => .nil
  | t :: ts => .cons (.ty _) (cls_tys ts)
theorem e_isiT {ts : List Ty} {tes : List Expr} {k0 : Nat} {p' : Pos} {nm : Str} (hK : B.K = X.K) (hnm : nm = "isinstance") (hg : Gl X nm) (hm : X.mg nm = none) (hty : TyEs X ts tes) (hb : ts.all tyB = true) (hl : ts.length ≤ 1000)
    (hs : isStar a = false) (ha : PE X a (tE B eva)) : PE X (.Call (.Name nm p) [a, .Tuple tes k0 p'] [] pos) (tE B fun sl st => (eva sl st).bind fun x st1 => ofO ((isinD x ts st1).map .bl) st1) := by
  subst hnm
  refine PE.imp (pe_callB call_isiTN hg hm (by decide +kernel) (pa_cons ha (pa_cons (pe_tup (pa_types hty)) pa_nil rfl) (star_cons hs)) (by decide) (by decide) (star_cons hs) rfl) fun σ H Q ⟨W, sl, st, h1, h2, h3, h4, h5⟩ => ?_
  refine tE_then h1 h2 h3 h4 h5 fun x st1 W1 H1 v k1 k2 k3 k4 r1 l1 q1 => ?_
  obtain ⟨d, e1, q3⟩ := post_ofO q1
  rw [Option.map_eq_some_iff] at e1
  obtain ⟨k, e1, rfl⟩ := e1
  refine ⟨by rw [List.length_map, sizeLine_eq]; omega, fun t ht => ?_⟩
  have s2 := sr_extra k4 ht (.tup (ts.map fun t => V.ty (tyN t)))
  obtain ⟨t', x1, _, x2⟩ := isin_one s2 r1 hb e1
  rw [k1, hK] at x1 x2
  exact ⟨v, t, _, t', _, k, rfl, upd_same, cls_tys ts, x1, x2, post_here s2 repB q3⟩
/-! dict displays -/
def ilv : List (Option Expr) → List Expr → Option (List Expr)
  | [], [] => some []
  | some k :: ks, v :: vs => (ilv ks vs).map fun r => k :: v :: r
  | _, _ => none
def PRep (W : Wo) : List D → List (V × V) → Prop
  | [], ps => ps = []
  | [_], _ => False
  | k :: v :: ds, ps => ∃ x y r, ps = (x, y) :: r ∧ Rep W k x ∧ Rep W v y ∧ PRep W ds r
theorem prep_keys {W : Wo} : ∀ {ds : List D} {ps : List (V × V)} {kvs : List (Key × D)}, PRep W ds ps → pairUp ds = some kvs → ∃ kws : List (Key × V), ps = kws.map (fun kv => (kV kv.1, kv.2)) ∧ RepK W kvs kws
  | [], ps, kvs, h, e => by
    simp only [pairUp, Option.some.injEq] at e
    simp only [PRep] at h
    subst e h
    exact ⟨[], rfl, .nil⟩
  | [_], _, _, h, _ => by simp [PRep] at h
  | k :: v :: ds, ps, kvs, h, e => by
    simp only [PRep] at h
    obtain ⟨x, y, r, rfl, h1, h2, h3⟩ := h
    simp only [pairUp] at e
    split at e
    · rename_i k' kr e1 e2
      cases e
      obtain ⟨kws, rfl, q⟩ := prep_keys h3 e2
      exact ⟨(k', y) :: kws, by rw [List.map_cons, keyOf_V h1 e1], .cons h2 q⟩
    · cases e
inductive TrP (B : Bx) (cl : Nat → List D → Store → Res D) : List CE → List (TE × TE) → Prop where
  | nil : TrP B cl [] []
  | cons {k v : CE} {es : List CE} {trs : List (TE × TE)} (h : TrP B cl es trs) : TrP B cl (k :: v :: es) ((tE B (evE cl k), tE B (evE cl v)) :: trs)
theorem postX_apart {W : Wo} {E : XK} {C : Nat} {fs : List (Str × D)} {st : Store} {p : Addr} {o : HO} (hG : W.G p = none) (h : PostX W E C fs st) : PostX (W.apart p o) E C fs st := by
  intro W' H' dx es l s hx r
  have q := h (W'.with W.G) H' dx es ⟨l.K, l.CA, l.F, l.mu, rfl⟩ (s.drop W.G fun a u e => by
    rw [l.G]
    show upd W.G p o a = some u
    rw [upd_ne (fun z => by rw [z, hG] at e; cases e)]
    exact e) hx (r.mono' li_with)
  exact q
theorem pairs_run {B : Bx} {cl : Nat → List D → Store → Res D} : ∀ {es : List CE} {trs : List (TE × TE)}, TrP B cl es trs → ∀ {W : Wo} {sl : Slots} {st : Store} {σ : Sg} {H : Hp} {Q : List (V × V) → Hp → Prop}, W.K = B.K → W.CA = B.CA → SlR W sl σ → SR W st H →
    (match evEs cl es sl st with
    | .ok ds st' => ∀ W' H' ps, Le W W' → SR W' st' H' → PRep W' ds ps → Q ps H'
    | .exc C fs st' => PostX W (B.E σ) C fs st'
    | .stuck => False) → tPairs trs σ H Q := by
  intro es trs h
  induction h with
  | nil =>
    intro W sl st σ H Q h1 h2 h3 h4 h5
    exact h5 W H [] (Le.refl W) h4 (by simp only [PRep])
  | @cons k v es trs h ih =>
    intro W sl st σ H Q h1 h2 h3 h4 h5
    simp only [evEs] at h5
    refine ⟨W, sl, st, h1, h2, h3, h4, ?_⟩
    cases hk : evE cl k sl st with
    | stuck => rw [hk] at h5; exact h5.elim
    | exc C fs st' => rw [hk] at h5; exact h5
    | ok d st1 =>
      rw [hk, Res.bind_ok] at h5
      intro W1 H1 x l1 s1 r1
      refine ⟨W1, sl, st1, l1.K.trans h1, l1.CA.trans h2, h3.mono l1, s1, ?_⟩
      cases hv : evE cl v sl st1 with
      | stuck => rw [hv] at h5; exact h5.elim
      | exc C fs st' => rw [hv] at h5; exact PostX.mono l1 h5
      | ok d2 st2 =>
        rw [hv, Res.bind_ok] at h5
        intro W2 H2 y l2 s2 r2
        refine ih (l2.K.trans (l1.K.trans h1)) (l2.CA.trans (l1.CA.trans h2)) ((h3.mono l1).mono l2) s2 ?_
        cases hr : evEs cl es sl st2 with
        | stuck => rw [hr] at h5; exact h5.elim
        | exc C fs st' => rw [hr] at h5; exact PostX.mono (l1.trans l2) h5
        | ok ds st3 =>
          rw [hr] at h5
          intro W3 H3 ps l3 s3 r3
          refine h5 W3 H3 ((x, y) :: ps) ((l1.trans l2).trans l3) s3 ?_
          simp only [PRep]
          exact ⟨x, y, ps, rfl, r1.mono (l2.trans l3), r2.mono l3, r3⟩
theorem trp_of {cl : Nat → List D → Store → Res D} : ∀ {ks : List (Option Expr)} {vs xs : List Expr} {es : List CE}, ilv ks vs = some xs → Paired (fun ce e => PE X e (tE B (evE cl ce))) es xs →
    ∃ trs, TrP B cl es trs ∧ PPs X pos ks vs trs ∧ ks.all (·.isSome) = true ∧ ks.length = vs.length ∧ es.length = 2 * ks.length
  | [], [], xs, es, e, h => by
    simp only [ilv, Option.some.injEq] at e
    subst e
    cases h
    exact ⟨[], .nil, pps_nil, rfl, rfl, rfl⟩
  | some k :: ks, v :: vs, xs, es, e, h => by
    simp only [ilv, Option.map_eq_some_iff] at e
    obtain ⟨r, e, rfl⟩ := e
    cases h with
    | cons h1 h =>
      cases h with
      | cons h2 h =>
        obtain ⟨trs, a1, a2, a3, a4, a5⟩ := trp_of e h
        exact ⟨_, .cons a1, pps_cons h1 h2 a2, by rw [List.all_cons, a3]; rfl, by rw [List.length_cons, List.length_cons, a4], by rw [List.length_cons, List.length_cons, List.length_cons, a5]; omega⟩
  | [], _ :: _, _, _, e, _ => by simp [ilv] at e
  | none :: _, _, _, _, e, _ => by simp [ilv] at e
  | some _ :: _, [], _, _, e, _ => by simp [ilv] at e
theorem e_dctG {cl : Nat → List D → Store → Res D} {mt : Bool} {es : List CE} {ks : List (Option Expr)} {vs xs : List Expr} (hi : ilv ks vs = some xs) (h : Paired (fun ce e => PE X e (tE B (evE cl ce))) es xs) (h0 : ks ≠ []) (h15 : ks.length ≤ 15) :
    PE X (.Dict ks vs pos) (tE B fun sl st => (evEs cl es sl st).bind fun ds st1 => match pairUp ds with
    | some kvs => if kvs.length ≤ 15 then mkK mt (mergeD [] kvs) st1 else .stuck
    | none => .stuck) := by
  obtain ⟨trs, a1, a2, a3, a4, _⟩ := trp_of (pos := pos) hi h
  refine PE.imp (pe_disp a2 a3 a4 h0 h15) fun σ H Q ⟨W, sl, st, h1, h2, h3, h4, h5⟩ => ?_
  dsimp only at h5
  intro p hp
  have hG0 : W.G p = none := by
    cases e : W.G p with
    | none => rfl
    | some o =>
      have := (h4.fo p o e).1
      rw [hp] at this
      cases this
  refine pairs_run a1 (W := W.apart p (.dK [])) h1 h2 (h3.mono' li_apart) (h4.laid hp _) ?_
  cases hr : evEs cl es sl st with
  | stuck => rw [hr] at h5; exact h5.elim
  | exc C fs st' => rw [hr] at h5; exact postX_apart hG0 h5
  | ok ds st1 =>
    rw [hr, Res.bind_ok] at h5
    intro W1 H1 ps l s r
    cases hk : pairUp ds with
    | none => rw [hk] at h5; exact h5.elim
    | some kvs =>
      rw [hk] at h5
      dsimp only at h5
      split at h5
      · rename_i hz
        obtain ⟨kws, rfl, rk⟩ := prep_keys r hk
        have eG : W1.G p = some (.dK []) := by rw [l.G]; exact upd_same
        have hf := s.fo p _ eG
        refine ⟨hf.1, kws, rfl, by rw [rk.length]; exact hz, ?_⟩
        have l' : Li W (W1.apart p (.dK (mergeK [] kws))) := ⟨l.K, l.CA, l.F, l.mu⟩
        refine dc_end l' hG0 ?_ (s.turn eG (fun _ z => nomatch z) _) ((RepK.merge kvs .nil rk).mono' li_apart) h5
        show upd W1.G p _ = upd W.G p _
        rw [l.G]
        exact upd_upd
      · exact h5.elim
theorem e_nkd {k0 k1 : Nat} {p0 p1 : Pos} : PE X (.Dict [some (.Constant .none k0 p0)] [.Constant (.int 0) k1 p1] pos) (tE B fun _ st => .ok .nkd st) :=
  PE.imp (pe_nk pe_non pe_int) fun σ H Q ⟨W, sl, st, h1, h2, h3, h4, h5⟩ => fun p od hp => h5 (W.still p (.frz od (NkO p))) _ _ (le_still (h4.free hp)) (h4.tree hp _) (by simp only [Rep]; exact ⟨p, od, rfl, upd_same⟩)
end
end TM
set_option maxHeartbeats 1000000
/-! TM, part N: defs and their calls (with no guard about: a repr may be asked for). -/
namespace TM
open PySem PySem.Spec PyProof.Rows L2
/-- a def keeps its promise wherever no guard is about and the base has the table of modules -/
structure FnG (P : Program) (w : World) (K : PySem.W.Frag) (mg : Str → Option Value) (base : Heap) (k : Nat) (f : Addr) (fd : FuncData) (ps : List Str) (sp : Sp) : Prop where
  len : ∀ vs H Q E, sp vs H Q E → vs.length = ps.length
  run : ∀ (A : Around) (outer : List Env) (s : Shared) (H : Hp) (args : Args) (us : List Value) (vs : List V) (Q : VK) (E : XK), A.guards = some [] → Room k A → Env0 P w K mg base A outer s H → BindsTo s fd args (ps.zip us) → Vals vs us → sp vs H Q E →
    codeAny (model P w) A (.call (.ref f) args) (CR (L2.CX P w) outer P w H s Q E) s
theorem FnG.mono {P : Program} {w : World} {K : PySem.W.Frag} {mg : Str → Option Value} {base : Heap} {j k : Nat} {f : Addr} {fd : FuncData} {ps : List Str} {sp : Sp} (F : FnG P w K mg base j f fd ps sp) (h : j ≤ k) : FnG P w K mg base k f fd ps sp :=
  ⟨F.len, fun A outer s H args us vs Q E hg hr => F.run A outer s H args us vs Q E hg (hr.mono h)⟩
/-- what a def computes -/
abbrev Fc := List D → Store → Res D
/-- what a body lets out is taken -/
abbrev Tk (X : Cx) (E : Sg → XK) : Prop := ∀ σ, PassesAt (L2.CX X.prog X.w) X σ (E σ)
def prom (K : PySem.W.Frag) (CA : Nat → Addr) (g : Fc) : Sp := fun vs H Q E => ∃ W ds st, W.K = K ∧ W.CA = CA ∧ RepL W ds vs ∧ SR W st H ∧ Post W E (g ds st) Q
/-- the values at the places pm -/
theorem perm_rep {W : Wo} {ds : List D} {vs : List V} (r : RepL W ds vs) : ∀ {pm : List Nat} {es : List D}, permA ds pm = some es → ∃ us, permA vs pm = some us ∧ RepL W es us
  | [], es, h => by
    cases h
    exact ⟨[], rfl, .nil⟩
  | i :: pm, es, h => by
    simp only [permA] at h
    split at h
    · rename_i d r' e1 e2
      cases h
      obtain ⟨us, q1, q2⟩ := perm_rep r e2
      obtain ⟨v, q3, q4⟩ := r.get e1
      exact ⟨v :: us, by simp only [permA, q3, q1], .cons q4 q2⟩
    · cases h
theorem perm_vals {vs : List V} {us : List Value} (r : Vals vs us) : ∀ {pm : List Nat} {es : List V}, permA vs pm = some es → ∃ ws, permA us pm = some ws ∧ Vals es ws
  | [], es, h => by
    cases h
    exact ⟨[], rfl, .nil⟩
  | i :: pm, es, h => by
    simp only [permA] at h
    split at h
    · rename_i d r' e1 e2
      cases h
      obtain ⟨ws, q1, q2⟩ := perm_vals r e2
      obtain ⟨v, q3, q4⟩ := r.get e1
      exact ⟨v :: ws, by simp only [permA, q3, q1], .cons q4 q2⟩
    · cases h
/-- how a call of positional values and keywords xs binds: the values at the places pm, in the parameters' order -/
structure Kform where
  np : Nat
  xs : List Str
  pm : List Nat
  deriving DecidableEq
def KB (K : PySem.W.Frag) (fd : FuncData) (ps : List Str) (q : Kform) : Prop := ∀ (s : Shared) (us ws as : List Value), K.In s.heap → us.length = q.np → ws.length = q.xs.length → permA (us ++ ws) q.pm = some as → as.length = ps.length → BindsTo s fd ⟨us, q.xs.zip ws⟩ (ps.zip as)
/-- a def by name -/
structure Fx (P : Program) (w : World) (K : PySem.W.Frag) (mg : Str → Option Value) (base : Heap) (CA : Nat → Addr) (k : Nat) (x : Str) (ps : List Str) (kf : List Kform) (g : Fc) : Prop where
  ex : ∃ fa fd, mg x = some (.ref fa) ∧ PySem.W.keepIn K (.ref fa) = true ∧ Binds K fd ps [] ∧ (∀ q ∈ kf, KB K fd ps q) ∧ FnG P w K mg base k fa fd ps (prom K CA g)
section
variable {X : Cx} {B : Bx} {n k : Nat} {a b c e : Expr} {es rest : List Expr} {p pos : Pos} {x : Str} {ps : List Str} {kf : List Kform} {g : Fc} {evs : Slots → Store → Res (List D)}
theorem run_g {fa : Addr} {fd : FuncData} {sp : Sp} {pins : List (Addr × Obj)} {σ : Sg} {H : Hp} {s : Shared} {Q : VK} {args : Args} {us : List Value} {vs : List V} {E : XK} (F : FnG X.prog X.w X.K X.mg X.base k fa fd ps sp) (hx : PassesAt (L2.CX X.prog X.w) X σ E) (c : Cok k X) (hb : BindsTo s fd args (ps.zip us))
    (I : Inv X pins σ H s) (r : Vals vs us) (h : sp vs H Q E) : wpAny (model X.prog X.w) X.A (call (.ref fa) args.pos args.kw) (EP X pins σ Q) X.xe s := by
  refine wpAny_call (codeAny_mono (F.run X.A X.stack s H args us vs Q E c.grd c.room I.env0 hb r h) fun r s' hq => ?_)
  cases r with
  | error e => exact hx pins H s e s' I hq
  | ok fl =>
    cases fl with
    | ret u => exact I.after hq
    | next => exact False.elim hq
    | brk => exact False.elim hq
    | cont => exact False.elim hq
theorem e_call (c : Cok k X) (hK : B.K = X.K) (hE : Tk X B.E) (F : Fx X.prog X.w X.K X.mg X.base B.CA k x ps kf g) (hg : Gl X x) (hd : (x == ("__debug__" : Str)) = false) (hs : (e :: es).all (fun e => !isStar e) = true) (ha : PA X (e :: es) (tA B evs)) :
    PE X (.Call (.Name x p) (e :: es) [] pos) (tE B fun sl st => (evs sl st).bind fun ds st1 => g ds st1) := by
  obtain ⟨fa, fd, hm, hk, hb, _, G⟩ := F.ex
  have h2 := hs
  rw [List.all_cons, Bool.and_eq_true, Bool.not_eq_true'] at h2
  refine ⟨fun pins s σ H Q I ⟨W, sl, st, h1, h2', h3, h4, h5⟩ => ?_⟩
  refine wpAny_Call_Name_kw (ld_glob I hg hm ?_ hd)
  have hA : tA B evs σ H fun vs H1 => prom X.K B.CA g vs H1 Q (B.E σ) := tA_then h1 h2' h3 h4 h5 fun ds st1 W1 H1 vs k1 k2 k3 k4 r1 l1 q1 => ⟨W1, ds, st1, k1.trans hK, k2, r1, k4, q1⟩
  refine PySem.W.callWith_K (h₀ := X.base) I.ok.mod.kin hk (thn (ha.run pos pins s σ H _ I hA) fun us s1 ⟨vs, H1, I1, r, q⟩ => ⟨I1.kIn, ?_⟩) (star_cons h2.1) (star_none h2.2)
  have hl : us.length = ps.length := by rw [← r.length]; exact G.len _ _ _ _ q
  have hb1 := hb s1 us I1.kIn (by rw [List.append_nil]; exact hl)
  rw [List.append_nil] at hb1
  exact run_g (args := ⟨us, []⟩) G (hE σ) c hb1 I1 r q
theorem e_call0 (c : Cok k X) (hK : B.K = X.K) (hE : Tk X B.E) (F : Fx X.prog X.w X.K X.mg X.base B.CA k x ps kf g) (hg : Gl X x) (hd : (x == ("__debug__" : Str)) = false) :
    PE X (.Call (.Name x p) [] [] pos) (tE B fun sl st => (Res.ok (α := List D) [] st).bind fun ds st1 => g ds st1) := by
  obtain ⟨fa, fd, hm, hk, hb, _, G⟩ := F.ex
  refine ⟨fun pins s σ H Q I ⟨W, sl, st, h1, h2', h3, h4, h5⟩ => ?_⟩
  refine wpAny_Call_Name_kw (ld_glob I hg hm ?_ hd)
  have q : prom X.K B.CA g [] H Q (B.E σ) := ⟨W, [], st, h1.trans hK, h2', .nil, h4, h5⟩
  have hl : ([] : List Value).length = ps.length := G.len _ _ _ _ q
  have hb1 := hb s [] I.kIn hl
  exact PySem.W.callWith_K0 I.kIn hk (run_g (args := ⟨[], []⟩) G (hE σ) c hb1 I .nil q)
/-! keywords -/
def PKr (kws : List Keyword) : List Expr := kws.map (·.value)
theorem PK.imp {X : Cx} {e : List Keyword} {t t' : TA} (h : PK X e t) (k : ∀ σ H Q, t' σ H Q → t σ H Q) : PK X e t' := ⟨fun p pins s σ H Q I q => h.run p pins s σ H Q I (k σ H Q q)⟩
theorem k_nil : PK X [] (tA B fun _ st => .ok [] st) := PK.imp pk_nil fun σ H Q ⟨W, sl, st, h1, h2, h3, h4, h5⟩ => h5 W H [] (Le.refl W) h4 .nil
theorem k_cons {eva : Ev} {nm : Option Str} {kp : Pos} {kws : List Keyword} (he : PE X e (tE B eva)) (hes : PK X kws (tA B evs)) : PK X (⟨nm, e, kp⟩ :: kws) (tA B fun sl st => (eva sl st).bind fun d st1 => (evs sl st1).bind fun ds st2 => .ok (d :: ds) st2) := by
  refine PK.imp (pk_cons he hes) fun σ H Q ⟨W, sl, st, h1, h2, h3, h4, h5⟩ => ?_
  refine ⟨W, sl, st, h1, h2, h3, h4, post_bindL h5 fun d st1 W1 H1 v l1 s1 r1 q1 => ?_⟩
  refine ⟨W1, sl, st1, l1.K.trans h1, l1.CA.trans h2, h3.mono l1, s1, postL_bindL q1 fun ds st2 W2 H2 vs l2 s2 r2 q2 => ?_⟩
  exact q2 W2 H2 _ (Le.refl W2) s2 (.cons (r1.mono l2) r2)
theorem kw_names {env : Env} {pos : Pos} : ∀ {kws : List Keyword} {xs : List Str}, kws.map (·.arg) = xs.map some → (backToKw pos (keywordEach kws env)).all (·.1.isSome) = true ∧ (backToKw pos (keywordEach kws env)).filterMap (·.1) = xs ∧ (backToKw pos (keywordEach kws env)).any (·.1.isNone) = false
  | [], [], _ => ⟨rfl, rfl, rfl⟩
  | ⟨_, _, _⟩ :: kws, x :: xs, h => by
    rw [List.map_cons, List.map_cons, List.cons.injEq] at h
    obtain ⟨h1, h2⟩ := h
    cases h1
    obtain ⟨q1, q2, q3⟩ := kw_names (env := env) (pos := pos) h2
    have e : ∀ v p, backToKw pos (keywordEach (⟨some x, v, p⟩ :: kws) env) = (some x, do let v ← eval v env; standAt pos; pure v) :: backToKw pos (keywordEach kws env) := fun _ _ => rfl
    rw [e, List.all_cons, List.any_cons]
    refine ⟨by rw [q1]; rfl, ?_, by rw [q3]; rfl⟩
    simp only [List.filterMap_cons, q2]
  | _ :: _, [], h => by simp at h
  | [], _ :: _, h => by simp at h
/-- evaluated one behind the other -/
def ev2 (evs evk : Slots → Store → Res (List D)) : Slots → Store → Res (List D) := fun sl st => (evs sl st).bind fun ds st1 => (evk sl st1).bind fun es st2 => .ok (ds ++ es) st2
theorem postL_len {W : Wo} {E : XK} {r : Res (List D)} {Q : List V → Hp → Prop} : True := trivial
theorem e_callK0 (c : Cok k X) (hK : B.K = X.K) (hE : Tk X B.E) (F : Fx X.prog X.w X.K X.mg X.base B.CA k x ps kf g) {q : Kform} (hq : q ∈ kf) (hg : Gl X x) (hd : (x == ("__debug__" : Str)) = false) {kws : List Keyword} (hx : kws.map (·.arg) = q.xs.map some) (hnp : q.np = 0) {evk : Slots → Store → Res (List D)}
    (hlen : ∀ sl st ds st', evk sl st = .ok ds st' → ds.length = q.xs.length) (ha : PK X kws (tA B evk)) :
    PE X (.Call (.Name x p) [] kws pos) (tE B fun sl st => (evk sl st).bind fun ds st1 => match permA ds q.pm with | some vs => g vs st1 | none => .stuck) := by
  obtain ⟨fa, fd, hm, hk, _, hb, G⟩ := F.ex
  obtain ⟨n1, n2, n3⟩ := kw_names (env := X.env) (pos := pos) hx
  refine ⟨fun pins s σ H Q I ⟨W, sl, st, h1, h2', h3, h4, h5⟩ => ?_⟩
  refine wpAny_Call_Name_kw (ld_glob I hg hm ?_ hd)
  have hA : tA B evk σ H fun vs H1 => vs.length = q.xs.length ∧ ∃ us, permA vs q.pm = some us ∧ prom X.K B.CA g us H1 Q (B.E σ) := by
    refine ⟨W, sl, st, h1, h2', h3, h4, ?_⟩
    dsimp only at h5
    cases hr : evk sl st with
    | stuck => rw [hr] at h5; exact h5.elim
    | exc C fs st' => rw [hr] at h5; exact h5
    | ok ds st1 =>
      rw [hr, Res.bind_ok] at h5
      intro W1 H1 vs l1 s1 r1
      refine ⟨by rw [r1.length]; exact hlen _ _ _ _ hr, ?_⟩
      cases hp : permA ds q.pm with
      | none => rw [hp] at h5; exact h5.elim
      | some es' =>
        rw [hp] at h5
        obtain ⟨us, e1, e2⟩ := perm_rep r1 hp
        exact ⟨us, e1, W1, es', st1, (l1.K.trans h1).trans hK, l1.CA.trans h2', e2, s1, Post.mono l1 h5⟩
  refine PySem.W.callWith_KW0 (h₀ := X.base) I.ok.mod.kin hk n1 (thn (ha.run pos pins s σ H _ I hA) fun ws s1 ⟨vs, H1, I1, r, hl, us, e1, q1⟩ => ⟨I1.kIn, ?_⟩) (by rw [n3]; rfl)
  rw [n2]
  obtain ⟨as, e2, rv⟩ := perm_vals r e1
  exact run_g (args := ⟨[], q.xs.zip ws⟩) G (hE σ) c (hb q hq s1 [] ws as I1.kIn (by rw [hnp]; rfl) (by rw [← r.length]; exact hl) (by rw [List.nil_append]; exact e2) (by rw [← rv.length]; exact G.len _ _ _ _ q1)) I1 rv q1
theorem e_callK (c : Cok k X) (hK : B.K = X.K) (hE : Tk X B.E) (F : Fx X.prog X.w X.K X.mg X.base B.CA k x ps kf g) {q : Kform} (hq : q ∈ kf) (hg : Gl X x) (hd : (x == ("__debug__" : Str)) = false) {kws : List Keyword} (hx : kws.map (·.arg) = q.xs.map some) {evk : Slots → Store → Res (List D)} (hs : (e :: es).all (fun e => !isStar e) = true)
    (hlen1 : ∀ sl st ds st', evs sl st = .ok ds st' → ds.length = q.np) (hlen : ∀ sl st ds st', evk sl st = .ok ds st' → ds.length = q.xs.length) (ha : PA X (e :: es) (tA B evs)) (hka : PK X kws (tA B evk)) :
    PE X (.Call (.Name x p) (e :: es) kws pos) (tE B fun sl st => (ev2 evs evk sl st).bind fun ds st1 => match permA ds q.pm with | some vs => g vs st1 | none => .stuck) := by
  obtain ⟨fa, fd, hm, hk, _, hb, G⟩ := F.ex
  obtain ⟨n1, n2, n3⟩ := kw_names (env := X.env) (pos := pos) hx
  have h2 := hs
  rw [List.all_cons, Bool.and_eq_true, Bool.not_eq_true'] at h2
  refine ⟨fun pins s σ H Q I ⟨W, sl, st, h1, h2', h3, h4, h5⟩ => ?_⟩
  refine wpAny_Call_Name_kw (ld_glob I hg hm ?_ hd)
  have hA : tA B evs σ H fun vs H1 => vs.length = q.np ∧ tA B evk σ H1 fun zs H2 => zs.length = q.xs.length ∧ ∃ us, permA (vs ++ zs) q.pm = some us ∧ prom X.K B.CA g us H2 Q (B.E σ) := by
    refine ⟨W, sl, st, h1, h2', h3, h4, ?_⟩
    dsimp only [ev2] at h5
    cases hr : evs sl st with
    | stuck => rw [hr] at h5; exact h5.elim
    | exc C fs st' => rw [hr] at h5; exact h5
    | ok ds st1 =>
      rw [hr, Res.bind_ok] at h5
      intro W1 H1 vs l1 s1 r1
      refine ⟨by rw [r1.length]; exact hlen1 _ _ _ _ hr, W1, sl, st1, l1.K.trans h1, l1.CA.trans h2', h3.mono l1, s1, ?_⟩
      have h6 := Post.mono l1 h5
      clear h5
      cases hr2 : evk sl st1 with
      | stuck => rw [hr2] at h6; exact h6.elim
      | exc C fs st' => rw [hr2] at h6; exact h6
      | ok zs st2 =>
        rw [hr2, Res.bind_ok, Res.bind_ok] at h6
        intro W2 H2 zv l2 s2 r2
        refine ⟨by rw [r2.length]; exact hlen _ _ _ _ hr2, ?_⟩
        cases hp : permA (ds ++ zs) q.pm with
        | none => rw [hp] at h6; exact h6.elim
        | some es' =>
          rw [hp] at h6
          obtain ⟨us, e1, e2⟩ := perm_rep ((r1.mono l2).append r2) hp
          exact ⟨us, e1, W2, es', st2, (l2.K.trans (l1.K.trans h1)).trans hK, l2.CA.trans (l1.CA.trans h2'), e2, s2, Post.mono l2 h6⟩
  refine PySem.W.callWith_KW (h₀ := X.base) I.ok.mod.kin hk n1 (thn (ha.run pos pins s σ H _ I hA) fun us s1 ⟨vs, H1, I1, r, hl1, q1⟩ => ?_) (by rw [star_cons h2.1]; show (false || (backTo pos (starEach es X.env)).any (·.1) || _) = false; rw [star_none h2.2, n3]; rfl) (star_cons h2.1)
  refine thn (hka.run pos pins s1 σ H1 _ I1 q1) fun ws s2 ⟨zs, H2, I2, rz, hl, as', e1, q2⟩ => ⟨I2.kIn, ?_⟩
  rw [n2]
  obtain ⟨as, e2, rv⟩ := perm_vals (r.append rz) e1
  exact run_g (args := ⟨us, q.xs.zip ws⟩) G (hE σ) c (hb q hq s2 us ws as I2.kIn (by rw [← r.length]; exact hl1) (by rw [← rz.length]; exact hl) e2 (by rw [← rv.length]; exact G.len _ _ _ _ q2)) I2 rv q2
end
end TM
set_option maxHeartbeats 1000000
/-! TM, part NC: instances of own classes: made, their attributes, methods, operators. -/
namespace PySem.W
open PySem PySem.Calls PyProof.Rows Builtin
section
variable {prog : Program} {w : World} {A : Around} {E : Value → Shared → Prop} {s : Shared} {K : Frag} {x y C f : Addr} {ox : Obj} {od : Option Obj} {name : Str} {id : String}
theorem ifBound_B {M : Model} {args : List Value} {Q : Option Value → Shared → Prop} (X : K.In s.heap) (I : InstAt s.heap x ox C od) (hs : findIn K (.ref C) name = some (some (.builtin id))) (S : bindSpecial (.builtin id) (.ref x) = pure (.builtin id, [.ref x]))
    (h : wpAny M A (call (.builtin id) (.ref x :: args)) (fun v => Q (some v)) E s) : wpAny M A (callSpecialIfBound? (.ref x) name args) Q E s := by
  simp only [callSpecialIfBound?, bindSpecialIfBound?]
  refine wpAny_holding (wpAny_bind (wpAny_bind (wpAny_bind (I.type.here ((looks_findIn X hs).here ?_)))))
  simp only [S]
  refine wpAny_bind (wpAny_askSetting (wpAny_ite ?_))
  have fin : wpAny M A (call (.builtin id) ([.ref x] ++ args) >>= fun v => pure (some v)) Q E s := wpAny_bind (wpAny_mono h (fun v s' h' => wpAny_pure h') fun _ _ h' => h')
  split
  · exact wpAny_bind (wpAny_pure (wpAny_pure fin))
  · exact wpAny_tryCatch (wpAny_bind (wpAny_pure (wpAny_pure fin)))
theorem objNe_K (X : K.In s.heap) (I : InstAt s.heap x ox C od) (he : findIn K (.ref C) "__eq__" = some (some (.ref f))) (hf : isFn K (.ref f) = true) (hu : A.units < cLine) {Q : Fin → Shared → Prop}
    (hcall : wpAny (model prog w) A (call (.ref f) [.ref x, .ref y]) (fun v s' => ∃ b, v = .bool b ∧ Q (.done (.ret (.bool (!b)))) s') E s) :
    wpAny (model prog w) A (Builtin.«object.__ne__» ⟨[.ref x, .ref y], []⟩) Q E s := by
  unfold Builtin.«object.__ne__»
  repeat (first
    | with_reducible refine wpAny_cRoomFor hu ?_
    | (refine wpAny_bind (m := callSpecialIfBound? (.ref x) (Str.ofString "__eq__") [.ref y])
        (ifBound_K X I he hf (wpAny_mono hcall (fun r s' hr => by
          obtain ⟨b, rfl, hq⟩ := hr
          repeat (first | exact hq | exact wpAny_pure hq | exact wpAny_truthy_bool hq | (refine wpAny_bind (m := truthy (.bool _)) (wpAny_truthy_bool ?_)) | wp_step)) fun _ _ e => e)))
    | wp_step)
theorem ne_K (X : K.In s.heap) (I : InstAt s.heap x ox C od) {oy : Obj} {ody : Option Obj} (J : InstAt s.heap y oy C ody) (hn : findIn K (.ref C) "__ne__" = some (some (.builtin "object.__ne__"))) (he : findIn K (.ref C) "__eq__" = some (some (.ref f))) (hf : isFn K (.ref f) = true)
    (hm : subIn K (.ref C) (.type "object") = some true) (hu : A.units + 1 < cLine) {Q : Value → Shared → Prop}
    (hcall : wpAny (model prog w) A.in1 (call (.ref f) [.ref x, .ref y]) (fun v s' => ∃ b, v = .bool b ∧ Q (.bool (!b)) s') E s) :
    wpAny (model prog w) A (compareOp .NotEq (.ref x) (.ref y)) Q E s := by
  have FB : PySem.CmpFacts "object" [.type "object"] := PySem.F.cmp_object
  have one : wpAny (model prog w) A (tryCompare (.ref x) "__ne__" (.ref y)) (fun r s' => ∃ b, r = some (.bool (!b)) ∧ Q (.bool (!b)) s') E s := by
    simp only [tryCompare]
    refine wpAny_bind (ifBound_B X I hn (FB.ne.bind _) (wpAny_call (codeAny_call_builtin FB.ne.plain PySem.F.cmpEntry_ne
      (check_slot PySem.F.cmpKind_ne PySem.F.cmpSplit_ne (I.type.andThen (looks_subIn X hm)) (PySem.F.cmpArgs_ne _ _)
        (objNe_K (A := A.in1) X I he hf hu (wpAny_mono hcall (fun v s' hv => ?_) fun _ _ e => e))))))
    obtain ⟨b, rfl, hq⟩ := hv
    first | exact ⟨b, rfl, wpAny_pure ⟨b, rfl, hq⟩⟩ | exact wpAny_pure ⟨b, rfl, hq⟩ | exact ⟨_, rfl, wpAny_pure (wpAny_pure ⟨b, rfl, hq⟩)⟩
  unfold compareOp
  show wpAny _ _ (richCompare .NotEq (.ref x) (.ref y)) _ _ _
  unfold richCompare
  simp only [oneThing_ref]
  refine wpAny_holding ?_
  refine wpAny_bind (wpAny_cRoomFor (Nat.lt_of_succ_lt hu) ?_)
  rw [cmpInfo_NotEq]
  dsimp only
  refine wpAny_bind (I.type.here (wpAny_bind (J.type.here ?_)))
  rw [show (Value.ref C != Value.ref C) = false from by simp]
  simp only [Bool.false_eq_true, if_false]
  refine wpAny_bind (wpAny_pure ?_)
  simp only [Bool.false_eq_true, if_false]
  refine wpAny_bind (wpAny_mono one (fun r s' hv => ?_) fun _ _ e => e)
  obtain ⟨b, rfl, hq⟩ := hv
  exact wpAny_pure hq
end
end PySem.W
namespace TM
open PySem PySem.Spec PyProof.Rows L2
/-- what is known of an own class -/
structure ClsX (K : PySem.W.Frag) (C : Addr) : Prop where
  cl : Cls K C
  sf : PySem.W.selfFirst K C = true
  ca : PySem.W.findIn K (.ref C) "__class__" = some (some (.builtin "object.__class__"))
  cn : PySem.W.specialIn K (.builtin "object.__class__") "__get__" = some (some (.builtin "getset_descriptor.__get__"))
  ct : PySem.W.takesIn K (.builtin "object.__class__") = some true
  cm : PySem.W.mroIn K C (.type "object") = some true
  so : PySem.W.subIn K (.ref C) (.type "object") = some true
  mks : PySem.W.makesIn K C = true
  kp : PySem.W.keepIn K (.ref C) = true
  cr : ClX.CRead K C (.type "type")
  ne : PySem.W.findIn K (.ref C) "__ne__" = some (some (.builtin "object.__ne__"))
/-- a method of the class C that computes g -/
structure Mx (P : Program) (w : World) (K : PySem.W.Frag) (mg : Str → Option Value) (base : Heap) (CA : Nat → Addr) (k C : Nat) (m : Str) (ps : List Str) (kf : List Kform) (g : Fc) : Prop where
  ex : ∃ fa fd, Meth K (CA C) m fa ∧ PySem.W.fnIn K fa = true ∧ Binds K fd ps [] ∧ (∀ q ∈ kf, KB K fd ps q) ∧ FnG P w K mg base k fa fd ps (prom K CA g)
/-- .. called by keywords, too -/
structure MxK (P : Program) (w : World) (K : PySem.W.Frag) (mg : Str → Option Value) (base : Heap) (CA : Nat → Addr) (k C : Nat) (m : Str) (ps : List Str) (kf : List Kform) (g : Fc) : Prop where
  ex : ∃ fa fd, Meth K (CA C) m fa ∧ PySem.W.fnIn K fa = true ∧ (∀ q ∈ kf, KB K fd ps q) ∧ FnG P w K mg base k fa fd ps (prom K CA g)
/-- a classmethod -/
structure Cx' (P : Program) (w : World) (K : PySem.W.Frag) (mg : Str → Option Value) (base : Heap) (CA : Nat → Addr) (k C : Nat) (m : Str) (ps : List Str) (g : Fc) : Prop where
  ex : ∃ p fa fd, ClX.CMet K (CA C) (.type "type") m p fa ∧ Binds K fd ps [] ∧ FnG P w K mg base k fa fd ps (prom K CA g)
theorem meth_eval {o : Expr} {m : Str} {apos pos : Pos} {es : List Expr} {kws : List Keyword} {env : Env} (hb : noSuper o = true) (hf : methodCallForm (es.length + kws.length) (backTo pos (starEach es env)) (backToKw pos (keywordEach kws env)) = true) (hl : (apos.endLine == pos.line) = true) :
    eval (.Call (.Attribute o m apos) es kws pos) env = (do
      let ov ← eval o env
      standAt apos.atName
      let (f, first) ← holding [ov] (getMethod ov m (do return (← importBound o env).getD true))
      callWith pos f first (backTo pos (starEach es env)) (backToKw pos (keywordEach kws env))) := by
  rw [arm_eval_Call, base_plain hb]
  unfold methodCall calleeOf methodCallPos
  rw [hf, hl]
  rfl
/-- what the way makes of the result -/
def WayQ (w : Way) (Q : VK) : VK := fun v H => match w with
  | .ne => ∃ k, v = .bl k ∧ Q (.bl (!k)) H
  | .len => ∃ n : Int, v = .int n ∧ 0 ≤ n ∧ n < 2 ^ 62 ∧ Q (.int n) H
  | _ => Q v H
theorem post_way {W : Wo} {E : XK} {w : Way} {r : Res D} {Q : VK} (h : Post W E (r.bind fun d st3 => wayEnd w d st3) Q) : Post W E r (WayQ w Q) := by
  refine post_bind h fun d st1 W1 H1 v l s q1 q => ?_
  cases w with
  | ne =>
    cases d <;> first | exact (show False from q).elim | skip
    exact ⟨_, rep_bl q1, post_here s repB q⟩
  | len =>
    cases d <;> first | exact (show False from q).elim | skip
    simp only [wayEnd] at q
    split at q
    · rename_i hb
      exact ⟨_, rep_int q1, hb.1, hb.2, post_here s repI q⟩
    · exact q.elim
  | dot => exact post_here s q1 (show Post W1 E (.ok d st1) Q from q)
  | bin o => exact post_here s q1 (show Post W1 E (.ok d st1) Q from q)
  | cmp o =>
    cases d <;> first | exact (show False from q).elim | skip
    rw [rep_bl q1]
    exact post_here s repB q
  | inv => exact post_here s q1 (show Post W1 E (.ok d st1) Q from q)
  | call => exact post_here s q1 (show Post W1 E (.ok d st1) Q from q)
section
variable {X : Cx} {B : Bx} {k C : Nat} {a b c e : Expr} {es : List Expr} {p pos apos : Pos} {m : Str} {ps : List Str} {kf : List Kform} {g : Fc} {evr evb : Ev} {evs : Slots → Store → Res (List D)}
/-- below the running body -/
theorem run_gA {A : Around} {fa : Addr} {fd : FuncData} {sp : Sp} {pins : List (Addr × Obj)} {σ : Sg} {H : Hp} {s : Shared} {Q : VK} {args : Args} {us : List Value} {vs : List V} {E : XK} (F : FnG X.prog X.w X.K X.mg X.base k fa fd ps sp) (hx : PassesAt (L2.CX X.prog X.w) X σ E) (hg : A.guards = some []) (hr : Room k A) (e0 : Env0 X.prog X.w X.K X.mg X.base A X.stack s H) (hb : BindsTo s fd args (ps.zip us))
    (I : Inv X pins σ H s) (r : Vals vs us) (h : sp vs H Q E) : wpAny (model X.prog X.w) A (call (.ref fa) args.pos args.kw) (EP X pins σ Q) X.xe s := by
  refine wpAny_call (codeAny_mono (F.run A X.stack s H args us vs Q E hg hr e0 hb r h) fun r s' hq => ?_)
  cases r with
  | error e => exact hx pins H s e s' I hq
  | ok fl =>
    cases fl with
    | ret u => exact I.after hq
    | next => exact False.elim hq
    | brk => exact False.elim hq
    | cont => exact False.elim hq
theorem binds_at {fd : FuncData} (hb : Binds X.K fd ps []) {s : Shared} {us : List Value} (hi : X.K.In s.heap) (hl : us.length = ps.length) : BindsTo s fd ⟨us, []⟩ (ps.zip us) := by
  have := hb s us hi (by rw [List.append_nil]; exact hl)
  rwa [List.append_nil] at this
/-! ### operations whose readings know the slots -/
def OpRs (X : Cx) (f : Value → Value → Sem Value) (r : Sg → R2) : Prop :=
  ∀ (pn : List (Addr × Obj)) (s : Shared) (σ : Sg) (H : Hp) (x y : V) (v u : Value) (Q : VK), Inv X pn σ H s → RelV x v → RelV y u → r σ x y H Q → wpAny (model X.prog X.w) X.A (f v u) (EP X pn σ Q) X.xe s
def UnRs (X : Cx) (f : Value → Sem Value) (r : Sg → V → Hp → VK → Prop) : Prop :=
  ∀ (pn : List (Addr × Obj)) (s : Shared) (σ : Sg) (H : Hp) (x : V) (v : Value) (Q : VK), Inv X pn σ H s → RelV x v → r σ x H Q → wpAny (model X.prog X.w) X.A (f v) (EP X pn σ Q) X.xe s
def CallRs (X : Cx) (f : Value) (r : Sg → List V → Hp → VK → Prop) : Prop :=
  ∀ (pn : List (Addr × Obj)) (s : Shared) (σ : Sg) (H : Hp) (xs : List V) (us : List Value) (Q : VK), Inv X pn σ H s → Vals xs us → r σ xs H Q → wpAny (model X.prog X.w) X.A (call f us) (EP X pn σ Q) X.xe s
section
variable {ta tb : TE} {t : TA}
theorem pe_opS {op : Operator} {r : Sg → R2} (ho : OpRs X (binaryOp op) r) (ha : PE X a ta) (hb : PE X b tb) : PE X (.BinOp a op b pos) (fun σ H Q => tOp (r σ) ta tb σ H Q) :=
  ⟨fun pn s σ H Q I w => wpAny_BinOp (binT ha hb I w fun _ _ s' x y H' I' a1 a2 g => ho pn s' σ H' x y _ _ Q I' a1 a2 g)⟩
theorem pe_cmpRS {op : CmpOp} {r : Sg → R2} (ho : OpRs X (compareOp op) r) (ha : PE X a ta) (hb : PE X b tb) (hm : behindInMarks op b = false) : PE X (.Compare a [op] [b] pos) (fun σ H Q => tOp (r σ) ta tb σ H Q) :=
  ⟨fun pn s σ H Q I w => wpAny_Compare1 (binT ha hb I w fun _ _ s' x y H' I' a1 a2 g => ho pn s' σ H' x y _ _ Q I' a1 a2 g) hm⟩
theorem pt_cmpRS {op : CmpOp} {r : Sg → R2} (ho : OpRs X (compareOp op) r) (ha : PE X a ta) (hb : PE X b tb) (hm : behindInMarks op b = false) : PT X (.Compare a [op] [b] pos) (fun σ H Q => tTest (tOp (r σ) ta tb) σ H Q) :=
  ⟨fun pn s σ H Q I w => wpAny_isTrue_Compare1 (thn (ha.run pn s σ H _ I w) fun _ s1 ⟨x, H1, I1, a1, g1⟩ => thn (hb.run pn s1 σ H1 _ I1 g1) fun _ s2 ⟨y, H2, I2, a2, g2⟩ => thn (ho pn s2 σ H2 x y _ _ _ I2 a1 a2 g2) fun _ s3 ⟨z, H3, I3, a3, kk, ez, g3⟩ => by
    subst ez
    cases a3
    exact wpAny_truthy_bool ⟨_, I3, g3⟩) hm⟩
theorem pe_unS {op : UnaryOp} {r : Sg → V → Hp → VK → Prop} (ho : UnRs X (unaryOp op) r) (ha : PE X a ta) : PE X (.UnaryOp op a pos) (fun σ H Q => tUn (r σ) ta σ H Q) :=
  ⟨fun pn s σ H Q I w => UnaryOp_ (thn (ha.run pn s σ H _ I w) fun _ s1 ⟨x, H1, I1, a1, g1⟩ => ho pn s1 σ H1 x _ Q I1 a1 g1)⟩
theorem pe_callBS {id : String} {x : Str} {r : Sg → List V → Hp → VK → Prop} (hc : CallRs X (.builtin id) r) (hg : Gl X x) (hm : X.mg x = none) (hv : bootBuiltins x = some (.builtin id)) (ha : PA X (e :: es) t) (hn : x ≠ "__name__") (hdb : (x == ("__debug__" : Str)) = false)
    (he : starEach (e :: es) X.env = (false, eval e X.env) :: starEach es X.env) (hpl : (backTo pos (starEach es X.env)).any (·.1) = false) : PE X (.Call (.Name x p) (e :: es) [] pos) (fun σ H Q => tCB (r σ) t σ H Q) :=
  ⟨fun pn s σ H Q I w => wpAny_Call_Name_kw (ld_blt I hg hm hv (PyProof.Rows.callWith_builtin1 (thn (ha.run pos pn s σ H _ I w) fun us s1 ⟨vs, H1, I1, a1, g1⟩ => hc pn s1 σ H1 vs us Q I1 a1 g1) he hpl) hn hdb)⟩
end
/-! ### an own operator -/
/-- the reading of an own operator of two -/
def rOwn2 (K : PySem.W.Frag) (CA : Nat → Addr) (E : XK) (C : Nat) (w : Way) (g : Fc) : R2 := fun x y H Q => ∃ W dx dy st, SR W st H ∧ W.K = K ∧ W.CA = CA ∧ Rep W dx x ∧ Rep W dy y ∧ isC C dx st = true ∧ isC C dy st = true ∧ Post W E ((g [dx, dy] st).bind fun d st3 => wayEnd w d st3) Q
theorem isC_V {W : Wo} {st : Store} {H : Hp} (s : SR W st H) {d : D} {v : V} (r : Rep W d v) (e : isC C d st = true) : ∃ a dx es, v = .ref a ∧ H a = some (.ins (W.CA C) dx es) := by
  unfold isC at e
  split at e
  · rename_i C' fs ef
    rw [decide_eq_true_eq] at e
    subst e
    obtain ⟨a, dx, es, h1, h2, _⟩ := flds_V s r ef
    exact ⟨a, dx, es, h1, h2⟩
  · cases e
theorem isI_V {W : Wo} {st : Store} {H : Hp} (s : SR W st H) {d : D} {v : V} (r : Rep W d v) (e : isI m C d st = true) : ∃ a dx es, v = .ref a ∧ H a = some (.ins (W.CA C) dx es) ∧ es.lookup m = none := by
  unfold isI at e
  split at e
  · rename_i C' fs ef
    rw [Bool.and_eq_true, decide_eq_true_eq, Option.isNone_iff_eq_none] at e
    obtain ⟨rfl, e2⟩ := e
    obtain ⟨a, dx, es, h1, h2, h3⟩ := flds_V s r ef
    refine ⟨a, dx, es, h1, h2, ?_⟩
    rcases h3.look (x := m) with ⟨_, q⟩ | ⟨d, v, q, _⟩
    · exact q
    · rw [e2] at q
      cases q
  · cases e
theorem inst_at {pins : List (Addr × Obj)} {σ : Sg} {H : Hp} {s : Shared} (I : Inv X pins σ H s) {x Ca dx : Addr} {fs : List (Str × V)} (h : H x = some (.ins Ca dx fs)) : ∃ ox od, PySem.W.InstAt s.heap x ox Ca od ∧ ox.data = .plain := by
  obtain ⟨mA, O, _⟩ := ins_get I.hok h
  obtain ⟨od, J, _⟩ := O.look
  exact ⟨_, _, J, rfl⟩
theorem op_own2 (c : Cok (k + 1) X) (hE : Tk X B.E) (cx : ClsX X.K (B.CA C)) (F : Mx X.prog X.w X.K X.mg X.base B.CA k C m ps kf g) {o : Operator} (hm : m = PySem.dunder o.info.2) : OpRs X (binaryOp o) (fun σ => rOwn2 X.K B.CA (B.E σ) C (.bin o) g) := by
  intro pins s σ H x y v u Q I rx ry ⟨W, dx, dy, st, sr, hK, hCA, px, py, ix, iy, q⟩
  obtain ⟨fa, fd, M, hfi, hb, _, G⟩ := F.ex
  obtain ⟨a, ax, ae, rfl, hA⟩ := isC_V sr px ix
  obtain ⟨b', bx, be, rfl, hB⟩ := isC_V sr py iy
  rw [hCA] at hA hB
  cases (show v = Value.ref a from rx)
  cases (show u = Value.ref b' from ry)
  obtain ⟨ox, od, J, _⟩ := inst_at I hA
  obtain ⟨oy, oe, J', _⟩ := inst_at I hB
  obtain ⟨mm, hF⟩ := I.fr
  have q' := post_way q
  have hp : prom X.K B.CA g [.ref a, .ref b'] H (WayQ (.bin o) Q) (B.E σ) := ⟨W, [dx, dy], st, hK, hCA, .cons px (.cons py .nil), sr, q'⟩
  have hl : ([Value.ref a, .ref b'] : List Value).length = ps.length := G.len _ _ _ _ hp
  refine PySem.W.binop_K hF I.ok.mod.kin J J'.type cx.sf (by rw [← hm]; exact M.at_) M.fn ?_
  refine wpAny_mono (run_gA (args := ⟨[.ref a, .ref b'], []⟩) G (hE σ) c.grd (c.room.mono (Nat.le_succ k)) I.env0 (binds_at hb I.kIn hl) I (.cons rx (.cons ry .nil)) hp) (fun w s' z => ?_) fun _ _ x => x
  obtain ⟨z', H', I', rz, qz⟩ := z
  exact SlX.cmpback rz ⟨z', H', I', rz, qz⟩
theorem op_ownC (c : Cok (k + 1) X) (hE : Tk X B.E) (cx : ClsX X.K (B.CA C)) (F : Mx X.prog X.w X.K X.mg X.base B.CA k C m ps kf g) {o : CmpOp} (hop : ∀ a b, compareOp o a b = richCompare o a b) (hm : m = (cmpInfo o).2.1) : OpRs X (compareOp o) (fun σ => rOwn2 X.K B.CA (B.E σ) C (.cmp o) g) := by
  intro pins s σ H x y v u Q I rx ry ⟨W, dx, dy, st, sr, hK, hCA, px, py, ix, iy, q⟩
  obtain ⟨fa, fd, M, hfi, hb, _, G⟩ := F.ex
  obtain ⟨a, ax, ae, rfl, hA⟩ := isC_V sr px ix
  obtain ⟨b', bx, be, rfl, hB⟩ := isC_V sr py iy
  rw [hCA] at hA hB
  cases (show v = Value.ref a from rx)
  cases (show u = Value.ref b' from ry)
  obtain ⟨ox, od, J, _⟩ := inst_at I hA
  obtain ⟨oy, oe, J', _⟩ := inst_at I hB
  obtain ⟨mm, hF⟩ := I.fr
  have q' := post_way q
  have hp : prom X.K B.CA g [.ref a, .ref b'] H (WayQ (.cmp o) Q) (B.E σ) := ⟨W, [dx, dy], st, hK, hCA, .cons px (.cons py .nil), sr, q'⟩
  have hl : ([Value.ref a, .ref b'] : List Value).length = ps.length := G.len _ _ _ _ hp
  rw [hop]
  refine PySem.W.cmp_K c.room.units0 hF I.ok.mod.kin J J'.type (by unfold PySem.W.notFirst; simp) (by rw [← hm]; exact M.at_) M.fn ?_
  refine wpAny_mono (run_gA (args := ⟨[.ref a, .ref b'], []⟩) G (hE σ) c.grd (c.room.mono (Nat.le_succ k)) I.env0 (binds_at hb I.kIn hl) I (.cons rx (.cons ry .nil)) hp) (fun w s' z => ?_) fun _ _ x => x
  obtain ⟨z', H', I', rz, qz⟩ := z
  exact SlX.cmpback rz ⟨z', H', I', rz, qz⟩
theorem op_ownNe (c : Cok (k + 1) X) (hE : Tk X B.E) (cx : ClsX X.K (B.CA C)) (hne : PySem.W.findIn X.K (.ref (B.CA C)) "__ne__" = some (some (.builtin "object.__ne__"))) (F : Mx X.prog X.w X.K X.mg X.base B.CA k C m ps kf g) (hm : m = "__eq__") : OpRs X (compareOp .NotEq) (fun σ => rOwn2 X.K B.CA (B.E σ) C .ne g) := by
  subst hm
  intro pins s σ H x y v u Q I rx ry ⟨W, dx, dy, st, sr, hK, hCA, px, py, ix, iy, q⟩
  obtain ⟨fa, fd, M, hfi, hb, _, G⟩ := F.ex
  obtain ⟨a, ax, ae, rfl, hA⟩ := isC_V sr px ix
  obtain ⟨b', bx, be, rfl, hB⟩ := isC_V sr py iy
  rw [hCA] at hA hB
  cases (show v = Value.ref a from rx)
  cases (show u = Value.ref b' from ry)
  obtain ⟨ox, od, J, _⟩ := inst_at I hA
  obtain ⟨oy, oe, J', _⟩ := inst_at I hB
  have q' := post_way q
  have hp : prom X.K B.CA g [.ref a, .ref b'] H (WayQ .ne Q) (B.E σ) := ⟨W, [dx, dy], st, hK, hCA, .cons px (.cons py .nil), sr, q'⟩
  have hl : ([Value.ref a, .ref b'] : List Value).length = ps.length := G.len _ _ _ _ hp
  refine PySem.W.ne_K I.kIn J J' hne M.at_ M.fn cx.so (by have := c.room.un; omega) ?_
  refine wpAny_mono (run_gA (A := X.A.in1) (args := ⟨[.ref a, .ref b'], []⟩) G (hE σ) c.grd c.room.in1 I.env0.in1 (binds_at hb I.kIn hl) I (.cons rx (.cons ry .nil)) hp) (fun w s' z => ?_) fun _ _ x => x
  obtain ⟨z', H', I', rz, kk, ek, qz⟩ := z
  subst ek
  cases (show w = Value.bool kk from rz)
  exact ⟨kk, rfl, .bl (!kk), H', I', rfl, qz⟩
/-- the reading of an own operator of one -/
def rOwn1 (K : PySem.W.Frag) (CA : Nat → Addr) (E : XK) (C : Nat) (w : Way) (g : Fc) : V → Hp → VK → Prop := fun x H Q => ∃ W dx st, SR W st H ∧ W.K = K ∧ W.CA = CA ∧ Rep W dx x ∧ isC C dx st = true ∧ Post W E ((g [dx] st).bind fun d st3 => wayEnd w d st3) Q
theorem op_ownInv (c : Cok (k + 1) X) (hE : Tk X B.E) (F : Mx X.prog X.w X.K X.mg X.base B.CA k C m ps kf g) (hm : m = "__invert__") : UnRs X (unaryOp .Invert) (fun σ => rOwn1 X.K B.CA (B.E σ) C .inv g) := by
  subst hm
  intro pins s σ H x v Q I rx ⟨W, dx, st, sr, hK, hCA, px, ix, q⟩
  obtain ⟨fa, fd, M, hfi, hb, _, G⟩ := F.ex
  obtain ⟨a, ax, ae, rfl, hA⟩ := isC_V sr px ix
  rw [hCA] at hA
  cases (show v = Value.ref a from rx)
  obtain ⟨ox, od, J, _⟩ := inst_at I hA
  obtain ⟨mm, hF⟩ := I.fr
  have q' := post_way q
  have hp : prom X.K B.CA g [.ref a] H (WayQ .inv Q) (B.E σ) := ⟨W, [dx], st, hK, hCA, .cons px .nil, sr, q'⟩
  have hl : ([Value.ref a] : List Value).length = ps.length := G.len _ _ _ _ hp
  exact PySem.W.ksp_inv hF I.ok.mod.kin J M.at_ M.fn (run_gA (args := ⟨[.ref a], []⟩) G (hE σ) c.grd (c.room.mono (Nat.le_succ k)) I.env0 (binds_at hb I.kIn hl) I (.cons rx .nil) hp)
theorem call_ownLen (c : Cok (k + 1) X) (hE : Tk X B.E) (F : Mx X.prog X.w X.K X.mg X.base B.CA k C m ps kf g) (hm : m = "__len__") : CallRs X (.builtin "len") (fun σ vs H Q => ∃ x, vs = [x] ∧ rOwn1 X.K B.CA (B.E σ) C .len g x H Q) := by
  subst hm
  intro pins s σ H vs us Q I rv ⟨x, ev, W, dx, st, sr, hK, hCA, px, ix, q⟩
  subst ev
  obtain ⟨fa, fd, M, hfi, hb, _, G⟩ := F.ex
  obtain ⟨a, ax, ae, rfl, hA⟩ := isC_V sr px ix
  rw [hCA] at hA
  obtain ⟨v, rfl, rx⟩ := vals1 rv
  cases (show v = Value.ref a from rx)
  obtain ⟨ox, od, J, _⟩ := inst_at I hA
  obtain ⟨mm, hF⟩ := I.fr
  have q' := post_way q
  have hp : prom X.K B.CA g [.ref a] H (WayQ .len Q) (B.E σ) := ⟨W, [dx], st, hK, hCA, .cons px .nil, sr, q'⟩
  have hl : ([Value.ref a] : List Value).length = ps.length := G.len _ _ _ _ hp
  refine PySem.W.len_K hF I.ok.mod.kin J M.at_ M.fn ?_
  refine wpAny_mono (run_gA (A := X.A.in1) (args := ⟨[.ref a], []⟩) G (hE σ) c.grd c.room.in1 I.env0.in1 (binds_at hb I.kIn hl) I (.cons rx .nil) hp) (fun w s' z => ?_) fun _ _ x => x
  obtain ⟨z', H', I', rz, n, en, n0, n1, qz⟩ := z
  subst en
  obtain ⟨t, rfl⟩ := (show ∃ t, w = Value.int n t from rz)
  exact ⟨⟨n0, by omega⟩, .int n, H', I'.tok _, ⟨_, rfl⟩, qz⟩
end
end TM
set_option maxHeartbeats 1000000
/-! TM, part ND: own classes: calls of methods, making, attributes, isinstance. -/
namespace TM
open PySem PySem.Spec PyProof.Rows L2
theorem make_grd {A : Around} {C : Addr} {us : List Value} {kw : List (Str × Value)} : (A.under (.builtin "type.__call__" ⟨.ref C :: us, kw⟩)).guards = A.guards := by
  have h : (Code.builtin "type.__call__" ⟨.ref C :: us, kw⟩).guards = [] := by
    unfold Code.guards
    have : (Code.builtin "type.__call__" ⟨.ref C :: us, kw⟩).isGuard = false := by
      show guardIds.contains "type.__call__" = false
      decide +kernel
    rw [this]
    rfl
  show pushGuards (Code.builtin "type.__call__" ⟨.ref C :: us, kw⟩).guards A.guards = A.guards
  rw [h]
  unfold pushGuards
  cases A.guards <;> rfl
section
variable {X : Cx} {B : Bx} {k C : Nat} {a b c e : Expr} {es : List Expr} {p pos apos : Pos} {m x : Str} {ps : List Str} {kf : List Kform} {g : Fc} {evr : Ev} {evs : Slots → Store → Res (List D)}
theorem star_plain {es : List Expr} {env : Env} {pos : Pos} (h : es.all (fun e => !isStar e) = true) : (backTo pos (starEach es env)).all (fun x => !x.1) = true := by
  have := star_none (env := env) (pos := pos) h
  rw [List.any_eq_false] at this
  rw [List.all_eq_true]
  intro x hx
  simpa using this x hx
theorem form_of {env : Env} {pos : Pos} {es : List Expr} {kws : List Keyword} (h : es.all (fun e => !isStar e) = true) (hk : (backToKw pos (keywordEach kws env)).all (fun x => x.1.isSome) = true) (hl : es.length + kws.length < 29) :
    methodCallForm (es.length + kws.length) (backTo pos (starEach es env)) (backToKw pos (keywordEach kws env)) = true := by
  have lk : (backToKw pos (keywordEach kws env)).length = kws.length := by
    have : ∀ kws : List Keyword, (backToKw pos (keywordEach kws env)).length = kws.length := by
      intro kws
      induction kws with
      | nil => rfl
      | cons a r ih =>
        obtain ⟨n, v, p⟩ := a
        show _ + 1 = _ + 1
        first | exact congrArg (· + 1) ih | (rw [← ih]; rfl)
    exact this kws
  unfold methodCallForm
  simp only [star_plain h, hk, Bool.true_and, Bool.and_true, Bool.and_eq_true, decide_eq_true_eq]
  first | omega | (split <;> omega) | (refine ⟨?_, ?_⟩ <;> first | omega | (split <;> omega))
theorem isI_isC {d : D} {st : Store} (h : isI m C d st = true) : ∃ fs, fldsOf d st = some (C, fs) ∧ fs.lookup m = none := by
  unfold isI at h
  split at h
  · rename_i C' fs ef
    rw [Bool.and_eq_true, decide_eq_true_eq, Option.isNone_iff_eq_none] at h
    obtain ⟨rfl, e2⟩ := h
    exact ⟨fs, ef, e2⟩
  · cases h
/-- o.m(e, ..) -/
theorem e_mth (c : Cok (k + 1) X) (hK : B.K = X.K) (hE : Tk X B.E) (cx : Cls X.K (B.CA C)) (F : Mx X.prog X.w X.K X.mg X.base B.CA k C m ps kf g) (hb : noSuper a = true) (hlen : (e :: es).length < 29) (hl : (apos.endLine == pos.line) = true) (hs : (e :: es).all (fun e => !isStar e) = true) (ha : PE X a (tE B evr)) (hes : PA X (e :: es) (tA B evs)) :
    PE X (.Call (.Attribute a m apos) (e :: es) [] pos) (tE B fun sl st => (evr sl st).bind fun x st1 => if isI m C x st1 then (evs sl st1).bind fun ds st2 => if isC C x st2 && wayOk .dot C ds st2 then (g (x :: ds) st2).bind fun d st3 => wayEnd .dot d st3 else .stuck else .stuck) := by
  obtain ⟨fa, fd, M, hfi, hbd, _, G⟩ := F.ex
  have h2 := hs
  rw [List.all_cons, Bool.and_eq_true, Bool.not_eq_true'] at h2
  refine ⟨fun pins s σ H Q I ⟨W, sl, st, h1, h2', h3, h4, h5⟩ => ?_⟩
  have hA : tE B evr σ H fun v H1 => ∃ ra dx fs, v = .ref ra ∧ H1 ra = some (.ins (B.CA C) dx fs) ∧ fs.lookup m = none ∧ tA B evs σ H1 fun vs H2 => prom X.K B.CA g (.ref ra :: vs) H2 Q (B.E σ) := by
    refine tE_then h1 h2' h3 h4 h5 fun x st1 W1 H1 v k1 k2 k3 k4 r1 l1 q1 => ?_
    split at q1
    · rename_i hi
      obtain ⟨ra, dx, fs, rfl, hH, hn⟩ := isI_V k4 r1 hi
      rw [k2] at hH
      refine ⟨ra, dx, fs, rfl, hH, hn, tA_then k1 k2 k3 k4 q1 fun ds st2 W2 H2 vs m1 m2 m3 m4 r2 l2 q2 => ?_⟩
      split at q2
      · exact ⟨W2, x :: ds, st2, m1.trans hK, m2, .cons (r1.mono l2) r2, m4, post_way q2⟩
      · exact q2.elim
    · exact q1.elim
  refine PySem.W.methodCall_KW (thn (ha.run pins s σ H _ I hA) fun u s1 ⟨v, H1, I1, rv, ra, dx, fs, ev, hH, hn, q⟩ => ?_) (meth_eval hb (form_of hs rfl (by rw [List.length_nil, Nat.add_zero]; exact hlen)) hl)
  subst ev
  obtain rfl : u = Value.ref ra := rv
  refine getmeth_ok I1 hH cx M hn ?_
  refine PySem.W.callWith_K (first := [.ref ra]) (h₀ := X.base) I.ok.mod.kin M.kp (thn (hes.run pos pins s1 σ H1 _ I1 q) fun us s2 ⟨vs, H2, I2, r, q2⟩ => ⟨I2.kIn, ?_⟩) (star_cons h2.1) (star_none h2.2)
  have rr : Vals (V.ref ra :: vs) (Value.ref ra :: us) := .cons rfl r
  have hl2 : (Value.ref ra :: us).length = ps.length := by rw [← rr.length]; exact G.len _ _ _ _ q2
  exact run_gA (args := ⟨.ref ra :: us, []⟩) G (hE σ) c.grd (c.room.mono (Nat.le_succ k)) I2.env0 (binds_at hbd I2.kIn hl2) I2 rr q2
/-- o.m() -/
theorem e_mth0 (c : Cok (k + 1) X) (hK : B.K = X.K) (hE : Tk X B.E) (cx : Cls X.K (B.CA C)) (F : Mx X.prog X.w X.K X.mg X.base B.CA k C m ps kf g) (hb : noSuper a = true) (hl : (apos.endLine == pos.line) = true) (ha : PE X a (tE B evr)) :
    PE X (.Call (.Attribute a m apos) [] [] pos) (tE B fun sl st => (evr sl st).bind fun x st1 => if isI m C x st1 then (Res.ok (α := List D) [] st1).bind fun ds st2 => if isC C x st2 && wayOk .dot C ds st2 then (g (x :: ds) st2).bind fun d st3 => wayEnd .dot d st3 else .stuck else .stuck) := by
  obtain ⟨fa, fd, M, hfi, hbd, _, G⟩ := F.ex
  refine ⟨fun pins s σ H Q I ⟨W, sl, st, h1, h2', h3, h4, h5⟩ => ?_⟩
  have hA : tE B evr σ H fun v H1 => ∃ ra dx fs, v = .ref ra ∧ H1 ra = some (.ins (B.CA C) dx fs) ∧ fs.lookup m = none ∧ prom X.K B.CA g [.ref ra] H1 Q (B.E σ) := by
    refine tE_then h1 h2' h3 h4 h5 fun x st1 W1 H1 v k1 k2 k3 k4 r1 l1 q1 => ?_
    split at q1
    · rename_i hi
      obtain ⟨ra, dx, fs, rfl, hH, hn⟩ := isI_V k4 r1 hi
      rw [k2] at hH
      refine ⟨ra, dx, fs, rfl, hH, hn, ?_⟩
      rw [Res.bind_ok] at q1
      split at q1
      · exact ⟨W1, [x], st1, k1.trans hK, k2, .cons r1 .nil, k4, post_way q1⟩
      · exact q1.elim
    · exact q1.elim
  refine PySem.W.methodCall_KW (thn (ha.run pins s σ H _ I hA) fun u s1 ⟨v, H1, I1, rv, ra, dx, fs, ev, hH, hn, q⟩ => ?_) (meth_eval hb (form_of rfl rfl (by decide)) hl)
  subst ev
  obtain rfl : u = Value.ref ra := rv
  refine getmeth_ok I1 hH cx M hn ?_
  have rr : Vals [V.ref ra] [Value.ref ra] := .cons rfl .nil
  have hl2 : [Value.ref ra].length = ps.length := by rw [← rr.length]; exact G.len _ _ _ _ q
  exact PySem.W.callWith_K0 (first := [.ref ra]) I1.kIn M.kp (run_gA (args := ⟨[.ref ra], []⟩) G (hE σ) c.grd (c.room.mono (Nat.le_succ k)) I1.env0 (binds_at hbd I1.kIn hl2) I1 rr q)
/-- o.m(k = e, ..) -/
theorem e_mthK (c : Cok (k + 1) X) (hK : B.K = X.K) (hE : Tk X B.E) (cx : Cls X.K (B.CA C)) (F : MxK X.prog X.w X.K X.mg X.base B.CA k C m ps kf g) {q : Kform} (hq : q ∈ kf) (hnp : q.np = 1) {kws : List Keyword} (hx : kws.map (·.arg) = q.xs.map some) {evk : Slots → Store → Res (List D)}
    (hlen : ∀ sl st ds st', evk sl st = .ok ds st' → ds.length = q.xs.length) (hb : noSuper a = true) (hlk : kws.length < 29) (hl : (apos.endLine == pos.line) = true) (ha : PE X a (tE B evr)) (hka : PK X kws (tA B evk)) :
    PE X (.Call (.Attribute a m apos) [] kws pos) (tE B fun sl st => (evr sl st).bind fun x st1 => if isI m C x st1 then (Res.ok (α := List D) [] st1).bind fun ds st2 => (evk sl st2).bind fun zs st3 => match permA (x :: ds ++ zs) q.pm with | some vs => g vs st3 | none => .stuck else .stuck) := by
  obtain ⟨fa, fd, M, hfi, hbd, G⟩ := F.ex
  obtain ⟨n1, n2, n3⟩ := kw_names (env := X.env) (pos := pos) hx
  refine ⟨fun pins s σ H Q I ⟨W, sl, st, h1, h2', h3, h4, h5⟩ => ?_⟩
  have hA : tE B evr σ H fun v H1 => ∃ ra dx fs, v = .ref ra ∧ H1 ra = some (.ins (B.CA C) dx fs) ∧ fs.lookup m = none ∧ tA B evk σ H1 fun zs H2 => zs.length = q.xs.length ∧ ∃ us, permA (V.ref ra :: zs) q.pm = some us ∧ prom X.K B.CA g us H2 Q (B.E σ) := by
    refine tE_then h1 h2' h3 h4 h5 fun x st1 W1 H1 v k1 k2 k3 k4 r1 l1 q1 => ?_
    split at q1
    · rename_i hi
      obtain ⟨ra, dx, fs, rfl, hH, hn⟩ := isI_V k4 r1 hi
      rw [k2] at hH
      refine ⟨ra, dx, fs, rfl, hH, hn, W1, sl, st1, k1, k2, k3, k4, ?_⟩
      rw [Res.bind_ok] at q1
      cases hr2 : evk sl st1 with
      | stuck => rw [hr2] at q1; exact q1.elim
      | exc C fs st' => rw [hr2] at q1; exact q1
      | ok zs st2 =>
        rw [hr2, Res.bind_ok] at q1
        intro W2 H2 zv l2 s2 r2
        refine ⟨by rw [r2.length]; exact hlen _ _ _ _ hr2, ?_⟩
        cases hp : permA (x :: [] ++ zs) q.pm with
        | none => rw [hp] at q1; exact q1.elim
        | some es' =>
          rw [hp] at q1
          obtain ⟨us, e1, e2⟩ := perm_rep (ds := x :: [] ++ zs) (vs := V.ref ra :: zv) (.cons (r1.mono l2) r2) hp
          exact ⟨us, e1, W2, es', st2, (l2.K.trans k1).trans hK, l2.CA.trans k2, e2, s2, Post.mono l2 q1⟩
    · exact q1.elim
  refine PySem.W.methodCall_KW (thn (ha.run pins s σ H _ I hA) fun u s1 ⟨v, H1, I1, rv, ra, dx, fs, ev, hH, hn, q1⟩ => ?_) (meth_eval hb (form_of rfl n1 (by rw [List.length_nil, Nat.zero_add]; exact hlk)) hl)
  subst ev
  obtain rfl : u = Value.ref ra := rv
  refine getmeth_ok I1 hH cx M hn ?_
  refine PySem.W.callWith_KW0 (first := [.ref ra]) (h₀ := X.base) I.ok.mod.kin M.kp n1 (thn (hka.run pos pins s1 σ H1 _ I1 q1) fun ws s2 ⟨zs, H2, I2, rz, hz, as', e1, q2⟩ => ⟨I2.kIn, ?_⟩) (by rw [n3]; rfl)
  rw [n2]
  have rr : Vals (V.ref ra :: zs) (Value.ref ra :: ws) := .cons rfl rz
  obtain ⟨as, e2, rv⟩ := perm_vals rr e1
  exact run_gA (args := ⟨[.ref ra], q.xs.zip ws⟩) G (hE σ) c.grd (c.room.mono (Nat.le_succ k)) I2.env0 (hbd q hq s2 [.ref ra] ws as I2.kIn (by rw [hnp]; rfl) (by rw [← rz.length]; exact hz) e2 (by rw [← rv.length]; exact G.len _ _ _ _ q2)) I2 rv q2
/-! ### making -/
theorem run_makeG {Ca fa : Addr} {fd : FuncData} {sp : Sp} {pins : List (Addr × Obj)} {σ : Sg} {H : Hp} {s : Shared} {Q : VK} {us : List Value} {vs : List V} {E : XK} (M : Mk X.K Ca fa) (F : FnG X.prog X.w X.K X.mg X.base k fa fd ps sp) (hx : PassesAt (L2.CX X.prog X.w) X σ E) (c : Cok (k + 1) X) (hb : Binds X.K fd ps [])
    (I : Inv X pins σ H s) (r : Vals vs us)
    (h : ∀ x dx, H x = none → H dx = none → dx ≠ x → sp (.ref x :: vs) (upd (upd H dx (.own x)) x (.ins Ca dx [])) (fun v H2 => v = .non ∧ Q (.ref x) H2) E) :
    wpAny (model X.prog X.w) X.A (call (.ref Ca) us) (EP X pins σ Q) X.xe s := by
  have hq := h (s.heap.objs.size + 1) s.heap.objs.size (I.hok.fresh (Nat.le_succ _)) (I.hok.fresh (Nat.le_refl _)) (Nat.ne_of_lt (Nat.lt_succ_self _))
  have I2 := Inv.made (C := Ca) I
  have r2 : Vals (V.ref (s.heap.objs.size + 1) :: vs) (Value.ref (s.heap.objs.size + 1) :: us) := .cons rfl r
  have hl : (Value.ref (s.heap.objs.size + 1) :: us).length = ps.length := by rw [← r2.length]; exact F.len _ _ _ _ hq
  refine wpAny_call (make_map (f := fa) I.kIn M.makes M.init (beq_iff_eq.mp M.fn) (codeAny_mono (F.run _ X.stack _ _ ⟨Value.ref (s.heap.objs.size + 1) :: us, []⟩ (Value.ref (s.heap.objs.size + 1) :: us) _ _ E (by rw [make_grd]; exact c.grd) (c.room.make Ca us [])
    (I2.env0.make Ca us []) (binds_at hb I2.kIn hl) r2 hq) fun r s' hq' => ?_))
  cases r with
  | error e => exact hx pins _ _ e s' I2 hq'
  | ok fl =>
    cases fl with
    | ret u =>
      obtain ⟨v, H', I3, rv, ev, q3⟩ := I2.after hq'
      subst ev
      exact ⟨rv, ⟨V.ref (s.heap.objs.size + 1), H', I3, rfl, q3⟩⟩
    | next => exact False.elim hq'
    | brk => exact False.elim hq'
    | cont => exact False.elim hq'
/-- __init__ of the class C computes g -/
structure Ix (P : Program) (w : World) (K : PySem.W.Frag) (mg : Str → Option Value) (base : Heap) (CA : Nat → Addr) (k C : Nat) (ps : List Str) (g : Fc) : Prop where
  ex : ∃ fa fd, Mk K (CA C) fa ∧ Binds K fd ps [] ∧ FnG P w K mg base k fa fd ps (prom K CA g)
theorem post_new {W : Wo} {st : Store} {H : Hp} (s : SR W st H) {mt : Bool} {ds : List D} {vs : List V} (r : RepL W ds vs) {E : XK} {Q : VK} {x dx : Addr} (hx : H x = none) (hd : H dx = none) (ne : dx ≠ x)
    (q : Post W E ((g (.loc st.length :: ds) (st ++ [.ins C []])).bind fun r st2 => if r = .non then newEnd mt st.length C st2 else .stuck) Q) :
    ∃ W' ds' st', W'.K = W.K ∧ W'.CA = W.CA ∧ RepL W' ds' (.ref x :: vs) ∧ SR W' st' (upd (upd H dx (.own x)) x (.ins (W.CA C) dx [])) ∧ Post W' E (g ds' st') (fun v H2 => v = .non ∧ Q (.ref x) H2) := by
  have s1 := s.newIns hx hd ne C
  have hm := new_at s (x := x)
  refine ⟨W.cell x, .loc st.length :: ds, st ++ [.ins C []], rfl, rfl, .cons (by simp only [Rep]; exact ⟨x, hm, rfl⟩) (r.mono le_cell), s1, ?_⟩
  refine post_bind (Post.mono le_cell q) fun d st2 W2 H2 v l2 s2 r2 q2 => ?_
  split at q2
  · rename_i hn
    subst hn
    refine ⟨rep_non r2, ?_⟩
    have hm2 := l2.mu _ _ hm
    unfold newEnd at q2
    split at q2
    · rename_i C' fs hc
      split at q2
      · rename_i hC
        subst hC
        split at q2
        · exact post_here s2 (by simp only [Rep]; exact ⟨x, hm2, rfl⟩) q2
        · obtain ⟨hf, dx', es, hH, rf⟩ := s2.cell _ _ _ hc hm2
          have s3 := s2.freeze hc hm2 hf hH
          have l3 : Le W2 (W2.still x (.ins (W2.CA C') dx' es)) := le_still hf
          refine post_here s3 ?_ (Post.mono l3 q2)
          simp only [Rep]
          exact ⟨x, dx', es, rfl, upd_same, rf.mono' l3.li⟩
      · exact q2.elim
    · exact q2.elim
  · exact q2.elim
theorem new_then {mt : Bool} {σ : Sg} {H : Hp} {Q : VK} {W : Wo} {sl : Slots} {st : Store} (hK : B.K = X.K) (hE : Tk X B.E) (h1 : W.K = B.K) (h2 : W.CA = B.CA) (h3 : SlR W sl σ) (h4 : SR W st H)
    (h : Post W (B.E σ) ((evs sl st).bind fun ds st1 => (g (.loc st1.length :: ds) (st1 ++ [.ins C []])).bind fun r st2 => if r = .non then newEnd mt st1.length C st2 else .stuck) Q) :
    tA B evs σ H fun vs H1 => ∀ x dx, H1 x = none → H1 dx = none → dx ≠ x → prom X.K B.CA g (.ref x :: vs) (upd (upd H1 dx (.own x)) x (.ins (B.CA C) dx [])) (fun v H2 => v = .non ∧ Q (.ref x) H2) (B.E σ) :=
  tA_then h1 h2 h3 h4 h fun ds st1 W1 H1 vs k1 k2 k3 k4 r1 l1 q1 x dx hx hd ne => by
    obtain ⟨W', ds', st', j1, j2, j3, j4, j5⟩ := post_new k4 r1 hx hd ne q1
    rw [k2] at j4
    exact ⟨W', ds', st', (j1.trans k1).trans hK, j2.trans k2, j3, j4, j5⟩
theorem e_new (c : Cok (k + 1) X) (hK : B.K = X.K) (hE : Tk X B.E) (F : Ix X.prog X.w X.K X.mg X.base B.CA k C ps g) (hkp : PySem.W.keepIn X.K (.ref (B.CA C)) = true) (hm : X.mg x = some (.ref (B.CA C))) (hg : Gl X x) (hd : (x == ("__debug__" : Str)) = false) (hs : (e :: es).all (fun e => !isStar e) = true) (mt : Bool) (ha : PA X (e :: es) (tA B evs)) :
    PE X (.Call (.Name x p) (e :: es) [] pos) (tE B fun sl st => (evs sl st).bind fun ds st1 => (g (.loc st1.length :: ds) (st1 ++ [.ins C []])).bind fun r st2 => if r = .non then newEnd mt st1.length C st2 else .stuck) := by
  obtain ⟨fa, fd, M, hb, G⟩ := F.ex
  have h2 := hs
  rw [List.all_cons, Bool.and_eq_true, Bool.not_eq_true'] at h2
  refine ⟨fun pins s σ H Q I ⟨W, sl, st, h1, h2', h3, h4, h5⟩ => ?_⟩
  refine wpAny_Call_Name_kw (ld_glob I hg hm ?_ hd)
  exact PySem.W.callWith_K (h₀ := X.base) I.ok.mod.kin hkp (thn (ha.run pos pins s σ H _ I (new_then hK hE h1 h2' h3 h4 h5)) fun us s1 ⟨vs, H1, I1, r, q⟩ => ⟨I1.kIn, run_makeG M G (hE σ) c hb I1 r q⟩) (star_cons h2.1) (star_none h2.2)
theorem e_newv {i : Nat} (c : Cok (k + 1) X) (hK : B.K = X.K) (hE : Tk X B.E) (F : Ix X.prog X.w X.K X.mg X.base B.CA k C ps g) (hkp : PySem.W.keepIn X.K (.ref (B.CA C)) = true) (hN : X.N[i]? = some x) (hv : Vis X.env.scope x) (hd : (x == ("__debug__" : Str)) = false) (hc : (x == ("__classdict__" : Str)) = false) (hs : (e :: es).all (fun e => !isStar e) = true) (mt : Bool) (ha : PA X (e :: es) (tA B evs)) :
    PE X (.Call (.Name x p) (e :: es) [] pos) (tE B fun sl st => if sl[i]? = some (some (.cls C)) then (evs sl st).bind fun ds st1 => (g (.loc st1.length :: ds) (st1 ++ [.ins C []])).bind fun r st2 => if r = .non then newEnd mt st1.length C st2 else .stuck else .stuck) := by
  obtain ⟨fa, fd, M, hb, G⟩ := F.ex
  have h2 := hs
  rw [List.all_cons, Bool.and_eq_true, Bool.not_eq_true'] at h2
  refine ⟨fun pins s σ H Q I ⟨W, sl, st, h1, h2', h3, h4, h5⟩ => ?_⟩
  dsimp only at h5
  split at h5
  · rename_i hsl
    obtain ⟨v, ev, rv⟩ := h3.get hsl
    simp only [Rep] at rv
    rw [h2'] at rv
    subst rv
    refine wpAny_Call_Name_kw (thn ((pe_var hN hv hd hc).run pins s σ H (fun v H1 => v = .ref (B.CA C) ∧ H1 = H) I ⟨_, ev, rfl, rfl⟩) fun u s1 ⟨v, H1, I1, ru, evv, eH⟩ => ?_)
    subst evv eH
    obtain rfl : u = Value.ref (B.CA C) := ru
    exact PySem.W.callWith_K (h₀ := X.base) I1.ok.mod.kin hkp (thn (ha.run pos pins s1 σ H1 _ I1 (new_then hK hE h1 h2' h3 h4 h5)) fun us s2 ⟨vs, H2, I2, r, q⟩ => ⟨I2.kIn, run_makeG M G (hE σ) c hb I2 r q⟩) (star_cons h2.1) (star_none h2.2)
  · exact h5.elim
/-! ### attributes -/
theorem e_fld {nc : Nat} (hK : B.K = X.K) (hc : ∀ C, C < nc → Cls X.K (B.CA C) ∧ NoAttr X.K (B.CA C) x) (hb : noSuper a = true) (ha : PE X a (tE B evr)) :
    PE X (.Attribute a x pos) (tE B fun sl st => (evr sl st).bind fun d st1 => match fldsOf d st1 with | some (C, fs) => if C < nc then ofO (fs.lookup x) st1 else .stuck | none => .stuck) := by
  refine PE.imp (pe_fld ha (base_plain hb _)) fun σ H Q ⟨W, sl, st, h1, h2, h3, h4, h5⟩ => ?_
  refine tE_then h1 h2 h3 h4 h5 fun d st1 W1 H1 v k1 k2 k3 k4 r1 l1 q1 => ?_
  split at q1
  · rename_i C fs ef
    split at q1
    · rename_i hlt
      obtain ⟨y, e1, q2⟩ := post_ofO q1
      obtain ⟨a, dx, es, rfl, hH, rf⟩ := flds_V k4 r1 ef
      rw [k2] at hH
      rcases rf.look (x := x) with ⟨z, _⟩ | ⟨d', v', z1, z2, z3⟩
      · rw [z] at e1
        cases e1
      · rw [z1] at e1
        cases e1
        exact ⟨a, B.CA C, dx, es, v', rfl, hH, (hc C hlt).1, (hc C hlt).2, z2, post_here k4 z3 q2⟩
    · exact q1.elim
  · exact q1.elim
/-! ### a classmethod by its class -/
theorem run_gC {A : Around} {fa : Addr} {fd : FuncData} {sp : Sp} {pins : List (Addr × Obj)} {σ : Sg} {H : Hp} {s : Shared} {Q : VK} {args : Args} {us : List Value} {vs : List V} {E : XK} (F : FnG X.prog X.w X.K X.mg X.base k fa fd ps sp) (hx : PassesAt (L2.CX X.prog X.w) X σ E) (hg : A.guards = some []) (hr : Room k A) (e0 : Env0 X.prog X.w X.K X.mg X.base A X.stack s H) (hb : BindsTo s fd args (ps.zip us))
    (I : Inv X pins σ H s) (r : Vals vs us) (h : sp vs H Q E) : codeAny (model X.prog X.w) A (.call (.ref fa) args) (fun r s' => match r with | .ok (.ret v) => EP X pins σ Q v s' | .ok _ => False | .error e => X.xe e s') s := by
  refine codeAny_mono (F.run A X.stack s H args us vs Q E hg hr e0 hb r h) fun r s' hq => ?_
  cases r with
  | error e => exact hx pins H s e s' I hq
  | ok fl =>
    cases fl with
    | ret u => exact I.after hq
    | next => exact False.elim hq
    | brk => exact False.elim hq
    | cont => exact False.elim hq
theorem e_cmth (c : Cok (k + 1) X) (hK : B.K = X.K) (hE : Tk X B.E) (cr : ClX.CRead X.K (B.CA C) (.type "type")) (F : Cx' X.prog X.w X.K X.mg X.base B.CA k C m ps g) (hm : X.mg x = some (.ref (B.CA C))) (hg : Gl X x) (hd : (x == ("__debug__" : Str)) = false) (hb : noSuper (.Name x p) = true) (hlen : (e :: es).length < 29) (hl : (apos.endLine == pos.line) = true) (hs : (e :: es).all (fun e => !isStar e) = true) (hes : PA X (e :: es) (tA B evs)) :
    PE X (.Call (.Attribute (.Name x p) m apos) (e :: es) [] pos) (tE B fun sl st => (evs sl st).bind fun ds st1 => g (.cls C :: ds) st1) := by
  obtain ⟨pp, fa, fd, M, hbd, G⟩ := F.ex
  have h2 := hs
  rw [List.all_cons, Bool.and_eq_true, Bool.not_eq_true'] at h2
  refine ⟨fun pins s σ H Q I ⟨W, sl, st, h1, h2', h3, h4, h5⟩ => ?_⟩
  refine PySem.W.methodCall_KW (ld_glob I hg hm ?_ hd) (meth_eval hb (form_of hs rfl (by rw [List.length_nil, Nat.add_zero]; exact hlen)) hl)
  refine ClX.getmethcm_ok I cr M fun s2 I2 => ?_
  have hA : tA B evs σ H fun vs H1 => prom X.K B.CA g (.ref (B.CA C) :: vs) H1 Q (B.E σ) := tA_then h1 h2' h3 h4 h5 fun ds st1 W1 H1 vs k1 k2 k3 k4 r1 l1 q1 => ⟨W1, .cls C :: ds, st1, k1.trans hK, k2, .cons (by simp only [Rep]; rw [k2]) r1, k4, q1⟩
  refine ClX.callwith_cm I2 (ClX.base_none I (Nat.le_refl _)) M.fi (thn (hes.run pos _ s2 σ H _ I2 hA) fun us s3 ⟨vs, H2, I3, rv, q2⟩ => ⟨⟨ClX.pin_at I3, I3.kIn⟩, ?_⟩) (star_cons h2.1) (star_none h2.2)
  have rr : Vals (V.ref (B.CA C) :: vs) (Value.ref (B.CA C) :: us) := .cons rfl rv
  have hl2 : (Value.ref (B.CA C) :: us).length = ps.length := by rw [← rr.length]; exact G.len _ _ _ _ q2
  have z : wpAny (model X.prog X.w) X.A (call (.ref s.heap.objs.size) us) (EP X ((s.heap.objs.size, PySem.W.methodObj (.ref fa) (.ref (B.CA C))) :: pins) σ Q) X.xe s3 :=
    wpAny_call (PySem.W.method_call (ClX.pin_at I3) (run_gC (args := ⟨.ref (B.CA C) :: us, []⟩) G (hE σ) c.grd (c.room.mono (Nat.le_succ k)) I3.env0 (binds_at hbd I3.kIn hl2) I3 rr q2))
  exact thn z fun _ _ y => ClX.unpinE y
end
end TM
set_option maxHeartbeats 1000000
/-! TM, part NE: own operators, len, calls of instances, isinstance of own classes. -/
namespace TM
open PySem PySem.Spec PyProof.Rows L2
/-- the one argument of an own operator -/
def ev1 (evb : Ev) : Slots → Store → Res (List D) := fun sl st => (evb sl st).bind fun d st1 => (Res.ok (α := List D) [] st1).bind fun ds st2 => .ok (d :: ds) st2
/-- o.m(..) by the evaluator -/
def evM (w : Way) (C : Nat) (m : Str) (g : Fc) (evr : Ev) (evs : Slots → Store → Res (List D)) : Ev := fun sl st => (evr sl st).bind fun x st1 => if isI m C x st1 then (evs sl st1).bind fun ds st2 => if isC C x st2 && wayOk w C ds st2 then (g (x :: ds) st2).bind fun d st3 => wayEnd w d st3 else .stuck else .stuck
section
variable {X : Cx} {B : Bx} {k C : Nat} {a b c e fe : Expr} {es : List Expr} {p pos apos : Pos} {m x : Str} {ps : List Str} {kf : List Kform} {g : Fc} {evr evb : Ev} {evs : Slots → Store → Res (List D)} {w : Way}
theorem own2_read (hK : B.K = X.K) (hw : ∀ y st, wayOk w C [y] st = isC C y st) {σ : Sg} {H : Hp} {Q : VK} (h : tE B (evM w C m g evr (ev1 evb)) σ H Q) : tOp (rOwn2 X.K B.CA (B.E σ) C w g) (tE B evr) (tE B evb) σ H Q := by
  obtain ⟨W, sl, st, h1, h2, h3, h4, h5⟩ := h
  refine tE_then h1 h2 h3 h4 h5 fun x st1 W1 H1 v k1 k2 k3 k4 r1 l1 q1 => ?_
  split at q1
  · unfold ev1 at q1
    rw [bind_assoc] at q1
    refine tE_then k1 k2 k3 k4 q1 fun y st2 W2 H2 u m1 m2 m3 m4 r2 l2 q2 => ?_
    rw [Res.bind_ok, Res.bind_ok] at q2
    split at q2
    · rename_i hc
      rw [Bool.and_eq_true, hw] at hc
      exact ⟨W2, x, y, st2, m4, m1.trans hK, m2, r1.mono l2, r2, hc.1, hc.2, q2⟩
    · exact q2.elim
  · exact q1.elim
theorem e_ownBin (c : Cok (k + 1) X) (hK : B.K = X.K) (hE : Tk X B.E) (cx : ClsX X.K (B.CA C)) (F : Mx X.prog X.w X.K X.mg X.base B.CA k C m ps kf g) {o : Operator} (hm : m = PySem.dunder o.info.2) (ha : PE X a (tE B evr)) (hb : PE X b (tE B evb)) :
    PE X (.BinOp a o b pos) (tE B (evM (.bin o) C m g evr (ev1 evb))) :=
  PE.imp (pe_opS (op_own2 c hE cx F hm) ha hb) fun σ H Q h => own2_read hK (fun _ _ => rfl) h
theorem e_ownCmp (c : Cok (k + 1) X) (hK : B.K = X.K) (hE : Tk X B.E) (cx : ClsX X.K (B.CA C)) (F : Mx X.prog X.w X.K X.mg X.base B.CA k C m ps kf g) {o : CmpOp} (hop : ∀ a b, compareOp o a b = richCompare o a b) (hm : m = (cmpInfo o).2.1) (hs : isSet b = false) (ha : PE X a (tE B evr)) (hb : PE X b (tE B evb)) :
    PE X (.Compare a [o] [b] pos) (tE B (evM (.cmp o) C m g evr (ev1 evb))) :=
  PE.imp (pe_cmpRS (op_ownC c hE cx F hop hm) ha hb (mark_none hs)) fun σ H Q h => own2_read hK (fun _ _ => rfl) h
theorem e_ownNe (c : Cok (k + 1) X) (hK : B.K = X.K) (hE : Tk X B.E) (cx : ClsX X.K (B.CA C)) (hne : PySem.W.findIn X.K (.ref (B.CA C)) "__ne__" = some (some (.builtin "object.__ne__"))) (F : Mx X.prog X.w X.K X.mg X.base B.CA k C m ps kf g) (hm : m = "__eq__") (hs : isSet b = false) (ha : PE X a (tE B evr)) (hb : PE X b (tE B evb)) :
    PE X (.Compare a [.NotEq] [b] pos) (tE B (evM .ne C m g evr (ev1 evb))) :=
  PE.imp (pe_cmpRS (op_ownNe c hE cx hne F hm) ha hb (mark_none hs)) fun σ H Q h => own2_read hK (fun _ _ => rfl) h
theorem evM_bl {o : CmpOp} {sl : Slots} {st st' : Store} {d : D} (h : evM (.cmp o) C m g evr evs sl st = .ok d st' ∨ evM .ne C m g evr evs sl st = .ok d st') : ∃ k, d = D.bl k := by
  rcases h with h | h
  all_goals
    unfold evM at h
    obtain ⟨x, s1, _, h⟩ := bind_ok h
    split at h
    · obtain ⟨y, s2, _, h⟩ := bind_ok h
      split at h
      · obtain ⟨z, s3, _, h⟩ := bind_ok h
        cases z <;> first | (cases h; done) | skip
        cases h
        exact ⟨_, rfl⟩
      · cases h
    · cases h
theorem ev_test {ev : Ev} (hb : ∀ sl st d st', ev sl st = .ok d st' → ∃ k, d = D.bl k) {σ : Sg} {H : Hp} {Q : Bool → Hp → Prop} (h : tT B ev σ H Q) : tE B ev σ H fun x H1 => ∃ k, x = .bl k ∧ Q k H1 := by
  obtain ⟨W, sl, st, h1, h2, h3, h4, h5⟩ := h
  exact ⟨W, sl, st, h1, h2, h3, h4, tT_bl (fun d st' e => hb _ _ _ _ e) h5⟩
theorem t_ownCmp (c : Cok (k + 1) X) (hK : B.K = X.K) (hE : Tk X B.E) (cx : ClsX X.K (B.CA C)) (F : Mx X.prog X.w X.K X.mg X.base B.CA k C m ps kf g) {o : CmpOp} (hop : ∀ a b, compareOp o a b = richCompare o a b) (hm : m = (cmpInfo o).2.1) (hs : isSet b = false) (ha : PE X a (tE B evr)) (hb : PE X b (tE B evb)) :
    PT X (.Compare a [o] [b] pos) (tT B (evM (.cmp o) C m g evr (ev1 evb))) :=
  PT.imp (pt_cmpRS (op_ownC c hE cx F hop hm) ha hb (mark_none hs)) fun σ H Q h => own2_read hK (fun _ _ => rfl) (ev_test (fun _ _ _ _ e => evM_bl (.inl e)) h)
theorem t_ownNe (c : Cok (k + 1) X) (hK : B.K = X.K) (hE : Tk X B.E) (cx : ClsX X.K (B.CA C)) (hne : PySem.W.findIn X.K (.ref (B.CA C)) "__ne__" = some (some (.builtin "object.__ne__"))) (F : Mx X.prog X.w X.K X.mg X.base B.CA k C m ps kf g) (hm : m = "__eq__") (hs : isSet b = false) (ha : PE X a (tE B evr)) (hb : PE X b (tE B evb)) :
    PT X (.Compare a [.NotEq] [b] pos) (tT B (evM .ne C m g evr (ev1 evb))) :=
  PT.imp (pt_cmpRS (op_ownNe c hE cx hne F hm) ha hb (mark_none hs)) fun σ H Q h => own2_read hK (fun _ _ => rfl) (ev_test (fun _ _ _ _ e => evM_bl (o := .Eq) (.inr e)) h)
theorem own1_read (hK : B.K = X.K) {σ : Sg} {H : Hp} {Q : VK} (h : tE B (evM w C m g evr fun _ st => .ok [] st) σ H Q) : tE B evr σ H fun x H1 => rOwn1 X.K B.CA (B.E σ) C w g x H1 Q := by
  obtain ⟨W, sl, st, h1, h2, h3, h4, h5⟩ := h
  refine tE_then h1 h2 h3 h4 h5 fun x st1 W1 H1 v k1 k2 k3 k4 r1 l1 q1 => ?_
  split at q1
  · rw [Res.bind_ok] at q1
    split at q1
    · rename_i hc
      rw [Bool.and_eq_true] at hc
      exact ⟨W1, x, st1, k4, k1.trans hK, k2, r1, hc.1, q1⟩
    · exact q1.elim
  · exact q1.elim
theorem e_ownInv (c : Cok (k + 1) X) (hK : B.K = X.K) (hE : Tk X B.E) (F : Mx X.prog X.w X.K X.mg X.base B.CA k C m ps kf g) (hm : m = "__invert__") (ha : PE X a (tE B evr)) : PE X (.UnaryOp .Invert a pos) (tE B (evM .inv C m g evr fun _ st => .ok [] st)) :=
  PE.imp (pe_unS (op_ownInv c hE F hm) ha) fun σ H Q h => own1_read hK h
theorem e_ownLen (c : Cok (k + 1) X) (hK : B.K = X.K) (hE : Tk X B.E) (F : Mx X.prog X.w X.K X.mg X.base B.CA k C m ps kf g) (hm : m = "__len__") {nm : Str} (hnm : nm = "len") (hg : Gl X nm) (hgm : X.mg nm = none) (hs : isStar a = false) (ha : PE X a (tE B evr)) :
    PE X (.Call (.Name nm p) [a] [] pos) (tE B (evM .len C m g evr fun _ st => .ok [] st)) := by
  subst hnm
  refine PE.imp (pe_callBS (call_ownLen c hE F hm) hg hgm (by decide +kernel) (pa_cons ha pa_nil (star_cons hs)) (by decide) (by decide) (star_cons hs) rfl) fun σ H Q h => ?_
  obtain ⟨W, sl, st, h1, h2, h3, h4, h5⟩ := own1_read (X := X) hK h
  refine ⟨W, sl, st, h1, h2, h3, h4, ?_⟩
  cases hr : evr sl st with
  | ok d st1 =>
    rw [hr] at h5
    exact fun W1 H1 v l s r => ⟨v, rfl, h5 W1 H1 v l s r⟩
  | exc C fs st1 =>
    rw [hr] at h5
    exact h5
  | stuck =>
    rw [hr] at h5
    exact h5
/-- an instance is called -/
theorem e_ownCall (c : Cok (k + 1) X) (hK : B.K = X.K) (hE : Tk X B.E) (F : Mx X.prog X.w X.K X.mg X.base B.CA k C m ps kf g) (hm : m = "__call__") (hs : (e :: es).all (fun e => !isStar e) = true) (hf : PE X fe (tE B evr)) (hes : PA X (e :: es) (tA B evs))
    (ht : eval (.Call fe (e :: es) [] pos) X.env = (do callWith pos (← eval fe X.env) [] (backTo pos (starEach (e :: es) X.env)) (backToKw pos (keywordEach [] X.env)))) :
    PE X (.Call fe (e :: es) [] pos) (tE B (evM .call C m g evr evs)) := by
  obtain ⟨fa, fd, M, hfi, hbd, _, G⟩ := F.ex
  subst hm
  have h2 := hs
  rw [List.all_cons, Bool.and_eq_true, Bool.not_eq_true'] at h2
  refine ⟨fun pins s σ H Q I ⟨W, sl, st, h1, h2', h3, h4, h5⟩ => ?_⟩
  have hA : tE B evr σ H fun v H1 => ∃ ra, v = .ref ra ∧ tA B evs σ H1 fun vs H2 => (∃ dx fs, H2 ra = some (.ins (B.CA C) dx fs)) ∧ prom X.K B.CA g (.ref ra :: vs) H2 Q (B.E σ) := by
    refine tE_then h1 h2' h3 h4 h5 fun x st1 W1 H1 v k1 k2 k3 k4 r1 l1 q1 => ?_
    split at q1
    · rename_i hi
      obtain ⟨ra, dx, fs, rfl, hH, hn⟩ := isI_V k4 r1 hi
      refine ⟨ra, rfl, tA_then k1 k2 k3 k4 q1 fun ds st2 W2 H2 vs m1 m2 m3 m4 r2 l2 q2 => ?_⟩
      split at q2
      · rename_i hc
        rw [Bool.and_eq_true] at hc
        obtain ⟨ra2, dx2, fs2, e2, hH2⟩ := isC_V m4 (r1.mono l2) hc.1
        cases e2
        rw [m2] at hH2
        exact ⟨⟨dx2, fs2, hH2⟩, W2, x :: ds, st2, m1.trans hK, m2, .cons (r1.mono l2) r2, m4, post_way q2⟩
      · exact q2.elim
    · exact q1.elim
  refine Call_ (thn (hf.run pins s σ H _ I hA) fun u s1 ⟨y, H1, I1, ry, ra, ey, q⟩ => ?_) ht
  subst ey
  obtain rfl : u = Value.ref ra := ry
  refine StX.callO_with (thn (hes.run pos pins s1 σ H1 _ I1 q) fun us s2 ⟨vs, H2, I2, r, ⟨dx, fs, hH⟩, q2⟩ => ?_) (star_cons h2.1) (star_none h2.2)
  obtain ⟨ox, od, J, hd⟩ := inst_at I2 hH
  have rr : Vals (V.ref ra :: vs) (Value.ref ra :: us) := .cons rfl r
  have hl2 : (Value.ref ra :: us).length = ps.length := by rw [← rr.length]; exact G.len _ _ _ _ q2
  exact ⟨⟨B.CA C, ox, od, J, hd⟩, wpAny_call (PySem.W.kco_code (a := ⟨us, []⟩) I2.kIn J hd M.at_ M.fn hfi (run_gC (args := ⟨.ref ra :: us, []⟩) G (hE σ) c.grd (c.room.mono (Nat.le_succ k)) I2.env0 (binds_at hbd I2.kIn hl2) I2 rr q2))⟩
/-! ### isinstance of an own class -/
/-- what is known of isinstance(.., the class at Cx) -/
structure IsX (K : PySem.W.Frag) (CA : Nat → Addr) (nc : Nat) (anc : List Nat) (cv : Value) : Prop where
  own : ∀ C, C < nc → PySem.W.kitOne K (.ref (CA C)) cv = some (decide (C ∈ anc))
  blt : ∀ t ∈ (["NoneType", "bool", "int", "str", "list", "tuple", "dict"] : List String), PySem.W.kitOne K (.type t) cv = some false
theorem tyN_mem {d : D} {st : Store} {t : Ty} (h : tyD d st = some t) : tyN t ∈ (["NoneType", "bool", "int", "str", "list", "tuple", "dict"] : List String) := by
  have hb := tyD_B h
  cases t <;> first | (cases hb; done) | (simp [tyN])
theorem e_isc {nc : Nat} {anc : List Nat} {nm : Str} {cx : Addr} (hK : B.K = X.K) (hc : ∀ C, C < nc → ClsX X.K (B.CA C)) (hi : IsX X.K B.CA nc anc (.ref cx)) (hmx : X.mg x = some (.ref cx)) (hgx : Gl X x) (hdx : (x == ("__debug__" : Str)) = false) {p' : Pos} (hnm : nm = "isinstance") (hg : Gl X nm) (hm : X.mg nm = none)
    (hs : isStar a = false) (ha : PE X a (tE B evr)) : PE X (.Call (.Name nm p) [a, .Name x p'] [] pos) (tE B fun sl st => (evr sl st).bind fun y st1 => ofO ((iscD nc anc y st1).map .bl) st1) := by
  subst hnm
  have hT : PE X (.Name x p') (tC (.ref cx)) := pe_glob hgx hmx rfl hdx
  refine PE.imp (pe_callB call_isiN hg hm (by decide +kernel) (pa_cons ha (pa_cons hT pa_nil rfl) (star_cons hs)) (by decide) (by decide) (star_cons hs) rfl) fun σ H Q ⟨W, sl, st, h1, h2, h3, h4, h5⟩ => ?_
  refine tE_then h1 h2 h3 h4 h5 fun y st1 W1 H1 v k1 k2 k3 k4 r1 l1 q1 => ?_
  obtain ⟨d, e1, q3⟩ := post_ofO q1
  rw [Option.map_eq_some_iff] at e1
  obtain ⟨k, e1, rfl⟩ := e1
  have q4 := post_here k4 repB q3
  unfold iscD at e1
  split at e1
  · rename_i C fs ef
    split at e1
    · rename_i hlt
      cases e1
      obtain ⟨ra, dx, es, rfl, hH, _⟩ := flds_V k4 r1 ef
      rw [k2] at hH
      have cc := hc C hlt
      exact ⟨_, _, _, _, _, rfl, .own _, .base (.base (.ins hH cc.cl cc.ca cc.cn cc.ct cc.cm)), hi.own C hlt, q4⟩
    · cases e1
  · split at e1
    · cases e1
      rw [rep_non r1]
      exact ⟨_, _, _, _, _, rfl, .own _, .base (.base .non), hi.blt _ (by simp), q4⟩
    · rw [Option.map_eq_some_iff] at e1
      obtain ⟨t, e1, rfl⟩ := e1
      have t1 := tyN_of k4 r1 e1
      rw [k1, hK] at t1
      exact ⟨_, _, _, _, _, rfl, .own _, t1, hi.blt _ (tyN_mem e1), q4⟩
end
end TM
set_option maxHeartbeats 1000000
/-! TM, part O: statements. -/
namespace TM
open PySem PySem.Spec PyProof.Rows L2
/-! ### the evaluator -/
def set1 (i : Nat) (d : D) (sl : Slots) (st : Store) : RS := if i < sl.length then .next (sl.set i (some d)) st else .stuck
/-- name op= value, whole numbers -/
def augD (o : Operator) (x y : D) : Option D := match o, x, y with
  | .Add, .int a, .int b => some (.int (a + b))
  | .Sub, .int a, .int b => some (.int (a - b))
  | _, _, _ => none
/-- an exception is caught: its attribute f goes to slot k, or out -/
def caughtR (sl : Slots) (i : Nat) (k : Option Nat) (wr : Bool) (d : D) (st : Store) : RS := match k with
  | none => .ret (if wr then .lst [d] else d) st
  | some k => if k < sl.length then .next (((sl.set i none).set k (some (if wr then .lst [d] else d))).set i none) st else .stuck
def tryR (cs os : List Nat) (i : Nat) (k : Option Nat) (wr : Bool) (f : Str) (sl : Slots) (r : RS) : RS := match r with
  | .exc C fs st => if C ∈ cs then (match fs.lookup f with
    | some d => if i < sl.length then caughtR sl i k wr d st else .stuck
    | none => .stuck) else if C ∈ os then .exc C fs st else .stuck
  | .next sl' st => .next sl' st
  | .ret d st => .ret d st
  | .brk sl' st => .brk sl' st
  | .cnt sl' st => .cnt sl' st
  | .stuck => .stuck
section
variable (cl : Nat → List D → Store → Res D)
mutual
def evS : CS → Slots → Store → RS
  | .asg t e, sl, st => (evE cl e sl st).then fun d st1 => match asgT t d sl with
    | some sl' => .next sl' st1
    | none => .stuck
  | .asgLc i e, sl, st => (evE cl e sl st).then fun d st1 => set1 i d sl st1
  | .par i j a b, sl, st => (evE cl a sl st).then fun x st1 => (evE cl b sl st1).then fun y st2 => if i < sl.length ∧ j < sl.length then .next ((sl.set i (some x)).set j (some y)) st2 else .stuck
  | .aug i o e, sl, st => match sl[i]? with
    | some (some x) => (evE cl e sl st).then fun y st1 => match augD o x y with
      | some z => set1 i z sl st1
      | none => .stuck
    | _ => .stuck
  | .setI o i e, sl, st => (evE cl e sl st).then fun v st1 => (evE cl o sl st1).then fun x st2 => (evE cl i sl st2).then fun y st3 => match setID x y v st3 with
    | some st4 => .next sl st4
    | none => .stuck
  | .ex e, sl, st => (evE cl e sl st).then fun _ st1 => .next sl st1
  | .iff c t f, sl, st => (tru (evE cl c) sl st).then fun b st1 => if b then evSs t sl st1 else evSs f sl st1
  | .for_ t it b, sl, st => (evI cl it sl st).then fun J st1 => forLoop J.src (fun d sl' st' => match asgT t d sl' with
    | none => .stuck
    | some sl2 => evSs b sl2 st') J.items sl st1
  | .whl c b, sl, st => whlLoop (tru (evE cl c)) (fun sl' st' => evSs b sl' st') wfuel sl st
  | .ret e, sl, st => (evE cl e sl st).then fun d st1 => .ret d st1
  | .retN, _, st => .ret .non st
  | .pass, sl, st => .next sl st
  | .brk, sl, st => .brk sl st
  | .cnt, sl, st => .cnt sl st
  | .dead, _, _ => .stuck
  | .asgS is i e, sl, st => (evE cl e sl st).then fun d st1 => match d with
    | .tup ds => if is.length ≤ ds.length then (match asgTs (is.map .name ++ [.name i]) (ds.take is.length ++ [.lst (ds.drop is.length)]) sl with
      | some sl' => .next sl' st1
      | none => .stuck) else .stuck
    | _ => .stuck
  | .setA nc o x e, sl, st => (evE cl e sl st).then fun v st1 => (evE cl o sl st1).then fun d st2 => match setAD nc d x v st2 with
    | some st3 => .next sl st3
    | none => .stuck
  | .par3 i j l a b c, sl, st => (evE cl a sl st).then fun x st1 => (evE cl b sl st1).then fun y st2 => (evE cl c sl st2).then fun z st3 => if i < sl.length ∧ j < sl.length ∧ l < sl.length then .next (((sl.set i (some x)).set j (some y)).set l (some z)) st3 else .stuck
  | .rais C _ f e, sl, st => (evE cl e sl st).then fun d st1 => .exc C [(f, d)] st1
  | .tryX b _ _ cs os i k wr f, sl, st => tryR cs os i k wr f sl (evS b sl st)
termination_by structural s => s
def evSs : List CS → Slots → Store → RS
  | [], sl, st => .next sl st
  | s :: r, sl, st => match evS s sl st with
    | .next sl' st' => evSs r sl' st'
    | .ret d st' => .ret d st'
    | .brk sl' st' => .brk sl' st'
    | .cnt sl' st' => .cnt sl' st'
    | .exc C fs st' => .exc C fs st'
    | .stuck => .stuck
termination_by structural s => s
end
end
/-- a def of the module; a method of a class; a classmethod -/
inductive FK where
  | fn | me (C : Nat) (m : Str) | mk (C : Nat) (m : Str) | cm (C : Nat) (m : Str)
  deriving DecidableEq
/-- called by positional values alone -/
def FK.pos : FK → Bool
  | .mk _ _ => false
  | _ => true
/-- a def: its name, how many parameters, how many names in all, the body -/
structure FD where
  nm : Str
  np : Nat
  nn : Nat
  kf : List Kform
  body : List CS
  kd : FK
def endS : RS → Res D
  | .ret d st => .ok d st
  | .next _ st => .ok .non st
  | .exc C fs st => .exc C fs st
  | _ => .stuck
def slots0 (nn : Nat) (ds : List D) : Slots := ds.map some ++ List.replicate (nn - ds.length) Option.none
def evCall (FT : List FD) : Nat → Nat → List D → Store → Res D
  | 0, _, _, _ => .stuck
  | n + 1, f, ds, st => match FT[f]? with
    | none => .stuck
    | some F => if ds.length = F.np then endS (evSs (evCall FT n) F.body (slots0 F.nn ds) st) else .stuck
/-! ### soundness -/
def PostS (W : Wo) (E : Sg → XK) (r : RS) (D0 : Ends) : Prop := match r with
  | .next sl st => ∀ W' σ' H', Le W W' → SlR W' sl σ' → SR W' st H' → D0.nx σ' H'
  | .ret d st => ∀ W' H' v, Le W W' → SR W' st H' → Rep W' d v → D0.rt v H'
  | .brk sl st => ∀ W' σ' H', Le W W' → SlR W' sl σ' → SR W' st H' → D0.bk σ' H'
  | .cnt sl st => ∀ W' σ' H', Le W W' → SlR W' sl σ' → SR W' st H' → D0.ct σ' H'
  | .exc C fs st => ∀ σ : Sg, PostX W (E σ) C fs st
  | .stuck => False
theorem PostS.mono {W W1 : Wo} {E : Sg → XK} {r : RS} {Q : Ends} (l : Le W W1) (h : PostS W E r Q) : PostS W1 E r Q := by
  cases r with
  | next sl st => exact fun W' σ' H' l' => h W' σ' H' (l.trans l')
  | ret d st => exact fun W' H' v l' => h W' H' v (l.trans l')
  | brk sl st => exact fun W' σ' H' l' => h W' σ' H' (l.trans l')
  | cnt sl st => exact fun W' σ' H' l' => h W' σ' H' (l.trans l')
  | exc C fs st => exact fun σ => PostX.mono l (h σ)
  | stuck => exact h
def tS (B : Bx) (ev : Slots → Store → RS) : TS := fun D0 σ H => ∃ W sl st, W.K = B.K ∧ W.CA = B.CA ∧ SlR W sl σ ∧ SR W st H ∧ PostS W B.E (ev sl st) D0
theorem PS.imp {X : Cx} {e : Stmt} {t t' : TS} (h : PS X e t) (k : ∀ D0 σ H, t' D0 σ H → t D0 σ H) : PS X e t' := ⟨fun pins s σ H Q I q => h.run pins s σ H Q I (k Q σ H q)⟩
theorem PSs.imp {X : Cx} {e : List Stmt} {t t' : TS} (h : PSs X e t) (k : ∀ D0 σ H, t' D0 σ H → t D0 σ H) : PSs X e t' := ⟨fun pins s σ H Q I q => h.run pins s σ H Q I (k Q σ H q)⟩
section
variable {X : Cx} {B : Bx} {n : Nat} {a b c e tg : Expr} {pos : Pos} {eva evb evc : Ev} {ss : List Stmt} {s1 : Stmt} {evs evt : Slots → Store → RS}
theorem sT_E {ev : Ev} {f : D → Store → RS} {σ : Sg} {H : Hp} {Q : Ends} {G : VK} {W : Wo} {sl : Slots} {st : Store} (h1 : W.K = B.K) (h2 : W.CA = B.CA) (h3 : SlR W sl σ) (h4 : SR W st H) (h : PostS W B.E ((ev sl st).then f) Q)
    (k : ∀ d st1 W1 H1 v, W1.K = B.K → W1.CA = B.CA → SlR W1 sl σ → SR W1 st1 H1 → Rep W1 d v → Le W W1 → PostS W1 B.E (f d st1) Q → G v H1) : tE B ev σ H G := by
  refine ⟨W, sl, st, h1, h2, h3, h4, ?_⟩
  cases hr : ev sl st with
  | ok d st1 =>
    rw [hr] at h
    exact fun W1 H1 v l s r => k d st1 W1 H1 v (l.K.trans h1) (l.CA.trans h2) (h3.mono l) s r l (PostS.mono l h)
  | exc C fs st1 =>
    rw [hr] at h
    exact h σ
  | stuck =>
    rw [hr] at h
    exact h
theorem sT_T {ev : Ev} {f : Bool → Store → RS} {σ : Sg} {H : Hp} {Q : Ends} {G : Bool → Hp → Prop} {W : Wo} {sl : Slots} {st : Store} (h1 : W.K = B.K) (h2 : W.CA = B.CA) (h3 : SlR W sl σ) (h4 : SR W st H) (h : PostS W B.E ((tru ev sl st).then f) Q)
    (k : ∀ d st1 W1 H1, W1.K = B.K → W1.CA = B.CA → SlR W1 sl σ → SR W1 st1 H1 → Le W W1 → PostS W1 B.E (f d st1) Q → G d H1) : tT B ev σ H G := by
  refine ⟨W, sl, st, h1, h2, h3, h4, ?_⟩
  cases hr : tru ev sl st with
  | ok d st1 =>
    rw [hr] at h
    exact fun W1 H1 l s => k d st1 W1 H1 (l.K.trans h1) (l.CA.trans h2) (h3.mono l) s l (PostS.mono l h)
  | exc C fs st1 =>
    rw [hr] at h
    exact h σ
  | stuck =>
    rw [hr] at h
    exact h
theorem ss_nil : PSs X [] (tS B fun sl st => .next sl st) := PSs.imp pss_nil fun D0 σ H ⟨W, sl, st, h1, h2, h3, h4, h5⟩ => h5 W σ H (Le.refl W) h3 h4
theorem ss_cons (h : PS X s1 (tS B evs)) (hr : PSs X ss (tS B evt)) : PSs X (s1 :: ss) (tS B fun sl st => match evs sl st with
    | .next sl' st' => evt sl' st'
    | .ret d st' => .ret d st'
    | .brk sl' st' => .brk sl' st'
    | .cnt sl' st' => .cnt sl' st'
    | .exc C fs st' => .exc C fs st'
    | .stuck => .stuck) := by
  refine PSs.imp (pss_cons h hr) fun D0 σ H ⟨W, sl, st, h1, h2, h3, h4, h5⟩ => ⟨W, sl, st, h1, h2, h3, h4, ?_⟩
  dsimp only at h5
  cases hr : evs sl st with
  | next sl' st' =>
    rw [hr] at h5
    exact fun W' σ' H' l r s => ⟨W', sl', st', l.K.trans h1, l.CA.trans h2, r, s, PostS.mono l h5⟩
  | _ =>
    rw [hr] at h5
    exact h5
theorem s_set {i : Nat} {x : Str} {p' : Pos} (hN : X.N.Nodup) (hi : X.N[i]? = some x) (hx : Loc X.env.scope x) (hf : X.fn x = true ∨ X.env.scope.names.lookup x = some .local) (hs : isComp e = false) (he : PE X e (tE B eva)) :
    PS X (.Assign [.Name x p'] e pos) (tS B fun sl st => (eva sl st).then fun d st1 => match asgT (.name i) d sl with
    | some sl' => .next sl' st1
    | none => .stuck) := by
  refine PS.imp (ps_set hN hi hx he (swap_none hs) hf) fun D0 σ H ⟨W, sl, st, h1, h2, h3, h4, h5⟩ => ?_
  refine sT_E h1 h2 h3 h4 h5 fun d st1 W1 H1 v k1 k2 k3 k4 r l q => ?_
  split at q
  · rename_i sl' e1
    simp only [asgT] at e1
    split at e1
    · cases e1
      exact q W1 _ H1 (Le.refl W1) (k3.set r i) k4
    · cases e1
  · exact q.elim
theorem assignEach_one {tg : Expr} {env : Env} (h : isStar tg = false) : (assignEach [tg] env).map (·.2) = [assign tg env] := by
  cases tg <;> first | (simp [isStar] at h; done) | rfl
theorem s_asg {t : CT} (hs : isComp e = false ∨ isTupE tg = true) (ht : isStar tg = false) (hw : swappedStores [tg] e X.env = pure none) (he : PE X e (tE B eva)) (hg : PG X tg (gT B t)) :
    PS X (.Assign [tg] e pos) (tS B fun sl st => (eva sl st).then fun d st1 => match asgT t d sl with
    | some sl' => .next sl' st1
    | none => .stuck) := by
  refine PS.imp (ps_asg he hg (hs.elim swap_none swap_tup) hw (assignEach_one ht)) fun D0 σ H ⟨W, sl, st, h1, h2, h3, h4, h5⟩ => ?_
  refine sT_E h1 h2 h3 h4 h5 fun d st1 W1 H1 v k1 k2 k3 k4 r l q => ?_
  split at q
  · rename_i sl' e1
    exact ⟨W1, sl, st1, d, sl', k1, k2, k3, k4, r, e1, fun σ' s' _ => q W1 σ' H1 (Le.refl W1) s' k4⟩
  · exact q.elim
theorem s_setA {o : Expr} {f : Str} {p' : Pos} {nc : Nat} {evo : Ev} (hK : B.K = X.K) (hs : isComp e = false) (hc : ∀ C, C < nc → Cls X.K (B.CA C) ∧ NoAttr X.K (B.CA C) f) (he : PE X e (tE B eva)) (ho : PE X o (tE B evo)) :
    PS X (.Assign [.Attribute o f p'] e pos) (tS B fun sl st => (eva sl st).then fun v st1 => (evo sl st1).then fun d st2 => match setAD nc d f v st2 with
    | some st3 => .next sl st3
    | none => .stuck) := by
  refine PS.imp (ps_fld ho he (swap_none hs)) fun D0 σ H ⟨W, sl, st, h1, h2, h3, h4, h5⟩ => ?_
  refine sT_E h1 h2 h3 h4 h5 fun v st1 W1 H1 y k1 k2 k3 k4 r l q => ?_
  refine sT_E k1 k2 k3 k4 q fun d st2 W2 H2 x m1 m2 m3 m4 r2 l2 q2 => ?_
  split at q2
  · rename_i st3 e1
    unfold setAD at e1
    split at e1
    · rename_i n
      split at e1
      · rename_i C fs ec
        split at e1
        · rename_i hl
          cases e1
          simp only [Rep] at r2
          obtain ⟨a, ea, rfl⟩ := r2
          obtain ⟨hf, dx, es, hH, rq⟩ := m4.cell _ _ a ec ea
          obtain ⟨c1, c2⟩ := hc C hl.2
          rw [m2] at hH
          refine ⟨a, _, dx, es, rfl, hH, c1, c2, by rw [rq.length]; exact hl.1, ?_⟩
          refine q2 W2 σ _ (Le.refl W2) m3 (m4.put ec ea hf (fun x z => by rw [hH] at z; cases z) ⟨hf, dx, _, by rw [← m2]; exact upd_same, rq.put (r.mono l2)⟩)
        · cases e1
      · cases e1
    · cases e1
  · exact q2.elim
theorem s_ex (hs : isComp e = false) (he : PE X e (tE B eva)) : PS X (.Expr e pos) (tS B fun sl st => (eva sl st).then fun _ st1 => .next sl st1) := by
  refine PS.imp (ps_expr he (swap_none hs)) fun D0 σ H ⟨W, sl, st, h1, h2, h3, h4, h5⟩ => ?_
  exact sT_E h1 h2 h3 h4 h5 fun d st1 W1 H1 v k1 k2 k3 k4 r l q => q W1 σ H1 (Le.refl W1) k3 k4
theorem s_ret (he : PE X e (tE B eva)) : PS X (.Return (some e) pos) (tS B fun sl st => (eva sl st).then fun d st1 => .ret d st1) := by
  refine PS.imp (ps_ret he) fun D0 σ H ⟨W, sl, st, h1, h2, h3, h4, h5⟩ => ?_
  exact sT_E h1 h2 h3 h4 h5 fun d st1 W1 H1 v k1 k2 k3 k4 r l q => q W1 H1 v (Le.refl W1) k4 r
theorem s_retN : PS X (.Return none pos) (tS B fun _ st => .ret .non st) := PS.imp ps_retN fun D0 σ H ⟨W, sl, st, h1, h2, h3, h4, h5⟩ => h5 W H .non (Le.refl W) h4 repN
theorem s_pass : PS X (.Pass pos) (tS B fun sl st => .next sl st) := PS.imp ps_pass fun D0 σ H ⟨W, sl, st, h1, h2, h3, h4, h5⟩ => h5 W σ H (Le.refl W) h3 h4
theorem s_brk : PS X (.Break pos) (tS B fun sl st => .brk sl st) := PS.imp ps_break fun D0 σ H ⟨W, sl, st, h1, h2, h3, h4, h5⟩ => h5 W σ H (Le.refl W) h3 h4
theorem s_cnt : PS X (.Continue pos) (tS B fun sl st => .cnt sl st) := PS.imp ps_continue fun D0 σ H ⟨W, sl, st, h1, h2, h3, h4, h5⟩ => h5 W σ H (Le.refl W) h3 h4
theorem s_iff {fs : List Stmt} (hc : PT X c (tT B evc)) (ha : PSs X ss (tS B evs)) (hb : PSs X fs (tS B evt)) : PS X (.If c ss fs pos) (tS B fun sl st => (tru evc sl st).then fun b st1 => if b then evs sl st1 else evt sl st1) := by
  refine PS.imp (ps_if hc ha hb) fun D0 σ H ⟨W, sl, st, h1, h2, h3, h4, h5⟩ => ?_
  refine sT_T h1 h2 h3 h4 h5 fun d st1 W1 H1 k1 k2 k3 k4 l q => ?_
  cases d with
  | true => exact iteT ⟨W1, sl, st1, k1, k2, k3, k4, q⟩
  | false => exact iteF ⟨W1, sl, st1, k1, k2, k3, k4, q⟩
theorem sub_assign {o i : Expr} {p' : Pos} {env : Env} (h : isSlice i = false) (v : Value) : assign (.Subscript o i p') env v = (do
      let ov ← holding [v] (eval o env)
      let iv ← holding [v, ov] (eval i env)
      standAt p'
      holding [v, ov, iv] (setItem ov iv v)
      release [v, ov, iv] []) := by
  cases i <;> first | (simp [isSlice] at h; done) | rfl
theorem s_setI {o i : Expr} {p' : Pos} {evo evi : Ev} (hsl : isSlice i = false) (hu : X.A.units + 1 < cLine) (hs : isComp e = false) (he : PE X e (tE B eva)) (ho : PE X o (tE B evo)) (hi : PE X i (tE B evi)) :
    PS X (.Assign [.Subscript o i p'] e pos) (tS B fun sl st => (eva sl st).then fun v st1 => (evo sl st1).then fun x st2 => (evi sl st2).then fun y st3 => match setID x y v st3 with
    | some st4 => .next sl st4
    | none => .stuck) := by
  have A : PS X (.Assign [.Subscript o i p'] e pos) (fun D0 σ H => tAsg (tE B eva) (gSub (tE B evo) (tE B evi) rSetL) D0 σ H) := ps_asg he (pg_sub ho hi set_list fun v => sub_assign hsl v) (swap_none (t := some (.Subscript o i p')) (l := pos.line) (env := X.env) hs) (stores_none' (t := .Subscript o i p') rfl rfl) rfl
  have Bd := ps_dput (pos' := p') (pos := pos) hu ho hi he (swap_none hs)
  have or : PS X (.Assign [.Subscript o i p'] e pos) (fun D0 σ H => tAsg (tE B eva) (gSub (tE B evo) (tE B evi) rSetL) D0 σ H ∨ sDPut (tE B evo) (tE B evi) (tE B eva) D0 σ H) :=
    ⟨fun pins s σ H D0 I q => q.elim (A.run pins s σ H D0 I) (Bd.run pins s σ H D0 I)⟩
  refine PS.imp or fun D0 σ H ⟨W, sl, st, h1, h2, h3, h4, h5⟩ => ?_
  dsimp only at h5
  -- by what the container is
  cases hr : eva sl st with
  | stuck => rw [hr] at h5; exact h5.elim
  | exc C fs st' => rw [hr] at h5; exact .inl ⟨W, sl, st, h1, h2, h3, h4, by rw [hr]; exact h5 σ⟩
  | ok v st1 =>
    rw [hr, Res.then_ok] at h5
    cases hr2 : evo sl st1 with
    | stuck => rw [hr2] at h5; exact h5.elim
    | exc C fs st' =>
      rw [hr2] at h5
      refine .inl ⟨W, sl, st, h1, h2, h3, h4, ?_⟩
      rw [hr]
      exact fun W1 H1 u l1 s1 r1 => ⟨W1, sl, st1, l1.K.trans h1, l1.CA.trans h2, h3.mono l1, s1, by rw [hr2]; exact PostX.mono l1 (h5 σ)⟩
    | ok x st2 =>
      rw [hr2, Res.then_ok] at h5
      cases hr3 : evi sl st2 with
      | stuck => rw [hr3] at h5; exact h5.elim
      | exc C fs st' =>
        rw [hr3] at h5
        refine .inl ⟨W, sl, st, h1, h2, h3, h4, ?_⟩
        rw [hr]
        refine fun W1 H1 u l1 s1 r1 => ⟨W1, sl, st1, l1.K.trans h1, l1.CA.trans h2, h3.mono l1, s1, ?_⟩
        rw [hr2]
        exact fun W2 H2 u2 l2 s2 r2 => ⟨W2, sl, st2, l2.K.trans (l1.K.trans h1), l2.CA.trans (l1.CA.trans h2), (h3.mono l1).mono l2, s2, by rw [hr3]; exact PostX.mono (l1.trans l2) (h5 σ)⟩
      | ok y st3 =>
        rw [hr3, Res.then_ok] at h5
        split at h5
        · rename_i st4 e4
          unfold setID at e4
          split at e4
          · rename_i m
            split at e4
            · rename_i xs ec
              split at e4
              · rename_i k
                rw [Option.map_eq_some_iff] at e4
                obtain ⟨j, ej, rfl⟩ := e4
                refine .inl ⟨W, sl, st, h1, h2, h3, h4, ?_⟩
                rw [hr]
                refine fun W1 H1 u l1 s1 r1 => ⟨W1, sl, st1, l1.K.trans h1, l1.CA.trans h2, h3.mono l1, s1, ?_⟩
                rw [hr2]
                refine fun W2 H2 u2 l2 s2 r2 => ⟨W2, sl, st2, l2.K.trans (l1.K.trans h1), l2.CA.trans (l1.CA.trans h2), (h3.mono l1).mono l2, s2, ?_⟩
                rw [hr3]
                intro W3 H3 u3 l3 s3 r3
                have r2' := r2.mono l3
                simp only [Rep] at r2'
                obtain ⟨p, ea, rfl⟩ := r2'
                rw [rep_int r3]
                obtain ⟨f, vs, hH, rq⟩ := s3.lstCell ec ea
                refine ⟨p, vs, k, j, rfl, rfl, hH, by rw [rq.length]; exact ej, ?_⟩
                exact h5 W3 σ _ ((l1.trans l2).trans l3) (((h3.mono l1).mono l2).mono l3) (s3.write ec ea (rq.set ((r1.mono l2).mono l3) j))
              · cases e4
            · rename_i kvs ec
              split at e4
              · rename_i k ek
                split at e4
                · rename_i hz
                  cases e4
                  refine .inr ⟨W, sl, st, h1, h2, h3, h4, ?_⟩
                  rw [hr]
                  refine fun W1 H1 u l1 s1 r1 => ⟨W1, sl, st1, l1.K.trans h1, l1.CA.trans h2, h3.mono l1, s1, ?_⟩
                  rw [hr2]
                  refine fun W2 H2 u2 l2 s2 r2 => ⟨W2, sl, st2, l2.K.trans (l1.K.trans h1), l2.CA.trans (l1.CA.trans h2), (h3.mono l1).mono l2, s2, ?_⟩
                  rw [hr3]
                  intro W3 H3 u3 l3 s3 r3
                  have r2' := r2.mono l3
                  simp only [Rep] at r2'
                  obtain ⟨p, ea, rfl⟩ := r2'
                  obtain ⟨f, vs, hH, rq⟩ := s3.dctCell ec ea
                  rw [keyOf_V r3 ek]
                  refine ⟨p, _, rfl, DPut.k hH (by rw [rq.length]; exact hz), ?_⟩
                  refine h5 W3 σ _ ((l1.trans l2).trans l3) (((h3.mono l1).mono l2).mono l3) ?_
                  exact s3.put ec ea f (fun x z => by rw [hH] at z; cases z) ⟨f, _, upd_same, rq.put ((r1.mono l2).mono l3)⟩
                · cases e4
              · cases e4
            · cases e4
          · cases e4
        · exact h5.elim
theorem s_asgLc {i : Nat} {y : Str} {py : Pos} {elt iter : Expr} {ifs : List Expr} {scope : Scope} {own : List (Str × Nat)} {spos : Pos} {mt : Bool} {t : CT} {evi : Slots → Store → Res Itr} {evt : Slots → Store → Res Bool} {eve : Ev} (hc : X.calm = true) (hN : X.N.Nodup) (hy : X.N[i]? = some y) (hyl : X.env.scope.names.lookup y = some .local)
    (hi : PI X tg iter (tI B evi)) (ok : BlkOk X.N X.env.scope scope own) (hti : ∀ i ∈ tgIx t, i ∈ own.map (·.2))
    (hg : ∀ (s : Shared) (H : Hp) (C : Addr) (cl : List (Str × Addr)) (fp : List Addr), PG (X.blk s H scope (compEnvC scope cl C X.env) fp) tg (gT B t)) (ht : ∀ (s : Shared) (H : Hp) (C : Addr) (cl : List (Str × Addr)) (fp : List Addr), PTs (X.blk s H scope (compEnvC scope cl C X.env) fp) ifs (tB B.z evt))
    (he : ∀ (s : Shared) (H : Hp) (C : Addr) (cl : List (Str × Addr)) (fp : List Addr), PE (X.blk s H scope (compEnvC scope cl C X.env) fp) elt (tE B.z eve)) (hs : isSet iter = false)
    (hsw : swapsWith (.ListComp elt [⟨tg, iter, ifs, 0⟩] scope pos) (some (.Name y py)) spos.line X.env = pure true) :
    PS X (.Assign [.Name y py] (.ListComp elt [⟨tg, iter, ifs, 0⟩] scope pos) spos) (tS B fun sl st => ((evi sl st).bind fun J st1 => (lcLoop J.src (lcF evt eve t (own.map (·.2)) sl) J.items [] st1).bind fun vs st2 => mkL mt vs st2).then fun d st1 => set1 i d sl st1) := by
  refine PS.imp (ps_setLc hc hN hy hyl hsw hi ok hg ht he fun x => fold_plain hs x) fun D0 σ H ⟨W, sl, st, h1, h2, h3, h4, h5⟩ => ?_
  have h6 : tE B (fun sl st => (evi sl st).bind fun J st1 => (lcLoop J.src (lcF evt eve t (own.map (·.2)) sl) J.items [] st1).bind fun vs st2 => mkL mt vs st2) σ H fun x H1 => gName i x σ H1 D0.nx := by
    refine sT_E h1 h2 h3 h4 h5 fun d st1 W1 H1 v k1 k2 k3 k4 r l q => ?_
    unfold set1 at q
    split at q
    · exact q W1 _ H1 (Le.refl W1) (k3.set r i) k4
    · exact q.elim
  exact tLc_of (iter := iter) hti h6
theorem s_aug {i : Nat} {x : Str} {p' : Pos} {o : Operator} (ho : o = .Add ∨ o = .Sub) (hN : X.N.Nodup) (hi : X.N[i]? = some x) (hx : L2.Loc X.env.scope x) (hf : X.fn x = true ∨ X.env.scope.names.lookup x = some .local) (he : PE X e (tE B eva)) :
    PS X (.AugAssign (.Name x p') o e pos) (tS B fun sl st => match sl[i]? with
    | some (some x) => (eva sl st).then fun y st1 => match augD o x y with
      | some z => set1 i z sl st1
      | none => .stuck
    | _ => .stuck) := by
  have main : ∀ (g : Int → Int → Int), (∀ (u v : D) (z : D), augD o u v = some z → ∃ a b, u = .int a ∧ v = .int b ∧ z = .int (g a b)) → PIp X o (ipI g) → PS X (.AugAssign (.Name x p') o e pos) (tS B fun sl st => match sl[i]? with
    | some (some x) => (eva sl st).then fun y st1 => match augD o x y with
      | some z => set1 i z sl st1
      | none => .stuck
    | _ => .stuck) := fun g hg hp => by
    refine PS.imp (ps_aug hN hi hx he hp hf) fun D0 σ H ⟨W, sl, st, h1, h2, h3, h4, h5⟩ => ?_
    dsimp only at h5
    split at h5
    · rename_i u eu
      obtain ⟨w, ew, rw'⟩ := h3.get eu
      refine ⟨w, ew, sT_E h1 h2 h3 h4 h5 fun d st1 W1 H1 v k1 k2 k3 k4 r l q => ?_⟩
      split at q
      · rename_i z ez
        obtain ⟨a, b, rfl, rfl, rfl⟩ := hg _ _ _ ez
        rw [rep_int rw', rep_int r]
        refine ⟨a, b, rfl, rfl, ?_⟩
        unfold set1 at q
        split at q
        · exact q W1 _ H1 (Le.refl W1) (k3.set repI i) k4
        · exact q.elim
      · exact q.elim
    · exact h5.elim
  rcases ho with rfl | rfl
  · exact main _ (fun u v z h => by
      unfold augD at h
      split at h <;> first | (cases h; exact ⟨_, _, rfl, rfl, rfl⟩) | (cases h; done) | contradiction) ip_add
  · exact main _ (fun u v z h => by
      unfold augD at h
      split at h <;> first | (cases h; exact ⟨_, _, rfl, rfl, rfl⟩) | (cases h; done) | contradiction) ip_sub
/-! loops -/
def frF (t : CT) (evb : Slots → Store → RS) : D → Slots → Store → RS := fun d sl' st' => match asgT t d sl' with
    | none => .stuck
    | some sl2 => evb sl2 st'
theorem frF_none {t : CT} {evb : Slots → Store → RS} {d : D} {sl : Slots} {st : Store} (h : asgT t d sl = none) : frF t evb d sl st = .stuck := by
  unfold frF
  rw [h]
theorem frF_some {t : CT} {evb : Slots → Store → RS} {d : D} {sl sl' : Slots} {st : Store} (h : asgT t d sl = some sl') : frF t evb d sl st = evb sl' st := by
  unfold frF
  rw [h]
theorem s_for {it : Expr} {t : CT} {evi : Slots → Store → Res Itr} (hx : PassesOwn (model X.prog X.w) X.A X.env X.xe) (hc : X.calm = true) (hs : isSet it = false) (hi : PI X tg it (tI B evi)) (hg : PG X tg (gT B t)) (hb : PSs X ss (tS B evs)) :
    PS X (.For tg it ss [] pos) (tS B fun sl st => (evi sl st).then fun J st1 => forLoop J.src (frF t evs) J.items sl st1) := by
  refine PS.imp (ps_for hx hc hi hg hb fun x => fold_plain hs x) fun D0 σ H ⟨W, sl, st, h1, h2, h3, h4, h5⟩ => ?_
  refine ⟨W, sl, st, h1, h2, h3, h4, ?_⟩
  dsimp only at h5
  cases hr : evi sl st with
  | stuck => rw [hr] at h5; exact h5.elim
  | exc C fs st' => rw [hr] at h5; exact h5 σ
  | ok it0 st1 =>
    rw [hr, Res.then_ok] at h5
    intro W0 H1 J l0 s0 wk
    have h5 := PostS.mono l0 h5
    refine ⟨fun i m σ H => m = it0.items.length - i ∧ i ≤ it0.items.length ∧ ∃ W1 sl1 st1, Le W0 W1 ∧ SlR W1 sl1 σ ∧ SR W1 st1 H ∧ PostS W1 B.E (forLoop it0.src (frF t evs) (it0.items.drop i) sl1 st1) D0, ⟨_, rfl, Nat.zero_le _, W0, sl, st1, Le.refl W0, h3.mono l0, s0, h5⟩, ?_⟩
    rintro i m σ1 H ⟨rfl, hi, W1, sl1, st2, l1, k3, k4, kq⟩
    by_cases hlt : i < it0.items.length
    · obtain ⟨d, ed⟩ := getE hlt
      have edrop : it0.items.drop i = d :: it0.items.drop (i + 1) := by
        obtain ⟨h, e⟩ := List.getElem?_eq_some_iff.mp ed
        rw [← e]
        exact List.drop_eq_getElem_cons h
      rw [edrop] at kq
      unfold forLoop at kq
      cases hs : srcOk it0.src st2 with
      | false =>
        rw [hs] at kq
        exact kq.elim
      | true =>
        rw [hs, if_pos rfl] at kq
        obtain ⟨hgo, hy⟩ := (wk W1 st2 H l1.li k4 hs i).1 hlt
        refine .inr ⟨hgo, fun σ' H' => i + 1 ≤ it0.items.length ∧ ∃ W1 sl1 st1, Le W0 W1 ∧ SlR W1 sl1 σ' ∧ SR W1 st1 H' ∧ PostS W1 B.E (forLoop it0.src (frF t evs) (it0.items.drop (i + 1)) sl1 st1) D0, fun σ' H' p => ⟨_, by omega, rfl, p.1, p.2⟩, fun x H' y => ?_⟩
        obtain ⟨W2, d', l2, s2, ed', r2⟩ := hy x H' y
        rw [ed] at ed'
        cases ed'
        have kq := PostS.mono l2 kq
        have eK : W2.K = B.K := l2.K.trans (l1.K.trans (l0.K.trans h1))
        have eC : W2.CA = B.CA := l2.CA.trans (l1.CA.trans (l0.CA.trans h2))
        cases ha : asgT t d sl1 with
        | none =>
          rw [frF_none ha] at kq
          exact kq.elim
        | some sl' =>
          rw [frF_some ha] at kq
          refine ⟨W2, sl1, st2, d, sl', eK, eC, k3.mono l2, s2, r2, ha, fun σ2 sr2 _ => ?_⟩
          refine ⟨W2, sl', st2, eK, eC, sr2, s2, ?_⟩
          cases hb : evs sl' st2 with
          | next sl3 st3 =>
            rw [hb] at kq
            exact fun W3 σ3 H3 l3 r3 s3 => ⟨by omega, W3, sl3, st3, (l1.trans l2).trans l3, r3, s3, PostS.mono l3 kq⟩
          | cnt sl3 st3 =>
            rw [hb] at kq
            exact fun W3 σ3 H3 l3 r3 s3 => ⟨by omega, W3, sl3, st3, (l1.trans l2).trans l3, r3, s3, PostS.mono l3 kq⟩
          | brk sl3 st3 =>
            rw [hb] at kq
            exact kq
          | ret d3 st3 =>
            rw [hb] at kq
            exact kq
          | exc C fs st3 =>
            rw [hb] at kq
            exact kq
          | stuck =>
            rw [hb] at kq
            exact kq
    · have ei : i = it0.items.length := by omega
      subst ei
      rw [List.drop_length] at kq
      unfold forLoop at kq
      cases hs : srcOk it0.src st2 with
      | false =>
        rw [hs] at kq
        exact kq.elim
      | true =>
        rw [hs, if_pos rfl] at kq
        exact .inl ⟨(wk W1 st2 H l1.li k4 hs _).2 rfl, kq W1 σ1 H (Le.refl W1) k3 k4⟩
theorem s_whl (hx : PassesOwn (model X.prog X.w) X.A X.env X.xe) (hc : PT X c (tT B evc)) (hb : PSs X ss (tS B evs)) (N : Nat) :
    PS X (.While c ss [] pos) (tS B fun sl st => whlLoop (tru evc) evs N sl st) := by
  refine PS.imp (ps_while hx hc hb) fun D0 σ H ⟨W, sl, st, h1, h2, h3, h4, h5⟩ => ?_
  refine ⟨fun m σ H => ∃ W1 sl1 st1, Le W W1 ∧ SlR W1 sl1 σ ∧ SR W1 st1 H ∧ PostS W1 B.E (whlLoop (tru evc) evs m sl1 st1) D0, ⟨N, W, sl, st, Le.refl W, h3, h4, h5⟩, ?_⟩
  rintro m σ1 H1 ⟨W1, sl1, st1, l1, k3, k4, kq⟩
  have eK : W1.K = B.K := l1.K.trans h1
  have eC : W1.CA = B.CA := l1.CA.trans h2
  cases m with
  | zero => exact kq.elim
  | succ m =>
    unfold whlLoop at kq
    refine sT_T eK eC k3 k4 kq fun d st2 W2 H2 m1 m2 m3 m4 l2 q => ?_
    cases d with
    | false => exact iteF (q W2 σ1 H2 (Le.refl W2) m3 m4)
    | true =>
      rw [if_pos rfl] at q
      refine iteT ⟨fun σ' H' => ∃ W1 sl1 st1, Le W W1 ∧ SlR W1 sl1 σ' ∧ SR W1 st1 H' ∧ PostS W1 B.E (whlLoop (tru evc) evs m sl1 st1) D0, fun σ' H' p => ⟨m, by omega, p⟩, W2, sl1, st2, m1, m2, m3, m4, ?_⟩
      cases hb : evs sl1 st2 with
      | next sl3 st3 =>
        rw [hb] at q
        exact fun W3 σ3 H3 l3 r3 s3 => ⟨W3, sl3, st3, (l1.trans l2).trans l3, r3, s3, PostS.mono l3 q⟩
      | cnt sl3 st3 =>
        rw [hb] at q
        exact fun W3 σ3 H3 l3 r3 s3 => ⟨W3, sl3, st3, (l1.trans l2).trans l3, r3, s3, PostS.mono l3 q⟩
      | brk sl3 st3 =>
        rw [hb] at q
        exact q
      | ret d3 st3 =>
        rw [hb] at q
        exact q
      | exc C fs st3 =>
        rw [hb] at q
        exact q
      | stuck =>
        rw [hb] at q
        exact q
end
end TM
set_option maxHeartbeats 1000000
/-! TM, part Ox: more statements. -/
namespace TM
open PySem PySem.Spec PyProof.Rows L2
/-! ### (a, b, *c) = a tuple -/
def gStar (K : PySem.W.Frag) (n : Nat) (t : TGs) : TG := fun v σ H Q => ∃ a xs, v = .ref a ∧ SqT K H a xs ∧ n ≤ xs.length ∧ ∀ D, H D = none → t (xs.take n ++ [.ref D]) σ (upd H D (.lst (xs.drop n))) Q
section
variable {X : Cx} {B : Bx} {n : Nat} {a b c e tg : Expr} {pos : Pos} {eva evb evc : Ev} {ss : List Stmt} {s1 : Stmt} {evs evt : Slots → Store → RS}
theorem vals_take {xs : List V} {us : List Value} (h : Vals xs us) : ∀ n : Nat, Vals (xs.take n) (us.take n) := by
  induction h with
  | nil => intro n; rw [List.take_nil, List.take_nil]; exact .nil
  | cons h1 h2 ih =>
    intro n
    cases n with
    | zero => exact .nil
    | succ n => exact .cons h1 (ih n)
theorem vals_drop {xs : List V} {us : List Value} (h : Vals xs us) : ∀ n : Nat, Vals (xs.drop n) (us.drop n) := by
  induction h with
  | nil => intro n; rw [List.drop_nil, List.drop_nil]; exact .nil
  | cons h1 h2 ih =>
    intro n
    cases n with
    | zero => exact .cons h1 h2
    | succ n => exact ih n
open PySem.W PySem.Calls in
theorem pg_star {es es' : List Expr} {k n : Nat} {t : TGs} (hc : X.calm = true) (h : PGs X es' t) (he : (assignEach es X.env).map (·.2) = (assignEach es' X.env).map (·.2)) (hn : (assignEach es X.env).length = n + 1) (hst : (assignEach es X.env).findIdx? (·.1) = some n) :
    PG X (.Tuple es k pos) (gStar X.K n t) := by
  refine ⟨fun pins s σ H v u Q I r ⟨a, xs, e1, hq, hl, hw⟩ => ?_⟩
  subst e1
  cases r
  obtain ⟨its, rv, ht, hz⟩ := I.tuple hq
  have hxl := rv.length
  have hh := I.ok.hd hc
  have hlt : a ≠ s.heap.objs.size := by obtain ⟨o, ho, _⟩ := id ht; exact Nat.ne_of_lt (Heap.lt_size ho)
  rw [assign_Tuple]
  refine wpAny_bind (wpAny_standAt ?_)
  unfold unpack
  rw [hn, hst, he]
  refine wpAny_bind (wpAny_holding ?_)
  unfold unpackItems
  refine wpAny_bind ?_
  unfold notIterableAtAll
  refine wpAny_bind (wpAny_specialOf ht.typeIs slot_tuple_iter.lookup ?_)
  refine wpAny_pure ?_
  simp only [Bool.false_eq_true, if_false]
  refine wpAny_bind (wpAny_holding (iter_tuple ht ?_))
  refine wpAny_bind (wpAny_holding (draw_tuple hlt n 0 _ _ ⟨_, Heap.get?_push_size _ rfl, rfl, rfl⟩ (ht.push _) (by rw [List.size_toArray]; omega) fun h₁ hit₁ hs₁ => ?_))
  have ht₁ : IsTup h₁ a its.toArray := (ht.push _).extBut hs₁.extBut hlt
  rw [Nat.zero_add] at hit₁
  obtain ⟨oi, hoi, _⟩ := id hit₁
  obtain ⟨ol, hol, _⟩ := id ht₁
  rw [List.drop_zero]
  have hfl : (its.toArray.toList.take n).length = n := by rw [List.length_take]; simp; omega
  rw [if_neg (show ¬ ((its.toArray.toList.take n).length < n) by rw [hfl]; omega)]
  refine wpAny_bind (wpAny_holding (kun_collect (s := { s with heap := h₁ }) (T := "tuple_iterator") (.inr (.inr (.inr rfl))) (Walks.tuple (A := X.A.in1) hh s.heap.objs.size a hlt its.toArray) (fun j u st => st.1.typeIs) (k := n) (by rw [List.size_toArray]; omega) ⟨hit₁, ht₁⟩ (Heap.lt_size hoi) (Heap.lt_size hol) (fun h₂ tk hk => ?_) (by rw [List.size_toArray]; omega)))
  have hl0 : its.toArray.toList = its := by simp
  rw [hl0]
  have ha : n + 1 - 1 - n = 0 := by omega
  rw [ha]
  show wpAny _ _ (if (its.drop n).length < 0 then _ else _) _ _ _
  rw [if_neg (by omega)]
  show wpAny _ _ (newList ((its.drop n).take ((its.drop n).length - 0)) >>= fun d => pure (its.take n ++ [d] ++ (its.drop n).drop ((its.drop n).length - 0))) _ _ _
  rw [Nat.sub_zero, List.take_length, List.drop_length]
  have hx : ∀ b o, s.heap.get? b = some o → h₂.get? b = some o := fun b o e => hk b o (Nat.ne_of_lt (Heap.lt_size e)) (hs₁.extBut b o (Nat.ne_of_lt (Heap.lt_size e)) (Heap.get?_push_of_some _ e))
  have I1 : Inv X pins σ H { s with heap := h₂, toks := tk } := I.kept (t' := tk) hx
  refine wpAny_bind (wpAny_newObj_type ?_ (by show (its.drop n).toArray.size ≤ sizeLine; rw [List.size_toArray, List.length_drop]; omega))
  refine wpAny_pure ?_
  rw [List.append_nil]
  have I2 : Inv X pins σ (upd H h₂.objs.size (.lst (xs.drop n))) { s with heap := h₂.push { cls := .type "list", data := .seq (its.drop n).toArray }, toks := tk } :=
    I1.laid (t' := tk) (fun b o e => Heap.get?_push_of_some _ e) (Nat.le_refl _) ⟨by rw [List.length_drop]; omega, _, 0, vals_drop rv n, Heap.get?_push_size _ rfl⟩
  have q := hw h₂.objs.size (I1.hok.fresh (Nat.le_refl _))
  have rv2 : Vals (xs.take n ++ [.ref h₂.objs.size]) (its.take n ++ [.ref h₂.objs.size]) := (vals_take rv n).append (.cons rfl .nil)
  exact h.run pins _ σ _ _ _ Q I2 rv2 q
theorem s_dead {s : Stmt} : PS X s (tS B fun _ _ => .stuck) := ⟨fun pins s σ H D I ⟨W, sl, st, h1, h2, h3, h4, h5⟩ => h5.elim⟩
theorem s_asgS {es es' : List Expr} {k i : Nat} {is : List Nat} {tpos : Pos} (hc : X.calm = true) (hK : B.K = X.K) (hs : isComp e = false) (hte : isTupE e = false) (he : PE X e (tE B eva)) (hg : PGs X es' (gTs B (is.map .name ++ [.name i])))
    (h1 : (assignEach es X.env).map (·.2) = (assignEach es' X.env).map (·.2)) (hn : (assignEach es X.env).length = is.length + 1) (hst : (assignEach es X.env).findIdx? (·.1) = some is.length) :
    PS X (.Assign [.Tuple es k tpos] e pos) (tS B fun sl st => (eva sl st).then fun d st1 => match d with
    | .tup ds => if is.length ≤ ds.length then (match asgTs (is.map .name ++ [.name i]) (ds.take is.length ++ [.lst (ds.drop is.length)]) sl with
      | some sl' => .next sl' st1
      | none => .stuck) else .stuck
    | _ => .stuck) := by
  refine PS.imp (ps_asg he (pg_star hc hg h1 hn hst) (swap_none (t := some (.Tuple es k tpos)) (l := pos.line) (env := X.env) hs) (stores_none (t := .Tuple es k tpos) hte) rfl) fun D0 σ H ⟨W, sl, st, h1, h2, h3, h4, h5⟩ => ?_
  refine sT_E h1 h2 h3 h4 h5 fun d st1 W1 H1 v k1 k2 k3 k4 r l q => ?_
  cases d with
  | tup ds =>
    dsimp only at q
    split at q
    · rename_i hz
      split at q
      · rename_i sl' e1
        obtain ⟨p, vs, rfl, hq, rq⟩ := asT_V k4 r
        rw [k1, hK] at hq
        refine ⟨p, vs, rfl, hq, by rw [rq.length]; exact hz, fun D hD => ?_⟩
        have lt := le_still (o := .lst (vs.drop is.length)) (k4.free hD)
        have s2 := k4.tree hD (.lst (vs.drop is.length))
        refine ⟨W1.still D (.lst (vs.drop is.length)), sl, st1, _, sl', lt.K.trans k1, lt.CA.trans k2, k3.mono lt, s2, ((rq.take is.length).mono lt).append (.cons ?_ .nil), e1, fun σ' s' _ => q _ σ' _ lt s' s2⟩
        simp only [Rep]
        exact ⟨D, _, rfl, .inl upd_same, (rq.drop is.length).mono lt⟩
      · exact q.elim
    · exact q.elim
  | _ => exact q.elim
/-! a, b = x, y -/
theorem s_par {i j : Nat} {x y : Str} {px py pt pt2 : Pos} {kt k2 : Nat} (hc : X.calm = true) (hN : X.N.Nodup) (hi : X.N[i]? = some x) (hj : X.N[j]? = some y) (hij : i ≠ j)
    (hx : X.env.scope.names.lookup x = some .local) (hy : X.env.scope.names.lookup y = some .local) (hs : isStar a = false) (hs2 : isStar b = false) (ha : PE X a (tE B eva)) (hb : PE X b (tE B evb))
    (hw : swappedStores [.Tuple [.Name x px, .Name y py] kt pt] (.Tuple [a, b] k2 pt2) X.env = pure (some [x, y])) :
    PS X (.Assign [.Tuple [.Name x px, .Name y py] kt pt] (.Tuple [a, b] k2 pt2) pos) (tS B fun sl st => (eva sl st).then fun x st1 => (evb sl st1).then fun y st2 => if i < sl.length ∧ j < sl.length then .next ((sl.set i (some x)).set j (some y)) st2 else .stuck) := by
  have hA : PA X [a, b] (tA B fun sl st => (eva sl st).bind fun d st1 => ((fun sl st => (evb sl st).bind fun d st1 => (Res.ok (α := List D) [] st1).bind fun ds st2 => .ok (d :: ds) st2) sl st1).bind fun ds st2 => .ok (d :: ds) st2) := a_cons hs ha (a_cons hs2 hb a_nil)
  refine PS.imp (ps_par hc hN hi hj hij hx hy hA hw rfl) fun D0 σ H ⟨W, sl, st, h1, h2, h3, h4, h5⟩ => ?_
  refine ⟨W, sl, st, h1, h2, h3, h4, ?_⟩
  dsimp only at h5 ⊢
  cases hr : eva sl st with
  | stuck => rw [hr] at h5; exact h5.elim
  | exc C fs st' => rw [hr] at h5; exact h5 σ
  | ok d st1 =>
    rw [hr, Res.then_ok] at h5
    rw [Res.bind_ok]
    cases hr2 : evb sl st1 with
    | stuck => rw [hr2] at h5; exact h5.elim
    | exc C fs st' => rw [hr2] at h5; exact h5 σ
    | ok d2 st2 =>
      rw [hr2, Res.then_ok] at h5
      simp only [Res.bind_ok]
      intro W1 H1 vs l1 s1 r1
      obtain ⟨v, u, rfl, rv, ru⟩ := repL2 r1
      refine ⟨v, u, rfl, ?_⟩
      split at h5
      · exact h5 W1 _ H1 l1 (((h3.mono l1).set rv i).set ru j) s1
      · exact h5.elim
/-! a, b, c = x, y, z -/
theorem s_par3 {i j l : Nat} {x y z : Str} {px py pz pt pt2 : Pos} {kt k2 : Nat} (hc : X.calm = true) (hN : X.N.Nodup) (hi : X.N[i]? = some x) (hj : X.N[j]? = some y) (hl : X.N[l]? = some z) (hij : i ≠ j) (hil : i ≠ l) (hjl : j ≠ l)
    (hx : X.env.scope.names.lookup x = some .local) (hy : X.env.scope.names.lookup y = some .local) (hz : X.env.scope.names.lookup z = some .local) (hs : isStar a = false) (hs2 : isStar b = false) (hs3 : isStar c = false) (ha : PE X a (tE B eva)) (hb : PE X b (tE B evb)) (hcc : PE X c (tE B evc))
    (hw : swappedStores [.Tuple [.Name x px, .Name y py, .Name z pz] kt pt] (.Tuple [a, b, c] k2 pt2) X.env = pure (some [x, y, z])) :
    PS X (.Assign [.Tuple [.Name x px, .Name y py, .Name z pz] kt pt] (.Tuple [a, b, c] k2 pt2) pos) (tS B fun sl st => (eva sl st).then fun x st1 => (evb sl st1).then fun y st2 => (evc sl st2).then fun z st3 => if i < sl.length ∧ j < sl.length ∧ l < sl.length then .next (((sl.set i (some x)).set j (some y)).set l (some z)) st3 else .stuck) := by
  have hA : PA X [a, b, c] (tA B fun sl st => (eva sl st).bind fun d st1 => ((fun sl st => (evb sl st).bind fun d st1 => ((fun sl st => (evc sl st).bind fun d st1 => (Res.ok (α := List D) [] st1).bind fun ds st2 => .ok (d :: ds) st2) sl st1).bind fun ds st2 => .ok (d :: ds) st2) sl st1).bind fun ds st2 => .ok (d :: ds) st2) := a_cons hs ha (a_cons hs2 hb (a_cons hs3 hcc a_nil))
  refine PS.imp (ps_par3 hc hN hi hj hl hij hil hjl hx hy hz hA hw rfl) fun D0 σ H ⟨W, sl, st, h1, h2, h3, h4, h5⟩ => ?_
  refine ⟨W, sl, st, h1, h2, h3, h4, ?_⟩
  dsimp only at h5 ⊢
  cases hr : eva sl st with
  | stuck => rw [hr] at h5; exact h5.elim
  | exc C fs st' => rw [hr] at h5; exact h5 σ
  | ok d st1 =>
    rw [hr, Res.then_ok] at h5
    rw [Res.bind_ok]
    cases hr2 : evb sl st1 with
    | stuck => rw [hr2] at h5; exact h5.elim
    | exc C fs st' => rw [hr2] at h5; exact h5 σ
    | ok d2 st2 =>
      rw [hr2, Res.then_ok] at h5
      simp only [Res.bind_ok]
      cases hr3 : evc sl st2 with
      | stuck => rw [hr3] at h5; exact h5.elim
      | exc C fs st' => rw [hr3] at h5; exact h5 σ
      | ok d3 st3 =>
        rw [hr3, Res.then_ok] at h5
        simp only [Res.bind_ok]
        intro W1 H1 vs l1 s1 r1
        simp only [RepL] at r1
        obtain ⟨v, _, rfl, rv, u, _, rfl, ru, w, _, rfl, rw', rfl⟩ := r1
        refine ⟨v, u, w, rfl, ?_⟩
        split at h5
        · exact h5 W1 _ H1 l1 ((((h3.mono l1).set rv i).set ru j).set rw' l) s1
        · exact h5.elim
/-! name = a dict comprehension -/
theorem ps_setDc {i : Nat} {y : Str} {py : Pos} {kx vx tg iter : Expr} {ifs : List Expr} {scope : Scope} {own : List (Str × Nat)} {pos spos : Pos} {wi : TI} {g : TG} {tt : TT} {tk tv : TE} (hc : X.calm = true) (hN : X.N.Nodup) (hy : X.N[i]? = some y) (hyl : X.env.scope.names.lookup y = some .local)
    (hsw : swapsWith (.DictComp kx vx [⟨tg, iter, ifs, 0⟩] scope pos) (some (.Name y py)) spos.line X.env = pure true) (hi : PI X tg iter wi) (ok : BlkOk X.N X.env.scope scope own)
    (hg : ∀ (s : Shared) (H : Hp) (C : Addr) (cl : List (Str × Addr)) (fp : List Addr), PG (X.blk s H scope (compEnvC scope cl C X.env) fp) tg g) (ht : ∀ (s : Shared) (H : Hp) (C : Addr) (cl : List (Str × Addr)) (fp : List Addr), PTs (X.blk s H scope (compEnvC scope cl C X.env) fp) ifs tt)
    (hk : ∀ (s : Shared) (H : Hp) (C : Addr) (cl : List (Str × Addr)) (fp : List Addr), PE (X.blk s H scope (compEnvC scope cl C X.env) fp) kx tk)
    (he : ∀ (s : Shared) (H : Hp) (C : Addr) (cl : List (Str × Addr)) (fp : List Addr), PE (X.blk s H scope (compEnvC scope cl C X.env) fp) vx tv) (hs : ∀ x, foldedSetIterable iter X.env x = pure x) :
    PS X (.Assign [.Name y py] (.DictComp kx vx [⟨tg, iter, ifs, 0⟩] scope pos) spos) (tAsg (tDc wi g tt tk tv (own.map (·.2))) (gName i)) := by
  refine ⟨fun pins s σ H D I h => ?_⟩
  rw [exec_Assign_Name_used _ _ _ _ hsw]
  refine wpAny_bind (wpAny_standAt (wpAny_bind ?_))
  show wpAny _ X.A (do let _ ← comprehension (.DictComp kx vx [⟨tg, iter, ifs, 0⟩] scope pos) scope X.env (firstIterPos [⟨tg, iter, ifs, 0⟩] pos) newDict false (eval iter X.env) (some (assign (.Name y py) X.env))) _ _ s
  have h : tDc wi g tt tk tv (own.map (·.2)) σ H (fun x H1 => gName i x σ H1 D.nx) := h
  refine wpAny_bind (thn (dc_core (Qf := fun _ s' => SP X pins D .next s') hc hN I hi ok hg ht hk he hs h fun L C s' m H' I' q hn f => ?_) fun _ s' hq => wpAny_pure (wpAny_pure hq))
  show wpAny _ _ (assign (.Name y py) X.env (.ref L)) _ _ _
  refine wpAny_assign_Name (store_ok2 (v := V.ref L) I' hN hy (.inl hyl) rfl (fun s2 I2 ⟨a, sb, ha⟩ => ?_) (.inr hyl))
  obtain ⟨f0, f1, f2, f3, f4, f5⟩ := f
  have haC : C ≠ a := by
    rcases ha with z | z
    · rw [z]; exact f1
    · exact fun e => f4 y a z e.symm
  refine ⟨m, hn.sameBut sb haC, fun h3 sb3 => ?_⟩
  exact ⟨_, H', I2.turned (t' := s2.toks) (fun b o hb e => (sb3.2 b hb).trans e) f0 f1 f3 f4 f5, q⟩
theorem s_asgDc {i : Nat} {y : Str} {py : Pos} {kx vx tg iter : Expr} {ifs : List Expr} {scope : Scope} {own : List (Str × Nat)} {pos spos : Pos} {mt : Bool} {t : CT} {evi : Slots → Store → Res Itr} {evt : Slots → Store → Res Bool} {evk evv : Ev} (hc : X.calm = true) (hN : X.N.Nodup) (hy : X.N[i]? = some y) (hyl : X.env.scope.names.lookup y = some .local)
    (hi : PI X tg iter (tI B evi)) (ok : BlkOk X.N X.env.scope scope own) (hti : ∀ i ∈ tgIx t, i ∈ own.map (·.2))
    (hg : ∀ (s : Shared) (H : Hp) (C : Addr) (cl : List (Str × Addr)) (fp : List Addr), PG (X.blk s H scope (compEnvC scope cl C X.env) fp) tg (gT B t)) (ht : ∀ (s : Shared) (H : Hp) (C : Addr) (cl : List (Str × Addr)) (fp : List Addr), PTs (X.blk s H scope (compEnvC scope cl C X.env) fp) ifs (tB B.z evt))
    (hk : ∀ (s : Shared) (H : Hp) (C : Addr) (cl : List (Str × Addr)) (fp : List Addr), PE (X.blk s H scope (compEnvC scope cl C X.env) fp) kx (tE B.z evk))
    (he : ∀ (s : Shared) (H : Hp) (C : Addr) (cl : List (Str × Addr)) (fp : List Addr), PE (X.blk s H scope (compEnvC scope cl C X.env) fp) vx (tE B.z evv)) (hs : isSet iter = false)
    (hsw : swapsWith (.DictComp kx vx [⟨tg, iter, ifs, 0⟩] scope pos) (some (.Name y py)) spos.line X.env = pure true) :
    PS X (.Assign [.Name y py] (.DictComp kx vx [⟨tg, iter, ifs, 0⟩] scope pos) spos) (tS B fun sl st => ((evi sl st).bind fun J st1 => (dcLoop J.src (dcF evt evk evv t (own.map (·.2)) sl) J.items [] st1).bind fun vs st2 => mkK mt vs st2).then fun d st1 => set1 i d sl st1) := by
  refine PS.imp (ps_setDc hc hN hy hyl hsw hi ok hg ht hk he fun x => fold_plain hs x) fun D0 σ H ⟨W, sl, st, h1, h2, h3, h4, h5⟩ => ?_
  have h6 : tE B (fun sl st => (evi sl st).bind fun J st1 => (dcLoop J.src (dcF evt evk evv t (own.map (·.2)) sl) J.items [] st1).bind fun vs st2 => mkK mt vs st2) σ H fun x H1 => gName i x σ H1 D0.nx := by
    refine sT_E h1 h2 h3 h4 h5 fun d st1 W1 H1 v k1 k2 k3 k4 r l q => ?_
    unfold set1 at q
    split at q
    · exact q W1 _ H1 (Le.refl W1) (k3.set r i) k4
    · exact q.elim
  exact tDc_of (iter := iter) hti h6
end
end TM
set_option maxHeartbeats 1000000
/-! TM, part Oe: raise and try. -/
namespace TM
open PySem PySem.Spec PyProof.Rows L2
/-! ### __init__ of an own exception class that stores one attribute -/
def spX (C : Addr) (f : Str) : Sp := fun vs H Q _ => ∃ (a : Addr) (v : V), vs = [.ref a, v] ∧ H a = some (exo a C none) ∧ ∀ dx, H dx = none → dx ≠ a → Q .non (upd (upd H dx (exd dx [(f, v)])) a (exo a C (some dx)))
section
variable {P : Program} {w : World} {K : PySem.W.Frag} {mg : Str → Option Value} {base : Heap}
theorem xinit_ok {CX : CXT} {C fi : Addr} {fd : FuncData} {nm qual f s y : Str} {params : Arguments} {scope : Scope} {p1 p2 p3 pos : Pos} (T : OexC K C) (hno : PySem.W.findIn K (.ref C) f = some none)
    (F : FunD K nm qual params [.Assign [.Attribute (.Name s p1) f p2] (.Name y p3) pos] scope [] [] fi fd) (S : FnScope [s, y] [s, y] scope) (v1 : Vis scope s) (v2 : Vis scope y) (d1 : (s == ("__debug__" : Str)) = false) (d2 : (y == ("__debug__" : Str)) = false) (e1 : (s == ("__classdict__" : Str)) = false) (e2 : (y == ("__classdict__" : Str)) = false) :
    FnOk P w K mg base CX 1 fi fd [s, y] (spX C f) := by
  refine FunD.ok (k := 0) F S (fun vs H Q E ⟨a, v, e, _⟩ => by rw [e]; rfl) fun cdv A outer sh H vs Q E hr ⟨a, v, ev, ha, q⟩ => ?_
  subst ev
  refine ⟨_, pss_cons (ps_ost (pe_var (i := 0) rfl v1 d1 e1) (pe_var (i := 1) rfl v2 d2 e2) rfl) pss_nil, ?_⟩
  refine ⟨v, rfl, .ref a, rfl, a, C, rfl, T, hno, .inl ⟨ha, fun dx h1 h2 => q dx h1 h2⟩⟩
end
/-- what is known of an own exception class -/
structure XcX (P : Program) (w : World) (K : PySem.W.Frag) (mg : Str → Option Value) (base : Heap) (C : Addr) (f : Str) : Prop where
  ox : OexC K C
  xf : XfC K C
  no : PySem.W.findIn K (.ref C) f = some none
  ini : ∃ fi fd ps, PySem.W.findIn K (.ref C) "__init__" = some (some (.ref fi)) ∧ PySem.W.typeIn K (.ref fi) = some (.type "function") ∧ Binds K fd ps [] ∧ FnOk P w K mg base (L2.CX P w) 1 fi fd ps (spX C f)
section
variable {X : Cx} {B : Bx} {n C : Nat} {a b c e : Expr} {pos : Pos} {eva : Ev} {x f : Str}
theorem s_rais {p p2 : Pos} (hK : B.K = X.K) (hc : X.calm = true) (hr : Room 2 X.A) (tk : Takes X (fun cls d σ H => B.E σ cls d H)) (xc : XcX X.prog X.w X.K X.mg X.base (B.CA C) f) (hg : Gl X x) (hd : (x == ("__debug__" : Str)) = false) (hm : X.mg x = some (.ref (B.CA C))) (hs : isStar e = false) (he : PE X e (tE B eva)) :
    PS X (.Raise (some (.Call (.Name x p) [e] [] p2)) none pos) (tS B fun sl st => (eva sl st).then fun d st1 => .exc C [(f, d)] st1) := by
  obtain ⟨fi, fd, ps, iC, tI, hb, F1⟩ := xc.ini
  have hA : PA X [e] (tA B fun sl st => (eva sl st).bind fun d st1 => (Res.ok (α := List D) [] st1).bind fun ds st2 => .ok (d :: ds) st2) := a_cons hs he a_nil
  refine PS.imp (ps_raise hc tk (pmk_oex (CX := L2.CX X.prog X.w) (ds := []) (dvs := []) xc.ox iC tI F1 hr hb .nil (fun pins σ H s e s' I c => by
    obtain ⟨_, _, _, _, _, _, _, _, _, _, _, _, hE⟩ := c
    exact hE.elim) hg hm hA hd (star_cons hs) rfl)) fun D0 σ H ⟨W, sl, st, h1, h2, h3, h4, h5⟩ => ?_
  refine ⟨W, sl, st, h1, h2, h3, h4, ?_⟩
  dsimp only at h5 ⊢
  cases hr : eva sl st with
  | stuck => rw [hr] at h5; exact h5.elim
  | exc C fs st' => rw [hr] at h5; exact h5 σ
  | ok d st1 =>
    rw [hr, Res.then_ok] at h5
    simp only [Res.bind_ok]
    intro W1 H1 vs l1 s1 r1
    simp only [RepL] at r1
    obtain ⟨v, _, rfl, rv, rfl⟩ := r1
    refine ⟨by simp, fun a ha => ⟨a, v, rfl, upd_same, fun dx hdx hne => ⟨rfl, dx, [(f, v)], upd_same, ?_, ?_, ?_⟩⟩⟩
    · rw [upd_ne hne, upd_same]
    · rw [upd_ne hne] at hdx
      exact hdx
    · rw [upd_ne hne] at hdx
      have eH : upd (del (upd (upd (upd H1 a (exo a (B.CA C) none)) dx (exd dx [(f, v)])) a (exo a (B.CA C) (some dx))) a) dx (.xd [(f, v)]) = upd H1 dx (.xd [(f, v)]) := by
        funext b
        by_cases hb : b = dx
        · rw [hb, upd_same, upd_same]
        · rw [upd_ne hb, upd_ne hb]
          by_cases hba : b = a
          · rw [hba, del_same, ha]
          · rw [del_ne hba, upd_ne hba, upd_ne hb, upd_ne hba]
      rw [eH]
      have q := h5 σ W1 (upd H1 dx (.xd [(f, v)])) dx [(f, v)] l1 (sr_extra s1 hdx _) upd_same (by simp only [RepF, RepFP]; exact ⟨(f, v), [], rfl, ⟨rfl, rv⟩, rfl⟩)
      rw [l1.CA, h2] at q
      exact q
/-! ### try -/
def PostS0 (W : Wo) (E : XK) (r : RS) (D0 : Ends) : Prop := match r with
  | .next sl st => ∀ W' σ' H', Le W W' → SlR W' sl σ' → SR W' st H' → D0.nx σ' H'
  | .ret d st => ∀ W' H' v, Le W W' → SR W' st H' → Rep W' d v → D0.rt v H'
  | .brk sl st => ∀ W' σ' H', Le W W' → SlR W' sl σ' → SR W' st H' → D0.bk σ' H'
  | .cnt sl st => ∀ W' σ' H', Le W W' → SlR W' sl σ' → SR W' st H' → D0.ct σ' H'
  | .exc C fs st => PostX W E C fs st
  | .stuck => False
/-- a statement that raises at the slots it began with -/
def tS0 (B : Bx) (ev : Slots → Store → RS) : TS := fun D0 σ H => ∃ W sl st, W.K = B.K ∧ W.CA = B.CA ∧ SlR W sl σ ∧ SR W st H ∧ PostS0 W (B.E σ) (ev sl st) D0
theorem PostS0.mono {W W1 : Wo} {E : XK} {r : RS} {Q : Ends} (l : Le W W1) (h : PostS0 W E r Q) : PostS0 W1 E r Q := by
  cases r with
  | next sl st => exact fun W' σ' H' l' => h W' σ' H' (l.trans l')
  | ret d st => exact fun W' H' v l' => h W' H' v (l.trans l')
  | brk sl st => exact fun W' σ' H' l' => h W' σ' H' (l.trans l')
  | cnt sl st => exact fun W' σ' H' l' => h W' σ' H' (l.trans l')
  | exc C fs st => exact PostX.mono l h
  | stuck => exact h
theorem sT_E0 {ev : Ev} {f : D → Store → RS} {σ : Sg} {H : Hp} {Q : Ends} {G : VK} {W : Wo} {sl : Slots} {st : Store} (h1 : W.K = B.K) (h2 : W.CA = B.CA) (h3 : SlR W sl σ) (h4 : SR W st H) (h : PostS0 W (B.E σ) ((ev sl st).then f) Q)
    (k : ∀ d st1 W1 H1 v, W1.K = B.K → W1.CA = B.CA → SlR W1 sl σ → SR W1 st1 H1 → Rep W1 d v → Le W W1 → PostS0 W1 (B.E σ) (f d st1) Q → G v H1) : tE B ev σ H G := by
  refine ⟨W, sl, st, h1, h2, h3, h4, ?_⟩
  cases hr : ev sl st with
  | ok d st1 =>
    rw [hr] at h
    exact fun W1 H1 v l s r => k d st1 W1 H1 v (l.K.trans h1) (l.CA.trans h2) (h3.mono l) s r l (PostS0.mono l h)
  | exc C fs st1 =>
    rw [hr] at h
    exact h
  | stuck =>
    rw [hr] at h
    exact h
theorem s0_set {i : Nat} {x : Str} {p' : Pos} (hN : X.N.Nodup) (hi : X.N[i]? = some x) (hx : Loc X.env.scope x) (hf : X.fn x = true ∨ X.env.scope.names.lookup x = some .local) (hs : isComp e = false) (he : PE X e (tE B eva)) :
    PS X (.Assign [.Name x p'] e pos) (tS0 B fun sl st => (eva sl st).then fun d st1 => match asgT (.name i) d sl with
    | some sl' => .next sl' st1
    | none => .stuck) := by
  refine PS.imp (ps_set hN hi hx he (swap_none hs) hf) fun D0 σ H ⟨W, sl, st, h1, h2, h3, h4, h5⟩ => ?_
  refine sT_E0 h1 h2 h3 h4 h5 fun d st1 W1 H1 v k1 k2 k3 k4 r l q => ?_
  split at q
  · rename_i sl' e1
    simp only [asgT] at e1
    split at e1
    · cases e1
      exact q W1 _ H1 (Le.refl W1) (k3.set r i) k4
    · cases e1
  · exact q.elim
theorem s0_ex (hs : isComp e = false) (he : PE X e (tE B eva)) : PS X (.Expr e pos) (tS0 B fun sl st => (eva sl st).then fun _ st1 => .next sl st1) := by
  refine PS.imp (ps_expr he (swap_none hs)) fun D0 σ H ⟨W, sl, st, h1, h2, h3, h4, h5⟩ => ?_
  exact sT_E0 h1 h2 h3 h4 h5 fun d st1 W1 H1 v k1 k2 k3 k4 r l q => q W1 σ H1 (Le.refl W1) k3 k4
theorem s0_ret (he : PE X e (tE B eva)) : PS X (.Return (some e) pos) (tS0 B fun sl st => (eva sl st).then fun d st1 => .ret d st1) := by
  refine PS.imp (ps_ret he) fun D0 σ H ⟨W, sl, st, h1, h2, h3, h4, h5⟩ => ?_
  exact sT_E0 h1 h2 h3 h4 h5 fun d st1 W1 H1 v k1 k2 k3 k4 r l q => q W1 H1 v (Le.refl W1) k4 r
theorem ss0_one {s : Stmt} {ev : Slots → Store → RS} (h : PS X s (tS0 B ev)) : PSs X [s] (tS0 B ev) := by
  refine PSs.imp (pss_cons h pss_nil) fun D0 σ H ⟨W, sl, st, h1, h2, h3, h4, h5⟩ => ⟨W, sl, st, h1, h2, h3, h4, ?_⟩
  cases hr : ev sl st with
  | next sl' st' =>
    rw [hr] at h5
    exact h5
  | _ =>
    rw [hr] at h5
    exact h5
/-- what the suite reads: the attribute f of the caught exception -/
def rdX (a : Addr) (cls : Value) (d : Option Addr) (CA : Nat → Addr) (cs : List Nat) (i : Nat) (f : Str) : TE := fun σ H Q => ∃ C, C ∈ cs ∧ tXf a cls d (CA C) f (tVar i) σ H Q
theorem pe_rdX {a : Addr} {oe : Obj} {cls : Value} {d : Option Addr} {pn : List (Addr × Obj)} {CA : Nat → Addr} {cs : List Nat} {i : Nat} {xn f : Str} {p p2 : Pos} (hx : ∀ C ∈ cs, XfC X.K (CA C) ∧ PySem.W.findIn X.K (.ref (CA C)) f = some none) (hi : X.N[i]? = some xn) (hv : Vis X.env.scope xn)
    (d1 : (xn == ("__debug__" : Str)) = false) (d2 : (xn == ("__classdict__" : Str)) = false) (hz : Zc cls d oe) (hf : ∃ vs, oe.data = .fields vs) : PE (X.suite a ((a, oe) :: pn)) (.Attribute (.Name xn p) f p2) (rdX a cls d CA cs i f) :=
  ⟨fun pins s σ H Q I ⟨C, hC, h⟩ => (pe_xf (X := X) (pn := pn) (pos := p2) (n := f) (hx C hC).1 (hx C hC).2 hz hf (pe_var (X := X.suite a ((a, oe) :: pn)) (pos := p) hi hv d1 d2) rfl).run pins s σ H Q I h⟩
/-- .. perhaps in a list -/
def wrX (wr : Bool) (t : TE) : TE := fun σ H Q => if wr = true then tLst (tCons t tNil) σ H Q else t σ H Q
def wrE (wr : Bool) (e : Expr) (pos : Pos) : Expr := if wr then .List [e] pos else e
/-- what the suite does with it -/
def suT (k : Option Nat) (t : TE) : TS := match k with
  | none => tRet t
  | some k => tAsg t (gName k)
/-- the statement of the suite -/
def suS (k : Option Nat) (y : Str) (e : Expr) (p pos : Pos) : Stmt := match k with
  | none => .Return (some e) pos
  | some _ => .Assign [.Name y p] e pos
theorem s_tryX {s0 : Stmt} {evb : Slots → Store → RS} {x xn y f : Str} {np hp p1 p2 p3 p4 p5 : Pos} {cs os : List Nat} {i : Nat} {k : Option Nat} {wr : Bool} {cv : Value} (hK : B.K = X.K) (hs : X.stack = X.env :: X.outer) (hf : X.env.frame = some X.env.locals) (hN : X.N.Nodup) (hi : X.N[i]? = some xn) (hln : X.env.scope.names.lookup xn = some .local)
    (d1 : (xn == ("__debug__" : Str)) = false) (d2 : (xn == ("__classdict__" : Str)) = false) (hc : Names X x cv) (tk : Takes X (fun cls d σ H => B.E σ cls d H)) (hm : ∀ C, C ∈ cs ∨ C ∈ os → PySem.W.exmOne X.K (.ref (B.CA C)) cv = some (decide (C ∈ cs)))
    (hx : ∀ C ∈ cs, XfC X.K (B.CA C) ∧ PySem.W.findIn X.K (.ref (B.CA C)) f = some none) (hk : ∀ j, k = some j → X.N[j]? = some y ∧ Loc X.env.scope y ∧ (X.fn y = true ∨ X.env.scope.names.lookup y = some .local))
    (hb : ∀ (X' : Cx) (B' : Bx), (∃ pn xe, X' = X.tr pn xe) → B'.K = B.K → B'.CA = B.CA → Takes X' (fun cls d σ H => B'.E σ cls d H) → PassesOwn (model X.prog X.w) X.A X.env X'.xe → PS X' s0 (tS0 B' evb)) :
    PS X (.Try [s0] [.ExceptHandler (some (.Name x np)) (some xn) [suS k y (wrE wr (.Attribute (.Name xn p1) f p2) p3) p4 p5] hp] [] [] pos) (tS B fun sl st => tryR cs os i k wr f sl (evb sl st)) := by
  have hsu : ∀ (a : Addr) (oe : Obj) (cls : Value) (d : Option Addr) (pn : List (Addr × Obj)), Zc cls d oe → (∃ vs, oe.data = .fields vs) → PSs (X.suite a ((a, oe) :: pn)) [suS k y (wrE wr (.Attribute (.Name xn p1) f p2) p3) p4 p5] (tSeq (suT k (wrX wr (rdX a cls d B.CA cs i f))) tNext) := by
    intro a oe cls d pn hz hfd
    have he : PE (X.suite a ((a, oe) :: pn)) (.Attribute (.Name xn p1) f p2) (rdX a cls d B.CA cs i f) := pe_rdX hx hi (.inl hln) d1 d2 hz hfd
    have hw : PE (X.suite a ((a, oe) :: pn)) (wrE wr (.Attribute (.Name xn p1) f p2) p3) (wrX wr (rdX a cls d B.CA cs i f)) := by
      cases wr with
      | false => exact he
      | true => exact pe_lst (pa_cons he pa_nil (star_cons rfl))
    refine pss_cons ?_ pss_nil
    cases k with
    | none => exact ps_ret hw
    | some j =>
      obtain ⟨k1, k2, k3⟩ := hk j rfl
      refine ps_set (X := X.suite a ((a, oe) :: pn)) hN k1 k2 hw ?_ k3
      cases wr <;> rfl
  refine PS.imp (ps_try_as (tb := fun Wx => tS0 ⟨B.K, B.CA, fun σ cls d H => Wx cls d σ H⟩ evb) (Wout := fun cls d σ H => B.E σ cls d H) hs hf hN hi (show X.env.kindOf xn = some .local from hln) hc tk (fun Wx pn xe tk' po => ss0_one (hb (X.tr pn xe) ⟨B.K, B.CA, fun σ cls d H => Wx cls d σ H⟩ ⟨pn, xe, rfl⟩ rfl rfl tk' po)) hsu) fun D0 σ H ⟨W, sl, st, h1, h2, h3, h4, h5⟩ => ?_
  refine ⟨W, sl, st, h1, h2, h3, h4, ?_⟩
  dsimp only at h5
  cases hr : evb sl st with
  | next sl' st' => rw [hr] at h5; exact h5
  | ret d st' => rw [hr] at h5; exact h5
  | brk sl' st' => rw [hr] at h5; exact h5
  | cnt sl' st' => rw [hr] at h5; exact h5
  | stuck => rw [hr] at h5; exact h5
  | exc C fs st1 =>
    rw [hr] at h5
    intro W' H' dx es l s hdx rf
    unfold tryR at h5
    dsimp only at h5
    rw [l.CA, h2]
    by_cases hC : C ∈ cs
    · rw [if_pos hC] at h5
      refine ⟨true, by rw [hm C (.inl hC), decide_eq_true hC], fun _ a ha => ?_, (fun z => by cases z)⟩
      rcases rf.look (x := f) with ⟨q, _⟩ | ⟨d, v, q1, q2, q3⟩
      · rw [q] at h5
        exact h5.elim
      · rw [q1] at h5
        dsimp only at h5
        split at h5
        · rename_i hlt
          have hσ : i < σ.length := by rw [h3.length]; exact hlt
          have rd : ∀ {Q : VK}, Q v H' → rdX a (.ref (B.CA C)) (some dx) B.CA cs i f (σ.set i (some (.ref a))) H' Q := fun {Q} q =>
            ⟨C, hC, .ref a, by rw [List.getElem?_set_self hσ], rfl, rfl, dx, es, v, rfl, hdx, q2, q⟩
          have hide : ∀ {W : Wo} {ds : Slots} {s : Sg} (i : Nat) (u : Option V), SlR W ds s → SlR W (ds.set i none) (s.set i u) := by
            intro W ds
            induction ds with
            | nil =>
              intro s i u h
              have h' : s = [] := h
              subst h'
              exact rfl
            | cons d ds ih =>
              intro s i u h
              obtain ⟨v, r, rfl, h1, h2⟩ := h
              cases i with
              | zero => exact ⟨u, r, rfl, (fun x z => by cases z), h2⟩
              | succ i => exact ⟨v, r.set i u, rfl, h1, ih i u h2⟩
          have wq : ∀ {Q : VK}, (∀ W2 H2 u, Le W' W2 → SR W2 st1 H2 → Rep W2 (if wr then .lst [d] else d) u → Q u H2) → wrX wr (rdX a (.ref (B.CA C)) (some dx) B.CA cs i f) (σ.set i (some (.ref a))) H' Q := by
            intro Q q
            cases wr with
            | false => exact rd (q W' H' v (Le.refl W') s q3)
            | true =>
              show tLst (tCons (rdX a (.ref (B.CA C)) (some dx) B.CA cs i f) tNil) _ _ _
              refine rd ?_
              refine ⟨by show 1 ≤ sizeLine; decide, fun p hp => ?_⟩
              have lt := le_still (o := .lst [v]) (s.free hp)
              refine q (W'.still p (.lst [v])) _ _ lt (s.tree hp _) ?_
              simp only [Rep, if_true]
              exact ⟨p, [v], rfl, .inl upd_same, .cons (q3.mono lt) .nil⟩
          unfold caughtR at h5
          cases k with
          | none =>
            show wrX wr (rdX a (.ref (B.CA C)) (some dx) B.CA cs i f) (σ.set i (some (.ref a))) H' D0.rt
            exact wq fun W2 H2 u l2 s2 r2 => h5 W2 H2 u (l.trans l2) s2 r2
          | some j =>
            dsimp only at h5
            split at h5
            · show wrX wr (rdX a (.ref (B.CA C)) (some dx) B.CA cs i f) (σ.set i (some (.ref a))) H' _
              refine wq fun W2 H2 u l2 s2 r2 => ?_
              exact h5 W2 _ H2 (l.trans l2) (SlR.none i (SlR.set r2 j (hide i _ (h3.mono (l.trans l2))))) s2
            · exact h5.elim
        · exact h5.elim
    · rw [if_neg hC] at h5
      by_cases hO : C ∈ os
      · rw [if_pos hO] at h5
        refine ⟨false, by rw [hm C (.inr hO), decide_eq_false hC], (fun z => by cases z), fun _ => ?_⟩
        have q := h5 σ W' H' dx es l s hdx rf
        rw [l.CA, h2] at q
        exact q
      · rw [if_neg hO] at h5
        exact h5.elim
end
end TM
set_option maxHeartbeats 1000000
/-! TM, part P: the compact text is the program's text; the master theorem. -/
namespace TM
open PySem PySem.Spec PyProof.Rows L2
/-! ### chains -/
theorem marks_last {o o' : CmpOp} {b c : Expr} (h : isSet c = false) : lastMarks [o, o'] [b, c] = false := by
  cases c <;> first | (simp [isSet] at h; done) | rfl
section
variable {X : Cx} {B : Bx} {n : Nat} {a b c e : Expr} {pos : Pos} {eva evb evc : Ev}
theorem chain_read (hK : B.K = X.K) {o o' : CmpOp} {σ : Sg} {H : Hp} {Q : VK} (h : tE B (fun sl st => (eva sl st).bind fun x st1 => (evb sl st1).bind fun y st2 => match cmpD o x y st2 with
    | some true => (evc sl st2).bind fun z st3 => ofO ((cmpD o' y z st3).map .bl) st3
    | some false => .ok (.bl false) st2
    | none => .stuck) σ H Q) : tChain (rCmp X.K o) (rCmp X.K o') (tE B eva) (tE B evb) (tE B evc) σ H Q := by
  obtain ⟨W, sl, st, h1, h2, h3, h4, h5⟩ := h
  refine tE_then h1 h2 h3 h4 h5 fun x st1 W1 H1 v k1 k2 k3 k4 r1 l1 q1 => ?_
  refine tE_then k1 k2 k3 k4 q1 fun y st2 W2 H2 u m1 m2 m3 m4 r2 l2 q2 => ?_
  cases hc : cmpD o x y st2 with
  | none =>
    rw [hc] at q2
    exact q2.elim
  | some k =>
    rw [hc] at q2
    refine ⟨W2, x, y, st2, k, m4, m1.trans hK, r1.mono l2, r2, hc, k, rfl, ?_⟩
    cases k with
    | false => exact iteF (post_here m4 repB q2)
    | true =>
      refine iteT (tE_then m1 m2 m3 m4 q2 fun z st3 W3 H3 w n1 n2 n3 n4 r3 l3 q3 => ?_)
      obtain ⟨d, e1, q4⟩ := post_ofO q3
      rw [Option.map_eq_some_iff] at e1
      obtain ⟨k, e1, rfl⟩ := e1
      exact ⟨W3, y, z, st3, k, n4, n1.trans hK, r2.mono l3, r3, e1, post_here n4 repB q4⟩
theorem e_chain (hK : B.K = X.K) (hu : X.A.units + 64 < cLine) (o o' : CmpOp) (hs : isSet c = false) (ha : PE X a (tE B eva)) (hb : PE X b (tE B evb)) (hc : PE X c (tE B evc)) :
    PE X (.Compare a [o, o'] [b, c] pos) (tE B fun sl st => (eva sl st).bind fun x st1 => (evb sl st1).bind fun y st2 => match cmpD o x y st2 with
    | some true => (evc sl st2).bind fun z st3 => ofO ((cmpD o' y z st3).map .bl) st3
    | some false => .ok (.bl false) st2
    | none => .stuck) :=
  PE.imp (pe_chain (cmpAny hu o) (cmpAny hu o') ha hb hc (marks_last hs)) fun σ H Q h => chain_read hK h
theorem t_chain (hK : B.K = X.K) (hu : X.A.units + 64 < cLine) (o o' : CmpOp) (hs : isSet c = false) (ha : PE X a (tE B eva)) (hb : PE X b (tE B evb)) (hc : PE X c (tE B evc)) :
    PT X (.Compare a [o, o'] [b, c] pos) (tT B fun sl st => (eva sl st).bind fun x st1 => (evb sl st1).bind fun y st2 => match cmpD o x y st2 with
    | some true => (evc sl st2).bind fun z st3 => ofO ((cmpD o' y z st3).map .bl) st3
    | some false => .ok (.bl false) st2
    | none => .stuck) := by
  refine PT.imp (pt_chain (cmpAny hu o) (cmpAny hu o') ha hb hc (marks_last hs)) fun σ H Q ⟨W, sl, st, h1, h2, h3, h4, h5⟩ => ?_
  refine chain_read hK ⟨W, sl, st, h1, h2, h3, h4, tT_bl (fun d st' h => ?_) h5⟩
  obtain ⟨x, s1, e1, h⟩ := bind_ok h
  obtain ⟨y, s2, e2, h⟩ := bind_ok h
  split at h
  · obtain ⟨z, s3, e3, h⟩ := bind_ok h
    exact ofO_bl h
  · cases h
    exact ⟨_, rfl⟩
  · cases h
end
/-! ### the text -/
/-- the own classes: how many, their names, the names that none of them has, what isinstance says; the exception classes: name, number, attribute; what except clauses take and leave -/
structure Kl where
  nc : Nat
  CN : List (Str × Nat)
  NA : List Str
  IC : List (Str × List Nat)
  XC : List (Str × Nat × Str) := []
  XM : List (Str × List Nat × List Nat) := []
structure Kc where
  N : List Str
  sc : Scope
  fn : Str → Bool
  FT : List FD
  fr : List Str
  gb : List (Str × D)
  kl : Kl
def Kc.kdOf (c : Kc) (f : Nat) (kd : FK) : Bool := decide ((c.FT[f]?).map (·.kd) = some kd)
def richC : CmpOp → Bool
  | .Eq => true
  | _ => false
def callee : Expr → Bool
  | .Name _ _ => true
  | .BinOp _ _ _ _ => true
  | _ => false
def Kc.blk (c : Kc) (scope : Scope) : Kc := { c with sc := relS scope c.sc, fn := fun x => scope.names.lookup x == some .cell }
def Kc.vis (c : Kc) (x : Str) : Bool := (match c.sc.names.lookup x with
  | some .local => true
  | some .cell => true
  | some .free => true
  | _ => false) && !(x == ("__debug__" : Str)) && !(x == ("__classdict__" : Str))
def Kc.loc (c : Kc) (x : Str) : Bool := match c.sc.names.lookup x with
  | some .local => true
  | some .cell => c.fn x
  | _ => false
def Kc.gl (c : Kc) (x : Str) : Bool := decide (c.sc.names.lookup x = some .globalImplicit) && !(x == ("__debug__" : Str)) && !(x == ("__name__" : Str))
def Kc.fre (c : Kc) (x : Str) : Bool := c.gl x && decide (x ∈ c.fr)
def oneB (o : BoolOp) (pos : Pos) : List Expr → Expr
  | [y] => y
  | ys => .BoolOp o ys pos
def biS : Bi → Str
  | .len => "len" | .str => "str" | .int => "int" | .sorted => "sorted" | .max => "max" | .min => "min" | .sum => "sum" | .any => "any" | .all => "all" | .list => "list" | .tuple => "tuple" | .dict => "dict" | .repr => "repr" | .abs => "abs" | .ord => "ord" | .chr => "chr" | .bool => "bool" | .listC => "list" | .dictC => "dict"
def tyS : Ty → Str
  | .bool => "bool" | .int => "int" | .str => "str" | .list => "list" | .tuple => "tuple" | .dict => "dict" | .cls _ => "object"
def isIf : Expr → Bool
  | .IfExp _ _ _ _ => true
  | _ => false
def nostar (es : List Expr) : Bool := es.all fun e => !isStar e
mutual
def chkG (c : Kc) : CT → Expr → Bool
  | .name i, e => match e with
    | .Name x _ => decide (c.N[i]? = some x) && c.loc x
    | _ => false
  | .tup ts, e => match e with
    | .Tuple es _ _ => chkGs c ts es
    | _ => false
termination_by structural t => t
def chkGs (c : Kc) : List CT → List Expr → Bool
  | [], es => es.isEmpty
  | t :: ts, es => match es with
    | [] => false
    | e :: es => chkG c t e && chkGs c ts es
termination_by structural t => t
end
def chkTs (c : Kc) : List Ty → List Expr → Bool
  | [], es => es.isEmpty
  | t :: ts, es => match es with
    | .Name T _ :: es => tyB t && decide (T = tyS t) && c.fre T && chkTs c ts es
    | _ => false
def zipT : CI → Expr → Bool
  | .zip _ _, tg => isTupE tg
  | .enum _, tg => isTupE tg
  | _, _ => true
mutual
def chkE : CE → Kc → Expr → Bool
  | .var i, c, e => match e with
    | .Name x _ => decide (c.N[i]? = some x) && c.vis x
    | _ => false
  | .non, c, e => match e with
    | .Constant .none _ _ => true
    | _ => false
  | .nkd, c, e => match e with
    | .Dict [some (.Constant .none _ _)] [.Constant (.int j) _ _] _ => decide (j = 0)
    | _ => false
  | .bl b, c, e => match e with
    | .Constant (.bool b') _ _ => b == b'
    | _ => false
  | .int i, c, e => match e with
    | .Constant (.int j) _ _ => decide (i = j)
    | _ => false
  | .str i, c, e => match e with
    | .Constant (.str j) _ _ => decide (i = j)
    | _ => false
  | .glob x d, c, e => match e with
    | .Name y _ => decide (x = y) && c.gl y && decide ((x, d) ∈ c.gb)
    | _ => false
  | .op o a b, c, e => match e with
    | .BinOp l o' r _ => decide (o = o') && chkE a c l && chkE b c r
    | _ => false
  | .neg a, c, e => match e with
    | .UnaryOp .USub x _ => chkE a c x
    | _ => false
  | .not_ a, c, e => match e with
    | .UnaryOp .Not x _ => !isIf x && chkE a c x
    | _ => false
  | .and_ a b, c, e => match e with
    | .BoolOp .And (x :: y :: rest) pos => !isIf x && !isIf (oneB .And pos (y :: rest)) && chkE a c x && chkE b c (oneB .And pos (y :: rest))
    | _ => false
  | .or_ a b, c, e => match e with
    | .BoolOp .Or (x :: y :: rest) pos => !isIf x && !isIf (oneB .Or pos (y :: rest)) && chkE a c x && chkE b c (oneB .Or pos (y :: rest))
    | _ => false
  | .ife t a b, c, e => match e with
    | .IfExp x y z _ => !isIf x && chkE t c x && chkE a c y && chkE b c z
    | _ => false
  | .cmp o a b, c, e => match e with
    | .Compare x [o'] [y] _ => decide (o = o') && !isSet y && chkE a c x && chkE b c y
    | _ => false
  | .chain o p a b d, c, e => match e with
    | .Compare x [o', p'] [y, z] _ => decide (o = o') && decide (p = p') && !isSet z && chkE a c x && chkE b c y && chkE d c z
    | _ => false
  | .isin a ts, c, e => match e with
    | .Call (.Name nm _) [x, .Name T _] [] _ => decide (nm = "isinstance") && c.fre nm && c.fre T && (match ts with
      | [t] => tyB t && decide (T = tyS t)
      | _ => false) && !isStar x && chkE a c x
    | .Call (.Name nm _) [x, .Tuple tes _ _] [] _ => decide (nm = "isinstance") && c.fre nm && decide (ts.length ≤ 1000) && chkTs c ts tes && !isStar x && chkE a c x
    | _ => false
  | .tup es, c, e => match e with
    | .Tuple xs _ _ => nostar xs && chkEs es c xs
    | _ => false
  | .lst mt es, c, e => match e with
    | .List xs _ => nostar xs && chkEs es c xs
    | _ => false
  | .dct mt es, c, e => match e with
    | .Dict [] [] _ => (match es with
      | [] => true
      | _ => false)
    | .Dict ks vs _ => !ks.isEmpty && decide (ks.length ≤ 15) && (match ilv ks vs with
      | some xs => chkEs es c xs
      | none => false)
    | _ => false
  | .idx a b, c, e => match e with
    | .Subscript x y _ => !isSlice y && chkE a c x && chkE b c y
    | _ => false
  | .sl a lo hi, c, e => match e with
    | .Subscript x (.Slice l h none _) _ => chkE a c x && chkO lo c l && chkO hi c h
    | _ => false
  | .slx a s, c, e => match e with
    | .Subscript x (.Slice none none (some y) _) _ => chkE a c x && chkE s c y
    | _ => false
  | .call f nm es, c, e => match e with
    | .Call (.Name x _) xs [] _ => decide (x = nm) && c.gl x && decide ((c.FT[f]?).map (·.nm) = some x) && c.kdOf f .fn && nostar xs && chkEs es c xs
    | _ => false
  | .callK f nm ks es ls pm, c, e => match e with
    | .Call (.Name x _) xs kws _ => decide (x = nm) && c.gl x && (match c.FT[f]? with
      | some F => decide (F.nm = x) && decide (F.kd = .fn) && decide (⟨es.length, ks, pm⟩ ∈ F.kf)
      | none => false) && nostar xs && chkEs es c xs && decide (kws.map (·.arg) = ks.map some) && chkEs ls c (PKr kws)
    | _ => false
  | .bi b es, c, e => match e with
    | .Call (.Name x _) xs [] _ => decide (x = biS b) && c.fre x && !xs.isEmpty && nostar xs && chkEs es c xs
    | _ => false
  | .me m r es, c, e => match e with
    | .Call (.Attribute o nm apos) xs [] cpos => decide (nm = meName m) && noSuper o && (apos.endLine == cpos.line) && decide (xs.length < 30) && nostar xs && chkE r c o && chkEs es c xs
    | _ => false
  | .lc mt own t it ifs a, c, e => match e with
    | .ListComp elt [⟨tg, iter, ifs', as⟩] scope _ => decide (as = 0) && zipT it tg && blkC c.N c.sc scope own && (tgIx t).all (fun i => decide (i ∈ own.map (·.2))) && !isSet iter && chkI it c iter && chkG (c.blk scope) t tg && chkFs ifs (c.blk scope) ifs' && chkE a (c.blk scope) elt
    | _ => false
  | .dc mt own t it ifs k v, c, e => match e with
    | .DictComp kx vx [⟨tg, iter, ifs', as⟩] scope _ => decide (as = 0) && zipT it tg && blkC c.N c.sc scope own && (tgIx t).all (fun i => decide (i ∈ own.map (·.2))) && !isSet iter && chkI it c iter && chkG (c.blk scope) t tg && chkFs ifs (c.blk scope) ifs' && chkE k (c.blk scope) kx && chkE v (c.blk scope) vx
    | _ => false
  | .lenum a, c, e => match e with
    | .Call (.Name nm _) [.Call (.Name nm2 _) [x] [] _] [] _ => decide (nm = "list") && decide (nm2 = "enumerate") && c.fre nm && c.fre nm2 && !isStar x && chkE a c x
    | _ => false
  | .lset srt a, c, e => match e with
    | .Call (.Name nm _) [.Call (.Name nm2 _) [x] [] _] [] _ => decide (nm = setNm srt) && decide (nm2 = "set") && c.fre nm && c.fre nm2 && !isStar x && chkE a c x
    | _ => false
  | .frz a, c, e => byTruth e && chkE a c e
  | .new mt C f x es, c, e => match e with
    | .Call (.Name y _) xs [] _ => decide (y = x) && c.gl y && decide ((y, C) ∈ c.kl.CN) && c.kdOf f (.me C "__init__") && !xs.isEmpty && nostar xs && chkEs es c xs
    | _ => false
  | .newv mt i C f es, c, e => match e with
    | .Call (.Name y _) xs [] _ => decide (c.N[i]? = some y) && c.vis y && decide (C < c.kl.nc) && c.kdOf f (.me C "__init__") && !xs.isEmpty && nostar xs && chkEs es c xs
    | _ => false
  | .fld nc a x, c, e => match e with
    | .Attribute o y _ => decide (y = x) && decide (nc = c.kl.nc) && decide (x ∈ c.kl.NA) && noSuper o && chkE a c o
    | _ => false
  | .mth w C f m r es, c, e => decide (C < c.kl.nc) && c.kdOf f (.me C m) && (match w with
    | .dot => (match e with
      | .Call (.Attribute o nm apos) xs [] cpos => decide (nm = m) && noSuper o && (apos.endLine == cpos.line) && decide (xs.length < 29) && nostar xs && chkE r c o && chkEs es c xs
      | _ => false)
    | .bin op => (match e with
      | .BinOp x op' y _ => decide (op = op') && decide (m = PySem.dunder op.info.2) && chkE r c x && chkEs es c [y]
      | _ => false)
    | .cmp op => (match e with
      | .Compare x [op'] [y] _ => decide (op = op') && richC op && decide (m = (cmpInfo op).2.1) && !isSet y && chkE r c x && chkEs es c [y]
      | _ => false)
    | .ne => (match e with
      | .Compare x [.NotEq] [y] _ => decide (m = "__eq__") && !isSet y && chkE r c x && chkEs es c [y]
      | _ => false)
    | .inv => (match e with
      | .UnaryOp .Invert x _ => decide (m = "__invert__") && chkE r c x && chkEs es c []
      | _ => false)
    | .len => (match e with
      | .Call (.Name nm _) [x] [] _ => decide (nm = "len") && c.fre nm && decide (m = "__len__") && !isStar x && chkE r c x && chkEs es c []
      | _ => false)
    | .call => (match e with
      | .Call fe xs [] _ => callee fe && decide (m = "__call__") && !xs.isEmpty && nostar xs && chkE r c fe && chkEs es c xs
      | _ => false))
  | .mthK C f m ks r es ls pm, c, e => match e with
    | .Call (.Attribute o nm apos) [] kws cpos => decide (nm = m) && decide (C < c.kl.nc) && (c.kdOf f (.me C m) || c.kdOf f (.mk C m)) && (match c.FT[f]? with
      | some F => decide (⟨1, ks, pm⟩ ∈ F.kf)
      | none => false) && noSuper o && (apos.endLine == cpos.line) && decide (kws.length < 29) && chkEs es c [] && chkE r c o && decide (kws.map (·.arg) = ks.map some) && chkEs ls c (PKr kws)
    | _ => false
  | .cmth C f x m es, c, e => match e with
    | .Call (.Attribute (.Name y p) nm apos) xs [] cpos => decide (y = x) && c.gl y && decide ((y, C) ∈ c.kl.CN) && decide (nm = m) && c.kdOf f (.cm C m) && noSuper (.Name y p) && (apos.endLine == cpos.line) && decide (xs.length < 29) && !xs.isEmpty && nostar xs && chkEs es c xs
    | _ => false
  | .isc nc a x anc, c, e => match e with
    | .Call (.Name nm _) [y, .Name z _] [] _ => decide (nm = "isinstance") && c.fre nm && decide (z = x) && c.gl z && decide (nc = c.kl.nc) && decide ((z, anc) ∈ c.kl.IC) && !isStar y && chkE a c y
    | _ => false
termination_by structural e => e
def chkEs : List CE → Kc → List Expr → Bool
  | [], c, es => es.isEmpty
  | a :: as, c, es => match es with
    | [] => false
    | e :: es => chkE a c e && chkEs as c es
termination_by structural e => e
def chkFs : List CE → Kc → List Expr → Bool
  | [], c, es => es.isEmpty
  | a :: as, c, es => match es with
    | [e] => as.isEmpty && !isIf e && chkE a c e
    | _ => false
termination_by structural e => e
def chkO : CO → Kc → Option Expr → Bool
  | .none, c, o => o.isNone
  | .some a, c, o => match o with
    | some e => chkE a c e
    | none => false
termination_by structural e => e
def chkI : CI → Kc → Expr → Bool
  | .e a, c, e => chkE a c e
  | .rng es, c, e => match e with
    | .Call (.Name nm _) xs [] _ => decide (nm = "range") && c.fre nm && nostar xs && (xs.length == 1 || xs.length == 2) && chkEs es c xs
    | _ => false
  | .enum a, c, e => match e with
    | .Call (.Name nm _) [x] [] _ => decide (nm = "enumerate") && c.fre nm && !isStar x && chkE a c x
    | _ => false
  | .vals a, c, e => match e with
    | .Call (.Attribute o nm apos) [] [] cpos => decide (nm = "values") && noSuper o && (apos.endLine == cpos.line) && chkE a c o
    | _ => false
  | .zip a b, c, e => match e with
    | .Call (.Name nm _) [x, y] [] _ => decide (nm = "zip") && c.fre nm && !isStar x && !isStar y && chkE a c x && chkE b c y
    | _ => false
termination_by structural e => e
end
def noNm (c : Kc) : Expr → Bool
  | .Name y _ => decide (c.sc.names.lookup y = some .cell)
  | _ => true
def nopar (c : Kc) (tg e : Expr) : Bool := match tg, e with
  | .Tuple ts _ _, .Tuple vs _ _ => ts.any (noNm c) || vs.all (foldedForSure 8)
  | _, _ => false
def swC (c : Kc) (y : Str) (py : Pos) (scope : Scope) (pos : Pos) : Bool := decide (c.sc.kind = .function) && decide (c.sc.names.lookup y = some .local) && (py.line == pos.line) && !(scope.names.any fun (n, k) => n == y && (k == .local || k == .cell))
def chkStar (c : Kc) : List Nat → Nat → List Expr → Bool
  | [], i, es => match es with
    | [.Starred (.Name x _) _] => decide (c.N[i]? = some x) && c.loc x
    | _ => false
  | j :: is, i, es => match es with
    | .Name x _ :: es => decide (c.N[j]? = some x) && c.loc x && chkStar c is i es
    | _ => false
def parC (c : Kc) (x y : Str) (px py : Pos) (a b : Expr) : Bool := decide (c.sc.kind = .function) && decide (c.sc.names.lookup x = some .local) && decide (c.sc.names.lookup y = some .local) && (px.line == py.line) && !(y == x) && !isStar a && !isStar b && !([a, b].all (foldedForSure 8)) && !([a, b].all (constantsAlone 8))
def parC3 (c : Kc) (x y z : Str) (px py pz : Pos) (a b d : Expr) : Bool := decide (c.sc.kind = .function) && decide (c.sc.names.lookup x = some .local) && decide (c.sc.names.lookup y = some .local) && decide (c.sc.names.lookup z = some .local) && (px.line == py.line) && (px.line == pz.line) && !(y == x) && !(z == x) && !(z == y) && !isStar a && !isStar b && !isStar d && !([a, b, d].all (foldedForSure 8)) && !([a, b, d].all (constantsAlone 8))
def chkB (c : Kc) : CS → Stmt → Bool
  | .asg (.name i) a, s => match s with
    | .Assign [.Name x _] e _ => !isComp e && decide (c.N[i]? = some x) && c.loc x && chkE a c e
    | _ => false
  | .ex a, s => match s with
    | .Expr e _ => !isComp e && chkE a c e
    | _ => false
  | .ret a, s => match s with
    | .Return (some e) _ => chkE a c e
    | _ => false
  | _, _ => false
/-- the expression of an except suite -/
def chkW (wr : Bool) (xn f : Str) : Expr → Bool
  | .Attribute (.Name z _) g _ => !wr && decide (z = xn) && decide (g = f)
  | .List [.Attribute (.Name z _) g _] _ => wr && decide (z = xn) && decide (g = f)
  | _ => false
def chkU (c : Kc) (k : Option Nat) (wr : Bool) (xn f : Str) : Stmt → Bool
  | .Return (some e) _ => decide (k = none) && chkW wr xn f e
  | .Assign [.Name y _] e _ => (match k with
    | some j => decide (c.N[j]? = some y) && c.loc y
    | none => false) && chkW wr xn f e
  | _ => false
mutual
def chkS : CS → Kc → Stmt → Bool
  | .asg t a, c, s => match s with
    | .Assign [tg] e _ => (!isComp e || isTupE tg) && !isStar tg && ((!isTupE tg && !isLstE tg) || !isTupE e || nopar c tg e) && chkG c t tg && chkE a c e
    | _ => false
  | .asgLc i a, c, s => match s with
    | .Assign [.Name y py] (.ListComp elt gs scope pos) _ => decide (c.N[i]? = some y) && swC c y py scope pos && (match a with
      | .lc _ _ _ _ _ _ => true
      | _ => false) && chkE a c (.ListComp elt gs scope pos)
    | .Assign [.Name y py] (.DictComp kx vx gs scope pos) _ => decide (c.N[i]? = some y) && swC c y py scope pos && (match a with
      | .dc _ _ _ _ _ _ _ => true
      | _ => false) && chkE a c (.DictComp kx vx gs scope pos)
    | _ => false
  | .par i j p q, c, s => match s with
    | .Assign [.Tuple [.Name x px, .Name y py] _ _] (.Tuple [a, b] _ _) _ => decide (c.N[i]? = some x) && decide (c.N[j]? = some y) && decide (i ≠ j) && parC c x y px py a b && chkE p c a && chkE q c b
    | _ => false
  | .dead, c, s => true
  | .par3 i j l p q r, c, s => match s with
    | .Assign [.Tuple [.Name x px, .Name y py, .Name z pz] _ _] (.Tuple [a, b, d] _ _) _ => decide (c.N[i]? = some x) && decide (c.N[j]? = some y) && decide (c.N[l]? = some z) && decide (i ≠ j) && decide (i ≠ l) && decide (j ≠ l) && parC3 c x y z px py pz a b d && chkE p c a && chkE q c b && chkE r c d
    | _ => false
  | .rais C x f a, c, s => match s with
    | .Raise (some (.Call (.Name y _) [e] [] _)) none _ => decide (y = x) && c.gl y && decide ((y, C, f) ∈ c.kl.XC) && !isStar e && chkE a c e
    | _ => false
  | .tryX b x xn cs os i k wr f, c, s => match s with
    | .Try [s0] [.ExceptHandler (some (.Name y _)) (some z) [su] _] [] [] _ => decide (y = x) && c.gl y && decide ((y, cs, os) ∈ c.kl.XM) && decide (z = xn) && decide (c.N[i]? = some z) && decide (c.sc.names.lookup z = some .local) && !(z == ("__debug__" : Str)) && !(z == ("__classdict__" : Str)) && (cs.all fun C => c.kl.XC.any fun p => decide (p.2.1 = C) && decide (p.2.2 = f)) && chkU c k wr xn f su && chkB c b s0
    | _ => false
  | .asgS is i a, c, s => match s with
    | .Assign [.Tuple es _ _] e _ => !isComp e && !isTupE e && chkStar c is i es && chkE a c e
    | _ => false
  | .aug i o a, c, s => match s with
    | .AugAssign (.Name x _) o' e _ => decide (o = o') && (decide (o = .Add) || decide (o = .Sub)) && decide (c.N[i]? = some x) && c.loc x && chkE a c e
    | _ => false
  | .setI o i a, c, s => match s with
    | .Assign [.Subscript x y _] e _ => !isSlice y && !isComp e && chkE a c e && chkE o c x && chkE i c y
    | _ => false
  | .setA nc o x e, c, s => match s with
    | .Assign [.Attribute a f _] v _ => decide (f = x) && decide (nc = c.kl.nc) && decide (x ∈ c.kl.NA) && !isComp v && chkE e c v && chkE o c a
    | _ => false
  | .ex a, c, s => match s with
    | .Expr e _ => !isComp e && chkE a c e
    | _ => false
  | .iff t a b, c, s => match s with
    | .If x y z _ => !isIf x && chkE t c x && chkSs a c y && chkSs b c z
    | _ => false
  | .for_ t it b, c, s => match s with
    | .For tg iter body [] _ => !isSet iter && zipT it tg && chkG c t tg && chkI it c iter && chkSs b c body
    | _ => false
  | .whl t b, c, s => match s with
    | .While x body [] _ => !isIf x && chkE t c x && chkSs b c body
    | _ => false
  | .ret a, c, s => match s with
    | .Return (some e) _ => chkE a c e
    | _ => false
  | .retN, c, s => match s with
    | .Return none _ => true
    | _ => false
  | .pass, c, s => match s with
    | .Pass _ => true
    | _ => false
  | .brk, c, s => match s with
    | .Break _ => true
    | _ => false
  | .cnt, c, s => match s with
    | .Continue _ => true
    | _ => false
termination_by structural s => s
def chkSs : List CS → Kc → List Stmt → Bool
  | [], c, ss => ss.isEmpty
  | a :: as, c, ss => match ss with
    | [] => false
    | s :: ss => chkS a c s && chkSs as c ss
termination_by structural s => s
end
/-! ### the context fits -/
/-- where a table's def stands -/
def FKat (K : PySem.W.Frag) (mg : Str → Option Value) (CA : Nat → Addr) (F : FD) (fa : Addr) : Prop := match F.kd with
  | .fn => mg F.nm = some (.ref fa) ∧ PySem.W.keepIn K (.ref fa) = true
  | .me C m => Meth K (CA C) m fa ∧ PySem.W.fnIn K fa = true
  | .mk C m => Meth K (CA C) m fa ∧ PySem.W.fnIn K fa = true
  | .cm C m => ∃ p, ClX.CMet K (CA C) (.type "type") m p fa
structure FF (P : Program) (w : World) (K : PySem.W.Frag) (mg : Str → Option Value) (base : Heap) (CA : Nat → Addr) (k : Nat) (F : FD) (g : Fc) : Prop where
  ex : ∃ ps fa fd, FKat K mg CA F fa ∧ (F.kd.pos = true → Binds K fd ps []) ∧ (∀ q ∈ F.kf, KB K fd ps q) ∧ FnG P w K mg base k fa fd ps (prom K CA g)
/-- what is known of the own classes -/
structure KlOk (K : PySem.W.Frag) (mg : Str → Option Value) (CA : Nat → Addr) (l : Kl) : Prop where
  cs : ∀ p ∈ l.CN, p.2 < l.nc ∧ mg p.1 = some (.ref (CA p.2))
  cl : ∀ C, C < l.nc → ClsX K (CA C)
  na : ∀ C, C < l.nc → ∀ x ∈ l.NA, NoAttr K (CA C) x
  ic : ∀ p ∈ l.IC, ∃ cx, mg p.1 = some (.ref cx) ∧ IsX K CA l.nc p.2 (.ref cx)
  xm : ∀ p ∈ l.XM, ∃ cv, (mg p.1 = some cv ∨ (mg p.1 = none ∧ bootBuiltins p.1 = some cv ∧ p.1 ≠ "__name__")) ∧ ∀ C, C ∈ p.2.1 ∨ C ∈ p.2.2 → PySem.W.exmOne K (.ref (CA C)) cv = some (decide (C ∈ p.2.1))
/-- the exception classes of a table -/
def XcOk (P : Program) (w : World) (K : PySem.W.Frag) (mg : Str → Option Value) (base : Heap) (CA : Nat → Addr) (l : Kl) : Prop := ∀ p ∈ l.XC, XcX P w K mg base (CA p.2.1) p.2.2 ∧ mg p.1 = some (.ref (CA p.2.1))
structure Fits (X : Cx) (c : Kc) (B : Bx) (n : Nat) (cl : Nat → List D → Store → Res D) : Prop where
  cok : Cok (n + 2) X
  K : B.K = X.K
  tk : Takes X (fun cls d σ H => B.E σ cls d H)
  N : X.N = c.N
  sc : X.env.scope = c.sc
  fn : X.fn = c.fn
  ft : ∀ f F, c.FT[f]? = some F → FF X.prog X.w X.K X.mg X.base B.CA n F (cl f)
  fr : ∀ x ∈ c.fr, X.mg x = none
  gb : ∀ p ∈ c.gb, ∃ u v, X.mg p.1 = some u ∧ RelV v u ∧ flatOf p.2 = some v
  kl : KlOk X.K X.mg B.CA c.kl
  xc : XcOk X.prog X.w X.K X.mg X.base B.CA c.kl
section
variable {X : Cx} {c : Kc} {B : Bx} {n : Nat} {cl : Nat → List D → Store → Res D}
theorem Fits.E (F : Fits X c B n cl) : Tk X B.E := fun σ => passAt F.tk σ
theorem Fits.cok1 (F : Fits X c B n cl) : Cok (n + 1) X := ⟨F.cok.calm, F.cok.nd, F.cok.room.mono (Nat.le_succ (n + 1)), F.cok.grd, F.cok.sm⟩
theorem Fits.cok0 (F : Fits X c B n cl) : Cok n X := ⟨F.cok.calm, F.cok.nd, F.cok.room.mono (Nat.le_trans (Nat.le_succ n) (Nat.le_succ (n + 1))), F.cok.grd, F.cok.sm⟩
theorem Kc.kdOf_of {f : Nat} {kd : FK} (h : c.kdOf f kd = true) : ∃ G, c.FT[f]? = some G ∧ G.kd = kd := by
  unfold Kc.kdOf at h
  rw [decide_eq_true_eq, Option.map_eq_some_iff] at h
  exact h
theorem Fits.fx (F : Fits X c B n cl) {f : Nat} {G : FD} (e : c.FT[f]? = some G) (hk : G.kd = .fn) : ∃ ps, Fx X.prog X.w X.K X.mg X.base B.CA n G.nm ps G.kf (cl f) := by
  obtain ⟨ps, fa, fd, h1, h2, h3, h4⟩ := (F.ft f G e).ex
  unfold FKat at h1
  rw [hk] at h1 h2
  exact ⟨ps, fa, fd, h1.1, h1.2, h2 rfl, h3, h4⟩
theorem Fits.mx (F : Fits X c B n cl) {f C : Nat} {m : Str} (h : c.kdOf f (.me C m) = true) : ∃ ps kf, Mx X.prog X.w X.K X.mg X.base B.CA n C m ps kf (cl f) := by
  obtain ⟨G, e, hk⟩ := Kc.kdOf_of h
  obtain ⟨ps, fa, fd, h1, h2, h3, h4⟩ := (F.ft f G e).ex
  unfold FKat at h1
  rw [hk] at h1 h2
  exact ⟨ps, G.kf, fa, fd, h1.1, h1.2, h2 rfl, h3, h4⟩
theorem Fits.mxk (F : Fits X c B n cl) {f C : Nat} {m : Str} {G : FD} (e : c.FT[f]? = some G) (h : (c.kdOf f (.me C m) || c.kdOf f (.mk C m)) = true) : ∃ ps, MxK X.prog X.w X.K X.mg X.base B.CA n C m ps G.kf (cl f) := by
  obtain ⟨ps, fa, fd, h1, h2, h3, h4⟩ := (F.ft f G e).ex
  unfold FKat at h1
  rw [Bool.or_eq_true] at h
  rcases h with h | h
  all_goals
    obtain ⟨G', e', hk⟩ := Kc.kdOf_of h
    rw [e] at e'
    cases e'
    rw [hk] at h1
    exact ⟨ps, fa, fd, h1.1, h1.2, h3, h4⟩
theorem Fits.cx (F : Fits X c B n cl) {f C : Nat} {m : Str} (h : c.kdOf f (.cm C m) = true) : ∃ ps, Cx' X.prog X.w X.K X.mg X.base B.CA n C m ps (cl f) := by
  obtain ⟨G, e, hk⟩ := Kc.kdOf_of h
  obtain ⟨ps, fa, fd, h1, h2, h3, h4⟩ := (F.ft f G e).ex
  unfold FKat at h1
  rw [hk] at h1 h2
  obtain ⟨p, h1⟩ := h1
  exact ⟨ps, p, fa, fd, h1, h2 rfl, h4⟩
theorem Fits.ix (F : Fits X c B n cl) {f C : Nat} (hC : C < c.kl.nc) (h : c.kdOf f (.me C "__init__") = true) : ∃ ps, Ix X.prog X.w X.K X.mg X.base B.CA n C ps (cl f) := by
  obtain ⟨ps, kf, fa, fd, M, _, hb, _, G⟩ := F.mx h
  have cc := F.kl.cl C hC
  exact ⟨ps, fa, fd, ⟨cc.mks, M.at_, M.fn, cc.kp⟩, hb, G⟩
theorem Fits.blk (F : Fits X c B n cl) (s : Shared) (H : Hp) (scope : Scope) (C : Addr) (cls : List (Str × Addr)) (fp : List Addr) : Fits (X.blk s H scope (compEnvC scope cls C X.env) fp) (c.blk scope) B.z n cl :=
  ⟨⟨F.cok.calm, F.cok.nd, F.cok.room, F.cok.grd, F.cok.sm⟩, F.K, fun u s' ⟨_, _, _, _, _, _, _, _, _, _, _, _, _, _, _, _, w⟩ => False.elim w, F.N, by
    show relS scope X.env.scope = relS scope c.sc
    rw [F.sc], rfl, F.ft, F.fr, F.gb, F.kl, F.xc⟩
/-- in a try's body -/
theorem Fits.tr (F : Fits X c B n cl) {B' : Bx} {pn : List (Addr × Obj)} {xe : Value → Shared → Prop} (hK : B'.K = B.K) (hC : B'.CA = B.CA) (tk : Takes (X.tr pn xe) (fun cls d σ H => B'.E σ cls d H)) : Fits (X.tr pn xe) c B' n cl :=
  ⟨⟨F.cok.calm, F.cok.nd, F.cok.room, F.cok.grd, F.cok.sm⟩, hK.trans F.K, tk, F.N, F.sc, F.fn, by rw [hC]; exact F.ft, F.fr, F.gb, by rw [hC]; exact F.kl, by rw [hC]; exact F.xc⟩
theorem Fits.vis (F : Fits X c B n cl) {x : Str} (h : c.vis x = true) : Vis X.env.scope x ∧ (x == ("__debug__" : Str)) = false ∧ (x == ("__classdict__" : Str)) = false := by
  unfold Kc.vis at h
  simp only [Bool.and_eq_true, Bool.not_eq_true'] at h
  refine ⟨?_, h.1.2, h.2⟩
  have h1 := h.1.1
  rw [F.sc]
  unfold Vis
  split at h1 <;> first | (cases h1; done) | skip
  · exact .inl (by assumption)
  · exact .inr (.inl (by assumption))
  · exact .inr (.inr (by assumption))
theorem Fits.loc (F : Fits X c B n cl) {x : Str} (h : c.loc x = true) : L2.Loc X.env.scope x ∧ (X.fn x = true ∨ X.env.scope.names.lookup x = some .local) := by
  unfold Kc.loc at h
  rw [F.sc, F.fn]
  unfold L2.Loc
  split at h
  · rename_i e
    exact ⟨.inl e, .inr e⟩
  · rename_i e
    exact ⟨.inr e, .inl h⟩
  · cases h
theorem Fits.gl (F : Fits X c B n cl) {x : Str} (h : c.gl x = true) : Gl X x ∧ (x == ("__debug__" : Str)) = false ∧ x ≠ "__name__" := by
  unfold Kc.gl at h
  simp only [Bool.and_eq_true, Bool.not_eq_true', decide_eq_true_eq] at h
  refine ⟨?_, h.1.2, fun z => ?_⟩
  · show X.env.scope.names.lookup x = _
    rw [F.sc]
    exact h.1.1
  · rw [z] at h
    exact absurd h.2 (by decide)
theorem Fits.fre (F : Fits X c B n cl) {x : Str} (h : c.fre x = true) : Gl X x ∧ (x == ("__debug__" : Str)) = false ∧ x ≠ "__name__" ∧ X.mg x = none := by
  unfold Kc.fre at h
  rw [Bool.and_eq_true, decide_eq_true_eq] at h
  obtain ⟨h1, h2, h3⟩ := F.gl h.1
  exact ⟨h1, h2, h3, F.fr x h.2⟩
theorem bi_boot (b : Bi) : bootBuiltins (biS b) = some (biVal b) := by cases b <;> decide +kernel
theorem ty_boot {t : Ty} (h : tyB t = true) : bootBuiltins (tyS t) = some (.type (tyN t)) := by
  cases t <;> first | (cases h; done) | decide +kernel
theorem types_ok (F : Fits X c B n cl) : ∀ {ts : List Ty} {es : List Expr}, chkTs c ts es = true → TyEs X ts es ∧ ts.all tyB = true
  | [], es, h => by
    simp only [chkTs, List.isEmpty_iff] at h
    subst h
    exact ⟨.nil, rfl⟩
  | t :: ts, es, h => by
    unfold chkTs at h
    split at h
    · simp only [Bool.and_eq_true, decide_eq_true_eq] at h
      obtain ⟨⟨⟨h1, h2⟩, h3⟩, h4⟩ := h
      obtain ⟨g1, g2, g3, g4⟩ := F.fre h3
      obtain ⟨q1, q2⟩ := types_ok F h4
      exact ⟨.cons ⟨_, _, rfl, g1, g4, by rw [h2]; exact ty_boot h1, g3, g2⟩ q1, by rw [List.all_cons, h1, q2]; rfl⟩
    · cases h
theorem chkTs_len : ∀ {ts : List Ty} {es : List Expr} {c : Kc}, chkTs c ts es = true → ts.length = es.length
  | [], es, c, h => by
    simp only [chkTs, List.isEmpty_iff] at h
    subst h
    rfl
  | t :: ts, es, c, h => by
    unfold chkTs at h
    split at h
    · simp only [Bool.and_eq_true, decide_eq_true_eq] at h
      rw [List.length_cons, List.length_cons, chkTs_len h.2]
    · cases h
theorem chkEs_len : ∀ {es : List CE} {c : Kc} {xs : List Expr}, chkEs es c xs = true → es.length = xs.length
  | [], c, xs, h => by
    simp only [chkEs, List.isEmpty_iff] at h
    rw [h]
    rfl
  | a :: as, c, [], h => by simp [chkEs] at h
  | a :: as, c, x :: xs, h => by
    simp only [chkEs, Bool.and_eq_true] at h
    rw [List.length_cons, List.length_cons, chkEs_len h.2]
theorem evEs_len : ∀ {es : List CE} {sl : Slots} {st st' : Store} {ds : List D}, evEs cl es sl st = .ok ds st' → ds.length = es.length
  | [], sl, st, st', ds, h => by
    simp only [evEs] at h
    cases h
    rfl
  | a :: as, sl, st, st', ds, h => by
    simp only [evEs] at h
    obtain ⟨d, s1, e1, h⟩ := bind_ok h
    obtain ⟨r, s2, e2, h⟩ := bind_ok h
    cases h
    rw [List.length_cons, List.length_cons, evEs_len e2]
end
end TM
set_option maxHeartbeats 4000000
/-! TM, part Q: the master theorem. -/
namespace TM
open PySem PySem.Spec PyProof.Rows L2
theorem star_of {es : List Expr} (h : nostar es = true) : es.all (fun e => !isStar e) = true := h
section
variable {B : Bx} {n : Nat} {cl : Nat → List D → Store → Res D}
/-- what is shown of an expression -/
structure Ok3 (X : Cx) (B : Bx) (e : Expr) (ev : Ev) : Prop where
  pe : PE X e (tE B ev)
  pt : isIf e = false → PT X e (tT B ev)
  pw : (∃ o ys pos, e = .BoolOp o ys pos) → PW X e (tT B ev)
theorem Ok3.plain {X : Cx} {e : Expr} {ev : Ev} (hK : B.K = X.K) (h : PE X e (tE B ev)) (hb : byTruth e = true) : Ok3 X B e ev :=
  ⟨h, fun _ => t_plain hK hb h, fun ⟨o, ys, pos, z⟩ => by subst z; cases hb⟩
theorem ok_and {X : Cx} {x y : Expr} {rest : List Expr} {pos : Pos} {eva evb : Ev} (hK : B.K = X.K) (hx : isIf x = false) (hy : isIf (oneB .And pos (y :: rest)) = false) (ha : Ok3 X B x eva) (hb : Ok3 X B (oneB .And pos (y :: rest)) evb) : Ok3 X B (.BoolOp .And (x :: y :: rest) pos) (fun sl st => (eva sl st).bind fun x st1 => match truth x st1 with
    | some true => evb sl st1
    | some false => .ok x st1
    | none => .stuck) := by
  have hE : PE X (.BoolOp .And (y :: rest) pos) (tE B evb) := by
    cases rest with
    | nil => exact pe_one hb.pe
    | cons z r => exact hb.pe
  have hW : PW X (.BoolOp .And (y :: rest) pos) (tT B evb) := by
    cases rest with
    | nil => exact pw_and1 (hb.pt hy)
    | cons z r => exact hb.pw ⟨_, _, _, rfl⟩
  have w := t_and (ha.pt hx) hW
  exact ⟨e_and hK ha.pe hE, fun _ => w.pt, fun _ => w⟩
theorem ok_or {X : Cx} {x y : Expr} {rest : List Expr} {pos : Pos} {eva evb : Ev} (hK : B.K = X.K) (hx : isIf x = false) (hy : isIf (oneB .Or pos (y :: rest)) = false) (ha : Ok3 X B x eva) (hb : Ok3 X B (oneB .Or pos (y :: rest)) evb) : Ok3 X B (.BoolOp .Or (x :: y :: rest) pos) (fun sl st => (eva sl st).bind fun x st1 => match truth x st1 with
    | some true => .ok x st1
    | some false => evb sl st1
    | none => .stuck) := by
  have hE : PE X (.BoolOp .Or (y :: rest) pos) (tE B evb) := by
    cases rest with
    | nil => exact pe_one hb.pe
    | cons z r => exact hb.pe
  have hW : PW X (.BoolOp .Or (y :: rest) pos) (tT B evb) := by
    cases rest with
    | nil => exact pw_or1 (hb.pt hy)
    | cons z r => exact hb.pw ⟨_, _, _, rfl⟩
  have w := t_or (ha.pt hx) hW
  exact ⟨e_or hK ha.pe hE, fun _ => w.pt, fun _ => w⟩
/-! targets -/
theorem each_len : ∀ {es : List Expr} {env : Env}, (assignEach es env).length = es.length
  | [], _ => rfl
  | e :: es, env => by
    have ih := each_len (es := es) (env := env)
    cases e <;> (unfold assignEach; rw [List.length_cons, List.length_cons, ih])
theorem each_cons {e : Expr} {es : List Expr} {env : Env} (h : isStar e = false) : assignEach (e :: es) env = (false, assign e env) :: assignEach es env := by
  cases e <;> first | (simp [isStar] at h; done) | rfl
theorem each_none : ∀ {es : List Expr} {env : Env}, es.all (fun e => !isStar e) = true → (assignEach es env).findIdx? (·.1) = none
  | [], _, _ => rfl
  | e :: es, env, h => by
    rw [List.all_cons, Bool.and_eq_true, Bool.not_eq_true'] at h
    rw [each_cons h.1, List.findIdx?_cons]
    simp [each_none h.2]
mutual
theorem tg_star {c : Kc} : ∀ {t : CT} {e : Expr}, chkG c t e = true → isStar e = false
  | .name i, e, h => by
    cases e <;> first | rfl | (simp [chkG] at h; done)
  | .tup ts, e, h => by
    cases e <;> first | rfl | (simp [chkG] at h; done)
theorem tgs_star {c : Kc} : ∀ {ts : List CT} {es : List Expr}, chkGs c ts es = true → es.all (fun e => !isStar e) = true ∧ es.length = ts.length
  | [], es, h => by
    simp only [chkGs, List.isEmpty_iff] at h
    subst h
    exact ⟨rfl, rfl⟩
  | t :: ts, [], h => by simp [chkGs] at h
  | t :: ts, e :: es, h => by
    simp only [chkGs, Bool.and_eq_true] at h
    obtain ⟨a, b⟩ := tgs_star h.2
    exact ⟨by rw [List.all_cons, tg_star h.1, a]; rfl, by rw [List.length_cons, List.length_cons, b]⟩
end
mutual
theorem okG {X : Cx} {c : Kc} (F : Fits X c B n cl) : ∀ {t : CT} {e : Expr}, chkG c t e = true → PG X e (gT B t)
  | .name i, e, h => by
    simp only [chkG] at h
    split at h
    · rw [Bool.and_eq_true, decide_eq_true_eq, ← F.N] at h
      obtain ⟨l1, l2⟩ := F.loc h.2
      exact g_name F.cok.nd h.1 l1 l2
    · cases h
  | .tup ts, e, h => by
    simp only [chkG] at h
    split at h
    · obtain ⟨s1, s2⟩ := tgs_star h
      exact g_tup F.K F.cok.calm s2 (by rw [each_len, s2]) (each_none s1) (okGs F h)
    · cases h
theorem okGs {X : Cx} {c : Kc} (F : Fits X c B n cl) : ∀ {ts : List CT} {es : List Expr}, chkGs c ts es = true → PGs X es (gTs B ts)
  | [], es, h => by
    simp only [chkGs, List.isEmpty_iff] at h
    subst h
    exact g_nil
  | t :: ts, [], h => by simp [chkGs] at h
  | t :: ts, e :: es, h => by
    simp only [chkGs, Bool.and_eq_true] at h
    exact g_cons (by rw [each_cons (tg_star h.1)]; rfl) (okG F h.1) (okGs F h.2)
end
theorem bind_congr {α β : Type} {r : Res α} {f g : α → Store → Res β} (h : ∀ a st, r = .ok a st → f a st = g a st) : r.bind f = r.bind g := by
  cases r with
  | ok a st => exact h a st rfl
  | exc C fs st => rfl
  | stuck => rfl
end
end TM
set_option maxHeartbeats 4000000
/-! TM, part R: the master theorem of expressions. -/
namespace TM
open PySem PySem.Spec PyProof.Rows L2
section
variable {B : Bx} {n : Nat} {cl : Nat → List D → Store → Res D}
theorem ok_bi {X : Cx} {c : Kc} (F : Fits X c B n cl) {b : Bi} {x : Str} {p pos : Pos} {xs : List Expr} {es : List CE} (g1 : Gl X x) (g4 : X.mg x = none) (hv : bootBuiltins x = some (biVal b)) (g3 : x ≠ "__name__") (g2 : (x == ("__debug__" : Str)) = false)
    (h3 : xs.isEmpty = false) (h4 : nostar xs = true) (k : PA X xs (tA B (evEs cl es))) : PE X (.Call (.Name x p) xs [] pos) (tE B (evE cl (.bi b es))) := by
  cases xs with
  | nil => cases h3
  | cons y ys => exact e_bi F.cok F.K b g1 g4 hv g3 g2 h4 k
theorem nil_of {es : List CE} {c : Kc} (h : chkEs es c [] = true) : es = [] := List.eq_nil_of_length_eq_zero (chkEs_len h)
theorem ok_me {X : Cx} {c : Kc} (F : Fits X c B n cl) {m : Me} {r : CE} {o : Expr} {nm : Str} {apos cpos : Pos} {xs : List Expr} {es : List CE} (h1 : nm = meName m) (h2 : noSuper o = true) (h3 : (apos.endLine == cpos.line) = true) (h5 : nostar xs = true) (h4 : xs.length < 30) (ho : PE X o (tE B (evE cl r)))
    (h7 : chkEs es c xs = true) (k : PA X xs (tA B (evEs cl es))) : PE X (.Call (.Attribute o nm apos) xs [] cpos) (tE B (evE cl (.me m r es))) := by
  cases xs with
  | nil =>
    have e0 := nil_of h7
    subst e0
    exact e_me0 m F.K h1 h2 h3 ho
  | cons y ys => exact e_me m F.K h1 h2 h3 h5 h4 ho k
theorem ok_call {X : Cx} {c : Kc} (F : Fits X c B n cl) {f : Nat} {x nm : Str} {ps : List Str} {kf : List Kform} {p pos : Pos} {xs : List Expr} {es : List CE} (FX : Fx X.prog X.w X.K X.mg X.base B.CA n x ps kf (cl f)) (g1 : Gl X x) (g2 : (x == ("__debug__" : Str)) = false) (h4 : nostar xs = true)
    (h5 : chkEs es c xs = true) (k : PA X xs (tA B (evEs cl es))) : PE X (.Call (.Name x p) xs [] pos) (tE B (evE cl (.call f nm es))) := by
  cases xs with
  | nil =>
    have e0 := nil_of h5
    subst e0
    exact e_call0 F.cok0 F.K F.E FX g1 g2
  | cons y ys => exact e_call F.cok0 F.K F.E FX g1 g2 h4 k
theorem ok_callK {X : Cx} {c : Kc} (F : Fits X c B n cl) {f : Nat} {x nm : Str} {ps ks : List Str} {kf : List Kform} {pm : List Nat} {p pos : Pos} {xs : List Expr} {kws : List Keyword} {es ls : List CE} (FX : Fx X.prog X.w X.K X.mg X.base B.CA n x ps kf (cl f)) (h8 : (⟨es.length, ks, pm⟩ : Kform) ∈ kf) (g1 : Gl X x) (g2 : (x == ("__debug__" : Str)) = false)
    (h6 : kws.map (·.arg) = ks.map some) (h4 : nostar xs = true) (h5 : chkEs es c xs = true) (hl : ∀ sl st ds st', evEs cl ls sl st = .ok ds st' → ds.length = ks.length) (k : PA X xs (tA B (evEs cl es))) (kk : PK X kws (tA B (evEs cl ls))) :
    PE X (.Call (.Name x p) xs kws pos) (tE B (evE cl (.callK f nm ks es ls pm))) := by
  have e1 : ∀ sl st, (evE cl (.callK f nm ks es ls pm) sl st) = (ev2 (evEs cl es) (evEs cl ls) sl st).bind fun ds st1 => match permA ds pm with
    | some vs => cl f vs st1
    | none => .stuck := fun sl st => by
    show ((evEs cl es sl st).bind fun ds st1 => (evEs cl ls sl st1).bind fun zs st2 => match permA (ds ++ zs) pm with
      | some vs => cl f vs st2
      | none => .stuck) = _
    unfold ev2
    rw [bind_assoc]
    refine bind_congr fun a st1 _ => ?_
    rw [bind_assoc]
    rfl
  have e2 : (evE cl (.callK f nm ks es ls pm)) = fun sl st => (ev2 (evEs cl es) (evEs cl ls) sl st).bind fun ds st1 => match permA ds pm with
    | some vs => cl f vs st1
    | none => .stuck := by
    funext sl st
    exact e1 sl st
  cases xs with
  | nil =>
    have e0 := nil_of h5
    subst e0
    have q := e_callK0 (p := p) (pos := pos) F.cok0 F.K F.E FX h8 g1 g2 h6 rfl hl kk
    exact q
  | cons y ys =>
    rw [e2]
    exact e_callK F.cok0 F.K F.E FX h8 g1 g2 h6 h4 (fun sl st ds st' e => evEs_len e) hl k kk
theorem ok_rng {X : Cx} {c : Kc} (F : Fits X c B n cl) {tg : Expr} {nm : Str} {p pos : Pos} {xs : List Expr} {es : List CE} (h1 : nm = "range") (g1 : Gl X nm) (g4 : X.mg nm = none) (h4 : xs.length = 1 ∨ xs.length = 2) (hl : es.length = xs.length) (hs : ∀ x ∈ xs, isStar x = false) (k : PA X xs (tA B (evEs cl es))) :
    PI X tg (.Call (.Name nm p) xs [] pos) (tI B (evI cl (.rng es))) := by
  have key : ∀ m, es.length = m → (evI cl (.rng es)) = fun sl st => (evEs cl es sl st).bind fun ds st1 => if ds.length = m then ofO ((rngD ds).map fun xs => (⟨none, xs⟩ : Itr)) st1 else .stuck := fun m hm => by
    funext sl st
    show ((evEs cl es sl st).bind fun ds st1 => ofO ((rngD ds).map fun xs => (⟨none, xs⟩ : Itr)) st1) = _
    refine bind_congr fun ds st1 e => ?_
    rw [if_pos (by rw [evEs_len e, hm])]
  match xs, h4, hl, hs, k with
  | [x], _, hl, hs, k =>
    rw [key 1 hl]
    exact i_rng1 h1 g1 g4 (hs x (by simp)) k
  | [x, y], _, hl, hs, k =>
    rw [key 2 hl]
    exact i_rng2 h1 g1 g4 (hs x (by simp)) (hs y (by simp)) k
  | [], h4, _, _, _ => simp at h4
  | _ :: _ :: _ :: _, h4, _, _, _ => simp at h4
theorem one_of {es : List CE} {c : Kc} {y : Expr} (h : chkEs es c [y] = true) : ∃ b, es = [b] ∧ chkE b c y = true := by
  match es, h with
  | [], h => simp [chkEs] at h
  | [b], h =>
    simp only [chkEs, Bool.and_eq_true] at h
    exact ⟨b, rfl, h.1⟩
  | a :: b :: r, h => simp [chkEs] at h
theorem callee_eval {fe e : Expr} {es : List Expr} {pos : Pos} {env : Env} (h : callee fe = true) : eval (.Call fe (e :: es) [] pos) env = (do callWith pos (← eval fe env) [] (backTo pos (starEach (e :: es) env)) (backToKw pos (keywordEach [] env))) := by
  cases fe <;> first | (cases h; done) | rfl | (rw [arm_eval_Call_Name'])
theorem ok_mth {X : Cx} {c : Kc} (F : Fits X c B n cl) {C f : Nat} {m nm : Str} {r : CE} {es : List CE} {o : Expr} {apos cpos : Pos} {xs : List Expr} (hC : C < c.kl.nc) (hk : c.kdOf f (.me C m) = true) (h1 : nm = m) (h2 : noSuper o = true) (h3 : (apos.endLine == cpos.line) = true) (h4 : xs.length < 29) (h5 : nostar xs = true) (ho : PE X o (tE B (evE cl r)))
    (h7 : chkEs es c xs = true) (k : PA X xs (tA B (evEs cl es))) : PE X (.Call (.Attribute o nm apos) xs [] cpos) (tE B (evE cl (.mth .dot C f m r es))) := by
  subst h1
  obtain ⟨ps, kf, M⟩ := F.mx hk
  have cc := F.kl.cl C hC
  cases xs with
  | nil =>
    have e0 := nil_of h7
    subst e0
    exact e_mth0 F.cok1 F.K F.E cc.cl M h2 h3 ho
  | cons y ys => exact e_mth F.cok1 F.K F.E cc.cl M h2 h4 h3 h5 ho k
theorem ok_ownCall {X : Cx} {c : Kc} (F : Fits X c B n cl) {C f : Nat} {m : Str} {r : CE} {es : List CE} {fe : Expr} {cpos : Pos} {xs : List Expr} (hk : c.kdOf f (.me C m) = true) (h1 : callee fe = true) (h2 : m = "__call__") (h3 : xs.isEmpty = false) (h5 : nostar xs = true) (ho : PE X fe (tE B (evE cl r)))
    (k : PA X xs (tA B (evEs cl es))) : PE X (.Call fe xs [] cpos) (tE B (evE cl (.mth .call C f m r es))) := by
  obtain ⟨ps, kf, M⟩ := F.mx hk
  cases xs with
  | nil => cases h3
  | cons y ys => exact e_ownCall F.cok1 F.K F.E M h2 h5 ho k (callee_eval h1)
theorem ok_new {X : Cx} {c : Kc} (F : Fits X c B n cl) {mt : Bool} {C f : Nat} {x y : Str} {es : List CE} {p pos : Pos} {xs : List Expr} (h1 : y = x) (g : Gl X y) (gd : (y == ("__debug__" : Str)) = false) (hc : (y, C) ∈ c.kl.CN) (hk : c.kdOf f (.me C "__init__") = true) (h3 : xs.isEmpty = false) (h5 : nostar xs = true)
    (k : PA X xs (tA B (evEs cl es))) : PE X (.Call (.Name y p) xs [] pos) (tE B (evE cl (.new mt C f x es))) := by
  obtain ⟨c1, c2⟩ := F.kl.cs _ hc
  obtain ⟨ps, Ix⟩ := F.ix c1 hk
  cases xs with
  | nil => cases h3
  | cons z zs => exact e_new F.cok1 F.K F.E Ix (F.kl.cl C c1).kp c2 g gd h5 mt k
theorem ok_newv {X : Cx} {c : Kc} (F : Fits X c B n cl) {mt : Bool} {i C f : Nat} {y : Str} {es : List CE} {p pos : Pos} {xs : List Expr} (hN : X.N[i]? = some y) (hv : Vis X.env.scope y) (gd : (y == ("__debug__" : Str)) = false) (gc : (y == ("__classdict__" : Str)) = false) (hC : C < c.kl.nc) (hk : c.kdOf f (.me C "__init__") = true) (h3 : xs.isEmpty = false) (h5 : nostar xs = true)
    (k : PA X xs (tA B (evEs cl es))) : PE X (.Call (.Name y p) xs [] pos) (tE B (evE cl (.newv mt i C f es))) := by
  obtain ⟨ps, Ix⟩ := F.ix hC hk
  cases xs with
  | nil => cases h3
  | cons z zs => exact e_newv F.cok1 F.K F.E Ix (F.kl.cl C hC).kp hN hv gd gc h5 mt k
theorem ok_cmth {X : Cx} {c : Kc} (F : Fits X c B n cl) {C f : Nat} {x y m nm : Str} {es : List CE} {p apos pos : Pos} {xs : List Expr} (g : Gl X y) (gd : (y == ("__debug__" : Str)) = false) (hc : (y, C) ∈ c.kl.CN) (h1 : nm = m) (hk : c.kdOf f (.cm C m) = true) (hb : noSuper (.Name y p) = true) (hl : (apos.endLine == pos.line) = true) (h4 : xs.length < 29) (h3 : xs.isEmpty = false) (h5 : nostar xs = true)
    (k : PA X xs (tA B (evEs cl es))) : PE X (.Call (.Attribute (.Name y p) nm apos) xs [] pos) (tE B (evE cl (.cmth C f x m es))) := by
  subst h1
  obtain ⟨c1, c2⟩ := F.kl.cs _ hc
  obtain ⟨ps, M⟩ := F.cx hk
  cases xs with
  | nil => cases h3
  | cons z zs => exact e_cmth F.cok1 F.K F.E (F.kl.cl C c1).cr M c2 g gd hb h4 hl h5 k
mutual
theorem okE {X : Cx} {c : Kc} {B : Bx} : ∀ {ce : CE} {e : Expr}, Fits X c B n cl → chkE ce c e = true → Ok3 X B e (evE cl ce)
  | .var i, e, F, h => by
    simp only [chkE] at h
    split at h
    · rw [Bool.and_eq_true, decide_eq_true_eq, ← F.N] at h
      obtain ⟨v1, v2, v3⟩ := F.vis h.2
      exact .plain F.K (e_var h.1 v1 v2 v3) rfl
    · cases h
  | .non, e, F, h => by
    simp only [chkE] at h
    split at h
    · exact .plain F.K e_non rfl
    · cases h
  | .nkd, e, F, h => by
    simp only [chkE] at h
    split at h
    · rw [decide_eq_true_eq] at h
      subst h
      exact .plain F.K e_nkd rfl
    · cases h
  | .bl b, e, F, h => by
    simp only [chkE] at h
    split at h
    · rw [beq_iff_eq] at h
      subst h
      exact .plain F.K e_bl rfl
    · cases h
  | .int b, e, F, h => by
    simp only [chkE] at h
    split at h
    · rw [decide_eq_true_eq] at h
      subst h
      exact .plain F.K e_int rfl
    · cases h
  | .str b, e, F, h => by
    simp only [chkE] at h
    split at h
    · rw [decide_eq_true_eq] at h
      subst h
      exact .plain F.K e_str rfl
    · cases h
  | .glob x d, e, F, h => by
    simp only [chkE] at h
    split at h
    · rw [Bool.and_eq_true, Bool.and_eq_true, decide_eq_true_eq, decide_eq_true_eq] at h
      obtain ⟨⟨rfl, h2⟩, h3⟩ := h
      obtain ⟨g1, g2, _⟩ := F.gl h2
      obtain ⟨u, v, m, r, f⟩ := F.gb _ h3
      exact .plain F.K (e_glob g1 m r f g2) rfl
    · cases h
  | .op o a b, e, F, h => by
    simp only [chkE] at h
    split at h
    · rw [Bool.and_eq_true, Bool.and_eq_true, decide_eq_true_eq] at h
      obtain ⟨⟨rfl, h2⟩, h3⟩ := h
      exact .plain F.K (e_op F.K (okE F h2).pe (okE F h3).pe _) rfl
    · cases h
  | .neg a, e, F, h => by
    simp only [chkE] at h
    split at h
    · exact .plain F.K (e_neg (okE F h).pe) rfl
    · cases h
  | .not_ a, e, F, h => by
    simp only [chkE] at h
    split at h
    · rw [Bool.and_eq_true, Bool.not_eq_true'] at h
      have k := okE F h.2
      exact ⟨e_not F.K k.pe, fun _ => t_not (k.pt h.1), fun ⟨_, _, _, z⟩ => by cases z⟩
    · cases h
  | .and_ a b, e, F, h => by
    simp only [chkE] at h
    split at h
    · simp only [Bool.and_eq_true, Bool.not_eq_true'] at h
      exact ok_and F.K h.1.1.1 h.1.1.2 (okE F h.1.2) (okE F h.2)
    · cases h
  | .or_ a b, e, F, h => by
    simp only [chkE] at h
    split at h
    · simp only [Bool.and_eq_true, Bool.not_eq_true'] at h
      exact ok_or F.K h.1.1.1 h.1.1.2 (okE F h.1.2) (okE F h.2)
    · cases h
  | .ife t a b, e, F, h => by
    simp only [chkE] at h
    split at h
    · simp only [Bool.and_eq_true, Bool.not_eq_true'] at h
      exact ⟨e_ife ((okE F h.1.1.2).pt h.1.1.1) (okE F h.1.2).pe (okE F h.2).pe, fun z => (by cases z), fun ⟨_, _, _, z⟩ => (by cases z)⟩
    · cases h
  | .cmp o a b, e, F, h => by
    simp only [chkE] at h
    split at h
    · simp only [Bool.and_eq_true, Bool.not_eq_true', decide_eq_true_eq] at h
      obtain ⟨⟨⟨rfl, h2⟩, h3⟩, h4⟩ := h
      have hu := F.cok.u64
      exact ⟨e_cmp F.K hu o h2 (okE F h3).pe (okE F h4).pe, fun _ => t_cmp F.K hu o h2 (okE F h3).pe (okE F h4).pe, fun ⟨_, _, _, z⟩ => by cases z⟩
    · cases h
  | .chain o p a b d, e, F, h => by
    simp only [chkE] at h
    split at h
    · simp only [Bool.and_eq_true, Bool.not_eq_true', decide_eq_true_eq] at h
      obtain ⟨⟨⟨⟨⟨rfl, rfl⟩, h2⟩, h3⟩, h4⟩, h5⟩ := h
      have hu := F.cok.u64
      exact ⟨e_chain F.K hu o p h2 (okE F h3).pe (okE F h4).pe (okE F h5).pe, fun _ => t_chain F.K hu o p h2 (okE F h3).pe (okE F h4).pe (okE F h5).pe, fun ⟨_, _, _, z⟩ => by cases z⟩
    · cases h
  | .isin a ts, e, F, h => by
    simp only [chkE] at h
    split at h
    · simp only [Bool.and_eq_true, Bool.not_eq_true', decide_eq_true_eq] at h
      obtain ⟨⟨⟨⟨⟨h1, h2⟩, h3⟩, h4⟩, h5⟩, h6⟩ := h
      split at h4
      · rename_i t
        rw [Bool.and_eq_true, decide_eq_true_eq] at h4
        obtain ⟨g1, g2, g3, g4⟩ := F.fre h2
        obtain ⟨k1, k2, k3, k4⟩ := F.fre h3
        refine .plain F.K (e_isi F.K h1 g1 g4 k1 k4 ?_ k3 k2 h4.1 h5 (okE F h6).pe) rfl
        rw [h4.2]
        exact ty_boot h4.1
      · cases h4
    · simp only [Bool.and_eq_true, Bool.not_eq_true', decide_eq_true_eq] at h
      obtain ⟨⟨⟨⟨⟨h1, h2⟩, h3⟩, h4⟩, h5⟩, h6⟩ := h
      obtain ⟨g1, g2, g3, g4⟩ := F.fre h2
      obtain ⟨q1, q2⟩ := types_ok F h4
      exact .plain F.K (e_isiT F.K h1 g1 g4 q1 q2 h3 h5 (okE F h6).pe) rfl
    · cases h
  | .tup es, e, F, h => by
    simp only [chkE] at h
    split at h
    · rw [Bool.and_eq_true] at h
      exact .plain F.K (e_tup (okEs F h.1 h.2)) rfl
    · cases h
  | .lst mt es, e, F, h => by
    simp only [chkE] at h
    split at h
    · rw [Bool.and_eq_true] at h
      exact .plain F.K (e_lst mt (okEs F h.1 h.2)) rfl
    · cases h
  | .dct mt es, e, F, h => by
    simp only [chkE] at h
    split at h
    · split at h
      · exact .plain F.K (e_dct0 mt) rfl
      · cases h
    · simp only [Bool.and_eq_true, Bool.not_eq_true', decide_eq_true_eq] at h
      obtain ⟨⟨h1, h2⟩, h3⟩ := h
      split at h3
      · rename_i hi
        exact .plain F.K (e_dctG hi (okPs F h3) (fun z => by rw [z] at h1; cases h1) h2) rfl
      · cases h3
    · cases h
  | .idx a b, e, F, h => by
    simp only [chkE] at h
    split at h
    · simp only [Bool.and_eq_true, Bool.not_eq_true'] at h
      exact .plain F.K (e_idx F.cok F.K h.1.1 (okE F h.1.2).pe (okE F h.2).pe) rfl
    · cases h
  | .sl a lo hi, e, F, h => by
    simp only [chkE] at h
    split at h
    · simp only [Bool.and_eq_true] at h
      exact .plain F.K (e_sl F.K (okE F h.1.1).pe (okO F h.1.2) (okO F h.2)) rfl
    · cases h
  | .slx a s, e, F, h => by
    simp only [chkE] at h
    split at h
    · simp only [Bool.and_eq_true] at h
      exact .plain F.K (e_slx F.K (okE F h.1).pe (okE F h.2).pe) rfl
    · cases h
  | .call f nm es, e, F, h => by
    simp only [chkE] at h
    split at h
    · simp only [Bool.and_eq_true, decide_eq_true_eq] at h
      obtain ⟨⟨⟨⟨⟨h1, h2⟩, h3⟩, hk⟩, h4⟩, h5⟩ := h
      obtain ⟨g1, g2, _⟩ := F.gl h2
      rw [Option.map_eq_some_iff] at h3
      obtain ⟨G, eG, rfl⟩ := h3
      obtain ⟨G', eG', hk⟩ := Kc.kdOf_of hk
      rw [eG] at eG'
      cases eG'
      obtain ⟨ps, FX⟩ := F.fx eG hk
      exact .plain F.K (ok_call F FX g1 g2 h4 h5 (okEs F h4 h5)) rfl
    · cases h
  | .callK f nm ks es ls pm, e, F, h => by
    simp only [chkE] at h
    split at h
    · simp only [Bool.and_eq_true, decide_eq_true_eq] at h
      obtain ⟨⟨⟨⟨⟨⟨h1, h2⟩, h3⟩, h4⟩, h5⟩, h6⟩, h7⟩ := h
      obtain ⟨g1, g2, _⟩ := F.gl h2
      split at h3
      · rename_i G eG
        simp only [Bool.and_eq_true, decide_eq_true_eq] at h3
        obtain ⟨⟨h3, hk⟩, h8⟩ := h3
        obtain ⟨ps, FX⟩ := F.fx eG hk
        rw [h3] at FX
        have k := okEs F h4 h5
        have kk := okKs F h7
        have l2 := chkEs_len h7
        have l3 := congrArg List.length h6
        simp only [PKr, List.length_map] at l2 l3
        have hl : ∀ sl st ds st', evEs cl ls sl st = .ok ds st' → ds.length = ks.length := fun sl st ds st' e => by rw [evEs_len e]; omega
        exact .plain F.K (ok_callK F FX h8 g1 g2 h6 h4 h5 hl k kk) rfl
      · cases h3
    · cases h
  | .bi b es, e, F, h => by
    simp only [chkE] at h
    split at h
    · simp only [Bool.and_eq_true, Bool.not_eq_true', decide_eq_true_eq] at h
      obtain ⟨⟨⟨⟨h1, h2⟩, h3⟩, h4⟩, h5⟩ := h
      obtain ⟨g1, g2, g3, g4⟩ := F.fre h2
      exact .plain F.K (ok_bi F g1 g4 (by rw [h1]; exact bi_boot b) g3 g2 h3 h4 (okEs F h4 h5)) rfl
    · cases h
  | .me m r es, e, F, h => by
    simp only [chkE] at h
    split at h
    · simp only [Bool.and_eq_true, decide_eq_true_eq] at h
      obtain ⟨⟨⟨⟨⟨⟨h1, h2⟩, h3⟩, h4⟩, h5⟩, h6⟩, h7⟩ := h
      exact .plain F.K (ok_me F h1 h2 h3 h5 h4 (okE F h6).pe h7 (okEs F h5 h7)) rfl
    · cases h
  | .lc mt own t it ifs a, e, F, h => by
    simp only [chkE] at h
    split at h
    · simp only [Bool.and_eq_true, Bool.not_eq_true', decide_eq_true_eq, List.all_eq_true] at h
      obtain ⟨⟨⟨⟨⟨⟨⟨⟨h1, hz⟩, h2⟩, h3⟩, h4⟩, h5⟩, h6⟩, h7⟩, h8⟩ := h
      subst h1
      refine .plain F.K (e_lc F.cok.calm F.cok.nd (okI F hz h5) (blkOk_by (by rw [F.N, F.sc]; exact h2)) h3 (fun s H C cls fp => okG (F.blk s H _ C cls fp) h6) (fun s H C cls fp => okFs (F.blk s H _ C cls fp) h7) (fun s H C cls fp => (okE (F.blk s H _ C cls fp) h8).pe) h4) rfl
    · cases h
  | .dc mt own t it ifs k v, e, F, h => by
    simp only [chkE] at h
    split at h
    · simp only [Bool.and_eq_true, Bool.not_eq_true', decide_eq_true_eq, List.all_eq_true] at h
      obtain ⟨⟨⟨⟨⟨⟨⟨⟨⟨h1, hz⟩, h2⟩, h3⟩, h4⟩, h5⟩, h6⟩, h7⟩, h8⟩, h9⟩ := h
      subst h1
      refine .plain F.K (e_dc F.cok.calm F.cok.nd (okI F hz h5) (blkOk_by (by rw [F.N, F.sc]; exact h2)) h3 (fun s H C cls fp => okG (F.blk s H _ C cls fp) h6) (fun s H C cls fp => okFs (F.blk s H _ C cls fp) h7) (fun s H C cls fp => (okE (F.blk s H _ C cls fp) h8).pe) (fun s H C cls fp => (okE (F.blk s H _ C cls fp) h9).pe) h4) rfl
    · cases h
  | .lenum a, e, F, h => by
    simp only [chkE] at h
    split at h
    · simp only [Bool.and_eq_true, Bool.not_eq_true', decide_eq_true_eq] at h
      obtain ⟨⟨⟨⟨⟨h1, h2⟩, h3⟩, h4⟩, h5⟩, h6⟩ := h
      obtain ⟨g1, g2, g3, g4⟩ := F.fre h3
      obtain ⟨k1, k2, k3, k4⟩ := F.fre h4
      exact .plain F.K (e_lenum F.cok.calm F.K h1 h2 g1 g4 k1 k4 h5 (okE F h6).pe) rfl
    · cases h
  | .lset srt a, e, F, h => by
    simp only [chkE] at h
    split at h
    · simp only [Bool.and_eq_true, Bool.not_eq_true', decide_eq_true_eq] at h
      obtain ⟨⟨⟨⟨⟨h1, h2⟩, h3⟩, h4⟩, h5⟩, h6⟩ := h
      obtain ⟨g1, g2, g3, g4⟩ := F.fre h3
      obtain ⟨k1, k2, k3, k4⟩ := F.fre h4
      exact .plain F.K (e_lset srt F.cok.calm F.K h1 h2 g1 g4 k1 k4 h5 (okE F h6).pe) rfl
    · cases h
  | .frz a, e, F, h => by
    simp only [chkE, Bool.and_eq_true] at h
    exact .plain F.K (e_frz (okE F h.2).pe) h.1
  | .new mt C f x es, e, F, h => by
    simp only [chkE] at h
    split at h
    · simp only [Bool.and_eq_true, Bool.not_eq_true', decide_eq_true_eq] at h
      obtain ⟨⟨⟨⟨⟨⟨h1, h2⟩, h3⟩, h4⟩, h5⟩, h6⟩, h7⟩ := h
      obtain ⟨g1, g2, _⟩ := F.gl h2
      exact .plain F.K (ok_new F h1 g1 g2 h3 h4 h5 h6 (okEs F h6 h7)) rfl
    · cases h
  | .newv mt i C f es, e, F, h => by
    simp only [chkE] at h
    split at h
    · simp only [Bool.and_eq_true, Bool.not_eq_true', decide_eq_true_eq] at h
      obtain ⟨⟨⟨⟨⟨⟨h1, h2⟩, h3⟩, h4⟩, h5⟩, h6⟩, h7⟩ := h
      obtain ⟨v1, v2, v3⟩ := F.vis h2
      exact .plain F.K (ok_newv F (by rw [F.N]; exact h1) v1 v2 v3 h3 h4 h5 h6 (okEs F h6 h7)) rfl
    · cases h
  | .fld nc a x, e, F, h => by
    simp only [chkE] at h
    split at h
    · simp only [Bool.and_eq_true, decide_eq_true_eq] at h
      obtain ⟨⟨⟨⟨rfl, rfl⟩, h3⟩, h4⟩, h5⟩ := h
      exact .plain F.K (e_fld F.K (fun C hC => ⟨(F.kl.cl C hC).cl, F.kl.na C hC _ h3⟩) h4 (okE F h5).pe) rfl
    · cases h
  | .mth w C f m r es, e, F, h => by
    simp only [chkE, Bool.and_eq_true, decide_eq_true_eq] at h
    obtain ⟨⟨hC, hk⟩, h⟩ := h
    obtain ⟨ps, kf, M⟩ := F.mx hk
    have cc := F.kl.cl C hC
    cases w with
    | dot =>
      dsimp only at h
      split at h
      · simp only [Bool.and_eq_true, decide_eq_true_eq] at h
        obtain ⟨⟨⟨⟨⟨⟨h1, h2⟩, h3⟩, h4⟩, h5⟩, h6⟩, h7⟩ := h
        exact .plain F.K (ok_mth F hC hk h1 h2 h3 h4 h5 (okE F h6).pe h7 (okEs F h5 h7)) rfl
      · cases h
    | bin op =>
      dsimp only at h
      split at h
      · simp only [Bool.and_eq_true, decide_eq_true_eq] at h
        obtain ⟨⟨⟨rfl, h2⟩, h3⟩, h4⟩ := h
        match es, h4 with
        | [b], h4 =>
          simp only [chkEs, Bool.and_eq_true] at h4
          exact .plain F.K (e_ownBin F.cok1 F.K F.E cc M h2 (okE F h3).pe (okE F h4.1).pe) rfl
        | [], h4 => simp [chkEs] at h4
        | _ :: _ :: _, h4 => simp [chkEs] at h4
      · cases h
    | cmp op =>
      dsimp only at h
      split at h
      · simp only [Bool.and_eq_true, Bool.not_eq_true', decide_eq_true_eq] at h
        obtain ⟨⟨⟨⟨⟨rfl, hr⟩, h2⟩, hs⟩, h3⟩, h4⟩ := h
        have hop : ∀ a b, compareOp op a b = richCompare op a b := by
          cases op <;> first | (cases hr; done) | (intro a b; rfl)
        match es, h4 with
        | [b], h4 =>
          simp only [chkEs, Bool.and_eq_true] at h4
          have k1 := okE F h3
          have k2 := okE F h4.1
          exact ⟨e_ownCmp F.cok1 F.K F.E cc M hop h2 hs k1.pe k2.pe, fun _ => t_ownCmp F.cok1 F.K F.E cc M hop h2 hs k1.pe k2.pe, fun ⟨_, _, _, z⟩ => by cases z⟩
        | [], h4 => simp [chkEs] at h4
        | _ :: _ :: _, h4 => simp [chkEs] at h4
      · cases h
    | ne =>
      dsimp only at h
      split at h
      · simp only [Bool.and_eq_true, Bool.not_eq_true', decide_eq_true_eq] at h
        obtain ⟨⟨⟨h2, hs⟩, h3⟩, h4⟩ := h
        match es, h4 with
        | [b], h4 =>
          simp only [chkEs, Bool.and_eq_true] at h4
          have k1 := okE F h3
          have k2 := okE F h4.1
          exact ⟨e_ownNe F.cok1 F.K F.E cc cc.ne M h2 hs k1.pe k2.pe, fun _ => t_ownNe F.cok1 F.K F.E cc cc.ne M h2 hs k1.pe k2.pe, fun ⟨_, _, _, z⟩ => by cases z⟩
        | [], h4 => simp [chkEs] at h4
        | _ :: _ :: _, h4 => simp [chkEs] at h4
      · cases h
    | inv =>
      dsimp only at h
      split at h
      · simp only [Bool.and_eq_true, decide_eq_true_eq] at h
        obtain ⟨⟨h2, h3⟩, h4⟩ := h
        have e0 := nil_of h4
        subst e0
        exact .plain F.K (e_ownInv F.cok1 F.K F.E M h2 (okE F h3).pe) rfl
      · cases h
    | len =>
      dsimp only at h
      split at h
      · simp only [Bool.and_eq_true, Bool.not_eq_true', decide_eq_true_eq] at h
        obtain ⟨⟨⟨⟨⟨h1, hf⟩, h2⟩, hs⟩, h3⟩, h4⟩ := h
        have e0 := nil_of h4
        subst e0
        obtain ⟨g1, g2, g3, g4⟩ := F.fre hf
        exact .plain F.K (e_ownLen F.cok1 F.K F.E M h2 h1 g1 g4 hs (okE F h3).pe) rfl
      · cases h
    | call =>
      dsimp only at h
      split at h
      · simp only [Bool.and_eq_true, Bool.not_eq_true', decide_eq_true_eq] at h
        obtain ⟨⟨⟨⟨⟨h1, h2⟩, h3⟩, h4⟩, h5⟩, h6⟩ := h
        exact .plain F.K (ok_ownCall F hk h1 h2 h3 h4 (okE F h5).pe (okEs F h4 h6)) rfl
      · cases h
  | .mthK C f m ks r es ls pm, e, F, h => by
    simp only [chkE] at h
    split at h
    · simp only [Bool.and_eq_true, decide_eq_true_eq] at h
      obtain ⟨⟨⟨⟨⟨⟨⟨⟨⟨⟨h1, hC⟩, hk⟩, hq⟩, h2⟩, h3⟩, h4⟩, h5⟩, h6⟩, h7⟩, h8⟩ := h
      split at hq
      · rename_i G eG
        rw [decide_eq_true_eq] at hq
        obtain ⟨ps, M⟩ := F.mxk eG hk
        have e0 := nil_of h5
        subst e0
        subst h1
        have l2 := chkEs_len h8
        have l3 := congrArg List.length h7
        simp only [PKr, List.length_map] at l2 l3
        have hl : ∀ sl st ds st', evEs cl ls sl st = .ok ds st' → ds.length = ks.length := fun sl st ds st' e => by rw [evEs_len e]; omega
        exact .plain F.K (e_mthK (evk := evEs cl ls) F.cok1 F.K F.E (F.kl.cl C hC).cl M hq rfl h7 hl h2 h4 h3 (okE F h6).pe (okKs F h8)) rfl
      · cases hq
    · cases h
  | .cmth C f x m es, e, F, h => by
    simp only [chkE] at h
    split at h
    · simp only [Bool.and_eq_true, Bool.not_eq_true', decide_eq_true_eq] at h
      obtain ⟨⟨⟨⟨⟨⟨⟨⟨⟨⟨h1, h2⟩, h3⟩, h4⟩, h5⟩, h6⟩, h7⟩, h8⟩, h9⟩, h10⟩, h11⟩ := h
      obtain ⟨g1, g2, _⟩ := F.gl h2
      exact .plain F.K (ok_cmth F g1 g2 h3 h4 h5 h6 h7 h8 h9 h10 (okEs F h10 h11)) rfl
    · cases h
  | .isc nc a x anc, e, F, h => by
    simp only [chkE] at h
    split at h
    · simp only [Bool.and_eq_true, Bool.not_eq_true', decide_eq_true_eq] at h
      obtain ⟨⟨⟨⟨⟨⟨⟨h1, h2⟩, h3⟩, h4⟩, rfl⟩, h6⟩, h7⟩, h8⟩ := h
      obtain ⟨g1, g2, g3, g4⟩ := F.fre h2
      obtain ⟨k1, k2, _⟩ := F.gl h4
      obtain ⟨cx, i1, i2⟩ := F.kl.ic _ h6
      exact .plain F.K (e_isc F.K F.kl.cl i2 i1 k1 k2 h1 g1 g4 h7 (okE F h8).pe) rfl
    · cases h
theorem okEs {X : Cx} {c : Kc} {B : Bx} : ∀ {ce : List CE} {e : List Expr}, Fits X c B n cl → nostar e = true → chkEs ce c e = true → PA X e (tA B (evEs cl ce))
  | [], e, F, hs, h => by
    simp only [chkEs, List.isEmpty_iff] at h
    subst h
    exact a_nil
  | a :: as, [], F, hs, h => by simp [chkEs] at h
  | a :: as, x :: xs, F, hs, h => by
    simp only [chkEs, Bool.and_eq_true] at h
    have hs' : (x :: xs).all (fun e => !isStar e) = true := hs
    rw [List.all_cons, Bool.and_eq_true, Bool.not_eq_true'] at hs'
    exact a_cons hs'.1 (okE F h.1).pe (okEs F hs'.2 h.2)
theorem okPs {X : Cx} {c : Kc} {B : Bx} : ∀ {ce : List CE} {e : List Expr}, Fits X c B n cl → chkEs ce c e = true → Paired (fun ce e => PE X e (tE B (evE cl ce))) ce e
  | [], e, F, h => by
    simp only [chkEs, List.isEmpty_iff] at h
    subst h
    exact .nil
  | a :: as, [], F, h => by simp [chkEs] at h
  | a :: as, x :: xs, F, h => by
    simp only [chkEs, Bool.and_eq_true] at h
    exact .cons (okE F h.1).pe (okPs F h.2)
theorem okKs {X : Cx} {c : Kc} {B : Bx} : ∀ {ce : List CE} {kws : List Keyword}, Fits X c B n cl → chkEs ce c (PKr kws) = true → PK X kws (tA B (evEs cl ce))
  | [], kws, F, h => by
    simp only [chkEs, List.isEmpty_iff, PKr, List.map_eq_nil_iff] at h
    subst h
    exact k_nil
  | a :: as, [], F, h => by simp [chkEs, PKr] at h
  | a :: as, ⟨nm, x, p⟩ :: xs, F, h => by
    simp only [chkEs, Bool.and_eq_true, PKr, List.map_cons] at h
    exact k_cons (okE F h.1).pe (okKs F h.2)
theorem okFs {X : Cx} {c : Kc} {B : Bx} : ∀ {ce : List CE} {e : List Expr}, Fits X c B n cl → chkFs ce c e = true → PTs X e (tB B (evTs cl ce))
  | [], e, F, h => by
    simp only [chkFs, List.isEmpty_iff] at h
    subst h
    exact ts_nil
  | a :: as, e, F, h => by
    simp only [chkFs] at h
    split at h
    · simp only [Bool.and_eq_true, Bool.not_eq_true', List.isEmpty_iff] at h
      obtain ⟨⟨rfl, h2⟩, h3⟩ := h
      exact ts_one ((okE F h3).pt h2)
    · cases h
theorem okO {X : Cx} {c : Kc} {B : Bx} : ∀ {ce : CO} {e : Option Expr}, Fits X c B n cl → chkO ce c e = true → PO X e (tO B (evO cl ce))
  | .none, e, F, h => by
    simp only [chkO, Option.isNone_iff_eq_none] at h
    subst h
    exact o_none
  | .some a, e, F, h => by
    simp only [chkO] at h
    split at h
    · exact o_some (okE F h).pe
    · cases h
theorem okI {X : Cx} {c : Kc} {B : Bx} {tg : Expr} : ∀ {ce : CI} {e : Expr}, Fits X c B n cl → zipT ce tg = true → chkI ce c e = true → PI X tg e (tI B (evI cl ce))
  | .e a, e, F, hz, h => by
    simp only [chkI] at h
    exact i_e F.K (okE F h).pe
  | .rng es, e, F, hz, h => by
    simp only [chkI] at h
    split at h
    · simp only [Bool.and_eq_true, decide_eq_true_eq, Bool.or_eq_true, beq_iff_eq] at h
      obtain ⟨⟨⟨⟨h1, h2⟩, h3⟩, h4⟩, h5⟩ := h
      obtain ⟨g1, g2, g3, g4⟩ := F.fre h2
      have k := okEs F h3 h5
      have hl := chkEs_len h5
      exact ok_rng F h1 g1 g4 h4 hl (fun x hx => by
        have := List.all_eq_true.mp (star_of h3) x hx
        simpa using this) k
    · cases h
  | .enum a, e, F, hz, h => by
    simp only [chkI] at h
    split at h
    · simp only [Bool.and_eq_true, Bool.not_eq_true', decide_eq_true_eq] at h
      obtain ⟨⟨⟨h1, h2⟩, h3⟩, h4⟩ := h
      obtain ⟨g1, g2, g3, g4⟩ := F.fre h2
      cases tg <;> first | (simp [zipT, isTupE] at hz; done) | skip
      exact i_enum F.K h1 g1 g4 h3 (okE F h4).pe
    · cases h
  | .vals a, e, F, hz, h => by
    simp only [chkI] at h
    split at h
    · simp only [Bool.and_eq_true, decide_eq_true_eq] at h
      obtain ⟨⟨⟨h1, h2⟩, h3⟩, h4⟩ := h
      subst h1
      exact i_vals (base_plain (n := "values") (env := X.env) h2 (eval _ X.env)) h3 (okE F h4).pe
    · cases h
  | .zip a b, e, F, hz, h => by
    simp only [chkI] at h
    split at h
    · simp only [Bool.and_eq_true, Bool.not_eq_true', decide_eq_true_eq] at h
      obtain ⟨⟨⟨⟨⟨h1, h2⟩, h3⟩, h4⟩, h5⟩, h6⟩ := h
      obtain ⟨g1, g2, g3, g4⟩ := F.fre h2
      cases tg <;> first | (simp [zipT, isTupE] at hz; done) | skip
      exact i_zip F.K h1 g1 g4 h3 h4 (okE F h5).pe (okE F h6).pe
    · cases h
end
end
end TM
set_option maxHeartbeats 4000000
/-! TM, part S: the master theorem of statements, of defs, of tables of defs. -/
namespace TM
open PySem PySem.Spec PyProof.Rows L2
section
variable {B : Bx} {n : Nat} {cl : Nat → List D → Store → Res D}
theorem swC_of {X : Cx} {c : Kc} (F : Fits X c B n cl) {y : Str} {py pos spos : Pos} {elt : Expr} {gs : List Comprehension} {scope : Scope} (h : swC c y py scope pos = true) :
    X.env.scope.names.lookup y = some .local ∧ swapsWith (.ListComp elt gs scope pos) (some (.Name y py)) spos.line X.env = pure true := by
  unfold swC at h
  simp only [Bool.and_eq_true, decide_eq_true_eq] at h
  obtain ⟨⟨⟨h1, h2⟩, h3⟩, h4⟩ := h
  rw [← F.sc] at h1 h2
  refine ⟨h2, ?_⟩
  have e1 : X.env.blockKind = .function := by
    unfold Env.blockKind
    rw [h1]
    rfl
  have e2 : X.env.kindOf y = some .local := h2
  show pure (X.env.blockKind == .function && X.env.kindOf y == some .local && py.line == pos.line && !(scope.names.any fun (n, k) => n == y && (k == .local || k == .cell))) = _
  rw [e1, e2, h3]
  have e3 : (!(scope.names.any fun (n, k) => n == y && (k == .local || k == .cell))) = true := h4
  rw [e3]
  rfl
theorem swC_ofD {X : Cx} {c : Kc} (F : Fits X c B n cl) {y : Str} {py pos spos : Pos} {kx vx : Expr} {gs : List Comprehension} {scope : Scope} (h : swC c y py scope pos = true) :
    X.env.scope.names.lookup y = some .local ∧ swapsWith (.DictComp kx vx gs scope pos) (some (.Name y py)) spos.line X.env = pure true := by
  unfold swC at h
  simp only [Bool.and_eq_true, decide_eq_true_eq] at h
  obtain ⟨⟨⟨h1, h2⟩, h3⟩, h4⟩ := h
  rw [← F.sc] at h1 h2
  refine ⟨h2, ?_⟩
  have e1 : X.env.blockKind = .function := by
    unfold Env.blockKind
    rw [h1]
    rfl
  have e2 : X.env.kindOf y = some .local := h2
  show pure (X.env.blockKind == .function && X.env.kindOf y == some .local && py.line == pos.line && !(scope.names.any fun (n, k) => n == y && (k == .local || k == .cell))) = _
  rw [e1, e2, h3]
  have e3 : (!(scope.names.any fun (n, k) => n == y && (k == .local || k == .cell))) = true := h4
  rw [e3]
  rfl
theorem par_of {X : Cx} {c : Kc} (F : Fits X c B n cl) {x y : Str} {px py pt pt2 : Pos} {k k2 : Nat} {a b : Expr} (h : parC c x y px py a b = true) :
    X.env.scope.names.lookup x = some .local ∧ X.env.scope.names.lookup y = some .local ∧ isStar a = false ∧ isStar b = false ∧ swappedStores [.Tuple [.Name x px, .Name y py] k pt] (.Tuple [a, b] k2 pt2) X.env = pure (some [x, y]) := by
  unfold parC at h
  simp only [Bool.and_eq_true, Bool.not_eq_true', decide_eq_true_eq, beq_iff_eq] at h
  obtain ⟨⟨⟨⟨⟨⟨⟨⟨h1, h2⟩, h3⟩, h4⟩, h5⟩, h6⟩, h7⟩, h8⟩, h9⟩ := h
  rw [← F.sc] at h1 h2 h3
  refine ⟨h2, h3, h6, h7, ?_⟩
  have e1 : X.env.blockKind = .function := by
    unfold Env.blockKind
    rw [h1]
    rfl
  have e2 : X.env.kindOf x = some .local := h2
  have e3 : X.env.kindOf y = some .local := h3
  have hne : ¬ y = x := by simpa using h5
  have e4 : [x, y].eraseDups = [x, y] := by
    simp [List.eraseDups_cons, hne]
  have p1 : ∀ {b : Bool} {u v : Sem (Option (List Str))}, b = false → (if b = true then u else v) = v := fun h => by rw [h]; rfl
  have q1 : ([a, b].any fun | .Starred .. => true | _ => false) = false := by
    have g : ∀ e : Expr, isStar e = false → (match e with | .Starred .. => true | _ => false) = false := fun e he => by
      cases e <;> first | (simp [isStar] at he; done) | rfl
    rw [List.any_cons, List.any_cons, List.any_nil]
    show (_ || (_ || false)) = false
    rw [g a h6, g b h7]
    rfl
  have q2 : ([Expr.Name x px, Expr.Name y py].filterMap fun
    | .Name id pos => if X.env.kindOf id == some .local && pos.line == px.line then some id else none
    | _ => none) = [x, y] := by
    simp [e2, e3, h4]
  show (if (!(2 == 2 || 2 == 3) || 2 != 2 || X.env.blockKind != .function) = true then _ else if ([a, b].any fun | .Starred .. => true | _ => false) = true then _ else _) = _
  rw [p1 (by rw [e1]; rfl), p1 q1]
  show (if (([Expr.Name x px, Expr.Name y py].filterMap fun
    | .Name id pos => if X.env.kindOf id == some .local && pos.line == px.line then some id else none
    | _ => none).length != 2 || ([Expr.Name x px, Expr.Name y py].filterMap fun
    | .Name id pos => if X.env.kindOf id == some .local && pos.line == px.line then some id else none
    | _ => none).eraseDups.length != ([Expr.Name x px, Expr.Name y py].filterMap fun
    | .Name id pos => if X.env.kindOf id == some .local && pos.line == px.line then some id else none
    | _ => none).length) = true then _ else if ([a, b].all (foldedForSure 8)) = true then _ else if ([a, b].all (constantsAlone 8)) = true then _ else pure (some ([Expr.Name x px, Expr.Name y py].filterMap fun
    | .Name id pos => if X.env.kindOf id == some .local && pos.line == px.line then some id else none
    | _ => none))) = _
  rw [q2, p1 (by rw [e4]; rfl), p1 h8, p1 h9]
theorem swC_loc {X : Cx} {c : Kc} (F : Fits X c B n cl) {y : Str} {py pos : Pos} {scope : Scope} (h : swC c y py scope pos = true) : X.env.scope.names.lookup y = some .local := (swC_of F (elt := .Name y pos) (gs := []) (spos := pos) h).1
theorem star_of' {X : Cx} {c : Kc} (F : Fits X c B n cl) : ∀ {is : List Nat} {i : Nat} {es : List Expr}, chkStar c is i es = true → ∃ es', PGs X es' (gTs B (is.map .name ++ [.name i])) ∧ (assignEach es X.env).map (·.2) = (assignEach es' X.env).map (·.2) ∧ (assignEach es X.env).length = is.length + 1 ∧ (assignEach es X.env).findIdx? (·.1) = some is.length
  | [], i, es, h => by
    simp only [chkStar] at h
    split at h
    · rename_i x p p2
      simp only [Bool.and_eq_true, decide_eq_true_eq] at h
      obtain ⟨l1, l2⟩ := F.loc h.2
      exact ⟨[.Name x p], g_cons rfl (g_name F.cok.nd (by rw [F.N]; exact h.1) l1 l2) g_nil, rfl, rfl, rfl⟩
    · cases h
  | j :: is, i, es, h => by
    simp only [chkStar] at h
    split at h
    · rename_i x p es
      simp only [Bool.and_eq_true, decide_eq_true_eq] at h
      obtain ⟨l1, l2⟩ := F.loc h.1.2
      obtain ⟨es', k1, k2, k3, k4⟩ := star_of' F h.2
      refine ⟨.Name x p :: es', g_cons rfl (g_name F.cok.nd (by rw [F.N]; exact h.1.1) l1 l2) k1, ?_, ?_, ?_⟩
      · show _ :: (assignEach es X.env).map (·.2) = _ :: _
        rw [k2]
      · show (assignEach es X.env).length + 1 = _
        rw [k3]
        rfl
      · show ((false, assign (.Name x p) X.env) :: assignEach es X.env).findIdx? (·.1) = _
        rw [List.findIdx?_cons, k4]
        rfl
    · cases h
theorem fm_lt {α β : Type} {f : α → Option β} : ∀ {ts : List α}, (∃ t ∈ ts, f t = none) → (ts.filterMap f).length < ts.length
  | [], ⟨_, h, _⟩ => absurd h List.not_mem_nil
  | a :: ts, ⟨t, h, e⟩ => by
    rw [List.filterMap_cons]
    rcases List.mem_cons.mp h with rfl | h
    · rw [e]
      exact Nat.lt_succ_of_le (List.length_filterMap_le _ _)
    · have := fm_lt ⟨t, h, e⟩
      cases f a with
      | none => exact Nat.lt_succ_of_lt this
      | some b => exact Nat.succ_lt_succ this
theorem nopar_ok {X : Cx} {c : Kc} (F : Fits X c B n cl) {tg e : Expr} (h : nopar c tg e = true) : swappedStores [tg] e X.env = pure none := by
  unfold nopar at h
  split at h
  · rename_i ts k p vs k2 p2
    rw [Bool.or_eq_true] at h
    have p : ∀ {c : Prop} [Decidable c] {x v : Sem (Option (List Str))}, v = x → (if c then x else v) = x := fun {c} _ {x v} h => by
      by_cases hc : c
      · rw [if_pos hc]
      · rw [if_neg hc, h]
    unfold swappedStores
    dsimp only
    refine p ?_
    refine p ?_
    rcases h with h | h
    · rw [List.any_eq_true] at h
      obtain ⟨t, ht, hn⟩ := h
      have key : ∀ line : Nat, (ts.filterMap fun
        | .Name id pos => if X.env.kindOf id == some .local && pos.line == line then some id else none
        | _ => none).length < ts.length := fun line => by
        refine fm_lt ⟨t, ht, ?_⟩
        unfold noNm at hn
        split at hn
        · rename_i y py
          rw [decide_eq_true_eq, ← F.sc] at hn
          have : X.env.kindOf y = some .cell := hn
          simp only [this]
          rfl
        · rename_i hx
          cases t <;> first | exact absurd rfl (hx _ _) | rfl
      have key' := key ((ts.head?.map (·.pos.line)).getD 0)
      have ne : ((ts.filterMap fun
        | .Name id pos => if X.env.kindOf id == some .local && pos.line == ((ts.head?.map (·.pos.line)).getD 0) then some id else none
        | _ => none).length != ts.length) = true := by
        rw [bne_iff_ne]
        omega
      refine if_pos ?_
      rw [Bool.or_eq_true]
      exact .inl ne
    · refine p ?_
      exact if_pos h
  · cases h
theorem par3_of {X : Cx} {c : Kc} (F : Fits X c B n cl) {x y z : Str} {px py pz pt pt2 : Pos} {k k2 : Nat} {a b d : Expr} (h : parC3 c x y z px py pz a b d = true) :
    X.env.scope.names.lookup x = some .local ∧ X.env.scope.names.lookup y = some .local ∧ X.env.scope.names.lookup z = some .local ∧ isStar a = false ∧ isStar b = false ∧ isStar d = false ∧ swappedStores [.Tuple [.Name x px, .Name y py, .Name z pz] k pt] (.Tuple [a, b, d] k2 pt2) X.env = pure (some [x, y, z]) := by
  unfold parC3 at h
  simp only [Bool.and_eq_true, Bool.not_eq_true', decide_eq_true_eq, beq_iff_eq] at h
  obtain ⟨⟨⟨⟨⟨⟨⟨⟨⟨⟨⟨⟨⟨h1, h2⟩, h3⟩, hz⟩, h4⟩, h4'⟩, h5⟩, h5'⟩, h5''⟩, h6⟩, h7⟩, h7'⟩, h8⟩, h9⟩ := h
  rw [← F.sc] at h1 h2 h3 hz
  refine ⟨h2, h3, hz, h6, h7, h7', ?_⟩
  have e1 : X.env.blockKind = .function := by
    unfold Env.blockKind
    rw [h1]
    rfl
  have e2 : X.env.kindOf x = some .local := h2
  have e3 : X.env.kindOf y = some .local := h3
  have e3' : X.env.kindOf z = some .local := hz
  have hne : ¬ y = x := by simpa using h5
  have hne' : ¬ z = x := by simpa using h5'
  have hne'' : ¬ z = y := by simpa using h5''
  have e4 : [x, y, z].eraseDups = [x, y, z] := by
    simp [List.eraseDups_cons, hne, hne', hne'']
  have p1 : ∀ {b : Bool} {u v : Sem (Option (List Str))}, b = false → (if b = true then u else v) = v := fun h => by rw [h]; rfl
  have q1 : ([a, b, d].any fun | .Starred .. => true | _ => false) = false := by
    have g : ∀ e : Expr, isStar e = false → (match e with | .Starred .. => true | _ => false) = false := fun e he => by
      cases e <;> first | (simp [isStar] at he; done) | rfl
    rw [List.any_cons, List.any_cons, List.any_cons, List.any_nil]
    show (_ || (_ || (_ || false))) = false
    rw [g a h6, g b h7, g d h7']
    rfl
  have q2 : ([Expr.Name x px, Expr.Name y py, Expr.Name z pz].filterMap fun
    | .Name id pos => if X.env.kindOf id == some .local && pos.line == px.line then some id else none
    | _ => none) = [x, y, z] := by
    simp [e2, e3, e3', ← h4, ← h4']
  show (if (!(3 == 2 || 3 == 3) || 3 != 3 || X.env.blockKind != .function) = true then _ else if ([a, b, d].any fun | .Starred .. => true | _ => false) = true then _ else _) = _
  rw [p1 (by rw [e1]; rfl), p1 q1]
  show (if (([Expr.Name x px, Expr.Name y py, Expr.Name z pz].filterMap fun
    | .Name id pos => if X.env.kindOf id == some .local && pos.line == px.line then some id else none
    | _ => none).length != 3 || ([Expr.Name x px, Expr.Name y py, Expr.Name z pz].filterMap fun
    | .Name id pos => if X.env.kindOf id == some .local && pos.line == px.line then some id else none
    | _ => none).eraseDups.length != ([Expr.Name x px, Expr.Name y py, Expr.Name z pz].filterMap fun
    | .Name id pos => if X.env.kindOf id == some .local && pos.line == px.line then some id else none
    | _ => none).length) = true then _ else if ([a, b, d].all (foldedForSure 8)) = true then _ else if ([a, b, d].all (constantsAlone 8)) = true then _ else pure (some ([Expr.Name x px, Expr.Name y py, Expr.Name z pz].filterMap fun
    | .Name id pos => if X.env.kindOf id == some .local && pos.line == px.line then some id else none
    | _ => none))) = _
  rw [q2, p1 (by rw [e4]; rfl), p1 h8, p1 h9]
/-- the body of a try -/
theorem okB {X : Cx} {c : Kc} {B : Bx} (F : Fits X c B n cl) {b : CS} {s : Stmt} (h : chkB c b s = true) : PS X s (tS0 B (evS cl b)) := by
  unfold chkB at h
  split at h
  · split at h
    · simp only [Bool.and_eq_true, Bool.not_eq_true', decide_eq_true_eq] at h
      obtain ⟨⟨⟨h1, h2⟩, h3⟩, h4⟩ := h
      obtain ⟨l1, l2⟩ := F.loc h3
      exact s0_set F.cok.nd (by rw [F.N]; exact h2) l1 l2 h1 (okE F h4).pe
    · cases h
  · split at h
    · simp only [Bool.and_eq_true, Bool.not_eq_true'] at h
      exact s0_ex h.1 (okE F h.2).pe
    · cases h
  · split at h
    · exact s0_ret (okE F h).pe
    · cases h
  · cases h
/-- the suite's expression -/
theorem chkW_of {wr : Bool} {xn f : Str} {e : Expr} (h : chkW wr xn f e = true) : ∃ p1 p2 p3, e = wrE wr (.Attribute (.Name xn p1) f p2) p3 := by
  unfold chkW at h
  split at h
  · simp only [Bool.and_eq_true, Bool.not_eq_true', decide_eq_true_eq] at h
    obtain ⟨⟨rfl, rfl⟩, rfl⟩ := h
    exact ⟨_, _, ⟨0, 0, 0, 0⟩, rfl⟩
  · simp only [Bool.and_eq_true, decide_eq_true_eq] at h
    obtain ⟨⟨rfl, rfl⟩, rfl⟩ := h
    exact ⟨_, _, _, rfl⟩
  · cases h
theorem chkU_of {c : Kc} {k : Option Nat} {wr : Bool} {xn f : Str} {s : Stmt} (h : chkU c k wr xn f s = true) : ∃ y p1 p2 p3 p4 p5, s = suS k y (wrE wr (.Attribute (.Name xn p1) f p2) p3) p4 p5 ∧ ∀ j, k = some j → c.N[j]? = some y ∧ c.loc y = true := by
  unfold chkU at h
  split at h
  · simp only [Bool.and_eq_true, decide_eq_true_eq] at h
    obtain ⟨rfl, h2⟩ := h
    obtain ⟨p1, p2, p3, rfl⟩ := chkW_of h2
    exact ⟨"", p1, p2, p3, p1, _, rfl, fun j z => by cases z⟩
  · rw [Bool.and_eq_true] at h
    obtain ⟨h1, h2⟩ := h
    obtain ⟨p1, p2, p3, rfl⟩ := chkW_of h2
    split at h1
    · rename_i j
      rw [Bool.and_eq_true, decide_eq_true_eq] at h1
      exact ⟨_, p1, p2, p3, _, _, rfl, fun j' z => by cases z; exact h1⟩
    · cases h1
  · cases h
mutual
theorem okS {X : Cx} {c : Kc} (hx : PassesOwn (model X.prog X.w) X.A X.env X.xe ∧ X.stack = X.env :: X.outer ∧ X.env.frame = some X.env.locals) : ∀ {cs : CS} {s : Stmt}, Fits X c B n cl → chkS cs c s = true → PS X s (tS B (evS cl cs))
  | .asg t a, s, F, h => by
    simp only [chkS] at h
    split at h
    · simp only [Bool.and_eq_true, Bool.not_eq_true', Bool.or_eq_true] at h
      obtain ⟨⟨⟨⟨h1, h2⟩, h3⟩, h4⟩, h5⟩ := h
      exact s_asg h1 h2 (h3.elim (fun h => h.elim (fun h => stores_none' h.1 h.2) fun h => stores_none h) fun h => nopar_ok F h) (okE F h5).pe (okG F h4)
    · cases h
  | .asgLc i a, s, F, h => by
    simp only [chkS] at h
    split at h
    · simp only [Bool.and_eq_true, decide_eq_true_eq] at h
      obtain ⟨⟨⟨h1, h2⟩, h3⟩, h4⟩ := h
      split at h3
      · simp only [chkE] at h4
        split at h4
        · rename_i heq
          cases heq
          simp only [Bool.and_eq_true, Bool.not_eq_true', decide_eq_true_eq, List.all_eq_true] at h4
          obtain ⟨⟨⟨⟨⟨⟨⟨⟨k1, kz⟩, k2⟩, k3⟩, k4⟩, k5⟩, k6⟩, k7⟩, k8⟩ := h4
          subst k1
          exact s_asgLc F.cok.calm F.cok.nd (by rw [F.N]; exact h1) (swC_loc F h2) (okI F kz k5) (blkOk_by (by rw [F.N, F.sc]; exact k2)) k3 (fun s H C cls fp => okG (F.blk s H _ C cls fp) k6) (fun s H C cls fp => okFs (F.blk s H _ C cls fp) k7) (fun s H C cls fp => (okE (F.blk s H _ C cls fp) k8).pe) k4 (swC_of F h2).2
        · cases h4
      · cases h3
    · simp only [Bool.and_eq_true, decide_eq_true_eq] at h
      obtain ⟨⟨⟨h1, h2⟩, h3⟩, h4⟩ := h
      split at h3
      · simp only [chkE] at h4
        split at h4
        · rename_i heq
          cases heq
          simp only [Bool.and_eq_true, Bool.not_eq_true', decide_eq_true_eq, List.all_eq_true] at h4
          obtain ⟨⟨⟨⟨⟨⟨⟨⟨⟨k1, kz⟩, k2⟩, k3⟩, k4⟩, k5⟩, k6⟩, k7⟩, k8⟩, k9⟩ := h4
          subst k1
          exact s_asgDc F.cok.calm F.cok.nd (by rw [F.N]; exact h1) (swC_loc F h2) (okI F kz k5) (blkOk_by (by rw [F.N, F.sc]; exact k2)) k3 (fun s H C cls fp => okG (F.blk s H _ C cls fp) k6) (fun s H C cls fp => okFs (F.blk s H _ C cls fp) k7) (fun s H C cls fp => (okE (F.blk s H _ C cls fp) k8).pe) (fun s H C cls fp => (okE (F.blk s H _ C cls fp) k9).pe) k4 (swC_ofD F h2).2
        · cases h4
      · cases h3
    · cases h
  | .par i j p q, s, F, h => by
    simp only [chkS] at h
    split at h
    · simp only [Bool.and_eq_true, decide_eq_true_eq] at h
      obtain ⟨⟨⟨⟨⟨h1, h2⟩, h3⟩, h4⟩, h5⟩, h6⟩ := h
      obtain ⟨k1, k2, k3, k4, k5⟩ := par_of F h4
      exact s_par F.cok.calm F.cok.nd (by rw [F.N]; exact h1) (by rw [F.N]; exact h2) h3 k1 k2 k3 k4 (okE F h5).pe (okE F h6).pe k5
    · cases h
  | .dead, s, F, h => s_dead
  | .par3 i j l p q r, s, F, h => by
    simp only [chkS] at h
    split at h
    · simp only [Bool.and_eq_true, decide_eq_true_eq] at h
      obtain ⟨⟨⟨⟨⟨⟨⟨⟨⟨h1, h2⟩, h2'⟩, h3⟩, h3'⟩, h3''⟩, h4⟩, h5⟩, h6⟩, h7⟩ := h
      obtain ⟨k1, k2, k2', k3, k4, k4', k5⟩ := par3_of F h4
      exact s_par3 F.cok.calm F.cok.nd (by rw [F.N]; exact h1) (by rw [F.N]; exact h2) (by rw [F.N]; exact h2') h3 h3' h3'' k1 k2 k2' k3 k4 k4' (okE F h5).pe (okE F h6).pe (okE F h7).pe k5
    · cases h
  | .rais C x f a, s, F, h => by
    simp only [chkS] at h
    split at h
    · simp only [Bool.and_eq_true, Bool.not_eq_true', decide_eq_true_eq] at h
      obtain ⟨⟨⟨⟨h1, h2⟩, h3⟩, h4⟩, h5⟩ := h
      obtain ⟨g1, g2, _⟩ := F.gl h2
      obtain ⟨k1, k2⟩ := F.xc _ h3
      exact s_rais F.K F.cok.calm (F.cok.room.mono (Nat.le_add_left 2 n)) F.tk k1 g1 g2 k2 h4 (okE F h5).pe
    · cases h
  | .tryX b x xn cs os i k wr f, s, F, h => by
    simp only [chkS] at h
    split at h
    · simp only [Bool.and_eq_true, Bool.not_eq_true', decide_eq_true_eq] at h
      obtain ⟨⟨⟨⟨⟨⟨⟨⟨⟨⟨h1, h2⟩, h3⟩, h4⟩, h5⟩, h6⟩, h7⟩, h8⟩, h9⟩, h10⟩, h11⟩ := h
      obtain ⟨g1, g2, _⟩ := F.gl h2
      obtain ⟨cv, m1, m2⟩ := F.kl.xm _ h3
      obtain ⟨y, p1, p2, p3, p4, p5, rfl, hk⟩ := chkU_of h10
      subst h4
      refine s_tryX F.K hx.2.1 hx.2.2 F.cok.nd (by rw [F.N]; exact h5) (by rw [F.sc]; exact h6) h7 h8 ⟨g1, g2, m1⟩ F.tk m2 (fun C hC => ?_) (fun j z => ?_) (fun X' B' ⟨pn, xe, e⟩ e1 e2 tk po => ?_)
      · have := List.all_eq_true.mp h9 C hC
        rw [List.any_eq_true] at this
        obtain ⟨p, hp, q⟩ := this
        simp only [Bool.and_eq_true, decide_eq_true_eq] at q
        obtain ⟨q1, q2⟩ := q
        subst q1 q2
        exact ⟨(F.xc p hp).1.xf, (F.xc p hp).1.no⟩
      · obtain ⟨k1, k2⟩ := hk j z
        obtain ⟨l1, l2⟩ := F.loc k2
        exact ⟨by rw [F.N]; exact k1, l1, l2⟩
      · subst e
        exact okB (F.tr e1 e2 tk) h11
    · cases h
  | .asgS is i a, s, F, h => by
    simp only [chkS] at h
    split at h
    · simp only [Bool.and_eq_true, Bool.not_eq_true'] at h
      obtain ⟨⟨⟨h1, h2⟩, h3⟩, h4⟩ := h
      obtain ⟨es', k1, k2, k3, k4⟩ := star_of' F h3
      exact s_asgS F.cok.calm F.K h1 h2 (okE F h4).pe k1 k2 k3 k4
    · cases h
  | .aug i o a, s, F, h => by
    simp only [chkS] at h
    split at h
    · simp only [Bool.and_eq_true, decide_eq_true_eq, Bool.or_eq_true] at h
      obtain ⟨⟨⟨⟨rfl, h2⟩, h3⟩, h4⟩, h5⟩ := h
      obtain ⟨l1, l2⟩ := F.loc h4
      exact s_aug h2 F.cok.nd (by rw [F.N]; exact h3) l1 l2 (okE F h5).pe
    · cases h
  | .setI o i a, s, F, h => by
    simp only [chkS] at h
    split at h
    · simp only [Bool.and_eq_true, Bool.not_eq_true'] at h
      obtain ⟨⟨⟨⟨h1, h2⟩, h3⟩, h4⟩, h5⟩ := h
      have hu := F.cok.u64
      exact s_setI h1 (by omega) h2 (okE F h3).pe (okE F h4).pe (okE F h5).pe
    · cases h
  | .setA nc o x a, s, F, h => by
    simp only [chkS] at h
    split at h
    · simp only [Bool.and_eq_true, Bool.not_eq_true', decide_eq_true_eq] at h
      obtain ⟨⟨⟨⟨⟨rfl, rfl⟩, h3⟩, h4⟩, h5⟩, h6⟩ := h
      exact s_setA F.K h4 (fun C hC => ⟨(F.kl.cl C hC).cl, F.kl.na C hC _ h3⟩) (okE F h5).pe (okE F h6).pe
    · cases h
  | .ex a, s, F, h => by
    simp only [chkS] at h
    split at h
    · simp only [Bool.and_eq_true, Bool.not_eq_true'] at h
      exact s_ex h.1 (okE F h.2).pe
    · cases h
  | .iff t a b, s, F, h => by
    simp only [chkS] at h
    split at h
    · simp only [Bool.and_eq_true, Bool.not_eq_true'] at h
      exact s_iff ((okE F h.1.1.2).pt h.1.1.1) (okSs hx F h.1.2) (okSs hx F h.2)
    · cases h
  | .for_ t it b, s, F, h => by
    simp only [chkS] at h
    split at h
    · simp only [Bool.and_eq_true, Bool.not_eq_true'] at h
      obtain ⟨⟨⟨⟨h1, hz⟩, h2⟩, h3⟩, h4⟩ := h
      exact s_for hx.1 F.cok.calm h1 (okI F hz h3) (okG F h2) (okSs hx F h4)
    · cases h
  | .whl t b, s, F, h => by
    simp only [chkS] at h
    split at h
    · simp only [Bool.and_eq_true, Bool.not_eq_true'] at h
      exact s_whl hx.1 ((okE F h.1.2).pt h.1.1) (okSs hx F h.2) wfuel
    · cases h
  | .ret a, s, F, h => by
    simp only [chkS] at h
    split at h
    · exact s_ret (okE F h).pe
    · cases h
  | .retN, s, F, h => by
    simp only [chkS] at h
    split at h
    · exact s_retN
    · cases h
  | .pass, s, F, h => by
    simp only [chkS] at h
    split at h
    · exact s_pass
    · cases h
  | .brk, s, F, h => by
    simp only [chkS] at h
    split at h
    · exact s_brk
    · cases h
  | .cnt, s, F, h => by
    simp only [chkS] at h
    split at h
    · exact s_cnt
    · cases h
theorem okSs {X : Cx} {c : Kc} (hx : PassesOwn (model X.prog X.w) X.A X.env X.xe ∧ X.stack = X.env :: X.outer ∧ X.env.frame = some X.env.locals) : ∀ {cs : List CS} {s : List Stmt}, Fits X c B n cl → chkSs cs c s = true → PSs X s (tS B (evSs cl cs))
  | [], s, F, h => by
    simp only [chkSs, List.isEmpty_iff] at h
    subst h
    exact ss_nil
  | a :: as, [], F, h => by simp [chkSs] at h
  | a :: as, s :: ss, F, h => by
    simp only [chkSs, Bool.and_eq_true] at h
    exact ss_cons (okS hx F h.1) (okSs hx F h.2)
end
end
/-! ### a def -/
section
variable {P : Program} {w : World} {K : PySem.W.Frag} {mg : Str → Option Value} {base : Heap} {CA : Nat → Addr}
/-- a def of the text by its body (the wishes: no guard about, the table of modules in the base) -/
theorem fnG_of {k : Nat} {f : Addr} {fd : FuncData} {x qual : Str} {params : Arguments} {body : List Stmt} {scope : Scope} {dvs : List V} {kws : List (Str × V)} {N ps : List Str} {g : Fc} (F : FunD K x qual params body scope dvs kws f fd) (S : FnScope N ps scope)
    (len : ∀ ds st, g ds st ≠ .stuck → ds.length = ps.length)
    (hbody : ∀ (cdv : Value) (A : Around) (outer : List Env) (s : Shared) (H : Hp) (vs : List V) (Q : VK) (E : XK), A.guards = some [] → Room k (A.deeper (envOfC qual scope s.heap.objs.size f cdv)) → prom K CA g vs H Q E →
      ∃ t, PSs (cxOf (L2.CX P w) P w K mg base N qual scope f cdv A outer s H E) body t ∧ t { nx := fun _ H' => Q .non H', rt := Q } (start N vs) H) : FnG P w K mg base (k + 1) f fd ps (prom K CA g) := by
  obtain ⟨oc, od, dV, kV, doc, pm, an, cdv, ct, osl, rfl, lk, hcd, _, _⟩ := F.ex
  have hlen : ∀ vs H Q E, prom K CA g vs H Q E → vs.length = ps.length := fun vs H Q E ⟨W, ds, st, _, _, r, _, q⟩ => by
    rw [r.length]
    refine len ds st fun z => ?_
    rw [z] at q
    exact q
  refine ⟨hlen, fun A outer s H args us vs Q E hg hr e0 hb r hsp => ?_⟩
  -- the entry
  have kIn : K.In s.heap := e0.mod.kin.keeps fun b o e => (e0.bs b o e).1
  have nolim : s.heap.NoLimit := e0.mod.nolimit.keeps fun b o e => (e0.bs b o e).1
  have kinds : ∀ y ∈ ps.zip us, scope.names.lookup y.1 = some .local ∨ (scope.names.lookup y.1 = some .cell ∧ ((cellsFrom (s.heap.objs.size + 1) scope.names []).lookup y.1).isSome = true) := fun y hy =>
    (S.par y.1 (List.of_mem_zip hy).1).imp id fun q => ⟨q, PySem.W.cellsFrom_some _ _ _ (.inl q)⟩
  have room1 : A.depth < recursionLimit := by
    have := hr.dp
    omega
  refine codeAny_call_function room1 (kIn _ _ lk) rfl S.co S.gen rfl (PySem.W.codeRec_of kIn hcd) (hb _ _ _ _ (wpAny_newFunctionEnv_cells S.kind kinds fun env he s1 x => ?_))
  cases he
  obtain ⟨t, ht, hq⟩ := hbody cdv A outer s H vs Q E hg (hr.deeper _) hsp
  have I := inv_start (CX := L2.CX P w) (E := E) S hr.hd e0 (hlen _ _ _ _ hsp) r x
  refine ⟨nolim.keeps x.toInCall.keep, codeAny_func (wpAny_mono (ht.run [] s1 (start N vs) H _ I hq) (fun fl s' hs => ?_) fun e s' hs => hs)⟩
  cases fl with
  | ret u =>
    obtain ⟨v, σ', H', J, rv, q⟩ := hs
    exact ⟨v, H', J.os, J.bare, J.base, J.hok, rv, q⟩
  | next =>
    obtain ⟨σ', H', J, q⟩ := hs
    exact ⟨.non, H', J.os, J.bare, J.base, J.hok, rfl, q⟩
  | brk =>
    obtain ⟨_, _, _, q⟩ := hs
    exact q.elim
  | cont =>
    obtain ⟨_, _, _, q⟩ := hs
    exact q.elim
/-- what is known of a table's def -/
structure FnT (K : PySem.W.Frag) (mg : Str → Option Value) (CA : Nat → Addr) (FT : List FD) (fr : List Str) (gb : List (Str × D)) (kl : Kl) (F : FD) : Prop where
  ex : ∃ (fa : Addr) (fd : FuncData) (x qual : Str) (params : Arguments) (body : List Stmt) (scope : Scope) (dvs : List V) (kws : List (Str × V)) (N ps : List Str),
    FunD K x qual params body scope dvs kws fa fd ∧ FKat K mg CA F fa ∧ (F.kd.pos = true → Binds K fd ps []) ∧ (∀ q ∈ F.kf, KB K fd ps q) ∧ FnScope N ps scope ∧ ps.length = F.np ∧ N.length = F.nn ∧ chkSs F.body ⟨N, scope, fun _ => true, FT, fr, gb, kl⟩ body = true
variable {FT : List FD} {fr : List Str} {gb : List (Str × D)} {kl : Kl}
theorem evCall_len {f : Nat} {F : FD} (e : FT[f]? = some F) {k : Nat} {ds : List D} {st : Store} (h : evCall FT k f ds st ≠ .stuck) : ds.length = F.np := by
  cases k with
  | zero => exact absurd rfl h
  | succ k =>
    unfold evCall at h
    rw [e] at h
    by_cases hl : ds.length = F.np
    · exact hl
    · dsimp only at h
      rw [if_neg hl] at h
      exact absurd rfl h
theorem post_end {W : Wo} {E : XK} {r : RS} {Q : VK} (h : Post W E (endS r) Q) : PostS W (fun _ => E) r { nx := fun _ H' => Q .non H', rt := Q } := by
  cases r with
  | next sl st => exact fun W' σ' H' l _ s => h W' H' .non l s repN
  | ret d st => exact h
  | brk sl st => exact h.elim
  | cnt sl st => exact h.elim
  | exc C fs st => exact fun _ => h
  | stuck => exact h.elim
/-- a def of a table, the table's defs known one level down -/
theorem def_ok {k f : Nat} {F : FD} {fa : Addr} {fd : FuncData} {x qual : Str} {params : Arguments} {body : List Stmt} {scope : Scope} {dvs : List V} {kws : List (Str × V)} {N ps : List Str} (hsm : ∃ o, base.get? sysModules = some o) (hfr : ∀ x ∈ fr, mg x = none) (hgb : ∀ p ∈ gb, ∃ u v, mg p.1 = some u ∧ RelV v u ∧ flatOf p.2 = some v) (hkl : KlOk K mg CA kl) (hxc : XcOk P w K mg base CA kl)
    (hk : ∀ (f : Nat) (F : FD), FT[f]? = some F → FF P w K mg base CA (3 * k) F (evCall FT k f)) (e : FT[f]? = some F) (FU : FunD K x qual params body scope dvs kws fa fd) (S : FnScope N ps scope) (l1 : ps.length = F.np) (l2 : N.length = F.nn) (hc : chkSs F.body ⟨N, scope, fun _ => true, FT, fr, gb, kl⟩ body = true) :
    FnG P w K mg base (3 * (k + 1)) fa fd ps (prom K CA (evCall FT (k + 1) f)) := by
  refine fnG_of (k := 3 * k + 2) FU S (fun ds st h => by rw [l1]; exact evCall_len e h) fun cdv A outer s H vs Q E hg hr hsp => ?_
  obtain ⟨W, ds, st, h1, h2, r, sr, q⟩ := hsp
  refine ⟨_, okSs (c := ⟨N, scope, fun _ => true, FT, fr, gb, kl⟩) (B := ⟨K, CA, fun _ => E⟩) (n := 3 * k) (cl := evCall FT k) ⟨passes_of rfl, rfl, rfl⟩ ⟨⟨rfl, S.nd, hr, hg, hsm⟩, rfl, takes_of rfl rfl rfl rfl, rfl, rfl, rfl, hk, hfr, hgb, hkl, hxc⟩ hc, ?_⟩
  unfold evCall at q
  rw [e] at q
  dsimp only at q
  by_cases hl : ds.length = F.np
  · rw [if_pos hl] at q
    refine ⟨W, slots0 F.nn ds, st, h1, h2, ?_, sr, post_end q⟩
    unfold slots0
    rw [← l2]
    exact SlR.start r
  · rw [if_neg hl] at q
    exact q.elim
/-- all defs of a table, at every depth -/
theorem table_ok (hsm : ∃ o, base.get? sysModules = some o) (hT : ∀ (f : Nat) (F : FD), FT[f]? = some F → FnT K mg CA FT fr gb kl F) (hfr : ∀ x ∈ fr, mg x = none) (hgb : ∀ p ∈ gb, ∃ u v, mg p.1 = some u ∧ RelV v u ∧ flatOf p.2 = some v) (hkl : KlOk K mg CA kl) (hxc : XcOk P w K mg base CA kl) :
    ∀ (k f : Nat) (F : FD), FT[f]? = some F → FF P w K mg base CA (3 * k) F (evCall FT k f)
  | 0, f, F, e => by
    obtain ⟨fa, fd, x, qual, params, body, scope, dvs, kws, N, ps, FU, hm, hb, hk, S, l1, l2, hc⟩ := (hT f F e).ex
    refine ⟨ps, fa, fd, hm, hb, hk, ⟨fun vs H Q E ⟨W, ds, st, _, _, r, _, q⟩ => q.elim, fun A outer s H args us vs Q E hg hr e0 hb r ⟨W, ds, st, _, _, r', _, q⟩ => q.elim⟩⟩
  | k + 1, f, F, e => by
    obtain ⟨fa, fd, x, qual, params, body, scope, dvs, kws, N, ps, FU, hm, hb, hk, S, l1, l2, hc⟩ := (hT f F e).ex
    exact ⟨ps, fa, fd, hm, hb, hk, def_ok hsm hfr hgb hkl hxc (fun f F e => table_ok hsm hT hfr hgb hkl hxc k f F e) e FU S l1 l2 hc⟩
end
end TM
set_option maxHeartbeats 2000000
/-! TM, part T: the law's end. -/
namespace TM
open PySem PySem.Spec PyProof.Rows L2
/-- the law's def is called: nothing is tracked but the script; the table of modules stands in the base -/
theorem law_callG {P : Program} {w : World} {K : PySem.W.Frag} {mg mb : Str → Option Value} {k : Nat} {fa a : Addr} {fd : FuncData} {x : Str} {sp : Sp} {s₁ : Shared} {vs : List Value} {ns : List Int}
    (KX : K.In s₁.heap) (hns : s₁.heap.Ns mainGlobals mg) (hb : s₁.heap.Ns builtinsNs mb) (hbb : ∀ x : Str, x ≠ "__name__" → mb x = bootBuiltins x) (hlim : s₁.heap.NoLimit) (hsm : ∃ mm, s₁.heap.Ns sysModules mm) (hg : s₁.gens = #[])
    (ha : s₁.heap.get? a = some { cls := .type "list", data := .seq vs.toArray }) (hi : IntsAre vs ns) (hl : ns.length ≤ sizeLine) (hr : Room k callerA)
    (F : ∀ base : Heap, K.In base → base.Ns mainGlobals mg → (∃ o, base.get? sysModules = some o) → FnG P w K mg base k fa fd [x] sp) (hbind : ∀ (s : Shared) (u : Value), BindsTo s fd ⟨[u], []⟩ [(x, u)])
    (hsp : ∀ H : Hp, Only H → SqL K H a (ns.map V.int) → sp [.ref a] H (fun v _ => v = .bl true) E0) :
    codeAny (model P w) callerA (.call (.ref fa) ⟨[.ref a], []⟩) (fun r s' => r = .ok (.ret (.bool true)) ∧ OldK s₁.heap s'.heap ∧ s'.os = s₁.os ∧ AllBare s'.gens) s₁ := by
  have key : ∀ H : Hp, Only H → SqL K H a (ns.map V.int) → HOk P w H s₁.heap → (∀ b, H b ≠ none → b = a ∧ K.lookup a = none) →
      codeAny (model P w) callerA (.call (.ref fa) ⟨[.ref a], []⟩) (fun r s' => r = .ok (.ret (.bool true)) ∧ OldK s₁.heap s'.heap ∧ s'.os = s₁.os ∧ AllBare s'.gens) s₁ := by
    intro H hO hS hok hA
    -- what is no script is not tracked
    have out : ∀ {b : Addr} {o : Obj}, s₁.heap.get? b = some o → (∀ n, o.data ≠ .seq vs.toArray n) → H b = none := fun {b o} e d => by
      cases q : H b with
      | none => rfl
      | some u =>
        obtain ⟨rfl, _⟩ := hA b (by rw [q]; exact fun z => nomatch z)
        rw [ha] at e
        cases e
        exact absurd rfl (d _)
    have nsB : ∀ {b : Addr} {m : Str → Option Value}, s₁.heap.Ns b m → (hidT s₁.heap H).Ns b m := fun {b m} ⟨o, es, ep, e, d, r⟩ => ⟨o, es, ep, hidT_get e (out e fun n z => by rw [d] at z; cases z), d, r⟩
    have kB : K.In (hidT s₁.heap H) := fun b o e => hidT_get (KX b o e) (by
      cases q : H b with
      | none => rfl
      | some u =>
        obtain ⟨rfl, z⟩ := hA b (by rw [q]; exact fun z => nomatch z)
        rw [z] at e
        cases e)
    obtain ⟨mc, lim1, lim2⟩ := hlim
    obtain ⟨mm, hmm⟩ := hsm
    have hM : Mod K mg (hidT s₁.heap H) := ⟨kB, nsB hns, ⟨mb, nsB hb, hbb⟩, ⟨mc, nsB lim1, lim2⟩⟩
    have e0 : Env0 P w K mg (hidT s₁.heap H) callerA [] s₁ H := ⟨rfl, hM, fun b o e => of_hidT e, Nat.le_of_eq (hidT_size _ _), trivial, fun b hb => absurd (show b ∈ ([] : List Addr) from hb) List.not_mem_nil, hok, .of_eq hg⟩
    have sysB : ∃ o, (hidT s₁.heap H).get? sysModules = some o := by
      obtain ⟨o, es, ep, e, _⟩ := nsB hmm
      exact ⟨o, e⟩
    refine codeAny_mono ((F _ kB (nsB hns) sysB).run callerA [] s₁ H ⟨[.ref a], []⟩ [.ref a] [.ref a] _ _ rfl hr e0 (hbind s₁ (.ref a)) (.cons rfl .nil) (hsp H hO hS)) fun r s' h => ?_
    cases r with
    | error e =>
      obtain ⟨_, _, _, _, _, _, _, _, _, _, _, _, hE⟩ := h
      exact False.elim hE
    | ok fl =>
      cases fl with
      | next => exact False.elim h
      | brk => exact False.elim h
      | cont => exact False.elim h
      | ret u =>
        obtain ⟨v, H', os, bare, un, hok', r', q⟩ := h
        cases (show v = V.bl true from q)
        cases (show u = Value.bool true from r')
        refine ⟨rfl, OldK.of_keep fun b o e => ?_, os, bare⟩
        rcases hO b with z | ⟨ob, xs, z⟩
        · exact un.keep b o e z (fun z => absurd (show b ∈ ([] : List Addr) from z) List.not_mem_nil) List.not_mem_nil
        · obtain ⟨e1, _⟩ := hok b _ z
          obtain ⟨e2, _⟩ := hok' b _ (un.frzs b ob _ z)
          rw [e] at e1
          cases e1
          exact e2
  have rv := vals_ints hi
  have lenV := hi.length
  cases hk : K.lookup a with
  | some o =>
    have e := KX a o hk
    rw [ha] at e
    cases e
    exact key (fun _ => none) (fun _ => .inl rfl) (.inr ⟨_, vs.toArray, _, hk, rfl, rfl, rfl, by rw [List.size_toArray, lenV]; exact hl, by simpa using rv⟩) (fun b u z => nomatch (show (none : Option HO) = some u from z)) fun b z => absurd rfl z
  | none =>
    let o0 : HO := .frz { cls := .type "list", data := .seq vs.toArray } (.lst (ns.map V.int))
    have at0 : upd (fun _ => none) a o0 a = some o0 := upd_same
    have at1 : ∀ b, b ≠ a → upd (fun _ => none) a o0 b = none := fun b h => upd_ne h
    refine key (upd (fun _ => none) a o0) (fun b => ?_) (.inl (.inr ⟨_, at0⟩)) (fun b u z => ?_) fun b z => ⟨Classical.byContradiction fun h => z (at1 b h), hk⟩
    · by_cases hb : b = a
      · exact .inr ⟨_, _, by rw [hb]; exact at0⟩
      · exact .inl (at1 b hb)
    · by_cases hb : b = a
      · subst hb
        rw [at0] at z
        cases z
        exact ⟨ha, by rw [List.length_map]; exact hl, vs, _, rv, ha⟩
      · rw [at1 b hb] at z
        cases z
/-! ### a table of the text's defs -/
structure TD where
  nm : Str
  st : Stmt
  N : List Str
  ps : List Str
  kf : List Kform
  cs : List CS
  kd : FK := .fn
  fx : Str := nm
  qual : Str := nm
def TD.fd (T : TD) : FD := ⟨T.nm, T.ps.length, T.N.length, T.kf, T.cs, T.kd⟩
def scC (N P : List Str) (sc : Scope) : Bool := decide (sc.kind = .function) && !sc.isCoroutine && !sc.isGenerator && decide (N.Nodup) && decide (N.take P.length = P) && (P.all fun x => decide (sc.names.lookup x = some .local) || decide (sc.names.lookup x = some .cell)) && sc.names.all fun y => !decide (y.2 = .free)
theorem scC_ok {N P : List Str} {sc : Scope} (h : scC N P sc = true) : FnScope N P sc := by
  unfold scC at h
  simp only [Bool.and_eq_true, Bool.not_eq_true', decide_eq_true_eq, List.all_eq_true, Bool.or_eq_true, decide_eq_false_iff_not] at h
  obtain ⟨⟨⟨⟨⟨⟨h1, h2⟩, h3⟩, h4⟩, h5⟩, h6⟩, h7⟩ := h
  exact ⟨h1, h2, h3, h4, h5, h6, h7⟩
def TD.chk (T : TD) (FT : List FD) (fr : List Str) (gb : List (Str × D)) (kl : Kl) : Bool := scC T.N T.ps (defScope T.st) && chkSs T.cs ⟨T.N, defScope T.st, fun _ => true, FT, fr, gb, kl⟩ (defBody T.st)
/-- how it binds -/
structure TD.Bd (T : TD) : Prop where
  all : T.kd.pos = true → ∀ (kV doc pm : Value) (an : Option Addr) (cdv ct : Value) (us : List Value), us.length = T.ps.length → bindArgs (PySem.W.fnOf T.fx T.qual (defArgs T.st) (defBody T.st) (defScope T.st) .none kV doc pm an cdv ct) ⟨us, []⟩ = pure (T.ps.zip us)
  kw : ∀ q ∈ T.kf, ∀ (kV doc pm : Value) (an : Option Addr) (cdv ct : Value) (us ws as : List Value), us.length = q.np → ws.length = q.xs.length → permA (us ++ ws) q.pm = some as → as.length = T.ps.length →
    bindArgs (PySem.W.fnOf T.fx T.qual (defArgs T.st) (defBody T.st) (defScope T.st) .none kV doc pm an cdv ct) ⟨us, q.xs.zip ws⟩ = pure (T.ps.zip as)
/-- the def's object stands in the fragment -/
def TD.Says (T : TD) (K : PySem.W.Frag) (mg : Str → Option Value) (CA : Nat → Addr) : Prop := ∃ (f : Addr) (fd : FuncData), FunD K T.fx T.qual (defArgs T.st) (defBody T.st) (defScope T.st) [] [] f fd ∧ FKat K mg CA T.fd f
section
variable {K : PySem.W.Frag} {mg : Str → Option Value} {CA : Nat → Addr} {FT : List FD} {fr : List Str} {gb : List (Str × D)} {kl : Kl}
theorem TD.fnT {T : TD} (b : T.Bd) (hc : T.chk FT fr gb kl = true) (S : T.Says K mg CA) : FnT K mg CA FT fr gb kl T.fd := by
  obtain ⟨f, fd, F, hm⟩ := S
  unfold TD.chk at hc
  rw [Bool.and_eq_true] at hc
  refine ⟨f, fd, T.fx, T.qual, defArgs T.st, defBody T.st, defScope T.st, [], [], T.N, T.ps, F, hm, fun hp => F.bindsN fun kV doc pm an cdv ct us h => b.all hp kV doc pm an cdv ct us h, fun q hq s us ws as _ h1 h2 h3 h4 => ?_, scC_ok hc.1, rfl, rfl, hc.2⟩
  obtain ⟨oc, od, dV, kV, doc, pm, an, cdv, ct, osl, rfl, lk, hcd, hD, hK⟩ := F.ex
  rcases hD with ⟨_, rfl⟩ | ⟨e, _⟩
  · exact .of_eq (b.kw q hq kV doc pm an cdv ct us ws as h1 h2 h3 h4)
  · exact absurd rfl e
end
/-- the row of __init__ of an exception class -/
def xcT (T : TD) (C : Nat) (f : Str) : Bool := decide (T.kd = .me C "__init__") && scC T.N T.ps (defScope T.st) && (match defBody T.st with
  | [.Assign [.Attribute (.Name s _) g _] (.Name y _) _] => decide (g = f) && decide (T.N = [s, y]) && decide (T.ps = [s, y]) && decide ((defScope T.st).names.lookup s = some .local) && decide ((defScope T.st).names.lookup y = some .local) && !(s == ("__debug__" : Str)) && !(y == ("__debug__" : Str)) && !(s == ("__classdict__" : Str)) && !(y == ("__classdict__" : Str))
  | _ => false)
def xcTT (TT : List TD) (kl : Kl) : Bool := kl.XC.all fun p => TT.any fun T => xcT T p.2.1 p.2.2
/-- what the head tells of an exception class -/
structure XcH (K : PySem.W.Frag) (mg : Str → Option Value) (CA : Nat → Addr) (p : Str × Nat × Str) : Prop where
  ox : OexC K (CA p.2.1)
  xf : XfC K (CA p.2.1)
  no : PySem.W.findIn K (.ref (CA p.2.1)) p.2.2 = some none
  at_ : mg p.1 = some (.ref (CA p.2.1))
section
variable {K : PySem.W.Frag} {mg : Str → Option Value} {CA : Nat → Addr} {P : Program} {w : World} {base : Heap} {kl : Kl} {TT : List TD}
theorem xc_of {T : TD} {p : Str × Nat × Str} (h : xcT T p.2.1 p.2.2 = true) (X : XcH K mg CA p) (b : T.Bd) (S : T.Says K mg CA) : XcX P w K mg base (CA p.2.1) p.2.2 := by
  unfold xcT at h
  simp only [Bool.and_eq_true, decide_eq_true_eq] at h
  obtain ⟨⟨h1, h2⟩, h3⟩ := h
  obtain ⟨fi, fd, F, hm⟩ := S
  have hm' : FKat K mg CA T.fd fi := hm
  unfold FKat at hm'
  rw [show T.fd.kd = T.kd from rfl, h1] at hm'
  obtain ⟨M, hfi⟩ := hm'
  have Sc := scC_ok h2
  have hpos : T.kd.pos = true := by rw [h1]; rfl
  have hb : Binds K fd T.ps [] := F.bindsN fun kV doc pm an cdv ct us h => b.all hpos kV doc pm an cdv ct us h
  split at h3
  · rename_i s p1 g p2 y p3 pos eb
    simp only [Bool.and_eq_true, Bool.not_eq_true', decide_eq_true_eq] at h3
    obtain ⟨⟨⟨⟨⟨⟨⟨⟨rfl, eN⟩, eP⟩, l1⟩, l2⟩, d1⟩, d2⟩, c1⟩, c2⟩ := h3
    rw [eb] at F
    rw [eN, eP] at Sc
    rw [eP] at hb
    refine ⟨X.ox, X.xf, X.no, fi, fd, [s, y], M.at_, ?_, hb, xinit_ok X.ox X.no F Sc (.inl l1) (.inl l2) d1 d2 c1 c2⟩
    exact beq_iff_eq.mp M.fn
  · cases h3
theorem xcOk_of (h : xcTT TT kl = true) (X : ∀ p ∈ kl.XC, XcH K mg CA p) (b : ∀ T ∈ TT, T.Bd) (S : ∀ T ∈ TT, T.Says K mg CA) : XcOk P w K mg base CA kl := fun p hp => by
  have q := List.all_eq_true.mp h p hp
  rw [List.any_eq_true] at q
  obtain ⟨T, hT, q⟩ := q
  exact ⟨xc_of q (X p hp) (b T hT) (S T hT), (X p hp).at_⟩
end
/-- what the head must tell -/
structure Told (TT : List TD) (fr : List Str) (gb : List (Str × D)) (kl : Kl) (K : PySem.W.Frag) (mg : Str → Option Value) (CA : Nat → Addr) : Prop where
  defs : ∀ T ∈ TT, T.Says K mg CA
  fr : ∀ x ∈ fr, mg x = none
  gb : ∀ p ∈ gb, ∃ u v, mg p.1 = some u ∧ RelV v u ∧ flatOf p.2 = some v
  xh : ∀ p ∈ kl.XC, XcH K mg CA p
  kl : KlOk K mg CA kl
  nol : ∀ a o, K.lookup a = some o → o.cls ≠ .type "list"
/-- the law's end -/
theorem walk_tm {l : PySem.W.OpenLaw} {n k f : Nat} {q : Program} {loose : List Str} {XP : (Str → Option Value) → Heap → Prop} {YP : World → Heap → Prop} {d : DefRec} {x : Str} {TT : List TD} {TL : TD} {fr : List Str} {gb : List (Str × D)} {kl : Kl}
    (hn : l.most = some n) (hn2 : n ≤ sizeLine) (hdf : d.params.defaults = []) (himp : importsNone q = true) (hr : Room (3 * (k + 1)) callerA) (hf : TT[f]? = some TL) (hnm : d.name = TL.nm) (hkd : TL.kd = .fn) (hps : TL.ps = [x])
    (hb : ∀ T ∈ TT, T.Bd) (hc : TT.all (fun T => T.chk (TT.map TD.fd) fr gb kl) = true) (hxc : xcTT TT kl = true)
    (F : ∀ (w : World) (mg : Str → Option Value) (fa : Addr) (h : Heap), YP w h → h.Ns mainGlobals mg → mg d.name = some (.ref fa) → ∃ (K : PySem.W.Frag) (CA : Nat → Addr), K.In h ∧ Told TT fr gb kl K mg CA)
    (hval : ∀ ns : List Int, ns.length ≤ n → (∀ z ∈ ns, Builtin.Int.intBits z ≤ 1048576) → ∃ st, evCall (TT.map TD.fd) (k + 1) f [.lst (ns.map .int)] [] = .ok (.bl true) st) :
    PySem.W.WalkO q loose XP YP l.row.toRowW d [] (fun f vs => PySem.call f vs) := by
  refine Att.attach_callB hn hdf fun w s₀ s₁ mg mb fa o pm cd doc a vs ns G Y ho hd hcd hmg hobj hints hlen hbits hg => ?_
  obtain ⟨K, CA, KX, told⟩ := F w mg fa _ Y G.T.g hmg
  have noA : List.lookup a K = none := by
    cases e : List.lookup a K with
    | none => rfl
    | some o =>
      have e2 := KX a o e
      rw [hobj] at e2
      cases e2
      exact absurd rfl (told.nol a _ e)
  have facts : ∀ (i : Nat) (G : FD), (TT.map TD.fd)[i]? = some G → FnT K mg CA (TT.map TD.fd) fr gb kl G := fun i G e => by
    rw [List.getElem?_map, Option.map_eq_some_iff] at e
    obtain ⟨T, eT, rfl⟩ := e
    have hT := List.mem_of_getElem? eT
    exact TD.fnT (hb T hT) (List.all_eq_true.mp hc T hT) (told.defs T hT)
  obtain ⟨fa', fd, FU, hm'⟩ := told.defs TL (List.mem_of_getElem? hf)
  have efa : fa' = fa := by
    have h2 : FKat K mg CA TL.fd fa' := hm'
    unfold FKat at h2
    rw [show TL.fd.kd = .fn from hkd] at h2
    have h3 : mg TL.nm = some (.ref fa') := h2.1
    rw [hnm, h3] at hmg
    cases hmg
    rfl
  subst efa
  have bd : ∀ (s : Shared) (u : Value), BindsTo s fd ⟨[u], []⟩ [(x, u)] := fun s u => by
    have q := FU.bindsA (ps := TL.ps) (fun kV doc pm an cdv ct us h => (hb TL (List.mem_of_getElem? hf)).all (by rw [hkd]; rfl) kV doc pm an cdv ct us h) s [u] (by rw [hps]; rfl)
    rw [hps] at q
    exact q
  have tab : ∀ base : Heap, K.In base → base.Ns mainGlobals mg → (∃ o, base.get? sysModules = some o) → FnG l.prog w K mg base (3 * (k + 1)) fa' fd [x] (prom K CA (evCall (TT.map TD.fd) (k + 1) f)) := fun base _ _ hsm => by
    have hfF : (TT.map TD.fd)[f]? = some TL.fd := by rw [List.getElem?_map, hf]; rfl
    have hcL := List.all_eq_true.mp hc TL (List.mem_of_getElem? hf)
    unfold TD.chk at hcL
    rw [Bool.and_eq_true] at hcL
    have xok : XcOk l.prog w K mg base CA kl := xcOk_of hxc told.xh hb told.defs
    have q := def_ok (P := l.prog) (w := w) (CA := CA) hsm told.fr told.gb told.kl xok (fun f F e => table_ok hsm facts told.fr told.gb told.kl xok k f F e) hfF FU (scC_ok hcL.1) rfl rfl hcL.2
    rw [hps] at q
    exact q
  refine law_callG KX G.T.g G.T.b G.T.builtins G.T.nolimit (let ⟨mm, h, _⟩ := (G.T.seer himp).mods; ⟨mm, h⟩) hg hobj hints (Nat.le_trans hlen hn2) hr tab bd fun H hO hS => ?_
  obtain ⟨st, ev⟩ := hval ns hlen hbits
  have hR : Rd H a (.lst (ns.map V.int)) := by
    rcases hS with h | ⟨o, its, m, h, _⟩
    · exact h
    · rw [noA] at h
      cases h
  refine ⟨⟨K, CA, H, [], fun _ => none⟩, [.lst (ns.map .int)], [], rfl, rfl, ?_, ⟨fun b u e => .inl e, rfl, List.nodup_nil, fun n c b e => by simp at e, fun b hb => absurd hb List.not_mem_nil, fun b u e => nomatch (show (none : Option HO) = some u from e)⟩, ?_⟩
  · refine .cons ?_ .nil
    simp only [Rep]
    exact ⟨a, _, rfl, hR, RepL.of_ints ns⟩
  · rw [ev]
    intro W' H' v _ _ r
    exact rep_bl r
/-! ### the head: what the heap tells -/
/-- the def of the classmethod x.m -/
def cmAd (K : PySem.W.Frag) (x m : Str) : Addr := match PySem.W.recIn K (He.ma K (He.ga K x) m) "classmethod" with
  | some (.ref g :: _) => g
  | _ => 0
def caOf (K : PySem.W.Frag) (cn : List Str) (C : Nat) : Addr := He.ga K (cn.getD C "")
def TD.ad (T : TD) (cn : List Str) (K : PySem.W.Frag) : Addr := match T.kd with
  | .fn => He.ga K T.nm
  | .me C m => He.ma K (caOf K cn C) m
  | .mk C m => He.ma K (caOf K cn C) m
  | .cm C m => cmAd K (cn.getD C "") m
def TD.val (T : TD) : He.FnW := some (T.fx, T.qual, defArgs T.st, .stmts (defBody T.st), defScope T.st, mainGlobals, [], builtinsNs)
def fnWA (K : PySem.W.Frag) (a : Addr) : He.FnW := match K.lookup a with
  | some ⟨_, _, .func fd, _⟩ => some (fd.name, fd.qualname, fd.params, fd.body, fd.scope, fd.globals, fd.closure, fd.builtins)
  | _ => none
/-- of the def's object -/
def fdB (K : PySem.W.Frag) (a : Addr) (qual : Str) : Bool := PySem.W.keepIn K (.ref a) && (match K.lookup a with
  | some ⟨_, _, .func fd, _⟩ => PySem.W.codeIn K fd.code qual && He.dflB K fd.defaults []
  | _ => false)
theorem fdB_ok {K : PySem.W.Frag} {T : TD} {a : Addr} (e : fnWA K a = T.val) (c : fdB K a T.qual = true) : ∃ fd, FunD K T.fx T.qual (defArgs T.st) (defBody T.st) (defScope T.st) [] [] a fd := by
  obtain ⟨kp, c2⟩ := He.ba c
  unfold fnWA at e
  cases q : K.lookup a with
  | none =>
    rw [q] at c2
    cases c2
  | some o =>
    obtain ⟨oc, od, dt, osl⟩ := o
    rw [q] at c2 e
    cases dt with
    | func fd =>
      obtain ⟨n1, n2, n3, n4, n5, n6, n7, n8, n9, n10, n11, n12, n13, n14, n15⟩ := fd
      have e2 : (some (n1, n2, n3, n4, n5, n6, n7, n15) : He.FnW) = some (T.fx, T.qual, defArgs T.st, .stmts (defBody T.st), defScope T.st, mainGlobals, [], builtinsNs) := e
      simp only [Option.some.injEq, Prod.mk.injEq] at e2
      obtain ⟨h1, h2, h3, h4, h5, h6, h7, h8⟩ := e2
      subst h1 h2 h3 h4 h5 h6 h7 h8
      obtain ⟨k1, k2⟩ := He.ba (show (PySem.W.codeIn K n13 T.qual && He.dflB K n8 []) = true from c2)
      exact ⟨_, ⟨oc, od, n8, n9, n10, n11, n12, n13, n14, osl, rfl, q, k1, He.dflB_ok k2, .inl rfl⟩, kp⟩
    | _ => cases c2
def eqB : Option Bool → Bool → Bool
  | some a, b => a == b
  | none, _ => false
theorem eqB_ok {o : Option Bool} {b : Bool} (h : eqB o b = true) : o = some b := by
  cases o with
  | none => cases h
  | some a =>
    have : a = b := by simpa [eqB] using h
    rw [this]
def clsxB (K : PySem.W.Frag) (C : Addr) : Bool := (PySem.W.plainGet K C Str.empty && (PySem.W.hasDictIn K C && (PySem.W.plainOver K C && He.eqO (PySem.W.findIn K (.ref C) "__setattr__") (some (some (.builtin "object.__setattr__")))))) &&
  (PySem.W.selfFirst K C && (He.eqO (PySem.W.findIn K (.ref C) "__class__") (some (some (.builtin "object.__class__"))) && (He.eqO (PySem.W.specialIn K (.builtin "object.__class__") "__get__") (some (some (.builtin "getset_descriptor.__get__"))) && (eqB (PySem.W.takesIn K (.builtin "object.__class__")) true &&
  (eqB (PySem.W.mroIn K C (.type "object")) true && (eqB (PySem.W.subIn K (.ref C) (.type "object")) true && (PySem.W.makesIn K C && (PySem.W.keepIn K (.ref C) && (PySem.W.readsIn K C (.type "type") && (He.eqO (PySem.W.specialIn K (.ref C) "__getattribute__") (some (some (.builtin "type.__getattribute__"))) &&
  He.eqO (PySem.W.findIn K (.ref C) "__ne__") (some (some (.builtin "object.__ne__")))))))))))))
theorem clsxB_ok {K : PySem.W.Frag} {C : Addr} (h : clsxB K C = true) : ClsX K C := by
  obtain ⟨h0, h⟩ := He.ba h
  obtain ⟨a1, h0⟩ := He.ba h0
  obtain ⟨a2, h0⟩ := He.ba h0
  obtain ⟨a3, a4⟩ := He.ba h0
  obtain ⟨b1, h⟩ := He.ba h
  obtain ⟨b2, h⟩ := He.ba h
  obtain ⟨b3, h⟩ := He.ba h
  obtain ⟨b4, h⟩ := He.ba h
  obtain ⟨b5, h⟩ := He.ba h
  obtain ⟨b6, h⟩ := He.ba h
  obtain ⟨b7, h⟩ := He.ba h
  obtain ⟨b8, h⟩ := He.ba h
  obtain ⟨b9, h⟩ := He.ba h
  obtain ⟨b10, b11⟩ := He.ba h
  exact ⟨⟨a1, a2, a3, He.eqO_ok a4⟩, b1, He.eqO_ok b2, He.eqO_ok b3, eqB_ok b4, eqB_ok b5, eqB_ok b6, b7, b8, ⟨b9, He.eqO_ok b10⟩, He.eqO_ok b11⟩
/-- where the def stands -/
def atB (K : PySem.W.Frag) (cn : List Str) (T : TD) : Bool := match T.kd with
  | .fn => He.eqO (PySem.W.nsIn K mainGlobals T.nm) (some (some (.ref (He.ga K T.nm)))) && PySem.W.keepIn K (.ref (He.ga K T.nm))
  | .me C m => (He.eqO (PySem.W.findIn K (.ref (caOf K cn C)) m) (some (some (.ref (He.ma K (caOf K cn C) m)))) && (PySem.W.isFn K (.ref (He.ma K (caOf K cn C) m)) && PySem.W.keepIn K (.ref (He.ma K (caOf K cn C) m)))) && PySem.W.fnIn K (He.ma K (caOf K cn C) m)
  | .mk C m => (He.eqO (PySem.W.findIn K (.ref (caOf K cn C)) m) (some (some (.ref (He.ma K (caOf K cn C) m)))) && (PySem.W.isFn K (.ref (He.ma K (caOf K cn C) m)) && PySem.W.keepIn K (.ref (He.ma K (caOf K cn C) m)))) && PySem.W.fnIn K (He.ma K (caOf K cn C) m)
  | .cm C m => (match PySem.W.findCls K (.ref (caOf K cn C)) (.type "type") m with
    | some (.get (.builtin b) (.ref p) .none (.ref c)) => decide (b = "classmethod.__get__") && (decide (p = He.ma K (caOf K cn C) m) && decide (c = caOf K cn C))
    | _ => false) && ((match PySem.W.recIn K (He.ma K (caOf K cn C) m) "classmethod" with
    | some (.ref g :: _) => true
    | _ => false) && PySem.W.fnIn K (cmAd K (cn.getD C "") m))
theorem atB_ok {K : PySem.W.Frag} {cn : List Str} {T : TD} {h : Heap} {mg : Str → Option Value} (X : K.In h) (G : h.Ns mainGlobals mg) (c : atB K cn T = true) : FKat K mg (caOf K cn) T.fd (T.ad cn K) := by
  unfold FKat TD.ad
  unfold atB at c
  rw [show T.fd.kd = T.kd from rfl]
  cases e : T.kd with
  | fn =>
    rw [e] at c
    obtain ⟨c1, c2⟩ := He.ba c
    exact ⟨PySem.W.mg_of X G (He.eqO_ok c1), c2⟩
  | me C m =>
    rw [e] at c
    obtain ⟨c0, c4⟩ := He.ba c
    obtain ⟨c1, c0⟩ := He.ba c0
    obtain ⟨c2, c3⟩ := He.ba c0
    exact ⟨⟨He.eqO_ok c1, c2, c3⟩, c4⟩
  | mk C m =>
    rw [e] at c
    obtain ⟨c0, c4⟩ := He.ba c
    obtain ⟨c1, c0⟩ := He.ba c0
    obtain ⟨c2, c3⟩ := He.ba c0
    exact ⟨⟨He.eqO_ok c1, c2, c3⟩, c4⟩
  | cm C m =>
    rw [e] at c
    obtain ⟨c1, c0⟩ := He.ba c
    obtain ⟨c2, c3⟩ := He.ba c0
    dsimp only
    split at c1
    · rename_i b p c' ef
      simp only [Bool.and_eq_true, decide_eq_true_eq] at c1
      obtain ⟨rfl, rfl, rfl⟩ := c1
      refine ⟨_, ef, ?_, c3⟩
      split at c2
      · rename_i g rest er
        refine ⟨rest, ?_⟩
        have : cmAd K (cn.getD C "") m = g := by
          unfold cmAd
          rw [show He.ga K (cn.getD C "") = caOf K cn C from rfl, er]
        rw [this, er]
      · cases c2
    · cases c1
def gbB (K : PySem.W.Frag) (p : Str × D) : Bool := match p.2, PySem.W.nsIn K mainGlobals p.1 with
  | .int i, some (some (.int j _)) => decide (j = i)
  | .str i, some (some (.str j _)) => decide (j = i)
  | .bl i, some (some (.bool j)) => j == i
  | _, _ => false
theorem gbB_ok {K : PySem.W.Frag} {p : Str × D} {h : Heap} {mg : Str → Option Value} (X : K.In h) (G : h.Ns mainGlobals mg) (c : gbB K p = true) : ∃ u v, mg p.1 = some u ∧ RelV v u ∧ flatOf p.2 = some v := by
  obtain ⟨x, d⟩ := p
  unfold gbB at c
  dsimp only at c ⊢
  split at c
  · rename_i i j t e
    rw [decide_eq_true_eq] at c
    subst c
    exact ⟨_, .int j, PySem.W.mg_of X G e, ⟨t, rfl⟩, rfl⟩
  · rename_i i j t e
    rw [decide_eq_true_eq] at c
    subst c
    exact ⟨_, .str j, PySem.W.mg_of X G e, ⟨t, rfl⟩, rfl⟩
  · rename_i i j e
    have c' : j = i := by simpa using c
    subst c'
    exact ⟨_, .bl j, PySem.W.mg_of X G e, rfl, rfl⟩
  · cases c
def isxB (K : PySem.W.Frag) (cn : List Str) (nc : Nat) (p : Str × List Nat) : Bool := He.eqO (PySem.W.nsIn K mainGlobals p.1) (some (some (.ref (He.ga K p.1)))) &&
  (((List.range nc).all fun C => eqB (PySem.W.kitOne K (.ref (caOf K cn C)) (.ref (He.ga K p.1))) (decide (C ∈ p.2))) && ((["NoneType", "bool", "int", "str", "list", "tuple", "dict"] : List String).all fun t => eqB (PySem.W.kitOne K (.type t) (.ref (He.ga K p.1))) false))
/-- of an exception class -/
def oexB (K : PySem.W.Frag) (C : Addr) : Bool := (match K.lookup C with
  | some ⟨.type "type", _, .cls cd, sl⟩ => (match cd.mro, sl.toList with
    | .ref C' :: bm, [_, _, _, _, some (.builtin n), _] => decide (C' = C) && (decide (n = "ValueError.__new__") && (!cd.hasDel && (cd.hasDict && PySem.HandSPX.refsVE bm)))
    | _, _ => false)
  | _ => false) && (He.eqO (PySem.W.findIn K (.ref C) "__setattr__") (some (some (.builtin "object.__setattr__"))) && (eqB (PySem.W.subIn K (.ref C) (.type "BaseException")) true && (decide (PySem.W.typeIn K (.ref C) = some (.type "type")) && PySem.W.keepIn K (.ref C))))
theorem oexB_ok {K : PySem.W.Frag} {C : Addr} (h : oexB K C = true) : OexC K C := by
  unfold oexB at h
  obtain ⟨h0, h⟩ := He.ba h
  obtain ⟨a1, h⟩ := He.ba h
  obtain ⟨a2, h⟩ := He.ba h
  obtain ⟨a3, a4⟩ := He.ba h
  refine ⟨?_, He.eqO_ok a1, eqB_ok a2, of_decide_eq_true a3, a4⟩
  split at h0
  · rename_i dd cd sl ho
    split at h0
    · rename_i C' bm k0 k1 k2 k3 n k5 hm hs
      simp only [Bool.and_eq_true, decide_eq_true_eq, Bool.not_eq_true'] at h0
      obtain ⟨rfl, rfl, hdel, hd, hv⟩ := h0
      obtain ⟨nm, bs, mro, ns, qn, hdct, sn, sub, ab, col, del⟩ := cd
      dsimp only at hm hdel hd
      subst hm hdel hd
      have hsl : sl = #[k0, k1, k2, k3, some (.builtin "ValueError.__new__"), k5] := by
        obtain ⟨l⟩ := sl
        simp only at hs
        rw [hs]
      subst hsl
      exact ⟨nm, qn, ns, bs, bm, sn, sub, ab, col, dd, k0, k1, k2, k3, k5, ho, hv⟩
    · cases h0
  · cases h0
def xcB (K : PySem.W.Frag) (cn : List Str) (p : Str × Nat × Str) : Bool := oexB K (caOf K cn p.2.1) && (xfB K (caOf K cn p.2.1) && (He.eqO (PySem.W.findIn K (.ref (caOf K cn p.2.1)) p.2.2) (some none) && (decide (cn.getD p.2.1 "" = p.1) && He.eqO (PySem.W.nsIn K mainGlobals p.1) (some (some (.ref (He.ga K p.1)))))))
theorem xcB_ok {K : PySem.W.Frag} {cn : List Str} {p : Str × Nat × Str} {h : Heap} {mg : Str → Option Value} (X : K.In h) (G : h.Ns mainGlobals mg) (c : xcB K cn p = true) : XcH K mg (caOf K cn) p := by
  obtain ⟨c1, c⟩ := He.ba c
  obtain ⟨c2, c⟩ := He.ba c
  obtain ⟨c3, c⟩ := He.ba c
  obtain ⟨c4, c5⟩ := He.ba c
  refine ⟨oexB_ok c1, xfB_ok c2, He.eqO_ok c3, ?_⟩
  rw [decide_eq_true_eq] at c4
  unfold caOf
  rw [c4]
  exact PySem.W.mg_of X G (He.eqO_ok c5)
/-- of an except clause: an own class -/
def xmB (K : PySem.W.Frag) (cn : List Str) (p : Str × List Nat × List Nat) : Bool := He.eqO (PySem.W.nsIn K mainGlobals p.1) (some (some (.ref (He.ga K p.1)))) && ((p.2.1.all fun C => eqB (PySem.W.exmOne K (.ref (caOf K cn C)) (.ref (He.ga K p.1))) true) && (p.2.2.all fun C => decide (C ∉ p.2.1) && eqB (PySem.W.exmOne K (.ref (caOf K cn C)) (.ref (He.ga K p.1))) false))
theorem xmB_ok {K : PySem.W.Frag} {cn : List Str} {p : Str × List Nat × List Nat} {h : Heap} {mg : Str → Option Value} (X : K.In h) (G : h.Ns mainGlobals mg) (c : xmB K cn p = true) :
    ∃ cv, (mg p.1 = some cv ∨ (mg p.1 = none ∧ bootBuiltins p.1 = some cv ∧ p.1 ≠ "__name__")) ∧ ∀ C, C ∈ p.2.1 ∨ C ∈ p.2.2 → PySem.W.exmOne K (.ref (caOf K cn C)) cv = some (decide (C ∈ p.2.1)) := by
  obtain ⟨c1, c⟩ := He.ba c
  obtain ⟨c2, c3⟩ := He.ba c
  rw [List.all_eq_true] at c2 c3
  refine ⟨_, .inl (PySem.W.mg_of X G (He.eqO_ok c1)), fun C hC => ?_⟩
  rcases hC with hC | hC
  · rw [decide_eq_true hC]
    exact eqB_ok (c2 C hC)
  · obtain ⟨d1, d2⟩ := He.ba (c3 C hC)
    rw [decide_eq_false (of_decide_eq_true d1)]
    exact eqB_ok d2
def klB0 (K : PySem.W.Frag) (cn : List Str) (kl : Kl) : Bool := (decide (kl.nc ≤ cn.length) && (kl.CN.all fun p => decide (p.2 < kl.nc) && (decide (cn.getD p.2 "" = p.1) && He.eqO (PySem.W.nsIn K mainGlobals p.1) (some (some (.ref (He.ga K p.1))))))) &&
  (((List.range kl.nc).all fun C => clsxB K (caOf K cn C) && kl.NA.all fun x => He.eqO (PySem.W.findIn K (.ref (caOf K cn C)) x) (some none)) && kl.IC.all fun p => isxB K cn kl.nc p)
def klB (K : PySem.W.Frag) (cn : List Str) (kl : Kl) : Bool := ((kl.XC.all fun p => xcB K cn p) && (kl.XM.all fun p => xmB K cn p)) && klB0 K cn kl
theorem klB_x {K : PySem.W.Frag} {cn : List Str} {kl : Kl} {h : Heap} {mg : Str → Option Value} (X : K.In h) (G : h.Ns mainGlobals mg) (c : klB K cn kl = true) : ∀ p ∈ kl.XC, XcH K mg (caOf K cn) p := by
  obtain ⟨c, _⟩ := He.ba c
  obtain ⟨c, _⟩ := He.ba c
  rw [List.all_eq_true] at c
  exact fun p hp => xcB_ok X G (c p hp)
theorem klB_ok {K : PySem.W.Frag} {cn : List Str} {kl : Kl} {h : Heap} {mg : Str → Option Value} (X : K.In h) (G : h.Ns mainGlobals mg) (c : klB K cn kl = true) : KlOk K mg (caOf K cn) kl := by
  obtain ⟨cx, c⟩ := He.ba c
  obtain ⟨_, cm⟩ := He.ba cx
  rw [List.all_eq_true] at cm
  obtain ⟨c0, c⟩ := He.ba c
  obtain ⟨c1, c2⟩ := He.ba c0
  obtain ⟨c3, c4⟩ := He.ba c
  rw [List.all_eq_true] at c2 c3 c4
  refine ⟨fun p hp => ?_, fun C hC => ?_, fun C hC x hx => ?_, fun p hp => ?_, fun p hp => xmB_ok X G (cm p hp)⟩
  · obtain ⟨d1, d⟩ := He.ba (c2 p hp)
    obtain ⟨d2, d3⟩ := He.ba d
    rw [decide_eq_true_eq] at d1 d2
    refine ⟨d1, ?_⟩
    unfold caOf
    rw [d2]
    exact PySem.W.mg_of X G (He.eqO_ok d3)
  · exact clsxB_ok (He.ba (c3 C (List.mem_range.mpr hC))).1
  · have := (He.ba (c3 C (List.mem_range.mpr hC))).2
    rw [List.all_eq_true] at this
    exact He.eqO_ok (this x hx)
  · obtain ⟨d1, d⟩ := He.ba (c4 p hp)
    obtain ⟨d2, d3⟩ := He.ba d
    rw [List.all_eq_true] at d2 d3
    exact ⟨_, PySem.W.mg_of X G (He.eqO_ok d1), ⟨fun C hC => eqB_ok (d2 C (List.mem_range.mpr hC)), fun t ht => eqB_ok (d3 t ht)⟩⟩
/-- all of it -/
def allB (K : PySem.W.Frag) (cn : List Str) (TT : List TD) (fr : List Str) (gb : List (Str × D)) (kl : Kl) : Bool := ((TT.all fun T => fdB K (T.ad cn K) T.qual && atB K cn T) && (fr.all fun x => He.eqO (PySem.W.nsIn K mainGlobals x) (some none))) && ((gb.all fun p => gbB K p) && klB K cn kl)
abbrev AlQ : Type := Bool × List He.FnW
def obsQ (K : PySem.W.Frag) (cn : List Str) (TT : List TD) (fr : List Str) (gb : List (Str × D)) (kl : Kl) : AlQ := (allB K cn TT fr gb kl, TT.map fun T => fnWA K (T.ad cn K))
def valQ (TT : List TD) : AlQ := (true, TT.map TD.val)
theorem told_of {K : PySem.W.Frag} {cn : List Str} {TT : List TD} {fr : List Str} {gb : List (Str × D)} {kl : Kl} {h : Heap} {mg : Str → Option Value} (X : K.In h) (G : h.Ns mainGlobals mg) (nol : ∀ a o, K.lookup a = some o → o.cls ≠ .type "list") (c : obsQ K cn TT fr gb kl = valQ TT) : Told TT fr gb kl K mg (caOf K cn) := by
  have c1 : allB K cn TT fr gb kl = true := congrArg (fun z : AlQ => z.1) c
  have c2 : (TT.map fun T => fnWA K (T.ad cn K)) = TT.map TD.val := congrArg (fun z : AlQ => z.2) c
  obtain ⟨d, e⟩ := He.ba c1
  obtain ⟨d1, d2⟩ := He.ba d
  obtain ⟨e1, e2⟩ := He.ba e
  rw [List.all_eq_true] at d1 d2 e1
  refine ⟨fun T hT => ?_, fun x hx => PySem.W.mg_none_of X G (He.eqO_ok (d2 x hx)), fun p hp => gbB_ok X G (e1 p hp), klB_x X G e2, klB_ok X G e2, nol⟩
  obtain ⟨f1, f2⟩ := He.ba (d1 T hT)
  have ew : fnWA K (T.ad cn K) = T.val := List.map_inj_left.mp c2 T hT
  obtain ⟨fd, F⟩ := fdB_ok ew f1
  exact ⟨_, fd, F, atB_ok X G f2⟩
/-! ### the Hook -/
/-- the part of the heap that the names reach, without lists -/
def isLst (o : Obj) : Bool := decide (o.cls = .type "list")
def frQ (g : Addr → Option Obj) (as : List Addr) : PySem.W.Frag := as.filterMap fun a => match g a with
  | some o => if isLst o then none else some (a, o)
  | none => none
theorem frQ_at {g : Addr → Option Obj} {a : Addr} {o : Obj} : ∀ as : List Addr, (frQ g as).lookup a = some o → g a = some o ∧ isLst o = false
  | [], e => nomatch (show (none : Option Obj) = some o from e)
  | b :: r, e => by
    unfold frQ at e
    rw [List.filterMap_cons] at e
    cases hb : g b with
    | none =>
      simp only [hb] at e
      exact frQ_at r e
    | some ob =>
      simp only [hb] at e
      cases hl : isLst ob with
      | true =>
        simp only [hl, if_true] at e
        exact frQ_at r e
      | false =>
        simp only [hl, Bool.false_eq_true, if_false] at e
        cases q : (a == b) with
        | true =>
          simp only [List.lookup, q, Option.some.injEq] at e
          rw [beq_iff_eq.mp q, hb, e]
          rw [e] at hl
          exact ⟨rfl, hl⟩
        | false =>
          simp only [List.lookup, q] at e
          exact frQ_at r e
def asH (g : Addr → Option Obj) : Nat → List Addr
  | 0 => [mainGlobals, PySem.cStatics]
  | n + 1 => He.growD g (asH g n)
def obsQG (n : Nat) (cn : List Str) (TT : List TD) (fr : List Str) (gb : List (Str × D)) (kl : Kl) (g : Addr → Option Obj) : AlQ := obsQ (frQ g (asH g n)) cn TT fr gb kl
def hookQ (n : Nat) (cn : List Str) (TT : List TD) (fr : List Str) (gb : List (Str × D)) (kl : Kl) : PySem.W.Hook where
  α := AlQ
  obs := fun s => obsQG n cn TT fr gb kl s.heap.get?
  val := fun _ => valQ TT
  says := fun _ h => ∃ K : PySem.W.Frag, K.In h ∧ (∀ a o, K.lookup a = some o → o.cls ≠ .type "list") ∧ obsQ K cn TT fr gb kl = valQ TT
  of := fun _ s e => ⟨_, fun a o q => (frQ_at _ q).1, fun a o q z => by
    have := (frQ_at _ q).2
    unfold isLst at this
    rw [z] at this
    simp at this, e⟩
  keeps := fun _ _ _ ⟨K, hK, c⟩ k => ⟨K, PySem.W.Frag.In.keeps hK k, c⟩
theorem obsQG_eq {n : Nat} {cn : List Str} {TT : List TD} {fr : List Str} {gb : List (Str × D)} {kl : Kl} {g : Addr → Option Obj} {s : Shared} (h : ∀ a, g a = s.heap.get? a) : obsQG n cn TT fr gb kl g = (hookQ n cn TT fr gb kl).obs s := by
  have e : g = s.heap.get? := funext h
  rw [e] <;> rfl
end TM
set_option maxHeartbeats 1000000
/-! TM, part U: the evaluator's steps, as equations. -/
namespace TM
open PySem PySem.Spec PyProof.Rows L2
section
variable {st : Store}
theorem opD_add {a b : Int} : opD .Add (.int a) (.int b) st = .ok (.int (a + b)) st := rfl
theorem opD_sub {a b : Int} : opD .Sub (.int a) (.int b) st = .ok (.int (a - b)) st := rfl
theorem opD_mul {a b : Int} (h : a.natAbs.log2 + b.natAbs.log2 < 1000000) : opD .Mult (.int a) (.int b) st = .ok (.int (a * b)) st := by
  show (if _ then _ else _) = _
  rw [if_pos h]
theorem opD_mod {a b : Int} (h : b ≠ 0) : opD .Mod (.int a) (.int b) st = .ok (.int (a.fmod b)) st := by
  show (if _ then _ else _) = _
  rw [if_pos h]
theorem opD_fdiv {a b : Int} (h : b ≠ 0) (h2 : b.natAbs < 1073741824) : opD .FloorDiv (.int a) (.int b) st = .ok (.int (a.fdiv b)) st := by
  show (if _ then _ else _) = _
  rw [if_pos ⟨h, h2⟩]
theorem opD_pow {a b : Int} (h : 0 ≤ b) (h2 : (Builtin.Int.intBits a : Int) * b ≤ 2 ^ 27) : opD .Pow (.int a) (.int b) st = .ok (.int (a ^ b.toNat)) st := by
  show (if _ then _ else _) = _
  rw [if_pos ⟨h, h2⟩]
theorem opD_str {a b : Str} (h : a.length + b.length ≤ sizeLine) : opD .Add (.str a) (.str b) st = .ok (.str (a ++ b)) st := by
  show (if _ then _ else _) = _
  rw [if_pos h]
theorem opD_lst {a b : List D} (h : a.length + b.length ≤ sizeLine) : opD .Add (.lst a) (.lst b) st = .ok (.lst (a ++ b)) st := by
  show (if _ then _ else _) = _
  rw [if_pos h]
theorem then_of {α : Type} {r : Res α} {a : α} {st' : Store} (h : r = .ok a st') (f : α → Store → RS) : r.then f = f a st' := by rw [h]; rfl
theorem bind_of {α β : Type} {r : Res α} {a : α} {st' : Store} (h : r = .ok a st') (f : α → Store → Res β) : r.bind f = f a st' := by rw [h]; rfl
theorem bits_lt {b : Int} {k : Nat} (h0 : 0 ≤ b) (h : b < 2 ^ k) : Builtin.Int.intBits b ≤ k := by
  unfold Builtin.Int.intBits
  split
  · omega
  · rename_i hb
    have hb' : b.natAbs ≠ 0 := by simpa using hb
    have h2 : b.natAbs < 2 ^ k := by
      have : (b.natAbs : Int) < 2 ^ k := by rw [Int.natAbs_of_nonneg h0]; exact h
      exact_mod_cast this
    have := (Nat.log2_lt hb').mpr h2
    omega
theorem fmod_in {a m : Int} (h : 0 < m) : 0 ≤ a.fmod m ∧ a.fmod m < m := ⟨Int.fmod_nonneg_of_pos a h, Int.fmod_lt_of_pos a h⟩
theorem log_small {a : Int} (h0 : 0 ≤ a) (h : a < 4294967296) : a.natAbs.log2 < 32 := by
  by_cases z : a.natAbs = 0
  · rw [z]; decide
  · exact (Nat.log2_lt z).mpr (by omega)
theorem lst_at {n : Nat} {xs : List D} (e : st[n]? = some (.lst xs)) : lstAt st n = some xs := by unfold lstAt; rw [e]
end
section
variable {cl : Nat → List D → Store → Res D} {sl : Slots} {st : Store}
@[simp] theorem x_var {i : Nat} : evE cl (.var i) sl st = (match sl[i]? with
    | some (some d) => .ok d st
    | _ => .stuck : Res D) := rfl
@[simp] theorem x_non : evE cl .non sl st = .ok .non st := rfl
@[simp] theorem x_bl {b : Bool} : evE cl (.bl b) sl st = .ok (.bl b) st := rfl
@[simp] theorem x_int {b : Int} : evE cl (.int b) sl st = .ok (.int b) st := rfl
@[simp] theorem x_str {b : Str} : evE cl (.str b) sl st = .ok (.str b) st := rfl
@[simp] theorem x_glob {x : Str} {d : D} : evE cl (.glob x d) sl st = .ok d st := rfl
@[simp] theorem x_op {o : Operator} {a b : CE} : evE cl (.op o a b) sl st = (evE cl a sl st).bind fun x st1 => (evE cl b sl st1).bind fun y st2 => opD o x y st2 := rfl
@[simp] theorem x_not {a : CE} : evE cl (.not_ a) sl st = (evE cl a sl st).bind fun x st1 => (match truth x st1 with
    | some b => .ok (.bl (!b)) st1
    | none => .stuck : Res D) := rfl
@[simp] theorem x_and {a b : CE} : evE cl (.and_ a b) sl st = (evE cl a sl st).bind fun x st1 => (match truth x st1 with
    | some true => evE cl b sl st1
    | some false => .ok x st1
    | none => .stuck : Res D) := rfl
@[simp] theorem x_or {a b : CE} : evE cl (.or_ a b) sl st = (evE cl a sl st).bind fun x st1 => (match truth x st1 with
    | some true => .ok x st1
    | some false => evE cl b sl st1
    | none => .stuck : Res D) := rfl
@[simp] theorem x_ife {t a b : CE} : evE cl (.ife t a b) sl st = (evE cl t sl st).bind fun x st1 => (match truth x st1 with
    | some true => evE cl a sl st1
    | some false => evE cl b sl st1
    | none => .stuck : Res D) := rfl
@[simp] theorem x_cmp {o : CmpOp} {a b : CE} : evE cl (.cmp o a b) sl st = (evE cl a sl st).bind fun x st1 => (evE cl b sl st1).bind fun y st2 => ofO ((cmpD o x y st2).map .bl) st2 := rfl
@[simp] theorem x_isin {a : CE} {ts : List Ty} : evE cl (.isin a ts) sl st = (evE cl a sl st).bind fun x st1 => ofO ((isinD x ts st1).map .bl) st1 := rfl
@[simp] theorem x_tup {es : List CE} : evE cl (.tup es) sl st = (evEs cl es sl st).bind fun ds st1 => if ds.length ≤ sizeLine then .ok (.tup ds) st1 else .stuck := rfl
@[simp] theorem x_lst {mt : Bool} {es : List CE} : evE cl (.lst mt es) sl st = (evEs cl es sl st).bind fun ds st1 => if ds.length ≤ sizeLine then mkL mt ds st1 else .stuck := rfl
@[simp] theorem x_dct0 {mt : Bool} : evE cl (.dct mt []) sl st = mkK mt [] st := rfl
@[simp] theorem x_idx {a b : CE} : evE cl (.idx a b) sl st = (evE cl a sl st).bind fun x st1 => (evE cl b sl st1).bind fun y st2 => ofO (idxD x y st2) st2 := rfl
@[simp] theorem x_slx {a b : CE} : evE cl (.slx a b) sl st = (evE cl a sl st).bind fun x st1 => (evE cl b sl st1).bind fun k st2 => (match asL x st2, k with
    | some xs, .int 1 => .ok (.lst xs) st2
    | some xs, .int (-1) => .ok (.lst xs.reverse) st2
    | _, _ => .stuck : Res D) := rfl
@[simp] theorem x_call {f : Nat} {x : Str} {es : List CE} : evE cl (.call f x es) sl st = (evEs cl es sl st).bind fun ds st1 => cl f ds st1 := rfl
@[simp] theorem x_callK {f : Nat} {x : Str} {ks : List Str} {es ls : List CE} {pm : List Nat} : evE cl (.callK f x ks es ls pm) sl st = (evEs cl es sl st).bind fun ds st1 => (evEs cl ls sl st1).bind fun zs st2 => (match permA (ds ++ zs) pm with
    | some vs => cl f vs st2
    | none => .stuck : Res D) := rfl
@[simp] theorem x_bi {b : Bi} {es : List CE} : evE cl (.bi b es) sl st = (evEs cl es sl st).bind fun ds st1 => biD b ds st1 := rfl
@[simp] theorem x_frz {a : CE} : evE cl (.frz a) sl st = (evE cl a sl st).bind fun x st1 => frzD x st1 := rfl
@[simp] theorem x_nil : evEs cl [] sl st = .ok [] st := rfl
@[simp] theorem x_cons {e : CE} {es : List CE} : evEs cl (e :: es) sl st = (evE cl e sl st).bind fun d st1 => (evEs cl es sl st1).bind fun ds st2 => .ok (d :: ds) st2 := rfl
@[simp] theorem x_ie {a : CE} : evI cl (.e a) sl st = (evE cl a sl st).bind fun x st1 => ofO (itD x st1) st1 := rfl
@[simp] theorem x_irng {es : List CE} : evI cl (.rng es) sl st = (evEs cl es sl st).bind fun ds st1 => ofO ((rngD ds).map fun xs => ⟨none, xs⟩) st1 := rfl
@[simp] theorem x_asg {t : CT} {e : CE} : evS cl (.asg t e) sl st = (evE cl e sl st).then fun d st1 => (match asgT t d sl with
    | some sl' => .next sl' st1
    | none => .stuck : RS) := rfl
@[simp] theorem x_asgLc {i : Nat} {e : CE} : evS cl (.asgLc i e) sl st = (evE cl e sl st).then fun d st1 => set1 i d sl st1 := rfl
@[simp] theorem x_setI {o i e : CE} : evS cl (.setI o i e) sl st = (evE cl e sl st).then fun v st1 => (evE cl o sl st1).then fun x st2 => (evE cl i sl st2).then fun y st3 => (match setID x y v st3 with
    | some st4 => .next sl st4
    | none => .stuck : RS) := rfl
@[simp] theorem x_ex {e : CE} : evS cl (.ex e) sl st = (evE cl e sl st).then fun _ st1 => .next sl st1 := rfl
@[simp] theorem x_iff {t : CE} {a b : List CS} : evS cl (.iff t a b) sl st = (tru (evE cl t) sl st).then fun c st1 => if c then evSs cl a sl st1 else evSs cl b sl st1 := rfl
@[simp] theorem x_ret {e : CE} : evS cl (.ret e) sl st = (evE cl e sl st).then fun d st1 => .ret d st1 := rfl
@[simp] theorem x_tru {e : CE} : tru (evE cl e) sl st = (evE cl e sl st).bind fun x st1 => ofO (truth x st1) st1 := rfl
@[simp] theorem x_snil : evSs cl [] sl st = .next sl st := rfl
theorem x_scons {s : CS} {r : List CS} : evSs cl (s :: r) sl st = (match evS cl s sl st with
    | .next sl' st' => evSs cl r sl' st'
    | .ret d st' => .ret d st'
    | .brk sl' st' => .brk sl' st'
    | .cnt sl' st' => .cnt sl' st'
    | .exc C fs st' => .exc C fs st'
    | .stuck => .stuck : RS) := rfl
@[simp] theorem x_fit {n : Nat} {α : Type} {a b : α} (h : n ≤ 1000) : (if n ≤ sizeLine then a else b) = a := if_pos (by rw [sizeLine_eq]; omega)
end
section
variable {st : Store}
theorem evSs_cons {cl : Nat → List D → Store → Res D} {s : CS} {r : List CS} {sl : Slots} {sl' : Slots} {st' : Store} (h : evS cl s sl st = .next sl' st') : evSs cl (s :: r) sl st = evSs cl r sl' st' := by
  simp only [evSs]
  rw [h]
theorem evSs_ret {cl : Nat → List D → Store → Res D} {s : CS} {r : List CS} {sl : Slots} {d : D} {st' : Store} (h : evS cl s sl st = .ret d st') : evSs cl (s :: r) sl st = .ret d st' := by
  simp only [evSs]
  rw [h]
end
theorem evCall_at {FT : List FD} {k f : Nat} {F : FD} {ds : List D} {st : Store} (e : FT[f]? = some F) (h : ds.length = F.np) : evCall FT (k + 1) f ds st = endS (evSs (evCall FT k) F.body (slots0 F.nn ds) st) := by
  rw [evCall, e]
  dsimp only
  rw [if_pos h]
theorem evE_lc {cl : Nat → List D → Store → Res D} {mt : Bool} {own : List (Str × Nat)} {t : CT} {it : CI} {ifs : List CE} {e : CE} {sl : Slots} {st : Store} :
    evE cl (.lc mt own t it ifs e) sl st = (evI cl it sl st).bind fun J st1 => (lcLoop J.src (lcF (evTs cl ifs) (evE cl e) t (own.map (·.2)) sl) J.items [] st1).bind fun vs st2 => mkL mt vs st2 := rfl
theorem evS_for {cl : Nat → List D → Store → Res D} {t : CT} {it : CI} {b : List CS} {sl : Slots} {st : Store} :
    evS cl (.for_ t it b) sl st = (evI cl it sl st).then fun J st1 => forLoop J.src (frF t (evSs cl b)) J.items sl st1 := rfl
theorem wipeD_len {sl : Slots} : ∀ {vs : List Nat}, (wipeD sl vs).length = sl.length
  | [] => rfl
  | v :: vs => by rw [wipeD, List.length_set, wipeD_len]
theorem lcF_name {cl : Nat → List D → Store → Res D} {eve : Ev} {i : Nat} {vs : List Nat} {sl : Slots} {d : D} {st : Store} (h : i < sl.length) :
    lcF (evTs cl []) eve (.name i) vs sl d st = (eve ((wipeD sl vs).set i (some d)) st).bind fun v st3 => .ok (some v) st3 := by
  rw [lcF_some (sl' := (wipeD sl vs).set i (some d)) (by rw [asgT, if_pos (by rw [wipeD_len]; exact h)])]
  rfl
theorem lc_walk {f : D → Store → Res (Option D)} {src : Option (Nat × List D)} {P : Store → Prop} {Q : D → D → Prop} (hsrc : ∀ st, P st → srcOk src st = true) : ∀ (items : List D) (acc : List D) (st : Store), (∀ d ∈ items, ∀ st, P st → ∃ v st', f d st = .ok (some v) st' ∧ P st' ∧ Q d v) → P st → acc.length + items.length ≤ sizeLine →
    ∃ vs st', lcLoop src f items acc st = .ok (acc ++ vs) st' ∧ P st' ∧ vs.length = items.length ∧ Paired Q items vs
  | [], acc, st, h, p, _ => ⟨[], st, by rw [lcLoop, if_pos (hsrc st p), List.append_nil], p, rfl, .nil⟩
  | d :: r, acc, st, h, p, hl => by
    obtain ⟨v, st1, e1, p1, q1⟩ := h d List.mem_cons_self st p
    rw [List.length_cons] at hl
    obtain ⟨vs, st2, e2, p2, l2, q2⟩ := lc_walk hsrc r (acc ++ [v]) st1 (fun d hd => h d (List.mem_cons_of_mem _ hd)) p1 (by rw [List.length_append, List.length_singleton]; omega)
    refine ⟨v :: vs, st2, ?_, p2, by rw [List.length_cons, List.length_cons, l2], .cons q1 q2⟩
    rw [lcLoop, if_pos (hsrc st p), e1]
    dsimp only
    rw [if_pos (by omega), e2, List.append_assoc]
    rfl
theorem for_walk {f : D → Slots → Store → RS} {src : Option (Nat × List D)} {P : Slots → Store → Prop} (hsrc : ∀ sl st, P sl st → srcOk src st = true) : ∀ (items : List D) (sl : Slots) (st : Store), (∀ d ∈ items, ∀ sl st, P sl st → ∃ sl' st', f d sl st = .next sl' st' ∧ P sl' st') → P sl st →
    ∃ sl' st', forLoop src f items sl st = .next sl' st' ∧ P sl' st'
  | [], sl, st, h, p => ⟨sl, st, by rw [forLoop, if_pos (hsrc sl st p)], p⟩
  | d :: r, sl, st, h, p => by
    obtain ⟨sl1, st1, e1, p1⟩ := h d List.mem_cons_self sl st p
    obtain ⟨sl2, st2, e2, p2⟩ := for_walk hsrc r sl1 st1 (fun d hd => h d (List.mem_cons_of_mem _ hd)) p1
    exact ⟨sl2, st2, by rw [forLoop, if_pos (hsrc sl st p), e1]; exact e2, p2⟩
theorem rngD_ok {z : Nat} (hz : z ≤ 1000000) : rngD [.int z] = some ((List.range z).map fun (i : Nat) => D.int (0 + (i : Int))) := by
  unfold rngD
  dsimp only
  have h : -(2 ^ 62) ≤ (z : Int) ∧ (z : Int) < 2 ^ 62 := ⟨by omega, by omega⟩
  rw [if_pos h]
  rfl
theorem evI_rng {cl : Nat → List D → Store → Res D} {a : CE} {sl : Slots} {st st' : Store} {z : Nat} (hz : z ≤ 1000000) (h : evE cl a sl st = .ok (.int z) st') :
    evI cl (.rng [a]) sl st = .ok ⟨none, (List.range z).map fun (i : Nat) => D.int (0 + (i : Int))⟩ st' := by
  rw [x_irng, x_cons, h, Res.bind_ok, x_nil, Res.bind_ok, Res.bind_ok, rngD_ok hz]
  rfl
theorem evE_join {cl : Nat → List D → Store → Res D} {a : Str} {e : CE} {sl : Slots} {st st' : Store} {d : D} {ys : List Str} (h : evE cl e sl st = .ok d st') (hs : (asQ d st').bind strsOf = some ys) (hz : (ys.map (·.length)).sum + ys.length * a.length ≤ 16777216) :
    evE cl (.me .join (.str a) [e]) sl st = .ok (.str (Txt.join a ys)) st' := by
  have e1 : evE cl (.me .join (.str a) [e]) sl st = (evE cl e sl st).bind fun d st1 => (Res.ok (α := List D) [d] st1).bind fun ds st2 => meD .join (.str a) ds st2 := by
    show (((evE cl e sl st).bind fun d st1 => (Res.ok (α := List D) [] st1).bind fun ds st2 => .ok (d :: ds) st2).bind fun ds st2 => meD .join (.str a) ds st2) = _
    rw [bind_assoc]
    rfl
  rw [e1, h, Res.bind_ok, Res.bind_ok]
  unfold meD
  dsimp only
  rw [hs]
  dsimp only
  rw [if_pos hz]
theorem atI_of {α : Type} {xs : List α} {r : Int} (h0 : 0 ≤ r) (h1 : r < xs.length) : ∃ x ∈ xs, atI xs r = some x := by
  refine ⟨xs[r.toNat]'(by omega), List.getElem_mem _, ?_⟩
  unfold atI ixN
  first
    | simp [h0, h1, show ¬ r < 0 by omega]
    | (rw [if_neg (show ¬ r < 0 by omega)]; simp [h0, h1])
theorem mem_joinL {c : Nat} {S : List Nat} : ∀ {ps : List (List Nat)}, c ∈ TL.joinL S ps → c ∈ S ∨ ∃ p ∈ ps, c ∈ p
  | [], h => by simp [TL.joinL] at h
  | [p], h => .inr ⟨p, List.mem_singleton.mpr rfl, h⟩
  | p :: q :: r, h => by
    rw [TL.joinL, List.mem_append, List.mem_append] at h
    rcases h with h | h | h
    · exact .inr ⟨p, List.mem_cons_self, h⟩
    · exact .inl h
    · rcases mem_joinL h with h | ⟨x, hx, h⟩
      · exact .inl h
      · exact .inr ⟨x, List.mem_cons_of_mem _ hx, h⟩
theorem mem_join {c : Nat} {y : Str} {ps : List Str} (h : c ∈ (Txt.join y ps).cps.toList) : c ∈ y.cps.toList ∨ ∃ p ∈ ps, c ∈ p.cps.toList := by
  rw [TL.join_eq] at h
  have e := TL.tl_join y ps
  have h' : c ∈ TL.joinL (TL.tl y) (ps.map TL.tl) := by rw [← e]; exact h
  rcases mem_joinL h' with h | ⟨x, hx, h⟩
  · exact .inl h
  · obtain ⟨p, hp, rfl⟩ := List.mem_map.mp hx
    exact .inr ⟨p, hp, h⟩
theorem len_join {y : Str} {ps : List Str} : (Txt.join y ps).length = (ps.map (·.length)).sum + (ps.length - 1) * y.length := size_glued y ps
/-- the other cells stay, more may come -/
structure Fr (n : Nat) (st st' : Store) : Prop where
  len : st.length ≤ st'.length
  keep : ∀ m, m ≠ n → m < st.length → st'[m]? = st[m]?
theorem Fr.refl (n : Nat) (st : Store) : Fr n st st := ⟨Nat.le_refl _, fun _ _ _ => rfl⟩
theorem Fr.trans {n : Nat} {a b c : Store} (h : Fr n a b) (h' : Fr n b c) : Fr n a c := ⟨Nat.le_trans h.len h'.len, fun m h1 h2 => (h'.keep m h1 (Nat.lt_of_lt_of_le h2 h.len)).trans (h.keep m h1 h2)⟩
/-- a stream's cell -/
def SS (st : Store) (n : Nat) : Prop := ∃ a b : Int, st[n]? = some (.lst [.int a, .int b]) ∧ 0 ≤ a ∧ 0 ≤ b ∧ b < 4294967296
end TM
set_option maxHeartbeats 1000000
/-! TM, part W: runs that only add cells to the store, put together. -/
namespace TM
open PySem PySem.Spec PyProof.Rows L2
section
variable (cl : Nat → List D → Store → Res D)
def Rn (e : CE) (sl : Slots) (d : D) : Prop := ∀ st, ∃ ex, evE cl e sl st = .ok d (st ++ ex)
def Rns (es : List CE) (sl : Slots) (ds : List D) : Prop := ∀ st, ∃ ex, evEs cl es sl st = .ok ds (st ++ ex)
def Ri (it : CI) (sl : Slots) (ds : List D) : Prop := ∀ st, ∃ ex, evI cl it sl st = .ok ⟨none, ds⟩ (st ++ ex)
def Ro (o : CO) (sl : Slots) (r : Option Int) : Prop := ∀ st, ∃ ex, evO cl o sl st = .ok r (st ++ ex)
def Rc (f : Nat) (ds : List D) (d : D) : Prop := ∀ st, ∃ ex, cl f ds st = .ok d (st ++ ex)
def Sn (s : CS) (sl sl' : Slots) : Prop := ∀ st, ∃ ex, evS cl s sl st = .next sl' (st ++ ex)
def Sr (s : CS) (sl : Slots) (d : D) : Prop := ∀ st, ∃ ex, evS cl s sl st = .ret d (st ++ ex)
def Bn (ss : List CS) (sl sl' : Slots) : Prop := ∀ st, ∃ ex, evSs cl ss sl st = .next sl' (st ++ ex)
def Br (ss : List CS) (sl : Slots) (d : D) : Prop := ∀ st, ∃ ex, evSs cl ss sl st = .ret d (st ++ ex)
end
section
variable {cl : Nat → List D → Store → Res D} {sl sl' : Slots} {a b c e : CE} {es : List CE} {ds : List D} {x y z d : D}
theorem r_of (h : ∀ st, evE cl e sl st = .ok d st) : Rn cl e sl d := fun st => ⟨[], by rw [h, List.append_nil]⟩
theorem r_var {i : Nat} (h : sl[i]? = some (some d)) : Rn cl (.var i) sl d := r_of fun st => by rw [x_var, h]
theorem r_int {i : Int} : Rn cl (.int i) sl (.int i) := r_of fun _ => rfl
theorem r_str {i : Str} : Rn cl (.str i) sl (.str i) := r_of fun _ => rfl
theorem r_bl {i : Bool} : Rn cl (.bl i) sl (.bl i) := r_of fun _ => rfl
theorem r_bind {α : Type} {r : Store → Res D} {f : D → Store → Res α} {v : α} (h1 : ∀ st, ∃ ex, r st = .ok x (st ++ ex)) (h2 : ∀ st, ∃ ex, f x st = .ok v (st ++ ex)) : ∀ st, ∃ ex, (r st).bind f = .ok v (st ++ ex) := fun st => by
  obtain ⟨e1, h1⟩ := h1 st
  obtain ⟨e2, h2⟩ := h2 (st ++ e1)
  exact ⟨e1 ++ e2, by rw [h1, Res.bind_ok, h2, List.append_assoc]⟩
theorem r_bindL {α : Type} {r : Store → Res (List D)} {f : List D → Store → Res α} {v : α} {xs : List D} (h1 : ∀ st, ∃ ex, r st = .ok xs (st ++ ex)) (h2 : ∀ st, ∃ ex, f xs st = .ok v (st ++ ex)) : ∀ st, ∃ ex, (r st).bind f = .ok v (st ++ ex) := fun st => by
  obtain ⟨e1, h1⟩ := h1 st
  obtain ⟨e2, h2⟩ := h2 (st ++ e1)
  exact ⟨e1 ++ e2, by rw [h1, Res.bind_ok, h2, List.append_assoc]⟩
theorem r_ok {α : Type} {r : Store → Res α} {v : α} (h : ∀ st, r st = .ok v st) : ∀ st, ∃ ex, r st = .ok v (st ++ ex) := fun st => ⟨[], by rw [h, List.append_nil]⟩
theorem r_op {o : Operator} (h1 : Rn cl a sl x) (h2 : Rn cl b sl y) (h : ∀ st, opD o x y st = .ok z st) : Rn cl (.op o a b) sl z :=
  r_bind (f := fun x st1 => (evE cl b sl st1).bind fun y st2 => opD o x y st2) h1 (r_bind h2 (r_ok h))
theorem r_cmp {o : CmpOp} {k : Bool} (h1 : Rn cl a sl x) (h2 : Rn cl b sl y) (h : ∀ st, cmpD o x y st = some k) : Rn cl (.cmp o a b) sl (.bl k) :=
  r_bind (f := fun x st1 => (evE cl b sl st1).bind fun y st2 => ofO ((cmpD o x y st2).map D.bl) st2) h1 (r_bind h2 (r_ok fun st => by rw [h]; rfl))
theorem r_idx (h1 : Rn cl a sl x) (h2 : Rn cl b sl y) (h : ∀ st, idxD x y st = some z) : Rn cl (.idx a b) sl z :=
  r_bind (f := fun x st1 => (evE cl b sl st1).bind fun y st2 => ofO (idxD x y st2) st2) h1 (r_bind h2 (r_ok fun st => by rw [h]; rfl))
theorem ro_none : Ro cl .none sl none := fun st => ⟨[], by rw [List.append_nil]; rfl⟩
theorem ro_some {i : Int} (h : Rn cl a sl (.int i)) : Ro cl (.some a) sl (some i) := r_bind (f := fun x st1 => (match x with
    | .int i => .ok (some i) st1
    | _ => .stuck : Res (Option Int))) h (r_ok fun _ => rfl)
theorem r_sl {lo hi : CO} {l h' : Option Int} (h1 : Rn cl a sl x) (h2 : Ro cl lo sl l) (h3 : Ro cl hi sl h') (h : ∀ st, slD x l h' st = some z) : Rn cl (.sl a lo hi) sl z := by
  have k : ∀ st, ∃ ex, ((evO cl hi sl st).bind fun h st3 => ofO (slD x l h st3) st3) = .ok z (st ++ ex) := fun st => by
    obtain ⟨e1, q⟩ := h3 st
    exact ⟨e1, by rw [q, Res.bind_ok, h]; rfl⟩
  have k2 : ∀ st, ∃ ex, ((evO cl lo sl st).bind fun l st2 => (evO cl hi sl st2).bind fun h st3 => ofO (slD x l h st3) st3) = .ok z (st ++ ex) := fun st => by
    obtain ⟨e1, q⟩ := h2 st
    obtain ⟨e2, q2⟩ := k (st ++ e1)
    exact ⟨e1 ++ e2, by rw [q, Res.bind_ok, q2, List.append_assoc]⟩
  exact r_bind (f := fun x st1 => (evO cl lo sl st1).bind fun l st2 => (evO cl hi sl st2).bind fun h st3 => ofO (slD x l h st3) st3) h1 k2
theorem rs_nil : Rns cl [] sl [] := fun st => ⟨[], by rw [List.append_nil]; rfl⟩
theorem rs_cons (h1 : Rn cl a sl x) (h2 : Rns cl es sl ds) : Rns cl (a :: es) sl (x :: ds) :=
  r_bind (f := fun d st1 => (evEs cl es sl st1).bind fun ds st2 => Res.ok (d :: ds) st2) h1 (r_bindL h2 (r_ok fun _ => rfl))
theorem r_tup (h : Rns cl es sl ds) (hl : ds.length ≤ 1000) : Rn cl (.tup es) sl (.tup ds) :=
  r_bindL (f := fun ds st1 => if ds.length ≤ sizeLine then Res.ok (D.tup ds) st1 else Res.stuck) h (r_ok fun st => if_pos (by rw [sizeLine_eq]; omega))
theorem r_lst (h : Rns cl es sl ds) (hl : ds.length ≤ 1000) : Rn cl (.lst false es) sl (.lst ds) :=
  r_bindL (f := fun ds st1 => if ds.length ≤ sizeLine then mkL false ds st1 else .stuck) h (r_ok fun st => if_pos (by rw [sizeLine_eq]; omega))
theorem r_bi {f : Bi} (h : Rns cl es sl ds) (h2 : ∀ st, biD f ds st = .ok z st) : Rn cl (.bi f es) sl z := r_bindL (f := fun ds st1 => biD f ds st1) h (r_ok h2)
theorem r_call {f : Nat} {nm : Str} (h : Rns cl es sl ds) (h2 : Rc cl f ds z) : Rn cl (.call f nm es) sl z := r_bindL (f := fun ds st1 => cl f ds st1) h h2
theorem r_callK {f : Nat} {nm : Str} {ks : List Str} {ls : List CE} {zs vs : List D} {pm : List Nat} (h : Rns cl es sl ds) (h1 : Rns cl ls sl zs) (hp : permA (ds ++ zs) pm = some vs) (h2 : Rc cl f vs z) : Rn cl (.callK f nm ks es ls pm) sl z :=
  r_bindL (f := fun ds st1 => (evEs cl ls sl st1).bind fun zs st2 => (match permA (ds ++ zs) pm with
    | some vs => cl f vs st2
    | none => .stuck : Res D)) h (r_bindL h1 fun st => by rw [hp]; exact h2 st)
theorem r_ife {k : Bool} (h1 : Rn cl c sl x) (h2 : ∀ st, truth x st = some k) (h : Rn cl (if k then a else b) sl z) : Rn cl (.ife c a b) sl z :=
  r_bind (f := fun x st1 => (match truth x st1 with
    | some true => evE cl a sl st1
    | some false => evE cl b sl st1
    | none => .stuck : Res D)) h1 fun st => by
    rw [h2]
    cases k <;> exact h st
theorem r_and {k : Bool} (h1 : Rn cl a sl x) (h2 : ∀ st, truth x st = some k) (h : k = true → Rn cl b sl z) (h' : k = false → z = x) : Rn cl (.and_ a b) sl z :=
  r_bind (f := fun x st1 => (match truth x st1 with
    | some true => evE cl b sl st1
    | some false => .ok x st1
    | none => .stuck : Res D)) h1 fun st => by
    rw [h2]
    cases k with
    | true => exact h rfl st
    | false => exact ⟨[], by rw [h' rfl, List.append_nil]⟩
theorem r_or {k : Bool} (h1 : Rn cl a sl x) (h2 : ∀ st, truth x st = some k) (h : k = false → Rn cl b sl z) (h' : k = true → z = x) : Rn cl (.or_ a b) sl z :=
  r_bind (f := fun x st1 => (match truth x st1 with
    | some true => .ok x st1
    | some false => evE cl b sl st1
    | none => .stuck : Res D)) h1 fun st => by
    rw [h2]
    cases k with
    | false => exact h rfl st
    | true => exact ⟨[], by rw [h' rfl, List.append_nil]⟩
theorem r_not {k : Bool} (h1 : Rn cl a sl x) (h2 : ∀ st, truth x st = some k) : Rn cl (.not_ a) sl (.bl (!k)) :=
  r_bind (f := fun x st1 => (match truth x st1 with
    | some b => .ok (.bl (!b)) st1
    | none => .stuck : Res D)) h1 (r_ok fun st => by rw [h2])
theorem r_isin {ts : List Ty} {k : Bool} (h1 : Rn cl a sl x) (h2 : ∀ st, isinD x ts st = some k) : Rn cl (.isin a ts) sl (.bl k) :=
  r_bind (f := fun x st1 => ofO ((isinD x ts st1).map D.bl) st1) h1 (r_ok fun st => by rw [h2]; rfl)
theorem r_lenum {xs : List D} (h : Rn cl a sl (.tup xs)) : Rn cl (.lenum a) sl (.lst (enumFrom 0 xs)) := r_bind (f := fun x st1 => (match x with
    | .tup xs => .ok (.lst (enumFrom 0 xs)) st1
    | _ => .stuck : Res D)) h (r_ok fun _ => rfl)
theorem r_slx {xs : List D} (h : Rn cl a sl (.lst xs)) : Rn cl (.slx a (.int (-1))) sl (.lst xs.reverse) := fun st => by
  obtain ⟨ex, q⟩ := h st
  exact ⟨ex, by rw [x_slx, q, Res.bind_ok, x_int, Res.bind_ok]; rfl⟩
/-! what is walked -/
theorem ri_e (h : Rn cl a sl x) (h2 : ∀ st, itD x st = some ⟨none, ds⟩) : Ri cl (.e a) sl ds := r_bind (f := fun x st1 => ofO (itD x st1) st1) h (r_ok fun st => by rw [h2]; rfl)
theorem ri_tup {xs : List D} (h : Rn cl a sl (.tup xs)) : Ri cl (.e a) sl xs := ri_e h fun _ => rfl
theorem ri_lst {xs : List D} (h : Rn cl a sl (.lst xs)) : Ri cl (.e a) sl xs := ri_e h fun _ => rfl
theorem ri_zip' {xs ys : List D} {x y : D} (h : Rn cl a sl x) (h2 : Rn cl b sl y) (e1 : sqD x = some xs) (e2 : sqD y = some ys) : Ri cl (.zip a b) sl (zipD xs ys) :=
  r_bind (f := fun x st1 => (evE cl b sl st1).bind fun y st2 => (match sqD x, sqD y with
    | some xs, some ys => .ok ⟨none, zipD xs ys⟩ st2
    | _, _ => .stuck : Res Itr)) h (r_bind h2 (r_ok fun _ => by rw [e1, e2]))
theorem ri_zip {xs ys : List D} (h : Rn cl a sl (.tup xs)) (h2 : Rn cl b sl (.tup ys)) : Ri cl (.zip a b) sl (zipD xs ys) := ri_zip' h h2 rfl rfl
theorem ri_enum {xs : List D} {x : D} (h : Rn cl a sl x) (e1 : sqD x = some xs) : Ri cl (.enum a) sl (enumFrom 0 xs) :=
  r_bind (f := fun x st1 => (match asQ x st1 with
    | some xs => .ok ⟨srcD x xs, enumFrom 0 xs⟩ st1
    | none => .stuck : Res Itr)) h (r_ok fun st => by
      obtain ⟨q1, q2⟩ := sqD_asQ e1 st
      rw [q1]
      show Res.ok (⟨srcD x xs, enumFrom 0 xs⟩ : Itr) st = _
      rw [q2])
/-! comprehensions -/
theorem evE_dc {mt : Bool} {own : List (Str × Nat)} {t : CT} {it : CI} {ifs : List CE} {k v : CE} {st : Store} :
    evE cl (.dc mt own t it ifs k v) sl st = (evI cl it sl st).bind fun J st1 => (dcLoop J.src (dcF (evTs cl ifs) (evE cl k) (evE cl v) t (own.map (·.2)) sl) J.items [] st1).bind fun vs st2 => mkK mt vs st2 := rfl
theorem lc_loop {vs : List Nat} {t : CT} : ∀ {ds ys : List D} {acc : List D}, Paired (fun d v => ∃ sl', asgT t d (wipeD sl vs) = some sl' ∧ Rn cl e sl' v) ds ys → acc.length + ds.length ≤ 100000 → ∀ st, ∃ ex, lcLoop none (lcF (evTs cl []) (evE cl e) t vs sl) ds acc st = .ok (acc ++ ys) (st ++ ex)
  | [], _, acc, .nil, _, st => ⟨[], by rw [lcLoop, if_pos (show srcOk none st = true from rfl), List.append_nil, List.append_nil]⟩
  | d :: ds, y :: ys, acc, .cons ⟨sl1, h1, h2⟩ hr, hl, st => by
    rw [List.length_cons] at hl
    obtain ⟨e1, q1⟩ := h2 st
    obtain ⟨e2, q2⟩ := lc_loop (acc := acc ++ [y]) hr (by rw [List.length_append, List.length_singleton]; omega) (st ++ e1)
    refine ⟨e1 ++ e2, ?_⟩
    rw [lcLoop, if_pos (show srcOk none st = true from rfl), lcF_some h1]
    show (match ((Res.ok true st : Res Bool).bind fun b st2 => if b then (evE cl e sl1 st2).bind fun v st3 => .ok (some v) st3 else .ok none st2 : Res (Option D)) with
      | .ok (some v) st' => if acc.length < sizeLine then lcLoop none (lcF (evTs cl []) (evE cl e) t vs sl) ds (acc ++ [v]) st' else .stuck
      | .ok none st' => lcLoop none (lcF (evTs cl []) (evE cl e) t vs sl) ds acc st'
      | _ => .stuck) = _
    rw [Res.bind_ok, if_pos rfl, q1, Res.bind_ok]
    dsimp only
    rw [if_pos (by rw [sizeLine_eq]; omega), q2, List.append_assoc, List.append_assoc]
    rfl
theorem r_lc {own : List (Str × Nat)} {t : CT} {it : CI} {ys : List D} (hi : Ri cl it sl ds) (hp : Paired (fun d v => ∃ sl', asgT t d (wipeD sl (own.map (·.2))) = some sl' ∧ Rn cl e sl' v) ds ys) (hl : ds.length ≤ 100000) : Rn cl (.lc false own t it [] e) sl (.lst ys) := fun st => by
  obtain ⟨e1, q1⟩ := hi st
  obtain ⟨e2, q2⟩ := lc_loop (acc := []) hp (by simpa using hl) (st ++ e1)
  refine ⟨e1 ++ e2, ?_⟩
  rw [evE_lc, q1, Res.bind_ok]
  show (lcLoop none _ ds [] (st ++ e1)).bind _ = _
  rw [q2, Res.bind_ok, List.append_assoc]
  rfl
theorem lc_loopF {vs : List Nat} {t : CT} : ∀ {ds : List D} {ys : List (Option D)} {acc : List D}, Paired (fun d (v : Option D) => ∃ sl' x, asgT t d (wipeD sl vs) = some sl' ∧ Rn cl c sl' x ∧ (∀ st, truth x st = some v.isSome) ∧ ∀ w, v = some w → Rn cl e sl' w) ds ys → acc.length + ds.length ≤ 100000 → ∀ st, ∃ ex, lcLoop none (lcF (evTs cl [c]) (evE cl e) t vs sl) ds acc st = .ok (acc ++ ys.filterMap id) (st ++ ex)
  | [], _, acc, .nil, _, st => ⟨[], by rw [lcLoop, if_pos (show srcOk none st = true from rfl), List.append_nil, List.filterMap_nil, List.append_nil]⟩
  | d :: ds, y :: ys, acc, .cons ⟨sl1, x, h1, h2, h3, h4⟩ hr, hl, st => by
    rw [List.length_cons] at hl
    obtain ⟨e1, q1⟩ := h2 st
    have et : evTs cl [c] sl1 st = .ok y.isSome (st ++ e1) := by
      show (evE cl c sl1 st).bind _ = _
      rw [q1, Res.bind_ok, h3]
      cases y <;> rfl
    rw [lcLoop, if_pos (show srcOk none st = true from rfl), lcF_some h1, et, Res.bind_ok]
    cases y with
    | none =>
      obtain ⟨e2, q2⟩ := lc_loopF (acc := acc) hr (by omega) (st ++ e1)
      refine ⟨e1 ++ e2, ?_⟩
      show lcLoop none _ ds acc (st ++ e1) = _
      rw [q2, List.append_assoc]
      rfl
    | some w =>
      obtain ⟨e2, q2⟩ := h4 w rfl (st ++ e1)
      obtain ⟨e3, q3⟩ := lc_loopF (acc := acc ++ [w]) hr (by rw [List.length_append, List.length_singleton]; omega) (st ++ e1 ++ e2)
      refine ⟨e1 ++ (e2 ++ e3), ?_⟩
      show (match ((evE cl e sl1 (st ++ e1)).bind fun v st3 => .ok (some v) st3 : Res (Option D)) with
        | .ok (some v) st' => if acc.length < sizeLine then lcLoop none (lcF (evTs cl [c]) (evE cl e) t vs sl) ds (acc ++ [v]) st' else .stuck
        | .ok none st' => lcLoop none (lcF (evTs cl [c]) (evE cl e) t vs sl) ds acc st'
        | _ => .stuck) = _
      rw [q2, Res.bind_ok]
      dsimp only
      rw [if_pos (by rw [sizeLine_eq]; omega), q3, List.append_assoc, List.append_assoc, List.append_assoc]
      rfl
theorem r_lcF {own : List (Str × Nat)} {t : CT} {it : CI} {ys : List (Option D)} (hi : Ri cl it sl ds) (hp : Paired (fun d (v : Option D) => ∃ sl' x, asgT t d (wipeD sl (own.map (·.2))) = some sl' ∧ Rn cl c sl' x ∧ (∀ st, truth x st = some v.isSome) ∧ ∀ w, v = some w → Rn cl e sl' w) ds ys) (hl : ds.length ≤ 100000) : Rn cl (.lc false own t it [c] e) sl (.lst (ys.filterMap id)) := fun st => by
  obtain ⟨e1, q1⟩ := hi st
  obtain ⟨e2, q2⟩ := lc_loopF (acc := []) hp (by simpa using hl) (st ++ e1)
  refine ⟨e1 ++ e2, ?_⟩
  rw [evE_lc, q1, Res.bind_ok]
  show (lcLoop none _ ds [] (st ++ e1)).bind _ = _
  rw [q2, Res.bind_ok, List.append_assoc]
  rfl
theorem putKD_len {kvs : List (Key × D)} {k : Key} {v : D} : (putKD kvs k v).length ≤ kvs.length + 1 := by
  unfold putKD
  split
  · rw [List.length_map]; omega
  · rw [List.length_append]; exact Nat.le_refl _
theorem dc_loop {vs : List Nat} {t : CT} {k v : CE} : ∀ {ds : List D} {kvs : List (Key × D)} {acc : List (Key × D)}, Paired (fun d (kv : Key × D) => ∃ sl' kd, asgT t d (wipeD sl vs) = some sl' ∧ Rn cl k sl' kd ∧ keyOf kd = some kv.1 ∧ Rn cl v sl' kv.2) ds kvs → acc.length + ds.length ≤ 100000 → ∀ st, ∃ ex, dcLoop none (dcF (evTs cl []) (evE cl k) (evE cl v) t vs sl) ds acc st = .ok (mergeD acc kvs) (st ++ ex)
  | [], _, acc, .nil, _, st => ⟨[], by rw [dcLoop, if_pos (show srcOk none st = true from rfl), List.append_nil]; rfl⟩
  | d :: ds, (kk, vv) :: kvs, acc, .cons ⟨sl1, kd, h1, h2, h3, h4⟩ hr, hl, st => by
    rw [List.length_cons] at hl
    obtain ⟨e1, q1⟩ := h2 st
    obtain ⟨e2, q2⟩ := h4 (st ++ e1)
    obtain ⟨e3, q3⟩ := dc_loop (acc := putKD acc kk vv) hr (by have := @putKD_len acc kk vv; omega) (st ++ e1 ++ e2)
    refine ⟨e1 ++ (e2 ++ e3), ?_⟩
    rw [dcLoop, if_pos (show srcOk none st = true from rfl), dcF_some h1]
    show (match ((Res.ok true st : Res Bool).bind fun b st2 => if b then (evE cl k sl1 st2).bind fun kd st3 => (evE cl v sl1 st3).bind fun vd st4 => (match keyOf kd with
        | some kk => .ok (some (kk, vd)) st4
        | none => .stuck : Res (Option (Key × D))) else .ok none st2 : Res (Option (Key × D))) with
      | .ok (some kv) st' => if acc.length < sizeLine then dcLoop none (dcF (evTs cl []) (evE cl k) (evE cl v) t vs sl) ds (putKD acc kv.1 kv.2) st' else .stuck
      | .ok none st' => dcLoop none (dcF (evTs cl []) (evE cl k) (evE cl v) t vs sl) ds acc st'
      | _ => .stuck) = _
    rw [Res.bind_ok, if_pos rfl, q1, Res.bind_ok, q2, Res.bind_ok, h3]
    dsimp only
    rw [if_pos (by rw [sizeLine_eq]; omega), q3, List.append_assoc, List.append_assoc]
    rfl
theorem r_dc {own : List (Str × Nat)} {t : CT} {it : CI} {k v : CE} {kvs : List (Key × D)} (hi : Ri cl it sl ds) (hp : Paired (fun d (kv : Key × D) => ∃ sl' kd, asgT t d (wipeD sl (own.map (·.2))) = some sl' ∧ Rn cl k sl' kd ∧ keyOf kd = some kv.1 ∧ Rn cl v sl' kv.2) ds kvs) (hl : ds.length ≤ 100000) : Rn cl (.dc false own t it [] k v) sl (.dct (mergeD [] kvs)) := fun st => by
  obtain ⟨e1, q1⟩ := hi st
  obtain ⟨e2, q2⟩ := dc_loop (acc := []) hp (by simpa using hl) (st ++ e1)
  refine ⟨e1 ++ e2, ?_⟩
  rw [evE_dc, q1, Res.bind_ok]
  show (dcLoop none _ ds [] (st ++ e1)).bind _ = _
  rw [q2, Res.bind_ok, List.append_assoc]
  rfl
/-! statements -/
theorem s_then {r : Store → Res D} {f : D → Store → RS} {o : Store → RS} (h1 : ∀ st, ∃ ex, r st = .ok x (st ++ ex)) (h2 : ∀ st, ∃ ex, f x st = o (st ++ ex)) : ∀ st, ∃ ex, (r st).then f = o (st ++ ex) := fun st => by
  obtain ⟨e1, h1⟩ := h1 st
  obtain ⟨e2, h2⟩ := h2 (st ++ e1)
  exact ⟨e1 ++ e2, by rw [h1, Res.then_ok, h2, List.append_assoc]⟩
theorem sn_asg {t : CT} (h : Rn cl e sl x) (h2 : asgT t x sl = some sl') : Sn cl (.asg t e) sl sl' :=
  s_then (f := fun d st1 => (match asgT t d sl with
    | some sl' => .next sl' st1
    | none => .stuck : RS)) (o := fun st => .next sl' st) h fun st => ⟨[], by rw [h2, List.append_nil]⟩
theorem sn_lc {i : Nat} (h : Rn cl e sl x) (h2 : i < sl.length) : Sn cl (.asgLc i e) sl (sl.set i (some x)) :=
  s_then (f := fun d st1 => set1 i d sl st1) (o := fun st => .next (sl.set i (some x)) st) h fun st => ⟨[], by rw [List.append_nil]; exact if_pos h2⟩
theorem sn_star {is : List Nat} {i : Nat} (h : Rn cl e sl (.tup ds)) (hl : is.length ≤ ds.length) (h2 : asgTs (is.map .name ++ [.name i]) (ds.take is.length ++ [.lst (ds.drop is.length)]) sl = some sl') : Sn cl (.asgS is i e) sl sl' :=
  s_then (f := fun d st1 => (match d with
    | .tup ds => if is.length ≤ ds.length then (match asgTs (is.map .name ++ [.name i]) (ds.take is.length ++ [.lst (ds.drop is.length)]) sl with
      | some sl' => .next sl' st1
      | none => .stuck) else .stuck
    | _ => .stuck : RS)) (o := fun st => .next sl' st) h fun st => ⟨[], by dsimp only; rw [if_pos hl, h2, List.append_nil]⟩
theorem sn_par {i j : Nat} (h1 : Rn cl a sl x) (h2 : Rn cl b sl y) (hi : i < sl.length) (hj : j < sl.length) : Sn cl (.par i j a b) sl ((sl.set i (some x)).set j (some y)) :=
  s_then (f := fun x st1 => (evE cl b sl st1).then fun y st2 => if i < sl.length ∧ j < sl.length then .next ((sl.set i (some x)).set j (some y)) st2 else .stuck) (o := fun st => .next ((sl.set i (some x)).set j (some y)) st) h1
    (s_then (o := fun st => .next ((sl.set i (some x)).set j (some y)) st) h2 fun st => ⟨[], by rw [if_pos ⟨hi, hj⟩, List.append_nil]⟩)
theorem sn_ret (h : Rn cl e sl x) : Sr cl (.ret e) sl x := s_then (f := fun d st1 => RS.ret d st1) (o := fun st => .ret x st) h fun st => ⟨[], by rw [List.append_nil]⟩
theorem iff_ev {t f : List CS} {k : Bool} (h1 : Rn cl c sl x) (h2 : ∀ st, truth x st = some k) {o : Store → RS} (h : ∀ st, ∃ ex, evSs cl (if k then t else f) sl st = o (st ++ ex)) : ∀ st, ∃ ex, evS cl (.iff c t f) sl st = o (st ++ ex) := fun st => by
  obtain ⟨e1, q1⟩ := h1 st
  obtain ⟨e2, q2⟩ := h (st ++ e1)
  refine ⟨e1 ++ e2, ?_⟩
  rw [x_iff, x_tru, q1, Res.bind_ok, h2, ← List.append_assoc, ← q2]
  cases k <;> rfl
theorem sn_no {t : List CS} (h1 : Rn cl c sl x) (h2 : ∀ st, truth x st = some false) : Sn cl (.iff c t []) sl sl := iff_ev h1 h2 (o := fun st => .next sl st) fun st => ⟨[], by rw [List.append_nil]; rfl⟩
theorem sr_iff {t f : List CS} {k : Bool} (h1 : Rn cl c sl x) (h2 : ∀ st, truth x st = some k) (h : Br cl (if k then t else f) sl d) : Sr cl (.iff c t f) sl d := iff_ev h1 h2 (o := fun st => .ret d st) h
theorem sn_iff {t f : List CS} {k : Bool} (h1 : Rn cl c sl x) (h2 : ∀ st, truth x st = some k) (h : Bn cl (if k then t else f) sl sl') : Sn cl (.iff c t f) sl sl' := iff_ev h1 h2 (o := fun st => .next sl' st) h
theorem bn_nil : Bn cl [] sl sl := fun st => ⟨[], by rw [List.append_nil]; rfl⟩
theorem bn_cons {s : CS} {ss : List CS} {sl2 : Slots} (h1 : Sn cl s sl sl') (h2 : Bn cl ss sl' sl2) : Bn cl (s :: ss) sl sl2 := fun st => by
  obtain ⟨e1, q1⟩ := h1 st
  obtain ⟨e2, q2⟩ := h2 (st ++ e1)
  exact ⟨e1 ++ e2, by rw [evSs_cons q1, q2, List.append_assoc]⟩
theorem br_cons {s : CS} {ss : List CS} (h1 : Sn cl s sl sl') (h2 : Br cl ss sl' d) : Br cl (s :: ss) sl d := fun st => by
  obtain ⟨e1, q1⟩ := h1 st
  obtain ⟨e2, q2⟩ := h2 (st ++ e1)
  exact ⟨e1 ++ e2, by rw [evSs_cons q1, q2, List.append_assoc]⟩
theorem br_ret {s : CS} {ss : List CS} (h1 : Sr cl s sl d) : Br cl (s :: ss) sl d := fun st => by
  obtain ⟨e1, q1⟩ := h1 st
  exact ⟨e1, by rw [evSs_ret q1]⟩
/-- a loop whose turns only add cells -/
theorem for_loop {t : CT} {ss : List CS} {P : Slots → Prop} : ∀ {ds : List D} {sl : Slots}, (∀ d ∈ ds, ∀ sl, P sl → ∃ sl1 sl2, asgT t d sl = some sl1 ∧ Bn cl ss sl1 sl2 ∧ P sl2) → P sl → ∃ sl', P sl' ∧ ∀ st, ∃ ex, forLoop none (frF t (evSs cl ss)) ds sl st = .next sl' (st ++ ex)
  | [], sl, _, p => ⟨sl, p, fun st => ⟨[], by rw [forLoop, if_pos (show srcOk none st = true from rfl), List.append_nil]⟩⟩
  | d :: ds, sl, h, p => by
    obtain ⟨sl1, sl2, h1, h2, p2⟩ := h d List.mem_cons_self sl p
    obtain ⟨sl3, p3, h3⟩ := for_loop (fun d hd => h d (List.mem_cons_of_mem _ hd)) p2
    refine ⟨sl3, p3, fun st => ?_⟩
    obtain ⟨e1, q1⟩ := h2 st
    obtain ⟨e2, q2⟩ := h3 (st ++ e1)
    refine ⟨e1 ++ e2, ?_⟩
    rw [forLoop, if_pos (show srcOk none st = true from rfl), frF_some h1, q1]
    dsimp only
    rw [q2, List.append_assoc]
theorem sn_for {t : CT} {it : CI} {ss : List CS} {P : Slots → Prop} (hi : Ri cl it sl ds) (h : ∀ d ∈ ds, ∀ sl, P sl → ∃ sl1 sl2, asgT t d sl = some sl1 ∧ Bn cl ss sl1 sl2 ∧ P sl2) (p : P sl) : ∃ sl', P sl' ∧ Sn cl (.for_ t it ss) sl sl' := by
  obtain ⟨sl', p', q⟩ := for_loop h p
  refine ⟨sl', p', fun st => ?_⟩
  obtain ⟨e1, q1⟩ := hi st
  obtain ⟨e2, q2⟩ := q (st ++ e1)
  refine ⟨e1 ++ e2, ?_⟩
  rw [evS_for, q1, Res.then_ok]
  dsimp only
  rw [q2, List.append_assoc]
end
/-- a call -/
theorem rc_of {FT : List FD} {k f : Nat} {F : FD} {ds : List D} {d : D} (e : FT[f]? = some F) (h : ds.length = F.np) (hb : Br (evCall FT k) F.body (slots0 F.nn ds) d) : Rc (evCall FT (k + 1)) f ds d := fun st => by
  obtain ⟨ex, q⟩ := hb st
  exact ⟨ex, by rw [evCall_at e h, q]; rfl⟩
end TM
set_option maxHeartbeats 0
namespace K43
open PySem PySem.Spec PyProof.Rows L2 TM
def top (i : Nat) : Stmt := PySem.Challenge.pw_soonknown_k43_sums_of_scripts.main.body.getD i (.Pass ⟨0, 0, 0, 0⟩)
def mtop (i j : Nat) : Stmt := match top i with
  | .ClassDef _ _ _ b _ _ _ _ _ _ _ => b.getD j (.Pass ⟨0, 0, 0, 0⟩)
  | _ => .Pass ⟨0, 0, 0, 0⟩
def b_is_sign : List CS := [
  (.ret (.and_ (.isin (.var 0) [.str]) (.cmp .Eq (.bi .len [(.var 0)]) (.int 1))))]
def t_is_sign : TD := ⟨"is_sign", top 6, ["thing"], ["thing"], [], b_is_sign, .fn, "is_sign", "is_sign"⟩
def b_is_step : List CS := [
  (.iff (.or_ (.not_ (.isin (.var 0) [.tuple])) (.or_ (.cmp .NotIn (.bi .len [(.var 0)]) (.tup [(.int 2), (.int 3)])) (.not_ (.bi .all [(.lc false [("sign", 1)] (.name 1) (.e (.sl (.var 0) (.some (.int 1)) .none)) [] (.call 0 "is_sign" [(.var 1)]))])))) [(.ret (.bl false))] []),
  (.iff (.cmp .Eq (.bi .len [(.var 0)]) (.int 3)) [(.ret (.and_ (.cmp .Eq (.idx (.var 0) (.int 0)) (.str "swap")) (.cmp .NotEq (.idx (.var 0) (.int 1)) (.idx (.var 0) (.int 2)))))] []),
  (.ret (.cmp .In (.idx (.var 0) (.int 0)) (.tup [(.str "keep"), (.str "put"), (.str "drop")])))]
def t_is_step : TD := ⟨"is_step", top 7, ["thing", "sign"], ["thing"], [], b_is_step, .fn, "is_step", "is_step"⟩
def b_turned_round : List CS := [
  (.iff (.cmp .Eq (.idx (.var 0) (.int 0)) (.str "swap")) [(.ret (.tup [(.str "swap"), (.idx (.var 0) (.int 2)), (.idx (.var 0) (.int 1))]))] []),
  (.ret (.tup [(.idx (.dct false [(.str "keep"), (.str "keep"), (.str "put"), (.str "drop"), (.str "drop"), (.str "put")]) (.idx (.var 0) (.int 0))), (.idx (.var 0) (.int 1))]))]
def t_turned_round : TD := ⟨"turned_round", top 8, ["step"], ["step"], [], b_turned_round, .fn, "turned_round", "turned_round"⟩
def b_joint_step : List CS := [
  (.iff (.or_ (.cmp .Eq (.idx (.var 0) (.int 0)) (.str "keep")) (.cmp .Eq (.idx (.var 1) (.int 0)) (.str "keep"))) [(.ret (.lst false [(.ife (.cmp .Eq (.idx (.var 0) (.int 0)) (.str "keep")) (.var 1) (.var 0))]))] []),
  (.iff (.cmp .Eq (.idx (.var 0) (.int 0)) (.str "put")) [(.ret (.ife (.cmp .Eq (.idx (.var 1) (.int 0)) (.str "swap")) (.lst false [(.tup [(.str "put"), (.idx (.var 1) (.int 2))])]) (.lst false [])))] []),
  (.iff (.cmp .Eq (.idx (.var 1) (.int 0)) (.str "drop")) [(.ret (.lst false [(.tup [(.str "drop"), (.idx (.var 0) (.int 1))])]))] []),
  (.ret (.lst false [(.call 4 "through" [(.idx (.var 0) (.int 1)), (.idx (.var 1) (.int 2))])]))]
def t_joint_step : TD := ⟨"joint_step", top 9, ["one", "two"], ["one", "two"], [], b_joint_step, .fn, "joint_step", "joint_step"⟩
def b_through : List CS := [
  (.ret (.ife (.cmp .Eq (.var 0) (.var 1)) (.tup [(.str "keep"), (.var 0)]) (.tup [(.str "swap"), (.var 0), (.var 1)])))]
def t_through : TD := ⟨"through", top 10, ["old", "new"], ["old", "new"], [], b_through, .fn, "through", "through"⟩
def b_joined_steps : List CS := [
  (.asg (.name 2) (.lst false [])),
  (.asg (.name 3) (.int 0)),
  (.for_ (.name 4) (.e (.var 0)) [(.iff (.cmp .Eq (.idx (.var 4) (.int 0)) (.str "drop")) [(.asg (.name 2) (.op .Add (.var 2) (.lst false [(.var 4)])))] [(.whl (.cmp .Eq (.idx (.idx (.var 1) (.var 3)) (.int 0)) (.str "put")) [(.asg (.name 2) (.op .Add (.var 2) (.lst false [(.idx (.var 1) (.var 3))]))), (.asg (.name 3) (.op .Add (.var 3) (.int 1)))]), (.asg (.name 2) (.op .Add (.var 2) (.call 3 "joint_step" [(.var 4), (.idx (.var 1) (.var 3))]))), (.asg (.name 3) (.op .Add (.var 3) (.int 1)))])]),
  (.ret (.op .Add (.var 2) (.bi .list [(.sl (.var 1) (.some (.var 3)) .none)])))]
def t_joined_steps : TD := ⟨"joined_steps", top 11, ["first", "second", "found", "place", "step"], ["first", "second"], [], b_joined_steps, .fn, "joined_steps", "joined_steps"⟩
def b_Script___init__ : List CS := [
  (.iff (.or_ (.not_ (.isin (.var 1) [.list, .tuple])) (.not_ (.bi .all [(.lc false [("step", 2)] (.name 2) (.e (.var 1)) [] (.call 1 "is_step" [(.var 2)]))]))) [(.rais 1 "BadScript" "steps" (.var 1))] []),
  (.setA 1 (.var 0) "steps" (.bi .tuple [(.var 1)])),
  (.setA 1 (.var 0) "given" (.me .join (.str "") [(.lc false [("step", 2)] (.name 2) (.e (.var 1)) [(.cmp .NotEq (.idx (.var 2) (.int 0)) (.str "put"))] (.idx (.var 2) (.int 1)))])),
  (.setA 1 (.var 0) "made" (.me .join (.str "") [(.lc false [("step", 2)] (.name 2) (.e (.var 1)) [(.cmp .NotEq (.idx (.var 2) (.int 0)) (.str "drop"))] (.idx (.var 2) (.neg (.int 1))))]))]
def t_Script___init__ : TD := ⟨"Script.__init__", mtop 12 0, ["self", "steps", "step"], ["self", "steps"], [], b_Script___init__, (.me 0 "__init__"), "__init__", "Script.__init__"⟩
def b_Script_kept : List CS := [
  (.ret (.newv false 0 0 6 [(.lc false [("sign", 2)] (.name 2) (.e (.var 1)) [] (.tup [(.str "keep"), (.var 2)]))]))]
def t_Script_kept : TD := ⟨"Script.kept", mtop 12 1, ["cls", "text", "sign"], ["cls", "text"], [], b_Script_kept, (.cm 0 "kept"), "kept", "Script.kept"⟩
def b_Script_cost : List CS := [
  (.asg (.name 4) (.dct false [(.str "keep"), (.int 0), (.str "put"), (.var 1), (.str "drop"), (.var 2), (.str "swap"), (.var 3)])),
  (.ret (.bi .sum [(.lc false [("step", 5)] (.name 5) (.e (.fld 1 (.var 0) "steps")) [] (.idx (.var 4) (.idx (.var 5) (.int 0))))]))]
def t_Script_cost : TD := ⟨"Script.cost", mtop 12 2, ["self", "put", "drop", "swap", "prices", "step"], ["self", "put", "drop", "swap"], [⟨1, ["put", "drop", "swap"], [0, 1, 2, 3]⟩], b_Script_cost, (.mk 0 "cost"), "cost", "Script.cost"⟩
def b_Script___call__ : List CS := [
  (.iff (.cmp .NotEq (.var 1) (.fld 1 (.var 0) "given")) [(.rais 2 "WrongText" "wrong" (.var 1))] []),
  (.ret (.fld 1 (.var 0) "made"))]
def t_Script___call__ : TD := ⟨"Script.__call__", mtop 12 3, ["self", "text"], ["self", "text"], [], b_Script___call__, (.me 0 "__call__"), "__call__", "Script.__call__"⟩
def b_Script___len__ : List CS := [
  (.ret (.bi .len [(.lc false [("step", 1)] (.name 1) (.e (.fld 1 (.var 0) "steps")) [(.cmp .NotEq (.idx (.var 1) (.int 0)) (.str "keep"))] (.var 1))]))]
def t_Script___len__ : TD := ⟨"Script.__len__", mtop 12 4, ["self", "step"], ["self"], [], b_Script___len__, (.me 0 "__len__"), "__len__", "Script.__len__"⟩
def b_Script___invert__ : List CS := [
  (.ret (.new false 0 6 "Script" [(.lc false [("step", 1)] (.name 1) (.e (.fld 1 (.var 0) "steps")) [] (.call 2 "turned_round" [(.var 1)]))]))]
def t_Script___invert__ : TD := ⟨"Script.__invert__", mtop 12 5, ["self", "step"], ["self"], [], b_Script___invert__, (.me 0 "__invert__"), "__invert__", "Script.__invert__"⟩
def b_Script___add__ : List CS := [
  (.iff (.cmp .NotEq (.fld 1 (.var 0) "made") (.fld 1 (.var 1) "given")) [(.rais 2 "WrongText" "wrong" (.fld 1 (.var 1) "given"))] []),
  (.ret (.new false 0 6 "Script" [(.call 5 "joined_steps" [(.fld 1 (.var 0) "steps"), (.fld 1 (.var 1) "steps")])]))]
def t_Script___add__ : TD := ⟨"Script.__add__", mtop 12 6, ["self", "other"], ["self", "other"], [], b_Script___add__, (.me 0 "__add__"), "__add__", "Script.__add__"⟩
def b_Script___eq__ : List CS := [
  (.ret (.and_ (.isc 1 (.var 1) "Script" [0]) (.cmp .Eq (.fld 1 (.var 0) "steps") (.fld 1 (.var 1) "steps"))))]
def t_Script___eq__ : TD := ⟨"Script.__eq__", mtop 12 7, ["self", "other"], ["self", "other"], [], b_Script___eq__, (.me 0 "__eq__"), "__eq__", "Script.__eq__"⟩
def b__law_stream : List CS := [
  (.asg (.name 2) (.op .Add (.int 41) (.var 1))),
  (.for_ (.name 3) (.e (.var 0)) [(.asg (.name 2) (.op .Add (.op .Mod (.bi .int [(.op .Pow (.bi .int [(.op .Add (.op .Mult (.var 2) (.int 40127)) (.bi .int [(.var 3)]))]) (.int 3))]) (.int 2147483629)) (.int 1)))]),
  (.asg (.name 4) (.int 0)),
  (.iff (.and_ (.cmp .Lt (.var 1) (.bi .len [(.var 0)])) (.cmp .GtE (.idx (.var 0) (.var 1)) (.op .Pow (.int 10) (.int 18)))) [(.asg (.name 4) (.op .Sub (.idx (.var 0) (.var 1)) (.op .Pow (.int 10) (.int 18))))] []),
  (.ret (.lst true [(.var 4), (.var 2)]))]
def t__law_stream : TD := ⟨"_law_stream", top 14, ["script", "start", "seed", "entry", "digits"], ["script", "start"], [], b__law_stream, .fn, "_law_stream", "_law_stream"⟩
def b__law_draw : List CS := [
  (.iff (.cmp .GtE (.idx (.var 0) (.int 0)) (.var 1)) [(.asg (.name 3) (.op .Mod (.bi .int [(.idx (.var 0) (.int 0))]) (.var 1))), (.setI (.var 0) (.int 0) (.op .FloorDiv (.idx (.var 0) (.int 0)) (.var 1))), (.ret (.var 3))] []),
  (.setI (.var 0) (.int 1) (.op .Mod (.bi .int [(.op .Add (.op .Mult (.idx (.var 0) (.int 1)) (.int 48271)) (.int 12345))]) (.int 2147483647))),
  (.asg (.name 2) (.op .Mod (.bi .int [(.op .Pow (.bi .int [(.idx (.var 0) (.int 1))]) (.int 3))]) (.int 2147483629))),
  (.ret (.op .Mod (.bi .int [(.op .FloorDiv (.op .Mod (.bi .int [(.op .Pow (.var 2) (.int 5))]) (.int 1000000007)) (.int 7))]) (.var 1)))]
def t__law_draw : TD := ⟨"_law_draw", top 15, ["stream", "size", "mixed", "found"], ["stream", "size"], [], b__law_draw, .fn, "_law_draw", "_law_draw"⟩
def b__law_choose : List CS := [
  (.ret (.idx (.var 1) (.call 15 "_law_draw" [(.var 0), (.bi .len [(.var 1)])])))]
def t__law_choose : TD := ⟨"_law_choose", top 16, ["stream", "items"], ["stream", "items"], [], b__law_choose, .fn, "_law_choose", "_law_choose"⟩
def b__law_word : List CS := [
  (.ret (.me .join (.str "") [(.lc false [("nth", 3)] (.name 3) (.rng [(.call 15 "_law_draw" [(.var 0), (.op .Add (.var 1) (.int 1))])]) [] (.call 16 "_law_choose" [(.var 0), (.var 2)]))]))]
def t__law_word : TD := ⟨"_law_word", top 17, ["stream", "high", "signs", "nth"], ["stream", "high", "signs"], [], b__law_word, .fn, "_law_word", "_law_word"⟩
def b__law_signs : List CS := [
  (.asg (.name 1) (.lst false [(.str "ab"), (.str "abc"), (.str "a"), (.str "xyz"), (.str "01"), (.str "a\n"), (.str "\"{}"), (.str "abcdefghijklmnopqrstuvwxyz"), (.str " !&~-")])),
  (.ret (.call 16 "_law_choose" [(.var 0), (.op .Add (.var 1) (.lst false [(.str "aAbB"), (.str "Z_a^"), (.str "9,;B")]))]))]
def t__law_signs : TD := ⟨"_law_signs", top 18, ["stream", "some"], ["stream"], [], b__law_signs, .fn, "_law_signs", "_law_signs"⟩
def b__law_prices : List CS := [
  (.asg (.name 1) (.lst false [(.int 1), (.int 1), (.int 1), (.int 2), (.int 3), (.int 5), (.int 1000)])),
  (.ret (.tup [(.call 16 "_law_choose" [(.var 0), (.var 1)]), (.call 16 "_law_choose" [(.var 0), (.var 1)]), (.call 16 "_law_choose" [(.var 0), (.var 1)])]))]
def t__law_prices : TD := ⟨"_law_prices", top 19, ["stream", "some"], ["stream"], [], b__law_prices, .fn, "_law_prices", "_law_prices"⟩
def b__law_steps : List CS := [
  (.asg (.name 3) (.lst true [])),
  (.for_ (.name 4) (.rng [(.op .Add (.bi .len [(.var 1)]) (.int 1))]) [(.for_ (.name 5) (.rng [(.call 16 "_law_choose" [(.var 0), (.lst false [(.int 0), (.int 0), (.int 0), (.int 1), (.int 2)])])]) [(.ex (.me .append (.var 3) [(.tup [(.str "put"), (.call 16 "_law_choose" [(.var 0), (.var 2)])])]))]), (.iff (.cmp .Lt (.var 4) (.bi .len [(.var 1)])) [(.asg (.name 6) (.call 16 "_law_choose" [(.var 0), (.var 2)])), (.asg (.name 7) (.lst false [(.tup [(.str "keep"), (.idx (.var 1) (.var 4))]), (.tup [(.str "drop"), (.idx (.var 1) (.var 4))])])), (.asg (.name 8) (.op .Mult (.lst false [(.tup [(.str "swap"), (.idx (.var 1) (.var 4)), (.var 6)])]) (.bi .int [(.cmp .NotEq (.var 6) (.idx (.var 1) (.var 4)))]))), (.ex (.me .append (.var 3) [(.call 16 "_law_choose" [(.var 0), (.op .Add (.var 7) (.var 8))])]))] [])]),
  (.ret (.frz (.var 3)))]
def t__law_steps : TD := ⟨"_law_steps", top 20, ["stream", "own", "signs", "found", "nth", "turn", "new", "some", "other"], ["stream", "own", "signs"], [], b__law_steps, .fn, "_law_steps", "_law_steps"⟩
def b__law_given : List CS := [
  (.ret (.me .join (.str "") [(.lc false [("step", 1)] (.name 1) (.e (.var 0)) [(.cmp .NotEq (.idx (.var 1) (.int 0)) (.str "put"))] (.idx (.var 1) (.int 1)))]))]
def t__law_given : TD := ⟨"_law_given", top 21, ["steps", "step"], ["steps"], [], b__law_given, .fn, "_law_given", "_law_given"⟩
def b__law_made : List CS := [
  (.ret (.me .join (.str "") [(.lc false [("step", 1)] (.name 1) (.e (.var 0)) [(.cmp .NotEq (.idx (.var 1) (.int 0)) (.str "drop"))] (.idx (.var 1) (.neg (.int 1))))]))]
def t__law_made : TD := ⟨"_law_made", top 22, ["steps", "step"], ["steps"], [], b__law_made, .fn, "_law_made", "_law_made"⟩
def b__law_cost : List CS := [
  (.asg (.name 2) (.int 0)),
  (.for_ (.name 3) (.e (.var 0)) [(.for_ (.tup [(.name 4), (.name 5)]) (.zip (.lst false [(.str "put"), (.str "drop"), (.str "swap")]) (.var 1)) [(.asg (.name 2) (.op .Add (.var 2) (.op .Mult (.var 5) (.bi .int [(.cmp .Eq (.idx (.var 3) (.int 0)) (.var 4))]))))])]),
  (.ret (.var 2))]
def t__law_cost : TD := ⟨"_law_cost", top 23, ["steps", "prices", "found", "step", "word", "price"], ["steps", "prices"], [], b__law_cost, .fn, "_law_cost", "_law_cost"⟩
def b__law_sum : List CS := [
  (.asgLc 2 (.lc false [("at", 9), ("step", 10)] (.tup [(.name 9), (.name 10)]) (.enum (.var 0)) [(.cmp .NotEq (.idx (.var 10) (.int 0)) (.str "drop"))] (.var 9))),
  (.asgLc 3 (.lc false [("at", 9), ("step", 10)] (.tup [(.name 9), (.name 10)]) (.enum (.var 1)) [(.cmp .NotEq (.idx (.var 10) (.int 0)) (.str "put"))] (.var 9))),
  (.par3 4 5 6 (.lst false []) (.int 0) (.int 0)),
  (.for_ (.tup [(.name 7), (.name 8)]) (.zip (.op .Add (.var 2) (.lst false [(.bi .len [(.var 0)])])) (.op .Add (.var 3) (.lst false [(.bi .len [(.var 1)])]))) [(.asg (.name 4) (.op .Add (.op .Add (.var 4) (.bi .list [(.sl (.var 0) (.some (.var 5)) (.some (.var 7)))])) (.bi .list [(.sl (.var 1) (.some (.var 6)) (.some (.var 8)))]))), (.iff (.cmp .Lt (.var 7) (.bi .len [(.var 0)])) [(.asg (.name 4) (.op .Add (.var 4) (.call 25 "_law_joint" [(.idx (.var 0) (.var 7)), (.idx (.var 1) (.var 8))])))] []), (.par 5 6 (.op .Add (.var 7) (.int 1)) (.op .Add (.var 8) (.int 1)))]),
  (.ret (.var 4))]
def t__law_sum : TD := ⟨"_law_sum", top 24, ["first", "second", "makers", "takers", "found", "one", "two", "made", "taken", "at", "step"], ["first", "second"], [], b__law_sum, .fn, "_law_sum", "_law_sum"⟩
def b__law_joint : List CS := [
  (.asg (.name 2) (.ife (.cmp .NotEq (.idx (.var 0) (.int 0)) (.str "put")) (.idx (.var 0) (.int 1)) .non)),
  (.asg (.name 3) (.ife (.cmp .NotEq (.idx (.var 1) (.int 0)) (.str "drop")) (.idx (.var 1) (.neg (.int 1))) .non)),
  (.iff (.and_ (.cmp .Is (.var 2) .non) (.cmp .Is (.var 3) .non)) [(.ret (.lst false []))] []),
  (.iff (.cmp .Is (.var 2) .non) [(.ret (.lst false [(.tup [(.str "put"), (.var 3)])]))] []),
  (.iff (.cmp .Is (.var 3) .non) [(.ret (.lst false [(.tup [(.str "drop"), (.var 2)])]))] []),
  (.ret (.ife (.cmp .Eq (.var 2) (.var 3)) (.lst false [(.tup [(.str "keep"), (.var 2)])]) (.lst false [(.tup [(.str "swap"), (.var 2), (.var 3)])])))]
def t__law_joint : TD := ⟨"_law_joint", top 25, ["maker", "taker", "old", "new"], ["maker", "taker"], [], b__law_joint, .fn, "_law_joint", "_law_joint"⟩
def b__law_both : List CS := [
  (.asg (.tup [(.name 3), (.name 4)]) (.tup [.non, .non])),
  (.tryX (.asg (.name 3) (.mth (.bin .Add) 0 12 "__add__" (.var 0) [(.var 1)])) "WrongText" "error" [2] [1] 2 (some 4) false "wrong"),
  (.ret (.tup [(.var 3), (.var 4)]))]
def t__law_both : TD := ⟨"_law_both", top 26, ["one", "two", "error", "told", "caught"], ["one", "two"], [], b__law_both, .fn, "_law_both", "_law_both"⟩
def b__law_sum_right : List CS := [
  (.par 4 5 (.new false 0 6 "Script" [(.var 0)]) (.new false 0 6 "Script" [(.var 1)])),
  (.asg (.tup [(.name 6), (.name 7)]) (.call 26 "_law_both" [(.var 4), (.var 5)])),
  (.iff (.cmp .NotEq (.bi .repr [(.tup [(.fld 1 (.var 4) "steps"), (.fld 1 (.var 5) "steps")])]) (.bi .repr [(.tup [(.bi .tuple [(.var 0)]), (.bi .tuple [(.var 1)])])])) [(.ret (.bl false))] []),
  (.iff (.cmp .NotEq (.call 22 "_law_made" [(.var 0)]) (.call 21 "_law_given" [(.var 1)])) [(.ret (.and_ (.cmp .Is (.var 6) .non) (.cmp .Eq (.var 7) (.call 21 "_law_given" [(.var 1)]))))] []),
  (.iff (.or_ (.cmp .Is (.var 6) .non) (.cmp .NotEq (.bi .repr [(.fld 1 (.var 6) "steps")]) (.bi .repr [(.bi .tuple [(.call 24 "_law_sum" [(.var 0), (.var 1)])])]))) [(.ret (.bl false))] []),
  (.iff (.or_ (.cmp .NotEq (.fld 1 (.var 6) "given") (.call 21 "_law_given" [(.var 0)])) (.or_ (.cmp .NotEq (.fld 1 (.var 6) "made") (.call 22 "_law_made" [(.var 1)])) (.cmp .NotEq (.mth .call 0 9 "__call__" (.var 6) [(.fld 1 (.var 4) "given")]) (.mth .call 0 9 "__call__" (.var 5) [(.mth .call 0 9 "__call__" (.var 4) [(.fld 1 (.var 4) "given")])])))) [(.ret (.bl false))] []),
  (.asg (.name 3) (.mthK 0 8 "cost" ["put", "drop", "swap"] (.var 6) [] [(.idx (.var 2) (.int 0)), (.idx (.var 2) (.int 1)), (.idx (.var 2) (.int 2))] [0, 1, 2, 3])),
  (.ret (.cmp .LtE (.var 3) (.op .Add (.call 23 "_law_cost" [(.var 0), (.var 2)]) (.call 23 "_law_cost" [(.var 1), (.var 2)]))))]
def t__law_sum_right : TD := ⟨"_law_sum_right", top 27, ["first", "second", "prices", "cost", "one", "two", "told", "caught"], ["first", "second", "prices"], [], b__law_sum_right, .fn, "_law_sum_right", "_law_sum_right"⟩
def b_law : List CS := [
  (.for_ (.name 1) (.rng [(.bi .max [(.int 1), (.bi .min [(.int 4), (.bi .len [(.var 0)])])])]) [(.asg (.name 4) (.call 14 "_law_stream" [(.var 0), (.var 1)])), (.for_ (.name 5) (.rng [(.int 8)]) [(.par 11 12 (.call 18 "_law_signs" [(.var 4)]) (.call 19 "_law_prices" [(.var 4)])), (.asg (.name 8) (.call 20 "_law_steps" [(.var 4), (.call 17 "_law_word" [(.var 4), (.int 6), (.var 11)]), (.var 11)])), (.asg (.name 9) (.call 16 "_law_choose" [(.var 4), (.op .Add (.op .Mult (.lst false [(.call 22 "_law_made" [(.var 8)])]) (.int 4)) (.lst false [(.call 17 "_law_word" [(.var 4), (.int 4), (.var 11)])]))])), (.asg (.name 10) (.call 20 "_law_steps" [(.var 4), (.var 9), (.var 11)])), (.iff (.or_ (.not_ (.call 27 "_law_sum_right" [(.var 8), (.var 10), (.var 12)])) (.not_ (.call 27 "_law_sum_right" [(.var 10), (.var 8), (.var 12)]))) [(.ret (.bl false))] []), (.iff (.not_ (.call 27 "_law_sum_right" [(.bi .tuple [(.var 8)]), (.bi .tuple [(.var 10)]), (.var 12)])) [(.ret (.bl false))] [])])]),
  (.par 6 7 (.new false 0 6 "Script" [(.op .Mult (.lst false [(.tup [(.str "keep"), (.str "a")]), (.tup [(.str "put"), (.str "b")])]) (.int 200))]) (.new false 0 6 "Script" [(.op .Mult (.lst false [(.tup [(.str "keep"), (.str "a")]), (.tup [(.str "drop"), (.str "b")])]) (.int 200))])),
  (.iff (.or_ (.not_ (.mth (.cmp .Eq) 0 13 "__eq__" (.mth (.bin .Add) 0 12 "__add__" (.var 6) [(.var 7)]) [(.cmth 0 7 "Script" "kept" [(.op .Mult (.str "a") (.int 200))])])) (.cmp .NotEq (.fld 1 (.mth (.bin .Add) 0 12 "__add__" (.var 7) [(.var 6)]) "given") (.op .Mult (.str "ab") (.int 200)))) [(.ret (.bl false))] []),
  (.asg (.name 2) (.new false 0 6 "Script" [(.lst false [(.tup [(.str "drop"), (.str "x")]), (.tup [(.str "put"), (.str "p")])])])),
  (.asg (.name 3) (.new false 0 6 "Script" [(.lst false [(.tup [(.str "put"), (.str "q")]), (.tup [(.str "drop"), (.str "p")])])])),
  (.ret (.and_ (.cmp .Eq (.fld 1 (.mth (.bin .Add) 0 12 "__add__" (.var 2) [(.var 3)]) "steps") (.tup [(.tup [(.str "drop"), (.str "x")]), (.tup [(.str "put"), (.str "q")])])) (.cmp .Eq (.fld 1 (.mth (.bin .Add) 0 12 "__add__" (.var 3) [(.cmth 0 7 "Script" "kept" [(.str "q")])]) "steps") (.fld 1 (.var 3) "steps"))))]
def t_law : TD := ⟨"law", top 28, ["script", "start", "one", "two", "stream", "turn", "far", "back", "first", "text", "second", "signs", "prices"], ["script"], [], b_law, .fn, "law", "law"⟩
def b_BadScript___init__ : List CS := [
  .dead]
def t_BadScript___init__ : TD := ⟨"BadScript.__init__", mtop 3 0, ["self", "steps"], ["self", "steps"], [], b_BadScript___init__, (.me 1 "__init__"), "__init__", "BadScript.__init__"⟩
def b_WrongText___init__ : List CS := [
  .dead]
def t_WrongText___init__ : TD := ⟨"WrongText.__init__", mtop 4 0, ["self", "wrong"], ["self", "wrong"], [], b_WrongText___init__, (.me 2 "__init__"), "__init__", "WrongText.__init__"⟩
def TT : List TD := [t_is_sign, t_is_step, t_turned_round, t_joint_step, t_through, t_joined_steps, t_Script___init__, t_Script_kept, t_Script_cost, t_Script___call__, t_Script___len__, t_Script___invert__, t_Script___add__, t_Script___eq__, t__law_stream, t__law_draw, t__law_choose, t__law_word, t__law_signs, t__law_prices, t__law_steps, t__law_given, t__law_made, t__law_cost, t__law_sum, t__law_joint, t__law_both, t__law_sum_right, t_law, t_BadScript___init__, t_WrongText___init__]
def fr : List Str := ["all", "enumerate", "int", "isinstance", "len", "list", "max", "min", "range", "repr", "str", "sum", "tuple", "zip"]
def gb : List (Str × D) := []
def cn : List Str := ["Script", "BadScript", "WrongText"]
def kl : Kl := ⟨1, [("Script", 0)], ["given", "made", "steps"], [("Script", [0])], [("BadScript", 1, "steps"), ("WrongText", 2, "wrong")], [("WrongText", [2], [1])]⟩
theorem bd_is_sign : TD.Bd t_is_sign where
  all := fun _ _ _ _ _ _ _ us h => match us, h with
    | [_], _ => rfl
  kw := fun q hq => absurd hq List.not_mem_nil
theorem bd_is_step : TD.Bd t_is_step where
  all := fun _ _ _ _ _ _ _ us h => match us, h with
    | [_], _ => rfl
  kw := fun q hq => absurd hq List.not_mem_nil
theorem bd_turned_round : TD.Bd t_turned_round where
  all := fun _ _ _ _ _ _ _ us h => match us, h with
    | [_], _ => rfl
  kw := fun q hq => absurd hq List.not_mem_nil
theorem bd_joint_step : TD.Bd t_joint_step where
  all := fun _ _ _ _ _ _ _ us h => match us, h with
    | [_, _], _ => rfl
  kw := fun q hq => absurd hq List.not_mem_nil
theorem bd_through : TD.Bd t_through where
  all := fun _ _ _ _ _ _ _ us h => match us, h with
    | [_, _], _ => rfl
  kw := fun q hq => absurd hq List.not_mem_nil
theorem bd_joined_steps : TD.Bd t_joined_steps where
  all := fun _ _ _ _ _ _ _ us h => match us, h with
    | [_, _], _ => rfl
  kw := fun q hq => absurd hq List.not_mem_nil
theorem bd_Script___init__ : TD.Bd t_Script___init__ where
  all := fun _ _ _ _ _ _ _ us h => match us, h with
    | [_, _], _ => rfl
  kw := fun q hq => absurd hq List.not_mem_nil
theorem bd_Script_kept : TD.Bd t_Script_kept where
  all := fun _ _ _ _ _ _ _ us h => match us, h with
    | [_, _], _ => rfl
  kw := fun q hq => absurd hq List.not_mem_nil
theorem bd_Script_cost : TD.Bd t_Script_cost where
  all := fun h => by cases h
  kw := fun q hq kV doc pm an cdv ct us ws as h1 h2 h3 h4 => by
    simp only [show t_Script_cost.kf = [(⟨1, ["put", "drop", "swap"], [0, 1, 2, 3]⟩ : Kform)] from rfl, List.mem_cons, List.not_mem_nil, or_false] at hq
    rcases hq with rfl
    · match us, ws, h1, h2 with
      | [u0], [w0, w1, w2], _, _ =>
        cases h3
        rfl
theorem bd_Script___call__ : TD.Bd t_Script___call__ where
  all := fun _ _ _ _ _ _ _ us h => match us, h with
    | [_, _], _ => rfl
  kw := fun q hq => absurd hq List.not_mem_nil
theorem bd_Script___len__ : TD.Bd t_Script___len__ where
  all := fun _ _ _ _ _ _ _ us h => match us, h with
    | [_], _ => rfl
  kw := fun q hq => absurd hq List.not_mem_nil
theorem bd_Script___invert__ : TD.Bd t_Script___invert__ where
  all := fun _ _ _ _ _ _ _ us h => match us, h with
    | [_], _ => rfl
  kw := fun q hq => absurd hq List.not_mem_nil
theorem bd_Script___add__ : TD.Bd t_Script___add__ where
  all := fun _ _ _ _ _ _ _ us h => match us, h with
    | [_, _], _ => rfl
  kw := fun q hq => absurd hq List.not_mem_nil
theorem bd_Script___eq__ : TD.Bd t_Script___eq__ where
  all := fun _ _ _ _ _ _ _ us h => match us, h with
    | [_, _], _ => rfl
  kw := fun q hq => absurd hq List.not_mem_nil
theorem bd__law_stream : TD.Bd t__law_stream where
  all := fun _ _ _ _ _ _ _ us h => match us, h with
    | [_, _], _ => rfl
  kw := fun q hq => absurd hq List.not_mem_nil
theorem bd__law_draw : TD.Bd t__law_draw where
  all := fun _ _ _ _ _ _ _ us h => match us, h with
    | [_, _], _ => rfl
  kw := fun q hq => absurd hq List.not_mem_nil
theorem bd__law_choose : TD.Bd t__law_choose where
  all := fun _ _ _ _ _ _ _ us h => match us, h with
    | [_, _], _ => rfl
  kw := fun q hq => absurd hq List.not_mem_nil
theorem bd__law_word : TD.Bd t__law_word where
  all := fun _ _ _ _ _ _ _ us h => match us, h with
    | [_, _, _], _ => rfl
  kw := fun q hq => absurd hq List.not_mem_nil
theorem bd__law_signs : TD.Bd t__law_signs where
  all := fun _ _ _ _ _ _ _ us h => match us, h with
    | [_], _ => rfl
  kw := fun q hq => absurd hq List.not_mem_nil
theorem bd__law_prices : TD.Bd t__law_prices where
  all := fun _ _ _ _ _ _ _ us h => match us, h with
    | [_], _ => rfl
  kw := fun q hq => absurd hq List.not_mem_nil
theorem bd__law_steps : TD.Bd t__law_steps where
  all := fun _ _ _ _ _ _ _ us h => match us, h with
    | [_, _, _], _ => rfl
  kw := fun q hq => absurd hq List.not_mem_nil
theorem bd__law_given : TD.Bd t__law_given where
  all := fun _ _ _ _ _ _ _ us h => match us, h with
    | [_], _ => rfl
  kw := fun q hq => absurd hq List.not_mem_nil
theorem bd__law_made : TD.Bd t__law_made where
  all := fun _ _ _ _ _ _ _ us h => match us, h with
    | [_], _ => rfl
  kw := fun q hq => absurd hq List.not_mem_nil
theorem bd__law_cost : TD.Bd t__law_cost where
  all := fun _ _ _ _ _ _ _ us h => match us, h with
    | [_, _], _ => rfl
  kw := fun q hq => absurd hq List.not_mem_nil
theorem bd__law_sum : TD.Bd t__law_sum where
  all := fun _ _ _ _ _ _ _ us h => match us, h with
    | [_, _], _ => rfl
  kw := fun q hq => absurd hq List.not_mem_nil
theorem bd__law_joint : TD.Bd t__law_joint where
  all := fun _ _ _ _ _ _ _ us h => match us, h with
    | [_, _], _ => rfl
  kw := fun q hq => absurd hq List.not_mem_nil
theorem bd__law_both : TD.Bd t__law_both where
  all := fun _ _ _ _ _ _ _ us h => match us, h with
    | [_, _], _ => rfl
  kw := fun q hq => absurd hq List.not_mem_nil
theorem bd__law_sum_right : TD.Bd t__law_sum_right where
  all := fun _ _ _ _ _ _ _ us h => match us, h with
    | [_, _, _], _ => rfl
  kw := fun q hq => absurd hq List.not_mem_nil
theorem bd_law : TD.Bd t_law where
  all := fun _ _ _ _ _ _ _ us h => match us, h with
    | [_], _ => rfl
  kw := fun q hq => absurd hq List.not_mem_nil
theorem bd_BadScript___init__ : TD.Bd t_BadScript___init__ where
  all := fun _ _ _ _ _ _ _ us h => match us, h with
    | [_, _], _ => rfl
  kw := fun q hq => absurd hq List.not_mem_nil
theorem bd_WrongText___init__ : TD.Bd t_WrongText___init__ where
  all := fun _ _ _ _ _ _ _ us h => match us, h with
    | [_, _], _ => rfl
  kw := fun q hq => absurd hq List.not_mem_nil
theorem bds : ∀ T ∈ TT, T.Bd := fun T h => by
  simp only [TT, List.mem_cons, List.not_mem_nil, or_false] at h
  rcases h with rfl | rfl | rfl | rfl | rfl | rfl | rfl | rfl | rfl | rfl | rfl | rfl | rfl | rfl | rfl | rfl | rfl | rfl | rfl | rfl | rfl | rfl | rfl | rfl | rfl | rfl | rfl | rfl | rfl | rfl | rfl
  · exact bd_is_sign
  · exact bd_is_step
  · exact bd_turned_round
  · exact bd_joint_step
  · exact bd_through
  · exact bd_joined_steps
  · exact bd_Script___init__
  · exact bd_Script_kept
  · exact bd_Script_cost
  · exact bd_Script___call__
  · exact bd_Script___len__
  · exact bd_Script___invert__
  · exact bd_Script___add__
  · exact bd_Script___eq__
  · exact bd__law_stream
  · exact bd__law_draw
  · exact bd__law_choose
  · exact bd__law_word
  · exact bd__law_signs
  · exact bd__law_prices
  · exact bd__law_steps
  · exact bd__law_given
  · exact bd__law_made
  · exact bd__law_cost
  · exact bd__law_sum
  · exact bd__law_joint
  · exact bd__law_both
  · exact bd__law_sum_right
  · exact bd_law
  · exact bd_BadScript___init__
  · exact bd_WrongText___init__
theorem chk : TT.all (fun T => T.chk (TT.map TD.fd) fr gb kl) = true := by decide +kernel
abbrev R : PySem.W.OpenRow := PySem.W.OpenLaw.row PySem.Challenge.rw_soonknown_k43_sums_of_scripts
def loose : List Str := (["is_sign", "is_step", "turned_round", "joint_step", "through", "joined_steps", "_law_stream", "_law_draw", "_law_choose", "_law_word", "_law_signs", "_law_prices", "_law_steps", "_law_given", "_law_made", "_law_cost", "_law_sum", "_law_joint", "_law_both", "_law_sum_right", "SchemaError", "BadScript", "WrongText", "Script"] : List Str)
abbrev hk : PySem.W.Hook := hookQ 7 cn TT fr gb kl
def ob (s : PySem.W.SharedT) : AlQ := obsQG 7 cn TT fr gb kl (HandSHeadRun.getT s)
theorem ob_eq (s : PySem.W.SharedT) : ob s = hk.obs s.abs := obsQG_eq (HandSHeadRun.getT_eq s)
theorem run (w : World) : HandSHeadRun.RunEq R (PySem.W.view R.prog [28]) hk ob 4000 loose w := by
  intro os
  kernel_rfl
end K43
open PySem PySem.W PySem.Calls PyProof.Rows
theorem k43_end (hval : ∀ ns : List Int, ns.length ≤ 63 → (∀ z ∈ ns, Builtin.Int.intBits z ≤ 1048576) → ∃ st, TM.evCall (K43.TT.map TM.TD.fd) (12 + 1) 28 [.lst (ns.map .int)] [] = .ok (.bl true) st) : PySem.Challenge.rw_soonknown_k43_sums_of_scripts.Holds := by
  w_on; o_law
  refine HandSHeadRun.head_any (r := OpenLaw.row PySem.Challenge.rw_soonknown_k43_sums_of_scripts) (q := view (OpenLaw.row PySem.Challenge.rw_soonknown_k43_sums_of_scripts).prog [28]) (H := K43.hk) (ob := K43.ob) (M := 4000) (loose := K43.loose) (d := HandSHeadRun.topDef (OpenLaw.row PySem.Challenge.rw_soonknown_k43_sums_of_scripts).prog 28) (kwd := []) K43.ob_eq
    (by kernel_rfl) (fun s => by kernel_rfl) K43.run (by kernel_rfl) (by kernel_rfl) (by kernel_rfl) (by rfl) (by first | assumption | decide +kernel) (by decide +kernel) ⟨rfl, rfl, rfl, rfl, rfl, by decide +kernel⟩ ?hw ?hc
  case hw => w_witness2
  case hc =>
    refine TM.walk_tm (l := PySem.Challenge.rw_soonknown_k43_sums_of_scripts) (n := 63) (k := 12) (f := 28) (x := "script") (TT := K43.TT) (TL := K43.t_law) (fr := K43.fr) (gb := K43.gb) (kl := K43.kl) rfl (by decide) (by kernel_rfl) (by kernel_rfl) ⟨rfl, by decide, by decide⟩ rfl (by kernel_rfl) rfl rfl K43.bds K43.chk (by decide +kernel) ?F hval
    intro w mg fa h Y G hmg
    obtain ⟨K, KX, nol, c⟩ := Y
    exact ⟨K, _, KX, TM.told_of KX G nol c⟩
set_option maxHeartbeats 1000000
/-! k43: edit scripts as pure lists. -/
namespace K43
inductive Sp where
  | keep (c : Nat) | put (c : Nat) | drop (c : Nat) | swap (a b : Nat)
  deriving DecidableEq
namespace Sp
def ok : Sp → Bool
  | swap a b => decide (a ≠ b)
  | _ => true
def old : Sp → Option Nat
  | keep c => some c
  | put _ => none
  | drop c => some c
  | swap a _ => some a
def new : Sp → Option Nat
  | keep c => some c
  | put c => some c
  | drop _ => none
  | swap _ b => some b
def isDrop : Sp → Bool
  | drop _ => true
  | _ => false
def isPut : Sp → Bool
  | put _ => true
  | _ => false
def turn : Sp → Sp
  | keep c => keep c
  | put c => drop c
  | drop c => put c
  | swap a b => swap b a
end Sp
open Sp
def given (p : List Sp) : List Nat := p.filterMap old
def made (p : List Sp) : List Nat := p.filterMap new
def okL (p : List Sp) : Bool := p.all ok
def thru (a b : Nat) : Sp := if a = b then keep a else swap a b
def joint : Sp → Sp → List Sp
  | keep _, t => [t]
  | s, keep _ => [s]
  | put _, swap _ b => [put b]
  | put _, _ => []
  | swap a _, drop _ => [drop a]
  | swap a _, swap _ d => [thru a d]
  | _, _ => []
def J : List Sp → List Sp → List Sp
  | [], q => q
  | s :: p, q => if s.isDrop then s :: J p q else match q with
    | [] => []
    | t :: q' => if t.isPut then t :: J (s :: p) q' else joint s t ++ J p q'
termination_by p q => p.length + q.length
theorem J_nil {q : List Sp} : J [] q = q := by rw [J.eq_def]
theorem thru_ok {a b : Nat} : (thru a b).ok = true := by
  unfold thru
  split
  · rfl
  · simpa [ok]
theorem thru_nd {a b : Nat} : (thru a b).isDrop = false := by
  unfold thru
  split <;> rfl
theorem thru_np {a b : Nat} : (thru a b).isPut = false := by
  unfold thru
  split <;> rfl
theorem J_drop {c : Nat} {p q : List Sp} : J (drop c :: p) q = drop c :: J p q := by rw [J.eq_def]; rfl
theorem J_put {s : Sp} {p q : List Sp} {c : Nat} (h : s.isDrop = false) : J (s :: p) (put c :: q) = put c :: J (s :: p) q := by
  rw [J.eq_def]
  simp only [h, Bool.false_eq_true, if_false]
  rfl
theorem J_joint {s t : Sp} {p q : List Sp} (h : s.isDrop = false) (h' : t.isPut = false) : J (s :: p) (t :: q) = joint s t ++ J p q := by
  rw [J.eq_def]
  simp only [h, Bool.false_eq_true, if_false, h']
theorem made_cons {s : Sp} {p : List Sp} : made (s :: p) = s.new.toList ++ made p := by
  unfold made
  rw [List.filterMap_cons]
  cases s.new <;> rfl
theorem given_cons {s : Sp} {p : List Sp} : given (s :: p) = s.old.toList ++ given p := by
  unfold given
  rw [List.filterMap_cons]
  cases s.old <;> rfl
theorem made_app {p q : List Sp} : made (p ++ q) = made p ++ made q := List.filterMap_append
theorem given_app {p q : List Sp} : given (p ++ q) = given p ++ given q := List.filterMap_append
/-- the cases of a joining -/
theorem J_ind {P : List Sp → List Sp → Prop} (h0 : ∀ q, given q = [] → P [] q) (h1 : ∀ c p q, made p = given q → P p q → P (drop c :: p) q) (h2 : ∀ s p c q, s.isDrop = false → made (s :: p) = given q → P (s :: p) q → P (s :: p) (put c :: q))
    (h3 : ∀ s t p q x, s.isDrop = false → t.isPut = false → s.new = some x → t.old = some x → made p = given q → P p q → P (s :: p) (t :: q)) : ∀ (n : Nat) (p q : List Sp), p.length + q.length ≤ n → made p = given q → P p q
  | n, [], q, _, h => h0 q h.symm
  | 0, s :: p, q, hn, _ => by simp at hn
  | n + 1, s :: p, q, hn, h => by
    cases hs : s.isDrop with
    | true =>
      cases s <;> first | (cases hs; done) | skip
      rename_i c
      have h' : made p = given q := by rw [← h, made_cons]; rfl
      exact h1 c p q h' (J_ind h0 h1 h2 h3 n p q (by simp at hn; omega) h')
    | false =>
      cases q with
      | nil =>
        rw [made_cons] at h
        cases s <;> first | (cases hs; done) | (simp [new, given] at h)
      | cons t q =>
        cases ht : t.isPut with
        | true =>
          cases t <;> first | (cases ht; done) | skip
          rename_i c
          have h' : made (s :: p) = given q := by rw [h, given_cons]; rfl
          exact h2 s p c q hs h' (J_ind h0 h1 h2 h3 n (s :: p) q (by simp at hn ⊢; omega) h')
        | false =>
          rw [made_cons, given_cons] at h
          obtain ⟨x, hx⟩ : ∃ x, s.new = some x := by cases s <;> first | (cases hs; done) | exact ⟨_, rfl⟩
          obtain ⟨y, hy⟩ : ∃ y, t.old = some y := by cases t <;> first | (cases ht; done) | exact ⟨_, rfl⟩
          rw [hx, hy] at h
          have h' : x :: made p = y :: given q := h
          rw [List.cons.injEq] at h'
          obtain ⟨rfl, h'⟩ := h'
          exact h3 s t p q x hs ht hx hy h' (J_ind h0 h1 h2 h3 n p q (by simp at hn; omega) h')
theorem J_ind' {P : List Sp → List Sp → Prop} (h0 : ∀ q, given q = [] → P [] q) (h1 : ∀ c p q, made p = given q → P p q → P (drop c :: p) q) (h2 : ∀ s p c q, s.isDrop = false → made (s :: p) = given q → P (s :: p) q → P (s :: p) (put c :: q))
    (h3 : ∀ s t p q x, s.isDrop = false → t.isPut = false → s.new = some x → t.old = some x → made p = given q → P p q → P (s :: p) (t :: q)) (p q : List Sp) (h : made p = given q) : P p q := J_ind h0 h1 h2 h3 _ p q (Nat.le_refl _) h
theorem joint_ok {s t : Sp} (hs : s.ok = true) (ht : t.ok = true) : okL (joint s t) = true := by
  cases s <;> cases t <;> first | (simp_all [joint, okL, ok]; done) | exact (by simp [joint, okL, thru_ok])
theorem joint_given {s t : Sp} {x : Nat} (h1 : s.isDrop = false) (h2 : t.isPut = false) (h3 : s.new = some x) (h4 : t.old = some x) : given (joint s t) = s.old.toList ∧ made (joint s t) = t.new.toList := by
  cases s <;> cases t <;> simp_all [joint, given, made, old, new, isDrop, isPut, thru]
  all_goals (split <;> simp_all [old, new])
theorem J_facts (p q : List Sp) (h : made p = given q) : given (J p q) = given p ∧ made (J p q) = made q := by
  refine J_ind' (P := fun p q => given (J p q) = given p ∧ made (J p q) = made q) (fun q hq => ?_) (fun c p q _ ih => ?_) (fun s p c q hs _ ih => ?_) (fun s t p q x hs ht hx hy _ ih => ?_) p q h
  · rw [J_nil]
    exact ⟨hq, rfl⟩
  · rw [J_drop, given_cons, given_cons, made_cons, ih.1, ih.2]
    exact ⟨rfl, rfl⟩
  · rw [J_put hs, given_cons, made_cons, made_cons, ih.1, ih.2]
    exact ⟨rfl, rfl⟩
  · obtain ⟨k1, k2⟩ := joint_given hs ht hx hy
    rw [J_joint hs ht, given_app, made_app, k1, k2, ih.1, ih.2, given_cons, made_cons]
    exact ⟨rfl, rfl⟩
theorem J_ok (p q : List Sp) (h : made p = given q) : okL p = true → okL q = true → okL (J p q) = true := by
  refine J_ind' (P := fun p q => okL p = true → okL q = true → okL (J p q) = true) (fun q _ _ hq => by rw [J_nil]; exact hq) (fun c p q _ ih hp hq => ?_) (fun s p c q hs _ ih hp hq => ?_) (fun s t p q x hs ht hx hy _ ih hp hq => ?_) p q h
  · simp only [okL, List.all_cons, Bool.and_eq_true] at hp
    rw [J_drop]
    simp only [okL, List.all_cons, Bool.and_eq_true]
    exact ⟨rfl, ih hp.2 hq⟩
  · simp only [okL, List.all_cons, Bool.and_eq_true] at hq
    rw [J_put hs]
    simp only [okL, List.all_cons, Bool.and_eq_true]
    exact ⟨rfl, ih hp hq.2⟩
  · simp only [okL, List.all_cons, Bool.and_eq_true] at hp hq
    rw [J_joint hs ht]
    have := joint_ok hp.1 hq.1
    simp only [okL, List.all_append, Bool.and_eq_true] at this ⊢
    exact ⟨this, ih hp.2 hq.2⟩
theorem joint_len {s t : Sp} : (joint s t).length ≤ 1 := by
  cases s <;> cases t <;> simp [joint]
theorem J_len (p q : List Sp) (h : made p = given q) : (J p q).length ≤ p.length + q.length := by
  refine J_ind' (P := fun p q => (J p q).length ≤ p.length + q.length) (fun q _ => by rw [J_nil]; simp) (fun c p q _ ih => by rw [J_drop]; simp; omega) (fun s p c q hs _ ih => by rw [J_put hs]; simp at ih ⊢; omega) (fun s t p q x hs ht hx hy _ ih => ?_) p q h
  rw [J_joint hs ht, List.length_append, List.length_cons, List.length_cons]
  have := joint_len (s := s) (t := t)
  omega
/-! ### three in a row -/
theorem J_puts {s : Sp} {p q : List Sp} (hs : s.isDrop = false) : ∀ {u : List Sp}, (∀ x ∈ u, x.isPut = true) → J (s :: p) (u ++ q) = u ++ J (s :: p) q
  | [], _ => rfl
  | x :: u, h => by
    have hx := h x List.mem_cons_self
    cases x <;> first | (cases hx; done) | skip
    rw [List.cons_append, J_put hs, J_puts hs fun y hy => h y (List.mem_cons_of_mem _ hy)]
    rfl
theorem J_drops {p q : List Sp} : ∀ {u : List Sp}, (∀ x ∈ u, x.isDrop = true) → J (u ++ p) q = u ++ J p q
  | [], _ => rfl
  | x :: u, h => by
    have hx := h x List.mem_cons_self
    cases x <;> first | (cases hx; done) | skip
    rw [List.cons_append, J_drop, J_drops fun y hy => h y (List.mem_cons_of_mem _ hy)]
    rfl
theorem joint_put {c : Nat} {t : Sp} (ht : t.isPut = false) : ∀ x ∈ joint (put c) t, x.isPut = true := by
  cases t <;> simp_all [joint, isPut]
theorem joint_drop {c : Nat} {s : Sp} (hs : s.isDrop = false) : ∀ x ∈ joint s (drop c), x.isDrop = true := by
  cases s <;> simp_all [joint, isDrop]
/-- the middle one keeps or swaps -/
theorem joint_mid {s t w : Sp} {x y : Nat} (hs : s.isDrop = false) (ht : t.isPut = false) (ht2 : t.isDrop = false) (hw : w.isPut = false) (h1 : s.new = some x) (h2 : t.old = some x) (h3 : t.new = some y) (h4 : w.old = some y) (o1 : s.ok = true) (o2 : t.ok = true) (o3 : w.ok = true) :
    ∃ u v, joint s t = [u] ∧ u.isDrop = false ∧ u.new = some y ∧ joint t w = [v] ∧ v.isPut = false ∧ v.old = some x ∧ joint u w = joint s v := by
  cases t <;> first | (cases ht; done) | (cases ht2; done) | skip
  · rename_i c
    cases s <;> first | (cases hs; done) | skip
    all_goals cases w <;> first | (cases hw; done) | skip
    all_goals simp_all [joint, old, new, isDrop, isPut, thru]
  · rename_i a b
    cases s <;> first | (cases hs; done) | skip
    all_goals cases w <;> first | (cases hw; done) | skip
    all_goals simp only [old, new, Option.some.injEq] at h1 h2 h3 h4
    all_goals subst h1
    all_goals try subst h2
    all_goals subst h3
    all_goals try subst h4
    all_goals simp only [ok, decide_eq_true_eq] at o1 o2 o3
    all_goals first
      | (simp [joint, old, new, isDrop, isPut, thru]; done)
      | skip
    all_goals (simp only [joint, thru]; repeat' split)
    all_goals simp_all [joint, old, new, isDrop, isPut, thru]
    all_goals (try (repeat' split) <;> simp_all [joint, old, new, isDrop, isPut, thru])
theorem J_assoc : ∀ (n : Nat) (p q r : List Sp), p.length + q.length + r.length ≤ n → made p = given q → made q = given r → okL p = true → okL q = true → okL r = true → J (J p q) r = J p (J q r)
  | n, [], q, r, _, _, _, _, _, _ => by rw [J_nil, J_nil]
  | 0, s :: p, q, r, hn, _, _, _, _, _ => by simp at hn
  | n + 1, s :: p, q, r, hn, h1, h2, o1, o2, o3 => by
    simp only [List.length_cons] at hn
    have o1' := o1
    simp only [okL, List.all_cons, Bool.and_eq_true] at o1'
    cases hs : s.isDrop with
    | true =>
      cases s <;> first | (cases hs; done) | skip
      have h' : made p = given q := by rw [← h1, made_cons]; rfl
      rw [J_drop, J_drop, J_drop, J_assoc n p q r (by omega) h' h2 o1'.2 o2 o3]
    | false =>
      cases q with
      | nil =>
        rw [made_cons] at h1
        cases s <;> first | (cases hs; done) | (simp [new, given] at h1)
      | cons t q =>
        simp only [List.length_cons] at hn
        have o2' := o2
        simp only [okL, List.all_cons, Bool.and_eq_true] at o2'
        cases ht : t.isPut with
        | true =>
          cases t <;> first | (cases ht; done) | skip
          rename_i c
          have h1' : made (s :: p) = given q := by rw [h1, given_cons]; rfl
          rw [J_put hs]
          cases r with
          | nil => rw [made_cons] at h2; simp [new, given] at h2
          | cons w r =>
            simp only [List.length_cons] at hn
            have o3' := o3
            simp only [okL, List.all_cons, Bool.and_eq_true] at o3'
            cases hw : w.isPut with
            | true =>
              cases w <;> first | (cases hw; done) | skip
              rename_i d
              have h2' : made (put c :: q) = given r := by rw [h2, given_cons]; rfl
              have ih := J_assoc n (s :: p) (put c :: q) r (by simp only [List.length_cons]; omega) h1 h2' o1 o2 o3'.2
              rw [J_put hs] at ih
              rw [J_put (s := put c) rfl, J_put (s := put c) rfl, J_put hs, ih]
            | false =>
              rw [made_cons, given_cons] at h2
              obtain ⟨y, hy⟩ : ∃ y, w.old = some y := by cases w <;> first | (cases hw; done) | exact ⟨_, rfl⟩
              rw [hy] at h2
              have h2' : c :: made q = y :: given r := h2
              rw [List.cons.injEq] at h2'
              rw [J_joint (s := put c) rfl hw, J_joint (s := put c) rfl hw, J_puts hs (joint_put hw), J_assoc n (s :: p) q r (by simp only [List.length_cons]; omega) h1' h2'.2 o1 o2'.2 o3'.2]
        | false =>
          rw [made_cons, given_cons] at h1
          obtain ⟨x, hx⟩ : ∃ x, s.new = some x := by cases s <;> first | (cases hs; done) | exact ⟨_, rfl⟩
          obtain ⟨y, hy⟩ : ∃ y, t.old = some y := by cases t <;> first | (cases ht; done) | exact ⟨_, rfl⟩
          rw [hx, hy] at h1
          have h1' : x :: made p = y :: given q := h1
          rw [List.cons.injEq] at h1'
          obtain ⟨rfl, h1'⟩ := h1'
          rw [J_joint hs ht]
          cases htd : t.isDrop with
          | true =>
            cases t <;> first | (cases htd; done) | skip
            have h2' : made q = given r := by rw [← h2, made_cons]; rfl
            rw [J_drops (joint_drop hs), J_drop, J_joint hs rfl, J_assoc n p q r (by omega) h1' h2' o1'.2 o2'.2 o3]
          | false =>
            obtain ⟨z, hz⟩ : ∃ z, t.new = some z := by cases t <;> first | (cases htd; done) | exact ⟨_, rfl⟩
            cases r with
            | nil => rw [made_cons, hz] at h2; simp [given] at h2
            | cons w r =>
              simp only [List.length_cons] at hn
              have o3' := o3
              simp only [okL, List.all_cons, Bool.and_eq_true] at o3'
              cases hw : w.isPut with
              | true =>
                cases w <;> first | (cases hw; done) | skip
                rename_i d
                have h2' : made (t :: q) = given r := by rw [h2, given_cons]; rfl
                have ih := J_assoc n (s :: p) (t :: q) r (by simp only [List.length_cons]; omega) (by rw [made_cons, given_cons, hx, hy, h1']) h2' o1 o2 o3'.2
                rw [J_joint hs ht] at ih
                obtain ⟨u, hu, hud⟩ : ∃ u, joint s t = [u] ∧ u.isDrop = false := by
                  cases s <;> first | (cases hs; done) | skip
                  all_goals cases t <;> first | (cases ht; done) | (cases htd; done) | skip
                  all_goals first
                    | exact ⟨_, rfl, rfl⟩
                    | exact ⟨_, rfl, thru_nd⟩
                rw [hu] at ih ⊢
                rw [List.singleton_append] at ih ⊢
                rw [J_put hud, J_put htd, J_put hs, ih]
              | false =>
                rw [made_cons, given_cons] at h2
                obtain ⟨y, hy2⟩ : ∃ y, w.old = some y := by cases w <;> first | (cases hw; done) | exact ⟨_, rfl⟩
                rw [hy2, hz] at h2
                have h2' : z :: made q = y :: given r := h2
                rw [List.cons.injEq] at h2'
                obtain ⟨rfl, h2'⟩ := h2'
                obtain ⟨u, v, k1, k2, k3, k4, k5, k6, k7⟩ := joint_mid hs ht htd hw hx hy hz hy2 o1'.1 o2'.1 o3'.1
                rw [k1, List.singleton_append, J_joint k2 hw, J_joint htd hw, k4, List.singleton_append, J_joint hs k5, k7, J_assoc n p q r (by omega) h1' h2' o1'.2 o2'.2 o3'.2]
/-! ### prices -/
def cs (a b c : Nat) : Sp → Nat
  | keep _ => 0
  | put _ => a
  | drop _ => b
  | swap _ _ => c
def cost (a b c : Nat) (p : List Sp) : Nat := (p.map (cs a b c)).sum
theorem cost_cons {a b c : Nat} {s : Sp} {p : List Sp} : cost a b c (s :: p) = cs a b c s + cost a b c p := by simp [cost]
theorem cost_app {a b c : Nat} {p q : List Sp} : cost a b c (p ++ q) = cost a b c p + cost a b c q := by simp [cost]
theorem joint_cost {a b c : Nat} {s t : Sp} : cost a b c (joint s t) ≤ cs a b c s + cs a b c t := by
  have ht : ∀ x y, cs a b c (thru x y) ≤ c := fun x y => by
    unfold thru
    split
    · exact Nat.zero_le _
    · exact Nat.le_refl _
  cases s <;> cases t <;> first
    | (simp [joint, cost, cs]; done)
    | (simp only [joint, cost, List.map_cons, List.map_nil, List.sum_cons, List.sum_nil]; exact Nat.le_trans (Nat.add_le_add_right (ht _ _) 0) (Nat.le_add_right _ _))
theorem J_cost {a b c : Nat} (p q : List Sp) (h : made p = given q) : cost a b c (J p q) ≤ cost a b c p + cost a b c q := by
  refine J_ind' (P := fun p q => cost a b c (J p q) ≤ cost a b c p + cost a b c q) (fun q _ => by rw [J_nil]; simp [cost]) (fun d p q _ ih => by rw [J_drop]; simp only [cost_cons] at ih ⊢; omega) (fun s p d q hs _ ih => by rw [J_put hs]; simp only [cost_cons] at ih ⊢; omega) (fun s t p q x hs ht hx hy _ ih => ?_) p q h
  rw [J_joint hs ht, cost_app, cost_cons, cost_cons]
  have := joint_cost (a := a) (b := b) (c := c) (s := s) (t := t)
  omega
/-! ### turned round -/
def inv (p : List Sp) : List Sp := p.map turn
theorem turn_turn (s : Sp) : s.turn.turn = s := by cases s <;> rfl
theorem inv_inv (p : List Sp) : inv (inv p) = p := by
  unfold inv
  rw [List.map_map]
  have : turn ∘ turn = id := funext turn_turn
  rw [this, List.map_id]
theorem given_inv (p : List Sp) : given (inv p) = made p := by
  unfold given inv made
  rw [List.filterMap_map]
  congr 1
  funext s
  cases s <;> rfl
theorem made_inv (p : List Sp) : made (inv p) = given p := by
  unfold given inv made
  rw [List.filterMap_map]
  congr 1
  funext s
  cases s <;> rfl
theorem ok_inv (p : List Sp) (h : okL p = true) : okL (inv p) = true := by
  unfold okL inv at *
  rw [List.all_map]
  rw [List.all_eq_true] at *
  intro s hs
  have := h s hs
  cases s <;> simp_all [ok, turn, Function.comp]
  exact fun z => this z.symm
theorem cost_inv {a b c : Nat} (p : List Sp) : cost a b c (inv p) = cost b a c p := by
  unfold cost inv
  rw [List.map_map]
  congr 2
  funext s
  cases s <;> rfl
/-- what a joining costs, in any order -/
def zc (a b c : Nat) : List Sp → List Sp → Nat
  | s :: p, t :: q => cost a b c (joint s t) + zc a b c p q
  | _, _ => 0
def nd (p : List Sp) : List Sp := p.filter fun s => !s.isDrop
def np (p : List Sp) : List Sp := p.filter fun s => !s.isPut
def dr (p : List Sp) : Nat := (p.filter isDrop).length
def pu (p : List Sp) : Nat := (p.filter isPut).length
theorem J_sum {a b c : Nat} (p q : List Sp) (h : made p = given q) : cost a b c (J p q) = b * dr p + a * pu q + zc a b c (nd p) (np q) := by
  refine J_ind' (P := fun p q => cost a b c (J p q) = b * dr p + a * pu q + zc a b c (nd p) (np q)) (fun q hq => ?_) (fun d p q _ ih => ?_) (fun s p d q hs _ ih => ?_) (fun s t p q x hs ht hx hy _ ih => ?_) p q h
  · rw [J_nil]
    have : ∀ q, given q = [] → cost a b c q = a * pu q := by
      intro q
      induction q with
      | nil => intro _; rfl
      | cons t q ih =>
        intro hq
        rw [given_cons] at hq
        cases t <;> simp [old] at hq
        rw [cost_cons, ih hq]
        simp [pu, List.filter_cons, isPut, cs, Nat.mul_add, Nat.add_comm]
    rw [this q hq]
    simp [dr, nd, zc]
  · rw [J_drop, cost_cons, ih]
    simp [dr, nd, List.filter_cons, isDrop, cs, Nat.mul_add]
    omega
  · rw [J_put hs, cost_cons, ih]
    simp [pu, np, List.filter_cons, isPut, cs, Nat.mul_add]
    omega
  · rw [J_joint hs ht, cost_app, ih]
    have e1 : dr (s :: p) = dr p := by simp [dr, List.filter_cons, hs]
    have e2 : pu (t :: q) = pu q := by simp [pu, List.filter_cons, ht]
    have e3 : nd (s :: p) = s :: nd p := by simp [nd, List.filter_cons, hs]
    have e4 : np (t :: q) = t :: np q := by simp [np, List.filter_cons, ht]
    rw [e1, e2, e3, e4]
    show _ = _ + (cost a b c (joint s t) + zc a b c (nd p) (np q))
    omega
theorem zc_inv {a b c : Nat} : ∀ (p q : List Sp), (∀ s ∈ p, s.isDrop = false) → (∀ t ∈ q, t.isPut = false) → zc a b c (inv q) (inv p) = zc b a c p q
  | [], q, _, _ => by cases q <;> rfl
  | _ :: _, [], _, _ => rfl
  | s :: p, t :: q, h1, h2 => by
    show cost a b c (joint t.turn s.turn) + zc a b c (inv q) (inv p) = cost b a c (joint s t) + zc b a c p q
    rw [zc_inv p q (fun s hs => h1 s (List.mem_cons_of_mem _ hs)) fun t ht => h2 t (List.mem_cons_of_mem _ ht)]
    congr 1
    have hs := h1 s List.mem_cons_self
    have ht := h2 t List.mem_cons_self
    cases s <;> first | (cases hs; done) | skip
    all_goals cases t <;> first | (cases ht; done) | skip
    all_goals simp [joint, turn, cost, cs, thru]
    rename_i a1 b1 c1 d1
    by_cases e : a1 = d1
    · subst e
      simp [cs]
    · rw [if_neg e, if_neg (fun z => e z.symm)]
theorem inv_J {a b c : Nat} (p q : List Sp) (h : made p = given q) : cost a b c (J (inv q) (inv p)) = cost a b c (inv (J p q)) := by
  rw [cost_inv, J_sum p q h, J_sum (inv q) (inv p) (by rw [made_inv, given_inv, h])]
  have e1 : dr (inv q) = pu q := by
    unfold dr pu inv
    rw [List.filter_map, List.length_map]
    congr 2
    funext s
    cases s <;> rfl
  have e2 : pu (inv p) = dr p := by
    unfold dr pu inv
    rw [List.filter_map, List.length_map]
    congr 2
    funext s
    cases s <;> rfl
  have e3 : nd (inv q) = inv (np q) := by
    unfold nd np inv
    rw [List.filter_map]
    congr 2
    funext s
    cases s <;> rfl
  have e4 : np (inv p) = inv (nd p) := by
    unfold nd np inv
    rw [List.filter_map]
    congr 2
    funext s
    cases s <;> rfl
  rw [e1, e2, e3, e4, zc_inv (nd p) (np q) (fun s hs => by simpa [nd] using (List.mem_filter.mp hs).2) fun t ht => by simpa [np] using (List.mem_filter.mp ht).2]
  omega
/-! ### what keeps all -/
def kept (l : List Nat) : List Sp := l.map keep
theorem given_kept (l : List Nat) : given (kept l) = l := by
  unfold given kept
  rw [List.filterMap_map]
  have : (old ∘ keep) = some := rfl
  rw [this, List.filterMap_some]
theorem made_kept (l : List Nat) : made (kept l) = l := by
  unfold made kept
  rw [List.filterMap_map]
  have : (new ∘ keep) = some := rfl
  rw [this, List.filterMap_some]
theorem ok_kept (l : List Nat) : okL (kept l) = true := by
  unfold okL kept
  rw [List.all_map, List.all_eq_true]
  exact fun _ _ => rfl
theorem kept_J (q : List Sp) : J (kept (given q)) q = q := by
  induction q with
  | nil => exact J_nil
  | cons t q ih =>
    cases t with
    | put c =>
      rw [given_cons]
      show J (kept (given q)) (put c :: q) = _
      cases h : given q with
      | nil => exact J_nil
      | cons x l =>
        rw [h] at ih
        rw [show kept (x :: l) = keep x :: kept l from rfl] at ih ⊢
        rw [J_put rfl, ih]
    | keep c =>
      rw [given_cons, show kept ((keep c).old.toList ++ given q) = keep c :: kept (given q) from rfl, J_joint rfl rfl, ih]
      rfl
    | drop c =>
      rw [given_cons, show kept ((drop c).old.toList ++ given q) = keep c :: kept (given q) from rfl, J_joint rfl rfl, ih]
      rfl
    | swap c d =>
      rw [given_cons, show kept ((swap c d).old.toList ++ given q) = keep c :: kept (given q) from rfl, J_joint rfl rfl, ih]
      rfl
theorem J_kept (p : List Sp) : J p (kept (made p)) = p := by
  induction p with
  | nil => exact J_nil
  | cons t q ih =>
    cases t with
    | drop c =>
      rw [made_cons, J_drop]
      show drop c :: J q (kept (made q)) = _
      rw [ih]
    | keep c =>
      rw [made_cons, show kept ((keep c).new.toList ++ made q) = keep c :: kept (made q) from rfl, J_joint rfl rfl, ih]
      rfl
    | put c =>
      rw [made_cons, show kept ((put c).new.toList ++ made q) = keep c :: kept (made q) from rfl, J_joint rfl rfl, ih]
      rfl
    | swap c d =>
      rw [made_cons, show kept ((swap c d).new.toList ++ made q) = keep d :: kept (made q) from rfl, J_joint rfl rfl, ih]
      rfl
end K43
set_option maxHeartbeats 1000000
namespace K43
open PySem PySem.Spec PyProof.Rows L2 TM
abbrev FT : List FD := TT.map TD.fd
abbrev C (k : Nat) : Nat → List D → Store → Res D := evCall FT k
abbrev chS (c : Nat) : Str := ⟨#[c]⟩
def sd : Sp → D
  | .keep c => .tup [.str "keep", .str (chS c)]
  | .put c => .tup [.str "put", .str (chS c)]
  | .drop c => .tup [.str "drop", .str (chS c)]
  | .swap a b => .tup [.str "swap", .str (chS a), .str (chS b)]
abbrev SL (p : List Sp) : List D := p.map sd
def tS (l : List Nat) : Str := ⟨l.toArray⟩
def scD (p : List Sp) : D := .obj 0 [("steps", .tup (SL p)), ("given", .str (tS (given p))), ("made", .str (tS (made p)))]
theorem chS_eq {a b : Nat} : chS a = chS b ↔ a = b := ⟨fun h => by
  have := congrArg (fun s : Str => s.cps.toList) h
  simpa using this, fun h => by rw [h]⟩
theorem f_thru {k a b : Nat} {st : Store} : C (k + 1) 4 [.str (chS a), .str (chS b)] st = .ok (sd (thru a b)) st := by
  rw [show C (k + 1) 4 [.str (chS a), .str (chS b)] st = endS (evSs (C k) b_through (slots0 2 [.str (chS a), .str (chS b)]) st) from evCall_at (F := t_through.fd) rfl rfl]
  by_cases h : a = b
  · subst h
    simp [b_through, slots0, evSs, evS, cmpD, truth, ofO, endS, thru, sd]
  · have h2 : ¬ chS a = chS b := fun z => h (chS_eq.mp z)
    simp [b_through, slots0, evSs, evS, cmpD, truth, ofO, endS, thru, sd, h]
theorem f_sign {k c : Nat} {st : Store} : C (k + 1) 0 [.str (chS c)] st = .ok (.bl true) st := by rfl
theorem f_turn {k : Nat} {s : Sp} {st : Store} : C (k + 1) 2 [sd s] st = .ok (sd s.turn) st := by
  cases s <;> rfl
theorem f_joint {k : Nat} {s t : Sp} {st : Store} (h1 : s.isDrop = false) (h2 : t.isPut = false) : C (k + 2) 3 [sd s, sd t] st = .ok (.lst (SL (joint s t))) st := by
  cases s <;> first | (cases h1; done) | skip
  all_goals cases t <;> first | (cases h2; done) | rfl | skip
  rename_i a b c d
  have e : C (k + 1) 4 [.str (chS a), .str (chS d)] st = .ok (sd (thru a d)) st := f_thru
  rw [show C (k + 2) 3 [sd (.swap a b), sd (.swap c d)] st = endS (evSs (C (k + 1)) b_joint_step (slots0 2 [sd (.swap a b), sd (.swap c d)]) st) from evCall_at (F := t_joint_step.fd) rfl rfl]
  have q0 : evS (C (k + 1)) (b_joint_step.getD 0 .pass) (slots0 2 [sd (.swap a b), sd (.swap c d)]) st = .next (slots0 2 [sd (.swap a b), sd (.swap c d)]) st := by rfl
  have q1 : evS (C (k + 1)) (b_joint_step.getD 1 .pass) (slots0 2 [sd (.swap a b), sd (.swap c d)]) st = .next (slots0 2 [sd (.swap a b), sd (.swap c d)]) st := by rfl
  have q2 : evS (C (k + 1)) (b_joint_step.getD 2 .pass) (slots0 2 [sd (.swap a b), sd (.swap c d)]) st = .next (slots0 2 [sd (.swap a b), sd (.swap c d)]) st := by rfl
  have v1 : evE (C (k + 1)) (.idx (.var 0) (.int 1)) (slots0 2 [sd (.swap a b), sd (.swap c d)]) st = .ok (.str (chS a)) st := by rfl
  have v2 : evE (C (k + 1)) (.idx (.var 1) (.int 2)) (slots0 2 [sd (.swap a b), sd (.swap c d)]) st = .ok (.str (chS d)) st := by rfl
  have q3 : evS (C (k + 1)) (b_joint_step.getD 3 .pass) (slots0 2 [sd (.swap a b), sd (.swap c d)]) st = .ret (.lst [sd (thru a d)]) st := by
    show evS (C (k + 1)) (.ret (.lst false [(.call 4 "through" [(.idx (.var 0) (.int 1)), (.idx (.var 1) (.int 2))])])) _ st = _
    rw [x_ret, x_lst, x_cons, x_call, x_cons, v1, Res.bind_ok, x_cons, v2]
    simp only [Res.bind_ok, x_nil]
    rw [e]
    rfl
  refine (congrArg endS (evSs_cons q0)).trans ?_
  refine (congrArg endS (evSs_cons q1)).trans ?_
  refine (congrArg endS (evSs_cons q2)).trans ?_
  exact congrArg endS (evSs_ret q3)
theorem f_step {k : Nat} {s : Sp} {st : Store} (h : s.ok = true) : C (k + 2) 1 [sd s] st = .ok (.bl true) st := by
  cases s <;> first | rfl | skip
  rename_i a b
  have h2 : ¬ chS a = chS b := fun z => (of_decide_eq_true h) (chS_eq.mp z)
  rw [show C (k + 2) 1 [sd (.swap a b)] st = endS (evSs (C (k + 1)) b_is_step (slots0 2 [sd (.swap a b)]) st) from evCall_at (F := t_is_step.fd) rfl rfl]
  have q0 : evS (C (k + 1)) (b_is_step.getD 0 .pass) (slots0 2 [sd (.swap a b)]) st = .next (slots0 2 [sd (.swap a b)]) st := by rfl
  have v1 : evE (C (k + 1)) (.cmp .NotEq (.idx (.var 0) (.int 1)) (.idx (.var 0) (.int 2))) (slots0 2 [sd (.swap a b)]) st = .ok (.bl (!decide (chS a = chS b))) st := by rfl
  rw [decide_eq_false h2] at v1
  have q1 : evS (C (k + 1)) (b_is_step.getD 1 .pass) (slots0 2 [sd (.swap a b)]) st = .ret (.bl true) st := by
    have v0 : evE (C (k + 1)) (.cmp .Eq (.bi .len [(.var 0)]) (.int 3)) (slots0 2 [sd (.swap a b)]) st = .ok (.bl true) st := by rfl
    have v2 : evE (C (k + 1)) (.cmp .Eq (.idx (.var 0) (.int 0)) (.str "swap")) (slots0 2 [sd (.swap a b)]) st = .ok (.bl true) st := by rfl
    show evS (C (k + 1)) (.iff (.cmp .Eq (.bi .len [(.var 0)]) (.int 3)) [(.ret (.and_ (.cmp .Eq (.idx (.var 0) (.int 0)) (.str "swap")) (.cmp .NotEq (.idx (.var 0) (.int 1)) (.idx (.var 0) (.int 2)))))] []) _ st = _
    rw [x_iff, x_tru, v0]
    refine Eq.trans (b := evSs (C (k + 1)) [.ret (.and_ (.cmp .Eq (.idx (.var 0) (.int 0)) (.str "swap")) (.cmp .NotEq (.idx (.var 0) (.int 1)) (.idx (.var 0) (.int 2))))] (slots0 2 [sd (.swap a b)]) st) rfl (evSs_ret ?_)
    rw [x_ret, x_and, v2]
    show (evE (C (k + 1)) (.cmp .NotEq (.idx (.var 0) (.int 1)) (.idx (.var 0) (.int 2))) (slots0 2 [sd (.swap a b)]) st).then _ = _
    rw [v1]
    rfl
  refine (congrArg endS (evSs_cons q0)).trans ?_
  exact congrArg endS (evSs_ret q1)
end K43
set_option maxHeartbeats 1000000
namespace K43
open PySem PySem.Spec PyProof.Rows L2 TM
theorem atI_nat {α : Type} {xs : List α} {i : Nat} {x : α} (h : xs[i]? = some x) : atI xs (i : Int) = some x := by
  have hl := (List.getElem?_eq_some_iff.mp h).1
  unfold atI ixN
  rw [if_pos (by omega), if_pos (by omega)]
  show xs[(i : Int).toNat]? = some x
  rw [Int.toNat_natCast]
  exact h
theorem cut_from {xs : List D} {i : Nat} (h : i ≤ xs.length) : TM.cutD xs (some (i : Int)) none = xs.drop i := by
  unfold TM.cutD
  rw [HT.sIx_nat, Nat.min_eq_left h]
  show (xs.drop i).take (xs.length - i) = _
  rw [← List.length_drop, List.take_length]
abbrev jB (i : Nat) : CS := b_joined_steps.getD i .pass
abbrev jBody : List CS := match jB 2 with
  | .for_ _ _ b => b
  | _ => []
abbrev putC : CE := .cmp .Eq (.idx (.idx (.var 1) (.var 3)) (.int 0)) (.str "put")
abbrev putB : List CS := [(.asg (.name 2) (.op .Add (.var 2) (.lst false [(.idx (.var 1) (.var 3))]))), (.asg (.name 3) (.op .Add (.var 3) (.int 1)))]
def jS (p q f : List Sp) (i : Nat) (s : Option D) : Slots := [some (.tup (SL p)), some (.tup (SL q)), some (.lst (SL f)), some (.int i), s]
section
variable {k : Nat} {p q f : List Sp} {i : Nat} {s : Option D} {st : Store}
theorem at_q {x : Sp} (h : q[i]? = some x) : evE (C k) (.idx (.var 1) (.var 3)) (jS p q f i s) st = .ok (sd x) st := by
  rw [x_idx]
  show ofO (atI (SL q) (i : Int)) st = _
  rw [atI_nat (x := sd x) (by rw [List.getElem?_map, h]; rfl)]
  rfl
theorem kind_put {x : Sp} : ∃ y, idxD (sd x) (.int 0) st = some (.str y) ∧ decide (y = Str.ofString "put") = x.isPut := by
  cases x <;> exact ⟨_, rfl, rfl⟩
theorem kind_drop {x : Sp} : ∃ y, idxD (sd x) (.int 0) st = some (.str y) ∧ decide (y = Str.ofString "drop") = x.isDrop := by
  cases x <;> exact ⟨_, rfl, rfl⟩
theorem put_test {x : Sp} (h : q[i]? = some x) : tru (evE (C k) putC) (jS p q f i s) st = .ok x.isPut st := by
  obtain ⟨y, h1, h2⟩ := kind_put (x := x) (st := st)
  rw [x_tru, x_cmp, x_idx, at_q h, Res.bind_ok, x_int, Res.bind_ok, h1]
  show ((Res.ok (D.str y) st).bind fun x st1 => (Res.ok (D.str "put") st1).bind fun y st2 => ofO ((cmpD .Eq x y st2).map D.bl) st2).bind _ = _
  show ofO (truth (.bl (decide (y = Str.ofString "put"))) st) st = _
  rw [h2]
  rfl
theorem add_f {e : CE} {g : List Sp} {sl : Slots} (h : sl[2]? = some (some (.lst (SL f)))) (hg : evE (C k) e sl st = .ok (.lst (SL g)) st) (hl : f.length + g.length ≤ 100000) : evE (C k) (.op .Add (.var 2) e) sl st = .ok (.lst (SL (f ++ g))) st := by
  rw [x_op, x_var, h]
  show (evE (C k) e sl st).bind (fun y st2 => opD .Add (.lst (SL f)) y st2) = _
  rw [hg, Res.bind_ok, opD_lst (by rw [List.length_map, List.length_map, sizeLine_eq]; omega)]
  exact congrArg (fun z => Res.ok (D.lst z) st) List.map_append.symm
theorem put_loop : ∀ (u : List Sp) (f : List Sp) (i n : Nat) (t : Sp) (r : List Sp), q.drop i = u ++ t :: r → (∀ x ∈ u, x.isPut = true) → t.isPut = false → u.length < n → f.length + u.length ≤ 100000 →
    whlLoop (tru (evE (C k) putC)) (fun sl' st' => evSs (C k) putB sl' st') n (jS p q f i s) st = .next (jS p q (f ++ u) (i + u.length) s) st
  | [], f, i, n + 1, t, r, h, _, ht, _, _ => by
    have hq : q[i]? = some t := by
      have : (q.drop i)[0]? = some t := by rw [h]; rfl
      rwa [List.getElem?_drop, Nat.add_zero] at this
    rw [whlLoop, put_test hq, ht]
    show RS.next (jS p q f i s) st = _
    rw [List.append_nil]
    rfl
  | x :: u, f, i, n + 1, t, r, h, hu, ht, hn, hl => by
    have hq : q[i]? = some x := by
      have : (q.drop i)[0]? = some x := by rw [h]; rfl
      rwa [List.getElem?_drop, Nat.add_zero] at this
    have h' : q.drop (i + 1) = u ++ t :: r := by
      rw [← List.drop_drop, h]
      rfl
    simp only [List.length_cons] at hn hl
    have b1 : evS (C k) (.asg (.name 2) (.op .Add (.var 2) (.lst false [(.idx (.var 1) (.var 3))]))) (jS p q f i s) st = .next (jS p q (f ++ [x]) i s) st := by
      rw [x_asg, add_f (f := f) (g := [x]) rfl (by rw [x_lst, x_cons, at_q hq]; rfl) (by simp; omega)]
      rfl
    have b2 : evS (C k) (.asg (.name 3) (.op .Add (.var 3) (.int 1))) (jS p q (f ++ [x]) i s) st = .next (jS p q (f ++ [x]) (i + 1) s) st := by rfl
    rw [whlLoop, put_test hq, hu x List.mem_cons_self]
    show (match evSs (C k) putB (jS p q f i s) st with
      | .next sl' st' => whlLoop (tru (evE (C k) putC)) (fun sl' st' => evSs (C k) putB sl' st') n sl' st'
      | .cnt sl' st' => whlLoop (tru (evE (C k) putC)) (fun sl' st' => evSs (C k) putB sl' st') n sl' st'
      | .brk sl' st' => .next sl' st'
      | .ret v st' => .ret v st'
      | .exc C fs st' => .exc C fs st'
      | .stuck => .stuck) = _
    have b3 : evSs (C k) putB (jS p q f i s) st = .next (jS p q (f ++ [x]) (i + 1) s) st := (evSs_cons b1).trans ((evSs_cons b2).trans rfl)
    rw [b3]
    show whlLoop _ _ n (jS p q (f ++ [x]) (i + 1) s) st = _
    rw [put_loop u (f ++ [x]) (i + 1) n t r h' (fun y hy => hu y (List.mem_cons_of_mem _ hy)) ht (by omega) (by simp; omega), List.append_assoc, List.singleton_append, List.length_cons]
    have : i + 1 + u.length = i + (u.length + 1) := by omega
    rw [this]
end
/-- puts, then a step that takes a letter -/
theorem split_q : ∀ {q : List Sp}, given q ≠ [] → ∃ u t r, q = u ++ t :: r ∧ (∀ x ∈ u, x.isPut = true) ∧ t.isPut = false ∧ given q = given (t :: r)
  | [], h => absurd rfl h
  | t :: q, h => by
    cases ht : t.isPut with
    | false => exact ⟨[], t, q, rfl, fun x hx => absurd hx List.not_mem_nil, ht, rfl⟩
    | true =>
      have e : given (t :: q) = given q := by cases t <;> first | (cases ht; done) | (rw [given_cons]; rfl)
      rw [e] at h
      obtain ⟨u, t', r, h1, h2, h3, h4⟩ := split_q h
      refine ⟨t :: u, t', r, by rw [h1]; rfl, fun x hx => ?_, h3, e.trans h4⟩
      rcases List.mem_cons.mp hx with rfl | hx
      · exact ht
      · exact h2 x hx
section
variable {k : Nat} {p q : List Sp} {st : Store}
theorem join_loop : ∀ (p' f : List Sp) (i : Nat) (s : Option D), made p' = given (q.drop i) → i ≤ q.length → f.length + p'.length + (q.length - i) ≤ 100000 →
    ∃ f' i' s', forLoop none (frF (.name 4) (evSs (C (k + 2)) jBody)) (SL p') (jS p q f i s) st = .next (jS p q f' i' s') st ∧ i' ≤ q.length ∧ f' ++ q.drop i' = f ++ J p' (q.drop i)
  | [], f, i, s, _, hi, _ => ⟨f, i, s, by show forLoop _ _ [] _ _ = _; rw [forLoop]; exact if_pos rfl, hi, by rw [J_nil]⟩
  | x :: p', f, i, s, hm, hi, hl => by
    simp only [List.length_cons] at hl
    have tst : tru (evE (C (k + 2)) (.cmp .Eq (.idx (.var 4) (.int 0)) (.str "drop"))) (jS p q f i (some (sd x))) st = .ok x.isDrop st := by
      obtain ⟨y, h1, h2⟩ := kind_drop (x := x) (st := st)
      rw [x_tru, x_cmp, x_idx]
      show ((ofO (idxD (sd x) (.int 0) st) st).bind fun x st1 => (Res.ok (D.str "drop") st1).bind fun y st2 => ofO ((cmpD .Eq x y st2).map D.bl) st2).bind _ = _
      rw [h1]
      show ofO (truth (.bl (decide (y = Str.ofString "drop"))) st) st = _
      rw [h2]
      rfl
    have step : ∀ sl2, evSs (C (k + 2)) jBody (jS p q f i (some (sd x))) st = .next sl2 st → forLoop none (frF (.name 4) (evSs (C (k + 2)) jBody)) (SL (x :: p')) (jS p q f i s) st = forLoop none (frF (.name 4) (evSs (C (k + 2)) jBody)) (SL p') sl2 st := fun sl2 h => by
      show forLoop none (frF (.name 4) (evSs (C (k + 2)) jBody)) (sd x :: SL p') (jS p q f i s) st = _
      rw [forLoop, if_pos (show srcOk none st = true from rfl), frF_some (sl' := jS p q f i (some (sd x))) rfl, h]
    cases hx : x.isDrop with
    | true =>
      cases x <;> first | (cases hx; done) | skip
      rename_i c
      have hm' : made p' = given (q.drop i) := by rw [← hm, made_cons]; rfl
      obtain ⟨f', i', s', e, h1, h2⟩ := join_loop p' (f ++ [.drop c]) i (some (sd (.drop c))) hm' hi (by simp; omega)
      refine ⟨f', i', s', ?_, h1, by rw [h2, J_drop, List.append_assoc]; rfl⟩
      rw [step (jS p q (f ++ [.drop c]) i (some (sd (.drop c)))) ?_, e]
      have b1 : evS (C (k + 2)) (.asg (.name 2) (.op .Add (.var 2) (.lst false [(.var 4)]))) (jS p q f i (some (sd (.drop c)))) st = .next (jS p q (f ++ [.drop c]) i (some (sd (.drop c)))) st := by
        rw [x_asg, add_f (f := f) (g := [.drop c]) rfl rfl (by simp; omega)]
        rfl
      refine (evSs_cons (?_ : evS (C (k + 2)) (jBody.getD 0 .pass) _ st = _)).trans rfl
      refine Eq.trans (x_iff (t := .cmp .Eq (.idx (.var 4) (.int 0)) (.str "drop"))) ?_
      rw [tst, hx]
      exact (evSs_cons b1).trans rfl
    | false =>
      obtain ⟨a, ha⟩ : ∃ a, x.new = some a := by cases x <;> first | (cases hx; done) | exact ⟨_, rfl⟩
      have hne : given (q.drop i) ≠ [] := by
        rw [← hm, made_cons, ha]
        exact fun z => by cases z
      obtain ⟨u, t, r, hq, hu, ht, hg⟩ := split_q hne
      have lq : q.length - i = u.length + (r.length + 1) := by
        have := congrArg List.length hq
        simp only [List.length_drop, List.length_append, List.length_cons] at this
        omega
      have hr : q.drop (i + u.length + 1) = r := by
        rw [← List.drop_drop, ← List.drop_drop, hq, List.drop_left]
        rfl
      have hat : q[i + u.length]? = some t := by
        have : (q.drop i)[u.length]? = some t := by rw [hq, List.getElem?_append_right (Nat.le_refl _), Nat.sub_self]; rfl
        rwa [List.getElem?_drop] at this
      have hm' : made p' = given (q.drop (i + u.length + 1)) := by
        rw [hr]
        rw [hg, made_cons, given_cons, ha] at hm
        obtain ⟨b, hb⟩ : ∃ b, t.old = some b := by cases t <;> first | (cases ht; done) | exact ⟨_, rfl⟩
        rw [hb] at hm
        have hm2 : a :: made p' = b :: given r := hm
        exact (List.cons.inj hm2).2
      have lj := joint_len (s := x) (t := t)
      obtain ⟨f', i', s', e, h1, h2⟩ := join_loop p' (f ++ u ++ joint x t) (i + u.length + 1) (some (sd x)) hm' (by omega) (by simp only [List.length_append]; omega)
      refine ⟨f', i', s', ?_, h1, ?_⟩
      · rw [step (jS p q (f ++ u ++ joint x t) (i + u.length + 1) (some (sd x))) ?_, e]
        have w1 : evS (C (k + 2)) (.whl putC putB) (jS p q f i (some (sd x))) st = .next (jS p q (f ++ u) (i + u.length) (some (sd x))) st :=
          put_loop u f i wfuel t r hq hu ht (by show _ < 1000000; omega) (by omega)
        have w2 : evS (C (k + 2)) (.asg (.name 2) (.op .Add (.var 2) (.call 3 "joint_step" [(.var 4), (.idx (.var 1) (.var 3))]))) (jS p q (f ++ u) (i + u.length) (some (sd x))) st = .next (jS p q (f ++ u ++ joint x t) (i + u.length) (some (sd x))) st := by
          rw [x_asg, add_f (f := f ++ u) (g := joint x t) rfl ?_ (by simp only [List.length_append]; omega)]
          · rfl
          · rw [x_call, x_cons]
            show ((evEs (C (k + 2)) [(.idx (.var 1) (.var 3))] (jS p q (f ++ u) (i + u.length) (some (sd x))) st).bind fun ds st2 => Res.ok (sd x :: ds) st2).bind _ = _
            rw [x_cons, at_q hat]
            exact f_joint hx ht
        have w3 : evS (C (k + 2)) (.asg (.name 3) (.op .Add (.var 3) (.int 1))) (jS p q (f ++ u ++ joint x t) (i + u.length) (some (sd x))) st = .next (jS p q (f ++ u ++ joint x t) (i + u.length + 1) (some (sd x))) st := by rfl
        refine (evSs_cons (?_ : evS (C (k + 2)) (jBody.getD 0 .pass) _ st = _)).trans rfl
        refine Eq.trans (x_iff (t := .cmp .Eq (.idx (.var 4) (.int 0)) (.str "drop"))) ?_
        rw [tst, hx]
        exact (evSs_cons w1).trans ((evSs_cons w2).trans ((evSs_cons w3).trans rfl))
      · rw [h2, hr, hq, J_puts hx hu, J_joint hx ht]
        simp only [List.append_assoc]
theorem f_joined (h : made p = given q) (hl : p.length + q.length ≤ 50000) : C (k + 3) 5 [.tup (SL p), .tup (SL q)] st = .ok (.lst (SL (J p q))) st := by
  rw [show C (k + 3) 5 [.tup (SL p), .tup (SL q)] st = endS (evSs (C (k + 2)) [jB 0, jB 1, jB 2, jB 3] (slots0 5 [.tup (SL p), .tup (SL q)]) st) from evCall_at (F := t_joined_steps.fd) rfl rfl]
  obtain ⟨f', i', s', e, h1, h2⟩ := join_loop (k := k) (p := p) (q := q) (st := st) p [] 0 none (by rw [List.drop_zero]; exact h) (Nat.zero_le _) (by simp; omega)
  rw [List.drop_zero, List.nil_append] at h2
  have q0 : evS (C (k + 2)) (jB 0) (slots0 5 [.tup (SL p), .tup (SL q)]) st = .next [some (.tup (SL p)), some (.tup (SL q)), some (.lst []), none, none] st := rfl
  have q1 : evS (C (k + 2)) (jB 1) [some (.tup (SL p)), some (.tup (SL q)), some (.lst []), none, none] st = .next (jS p q [] 0 none) st := rfl
  have q2 : evS (C (k + 2)) (jB 2) (jS p q [] 0 none) st = .next (jS p q f' i' s') st := e
  have q3 : evS (C (k + 2)) (jB 3) (jS p q f' i' s') st = .ret (.lst (SL (J p q))) st := by
    have v : evE (C (k + 2)) (.bi .list [(.sl (.var 1) (.some (.var 3)) .none)]) (jS p q f' i' s') st = .ok (.lst (SL (q.drop i'))) st := by
      show biD .list [.tup (TM.cutD (SL q) (some (i' : Int)) none)] st = _
      rw [cut_from (by rw [List.length_map]; exact h1), ← List.map_drop]
      rfl
    have lj := J_len p q h
    rw [← h2, List.length_append] at lj
    refine Eq.trans (x_ret (e := .op .Add (.var 2) (.bi .list [(.sl (.var 1) (.some (.var 3)) .none)]))) ?_
    rw [add_f (f := f') (g := q.drop i') rfl v (by omega), h2]
    rfl
  refine (congrArg endS (evSs_cons q0)).trans ?_
  refine (congrArg endS (evSs_cons q1)).trans ?_
  refine (congrArg endS (evSs_cons q2)).trans ?_
  exact congrArg endS (evSs_ret q3)
end
end K43
set_option maxHeartbeats 1000000
namespace K43
open PySem PySem.Spec PyProof.Rows L2 TM
/-! ### instances, methods: runs that only add cells -/
section
variable {cl : Nat → List D → Store → Res D} {sl : Slots} {a b c e r : CE} {es : List CE} {ds : List D} {x y z d : D}
theorem r_mth {w : Way} {CC f : Nat} {m : Str} (hx : Rn cl r sl x) (hi : ∀ st, isI m CC x st = true) (hs : Rns cl es sl ds) (hc : ∀ st, (isC CC x st && wayOk w CC ds st) = true) (hr : Rc cl f (x :: ds) d) (he : ∀ st, wayEnd w d st = .ok z st) : Rn cl (.mth w CC f m r es) sl z := by
  have k : ∀ st, ∃ ex, ((evEs cl es sl st).bind fun ds st2 => if isC CC x st2 && wayOk w CC ds st2 then (cl f (x :: ds) st2).bind fun d st3 => wayEnd w d st3 else .stuck) = .ok z (st ++ ex) :=
    r_bindL (f := fun ds st2 => if isC CC x st2 && wayOk w CC ds st2 then (cl f (x :: ds) st2).bind fun d st3 => wayEnd w d st3 else .stuck) hs fun st => by
      rw [if_pos (hc st)]
      exact r_bind (f := fun d st3 => wayEnd w d st3) hr (r_ok he) st
  refine r_bind (f := fun x st1 => if isI m CC x st1 then (evEs cl es sl st1).bind fun ds st2 => if isC CC x st2 && wayOk w CC ds st2 then (cl f (x :: ds) st2).bind fun d st3 => wayEnd w d st3 else .stuck else .stuck) hx fun st => ?_
  rw [if_pos (hi st)]
  exact k st
theorem r_mthK {CC f : Nat} {m : Str} {ks : List Str} {ls : List CE} {pm : List Nat} {zs vs : List D} (hx : Rn cl r sl x) (hi : ∀ st, isI m CC x st = true) (hs : Rns cl ls sl zs) (hp : permA (x :: [] ++ zs) pm = some vs) (hr : Rc cl f vs z) : Rn cl (.mthK CC f m ks r [] ls pm) sl z := by
  refine r_bind (f := fun x st1 => if isI m CC x st1 then (evEs cl [] sl st1).bind fun ds st2 => (evEs cl ls sl st2).bind fun zs st3 => (match permA (x :: ds ++ zs) pm with
    | some vs => cl f vs st3
    | none => .stuck : Res D) else .stuck) hx fun st => ?_
  rw [if_pos (hi st)]
  show ∃ ex, ((evEs cl ls sl st).bind fun zs st3 => (match permA (x :: [] ++ zs) pm with
    | some vs => cl f vs st3
    | none => .stuck : Res D)) = _
  exact r_bindL (f := fun zs st3 => (match permA (x :: [] ++ zs) pm with
    | some vs => cl f vs st3
    | none => .stuck : Res D)) hs (fun st => by rw [hp]; exact hr st) st
theorem r_fld {nc CC : Nat} {x : Str} {fs : List (Str × D)} (h : Rn cl e sl (.obj CC fs)) (hc : CC < nc) (hl : fs.lookup x = some d) : Rn cl (.fld nc e x) sl d :=
  r_bind (f := fun d st1 => (match fldsOf d st1 with
    | some (C, fs) => if C < nc then ofO (fs.lookup x) st1 else .stuck
    | none => .stuck : Res D)) h (r_ok fun st => by
    show (if CC < nc then ofO (fs.lookup x) st else .stuck) = _
    rw [if_pos hc, hl]
    rfl)
theorem r_cmth {CC f : Nat} {x m : Str} (h : Rns cl es sl ds) (hr : Rc cl f (.cls CC :: ds) z) : Rn cl (.cmth CC f x m es) sl z := r_bindL (f := fun ds st1 => cl f (.cls CC :: ds) st1) h hr
theorem r_isc {nc : Nat} {nm : Str} {anc : List Nat} {k : Bool} (h : Rn cl e sl x) (h2 : ∀ st, iscD nc anc x st = some k) : Rn cl (.isc nc e nm anc) sl (.bl k) :=
  r_bind (f := fun x st1 => ofO ((iscD nc anc x st1).map D.bl) st1) h (r_ok fun st => by rw [h2]; rfl)
theorem r_me {m : Me} (h : Rn cl r sl x) (ht : ∀ st, meTy m x st = true) (hs : Rns cl es sl ds) (hm : ∀ st, meD m x ds st = .ok z st) : Rn cl (.me m r es) sl z := by
  refine r_bind (f := fun x st1 => if meTy m x st1 then (evEs cl es sl st1).bind fun ds st2 => meD m x ds st2 else .stuck) h fun st => ?_
  rw [if_pos (ht st)]
  exact r_bindL (f := fun ds st2 => meD m x ds st2) hs (r_ok hm) st
/-- a new instance -/
theorem new_run {CC f : Nat} {fs : List (Str × D)} (hs : Rns cl es sl ds) (hi : ∀ st0 : Store, ∃ ex, cl f (.loc st0.length :: ds) (st0 ++ [.ins CC []]) = .ok .non (st0 ++ .ins CC fs :: ex)) :
    ∀ st, ∃ ex, ((evEs cl es sl st).bind fun ds st1 => (cl f (.loc st1.length :: ds) (st1 ++ [.ins CC []])).bind fun r st2 => if r = .non then newEnd false st1.length CC st2 else .stuck) = .ok (.obj CC fs) (st ++ ex) :=
  r_bindL (f := fun ds st1 => (cl f (.loc st1.length :: ds) (st1 ++ [.ins CC []])).bind fun r st2 => if r = .non then newEnd false st1.length CC st2 else .stuck) hs fun st => by
    obtain ⟨ex, q⟩ := hi st
    refine ⟨.dead :: ex, ?_⟩
    rw [q, Res.bind_ok, if_pos rfl]
    unfold newEnd
    have e : (st ++ .ins CC fs :: ex)[st.length]? = some (.ins CC fs) := by
      rw [List.getElem?_append_right (Nat.le_refl _), Nat.sub_self]
      rfl
    rw [e]
    dsimp only
    rw [if_pos rfl]
    show Res.ok (D.obj CC fs) ((st ++ .ins CC fs :: ex).set st.length .dead) = _
    rw [List.set_append_right _ _ (Nat.le_refl _), Nat.sub_self]
    rfl
theorem r_new {CC f : Nat} {x : Str} {fs : List (Str × D)} (hs : Rns cl es sl ds) (hi : ∀ st0 : Store, ∃ ex, cl f (.loc st0.length :: ds) (st0 ++ [.ins CC []]) = .ok .non (st0 ++ .ins CC fs :: ex)) : Rn cl (.new false CC f x es) sl (.obj CC fs) := new_run hs hi
theorem r_newv {i CC f : Nat} {fs : List (Str × D)} (hi0 : sl[i]? = some (some (.cls CC))) (hs : Rns cl es sl ds) (hi : ∀ st0 : Store, ∃ ex, cl f (.loc st0.length :: ds) (st0 ++ [.ins CC []]) = .ok .non (st0 ++ .ins CC fs :: ex)) : Rn cl (.newv false i CC f es) sl (.obj CC fs) := fun st => by
  obtain ⟨ex, q⟩ := new_run hs hi st
  refine ⟨ex, ?_⟩
  show (if sl[i]? = some (some (.cls CC)) then _ else _) = _
  rw [if_pos hi0]
  exact q
/-- self.x = e, while the instance is made -/
theorem sa_ok {nc CC : Nat} {x : Str} {fs : List (Str × D)} {st0 ex : Store} (h : Rn cl e sl d) (h0 : sl[0]? = some (some (.loc st0.length))) (hc : CC < nc) (hl : fs.length < 1000) : ∃ ex', evS cl (.setA nc (.var 0) x e) sl (st0 ++ .ins CC fs :: ex) = .next sl (st0 ++ .ins CC (putFD x d fs) :: ex') := by
  obtain ⟨e1, q⟩ := h (st0 ++ .ins CC fs :: ex)
  refine ⟨ex ++ e1, ?_⟩
  show (evE cl e sl _).then (fun v st1 => (evE cl (.var 0) sl st1).then fun d st2 => (match setAD nc d x v st2 with
    | some st3 => .next sl st3
    | none => .stuck : RS)) = _
  rw [q, Res.then_ok, x_var, h0]
  show (match setAD nc (.loc st0.length) x d (st0 ++ .ins CC fs :: ex ++ e1) with
    | some st3 => .next sl st3
    | none => .stuck : RS) = _
  have e : (st0 ++ .ins CC fs :: ex ++ e1)[st0.length]? = some (.ins CC fs) := by
    rw [List.append_assoc, List.getElem?_append_right (Nat.le_refl _), Nat.sub_self]
    rfl
  unfold setAD
  dsimp only
  rw [e]
  dsimp only
  rw [if_pos ⟨hl, hc⟩]
  show RS.next sl ((st0 ++ .ins CC fs :: ex ++ e1).set st0.length _) = _
  rw [List.append_assoc, List.set_append_right _ _ (Nat.le_refl _), Nat.sub_self]
  rfl
end
/-! ### texts of letters -/
theorem tl_chS (c : Nat) : TL.tl (chS c) = [c] := rfl
theorem joinL_one : ∀ l : List Nat, TL.joinL [] (l.map fun c => [c]) = l
  | [] => rfl
  | [c] => rfl
  | c :: d :: l => by
    have := joinL_one (d :: l)
    show [c] ++ ([] ++ TL.joinL [] ((d :: l).map fun c => [c])) = _
    rw [this]
    rfl
theorem str_ext {a b : Str} (h : TL.tl a = TL.tl b) : a = b := by
  obtain ⟨⟨a⟩⟩ := a
  obtain ⟨⟨b⟩⟩ := b
  cases (show a = b from h)
  rfl
theorem join_tS (l : List Nat) : Txt.join "" (l.map chS) = tS l := by
  apply str_ext
  rw [TL.join_eq, TL.tl_join, List.map_map]
  have e : (TL.tl ∘ chS) = fun c => [c] := rfl
  rw [e]
  exact joinL_one l
theorem tS_inj {a b : List Nat} : tS a = tS b ↔ a = b := ⟨fun h => by
  have := congrArg (fun s : Str => s.cps.toList) h
  simpa [tS] using this, fun h => by rw [h]⟩
theorem strs_ch : ∀ l : List Nat, strsOf (l.map fun c => D.str (chS c)) = some (l.map chS)
  | [] => rfl
  | c :: l => by
    show (strsOf (l.map fun c => D.str (chS c))).map (chS c :: ·) = _
    rw [strs_ch l]
    rfl
section
variable {cl : Nat → List D → Store → Res D} {sl : Slots} {e : CE}
theorem r_word {l : List Nat} (h : Rn cl e sl (.lst (l.map fun c => D.str (chS c)))) (hl : l.length ≤ 100000) : Rn cl (.me .join (.str "") [e]) sl (.str (tS l)) :=
  r_me r_str (fun _ => rfl) (rs_cons h rs_nil) fun st => by
    show (match (asQ (.lst (l.map fun c => D.str (chS c))) st).bind strsOf with
      | some ys => if (ys.map fun y : Str => y.length).sum + ys.length * Str.length "" ≤ 16777216 then Res.ok (D.str (Txt.join "" ys)) st else .stuck
      | none => .stuck) = _
    rw [show (asQ (.lst (l.map fun c => D.str (chS c))) st).bind strsOf = some (l.map chS) from strs_ch l]
    dsimp only
    rw [if_pos, join_tS]
    rw [List.map_map, List.length_map]
    have e1 : ∀ l : List Nat, (l.map ((fun s : Str => s.length) ∘ chS)).sum = l.length := by
      intro l
      induction l with
      | nil => rfl
      | cons c l ih =>
        rw [List.map_cons, List.sum_cons, ih, List.length_cons]
        show 1 + l.length = l.length + 1
        omega
    have e2 : Str.length "" = 0 := rfl
    have e3 := e1 l
    rw [e2, Nat.mul_zero, Nat.add_zero]
    exact Nat.le_trans (Nat.le_of_eq e3) (by omega)
end
theorem paired_map {α β γ : Type} {R : β → γ → Prop} {f : α → β} {g : α → γ} : ∀ {l : List α}, (∀ x ∈ l, R (f x) (g x)) → Paired R (l.map f) (l.map g)
  | [], _ => .nil
  | x :: l, h => .cons (h x List.mem_cons_self) (paired_map fun y hy => h y (List.mem_cons_of_mem _ hy))
end K43
set_option maxHeartbeats 1000000
namespace K43
open PySem PySem.Spec PyProof.Rows L2 TM
/-! ### letters -/
def lets : Sp → List Nat
  | .keep c => [c]
  | .put c => [c]
  | .drop c => [c]
  | .swap a b => [a, b]
def LB (p : List Sp) : Prop := ∀ s ∈ p, ∀ c ∈ lets s, c < 128
/-- a good script -/
structure Gd (p : List Sp) : Prop where
  ok : okL p = true
  lb : LB p
  len : p.length ≤ 10000
theorem LB_cons {s : Sp} {p : List Sp} : LB (s :: p) ↔ (∀ c ∈ lets s, c < 128) ∧ LB p := ⟨fun h => ⟨h s List.mem_cons_self, fun t ht => h t (List.mem_cons_of_mem _ ht)⟩, fun ⟨h1, h2⟩ t ht => by
  rcases List.mem_cons.mp ht with rfl | ht
  · exact h1
  · exact h2 t ht⟩
theorem LB_app {p q : List Sp} (h1 : LB p) (h2 : LB q) : LB (p ++ q) := fun s hs => by
  rcases List.mem_append.mp hs with h | h
  · exact h1 s h
  · exact h2 s h
theorem joint_LB {s t : Sp} (h1 : ∀ c ∈ lets s, c < 128) (h2 : ∀ c ∈ lets t, c < 128) : LB (joint s t) := by
  have ht : ∀ x y, x < 128 → y < 128 → ∀ c ∈ lets (thru x y), c < 128 := fun x y hx hy c hc => by
    unfold thru at hc
    split at hc
    · simp [lets] at hc; omega
    · simp [lets] at hc; omega
  intro u hu
  cases s <;> cases t <;> simp [joint] at hu
  all_goals try subst hu
  all_goals first | exact h1 | exact h2 | skip
  all_goals intro c hc
  all_goals simp [lets] at h1 h2
  all_goals first
    | (simp [lets] at hc; omega)
    | exact ht _ _ h1.1 h2.2 c hc
theorem J_LB (p q : List Sp) (h : made p = given q) : LB p → LB q → LB (J p q) := by
  refine J_ind' (P := fun p q => LB p → LB q → LB (J p q)) (fun q _ _ hq => by rw [J_nil]; exact hq) (fun c p q _ ih hp hq => ?_) (fun s p c q hs _ ih hp hq => ?_) (fun s t p q x hs ht hx hy _ ih hp hq => ?_) p q h
  · rw [LB_cons] at hp
    rw [J_drop, LB_cons]
    exact ⟨hp.1, ih hp.2 hq⟩
  · rw [LB_cons] at hq
    rw [J_put hs, LB_cons]
    exact ⟨hq.1, ih hp hq.2⟩
  · rw [LB_cons] at hp hq
    rw [J_joint hs ht]
    exact LB_app (joint_LB hp.1 hq.1) (ih hp.2 hq.2)
theorem Gd.J {p q : List Sp} (h : made p = given q) (h1 : Gd p) (h2 : Gd q) (hl : p.length + q.length ≤ 10000) : Gd (J p q) := ⟨J_ok p q h h1.ok h2.ok, J_LB p q h h1.lb h2.lb, Nat.le_trans (J_len p q h) hl⟩
theorem Gd.inv {p : List Sp} (h : Gd p) : Gd (inv p) := ⟨ok_inv p h.ok, fun s hs => by
  obtain ⟨t, ht, rfl⟩ := List.mem_map.mp hs
  have := h.lb t ht
  cases t <;> simp_all [lets, Sp.turn], by unfold K43.inv; rw [List.length_map]; exact h.len⟩
theorem given_lt {p : List Sp} (h : LB p) : ∀ c ∈ given p, c < 128 := fun c hc => by
  obtain ⟨s, hs, e⟩ := List.mem_filterMap.mp hc
  have := h s hs
  cases s <;> simp_all [lets, Sp.old]
theorem made_lt {p : List Sp} (h : LB p) : ∀ c ∈ made p, c < 128 := fun c hc => by
  obtain ⟨s, hs, e⟩ := List.mem_filterMap.mp hc
  have := h s hs
  cases s <;> simp_all [lets, Sp.new]
theorem given_le {p : List Sp} : (given p).length ≤ p.length := List.length_filterMap_le _ _
theorem made_le {p : List Sp} : (made p).length ≤ p.length := List.length_filterMap_le _ _
theorem Gd.kept {l : List Nat} (h : ∀ c ∈ l, c < 128) (hl : l.length ≤ 10000) : Gd (kept l) := ⟨ok_kept l, fun s hs => by
  obtain ⟨t, ht, rfl⟩ := List.mem_map.mp hs
  simpa [lets] using h t ht, by unfold K43.kept; rw [List.length_map]; exact hl⟩
/-! ### equal tuples of steps -/
def pyS : Sp → PyData
  | .keep c => .tuple [.str "keep", .str (chS c)]
  | .put c => .tuple [.str "put", .str (chS c)]
  | .drop c => .tuple [.str "drop", .str (chS c)]
  | .swap a b => .tuple [.str "swap", .str (chS a), .str (chS b)]
theorem py_sd (s : Sp) : D.py (sd s) = some (pyS s) := by cases s <;> rfl
theorem py_SL : ∀ p : List Sp, D.pyL (SL p) = some (p.map pyS)
  | [] => rfl
  | s :: p => by
    have := py_SL p
    show (match D.py (sd s), D.pyL (SL p) with
      | some a, some b => some (a :: b)
      | _, _ => none) = _
    rw [py_sd, this]
    rfl
theorem eqv_S (s : Sp) : PyData.eqv (pyS s) (pyS s) = true := by
  cases s <;> simp [pyS, PyData.eqv, PyData.eqvAll]
theorem eqv_SL : ∀ p : List Sp, PyData.eqvAll (p.map pyS) (p.map pyS) = true
  | [] => by simp [PyData.eqvAll]
  | s :: p => by simp [PyData.eqvAll, eqv_S, eqv_SL p]
theorem strOk_ch {c : Nat} (h : c < 128) : PyData.strOk (chS c) = true := by
  unfold PyData.strOk
  simp
  omega
theorem lay_S {s : Sp} (h : ∀ c ∈ lets s, c < 128) : PyData.canLay0 (pyS s) = true := by
  cases s <;> simp [lets] at h <;> simp [pyS, PyData.canLay0, PyData.canLayAll0, strOk_ch, h] <;> decide +kernel
theorem lay_SL : ∀ {p : List Sp}, LB p → PyData.canLayAll0 (p.map pyS) = true
  | [], _ => by simp [PyData.canLayAll0]
  | s :: p, h => by
    rw [LB_cons] at h
    simp [PyData.canLayAll0, lay_S h.1, lay_SL h.2]
theorem dep_S (s : Sp) : PyData.depth (pyS s) = 1 := by
  cases s <;> simp [pyS, PyData.depth, PyData.depthAll]
theorem dep_SL : ∀ p : List Sp, PyData.depthAll (p.map pyS) ≤ 1
  | [] => by simp [PyData.depthAll]
  | s :: p => by
    have := dep_SL p
    simp only [List.map_cons, PyData.depthAll, dep_S]
    omega
theorem eq_SL {p : List Sp} (h : LB p) (st : Store) : cmpD .Eq (.tup (SL p)) (.tup (SL p)) st = some true := by
  show eqRes0 (.tup (SL p)) (.tup (SL p)) st = some true
  have e : pyOf (.tup (SL p)) st = some (.tuple (p.map pyS)) := by
    show (D.pyL (SL p)).map PyData.tuple = _
    rw [py_SL]
    rfl
  unfold eqRes0
  rw [e]
  have s1 : SeqAt.shaped (.tuple (p.map pyS)) = true := by
    unfold SeqAt.shaped
    have d := dep_SL p
    rw [Bool.and_eq_true]
    refine ⟨?_, decide_eq_true ?_⟩
    · simp only [PyData.canLay0]
      exact lay_SL h
    · simp only [PyData.depth]
      omega
  dsimp only
  rw [s1]
  simp [PyData.eqv, eqv_SL]
/-! ### the class -/
section
variable {k : Nat} {p q : List Sp}
abbrev inB (i : Nat) : CS := b_Script___init__.getD i .pass
def fsS (p : List Sp) : List (Str × D) := [("steps", .tup (SL p)), ("given", .str (tS (given p))), ("made", .str (tS (made p)))]
theorem all_true : ∀ p : List Sp, blsOf (p.map fun _ => D.bl true) = some (p.map fun _ => true)
  | [] => rfl
  | _ :: p => by
    show (blsOf (p.map fun _ => D.bl true)).map (true :: ·) = _
    rw [all_true p]
    rfl
theorem r_all {cl : Nat → List D → Store → Res D} {sl : Slots} {e : CE} (h : Rn cl e sl (.lst (p.map fun _ => D.bl true))) : Rn cl (.bi .all [e]) sl (.bl true) := r_bi (rs_cons h rs_nil) fun st => by
  show (match (asL (.lst (p.map fun _ => D.bl true)) st).bind blsOf with
    | some bs => Res.ok (D.bl (bs.all id)) st
    | none => .stuck) = _
  rw [show (asL (.lst (p.map fun _ => D.bl true)) st).bind blsOf = _ from all_true p]
  dsimp only
  congr 2
  rw [List.all_map, List.all_eq_true]
  exact fun _ _ => rfl
/-- letters picked from steps -/
theorem r_pick {cl : Nat → List D → Store → Res D} {sl : Slots} {it : CI} {own : List (Str × Nat)} {t : CT} {c e : CE} {g : Sp → Option Nat} (hi : Ri cl it sl (SL p)) (h : ∀ s ∈ p, ∃ sl', asgT t (sd s) (wipeD sl (own.map (·.2))) = some sl' ∧ (∃ x, Rn cl c sl' x ∧ ∀ st, truth x st = some (g s).isSome) ∧ ∀ n, g s = some n → Rn cl e sl' (.str (chS n))) (hl : p.length ≤ 10000) :
    Rn cl (.lc false own t it [c] e) sl (.lst ((p.filterMap g).map fun n => D.str (chS n))) := by
  have q := r_lcF (ys := p.map fun s => (g s).map fun n => D.str (chS n)) hi (paired_map (f := sd) (g := fun s => (g s).map fun n => D.str (chS n)) fun s hs => by
    obtain ⟨sl', h1, ⟨x, h2, h3⟩, h4⟩ := h s hs
    refine ⟨sl', x, h1, h2, fun st => by rw [h3, Option.isSome_map], fun w hw => ?_⟩
    rw [Option.map_eq_some_iff] at hw
    obtain ⟨n, hn, rfl⟩ := hw
    exact h4 n hn) (by rw [List.length_map]; omega)
  have e : (p.map fun s => (g s).map fun n => D.str (chS n)).filterMap id = (p.filterMap g).map fun n => D.str (chS n) := by
    rw [List.filterMap_map, List.map_filterMap]
    rfl
  rwa [e] at q
theorem r_given {cl : Nat → List D → Store → Res D} {sl : Slots} {it : CI} {j : Nat} {nm : Str} (hj : j < sl.length) (hi : Ri cl it sl (SL p)) (hl : p.length ≤ 10000) : Rn cl (.me .join (.str "") [(.lc false [(nm, j)] (.name j) it [(.cmp .NotEq (.idx (.var j) (.int 0)) (.str "put"))] (.idx (.var j) (.int 1)))]) sl (.str (tS (given p))) := by
  refine r_word (r_pick (g := Sp.old) hi (fun s hs => ?_) hl) (Nat.le_trans given_le (by omega))
  have hw : j < (wipeD sl [j]).length := by rw [wipeD_len]; exact hj
  refine ⟨(wipeD sl [j]).set j (some (sd s)), if_pos hw, ?_, ?_⟩
  · have v : ((wipeD sl [j]).set j (some (sd s)))[j]? = some (some (sd s)) := List.getElem?_set_self hw
    cases s with
    | keep c => exact ⟨.bl true, r_cmp (r_idx (x := sd (.keep c)) (r_var v) r_int (z := .str "keep") fun _ => rfl) r_str fun _ => rfl, fun _ => rfl⟩
    | put c => exact ⟨.bl false, r_cmp (r_idx (x := sd (.put c)) (r_var v) r_int (z := .str "put") fun _ => rfl) r_str fun _ => rfl, fun _ => rfl⟩
    | drop c => exact ⟨.bl true, r_cmp (r_idx (x := sd (.drop c)) (r_var v) r_int (z := .str "drop") fun _ => rfl) r_str fun _ => rfl, fun _ => rfl⟩
    | swap a b => exact ⟨.bl true, r_cmp (r_idx (x := sd (.swap a b)) (r_var v) r_int (z := .str "swap") fun _ => rfl) r_str fun _ => rfl, fun _ => rfl⟩
  · intro n hn
    have v : ((wipeD sl [j]).set j (some (sd s)))[j]? = some (some (sd s)) := List.getElem?_set_self hw
    refine r_idx (r_var v) r_int fun _ => ?_
    cases s <;> simp only [Sp.old, Option.some.injEq, reduceCtorEq] at hn <;> subst hn <;> rfl
theorem r_made {cl : Nat → List D → Store → Res D} {sl : Slots} {it : CI} {j : Nat} {nm : Str} (hj : j < sl.length) (hi : Ri cl it sl (SL p)) (hl : p.length ≤ 10000) : Rn cl (.me .join (.str "") [(.lc false [(nm, j)] (.name j) it [(.cmp .NotEq (.idx (.var j) (.int 0)) (.str "drop"))] (.idx (.var j) (.neg (.int 1))))]) sl (.str (tS (made p))) := by
  refine r_word (r_pick (g := Sp.new) hi (fun s hs => ?_) hl) (Nat.le_trans made_le (by omega))
  have hw : j < (wipeD sl [j]).length := by rw [wipeD_len]; exact hj
  refine ⟨(wipeD sl [j]).set j (some (sd s)), if_pos hw, ?_, ?_⟩
  · have v : ((wipeD sl [j]).set j (some (sd s)))[j]? = some (some (sd s)) := List.getElem?_set_self hw
    cases s with
    | keep c => exact ⟨.bl true, r_cmp (r_idx (x := sd (.keep c)) (r_var v) r_int (z := .str "keep") fun _ => rfl) r_str fun _ => rfl, fun _ => rfl⟩
    | put c => exact ⟨.bl true, r_cmp (r_idx (x := sd (.put c)) (r_var v) r_int (z := .str "put") fun _ => rfl) r_str fun _ => rfl, fun _ => rfl⟩
    | drop c => exact ⟨.bl false, r_cmp (r_idx (x := sd (.drop c)) (r_var v) r_int (z := .str "drop") fun _ => rfl) r_str fun _ => rfl, fun _ => rfl⟩
    | swap a b => exact ⟨.bl true, r_cmp (r_idx (x := sd (.swap a b)) (r_var v) r_int (z := .str "swap") fun _ => rfl) r_str fun _ => rfl, fun _ => rfl⟩
  · intro n hn
    have v : ((wipeD sl [j]).set j (some (sd s)))[j]? = some (some (sd s)) := List.getElem?_set_self hw
    refine r_idx (r_var v) (r_of fun _ => (rfl : _ = Res.ok (D.int (-1)) _)) fun _ => ?_
    cases s <;> simp only [Sp.new, Option.some.injEq, reduceCtorEq] at hn <;> subst hn <;> rfl
theorem init_lst (hp : okL p = true) (hl : p.length ≤ 10000) (st0 : Store) : ∃ ex, C (k + 3) 6 [.loc st0.length, .lst (SL p)] (st0 ++ [.ins 0 []]) = .ok .non (st0 ++ .ins 0 (fsS p) :: ex) := by
  let sl : Slots := [some (.loc st0.length), some (.lst (SL p)), none]
  have it : Ri (C (k + 2)) (.e (.var 1)) sl (SL p) := ri_lst (r_var rfl)
  have g1 : Rn (C (k + 2)) (.or_ (.not_ (.isin (.var 1) [.list, .tuple])) (.not_ (.bi .all [(.lc false [("step", 2)] (.name 2) (.e (.var 1)) [] (.call 1 "is_step" [(.var 2)]))]))) sl (.bl false) := by
    refine r_or (x := .bl false) (k := false) (r_not (k := true) (r_isin (x := .lst (SL p)) (r_var rfl) fun _ => rfl) fun _ => rfl) (fun _ => rfl) (fun _ => ?_) (fun h => by cases h)
    refine r_not (k := true) (r_all (p := p) (r_lc it (paired_map fun s hs => ?_) (by rw [List.length_map]; omega))) fun _ => rfl
    have hs' : s.ok = true := List.all_eq_true.mp hp s hs
    exact ⟨[some (.loc st0.length), some (.lst (SL p)), some (sd s)], rfl, r_call (rs_cons (r_var rfl) rs_nil) (r_ok fun _ => f_step hs')⟩
  obtain ⟨e1, q1⟩ := sn_no (t := [.rais 1 "BadScript" "steps" (.var 1)]) g1 (fun _ => rfl) (st0 ++ [.ins 0 []])
  obtain ⟨e2, q2⟩ := sa_ok (nc := 1) (CC := 0) (x := "steps") (fs := []) (st0 := st0) (ex := e1) (r_bi (rs_cons (r_var (sl := sl) (i := 1) rfl) rs_nil) fun st => (rfl : biD .tuple [.lst (SL p)] st = Res.ok (D.tup (SL p)) st)) rfl (by decide) (by decide)
  obtain ⟨e3, q3⟩ := sa_ok (nc := 1) (CC := 0) (x := "given") (fs := [("steps", .tup (SL p))]) (st0 := st0) (ex := e2) (r_given (j := 2) (nm := "step") (by show 2 < 3; decide) it hl) rfl (by decide) (by simp)
  obtain ⟨e4, q4⟩ := sa_ok (nc := 1) (CC := 0) (x := "made") (fs := [("steps", .tup (SL p)), ("given", .str (tS (given p)))]) (st0 := st0) (ex := e3) (r_made (j := 2) (nm := "step") (by show 2 < 3; decide) it hl) rfl (by decide) (by simp)
  refine ⟨e4, ?_⟩
  rw [show C (k + 3) 6 [.loc st0.length, .lst (SL p)] (st0 ++ [.ins 0 []]) = endS (evSs (C (k + 2)) [inB 0, inB 1, inB 2, inB 3] sl (st0 ++ [.ins 0 []])) from evCall_at (F := t_Script___init__.fd) rfl rfl]
  rw [List.append_assoc] at q1
  refine (congrArg endS (evSs_cons (s := inB 0) q1)).trans ?_
  refine (congrArg endS (evSs_cons (s := inB 1) q2)).trans ?_
  refine (congrArg endS (evSs_cons (s := inB 2) q3)).trans ?_
  refine (congrArg endS (evSs_cons (s := inB 3) q4)).trans ?_
  rfl
theorem init_tup (hp : okL p = true) (hl : p.length ≤ 10000) (st0 : Store) : ∃ ex, C (k + 3) 6 [.loc st0.length, .tup (SL p)] (st0 ++ [.ins 0 []]) = .ok .non (st0 ++ .ins 0 (fsS p) :: ex) := by
  let sl : Slots := [some (.loc st0.length), some (.tup (SL p)), none]
  have it : Ri (C (k + 2)) (.e (.var 1)) sl (SL p) := ri_tup (r_var rfl)
  have g1 : Rn (C (k + 2)) (.or_ (.not_ (.isin (.var 1) [.list, .tuple])) (.not_ (.bi .all [(.lc false [("step", 2)] (.name 2) (.e (.var 1)) [] (.call 1 "is_step" [(.var 2)]))]))) sl (.bl false) := by
    refine r_or (x := .bl false) (k := false) (r_not (k := true) (r_isin (x := .tup (SL p)) (r_var rfl) fun _ => rfl) fun _ => rfl) (fun _ => rfl) (fun _ => ?_) (fun h => by cases h)
    refine r_not (k := true) (r_all (p := p) (r_lc it (paired_map fun s hs => ?_) (by rw [List.length_map]; omega))) fun _ => rfl
    have hs' : s.ok = true := List.all_eq_true.mp hp s hs
    exact ⟨[some (.loc st0.length), some (.tup (SL p)), some (sd s)], rfl, r_call (rs_cons (r_var rfl) rs_nil) (r_ok fun _ => f_step hs')⟩
  obtain ⟨e1, q1⟩ := sn_no (t := [.rais 1 "BadScript" "steps" (.var 1)]) g1 (fun _ => rfl) (st0 ++ [.ins 0 []])
  obtain ⟨e2, q2⟩ := sa_ok (nc := 1) (CC := 0) (x := "steps") (fs := []) (st0 := st0) (ex := e1) (r_bi (rs_cons (r_var (sl := sl) (i := 1) rfl) rs_nil) fun st => (rfl : biD .tuple [.tup (SL p)] st = Res.ok (D.tup (SL p)) st)) rfl (by decide) (by decide)
  obtain ⟨e3, q3⟩ := sa_ok (nc := 1) (CC := 0) (x := "given") (fs := [("steps", .tup (SL p))]) (st0 := st0) (ex := e2) (r_given (j := 2) (nm := "step") (by show 2 < 3; decide) it hl) rfl (by decide) (by simp)
  obtain ⟨e4, q4⟩ := sa_ok (nc := 1) (CC := 0) (x := "made") (fs := [("steps", .tup (SL p)), ("given", .str (tS (given p)))]) (st0 := st0) (ex := e3) (r_made (j := 2) (nm := "step") (by show 2 < 3; decide) it hl) rfl (by decide) (by simp)
  refine ⟨e4, ?_⟩
  rw [show C (k + 3) 6 [.loc st0.length, .tup (SL p)] (st0 ++ [.ins 0 []]) = endS (evSs (C (k + 2)) [inB 0, inB 1, inB 2, inB 3] sl (st0 ++ [.ins 0 []])) from evCall_at (F := t_Script___init__.fd) rfl rfl]
  rw [List.append_assoc] at q1
  refine (congrArg endS (evSs_cons (s := inB 0) q1)).trans ?_
  refine (congrArg endS (evSs_cons (s := inB 1) q2)).trans ?_
  refine (congrArg endS (evSs_cons (s := inB 2) q3)).trans ?_
  refine (congrArg endS (evSs_cons (s := inB 3) q4)).trans ?_
  rfl
/-- a list or a tuple -/
def sq (t : Bool) (xs : List D) : D := match t with
  | true => .tup xs
  | false => .lst xs
theorem init_ok {t : Bool} (hp : okL p = true) (hl : p.length ≤ 10000) (st0 : Store) : ∃ ex, C (k + 3) 6 [.loc st0.length, sq t (SL p)] (st0 ++ [.ins 0 []]) = .ok .non (st0 ++ .ins 0 (fsS p) :: ex) := by
  cases t with
  | true => exact init_tup hp hl st0
  | false => exact init_lst hp hl st0
theorem ri_sq {cl : Nat → List D → Store → Res D} {sl : Slots} {e : CE} {t : Bool} {xs : List D} (h : Rn cl e sl (sq t xs)) : Ri cl (.e e) sl xs := by
  cases t with
  | true => exact ri_tup h
  | false => exact ri_lst h
end
end K43
set_option maxHeartbeats 1000000
namespace K43
open PySem PySem.Spec PyProof.Rows L2 TM
section
variable {k : Nat} {p q : List Sp} {sl : Slots}
theorem sc_fs : scD p = .obj 0 (fsS p) := rfl
/-- Script(steps) -/
theorem r_script {x : Str} {e : CE} {t : Bool} (hp : okL p = true) (hl : p.length ≤ 10000) (h : Rn (C (k + 3)) e sl (sq t (SL p))) : Rn (C (k + 3)) (.new false 0 6 x [e]) sl (scD p) := r_new (rs_cons h rs_nil) fun st0 => init_ok hp hl st0
theorem f_kept {l : List Nat} (h : ∀ c ∈ l, c < 128) (hl : l.length ≤ 10000) : Rc (C (k + 4)) 7 [.cls 0, .str (tS l)] (scD (kept l)) := by
  refine rc_of (F := t_Script_kept.fd) rfl rfl (br_ret (sn_ret (e := .newv false 0 0 6 [(.lc false [("sign", 2)] (.name 2) (.e (.var 1)) [] (.tup [(.str "keep"), (.var 2)]))]) ?_))
  have g := Gd.kept h hl
  refine r_newv (fs := fsS (kept l)) rfl (rs_cons ?_ rs_nil) fun st0 => init_lst g.ok g.len st0
  have it : Ri (C (k + 3)) (.e (.var 1)) (slots0 3 [.cls 0, .str (tS l)]) (l.map fun c => D.str (chS c)) := ri_e (x := .str (tS l)) (r_var rfl) fun st => rfl
  have e : SL (kept l) = l.map fun c => sd (.keep c) := by
    unfold kept
    rw [SL, List.map_map]
    rfl
  rw [e]
  refine r_lc it (paired_map fun c hc => ⟨[some (.cls 0), some (.str (tS l)), some (.str (chS c))], rfl, r_tup (rs_cons r_str (rs_cons (r_var rfl) rs_nil)) (by simp)⟩) (by rw [List.length_map]; omega)
theorem ints_sum : ∀ xs : List Int, intsOf (xs.map D.int) = some xs
  | [] => rfl
  | x :: xs => by
    show (intsOf (xs.map D.int)).map (x :: ·) = _
    rw [ints_sum xs]
    rfl
theorem f_cost {a b c : Nat} (hl : p.length ≤ 10000) : Rc (C (k + 1)) 8 [scD p, .int a, .int b, .int c] (.int (cost a b c p)) := by
  refine rc_of (F := t_Script_cost.fd) rfl rfl (br_cons (sl' := [some (scD p), some (.int a), some (.int b), some (.int c), some (.dct [(.inr "keep", .int 0), (.inr "put", .int a), (.inr "drop", .int b), (.inr "swap", .int c)]), none])
    (sn_asg (t := .name 4) (e := .dct false [(.str "keep"), (.int 0), (.str "put"), (.var 1), (.str "drop"), (.var 2), (.str "swap"), (.var 3)]) (x := .dct [(.inr "keep", .int 0), (.inr "put", .int a), (.inr "drop", .int b), (.inr "swap", .int c)]) (r_of fun st => by rfl) rfl) (br_ret (sn_ret (e := .bi .sum [(.lc false [("step", 5)] (.name 5) (.e (.fld 1 (.var 0) "steps")) [] (.idx (.var 4) (.idx (.var 5) (.int 0))))]) ?_)))
  have it : Ri (C k) (.e (.fld 1 (.var 0) "steps")) [some (scD p), some (.int a), some (.int b), some (.int c), some (.dct [(.inr "keep", .int 0), (.inr "put", .int a), (.inr "drop", .int b), (.inr "swap", .int c)]), none] (SL p) := ri_tup (r_fld (CC := 0) (fs := fsS p) (r_var rfl) (by decide) rfl)
  have l1 : Rn (C k) (.lc false [("step", 5)] (.name 5) (.e (.fld 1 (.var 0) "steps")) [] (.idx (.var 4) (.idx (.var 5) (.int 0)))) [some (scD p), some (.int a), some (.int b), some (.int c), some (.dct [(.inr "keep", .int 0), (.inr "put", .int a), (.inr "drop", .int b), (.inr "swap", .int c)]), none] (.lst (p.map fun s => D.int ((cs a b c s : Nat) : Int))) := by
    refine r_lc it (paired_map fun s hs => ⟨[some (scD p), some (.int a), some (.int b), some (.int c), some (.dct [(.inr "keep", .int 0), (.inr "put", .int a), (.inr "drop", .int b), (.inr "swap", .int c)]), some (sd s)], rfl, ?_⟩) (by rw [List.length_map]; omega)
    cases s with
    | keep x => exact r_idx (r_var rfl) (r_idx (x := sd (.keep x)) (z := .str "keep") (r_var rfl) r_int fun _ => rfl) fun _ => rfl
    | put x => exact r_idx (r_var rfl) (r_idx (x := sd (.put x)) (z := .str "put") (r_var rfl) r_int fun _ => rfl) fun _ => rfl
    | drop x => exact r_idx (r_var rfl) (r_idx (x := sd (.drop x)) (z := .str "drop") (r_var rfl) r_int fun _ => rfl) fun _ => rfl
    | swap x y => exact r_idx (r_var rfl) (r_idx (x := sd (.swap x y)) (z := .str "swap") (r_var rfl) r_int fun _ => rfl) fun _ => rfl
  refine r_bi (rs_cons l1 rs_nil) fun st => ?_
  show (match (asL (.lst (p.map fun s => D.int ((cs a b c s : Nat) : Int))) st).bind intsOf with
    | some ns => Res.ok (D.int ns.sum) st
    | none => .stuck) = _
  have e : p.map (fun s => D.int ((cs a b c s : Nat) : Int)) = (p.map fun s => ((cs a b c s : Nat) : Int)).map D.int := by rw [List.map_map]; rfl
  rw [e, show (asL (.lst ((p.map fun s => ((cs a b c s : Nat) : Int)).map D.int)) st).bind intsOf = _ from ints_sum _]
  dsimp only
  congr 2
  unfold cost
  have : ∀ l : List Sp, (l.map fun s => ((cs a b c s : Nat) : Int)).sum = ((l.map (cs a b c)).sum : Nat) := by
    intro l
    induction l with
    | nil => rfl
    | cons s l ih => rw [List.map_cons, List.map_cons, List.sum_cons, List.sum_cons, ih, Int.natCast_add]
  exact this p
theorem f_call : Rc (C (k + 1)) 9 [scD p, .str (tS (given p))] (.str (tS (made p))) := by
  refine rc_of (F := t_Script___call__.fd) rfl rfl ?_
  have fl : ∀ {x d}, (fsS p).lookup x = some d → Rn (C k) (.fld 1 (.var 0) x) (slots0 2 [scD p, .str (tS (given p))]) d := fun h => r_fld (CC := 0) (fs := fsS p) (r_var rfl) (by decide) h
  refine br_cons (sn_no (t := [.rais 2 "WrongText" "wrong" (.var 1)]) (c := .cmp .NotEq (.var 1) (.fld 1 (.var 0) "given")) (x := .bl false) (r_cmp (k := false) (r_var rfl) (fl (x := "given") (d := .str (tS (given p))) rfl) fun st => ?_) fun _ => rfl) (br_ret (sn_ret (fl (x := "made") rfl)))
  show some (!decide (tS (given p) = tS (given p))) = some false
  rw [decide_eq_true rfl]
  rfl
theorem f_len (hl : p.length ≤ 10000) : Rc (C (k + 1)) 10 [scD p] (.int (cost 1 1 1 p)) := by
  refine rc_of (F := t_Script___len__.fd) rfl rfl (br_ret (sn_ret (e := .bi .len [(.lc false [("step", 1)] (.name 1) (.e (.fld 1 (.var 0) "steps")) [(.cmp .NotEq (.idx (.var 1) (.int 0)) (.str "keep"))] (.var 1))]) ?_))
  have it : Ri (C k) (.e (.fld 1 (.var 0) "steps")) (slots0 2 [scD p]) (SL p) := ri_tup (r_fld (CC := 0) (fs := fsS p) (r_var rfl) (by decide) rfl)
  let g : Sp → Option D := fun s => match s with
    | .keep _ => none
    | s => some (sd s)
  have l1 := r_lcF (cl := C k) (own := [("step", 1)]) (t := .name 1) (c := .cmp .NotEq (.idx (.var 1) (.int 0)) (.str "keep")) (e := .var 1) (ys := p.map g) it (paired_map (f := sd) (g := g) fun s hs => by
    cases s with
    | keep x => exact ⟨[some (scD p), some (sd (.keep x))], .bl false, rfl, r_cmp (r_idx (x := sd (.keep x)) (z := .str "keep") (r_var rfl) r_int fun _ => rfl) r_str fun _ => rfl, fun _ => rfl, fun w hw => by cases hw⟩
    | put x => exact ⟨[some (scD p), some (sd (.put x))], .bl true, rfl, r_cmp (r_idx (x := sd (.put x)) (z := .str "put") (r_var rfl) r_int fun _ => rfl) r_str fun _ => rfl, fun _ => rfl, fun w hw => by cases hw; exact r_var rfl⟩
    | drop x => exact ⟨[some (scD p), some (sd (.drop x))], .bl true, rfl, r_cmp (r_idx (x := sd (.drop x)) (z := .str "drop") (r_var rfl) r_int fun _ => rfl) r_str fun _ => rfl, fun _ => rfl, fun w hw => by cases hw; exact r_var rfl⟩
    | swap x y => exact ⟨[some (scD p), some (sd (.swap x y))], .bl true, rfl, r_cmp (r_idx (x := sd (.swap x y)) (z := .str "swap") (r_var rfl) r_int fun _ => rfl) r_str fun _ => rfl, fun _ => rfl, fun w hw => by cases hw; exact r_var rfl⟩) (by rw [List.length_map]; omega)
  refine r_bi (rs_cons l1 rs_nil) fun st => ?_
  show Res.ok (D.int (((p.map g).filterMap id).length : Nat)) st = _
  congr 2
  rw [List.filterMap_map]
  have : ∀ l : List Sp, (l.filterMap (id ∘ g)).length = cost 1 1 1 l := by
    intro l
    induction l with
    | nil => rfl
    | cons s l ih =>
      rw [cost_cons, ← ih]
      cases s <;> simp [g, cs, List.filterMap_cons, Nat.add_comm]
  rw [this]
theorem f_inv (h : Gd p) : Rc (C (k + 4)) 11 [scD p] (scD (inv p)) := by
  refine rc_of (F := t_Script___invert__.fd) rfl rfl (br_ret (sn_ret (e := .new false 0 6 "Script" [(.lc false [("step", 1)] (.name 1) (.e (.fld 1 (.var 0) "steps")) [] (.call 2 "turned_round" [(.var 1)]))]) ?_))
  refine r_script (t := false) h.inv.ok h.inv.len ?_
  have it : Ri (C (k + 3)) (.e (.fld 1 (.var 0) "steps")) (slots0 2 [scD p]) (SL p) := ri_tup (r_fld (CC := 0) (fs := fsS p) (r_var rfl) (by decide) rfl)
  have e : SL (inv p) = p.map fun s => sd s.turn := by
    unfold inv
    rw [SL, List.map_map]
    rfl
  rw [e]
  exact r_lc it (paired_map fun s hs => ⟨[some (scD p), some (sd s)], rfl, r_call (rs_cons (r_var rfl) rs_nil) (r_ok fun _ => f_turn)⟩) (by rw [List.length_map]; have := h.len; omega)
theorem f_add (h : made p = given q) (h1 : Gd p) (h2 : Gd q) (hl : p.length + q.length ≤ 10000) : Rc (C (k + 4)) 12 [scD p, scD q] (scD (J p q)) := by
  refine rc_of (F := t_Script___add__.fd) rfl rfl ?_
  have f0 : ∀ {x d}, (fsS p).lookup x = some d → Rn (C (k + 3)) (.fld 1 (.var 0) x) (slots0 2 [scD p, scD q]) d := fun h => r_fld (CC := 0) (fs := fsS p) (r_var rfl) (by decide) h
  have f1 : ∀ {x d}, (fsS q).lookup x = some d → Rn (C (k + 3)) (.fld 1 (.var 1) x) (slots0 2 [scD p, scD q]) d := fun h => r_fld (CC := 0) (fs := fsS q) (r_var rfl) (by decide) h
  have g := Gd.J h h1 h2 hl
  refine br_cons (sn_no (t := [.rais 2 "WrongText" "wrong" (.fld 1 (.var 1) "given")]) (c := .cmp .NotEq (.fld 1 (.var 0) "made") (.fld 1 (.var 1) "given")) (x := .bl false) (r_cmp (k := false) (f0 (x := "made") (d := .str (tS (made p))) rfl) (f1 (x := "given") (d := .str (tS (given q))) rfl) fun st => ?_) fun _ => rfl)
    (br_ret (sn_ret (e := .new false 0 6 "Script" [(.call 5 "joined_steps" [(.fld 1 (.var 0) "steps"), (.fld 1 (.var 1) "steps")])]) (r_script (t := false) g.ok g.len (r_call (rs_cons (f0 (x := "steps") rfl) (rs_cons (f1 (x := "steps") rfl) rs_nil)) (r_ok fun _ => f_joined h (by omega))))))
  show some (!decide (tS (made p) = tS (given q))) = some false
  rw [h, decide_eq_true rfl]
  rfl
theorem f_eq (h : LB p) : Rc (C (k + 1)) 13 [scD p, scD p] (.bl true) := by
  refine rc_of (F := t_Script___eq__.fd) rfl rfl (br_ret (sn_ret (e := .and_ (.isc 1 (.var 1) "Script" [0]) (.cmp .Eq (.fld 1 (.var 0) "steps") (.fld 1 (.var 1) "steps"))) ?_))
  have f0 : ∀ {x d}, (fsS p).lookup x = some d → Rn (C k) (.fld 1 (.var 0) x) (slots0 2 [scD p, scD p]) d := fun h => r_fld (CC := 0) (fs := fsS p) (r_var rfl) (by decide) h
  have f1 : ∀ {x d}, (fsS p).lookup x = some d → Rn (C k) (.fld 1 (.var 1) x) (slots0 2 [scD p, scD p]) d := fun h => r_fld (CC := 0) (fs := fsS p) (r_var rfl) (by decide) h
  exact r_and (k := true) (r_isc (x := scD p) (r_var rfl) fun st => (rfl : iscD 1 [0] (scD p) st = some true)) (fun _ => rfl) (fun _ => r_cmp (k := true) (f0 (x := "steps") rfl) (f1 (x := "steps") rfl) fun st => eq_SL h st) fun h => by cases h
/-! ### the operators at a call -/
section
variable {a b e r : CE}
theorem x_add (h : made p = given q) (h1 : Gd p) (h2 : Gd q) (hl : p.length + q.length ≤ 10000) (ha : Rn (C (k + 4)) a sl (scD p)) (hb : Rn (C (k + 4)) b sl (scD q)) : Rn (C (k + 4)) (.mth (.bin .Add) 0 12 "__add__" a [b]) sl (scD (J p q)) :=
  r_mth ha (fun _ => rfl) (rs_cons hb rs_nil) (fun _ => rfl) (f_add h h1 h2 hl) fun _ => rfl
theorem x_inv (h1 : Gd p) (ha : Rn (C (k + 4)) a sl (scD p)) : Rn (C (k + 4)) (.mth .inv 0 11 "__invert__" a []) sl (scD (inv p)) :=
  r_mth ha (fun _ => rfl) rs_nil (fun _ => rfl) (f_inv h1) fun _ => rfl
theorem x_eq (h1 : LB p) (ha : Rn (C (k + 1)) a sl (scD p)) (hb : Rn (C (k + 1)) b sl (scD p)) : Rn (C (k + 1)) (.mth (.cmp .Eq) 0 13 "__eq__" a [b]) sl (.bl true) :=
  r_mth ha (fun _ => rfl) (rs_cons hb rs_nil) (fun _ => rfl) (f_eq h1) fun _ => rfl
theorem x_ne (h1 : LB p) (ha : Rn (C (k + 1)) a sl (scD p)) (hb : Rn (C (k + 1)) b sl (scD p)) : Rn (C (k + 1)) (.mth .ne 0 13 "__eq__" a [b]) sl (.bl false) :=
  r_mth ha (fun _ => rfl) (rs_cons hb rs_nil) (fun _ => rfl) (f_eq h1) fun _ => rfl
theorem cost_le : cost 1 1 1 p ≤ p.length := by
  induction p with
  | nil => exact Nat.le_refl _
  | cons s p ih =>
    rw [cost_cons, List.length_cons]
    have : cs 1 1 1 s ≤ 1 := by cases s <;> simp [cs]
    omega
theorem x_len (hl : p.length ≤ 10000) (ha : Rn (C (k + 1)) a sl (scD p)) : Rn (C (k + 1)) (.mth .len 0 10 "__len__" a []) sl (.int (cost 1 1 1 p)) :=
  r_mth ha (fun _ => rfl) rs_nil (fun _ => rfl) (f_len hl) fun st => by
    have := cost_le (p := p)
    have h2 : ((cost 1 1 1 p : Nat) : Int) < 2 ^ 62 := by
      have e : (2 : Int) ^ 62 = 4611686018427387904 := by decide +kernel
      rw [e]
      omega
    simp only [wayEnd]
    rw [if_pos ⟨Int.natCast_nonneg _, h2⟩]
theorem x_callS (ha : Rn (C (k + 1)) a sl (scD p)) (hb : Rn (C (k + 1)) b sl (.str (tS (given p)))) : Rn (C (k + 1)) (.mth .call 0 9 "__call__" a [b]) sl (.str (tS (made p))) :=
  r_mth ha (fun _ => rfl) (rs_cons hb rs_nil) (fun _ => rfl) f_call fun _ => rfl
theorem x_kept {l : List Nat} {x m : Str} (h : ∀ c ∈ l, c < 128) (hl : l.length ≤ 10000) (ha : Rn (C (k + 4)) a sl (.str (tS l))) : Rn (C (k + 4)) (.cmth 0 7 x m [a]) sl (scD (kept l)) := r_cmth (rs_cons ha rs_nil) (f_kept h hl)
theorem x_fld {x : Str} {d : D} (ha : Rn (C k) a sl (scD p)) (h : (fsS p).lookup x = some d) : Rn (C k) (.fld 1 a x) sl d := r_fld (CC := 0) (fs := fsS p) ha (by decide) h
end
end
end K43
set_option maxHeartbeats 1000000
namespace K43
open PySem PySem.Spec PyProof.Rows L2 TM
def ifT : CS → List CS
  | .iff _ t _ => t
  | _ => []
theorem pow_ten (k : Nat) (hk : k ≤ 100) {st : Store} : opD .Pow (.int 10) (.int k) st = .ok (.int (10 ^ k)) st := by
  have := opD_pow (a := 10) (b := k) (st := st) (by omega) (by
    have e : Builtin.Int.intBits 10 = 4 := by decide +kernel
    have e27 : (2 : Int) ^ 27 = 134217728 := by decide
    rw [e, e27]
    omega)
  simpa using this
theorem draw_ok {k n : Nat} {st : Store} {size : Int} (hs : SS st n) (h0 : 0 < size) (h1 : size < 1073741824) : ∃ r st', C (k + 1) 15 [.loc n, .int size] st = .ok (.int r) st' ∧ 0 ≤ r ∧ r < size ∧ SS st' n ∧ Fr n st st' := by
  obtain ⟨a, b, e, ha, hb, hb2⟩ := hs
  have hn : n < st.length := (List.getElem?_eq_some_iff.mp e).1
  have el := lst_at e
  rw [show C (k + 1) 15 [.loc n, .int size] st = endS (evSs (C k) b__law_draw (slots0 4 [.loc n, .int size]) st) from evCall_at (F := t__law_draw.fd) rfl rfl]
  have hz : size ≠ 0 := by omega
  have hz2 : size.natAbs < 1073741824 := by omega
  by_cases hc : size ≤ a
  · refine ⟨a.fmod size, st.set n (.lst [.int (a.fdiv size), .int b]), ?_, (fmod_in h0).1, (fmod_in h0).2, ⟨a.fdiv size, b, List.getElem?_set_self hn, Int.fdiv_nonneg ha (by omega), hb, hb2⟩, ⟨by simp, fun m hm _ => List.getElem?_set_ne (fun z => hm z.symm)⟩⟩
    simp [b__law_draw, slots0, evSs, evS, evE, evEs, tru, idxD, asL, el, atI, cmpD, truth, hc, asgT, opD_mod, opD_fdiv, hz, hz2, setID, e, ixN, setC, endS, ofO, biD]
  · have hb3 := fmod_in (a := b * 48271 + 12345) (m := 2147483647) (by decide)
    generalize hb1 : (b * 48271 + 12345).fmod 2147483647 = b1 at hb3
    have m1 : ∀ st, opD .Mult (.int b) (.int 48271) st = .ok (.int (b * 48271)) st := fun st => opD_mul (by
      have := log_small hb hb2
      have e2 : (48271 : Int).natAbs.log2 = 15 := by decide +kernel
      omega)
    have e27 : (2 : Int) ^ 27 = 134217728 := by decide
    have p1 : ∀ st, opD .Pow (.int b1) (.int 3) st = .ok (.int (b1 ^ 3)) st := fun st => opD_pow (by decide) (by
      have := bits_lt (k := 32) hb3.1 (by have := hb3.2; omega)
      omega)
    generalize hc1 : (b1 ^ 3).fmod 2147483629 = c1
    have hc3 : 0 ≤ c1 ∧ c1 < 2147483629 := by rw [← hc1]; exact fmod_in (by decide)
    have p2 : ∀ st, opD .Pow (.int c1) (.int 5) st = .ok (.int (c1 ^ 5)) st := fun st => opD_pow (by decide) (by
      have := bits_lt (k := 32) hc3.1 (by have := hc3.2; omega)
      omega)
    generalize hd1 : ((c1 ^ 5).fmod 1000000007).fdiv 7 = d1
    refine ⟨d1.fmod size, st.set n (.lst [.int a, .int b1]), ?_, (fmod_in h0).1, (fmod_in h0).2, ⟨a, b1, List.getElem?_set_self hn, ha, hb3.1, by have := hb3.2; omega⟩, ⟨by simp, fun m hm _ => List.getElem?_set_ne (fun z => hm z.symm)⟩⟩
    have e2 : (st.set n (.lst [.int a, .int b1]))[n]? = some (.lst [.int a, .int b1]) := List.getElem?_set_self hn
    have el2 := lst_at e2
    simp [b__law_draw, slots0, evSs, evS, evE, evEs, tru, idxD, asL, el, el2, atI, cmpD, truth, hc, asgT, opD_mod, opD_fdiv, opD_add, hz, hz2, setID, e, ixN, setC, endS, ofO, m1, p1, p2, hb1, hc1, hd1, biD]
theorem choose_list {k n : Nat} {st : Store} {xs : List D} (hs : SS st n) (h0 : xs ≠ []) (h1 : xs.length < 1073741824) : ∃ x ∈ xs, ∃ st', C (k + 2) 16 [.loc n, .lst xs] st = .ok x st' ∧ SS st' n ∧ Fr n st st' := by
  have hp : 0 < xs.length := List.length_pos_iff.mpr h0
  obtain ⟨r, st', e, r0, r1, s', f⟩ := draw_ok (k := k) hs (size := xs.length) (by omega) (by omega)
  obtain ⟨x, hx, ex⟩ := atI_of r0 r1
  refine ⟨x, hx, st', ?_, s', f⟩
  rw [show C (k + 2) 16 [.loc n, .lst xs] st = endS (evSs (C (k + 1)) b__law_choose (slots0 2 [.loc n, .lst xs]) st) from evCall_at (F := t__law_choose.fd) rfl rfl]
  have e' : evCall FT (k + 1) 15 [D.loc n, D.int ↑xs.length] st = .ok (.int r) st' := e
  simp [b__law_choose, slots0, evSs, evS, evE, evEs, biD, asQ, asL, e', idxD, ex, ofO, endS]
theorem choose_str {k n : Nat} {st : Store} {z : Str} (hs : SS st n) (h0 : 0 < z.length) (h1 : z.length ≤ 1000) : ∃ c ∈ z.cps.toList, ∃ st', C (k + 2) 16 [.loc n, .str z] st = .ok (.str ⟨#[c]⟩) st' ∧ SS st' n ∧ Fr n st st' := by
  obtain ⟨r, st', e, r0, r1, s', f⟩ := draw_ok (k := k) hs (size := z.length) (by omega) (by omega)
  have hl : z.cps.toList.length = z.length := by rw [Array.length_toList]; rfl
  obtain ⟨x, hx, ex⟩ := atI_of (xs := z.cps.toList) r0 (by rw [hl]; exact r1)
  refine ⟨x, hx, st', ?_, s', f⟩
  rw [show C (k + 2) 16 [.loc n, .str z] st = endS (evSs (C (k + 1)) b__law_choose (slots0 2 [.loc n, .str z]) st) from evCall_at (F := t__law_choose.fd) rfl rfl]
  have e' : evCall FT (k + 1) 15 [D.loc n, D.int ↑z.length] st = .ok (.int r) st' := e
  have hz : z.length ≤ sizeLine := by rw [sizeLine_eq]; omega
  simp [b__law_choose, slots0, evSs, evS, evE, evEs, biD, e', idxD, ex, ofO, endS, hz]
theorem draw_at {K n : Nat} {st : Store} {size : Int} (hK : 1 ≤ K) (hs : SS st n) (h0 : 0 < size) (h1 : size < 1073741824) : ∃ r st', C K 15 [.loc n, .int size] st = .ok (.int r) st' ∧ 0 ≤ r ∧ r < size ∧ SS st' n ∧ Fr n st st' := by
  obtain ⟨k, rfl⟩ : ∃ k, K = k + 1 := ⟨K - 1, by omega⟩
  exact draw_ok hs h0 h1
theorem choose_at {K n : Nat} {st : Store} {xs : List D} (hK : 2 ≤ K) (hs : SS st n) (h0 : xs ≠ []) (h1 : xs.length < 1073741824) : ∃ x ∈ xs, ∃ st', C K 16 [.loc n, .lst xs] st = .ok x st' ∧ SS st' n ∧ Fr n st st' := by
  obtain ⟨k, rfl⟩ : ∃ k, K = k + 2 := ⟨K - 2, by omega⟩
  exact choose_list hs h0 h1
theorem bits_abs {x : Int} {k : Nat} (h : x.natAbs < 2 ^ k) : Builtin.Int.intBits x ≤ k := by
  unfold Builtin.Int.intBits
  split
  · omega
  · rename_i hb
    have hb' : x.natAbs ≠ 0 := by simpa using hb
    have := (Nat.log2_lt hb').mpr h
    omega
theorem abs_bits {x : Int} {k : Nat} (h : Builtin.Int.intBits x ≤ k) : x.natAbs < 2 ^ k := by
  unfold Builtin.Int.intBits at h
  split at h
  · rename_i hb
    have hb' : x.natAbs = 0 := by simpa using hb
    rw [hb']
    exact Nat.two_pow_pos k
  · rename_i hb
    have hb' : x.natAbs ≠ 0 := by simpa using hb
    exact (Nat.log2_lt hb').mp (by omega)
theorem sum_bits {a z : Int} {k : Nat} (hk : 48 ≤ k) (ha : a.natAbs < 2 ^ 48) (hz : z.natAbs < 2 ^ k) : (a + z).natAbs < 2 ^ (k + 1) := by
  have h1 : 2 ^ 48 ≤ 2 ^ k := Nat.pow_le_pow_right (by decide) hk
  have h2 : (2 : Nat) ^ (k + 1) = 2 ^ k + 2 ^ k := by rw [Nat.pow_succ]; omega
  omega
abbrev stv (i : Nat) : CS := b__law_stream.getD i .pass
abbrev seedE : CE := .op .Add (.op .Mod (.bi .int [.op .Pow (.bi .int [.op .Add (.op .Mult (.var 2) (.int 40127)) (.bi .int [.var 3])]) (.int 3)]) (.int 2147483629)) (.int 1)
theorem seed_ok {K : Nat} {S : D} {a : Int} {st : Store} : ∀ (ns : List Int) (s : Int) (q : Option D), (∀ z ∈ ns, Builtin.Int.intBits z ≤ 1048576) → 0 ≤ s → s < 4294967296 →
    ∃ s' q', forLoop none (frF (.name 3) (evSs (C K) [.asg (.name 2) seedE])) (ns.map .int) [some S, some (.int a), some (.int s), q, none] st = .next [some S, some (.int a), some (.int s'), q', none] st ∧ 0 ≤ s' ∧ s' < 4294967296
  | [], s, q, _, h0, h1 => ⟨s, q, by rw [List.map_nil, forLoop]; exact if_pos rfl, h0, h1⟩
  | z :: ns, s, q, hz, h0, h1 => by
    have m1 : ∀ st, opD .Mult (.int s) (.int 40127) st = .ok (.int (s * 40127)) st := fun st => opD_mul (by
      have := log_small h0 h1
      have e2 : (40127 : Int).natAbs.log2 = 15 := by decide +kernel
      omega)
    have hb : (s * 40127).natAbs < 2 ^ 48 := by
      have e : (2 : Nat) ^ 48 = 281474976710656 := by decide
      omega
    have p1 : ∀ st, opD .Pow (.int (s * 40127 + z)) (.int 3) st = .ok (.int ((s * 40127 + z) ^ 3)) st := fun st => opD_pow (by decide) (by
      have := bits_abs (sum_bits (k := 1048576) (by decide) hb (abs_bits (hz z List.mem_cons_self)))
      have e27 : (2 : Int) ^ 27 = 134217728 := by decide
      rw [e27]
      omega)
    have hm := fmod_in (a := (s * 40127 + z) ^ 3) (m := 2147483629) (by decide)
    generalize hc : ((s * 40127 + z) ^ 3).fmod 2147483629 = c at hm
    obtain ⟨s', q', e, r⟩ := seed_ok (K := K) (S := S) (a := a) (st := st) ns (c + 1) (some (.int z)) (fun y hy => hz y (List.mem_cons_of_mem _ hy)) (by omega) (by omega)
    refine ⟨s', q', ?_, r⟩
    rw [List.map_cons, forLoop, if_pos (show srcOk none st = true from rfl), frF_some (sl' := [some S, some (.int a), some (.int s), some (.int z), none]) rfl]
    have d1 : evE (C K) seedE [some S, some (.int a), some (.int s), some (.int z), none] st = .ok (.int (c + 1)) st := by
      have v2 : evE (C K) (.var 2) [some S, some (.int a), some (.int s), some (.int z), none] st = .ok (.int s) st := rfl
      have v3 : evE (C K) (.var 3) [some S, some (.int a), some (.int s), some (.int z), none] st = .ok (.int z) st := rfl
      simp [x_op, v2, m1, v3, opD_add, p1, opD_mod, hc, biD]
    have d2 : evSs (C K) [.asg (.name 2) seedE] [some S, some (.int a), some (.int s), some (.int z), none] st = .next [some S, some (.int a), some (.int (c + 1)), some (.int z), none] st := by
      refine (evSs_cons ?_).trans rfl
      rw [x_asg, d1]
      rfl
    rw [d2]
    exact e
theorem stream_ok {K a : Nat} {ns : List Int} {st : Store} (ha : a ≤ 100) (hn : ns.length ≤ 63) (hz : ∀ z ∈ ns, Builtin.Int.intBits z ≤ 1048576) : ∃ x y : Int, C (K + 1) 14 [.lst (ns.map .int), .int a] st = .ok (.loc st.length) (st ++ [.lst [.int x, .int y]]) ∧ 0 ≤ x ∧ 0 ≤ y ∧ y < 4294967296 := by
  let S : D := .lst (ns.map .int)
  obtain ⟨s, q, e1, s0, s1⟩ := seed_ok (K := K) (S := S) (a := a) (st := st) ns (41 + a) none hz (by omega) (by omega)
  have q0 : evS (C K) (stv 0) (slots0 5 [S, .int a]) st = .next [some S, some (.int a), some (.int (41 + a)), none, none] st := rfl
  have q1 : evS (C K) (stv 1) [some S, some (.int a), some (.int (41 + a)), none, none] st = .next [some S, some (.int a), some (.int s), q, none] st := e1
  have q2 : evS (C K) (stv 2) [some S, some (.int a), some (.int s), q, none] st = .next [some S, some (.int a), some (.int s), q, some (.int 0)] st := rfl
  obtain ⟨x, x0, q3⟩ : ∃ x : Int, 0 ≤ x ∧ evS (C K) (stv 3) [some S, some (.int a), some (.int s), q, some (.int 0)] st = .next [some S, some (.int a), some (.int s), q, some (.int x)] st := by
    let sl : Slots := [some S, some (.int a), some (.int s), q, some (.int 0)]
    have p18 : ∀ st, opD .Pow (.int 10) (.int 18) st = .ok (.int 1000000000000000000) st := fun st => pow_ten 18 (by omega)
    have c1 : evE (C K) (.cmp .Lt (.var 1) (.bi .len [(.var 0)])) sl st = .ok (.bl (decide ((a : Int) < ((ns.map D.int).length : Nat)))) st := rfl
    have cg : ∀ b : Bool, evE (C K) (.and_ (.cmp .Lt (.var 1) (.bi .len [(.var 0)])) (.cmp .GtE (.idx (.var 0) (.var 1)) (.op .Pow (.int 10) (.int 18)))) sl st = .ok (.bl b) st →
        evS (C K) (stv 3) sl st = if b then evSs (C K) (ifT (stv 3)) sl st else .next sl st := fun b h => by
      show evS (C K) (.iff (.and_ (.cmp .Lt (.var 1) (.bi .len [(.var 0)])) (.cmp .GtE (.idx (.var 0) (.var 1)) (.op .Pow (.int 10) (.int 18)))) (ifT (stv 3)) []) sl st = _
      rw [x_iff, x_tru, h]
      cases b <;> rfl
    by_cases h : (a : Int) < ((ns.map D.int).length : Nat)
    · obtain ⟨d, hd, ed⟩ := atI_of (xs := ns.map D.int) (r := a) (by omega) h
      obtain ⟨z, _, rfl⟩ := List.mem_map.mp hd
      have di : evE (C K) (.idx (.var 0) (.var 1)) sl st = .ok (.int z) st := by
        show ofO (atI (ns.map D.int) a) st = _
        rw [ed]
        rfl
      have dp : evE (C K) (.op .Pow (.int 10) (.int 18)) sl st = .ok (.int 1000000000000000000) st := by
        rw [x_op, x_int, Res.bind_ok, x_int, Res.bind_ok, p18]
      have c2 : evE (C K) (.cmp .GtE (.idx (.var 0) (.var 1)) (.op .Pow (.int 10) (.int 18))) sl st = .ok (.bl (decide ((1000000000000000000 : Int) ≤ z))) st := by
        rw [x_cmp, di, Res.bind_ok, dp]
        rfl
      have c3 : evE (C K) (.and_ (.cmp .Lt (.var 1) (.bi .len [(.var 0)])) (.cmp .GtE (.idx (.var 0) (.var 1)) (.op .Pow (.int 10) (.int 18)))) sl st = .ok (.bl (decide ((1000000000000000000 : Int) ≤ z))) st := by
        rw [x_and, c1, decide_eq_true h, Res.bind_ok]
        exact c2
      by_cases h2 : (1000000000000000000 : Int) ≤ z
      · refine ⟨z - 1000000000000000000, by omega, ?_⟩
        rw [cg _ c3, decide_eq_true h2, if_pos rfl]
        refine (evSs_cons (?_ : evS (C K) ((ifT (stv 3)).getD 0 .pass) sl st = _)).trans rfl
        show evS (C K) (.asg (.name 4) (.op .Sub (.idx (.var 0) (.var 1)) (.op .Pow (.int 10) (.int 18)))) sl st = _
        rw [x_asg, x_op, di, Res.bind_ok, dp, Res.bind_ok, opD_sub]
        rfl
      · refine ⟨0, by omega, ?_⟩
        rw [cg _ c3, decide_eq_false h2]
        rfl
    · refine ⟨0, by omega, ?_⟩
      have c3 : evE (C K) (.and_ (.cmp .Lt (.var 1) (.bi .len [(.var 0)])) (.cmp .GtE (.idx (.var 0) (.var 1)) (.op .Pow (.int 10) (.int 18)))) sl st = .ok (.bl false) st := by
        rw [x_and, c1, decide_eq_false h]
        rfl
      rw [cg _ c3]
      rfl
  refine ⟨x, s, ?_, x0, s0, s1⟩
  have q4 : evS (C K) (stv 4) [some S, some (.int a), some (.int s), q, some (.int x)] st = .ret (.loc st.length) (st ++ [.lst [.int x, .int s]]) := by
    have : evE (C K) (.lst true [(.var 4), (.var 2)]) [some S, some (.int a), some (.int s), q, some (.int x)] st = .ok (.loc st.length) (st ++ [.lst [.int x, .int s]]) := by
      simp [mkL]
    show evS (C K) (.ret (.lst true [(.var 4), (.var 2)])) _ st = _
    rw [x_ret, this]
    rfl
  rw [show C (K + 1) 14 [S, .int a] st = endS (evSs (C K) [stv 0, stv 1, stv 2, stv 3, stv 4] (slots0 5 [S, .int a]) st) from evCall_at (F := t__law_stream.fd) rfl rfl, evSs_cons q0, evSs_cons q1, evSs_cons q2, evSs_cons q3, evSs_ret q4]
  rfl
end K43
set_option maxHeartbeats 1000000
namespace K43.F
open PySem PySem.Spec PyProof.Rows L2 TM
/-! ### runs that turn a stream -/
theorem Fr_app {n : Nat} {st ex : Store} : Fr n st (st ++ ex) := ⟨by rw [List.length_append]; omega, fun m _ h => List.getElem?_append_left h⟩
theorem SS_app {n : Nat} {st ex : Store} (h : SS st n) : SS (st ++ ex) n := by
  obtain ⟨a, b, e, q⟩ := h
  exact ⟨a, b, (List.getElem?_append_left (List.getElem?_eq_some_iff.mp e).1).trans e, q⟩
section
variable (cl : Nat → List D → Store → Res D) (n : Nat)
def Fc (f : Nat) (ds : List D) (P : D → Prop) : Prop := ∀ st, SS st n → ∃ d st', cl f ds st = .ok d st' ∧ P d ∧ SS st' n ∧ Fr n st st'
def Fe (e : CE) (sl : Slots) (P : D → Prop) : Prop := ∀ st, SS st n → ∃ d st', evE cl e sl st = .ok d st' ∧ P d ∧ SS st' n ∧ Fr n st st'
def Fb (ss : List CS) (sl : Slots) (P : D → Prop) : Prop := ∀ st, SS st n → ∃ d st', evSs cl ss sl st = .ret d st' ∧ P d ∧ SS st' n ∧ Fr n st st'
end
section
variable {cl : Nat → List D → Store → Res D} {n : Nat} {sl sl' : Slots} {a b c e : CE} {es : List CE} {ds : List D} {x y z d : D} {P Q R : D → Prop}
theorem Fe.imp (h : Fe cl n e sl P) (k : ∀ d, P d → Q d) : Fe cl n e sl Q := fun st s => by
  obtain ⟨d, st', q, p, r⟩ := h st s
  exact ⟨d, st', q, k d p, r⟩
theorem f_rn (h : Rn cl e sl d) (p : P d) : Fe cl n e sl P := fun st s => by
  obtain ⟨ex, q⟩ := h st
  exact ⟨d, _, q, p, SS_app s, Fr_app⟩
theorem f_call {f : Nat} {nm : Str} (h : Rns cl es sl ds) (hc : Fc cl n f ds P) : Fe cl n (.call f nm es) sl P := fun st s => by
  obtain ⟨ex, q⟩ := h st
  obtain ⟨d, st', q2, p, s', f'⟩ := hc (st ++ ex) (SS_app s)
  exact ⟨d, st', by rw [x_call, q, Res.bind_ok, q2], p, s', Fr_app.trans f'⟩
theorem f_cmp {o : CmpOp} (h : Fe cl n a sl P) (h2 : Rn cl b sl y) (hk : ∀ x, P x → ∃ k, ∀ st, cmpD o x y st = some k) : Fe cl n (.cmp o a b) sl (fun d => ∃ k, d = .bl k) := fun st s => by
  obtain ⟨x, st1, q1, p1, s1, f1⟩ := h st s
  obtain ⟨ex, q2⟩ := h2 st1
  obtain ⟨k, hk⟩ := hk x p1
  exact ⟨.bl k, st1 ++ ex, by rw [x_cmp, q1, Res.bind_ok, q2, Res.bind_ok, hk]; rfl, ⟨k, rfl⟩, SS_app s1, f1.trans Fr_app⟩
theorem f_op {o : Operator} (h : Fe cl n a sl P) (h2 : Fe cl n b sl Q) (hk : ∀ x y, P x → Q y → ∃ z, R z ∧ ∀ st, opD o x y st = .ok z st) : Fe cl n (.op o a b) sl R := fun st s => by
  obtain ⟨x, st1, q1, p1, s1, f1⟩ := h st s
  obtain ⟨y, st2, q2, p2, s2, f2⟩ := h2 st1 s1
  obtain ⟨z, pz, hk⟩ := hk x y p1 p2
  exact ⟨z, st2, by rw [x_op, q1, Res.bind_ok, q2, Res.bind_ok, hk], pz, s2, f1.trans f2⟩
theorem f_lst1 (h : Fe cl n a sl P) : Fe cl n (.lst false [a]) sl (fun d => ∃ x, d = .lst [x] ∧ P x) := fun st s => by
  obtain ⟨x, st1, q1, p1, s1, f1⟩ := h st s
  exact ⟨.lst [x], st1, by simp [q1, mkL], ⟨x, rfl, p1⟩, s1, f1⟩
theorem f_idx (h1 : Rn cl a sl x) (h : Fe cl n b sl P) (hk : ∀ y, P y → ∃ z, R z ∧ ∀ st, idxD x y st = some z) : Fe cl n (.idx a b) sl R := fun st s => by
  obtain ⟨ex, q1⟩ := h1 st
  obtain ⟨y, st2, q2, p2, s2, f2⟩ := h (st ++ ex) (SS_app s)
  obtain ⟨z, pz, hk⟩ := hk y p2
  exact ⟨z, st2, by rw [x_idx, q1, Res.bind_ok, q2, Res.bind_ok, hk]; rfl, pz, s2, Fr_app.trans f2⟩
theorem f_cut {xs : List D} (h1 : Rn cl a sl (.lst xs)) (h : Fe cl n b sl (fun d => ∃ i : Int, d = .int i)) : Fe cl n (.sl a .none (.some b)) sl (fun d => ∃ i : Int, d = .lst (TM.cutD xs none (some i))) := fun st s => by
  obtain ⟨ex, q1⟩ := h1 st
  obtain ⟨y, st2, q2, ⟨i, rfl⟩, s2, f2⟩ := h (st ++ ex) (SS_app s)
  refine ⟨_, st2, ?_, ⟨i, rfl⟩, s2, Fr_app.trans f2⟩
  show (evE cl a sl st).bind (fun x st1 => (evO cl .none sl st1).bind fun l st2 => (evO cl (.some b) sl st2).bind fun h st3 => ofO (slD x l h st3) st3) = _
  rw [q1, Res.bind_ok]
  show ((evO cl (.some b) sl (st ++ ex)).bind fun h st3 => ofO (slD (.lst xs) none h st3) st3) = _
  have : evO cl (.some b) sl (st ++ ex) = .ok (some i) st2 := by
    show (evE cl b sl (st ++ ex)).bind _ = _
    rw [q2]
    rfl
  rw [this]
  rfl
theorem f_ife {k : Bool} (h1 : Rn cl c sl x) (h2 : ∀ st, truth x st = some k) (h : Fe cl n (if k then a else b) sl P) : Fe cl n (.ife c a b) sl P := fun st s => by
  obtain ⟨ex, q1⟩ := h1 st
  obtain ⟨d, st2, q2, r⟩ := h (st ++ ex) (SS_app s)
  refine ⟨d, st2, ?_, r.1, r.2.1, Fr_app.trans r.2.2⟩
  rw [x_ife, q1, Res.bind_ok, h2]
  cases k <;> exact q2
theorem fb_ret {ss : List CS} (h : Fe cl n e sl P) : Fb cl n (.ret e :: ss) sl P := fun st s => by
  obtain ⟨d, st', q, r⟩ := h st s
  exact ⟨d, st', by rw [evSs_ret (d := d) (st' := st') (by rw [x_ret, q]; rfl)], r⟩
theorem fb_asg {ss : List CS} {t : CT} (h : Fe cl n e sl P) (hk : ∀ d, P d → ∃ sl', asgT t d sl = some sl' ∧ Fb cl n ss sl' Q) : Fb cl n (.asg t e :: ss) sl Q := fun st s => by
  obtain ⟨d, st1, q1, p1, s1, f1⟩ := h st s
  obtain ⟨sl', ha, hb⟩ := hk d p1
  obtain ⟨r, st2, q2, p2, s2, f2⟩ := hb st1 s1
  exact ⟨r, st2, by rw [evSs_cons (sl' := sl') (st' := st1) (by rw [x_asg, q1, Res.then_ok, ha]), q2], p2, s2, f1.trans f2⟩
theorem fb_lc {ss : List CS} {i : Nat} (h : Fe cl n e sl P) (hi : i < sl.length) (hk : ∀ d, P d → Fb cl n ss (sl.set i (some d)) Q) : Fb cl n (.asgLc i e :: ss) sl Q := fun st s => by
  obtain ⟨d, st1, q1, p1, s1, f1⟩ := h st s
  obtain ⟨r, st2, q2, p2, s2, f2⟩ := hk d p1 st1 s1
  exact ⟨r, st2, by rw [evSs_cons (sl' := sl.set i (some d)) (st' := st1) (by rw [x_asgLc, q1, Res.then_ok]; exact if_pos hi), q2], p2, s2, f1.trans f2⟩
theorem fb_iff {ss t : List CS} {k : Bool} (h1 : Rn cl c sl x) (h2 : ∀ st, truth x st = some k) (ht : k = true → Fb cl n t sl P) (hf : k = false → Fb cl n ss sl P) : Fb cl n (.iff c t [] :: ss) sl P := fun st s => by
  obtain ⟨ex, q1⟩ := h1 st
  have ev : evS cl (.iff c t []) sl st = if k then evSs cl t sl (st ++ ex) else .next sl (st ++ ex) := by
    rw [x_iff, x_tru, q1, Res.bind_ok, h2]
    cases k <;> rfl
  cases k with
  | true =>
    obtain ⟨d, st2, q2, r⟩ := ht rfl (st ++ ex) (SS_app s)
    exact ⟨d, st2, by rw [evSs_ret (d := d) (st' := st2) (by rw [ev]; exact q2)], r.1, r.2.1, Fr_app.trans r.2.2⟩
  | false =>
    obtain ⟨d, st2, q2, r⟩ := hf rfl (st ++ ex) (SS_app s)
    exact ⟨d, st2, by rw [evSs_cons (sl' := sl) (st' := st ++ ex) (by rw [ev]; rfl), q2], r.1, r.2.1, Fr_app.trans r.2.2⟩
theorem fc_of {FT : List FD} {k f : Nat} {F : FD} {ds : List D} (e : FT[f]? = some F) (h : ds.length = F.np) (hb : Fb (evCall FT k) n F.body (slots0 F.nn ds) P) : Fc (evCall FT (k + 1)) n f ds P := fun st s => by
  obtain ⟨d, st', q, r⟩ := hb st s
  exact ⟨d, st', by rw [evCall_at e h, q]; rfl, r⟩
/-- a list comprehension -/
theorem f_lc {own : List (Str × Nat)} {t : CT} {it : CI} {I : List D → Prop} (hI : ∀ st, SS st n → ∃ ds st', evI cl it sl st = .ok ⟨none, ds⟩ st' ∧ I ds ∧ SS st' n ∧ Fr n st st') (he : ∀ ds, I ds → ∀ d ∈ ds, ∃ sl', asgT t d (wipeD sl (own.map (·.2))) = some sl' ∧ Fe cl n e sl' P) (hl : ∀ ds, I ds → ds.length ≤ 1000) :
    Fe cl n (.lc false own t it [] e) sl (fun d => ∃ vs ds, d = .lst vs ∧ I ds ∧ vs.length = ds.length ∧ ∀ v ∈ vs, P v) := fun st s => by
  obtain ⟨ds, st1, q1, hi, s1, f1⟩ := hI st s
  obtain ⟨vs, st2, q2, ⟨s2, f2⟩, l2, p2⟩ := lc_walk (src := none) (f := lcF (evTs cl []) (evE cl e) t (own.map (·.2)) sl) (P := fun st => SS st n ∧ Fr n st1 st) (Q := fun _ v => P v) (fun _ _ => rfl) ds [] st1 (fun d hd st ⟨p1, p2⟩ => by
    obtain ⟨sl', ha, hf⟩ := he ds hi d hd
    obtain ⟨v, st', q, pv, s', f'⟩ := hf st p1
    refine ⟨v, st', ?_, ⟨s', p2.trans f'⟩, pv⟩
    rw [lcF_some ha]
    show ((Res.ok true st : Res Bool).bind fun b st2 => if b then (evE cl e sl' st2).bind fun v st3 => .ok (some v) st3 else .ok none st2) = _
    rw [Res.bind_ok, if_pos rfl, q]
    rfl) ⟨s1, Fr.refl n st1⟩ (by have := hl ds hi; simp only [List.length_nil, sizeLine_eq]; omega)
  refine ⟨.lst vs, st2, ?_, ⟨vs, ds, rfl, hi, l2, fun v hv => ?_⟩, s2, f1.trans f2⟩
  · rw [evE_lc, q1, Res.bind_ok]
    show (lcLoop none _ ds [] st1).bind _ = _
    rw [q2]
    rfl
  · have : ∀ {xs ys : List D}, Paired (fun _ v => P v) xs ys → ∀ v ∈ ys, P v := fun {xs ys} h => by
      induction h with
      | nil => exact fun _ h => absurd h List.not_mem_nil
      | cons q _ ih =>
        intro v hv
        rcases List.mem_cons.mp hv with rfl | hv
        · exact q
        · exact ih v hv
    exact this p2 v hv
/-- for .. in range(a draw) -/
theorem i_draw {z : Nat} (hz : z ≤ 1000) (h : Fe cl n a sl (fun d => ∃ r : Int, d = .int r ∧ 0 ≤ r ∧ r < z)) : ∀ st, SS st n → ∃ ds st', evI cl (.rng [a]) sl st = .ok ⟨none, ds⟩ st' ∧ ds.length < z ∧ SS st' n ∧ Fr n st st' := fun st s => by
  obtain ⟨d, st', q, ⟨r, rfl, r0, r1⟩, s', f'⟩ := h st s
  have e : r = (r.toNat : Int) := by omega
  rw [e] at q
  refine ⟨_, st', evI_rng (by omega) q, ?_, s', f'⟩
  simp
  omega
theorem i_rn {it : CI} (h : Ri cl it sl ds) : ∀ st, SS st n → ∃ ds' st', evI cl it sl st = .ok ⟨none, ds'⟩ st' ∧ ds' = ds ∧ SS st' n ∧ Fr n st st' := fun st s => by
  obtain ⟨ex, q⟩ := h st
  exact ⟨ds, _, q, rfl, SS_app s, Fr_app⟩
end
end K43.F
set_option maxHeartbeats 1000000
namespace K43.F
open PySem PySem.Spec PyProof.Rows L2 TM
section
variable {cl : Nat → List D → Store → Res D} {n : Nat} {sl sl' : Slots} {a b c e : CE} {es : List CE} {ds : List D} {x y z d : D} {P Q R : D → Prop}
theorem f_list : ∀ {es : List CE}, (∀ e ∈ es, Fe cl n e sl P) → ∀ st, SS st n → ∃ ds st', evEs cl es sl st = .ok ds st' ∧ (ds.length = es.length ∧ ∀ d ∈ ds, P d) ∧ SS st' n ∧ Fr n st st'
  | [], _, st, s => ⟨[], st, rfl, ⟨rfl, fun _ h => absurd h List.not_mem_nil⟩, s, Fr.refl n st⟩
  | e :: es, h, st, s => by
    obtain ⟨d, st1, q1, p1, s1, f1⟩ := h e List.mem_cons_self st s
    obtain ⟨ds, st2, q2, ⟨l2, p2⟩, s2, f2⟩ := f_list (es := es) (fun e he => h e (List.mem_cons_of_mem _ he)) st1 s1
    refine ⟨d :: ds, st2, by rw [x_cons, q1, Res.bind_ok, q2, Res.bind_ok], ⟨by rw [List.length_cons, List.length_cons, l2], fun x hx => ?_⟩, s2, f1.trans f2⟩
    rcases List.mem_cons.mp hx with rfl | hx
    · exact p1
    · exact p2 x hx
theorem f_lst (h : ∀ e ∈ es, Fe cl n e sl P) (hl : es.length ≤ 1000) : Fe cl n (.lst false es) sl (fun d => ∃ ds, d = .lst ds ∧ ds.length = es.length ∧ ∀ x ∈ ds, P x) := fun st s => by
  obtain ⟨ds, st1, q1, ⟨l1, p1⟩, s1, f1⟩ := f_list h st s
  exact ⟨.lst ds, st1, by rw [x_lst, q1, Res.bind_ok, x_fit (by omega)]; rfl, ⟨ds, rfl, l1, p1⟩, s1, f1⟩
/-- f(stream, e) -/
theorem f_call1 {f : Nat} {nm : Str} {v : D} (h0 : sl[0]? = some (some v)) (h : Fe cl n e sl P) (hc : ∀ d, P d → Fc cl n f [v, d] Q) : Fe cl n (.call f nm [(.var 0), e]) sl Q := fun st s => by
  obtain ⟨d, st1, q1, p1, s1, f1⟩ := h st s
  obtain ⟨r, st2, q2, p2, s2, f2⟩ := hc d p1 st1 s1
  refine ⟨r, st2, ?_, p2, s2, f1.trans f2⟩
  have q0 : evE cl (.var 0) sl st = .ok v st := by rw [x_var, h0]
  rw [x_call, x_cons, q0, Res.bind_ok, x_cons, q1, Res.bind_ok, x_nil, Res.bind_ok, Res.bind_ok, Res.bind_ok, q2]
theorem f_and {k : Bool} (h1 : Rn cl a sl x) (h2 : ∀ st, truth x st = some k) (h : k = true → Fe cl n b sl P) (h' : k = false → P x) : Fe cl n (.and_ a b) sl P := fun st s => by
  obtain ⟨ex, q1⟩ := h1 st
  cases k with
  | true =>
    obtain ⟨d, st2, q2, r⟩ := h rfl (st ++ ex) (SS_app s)
    exact ⟨d, st2, by rw [x_and, q1, Res.bind_ok, h2]; exact q2, r.1, r.2.1, Fr_app.trans r.2.2⟩
  | false => exact ⟨x, _, by rw [x_and, q1, Res.bind_ok, h2], h' rfl, SS_app s, Fr_app⟩
theorem f_bi1 {f : Bi} (h : Fe cl n a sl P) (hk : ∀ x, P x → ∃ z, R z ∧ ∀ st, biD f [x] st = .ok z st) : Fe cl n (.bi f [a]) sl R := fun st s => by
  obtain ⟨x, st1, q1, p1, s1, f1⟩ := h st s
  obtain ⟨z, pz, hz⟩ := hk x p1
  exact ⟨z, st1, by rw [x_bi, x_cons, q1, Res.bind_ok, x_nil, Res.bind_ok, Res.bind_ok, hz], pz, s1, f1⟩
/-- a test that turns the stream -/
theorem fb_test {ss t : List CS} (h : Fe cl n c sl (fun d => ∃ k, d = .bl k ∧ (k = true → Fb cl n t sl P) ∧ (k = false → Fb cl n ss sl P))) : Fb cl n (.iff c t [] :: ss) sl P := fun st s => by
  obtain ⟨x, st1, q1, ⟨k, ex, ht, hf⟩, s1, f1⟩ := h st s
  subst ex
  have ev : evS cl (.iff c t []) sl st = if k then evSs cl t sl st1 else .next sl st1 := by
    rw [x_iff, x_tru, q1, Res.bind_ok]
    cases k <;> rfl
  cases k with
  | true =>
    obtain ⟨d, st2, q2, r⟩ := ht rfl st1 s1
    exact ⟨d, st2, by rw [evSs_ret (d := d) (st' := st2) (by rw [ev]; exact q2)], r.1, r.2.1, f1.trans r.2.2⟩
  | false =>
    obtain ⟨d, st2, q2, r⟩ := hf rfl st1 s1
    exact ⟨d, st2, by rw [evSs_cons (sl' := sl) (st' := st1) (by rw [ev]; rfl), q2], r.1, r.2.1, f1.trans r.2.2⟩
/-- a test whose branch only sets a name -/
theorem fb_set {ss : List CS} {k : Bool} {i : Nat} (h1 : Rn cl c sl x) (h2 : ∀ st, truth x st = some k) (ht : k = true → ∃ d, Rn cl e sl d ∧ i < sl.length ∧ Fb cl n ss (sl.set i (some d)) P) (hf : k = false → Fb cl n ss sl P) : Fb cl n (.iff c [.asg (.name i) e] [] :: ss) sl P := fun st s => by
  obtain ⟨ex, q1⟩ := h1 st
  have ev : evS cl (.iff c [.asg (.name i) e] []) sl st = if k then evSs cl [.asg (.name i) e] sl (st ++ ex) else .next sl (st ++ ex) := by
    rw [x_iff, x_tru, q1, Res.bind_ok, h2]
    cases k <;> rfl
  cases k with
  | true =>
    obtain ⟨d, hd, hi, hb⟩ := ht rfl
    obtain ⟨ex2, q2⟩ := hd (st ++ ex)
    obtain ⟨r, st2, q3, rr⟩ := hb (st ++ ex ++ ex2) (SS_app (SS_app s))
    refine ⟨r, st2, ?_, rr.1, rr.2.1, (Fr_app.trans Fr_app).trans rr.2.2⟩
    rw [evSs_cons (sl' := sl.set i (some d)) (st' := st ++ ex ++ ex2) ?_, q3]
    rw [ev, if_pos rfl]
    refine (evSs_cons (sl' := sl.set i (some d)) (st' := st ++ ex ++ ex2) ?_).trans rfl
    rw [x_asg, q2, Res.then_ok]
    show (match (if i < sl.length then some (sl.set i (some d)) else none : Option Slots) with
      | some sl' => .next sl' (st ++ ex ++ ex2)
      | none => .stuck : RS) = _
    rw [if_pos hi]
  | false =>
    obtain ⟨d, st2, q2, r⟩ := hf rfl (st ++ ex) (SS_app s)
    exact ⟨d, st2, by rw [evSs_cons (sl' := sl) (st' := st ++ ex) (by rw [ev]; rfl), q2], r.1, r.2.1, Fr_app.trans r.2.2⟩
/-- for .. in range(a draw) -/
theorem i_rngP {P : Nat → Prop} (h : Fe cl n a sl (fun d => ∃ r : Nat, d = .int (r : Int) ∧ r ≤ 1000 ∧ P r)) : ∀ st, SS st n → ∃ ds st', evI cl (.rng [a]) sl st = .ok ⟨none, ds⟩ st' ∧ P ds.length ∧ SS st' n ∧ Fr n st st' := fun st s => by
  obtain ⟨d, st', q, ⟨r, rfl, r0, r1⟩, s', f'⟩ := h st s
  refine ⟨_, st', evI_rng (by omega) q, ?_, s', f'⟩
  simpa using r1
end
/-! ### texts -/
structure SX (m : Nat) (s : Str) : Prop where
  len : s.length ≤ m
  lt : ∀ c ∈ s.cps.toList, c < 1114112
theorem SX.mono {m k : Nat} {s : Str} (h : SX m s) (l : m ≤ k) : SX k s := ⟨Nat.le_trans h.len l, h.lt⟩
theorem SX.app {m k : Nat} {s t : Str} (h : SX m s) (h' : SX k t) : SX (m + k) (s ++ t) := ⟨by
    have := h.len
    have := h'.len
    rw [strLen_append]
    omega, fun c hc => by
    have e : (s ++ t).cps.toList = s.cps.toList ++ t.cps.toList := by rw [Str.cps_append, Array.toList_append]
    rw [e, List.mem_append] at hc
    exact hc.elim (h.lt c) (h'.lt c)⟩
theorem sx_one {c : Nat} (h : c < 1114112) : SX 1 ⟨#[c]⟩ := ⟨Nat.le_refl _, fun d hd => by
  have : d = c := by simpa using hd
  rw [this]
  exact h⟩
def ofB (s : Str) (m : Nat) : Bool := decide (s.length ≤ m) && s.cps.toList.all fun c => decide (c < 1114112)
theorem sx_of {s : Str} {m : Nat} (h : ofB s m = true) : SX m s := by
  unfold ofB at h
  rw [Bool.and_eq_true, decide_eq_true_eq, List.all_eq_true] at h
  exact ⟨h.1, fun c hc => of_decide_eq_true (h.2 c hc)⟩
theorem strs_of {vs : List D} {P : Str → Prop} : (∀ v ∈ vs, ∃ s, v = .str s ∧ P s) → ∃ ss : List Str, strsOf vs = some ss ∧ ss.length = vs.length ∧ ∀ s ∈ ss, P s := by
  induction vs with
  | nil => exact fun _ => ⟨[], rfl, rfl, fun s hs => absurd hs List.not_mem_nil⟩
  | cons v vs ih =>
    intro h
    obtain ⟨s, rfl, p⟩ := h v List.mem_cons_self
    obtain ⟨ss, e, l, q⟩ := ih fun v hv => h v (List.mem_cons_of_mem _ hv)
    refine ⟨s :: ss, by simp only [strsOf, e, Option.map], by simp [l], fun x hx => ?_⟩
    rcases List.mem_cons.mp hx with rfl | hx
    · exact p
    · exact q x hx
theorem sum_le : ∀ {ss : List Str}, (∀ s ∈ ss, SX 1 s) → (ss.map (·.length)).sum ≤ ss.length
  | [], _ => Nat.le_refl _
  | s :: ss, h => by
    have := (h s List.mem_cons_self).len
    have := sum_le (ss := ss) fun t ht => h t (List.mem_cons_of_mem _ ht)
    rw [List.map_cons, List.sum_cons, List.length_cons]
    omega
theorem f_join {cl : Nat → List D → Store → Res D} {n m : Nat} {sl : Slots} {e : CE} (hm : m ≤ 1000) (h : Fe cl n e sl (fun d => ∃ vs, d = .lst vs ∧ vs.length ≤ m ∧ ∀ v ∈ vs, ∃ s, v = .str s ∧ SX 1 s)) : Fe cl n (.me .join (.str "") [e]) sl (fun d => ∃ s, d = .str s ∧ SX m s) := fun st s => by
  obtain ⟨d, st1, q1, ⟨vs, rfl, hl, hv⟩, s1, f1⟩ := h st s
  obtain ⟨ss, e1, l1, p1⟩ := strs_of hv
  have hs := sum_le p1
  have z : ("" : Str).length = 0 := rfl
  refine ⟨.str (Txt.join "" ss), st1, evE_join q1 e1 (by rw [z]; omega), ⟨_, rfl, ?_, fun c hc => ?_⟩, s1, f1⟩
  · rw [len_join, z]
    omega
  · rcases mem_join hc with h | ⟨p, hp, h⟩
    · rw [show (Str.ofString "").cps.toList = [] by decide +kernel] at h
      cases h
    · exact (p1 p hp).lt c h
section
variable {n : Nat}
theorem fc_draw {K : Nat} {size : Int} (hK : 1 ≤ K) (h0 : 0 < size) (h1 : size < 1073741824) : Fc (C K) n 15 [.loc n, .int size] (fun d => ∃ r : Int, d = .int r ∧ 0 ≤ r ∧ r < size) := fun st s => by
  obtain ⟨r, st', e, r0, r1, s', f⟩ := draw_at hK s h0 h1
  exact ⟨.int r, st', e, ⟨r, rfl, r0, r1⟩, s', f⟩
theorem fc_choose {K : Nat} {xs : List D} (hK : 2 ≤ K) (h0 : xs ≠ []) (h1 : xs.length ≤ 1000) : Fc (C K) n 16 [.loc n, .lst xs] (fun d => d ∈ xs) := fun st s => by
  obtain ⟨x, hx, st', e, s', f⟩ := choose_at hK s h0 (by omega)
  exact ⟨x, st', e, hx, s', f⟩
theorem fc_chooseS {K : Nat} {z : Str} (hK : 2 ≤ K) (h0 : 0 < z.length) (h1 : z.length ≤ 1000) : Fc (C K) n 16 [.loc n, .str z] (fun d => ∃ c ∈ z.cps.toList, d = .str ⟨#[c]⟩) := fun st s => by
  obtain ⟨k, rfl⟩ : ∃ k, K = k + 2 := ⟨K - 2, by omega⟩
  obtain ⟨c, hc, st', e, s', f⟩ := choose_str (k := k) s h0 h1
  exact ⟨_, st', e, ⟨c, hc, rfl⟩, s', f⟩
theorem f_draw {K : Nat} {sl : Slots} {a : CE} {size : Int} (hK : 1 ≤ K) (h : sl[0]? = some (some (.loc n))) (ha : Rn (C K) a sl (.int size)) (h0 : 0 < size) (h1 : size < 1073741824) : Fe (C K) n (.call 15 "_law_draw" [(.var 0), a]) sl (fun d => ∃ r : Int, d = .int r ∧ 0 ≤ r ∧ r < size) :=
  f_call (rs_cons (r_var h) (rs_cons ha rs_nil)) (fc_draw hK h0 h1)
theorem f_choose {K : Nat} {sl : Slots} {a : CE} {P : D → Prop} (hK : 2 ≤ K) (h : sl[0]? = some (some (.loc n))) (ha : Fe (C K) n a sl (fun d => ∃ ds, d = .lst ds ∧ (0 < ds.length ∧ ds.length ≤ 1000) ∧ ∀ x ∈ ds, P x)) : Fe (C K) n (.call 16 "_law_choose" [(.var 0), a]) sl P :=
  f_call1 h ha fun d ⟨ds, e, hl, hp⟩ => by
    subst e
    exact fun st s => by
      obtain ⟨x, st', q, hx, r⟩ := fc_choose hK (List.length_pos_iff.mp hl.1) hl.2 st s
      exact ⟨x, st', q, hp x hx, r⟩
/-- choose(stream, [..]) -/
theorem f_pick {K : Nat} {sl : Slots} {es : List CE} {P : D → Prop} (hK : 2 ≤ K) (h : sl[0]? = some (some (.loc n))) (h0 : 0 < es.length) (h1 : es.length ≤ 1000) (ha : ∀ e ∈ es, Fe (C K) n e sl P) : Fe (C K) n (.call 16 "_law_choose" [(.var 0), (.lst false es)]) sl P :=
  f_choose hK h ((f_lst ha h1).imp fun d ⟨ds, e, hl, hp⟩ => ⟨ds, e, by omega, hp⟩)
end
end K43.F
set_option maxHeartbeats 1000000
namespace K43.F
open PySem PySem.Spec PyProof.Rows L2 TM
theorem for_range {f : D → Slots → Store → RS} {z : Nat} {P : Nat → Slots → Store → Prop} (h : ∀ i, i < z → ∀ sl st, P i sl st → ∃ sl' st', f (.int (i : Int)) sl st = .next sl' st' ∧ P (i + 1) sl' st') :
    ∀ sl st, P 0 sl st → ∃ sl' st', forLoop none f ((List.range z).map fun (i : Nat) => D.int (0 + (i : Int))) sl st = .next sl' st' ∧ P z sl' st' := by
  have go : ∀ k i, i + k = z → ∀ sl st, P i sl st → ∃ sl' st', forLoop none f ((List.range' i k).map fun (i : Nat) => D.int (0 + (i : Int))) sl st = .next sl' st' ∧ P z sl' st' := by
    intro k
    induction k with
    | zero =>
      intro i hi sl st p
      refine ⟨sl, st, ?_, by rw [← hi]; exact p⟩
      show forLoop none f [] sl st = _
      rw [forLoop]
      exact if_pos rfl
    | succ k ih =>
      intro i hi sl st p
      obtain ⟨sl1, st1, q1, p1⟩ := h i (by omega) sl st p
      obtain ⟨sl2, st2, q2, p2⟩ := ih (i + 1) (by omega) sl1 st1 p1
      refine ⟨sl2, st2, ?_, p2⟩
      rw [List.range'_succ, List.map_cons, forLoop, if_pos (show srcOk none st = true from rfl), show (0 : Int) + (i : Int) = (i : Int) by omega, q1]
      exact q2
  intro sl st p
  rw [List.range_eq_range']
  exact go z 0 (by omega) sl st p
/-- the list that is being made -/
structure Iv (st0 : Store) (n : Nat) (f : List Sp) (st : Store) : Prop where
  ss : SS st n
  fr : Fr n st0 st
  nl : n < st0.length
  at_ : st[st0.length]? = some (.lst (SL f))
section
variable {st0 st st' : Store} {n : Nat} {f : List Sp} {K : Nat} {sl : Slots} {e : CE} {s : Sp}
theorem Iv.go (h : Iv st0 n f st) (h1 : SS st' n) (h2 : Fr n st st') : Iv st0 n f st' :=
  ⟨h1, h.fr.trans h2, h.nl, (h2.keep _ (by have := h.nl; omega) (List.getElem?_eq_some_iff.mp h.at_).1).trans h.at_⟩
theorem Iv.put (h : Iv st0 n f st) (s : Sp) : Iv st0 n (f ++ [s]) (st.set st0.length (.lst (SL f ++ [sd s]))) := by
  have hl := (List.getElem?_eq_some_iff.mp h.at_).1
  refine ⟨?_, ⟨by rw [List.length_set]; exact h.fr.len, fun m hm hlt => ?_⟩, h.nl, ?_⟩
  · obtain ⟨a, b, e, q⟩ := h.ss
    exact ⟨a, b, by rw [List.getElem?_set_ne (by have := h.nl; omega)]; exact e, q⟩
  · rw [List.getElem?_set_ne (by omega)]
    exact h.fr.keep m hm hlt
  · rw [List.getElem?_set_self hl]
    exact congrArg (fun z => some (Cell.lst z)) (List.map_append (f := sd) (l₁ := f) (l₂ := [s])).symm
theorem ex_put (h3 : sl[3]? = some (some (.loc st0.length))) (h : Iv st0 n f st) (q : evE (C K) e sl st = .ok (sd s) st') (h1 : SS st' n) (h2 : Fr n st st') (hl : f.length ≤ 10000) :
    ∃ st2, evS (C K) (.ex (.me .append (.var 3) [e])) sl st = .next sl st2 ∧ Iv st0 n (f ++ [s]) st2 := by
  have i1 := h.go h1 h2
  refine ⟨_, ?_, i1.put s⟩
  have a1 := lst_at h.at_
  have a2 := lst_at i1.at_
  show (evE (C K) (.me .append (.var 3) [e]) sl st).then (fun _ st1 => .next sl st1) = _
  have : evE (C K) (.me .append (.var 3) [e]) sl st = .ok .non (st'.set st0.length (.lst (SL f ++ [sd s]))) := by
    show (evE (C K) (.var 3) sl st).bind (fun x st1 => if meTy .append x st1 then (evEs (C K) [e] sl st1).bind fun ds st2 => meD .append x ds st2 else .stuck) = _
    rw [x_var, h3]
    show (if meTy .append (.loc st0.length) st then _ else _) = _
    rw [if_pos (show meTy .append (.loc st0.length) st = true by unfold meTy; dsimp only; rw [a1]; rfl), x_cons, q, Res.bind_ok, x_nil, Res.bind_ok, Res.bind_ok]
    unfold meD
    dsimp only
    rw [a2]
    dsimp only
    rw [if_pos (by rw [List.length_map, sizeLine_eq]; omega)]
    rfl
  rw [this]
  rfl
end
/-! ### drawn steps -/
theorem opD_rep (xs : List D) (k : Int) (st : Store) : opD .Mult (.lst xs) (.int k) st = if -(2 ^ 63) ≤ k ∧ k < 2 ^ 63 ∧ xs.length * k.toNat ≤ sizeLine then .ok (.lst (List.replicate k.toNat xs).flatten) st else .stuck := rfl
theorem rep0 (x : D) (st : Store) : opD .Mult (.lst [x]) (.int (b2z (!true))) st = .ok (.lst []) st := by
  rw [opD_rep, if_pos ⟨by decide, by decide, by rw [sizeLine_eq]; show 1 * 0 ≤ 16777216; decide⟩]
  rfl
theorem rep1 (x : D) (st : Store) : opD .Mult (.lst [x]) (.int (b2z (!false))) st = .ok (.lst [x]) st := by
  rw [opD_rep, if_pos ⟨by decide, by decide, by rw [sizeLine_eq]; show 1 * 1 ≤ 16777216; decide⟩]
  rfl
theorem tS_len (l : List Nat) : (tS l).length = l.length := by
  show (l.toArray).size = _
  simp
theorem tS_list (l : List Nat) : (tS l).cps.toList = l := by
  show l.toArray.toList = l
  simp
abbrev lsB : List CS := match b__law_steps.getD 1 .pass with
  | .for_ _ _ b => b
  | _ => []
abbrev putS : List CS := match lsB.getD 0 .pass with
  | .for_ _ _ b => b
  | _ => []
abbrev tkS : List CS := match lsB.getD 1 .pass with
  | .iff _ t _ => t
  | _ => []
def lS (n m : Nat) (own : List Nat) (g : Str) (s4 s5 s6 s7 s8 : Option D) : Slots := [some (.loc n), some (.str (tS own)), some (.str g), some (.loc m), s4, s5, s6, s7, s8]
/-- good letters -/
structure Ls (g : Str) : Prop where
  pos : 0 < g.length
  le : g.length ≤ 1000
  lt : ∀ c ∈ g.cps.toList, c < 128
section
variable {st0 : Store} {n K : Nat} {own : List Nat} {g : Str}
theorem f_letter {sl : Slots} (hK : 2 ≤ K) (hg : Ls g) (h0 : sl[0]? = some (some (.loc n))) (h2 : sl[2]? = some (some (.str g))) : Fe (C K) n (.call 16 "_law_choose" [(.var 0), (.var 2)]) sl (fun d => ∃ c, c < 128 ∧ d = .str (chS c)) :=
  (f_call (rs_cons (r_var h0) (rs_cons (r_var h2) rs_nil)) (fc_chooseS hK hg.pos hg.le)).imp fun d ⟨c, hc, e⟩ => ⟨c, hg.lt c hc, e⟩
theorem puts_ok (hK : 2 ≤ K) (hg : Ls g) {f : List Sp} {s4 s5 s6 s7 s8 : Option D} {st : Store} (iv : Iv st0 n f st) (hf : okL f = true) (hb : LB f) (hl : f.length ≤ 5000) :
    ∃ f' s5' st', evS (C K) (lsB.getD 0 .pass) (lS n st0.length own g s4 s5 s6 s7 s8) st = .next (lS n st0.length own g s4 s5' s6 s7 s8) st' ∧ Iv st0 n f' st' ∧ okL f' = true ∧ LB f' ∧ given f' = given f ∧ f'.length ≤ f.length + 2 := by
  have fr : Fe (C K) n (.call 16 "_law_choose" [(.var 0), (.lst false [(.int 0), (.int 0), (.int 0), (.int 1), (.int 2)])]) (lS n st0.length own g s4 s5 s6 s7 s8) (fun d => ∃ z : Nat, z ≤ 2 ∧ d = .int (z : Int)) :=
    f_pick hK rfl (by decide) (by decide) fun e he => by
      simp only [List.mem_cons, List.not_mem_nil, or_false] at he
      rcases he with rfl | rfl | rfl | rfl | rfl
      · exact f_rn r_int ⟨0, by omega, rfl⟩
      · exact f_rn r_int ⟨0, by omega, rfl⟩
      · exact f_rn r_int ⟨0, by omega, rfl⟩
      · exact f_rn r_int ⟨1, by omega, rfl⟩
      · exact f_rn r_int ⟨2, by omega, rfl⟩
  obtain ⟨d, st1, q1, ⟨z, hz, rfl⟩, s1, f1⟩ := fr st iv.ss
  obtain ⟨sl2, st2, q2, f2, s52, e2, iv2, o2, b2, g2, l2⟩ := for_range (f := frF (.name 5) (evSs (C K) putS)) (z := z) (P := fun j sl st => ∃ f' s5', sl = lS n st0.length own g s4 s5' s6 s7 s8 ∧ Iv st0 n f' st ∧ okL f' = true ∧ LB f' ∧ given f' = given f ∧ f'.length ≤ f.length + j) (fun j hj sl st ⟨f', s5', e, iv', o', b', g', l'⟩ => by
    subst e
    rw [frF_some (sl' := lS n st0.length own g s4 (some (.int (j : Int))) s6 s7 s8) rfl]
    obtain ⟨d, st3, q3, ⟨c, hc, rfl⟩, s3, f3⟩ := f_letter (sl := lS n st0.length own g s4 (some (.int (j : Int))) s6 s7 s8) hK hg rfl rfl st iv'.ss
    obtain ⟨st4, q4, iv4⟩ := ex_put (s := .put c) (sl := lS n st0.length own g s4 (some (.int (j : Int))) s6 s7 s8) (e := .tup [(.str "put"), (.call 16 "_law_choose" [(.var 0), (.var 2)])]) rfl iv' (by
      rw [x_tup, x_cons, x_str, Res.bind_ok, x_cons, q3, Res.bind_ok, x_nil, Res.bind_ok, Res.bind_ok, Res.bind_ok]
      rfl) s3 f3 (by omega)
    refine ⟨lS n st0.length own g s4 (some (.int (j : Int))) s6 s7 s8, st4, (evSs_cons q4).trans rfl, f' ++ [.put c], _, rfl, iv4, ?_, LB_app b' (fun s hs => ?_), ?_, ?_⟩
    · unfold okL at *
      rw [List.all_append, o']
      rfl
    · rw [List.mem_singleton] at hs
      subst hs
      simpa [lets] using hc
    · rw [given_app, g']
      simp [given, Sp.old]
    · rw [List.length_append, List.length_singleton]
      omega) (lS n st0.length own g s4 s5 s6 s7 s8) st1 ⟨f, s5, rfl, iv.go s1 f1, hf, hb, rfl, by omega⟩
  subst e2
  refine ⟨f2, s52, st2, ?_, iv2, o2, b2, g2, by omega⟩
  show evS (C K) (.for_ (.name 5) (.rng [(.call 16 "_law_choose" [(.var 0), (.lst false [(.int 0), (.int 0), (.int 0), (.int 1), (.int 2)])])]) putS) _ st = _
  rw [evS_for, evI_rng (z := z) (by omega) q1, Res.then_ok]
  exact q2
theorem take_ok (hK : 2 ≤ K) (hg : Ls g) {f : List Sp} {i c : Nat} {s5 s6 s7 s8 : Option D} {st : Store} (iv : Iv st0 n f st) (hc : own[i]? = some c) (hc2 : c < 128) (hlo : own.length ≤ 1000) (hf : okL f = true) (hb : LB f) (hl : f.length ≤ 5000) :
    ∃ s s6' s7' s8' st', evSs (C K) tkS (lS n st0.length own g (some (.int (i : Int))) s5 s6 s7 s8) st = .next (lS n st0.length own g (some (.int (i : Int))) s5 s6' s7' s8') st' ∧ Iv st0 n (f ++ [s]) st' ∧ s.ok = true ∧ (∀ x ∈ lets s, x < 128) ∧ s.old = some c := by
  obtain ⟨d, st1, q1, ⟨x, hx, rfl⟩, s1, f1⟩ := f_letter (sl := lS n st0.length own g (some (.int (i : Int))) s5 s6 s7 s8) hK hg rfl rfl st iv.ss
  have b1 : evS (C K) (tkS.getD 0 .pass) (lS n st0.length own g (some (.int (i : Int))) s5 s6 s7 s8) st = .next (lS n st0.length own g (some (.int (i : Int))) s5 (some (.str (chS x))) s7 s8) st1 := by
    show evS (C K) (.asg (.name 6) (.call 16 "_law_choose" [(.var 0), (.var 2)])) _ st = _
    rw [x_asg, q1]
    rfl
  have vo : ∀ {s6 s7 s8 st}, evE (C K) (.idx (.var 1) (.var 4)) (lS n st0.length own g (some (.int (i : Int))) s5 s6 s7 s8) st = .ok (.str (chS c)) st := fun {s6 s7 s8 st} => by
    show ofO (if (tS own).length ≤ sizeLine then (atI (tS own).cps.toList (i : Int)).map fun c => D.str ⟨#[c]⟩ else none) st = _
    rw [if_pos (by rw [tS_len, sizeLine_eq]; omega), tS_list, atI_nat hc]
    rfl
  have b2 : evS (C K) (tkS.getD 1 .pass) (lS n st0.length own g (some (.int (i : Int))) s5 (some (.str (chS x))) s7 s8) st1 = .next (lS n st0.length own g (some (.int (i : Int))) s5 (some (.str (chS x))) (some (.lst (SL [.keep c, .drop c]))) s8) st1 := by
    show evS (C K) (.asg (.name 7) (.lst false [(.tup [(.str "keep"), (.idx (.var 1) (.var 4))]), (.tup [(.str "drop"), (.idx (.var 1) (.var 4))])])) _ st1 = _
    have : evE (C K) (.lst false [(.tup [(.str "keep"), (.idx (.var 1) (.var 4))]), (.tup [(.str "drop"), (.idx (.var 1) (.var 4))])]) (lS n st0.length own g (some (.int (i : Int))) s5 (some (.str (chS x))) s7 s8) st1 = .ok (.lst (SL [.keep c, .drop c])) st1 := by
      rw [x_lst, x_cons, x_tup, x_cons, x_str, Res.bind_ok, x_cons, vo]
      simp only [Res.bind_ok, x_nil, x_cons, x_tup, x_str, vo]
      rfl
    rw [x_asg, this]
    rfl
  let o8 : List Sp := if x = c then [] else [.swap c x]
  have b3 : evS (C K) (tkS.getD 2 .pass) (lS n st0.length own g (some (.int (i : Int))) s5 (some (.str (chS x))) (some (.lst (SL [.keep c, .drop c]))) s8) st1 = .next (lS n st0.length own g (some (.int (i : Int))) s5 (some (.str (chS x))) (some (.lst (SL [.keep c, .drop c]))) (some (.lst (SL o8)))) st1 := by
    show evS (C K) (.asg (.name 8) (.op .Mult (.lst false [(.tup [(.str "swap"), (.idx (.var 1) (.var 4)), (.var 6)])]) (.bi .int [(.cmp .NotEq (.var 6) (.idx (.var 1) (.var 4)))]))) _ st1 = _
    have v1 : evE (C K) (.lst false [(.tup [(.str "swap"), (.idx (.var 1) (.var 4)), (.var 6)])]) (lS n st0.length own g (some (.int (i : Int))) s5 (some (.str (chS x))) (some (.lst (SL [.keep c, .drop c]))) s8) st1 = .ok (.lst [sd (.swap c x)]) st1 := by
      rw [x_lst, x_cons, x_tup, x_cons, x_str, Res.bind_ok, x_cons, vo]
      rfl
    have v2 : evE (C K) (.bi .int [(.cmp .NotEq (.var 6) (.idx (.var 1) (.var 4)))]) (lS n st0.length own g (some (.int (i : Int))) s5 (some (.str (chS x))) (some (.lst (SL [.keep c, .drop c]))) s8) st1 = .ok (.int (b2z (!decide (chS x = chS c)))) st1 := by
      rw [x_bi, x_cons, x_cmp]
      show (((evE (C K) (.idx (.var 1) (.var 4)) (lS n st0.length own g (some (.int (i : Int))) s5 (some (.str (chS x))) (some (.lst (SL [.keep c, .drop c]))) s8) st1).bind fun y st2 => ofO ((cmpD .NotEq (.str (chS x)) y st2).map D.bl) st2).bind _).bind _ = _
      rw [vo]
      rfl
    have v3 : opD .Mult (.lst [sd (.swap c x)]) (.int (b2z (!decide (chS x = chS c)))) st1 = .ok (.lst (SL o8)) st1 := by
      by_cases h : x = c
      · have e8 : o8 = [] := if_pos h
        rw [e8, decide_eq_true (chS_eq.mpr h)]
        exact rep0 _ _
      · have e8 : o8 = [.swap c x] := if_neg h
        rw [e8, decide_eq_false (fun z => h (chS_eq.mp z))]
        exact rep1 _ _
    rw [x_asg, x_op, v1, Res.bind_ok, v2, Res.bind_ok, v3]
    rfl
  have fr : Fe (C K) n (.call 16 "_law_choose" [(.var 0), (.op .Add (.var 7) (.var 8))]) (lS n st0.length own g (some (.int (i : Int))) s5 (some (.str (chS x))) (some (.lst (SL [.keep c, .drop c]))) (some (.lst (SL o8)))) (fun d => ∃ s, d = sd s ∧ s.ok = true ∧ (∀ x ∈ lets s, x < 128) ∧ s.old = some c) := by
    have l8 : o8.length ≤ 1 := by
      show (if x = c then ([] : List Sp) else [.swap c x]).length ≤ 1
      split <;> simp
    refine f_choose hK rfl (f_rn (d := .lst (SL ([.keep c, .drop c] ++ o8))) (r_op (r_var rfl) (r_var rfl) fun st => ?_) ⟨_, rfl, ⟨by simp, by simp; omega⟩, fun y hy => ?_⟩)
    · rw [opD_lst (by rw [List.length_map, List.length_map, sizeLine_eq]; simp; omega)]
      exact congrArg (fun z => Res.ok (D.lst z) st) List.map_append.symm
    · obtain ⟨s, hs, rfl⟩ := List.mem_map.mp hy
      refine ⟨s, rfl, ?_⟩
      rcases List.mem_append.mp hs with hs | hs
      · simp only [List.mem_cons, List.not_mem_nil, or_false] at hs
        rcases hs with rfl | rfl
        · exact ⟨rfl, by simpa [lets] using hc2, rfl⟩
        · exact ⟨rfl, by simpa [lets] using hc2, rfl⟩
      · have hs' : s ∈ (if x = c then ([] : List Sp) else [.swap c x]) := hs
        split at hs'
        · cases hs'
        · rename_i hne
          rw [List.mem_singleton] at hs'
          subst hs'
          exact ⟨decide_eq_true fun z => hne z.symm, by simp [lets]; omega, rfl⟩
  obtain ⟨d, st4, q4, ⟨s, rfl, os, ls, ss⟩, s4, f4⟩ := fr st1 s1
  obtain ⟨st5, q5, iv5⟩ := ex_put (s := s) rfl (iv.go s1 f1) q4 s4 f4 (by omega)
  exact ⟨s, _, _, _, st5, (evSs_cons b1).trans ((evSs_cons b2).trans ((evSs_cons b3).trans ((evSs_cons q5).trans rfl))), iv5, os, ls, ss⟩
theorem fc_steps (hK : 2 ≤ K) (hg : Ls g) (ho : ∀ c ∈ own, c < 128) (hlo : own.length ≤ 1000) : Fc (C (K + 1)) n 20 [.loc n, .str (tS own), .str g] (fun d => ∃ f, d = .lst (SL f) ∧ okL f = true ∧ LB f ∧ given f = own ∧ f.length ≤ 3 * own.length + 3) := fun st hs => by
  have hn : n < st.length := by
    obtain ⟨a, b, e, _⟩ := hs
    exact (List.getElem?_eq_some_iff.mp e).1
  have iv0 : Iv st n [] (st ++ [.lst []]) := ⟨SS_app hs, Fr_app, hn, by rw [List.getElem?_append_right (Nat.le_refl _), Nat.sub_self]; rfl⟩
  have q0 : evS (C K) (b__law_steps.getD 0 .pass) (slots0 9 [.loc n, .str (tS own), .str g]) st = .next (lS n st.length own g none none none none none) (st ++ [.lst []]) := by rfl
  obtain ⟨sl2, st2, q2, f2, t4, t5, t6, t7, t8, e2, iv2, o2, b2, g2, l2⟩ := for_range (f := frF (.name 4) (evSs (C K) lsB)) (z := own.length + 1) (P := fun i sl st' => ∃ f s4 s5 s6 s7 s8, sl = lS n st.length own g s4 s5 s6 s7 s8 ∧ Iv st n f st' ∧ okL f = true ∧ LB f ∧ given f = own.take i ∧ f.length ≤ 3 * i) (fun i hi sl st' ⟨f, s4, s5, s6, s7, s8, e, iv, o, b, gv, l⟩ => by
    subst e
    rw [frF_some (sl' := lS n st.length own g (some (.int (i : Int))) s5 s6 s7 s8) rfl]
    obtain ⟨f', s5', st3, q3, iv3, o3, b3, g3, l3⟩ := puts_ok (s4 := some (.int (i : Int))) (s5 := s5) (s6 := s6) (s7 := s7) (s8 := s8) (own := own) hK hg iv o b (by omega)
    have tst : tru (evE (C K) (.cmp .Lt (.var 4) (.bi .len [(.var 1)]))) (lS n st.length own g (some (.int (i : Int))) s5' s6 s7 s8) st3 = .ok (decide (i < own.length)) st3 := by
      rw [x_tru, x_cmp]
      have : evE (C K) (.bi .len [(.var 1)]) (lS n st.length own g (some (.int (i : Int))) s5' s6 s7 s8) st3 = .ok (.int (own.length : Nat)) st3 := by
        show (if (tS own).length ≤ sizeLine then Res.ok (D.int (tS own).length) st3 else .stuck) = _
        rw [if_pos (by rw [tS_len, sizeLine_eq]; omega), tS_len]
      show ((evE (C K) (.bi .len [(.var 1)]) (lS n st.length own g (some (.int (i : Int))) s5' s6 s7 s8) st3).bind fun y st2 => ofO ((cmpD .Lt (.int (i : Int)) y st2).map D.bl) st2).bind _ = _
      rw [this]
      show ofO (truth (.bl (decide ((i : Int) < (own.length : Nat)))) st3) st3 = _
      have e : decide ((i : Int) < (own.length : Nat)) = decide (i < own.length) := by
        rw [Bool.eq_iff_iff]
        simp
      rw [e]
      rfl
    by_cases h : i < own.length
    · obtain ⟨c, hc⟩ : ∃ c, own[i]? = some c := ⟨own[i], List.getElem?_eq_getElem h⟩
      obtain ⟨s, s6', s7', s8', st4, q4, iv4, os, ls, so⟩ := take_ok (s5 := s5') (s6 := s6) (s7 := s7) (s8 := s8) hK hg iv3 hc (ho c (List.mem_of_getElem? hc)) hlo o3 b3 (by omega)
      refine ⟨lS n st.length own g (some (.int (i : Int))) s5' s6' s7' s8', st4, ?_, f' ++ [s], _, _, _, _, _, rfl, iv4, ?_, LB_app b3 (fun t ht => ?_), ?_, ?_⟩
      · refine (evSs_cons q3).trans ((evSs_cons (?_ : evS (C K) (lsB.getD 1 .pass) _ st3 = _)).trans rfl)
        refine Eq.trans (x_iff (t := .cmp .Lt (.var 4) (.bi .len [(.var 1)]))) ?_
        rw [tst, decide_eq_true h]
        exact q4
      · unfold okL at *
        rw [List.all_append, o3]
        simp [os]
      · rw [List.mem_singleton] at ht
        subst ht
        exact ls
      · rw [given_app, g3, gv, List.take_succ, hc]
        simp [given, so]
      · rw [List.length_append, List.length_singleton]
        omega
    · refine ⟨lS n st.length own g (some (.int (i : Int))) s5' s6 s7 s8, st3, ?_, f', _, _, _, _, _, rfl, iv3, o3, b3, ?_, by omega⟩
      · refine (evSs_cons q3).trans ((evSs_cons (?_ : evS (C K) (lsB.getD 1 .pass) _ st3 = _)).trans rfl)
        refine Eq.trans (x_iff (t := .cmp .Lt (.var 4) (.bi .len [(.var 1)]))) ?_
        rw [tst, decide_eq_false h]
        rfl
      · rw [g3, gv, List.take_of_length_le (by omega), List.take_of_length_le (by omega)]) (lS n st.length own g none none none none none) (st ++ [.lst []]) ⟨[], none, none, none, none, none, rfl, iv0, rfl, fun s hs => absurd hs List.not_mem_nil, rfl, Nat.zero_le _⟩
  subst e2
  rw [List.take_of_length_le (by omega)] at g2
  have q1 : evS (C K) (b__law_steps.getD 1 .pass) (lS n st.length own g none none none none none) (st ++ [.lst []]) = .next (lS n st.length own g t4 t5 t6 t7 t8) st2 := by
    show evS (C K) (.for_ (.name 4) (.rng [(.op .Add (.bi .len [(.var 1)]) (.int 1))]) lsB) _ (st ++ [.lst []]) = _
    have v : evE (C K) (.op .Add (.bi .len [(.var 1)]) (.int 1)) (lS n st.length own g none none none none none) (st ++ [.lst []]) = .ok (.int ((own.length + 1 : Nat) : Int)) (st ++ [.lst []]) := by
      have : evE (C K) (.bi .len [(.var 1)]) (lS n st.length own g none none none none none) (st ++ [.lst []]) = .ok (.int (own.length : Nat)) (st ++ [.lst []]) := by
        show (if (tS own).length ≤ sizeLine then Res.ok (D.int (tS own).length) (st ++ [.lst []]) else .stuck) = _
        rw [if_pos (by rw [tS_len, sizeLine_eq]; omega), tS_len]
      rw [x_op, this, Res.bind_ok, x_int, Res.bind_ok, opD_add]
      rfl
    rw [evS_for, evI_rng (z := own.length + 1) (by omega) v, Res.then_ok]
    exact q2
  have q3 : evS (C K) (b__law_steps.getD 2 .pass) (lS n st.length own g t4 t5 t6 t7 t8) st2 = .ret (.lst (SL f2)) (st2.set st.length .dead) := by
    show (frzD (.loc st.length) st2).then (fun d st1 => RS.ret d st1) = _
    unfold frzD
    dsimp only
    rw [iv2.at_]
    rfl
  refine ⟨.lst (SL f2), st2.set st.length .dead, ?_, ⟨f2, rfl, o2, b2, g2, by omega⟩, ?_, ⟨by rw [List.length_set]; exact iv2.fr.len, fun m hm hlt => ?_⟩⟩
  · rw [show C (K + 1) 20 [.loc n, .str (tS own), .str g] st = endS (evSs (C K) [b__law_steps.getD 0 .pass, b__law_steps.getD 1 .pass, b__law_steps.getD 2 .pass] (slots0 9 [.loc n, .str (tS own), .str g]) st) from evCall_at (F := t__law_steps.fd) rfl rfl]
    exact (congrArg endS (evSs_cons q0)).trans ((congrArg endS (evSs_cons q1)).trans (congrArg endS (evSs_ret q3)))
  · obtain ⟨a, b, e, q⟩ := iv2.ss
    exact ⟨a, b, by rw [List.getElem?_set_ne (by omega)]; exact e, q⟩
  · rw [List.getElem?_set_ne (by omega)]
    exact iv2.fr.keep m hm hlt
end
end K43.F
set_option maxHeartbeats 1000000
namespace K43.F
open PySem PySem.Spec PyProof.Rows L2 TM
section
variable {n K : Nat} {g : Str}
def lsB' (g : Str) : Bool := decide (0 < g.length) && decide (g.length ≤ 1000) && g.cps.toList.all fun c => decide (c < 128)
theorem ls_of {g : Str} (h : lsB' g = true) : Ls g := by
  unfold lsB' at h
  simp only [Bool.and_eq_true, decide_eq_true_eq, List.all_eq_true] at h
  exact ⟨h.1.1, h.1.2, h.2⟩
def sg9 : List Str :=
  (["ab", "abc", "a"] : List Str) ++
  ((["xyz", "01", "a\n"] : List Str) ++
  (["\"{}", "abcdefghijklmnopqrstuvwxyz", " !&~-"] : List Str))
def sg3 : List Str := ["aAbB", "Z_a^", "9,;B"]
theorem sg_ok : ∀ g ∈ sg9 ++ sg3, Ls g := fun g hg => ls_of (by
  have : (sg9 ++ sg3).all lsB' = true := by decide +kernel
  exact List.all_eq_true.mp this g hg)
theorem fc_signs (hK : 2 ≤ K) : Fc (C (K + 1)) n 18 [.loc n] (fun d => ∃ g, d = .str g ∧ Ls g) := by
  refine fc_of (F := t__law_signs.fd) rfl rfl ?_
  refine fb_asg (P := fun d => d = .lst (sg9.map D.str)) (f_rn (r_of fun st => by rfl) rfl) fun d e => ⟨[some (.loc n), some (.lst (sg9.map D.str))], by rw [e]; rfl, ?_⟩
  refine fb_ret (f_choose hK rfl (f_rn (d := .lst ((sg9 ++ sg3).map D.str)) (r_op (y := .lst (sg3.map D.str)) (r_var rfl) (r_of fun st => by rfl) fun st => by rfl) ⟨_, rfl, by decide, fun y hy => ?_⟩))
  obtain ⟨g, hg, rfl⟩ := List.mem_map.mp hy
  exact ⟨g, rfl, sg_ok g hg⟩
theorem f_tup {cl : Nat → List D → Store → Res D} {sl : Slots} {es : List CE} {P : D → Prop} (h : ∀ e ∈ es, Fe cl n e sl P) (hl : es.length ≤ 1000) : Fe cl n (.tup es) sl (fun d => ∃ ds, d = .tup ds ∧ ds.length = es.length ∧ ∀ x ∈ ds, P x) := fun st s => by
  obtain ⟨ds, st1, q1, ⟨l1, p1⟩, s1, f1⟩ := f_list h st s
  exact ⟨.tup ds, st1, by rw [x_tup, q1, Res.bind_ok, x_fit (by omega)], ⟨ds, rfl, l1, p1⟩, s1, f1⟩
def prD (a b c : Nat) : D := .tup [.int a, .int b, .int c]
def prs : List Nat := [1, 1, 1, 2, 3, 5, 1000]
theorem fc_prices (hK : 2 ≤ K) : Fc (C (K + 1)) n 19 [.loc n] (fun d => ∃ a b c : Nat, d = prD a b c ∧ a ≤ 1000 ∧ b ≤ 1000 ∧ c ≤ 1000) := by
  refine fc_of (F := t__law_prices.fd) rfl rfl ?_
  refine fb_asg (P := fun d => d = .lst (prs.map fun i => D.int ((i : Nat) : Int))) (f_rn (r_of fun st => by rfl) rfl) fun d e => ⟨[some (.loc n), some (.lst (prs.map fun i => D.int ((i : Nat) : Int)))], by rw [e]; rfl, ?_⟩
  refine fb_ret ((f_tup (P := fun d => ∃ a : Nat, d = .int (a : Int) ∧ a ≤ 1000) (fun e he => ?_) (by decide)).imp fun d ⟨ds, e, hl, hp⟩ => ?_)
  · simp only [List.mem_cons, List.not_mem_nil, or_false] at he
    have : Fe (C K) n (.call 16 "_law_choose" [(.var 0), (.var 1)]) [some (.loc n), some (.lst (prs.map fun i => D.int ((i : Nat) : Int)))] (fun d => ∃ a : Nat, d = .int (a : Int) ∧ a ≤ 1000) := f_choose hK rfl (f_rn (r_var rfl) ⟨_, rfl, by decide, fun y hy => by
      obtain ⟨i, hi, rfl⟩ := List.mem_map.mp hy
      exact ⟨i, rfl, by simp [prs] at hi; omega⟩⟩)
    rcases he with rfl | rfl | rfl <;> exact this
  · match ds, hl, hp with
    | [x, y, z], _, hp =>
      obtain ⟨a, rfl, ha⟩ := hp x (by simp)
      obtain ⟨b, rfl, hb⟩ := hp y (by simp)
      obtain ⟨c, rfl, hc⟩ := hp z (by simp)
      exact ⟨a, b, c, e, ha, hb, hc⟩
theorem chs_of {vs : List D} : (∀ v ∈ vs, ∃ c, c < 128 ∧ v = .str (chS c)) → ∃ l : List Nat, vs = l.map (fun c => D.str (chS c)) ∧ ∀ c ∈ l, c < 128 := by
  induction vs with
  | nil => exact fun _ => ⟨[], rfl, fun _ h => absurd h List.not_mem_nil⟩
  | cons v vs ih =>
    intro h
    obtain ⟨c, hc, rfl⟩ := h v List.mem_cons_self
    obtain ⟨l, rfl, hl⟩ := ih fun w hw => h w (List.mem_cons_of_mem _ hw)
    refine ⟨c :: l, rfl, fun x hx => ?_⟩
    rcases List.mem_cons.mp hx with rfl | hx
    · exact hc
    · exact hl x hx
theorem f_word {cl : Nat → List D → Store → Res D} {sl : Slots} {e : CE} {m : Nat} (hm : m ≤ 1000) (h : Fe cl n e sl (fun d => ∃ vs, d = .lst vs ∧ vs.length ≤ m ∧ ∀ v ∈ vs, ∃ c, c < 128 ∧ v = .str (chS c))) : Fe cl n (.me .join (.str "") [e]) sl (fun d => ∃ l, d = .str (tS l) ∧ l.length ≤ m ∧ ∀ c ∈ l, c < 128) := fun st s => by
  obtain ⟨d, st1, q1, ⟨vs, rfl, hl, hv⟩, s1, f1⟩ := h st s
  obtain ⟨l, rfl, hlt⟩ := chs_of hv
  rw [List.length_map] at hl
  have sm : ∀ l : List Nat, ((l.map chS).map fun s : Str => s.length).sum = l.length := by
    intro l
    induction l with
    | nil => rfl
    | cons c l ih =>
      rw [List.map_cons, List.map_cons, List.sum_cons, ih, List.length_cons]
      show 1 + l.length = l.length + 1
      omega
  have z : ("" : Str).length = 0 := rfl
  refine ⟨.str (tS l), st1, ?_, ⟨l, rfl, hl, hlt⟩, s1, f1⟩
  rw [← join_tS]
  refine evE_join q1 (strs_ch l) ?_
  rw [z, Nat.mul_zero, Nat.add_zero]
  have := sm l
  omega
theorem fc_word {m : Nat} (hm : m ≤ 6) (hK : 2 ≤ K) (hg : Ls g) : Fc (C (K + 1)) n 17 [.loc n, .int (m : Int), .str g] (fun d => ∃ l, d = .str (tS l) ∧ l.length ≤ 6 ∧ ∀ c ∈ l, c < 128) := by
  refine fc_of (F := t__law_word.fd) rfl rfl (fb_ret (f_word (by decide) ?_))
  have dr : Fe (C K) n (.call 15 "_law_draw" [(.var 0), (.op .Add (.var 1) (.int 1))]) (slots0 4 [.loc n, .int (m : Int), .str g]) (fun d => ∃ r : Int, d = .int r ∧ 0 ≤ r ∧ r < (7 : Nat)) := (f_draw (by omega) rfl (r_op (x := .int (m : Int)) (y := .int 1) (z := .int ((m : Int) + 1)) (r_var rfl) r_int fun _ => rfl) (by omega) (by omega)).imp fun d ⟨r, e, r0, r1⟩ => ⟨r, e, r0, by omega⟩
  refine (f_lc (I := fun ds => ds.length < 7) (P := fun v => ∃ c, c < 128 ∧ v = .str (chS c)) (i_draw (z := 7) (by decide) dr) (fun ds hds d hd => ⟨[some (.loc n), some (.int (m : Int)), some (.str g), some d], rfl, f_letter hK hg rfl rfl⟩) fun ds hds => by omega).imp fun d ⟨vs, ds, e, h1, h2, h3⟩ => ⟨vs, e, by omega, h3⟩
end
end K43.F
set_option maxHeartbeats 1000000
namespace K43
open PySem PySem.Spec PyProof.Rows L2 TM
/-! ### repr of steps -/
structure Sw (p : PyData) (b k : Nat) : Prop where
  sh : p.showable = true
  lv : p.leavesShort 11 = true
  bk : p.bulk ≤ b
  dp : p.depth ≤ k
def ShD (b k : Nat) (d : D) : Prop := ∃ p, d.pyr = some p ∧ Sw p b k
theorem ShD.mono {b k b' k' : Nat} {d : D} (h : ShD b k d) (hb : b ≤ b') (hk : k ≤ k') : ShD b' k' d := by
  obtain ⟨p, e, s⟩ := h
  exact ⟨p, e, s.sh, s.lv, Nat.le_trans s.bk hb, Nat.le_trans s.dp hk⟩
theorem shL {b k : Nat} : ∀ {xs : List D}, (∀ x ∈ xs, ShD b k x) → ∃ ps, D.pyrL xs = some ps ∧ PyData.showableAll ps = true ∧ PyData.leavesShortAll 11 ps = true ∧ PyData.bulkAll ps ≤ xs.length * (b + 1) ∧ PyData.depthAll ps ≤ k
  | [], _ => ⟨[], rfl, rfl, rfl, Nat.zero_le _, Nat.zero_le _⟩
  | x :: xs, h => by
    obtain ⟨p, e, s⟩ := h x List.mem_cons_self
    obtain ⟨ps, e1, s1, l1, b1, d1⟩ := shL (xs := xs) fun y hy => h y (List.mem_cons_of_mem _ hy)
    refine ⟨p :: ps, by simp only [D.pyrL, e, e1], by simp only [PyData.showableAll, s.sh, s1, Bool.and_self], by simp only [PyData.leavesShortAll, s.lv, l1, Bool.and_self], ?_, ?_⟩
    · have := s.bk
      simp only [PyData.bulkAll, List.length_cons, Nat.add_mul]
      omega
    · have := s.dp
      simp only [PyData.depthAll]
      omega
theorem sh_str {m : Nat} {s : Str} (hl : s.length ≤ m) (h : ∀ c ∈ s.cps.toList, c < 128) : ShD m 1 (.str s) := ⟨.str s, rfl, rfl, by
    simp only [PyData.leavesShort, List.all_eq_true, decide_eq_true_eq]
    exact fun c hc => Nat.lt_trans (h c hc) (by decide), hl, by simp only [PyData.depth]; omega⟩
theorem sh_tup {b k : Nat} {xs : List D} (h : ∀ x ∈ xs, ShD b k x) : ShD (xs.length * (b + 1)) (k + 1) (.tup xs) := by
  obtain ⟨ps, e, s1, l1, b1, d1⟩ := shL h
  exact ⟨.tuple ps, by simp only [D.pyr, e, Option.map], by simpa only [PyData.showable] using s1, by simpa only [PyData.leavesShort] using l1, by simpa only [PyData.bulk] using b1, by simp only [PyData.depth]; omega⟩
theorem repr_ok {b k : Nat} {d : D} (h : ShD b k d) (hb : b ≤ 1000000) (hk : k ≤ 20) : ∃ r, ∀ st, biD .repr [d] st = .ok (.str r) st := by
  obtain ⟨p, e, s⟩ := h
  have py : ∀ st, pyrOf d st = some p := fun st => by
    cases d <;> first | exact e | exact nomatch (show (none : Option PyData) = some p from e)
  refine ⟨p.shown, fun st => ?_⟩
  show ofO ((D.reprD d st).map D.str) st = _
  have : D.reprD d st = some p.shown := by
    unfold D.reprD
    rw [py]
    have h := PyData.shown_fits_bulk (B := 11) (by decide) (by decide) s.lv (Nat.le_trans s.bk (by have : (2 : Nat) ^ 20 = 1048576 := (by decide); omega))
    have h2 := s.dp
    show (if _ then _ else _) = _
    rw [if_pos (by rw [s.sh]; simp [h]; omega)]
  rw [this]
  rfl
theorem lit_ok {x : Str} (h : (x.cps.toList.all fun c => decide (c < 128)) = true) : ∀ c ∈ x.cps.toList, c < 128 := fun c hc => of_decide_eq_true (List.all_eq_true.mp h c hc)
theorem sh_sd {s : Sp} (h : ∀ c ∈ lets s, c < 128) : ShD 20 2 (sd s) := by
  have ch : ∀ c, c < 128 → ShD 4 1 (.str (chS c)) := fun c hc => sh_str (by show 1 ≤ 4; decide) fun d hd => by
    have : d = c := by simpa using hd
    rw [this]
    exact hc
  have wd : ∀ x ∈ (["keep", "put", "drop", "swap"] : List Str), ShD 4 1 (.str x) := fun x hx => by
    simp only [List.mem_cons, List.not_mem_nil, or_false] at hx
    rcases hx with rfl | rfl | rfl | rfl <;> exact sh_str (by decide) (lit_ok (by decide))
  cases s with
  | keep c => exact (sh_tup (b := 4) (k := 1) (xs := [.str "keep", .str (chS c)]) fun x hx => by
      simp only [List.mem_cons, List.not_mem_nil, or_false] at hx
      rcases hx with rfl | rfl
      · exact wd _ (by simp)
      · exact ch c (h c (by simp [lets]))).mono (by show 2 * 5 ≤ 20; decide) (by decide)
  | put c => exact (sh_tup (b := 4) (k := 1) (xs := [.str "put", .str (chS c)]) fun x hx => by
      simp only [List.mem_cons, List.not_mem_nil, or_false] at hx
      rcases hx with rfl | rfl
      · exact wd _ (by simp)
      · exact ch c (h c (by simp [lets]))).mono (by show 2 * 5 ≤ 20; decide) (by decide)
  | drop c => exact (sh_tup (b := 4) (k := 1) (xs := [.str "drop", .str (chS c)]) fun x hx => by
      simp only [List.mem_cons, List.not_mem_nil, or_false] at hx
      rcases hx with rfl | rfl
      · exact wd _ (by simp)
      · exact ch c (h c (by simp [lets]))).mono (by show 2 * 5 ≤ 20; decide) (by decide)
  | swap a b => exact (sh_tup (b := 4) (k := 1) (xs := [.str "swap", .str (chS a), .str (chS b)]) fun x hx => by
      simp only [List.mem_cons, List.not_mem_nil, or_false] at hx
      rcases hx with rfl | rfl | rfl
      · exact wd _ (by simp)
      · exact ch a (h a (by simp [lets]))
      · exact ch b (h b (by simp [lets]))).mono (by show 3 * 5 ≤ 20; decide) (by decide)
theorem sh_SL {p : List Sp} (h : LB p) (hl : p.length ≤ 1000) : ShD 21000 3 (.tup (SL p)) :=
  (sh_tup (b := 20) (k := 2) fun x hx => by
    obtain ⟨s, hs, rfl⟩ := List.mem_map.mp hx
    exact sh_sd (h s hs)).mono (by rw [List.length_map]; omega) (by decide)
/-- the same shown twice -/
theorem x_reprs {cl : Nat → List D → Store → Res D} {sl : Slots} {a b : CE} {d : D} {m k : Nat} (h : ShD m k d) (hm : m ≤ 1000000) (hk : k ≤ 20) (ha : Rn cl a sl d) (hb : Rn cl b sl d) : Rn cl (.cmp .NotEq (.bi .repr [a]) (.bi .repr [b])) sl (.bl false) := by
  obtain ⟨r, e⟩ := repr_ok h hm hk
  exact r_cmp (k := false) (r_bi (rs_cons ha rs_nil) e) (r_bi (rs_cons hb rs_nil) e) fun st => by
    show some (!decide (r = r)) = some false
    rw [decide_eq_true rfl]
    rfl
end K43
set_option maxHeartbeats 1000000
namespace K43
open PySem PySem.Spec PyProof.Rows L2 TM K43.F
section
variable {k : Nat} {p q : List Sp} {t t1 t2 : Bool}
theorem f_given (hl : p.length ≤ 10000) : Rc (C (k + 1)) 21 [sq t (SL p)] (.str (tS (given p))) :=
  rc_of (F := t__law_given.fd) rfl rfl (br_ret (sn_ret (r_given (j := 1) (nm := "step") (by show 1 < 2; decide) (ri_sq (t := t) (r_var rfl)) hl)))
theorem f_made (hl : p.length ≤ 10000) : Rc (C (k + 1)) 22 [sq t (SL p)] (.str (tS (made p))) :=
  rc_of (F := t__law_made.fd) rfl rfl (br_ret (sn_ret (r_made (j := 1) (nm := "step") (by show 1 < 2; decide) (ri_sq (t := t) (r_var rfl)) hl)))
/-! ### the law's prices -/
def kind : Sp → Str
  | .keep _ => "keep"
  | .put _ => "put"
  | .drop _ => "drop"
  | .swap _ _ => "swap"
def fB : CS → List CS
  | .for_ _ _ b => b
  | _ => []
abbrev cB : List CS := fB ((fB (b__law_cost.getD 1 .pass)).getD 0 .pass)
theorem mul_b {x : Nat} (hx : x ≤ 1000) (b : Bool) {st : Store} : opD .Mult (.int (x : Int)) (.int (b2z b)) st = .ok (.int ((x : Int) * b2z b)) st := opD_mul (by
  have h1 : ((x : Int).natAbs).log2 < 11 := by
    have e : (x : Int).natAbs = x := Int.natAbs_natCast x
    rw [e]
    by_cases z : x = 0
    · rw [z]; decide
    · exact (Nat.log2_lt z).mpr (by have : (2 : Nat) ^ 11 = 2048 := (by decide); omega)
  have h2 : ((b2z b).natAbs).log2 ≤ 1 := by cases b <;> decide
  omega)
theorem cost_turn {f0 pr : Option D} {acc : Int} {s : Sp} {w : Str} {x : Nat} {st : Store} (hx : x ≤ 1000) :
    evSs (C k) cB [f0, pr, some (.int acc), some (sd s), some (.str w), some (.int (x : Int))] st = .next [f0, pr, some (.int (acc + (x : Int) * b2z (decide (kind s = w)))), some (sd s), some (.str w), some (.int (x : Int))] st := by
  refine (evSs_cons (s := .asg (.name 2) (.op .Add (.var 2) (.op .Mult (.var 5) (.bi .int [(.cmp .Eq (.idx (.var 3) (.int 0)) (.var 4))])))) (sl' := [f0, pr, some (.int (acc + (x : Int) * b2z (decide (kind s = w)))), some (sd s), some (.str w), some (.int (x : Int))]) (st' := st) ?_).trans rfl
  have v : evE (C k) (.bi .int [(.cmp .Eq (.idx (.var 3) (.int 0)) (.var 4))]) [f0, pr, some (.int acc), some (sd s), some (.str w), some (.int (x : Int))] st = .ok (.int (b2z (decide (kind s = w)))) st := by
    cases s <;> rfl
  rw [x_asg, x_op]
  show ((evE (C k) (.op .Mult (.var 5) (.bi .int [(.cmp .Eq (.idx (.var 3) (.int 0)) (.var 4))])) [f0, pr, some (.int acc), some (sd s), some (.str w), some (.int (x : Int))] st).bind fun y st2 => opD .Add (.int acc) y st2).then _ = _
  rw [x_op]
  show (((evE (C k) (.bi .int [(.cmp .Eq (.idx (.var 3) (.int 0)) (.var 4))]) [f0, pr, some (.int acc), some (sd s), some (.str w), some (.int (x : Int))] st).bind fun y st2 => opD .Mult (.int (x : Int)) y st2).bind fun y st2 => opD .Add (.int acc) y st2).then _ = _
  rw [v, Res.bind_ok, mul_b hx, Res.bind_ok]
  rfl
theorem cs_eq (a b c : Nat) (s : Sp) : (a : Int) * b2z (decide (kind s = "put")) + (b : Int) * b2z (decide (kind s = "drop")) + (c : Int) * b2z (decide (kind s = "swap")) = (cs a b c s : Nat) := by
  cases s with
  | keep x => show (a : Int) * 0 + (b : Int) * 0 + (c : Int) * 0 = ((0 : Nat) : Int); simp
  | put x => show (a : Int) * 1 + (b : Int) * 0 + (c : Int) * 0 = (a : Int); simp
  | drop x => show (a : Int) * 0 + (b : Int) * 1 + (c : Int) * 0 = (b : Int); simp
  | swap x y => show (a : Int) * 0 + (b : Int) * 0 + (c : Int) * 1 = (c : Int); simp
abbrev coB : List CS := fB (b__law_cost.getD 1 .pass)
theorem cost_loop {f0 : Option D} {a b c : Nat} (ha : a ≤ 1000) (hb : b ≤ 1000) (hc : c ≤ 1000) {st : Store} : ∀ (p' : List Sp) (acc : Int) (s3 s4 s5 : Option D), ∃ t3 t4 t5,
    forLoop none (frF (.name 3) (evSs (C k) coB)) (SL p') [f0, some (prD a b c), some (.int acc), s3, s4, s5] st = .next [f0, some (prD a b c), some (.int (acc + (cost a b c p' : Nat))), t3, t4, t5] st
  | [], acc, s3, s4, s5 => ⟨s3, s4, s5, by
      show forLoop none _ [] _ _ = _
      rw [forLoop, if_pos (show srcOk none st = true from rfl), show acc + ((cost a b c [] : Nat) : Int) = acc by simp [cost]]⟩
  | s :: p', acc, s3, s4, s5 => by
    obtain ⟨t3, t4, t5, q⟩ := cost_loop ha hb hc (st := st) p' (acc + (cs a b c s : Nat)) (some (sd s)) (some (.str "swap")) (some (.int (c : Int)))
    refine ⟨t3, t4, t5, ?_⟩
    show forLoop none _ (sd s :: SL p') _ _ = _
    rw [forLoop, if_pos (show srcOk none st = true from rfl), frF_some (sl' := [f0, some (prD a b c), some (.int acc), some (sd s), s4, s5]) rfl]
    have b1 : evS (C k) (coB.getD 0 .pass) [f0, some (prD a b c), some (.int acc), some (sd s), s4, s5] st = .next [f0, some (prD a b c), some (.int (acc + (cs a b c s : Nat))), some (sd s), some (.str "swap"), some (.int (c : Int))] st := by
      show evS (C k) (.for_ (.tup [(.name 4), (.name 5)]) (.zip (.lst false [(.str "put"), (.str "drop"), (.str "swap")]) (.var 1)) cB) _ st = _
      rw [evS_for]
      show forLoop none (frF (.tup [(.name 4), (.name 5)]) (evSs (C k) cB)) [.tup [.str "put", .int (a : Int)], .tup [.str "drop", .int (b : Int)], .tup [.str "swap", .int (c : Int)]] [f0, some (prD a b c), some (.int acc), some (sd s), s4, s5] st = _
      rw [forLoop, if_pos (show srcOk none st = true from rfl), frF_some (sl' := [f0, some (prD a b c), some (.int acc), some (sd s), some (.str "put"), some (.int (a : Int))]) rfl, cost_turn ha]
      dsimp only
      rw [forLoop, if_pos (show srcOk none st = true from rfl), frF_some (sl' := [f0, some (prD a b c), some (.int (acc + (a : Int) * b2z (decide (kind s = "put")))), some (sd s), some (.str "drop"), some (.int (b : Int))]) rfl, cost_turn hb]
      dsimp only
      rw [forLoop, if_pos (show srcOk none st = true from rfl), frF_some (sl' := [f0, some (prD a b c), some (.int (acc + (a : Int) * b2z (decide (kind s = "put")) + (b : Int) * b2z (decide (kind s = "drop")))), some (sd s), some (.str "swap"), some (.int (c : Int))]) rfl, cost_turn hc]
      dsimp only
      rw [forLoop, if_pos (show srcOk none st = true from rfl), ← cs_eq a b c s, ← Int.add_assoc, ← Int.add_assoc]
    rw [show evSs (C k) coB [f0, some (prD a b c), some (.int acc), some (sd s), s4, s5] st = .next [f0, some (prD a b c), some (.int (acc + (cs a b c s : Nat))), some (sd s), some (.str "swap"), some (.int (c : Int))] st from (evSs_cons b1).trans rfl]
    dsimp only
    rw [q, cost_cons, Int.natCast_add, Int.add_assoc]
theorem f_lcost {a b c : Nat} (ha : a ≤ 1000) (hb : b ≤ 1000) (hc : c ≤ 1000) {st : Store} : C (k + 1) 23 [sq t (SL p), prD a b c] st = .ok (.int (cost a b c p : Nat)) st := by
  rw [show C (k + 1) 23 [sq t (SL p), prD a b c] st = endS (evSs (C k) [b__law_cost.getD 0 .pass, b__law_cost.getD 1 .pass, .ret (.var 2)] (slots0 6 [sq t (SL p), prD a b c]) st) from evCall_at (F := t__law_cost.fd) rfl rfl]
  obtain ⟨t3, t4, t5, q⟩ := cost_loop (k := k) (f0 := some (sq t (SL p))) ha hb hc (st := st) p 0 none none none
  have q0 : evS (C k) (b__law_cost.getD 0 .pass) (slots0 6 [sq t (SL p), prD a b c]) st = .next [some (sq t (SL p)), some (prD a b c), some (.int 0), none, none, none] st := rfl
  have q1 : evS (C k) (b__law_cost.getD 1 .pass) [some (sq t (SL p)), some (prD a b c), some (.int 0), none, none, none] st = .next [some (sq t (SL p)), some (prD a b c), some (.int ((cost a b c p : Nat) : Int)), t3, t4, t5] st := by
    show evS (C k) (.for_ (.name 3) (.e (.var 0)) coB) _ st = _
    rw [evS_for]
    have : evI (C k) (.e (.var 0)) [some (sq t (SL p)), some (prD a b c), some (.int 0), none, none, none] st = .ok ⟨none, SL p⟩ st := by cases t <;> rfl
    rw [this, Res.then_ok]
    show forLoop none (frF (.name 3) (evSs (C k) coB)) (SL p) _ st = _
    rw [q, Int.zero_add]
  exact (congrArg endS (evSs_cons q0)).trans ((congrArg endS (evSs_cons q1)).trans rfl)
/-! ### the law's joint -/
def oD : Option Nat → D
  | none => .non
  | some c => .str (chS c)
def lj : Option Nat → Option Nat → List Sp
  | none, none => []
  | none, some n => [.put n]
  | some o, none => [.drop o]
  | some o, some n => [thru o n]
theorem lj_joint {s u : Sp} {x : Nat} (h1 : s.isDrop = false) (h2 : u.isPut = false) (hx : s.new = some x) (hy : u.old = some x) (os : s.ok = true) (ou : u.ok = true) : lj s.old u.new = joint s u := by
  cases s <;> first | (cases h1; done) | skip
  all_goals cases u <;> first | (cases h2; done) | skip
  all_goals simp only [Sp.new, Sp.old, Option.some.injEq] at hx hy
  all_goals simp_all [lj, joint, Sp.old, Sp.new, thru, Sp.ok]
theorem f_ljoint {s u : Sp} {st : Store} : C (k + 1) 25 [sd s, sd u] st = .ok (.lst (SL (lj s.old u.new))) st := by
  rw [show C (k + 1) 25 [sd s, sd u] st = endS (evSs (C k) [b__law_joint.getD 0 .pass, b__law_joint.getD 1 .pass, b__law_joint.getD 2 .pass, b__law_joint.getD 3 .pass, b__law_joint.getD 4 .pass, b__law_joint.getD 5 .pass] (slots0 4 [sd s, sd u]) st) from evCall_at (F := t__law_joint.fd) rfl rfl]
  have q0 : evS (C k) (b__law_joint.getD 0 .pass) (slots0 4 [sd s, sd u]) st = .next [some (sd s), some (sd u), some (oD s.old), none] st := by cases s <;> rfl
  have q1 : ∀ o, evS (C k) (b__law_joint.getD 1 .pass) [some (sd s), some (sd u), some o, none] st = .next [some (sd s), some (sd u), some o, some (oD u.new)] st := fun o => by cases u <;> rfl
  refine (congrArg endS (evSs_cons q0)).trans ((congrArg endS (evSs_cons (q1 _))).trans ?_)
  cases ho : s.old with
  | none => cases hn : u.new with
    | none => rfl
    | some n => rfl
  | some o => cases hn : u.new with
    | none => rfl
    | some n =>
      have q2 : evS (C k) (b__law_joint.getD 2 .pass) [some (sd s), some (sd u), some (oD (some o)), some (oD (some n))] st = .next [some (sd s), some (sd u), some (oD (some o)), some (oD (some n))] st := rfl
      have q3 : evS (C k) (b__law_joint.getD 3 .pass) [some (sd s), some (sd u), some (oD (some o)), some (oD (some n))] st = .next [some (sd s), some (sd u), some (oD (some o)), some (oD (some n))] st := rfl
      have q4 : evS (C k) (b__law_joint.getD 4 .pass) [some (sd s), some (sd u), some (oD (some o)), some (oD (some n))] st = .next [some (sd s), some (sd u), some (oD (some o)), some (oD (some n))] st := rfl
      refine (congrArg endS (evSs_cons q2)).trans ((congrArg endS (evSs_cons q3)).trans ((congrArg endS (evSs_cons q4)).trans ?_))
      have q5 : evS (C k) (b__law_joint.getD 5 .pass) [some (sd s), some (sd u), some (oD (some o)), some (oD (some n))] st = .ret (.lst (SL [thru o n])) st := by
        show (evE (C k) (.ife (.cmp .Eq (.var 2) (.var 3)) (.lst false [(.tup [(.str "keep"), (.var 2)])]) (.lst false [(.tup [(.str "swap"), (.var 2), (.var 3)])])) [some (sd s), some (sd u), some (oD (some o)), some (oD (some n))] st).then _ = _
        rw [x_ife]
        have v : evE (C k) (.cmp .Eq (.var 2) (.var 3)) [some (sd s), some (sd u), some (oD (some o)), some (oD (some n))] st = .ok (.bl (decide (chS o = chS n))) st := rfl
        rw [v, Res.bind_ok]
        by_cases h : o = n
        · subst h
          rw [decide_eq_true rfl]
          have : thru o o = .keep o := if_pos rfl
          rw [this]
          rfl
        · rw [decide_eq_false fun z => h (chS_eq.mp z)]
          have : thru o n = .swap o n := if_neg h
          rw [this]
          rfl
      exact congrArg endS (evSs_ret q5)
end
end K43
set_option maxHeartbeats 1000000
namespace K43
open PySem PySem.Spec PyProof.Rows L2 TM K43.F
/-! ### the law's sum: places -/
def mk (P : Sp → Bool) : Nat → List Sp → List Nat
  | _, [] => []
  | i, s :: p => if P s then i :: mk P (i + 1) p else mk P (i + 1) p
def mkO (P : Sp → Bool) : Nat → List Sp → List (Option D)
  | _, [] => []
  | i, s :: p => (if P s then some (.int (i : Nat)) else none) :: mkO P (i + 1) p
abbrev iD (l : List Nat) : List D := l.map fun (i : Nat) => D.int (i : Int)
theorem mkO_mk (P : Sp → Bool) : ∀ (i : Nat) (p : List Sp), (mkO P i p).filterMap id = iD (mk P i p)
  | _, [] => rfl
  | i, s :: p => by
    unfold mkO mk
    cases h : P s with
    | true => simp [mkO_mk P (i + 1) p]
    | false => simp [mkO_mk P (i + 1) p]
theorem mk_none {P : Sp → Bool} : ∀ {u : List Sp} {i : Nat} {r : List Sp}, (∀ x ∈ u, P x = false) → mk P i (u ++ r) = mk P (i + u.length) r
  | [], i, r, _ => rfl
  | x :: u, i, r, h => by
    rw [List.cons_append, mk, if_neg (by rw [h x List.mem_cons_self]; exact Bool.false_ne_true), mk_none fun y hy => h y (List.mem_cons_of_mem _ hy), List.length_cons]
    congr 1
    omega
theorem paired_enum {P : Sp → Bool} {R : D → Option D → Prop} (h : ∀ (i : Nat) (s : Sp), R (.tup [.int (i : Nat), sd s]) (if P s then some (.int (i : Nat)) else none)) : ∀ (i : Nat) (p : List Sp), Paired R (enumFrom (i : Int) (SL p)) (mkO P i p)
  | _, [] => .nil
  | i, s :: p => .cons (h i s) (by
    have := paired_enum h (i + 1) p
    rw [Int.natCast_add] at this
    exact this)
theorem enum_len (p : List Sp) (i : Int) : (enumFrom i (SL p)).length = p.length := by rw [enumFrom_len, List.length_map]
section
variable {k : Nat} {p q : List Sp} {t1 t2 : Bool}
/-- the comprehension of places -/
theorem r_places {cl : Nat → List D → Store → Res D} {f0 f1 s2 s3 s4 s5 s6 s7 s8 s9 s10 : Option D} {v : Nat} {w : Str} {P : Sp → Bool} {t : Bool} (hv : ([f0, f1, s2, s3, s4, s5, s6, s7, s8, s9, s10] : Slots)[v]? = some (some (sq t (SL p)))) (hP : ∀ s, P s = !decide (kind s = w)) (hl : p.length ≤ 10000) :
    Rn cl (.lc false [("at", 9), ("step", 10)] (.tup [(.name 9), (.name 10)]) (.enum (.var v)) [(.cmp .NotEq (.idx (.var 10) (.int 0)) (.str w))] (.var 9)) [f0, f1, s2, s3, s4, s5, s6, s7, s8, s9, s10] (.lst (iD (mk P 0 p))) := by
  have it : Ri cl (.enum (.var v)) [f0, f1, s2, s3, s4, s5, s6, s7, s8, s9, s10] (enumFrom 0 (SL p)) := ri_enum (r_var hv) (by cases t <;> rfl)
  have := r_lcF (cl := cl) (own := [("at", 9), ("step", 10)]) (t := .tup [(.name 9), (.name 10)]) (c := .cmp .NotEq (.idx (.var 10) (.int 0)) (.str w)) (e := .var 9) (ys := mkO P 0 p) it (paired_enum (P := P) (i := 0) (fun i s => ⟨[f0, f1, s2, s3, s4, s5, s6, s7, s8, some (.int (i : Nat)), some (sd s)], .bl (P s), rfl, by
    rw [hP]
    refine r_cmp (x := .str (kind s)) (y := .str w) (r_idx (x := sd s) (y := .int 0) (r_var rfl) r_int fun st => ?_) r_str fun st => ?_
    · cases s <;> rfl
    · show some (!decide (kind s = w)) = _
      rfl, fun st => by
    show some (P s) = _
    cases h : P s <;> simp, fun d hd => by
    cases h : P s with
    | true =>
      rw [h] at hd
      cases hd
      exact r_var rfl
    | false =>
      rw [h] at hd
      cases hd⟩) p) (by rw [enum_len]; omega)
  rwa [mkO_mk] at this
def nDr (s : Sp) : Bool := !s.isDrop
def nPu (s : Sp) : Bool := !s.isPut
theorem nDr_eq (s : Sp) : nDr s = !decide (kind s = "drop") := by cases s <;> rfl
theorem nPu_eq (s : Sp) : nPu s = !decide (kind s = "put") := by cases s <;> rfl
/-! ### the loop -/
def sS (t1 t2 : Bool) (p q : List Sp) (m n : D) (f : List Sp) (i j : Nat) (s7 s8 : Option D) : Slots := [some (sq t1 (SL p)), some (sq t2 (SL q)), some m, some n, some (.lst (SL f)), some (.int (i : Nat)), some (.int (j : Nat)), s7, s8, none, none]
abbrev suB : List CS := fB (b__law_sum.getD 3 .pass)
theorem cut_ab {xs : List D} {i m : Nat} (h : i ≤ m) (h2 : m ≤ xs.length) : TM.cutD xs (some (i : Int)) (some (m : Int)) = (xs.drop i).take (m - i) := by
  unfold TM.cutD
  rw [HT.sIx_nat, HT.sIx_nat, Nat.min_eq_left (show i ≤ xs.length by omega), Nat.min_eq_left h2]
theorem list_cut {t : Bool} {p : List Sp} {i m : Nat} {st : Store} (h : i ≤ m) (h2 : m ≤ p.length) : (ofO (slD (sq t (SL p)) (some (i : Int)) (some (m : Int)) st) st).bind (fun d st1 => biD .list [d] st1) = .ok (.lst (SL ((p.drop i).take (m - i)))) st := by
  have e : TM.cutD (SL p) (some (i : Int)) (some (m : Int)) = SL ((p.drop i).take (m - i)) := by
    rw [cut_ab h (by rw [List.length_map]; exact h2), ← List.map_drop, ← List.map_take]
  cases t with
  | true =>
    show biD .list [.tup (TM.cutD (SL p) (some (i : Int)) (some (m : Int)))] st = _
    rw [e]
    rfl
  | false =>
    show biD .list [.lst (TM.cutD (SL p) (some (i : Int)) (some (m : Int)))] st = _
    rw [e]
    rfl
theorem at_sq {t : Bool} {p : List Sp} {m : Nat} {s : Sp} {st : Store} (h : p[m]? = some s) : idxD (sq t (SL p)) (.int (m : Nat)) st = some (sd s) := by
  have e : atI (SL p) (m : Int) = some (sd s) := atI_nat (by rw [List.getElem?_map, h]; rfl)
  cases t with
  | true => exact e
  | false => exact e
variable {m0 n0 : D} {f : List Sp} {st : Store}
/-- a turn up to the test -/
theorem sum_first {i j m n : Nat} (h1 : i ≤ m) (h2 : m ≤ p.length) (h3 : j ≤ n) (h4 : n ≤ q.length) (hl : f.length + p.length + q.length ≤ 100000) :
    evS (C k) (suB.getD 0 .pass) (sS t1 t2 p q m0 n0 f i j (some (.int (m : Nat))) (some (.int (n : Nat)))) st = .next (sS t1 t2 p q m0 n0 (f ++ (p.drop i).take (m - i) ++ (q.drop j).take (n - j)) i j (some (.int (m : Nat))) (some (.int (n : Nat)))) st := by
  have l1 : ((p.drop i).take (m - i)).length ≤ p.length := by rw [List.length_take, List.length_drop]; omega
  have l2 : ((q.drop j).take (n - j)).length ≤ q.length := by rw [List.length_take, List.length_drop]; omega
  have v1 : evE (C k) (.bi .list [(.sl (.var 0) (.some (.var 5)) (.some (.var 7)))]) (sS t1 t2 p q m0 n0 f i j (some (.int (m : Nat))) (some (.int (n : Nat)))) st = .ok (.lst (SL ((p.drop i).take (m - i)))) st := by
    rw [x_bi, x_cons]
    show ((ofO (slD (sq t1 (SL p)) (some (i : Int)) (some (m : Int)) st) st).bind fun d st1 => (Res.ok (α := List D) [] st1).bind fun ds st2 => .ok (d :: ds) st2).bind (fun ds st1 => biD .list ds st1) = _
    have := list_cut (t := t1) (st := st) h1 h2
    cases hh : ofO (slD (sq t1 (SL p)) (some (i : Int)) (some (m : Int)) st) st with
    | ok d st1 =>
      rw [hh] at this
      exact this
    | exc C fs st1 => rw [hh] at this; cases this
    | stuck => rw [hh] at this; cases this
  have v2 : evE (C k) (.bi .list [(.sl (.var 1) (.some (.var 6)) (.some (.var 8)))]) (sS t1 t2 p q m0 n0 f i j (some (.int (m : Nat))) (some (.int (n : Nat)))) st = .ok (.lst (SL ((q.drop j).take (n - j)))) st := by
    rw [x_bi, x_cons]
    show ((ofO (slD (sq t2 (SL q)) (some (j : Int)) (some (n : Int)) st) st).bind fun d st1 => (Res.ok (α := List D) [] st1).bind fun ds st2 => .ok (d :: ds) st2).bind (fun ds st1 => biD .list ds st1) = _
    have := list_cut (t := t2) (st := st) h3 h4
    cases hh : ofO (slD (sq t2 (SL q)) (some (j : Int)) (some (n : Int)) st) st with
    | ok d st1 =>
      rw [hh] at this
      exact this
    | exc C fs st1 => rw [hh] at this; cases this
    | stuck => rw [hh] at this; cases this
  have sL : ∀ a b : List Sp, SL (a ++ b) = SL a ++ SL b := fun a b => List.map_append
  show evS (C k) (.asg (.name 4) (.op .Add (.op .Add (.var 4) (.bi .list [(.sl (.var 0) (.some (.var 5)) (.some (.var 7)))])) (.bi .list [(.sl (.var 1) (.some (.var 6)) (.some (.var 8)))]))) _ st = _
  rw [x_asg, x_op, x_op]
  show ((((evE (C k) (.bi .list [(.sl (.var 0) (.some (.var 5)) (.some (.var 7)))]) (sS t1 t2 p q m0 n0 f i j (some (.int (m : Nat))) (some (.int (n : Nat)))) st).bind fun y st2 => opD .Add (.lst (SL f)) y st2)).bind _).then _ = _
  rw [v1, Res.bind_ok, opD_lst (by rw [List.length_map, List.length_map, sizeLine_eq]; omega), Res.bind_ok, v2, Res.bind_ok, opD_lst (by rw [List.length_append, List.length_map, List.length_map, List.length_map, sizeLine_eq]; omega), ← sL, ← sL]
  rfl
theorem sum_turn {i j m n : Nat} {g : List Sp} (h1 : i ≤ m) (h2 : m ≤ p.length) (h3 : j ≤ n) (h4 : n ≤ q.length) (hl : f.length + p.length + q.length ≤ 90000) (hg : (m = p.length ∧ g = []) ∨ ∃ s u, p[m]? = some s ∧ q[n]? = some u ∧ g = lj s.old u.new) :
    evSs (C (k + 1)) suB (sS t1 t2 p q m0 n0 f i j (some (.int (m : Nat))) (some (.int (n : Nat)))) st = .next (sS t1 t2 p q m0 n0 (f ++ (p.drop i).take (m - i) ++ (q.drop j).take (n - j) ++ g) (m + 1) (n + 1) (some (.int (m : Nat))) (some (.int (n : Nat)))) st := by
  have l1 : ((p.drop i).take (m - i)).length ≤ p.length := by rw [List.length_take, List.length_drop]; omega
  have l2 : ((q.drop j).take (n - j)).length ≤ q.length := by rw [List.length_take, List.length_drop]; omega
  refine (evSs_cons (sum_first h1 h2 h3 h4 (by omega))).trans ?_
  generalize hf' : f ++ (p.drop i).take (m - i) ++ (q.drop j).take (n - j) = f'
  have lf : f'.length ≤ f.length + p.length + q.length := by
    rw [← hf', List.length_append, List.length_append]
    omega
  have tst : tru (evE (C (k + 1)) (.cmp .Lt (.var 7) (.bi .len [(.var 0)]))) (sS t1 t2 p q m0 n0 f' i j (some (.int (m : Nat))) (some (.int (n : Nat)))) st = .ok (decide (m < p.length)) st := by
    have v : evE (C (k + 1)) (.bi .len [(.var 0)]) (sS t1 t2 p q m0 n0 f' i j (some (.int (m : Nat))) (some (.int (n : Nat)))) st = .ok (.int (p.length : Nat)) st := by
      have : evE (C (k + 1)) (.bi .len [(.var 0)]) (sS t1 t2 p q m0 n0 f' i j (some (.int (m : Nat))) (some (.int (n : Nat)))) st = .ok (.int ((SL p).length : Nat)) st := by cases t1 <;> rfl
      rw [this, List.length_map]
    rw [x_tru, x_cmp]
    show ((evE (C (k + 1)) (.bi .len [(.var 0)]) (sS t1 t2 p q m0 n0 f' i j (some (.int (m : Nat))) (some (.int (n : Nat)))) st).bind fun y st2 => ofO ((cmpD .Lt (.int (m : Nat)) y st2).map D.bl) st2).bind _ = _
    rw [v]
    show ofO (truth (.bl (decide ((m : Int) < (p.length : Nat)))) st) st = _
    have e : decide ((m : Int) < (p.length : Nat)) = decide (m < p.length) := by
      rw [Bool.eq_iff_iff]
      simp
    rw [e]
    rfl
  have b1 : evS (C (k + 1)) (suB.getD 1 .pass) (sS t1 t2 p q m0 n0 f' i j (some (.int (m : Nat))) (some (.int (n : Nat)))) st = .next (sS t1 t2 p q m0 n0 (f' ++ g) i j (some (.int (m : Nat))) (some (.int (n : Nat)))) st := by
    show evS (C (k + 1)) (.iff (.cmp .Lt (.var 7) (.bi .len [(.var 0)])) [(.asg (.name 4) (.op .Add (.var 4) (.call 25 "_law_joint" [(.idx (.var 0) (.var 7)), (.idx (.var 1) (.var 8))])))] []) _ st = _
    rw [x_iff, tst]
    rcases hg with ⟨e, rfl⟩ | ⟨s, u, es, eu, rfl⟩
    · rw [decide_eq_false (by omega), List.append_nil]
      rfl
    · have hm : m < p.length := (List.getElem?_eq_some_iff.mp es).1
      rw [decide_eq_true hm]
      show evSs (C (k + 1)) [(.asg (.name 4) (.op .Add (.var 4) (.call 25 "_law_joint" [(.idx (.var 0) (.var 7)), (.idx (.var 1) (.var 8))])))] _ st = _
      refine (evSs_cons (?_ : evS (C (k + 1)) (.asg (.name 4) (.op .Add (.var 4) (.call 25 "_law_joint" [(.idx (.var 0) (.var 7)), (.idx (.var 1) (.var 8))]))) _ st = .next (sS t1 t2 p q m0 n0 (f' ++ lj s.old u.new) i j (some (.int (m : Nat))) (some (.int (n : Nat)))) st)).trans rfl
      have v1 : evE (C (k + 1)) (.idx (.var 0) (.var 7)) (sS t1 t2 p q m0 n0 f' i j (some (.int (m : Nat))) (some (.int (n : Nat)))) st = .ok (sd s) st := by
        show ofO (idxD (sq t1 (SL p)) (.int (m : Nat)) st) st = _
        rw [at_sq es]
        rfl
      have v2 : evE (C (k + 1)) (.idx (.var 1) (.var 8)) (sS t1 t2 p q m0 n0 f' i j (some (.int (m : Nat))) (some (.int (n : Nat)))) st = .ok (sd u) st := by
        show ofO (idxD (sq t2 (SL q)) (.int (n : Nat)) st) st = _
        rw [at_sq eu]
        rfl
      have lg : (lj s.old u.new).length ≤ 1 := by
        cases s.old <;> cases u.new <;> simp [lj]
      rw [x_asg, x_op]
      show ((evE (C (k + 1)) (.call 25 "_law_joint" [(.idx (.var 0) (.var 7)), (.idx (.var 1) (.var 8))]) (sS t1 t2 p q m0 n0 f' i j (some (.int (m : Nat))) (some (.int (n : Nat)))) st).bind fun y st2 => opD .Add (.lst (SL f')) y st2).then _ = _
      rw [x_call, x_cons, v1, Res.bind_ok, x_cons, v2, Res.bind_ok, x_nil, Res.bind_ok, Res.bind_ok, Res.bind_ok, f_ljoint, Res.bind_ok, opD_lst (by rw [List.length_map, List.length_map, sizeLine_eq]; omega)]
      have sL : SL f' ++ SL (lj s.old u.new) = SL (f' ++ lj s.old u.new) := List.map_append.symm
      rw [sL]
      rfl
  have b2 : evS (C (k + 1)) (suB.getD 2 .pass) (sS t1 t2 p q m0 n0 (f' ++ g) i j (some (.int (m : Nat))) (some (.int (n : Nat)))) st = .next (sS t1 t2 p q m0 n0 (f' ++ g) (m + 1) (n + 1) (some (.int (m : Nat))) (some (.int (n : Nat)))) st := rfl
  exact (evSs_cons b1).trans ((evSs_cons b2).trans rfl)
theorem split_p : ∀ {p : List Sp}, (∀ x ∈ p, x.isDrop = true) ∨ ∃ u s r, p = u ++ s :: r ∧ (∀ x ∈ u, x.isDrop = true) ∧ s.isDrop = false
  | [] => .inl fun _ h => absurd h List.not_mem_nil
  | s :: p => by
    cases hs : s.isDrop with
    | false => exact .inr ⟨[], s, p, rfl, fun _ h => absurd h List.not_mem_nil, hs⟩
    | true =>
      rcases split_p (p := p) with h | ⟨u, s', r, e, h1, h2⟩
      · exact .inl fun x hx => by
          rcases List.mem_cons.mp hx with rfl | hx
          · exact hs
          · exact h x hx
      · exact .inr ⟨s :: u, s', r, by rw [e]; rfl, fun x hx => by
          rcases List.mem_cons.mp hx with rfl | hx
          · exact hs
          · exact h1 x hx, h2⟩
theorem made_drops : ∀ {p : List Sp}, (∀ x ∈ p, x.isDrop = true) → made p = []
  | [], _ => rfl
  | s :: p, h => by
    rw [made_cons, made_drops fun x hx => h x (List.mem_cons_of_mem _ hx)]
    have := h s List.mem_cons_self
    cases s <;> first | rfl | cases this
theorem puts_of : ∀ {q : List Sp}, given q = [] → ∀ x ∈ q, x.isPut = true
  | [], _, _, h => absurd h List.not_mem_nil
  | t :: q, h, x, hx => by
    rw [given_cons] at h
    cases t <;> first | (simp [Sp.old] at h; done) | skip
    rcases List.mem_cons.mp hx with rfl | hx
    · rfl
    · exact puts_of (by simpa [Sp.old] using h) x hx
abbrev its (l l' : List Nat) (m n : Nat) : List D := zipD (iD l ++ [.int (m : Nat)]) (iD l' ++ [.int (n : Nat)])
theorem sum_loop (op : okL p = true) (oq : okL q = true) (lp : p.length ≤ 10000) (lq : q.length ≤ 10000) : ∀ (N : Nat) (p' q' f : List Sp) (i j : Nat) (s7 s8 : Option D), p'.length ≤ N → i + p'.length = p.length → p.drop i = p' → j + q'.length = q.length → q.drop j = q' → made p' = given q' → f.length ≤ 3 * i + 3 * j →
    ∃ i' j' t7 t8, forLoop none (frF (.tup [(.name 7), (.name 8)]) (evSs (C (k + 1)) suB)) (its (mk nDr i p') (mk nPu j q') p.length q.length) (sS t1 t2 p q m0 n0 f i j s7 s8) st = .next (sS t1 t2 p q m0 n0 (f ++ J p' q') i' j' t7 t8) st := by
  intro N
  induction N with
  | zero =>
    intro p' q' f i j s7 s8 hN hi ep hj eq hm hf
    have : p' = [] := List.eq_nil_of_length_eq_zero (by omega)
    subst this
    have hpu := puts_of hm.symm
    have e2 : mk nPu j q' = [] := by
      have := mk_none (P := nPu) (i := j) (u := q') (r := []) fun x hx => by unfold nPu; rw [hpu x hx]; rfl
      rw [List.append_nil] at this
      exact this
    refine ⟨p.length + 1, q.length + 1, some (.int (p.length : Nat)), some (.int (q.length : Nat)), ?_⟩
    rw [e2]
    show forLoop none _ [.tup [.int (p.length : Nat), .int (q.length : Nat)]] _ st = _
    rw [forLoop, if_pos (show srcOk none st = true from rfl), frF_some (sl' := sS t1 t2 p q m0 n0 f i j (some (.int (p.length : Nat))) (some (.int (q.length : Nat)))) rfl, sum_turn (g := []) (by omega) (Nat.le_refl _) (by omega) (Nat.le_refl _) (by omega) (.inl ⟨rfl, rfl⟩)]
    dsimp only
    rw [forLoop, if_pos (show srcOk none st = true from rfl), ep, eq, show q.length - j = q'.length by omega, List.take_length, J_nil]
    simp
  | succ N ih =>
    intro p' q' f i j s7 s8 hN hi ep hj eq hm hf
    rcases split_p (p := p') with h | ⟨u, s, r, e, hu, hs⟩
    · have hm' := made_drops h
      rw [hm'] at hm
      have hpu := puts_of hm.symm
      have e1 : mk nDr i p' = [] := by
        have := mk_none (P := nDr) (i := i) (u := p') (r := []) fun x hx => by unfold nDr; rw [h x hx]; rfl
        rw [List.append_nil] at this
        exact this
      have e2 : mk nPu j q' = [] := by
        have := mk_none (P := nPu) (i := j) (u := q') (r := []) fun x hx => by unfold nPu; rw [hpu x hx]; rfl
        rw [List.append_nil] at this
        exact this
      have eJ : J p' q' = p' ++ q' := by
        have := J_drops (p := []) (q := q') h
        rw [List.append_nil, J_nil] at this
        exact this
      refine ⟨p.length + 1, q.length + 1, some (.int (p.length : Nat)), some (.int (q.length : Nat)), ?_⟩
      rw [e1, e2]
      show forLoop none _ [.tup [.int (p.length : Nat), .int (q.length : Nat)]] _ st = _
      rw [forLoop, if_pos (show srcOk none st = true from rfl), frF_some (sl' := sS t1 t2 p q m0 n0 f i j (some (.int (p.length : Nat))) (some (.int (q.length : Nat)))) rfl, sum_turn (g := []) (by omega) (Nat.le_refl _) (by omega) (Nat.le_refl _) (by omega) (.inl ⟨rfl, rfl⟩)]
      dsimp only
      rw [forLoop, if_pos (show srcOk none st = true from rfl), ep, eq, show q.length - j = q'.length by omega, show p.length - i = p'.length by omega, List.take_length, List.take_length, eJ]
      simp
    · obtain ⟨x, hx⟩ : ∃ x, s.new = some x := by cases s <;> first | (cases hs; done) | exact ⟨_, rfl⟩
      have hm1 : made (s :: r) = given q' := by
        rw [← hm, e, made_app, made_drops hu]
        rfl
      have hne : given q' ≠ [] := by
        rw [← hm1, made_cons, hx]
        exact fun z => by cases z
      obtain ⟨v, w, r', e', hv, hw, hg⟩ := split_q hne
      obtain ⟨y, hy⟩ : ∃ y, w.old = some y := by cases w <;> first | (cases hw; done) | exact ⟨_, rfl⟩
      have hm2 : x :: made r = y :: given r' := by
        rw [hg, made_cons, given_cons, hx, hy] at hm1
        exact hm1
      rw [List.cons.injEq] at hm2
      obtain ⟨rfl, hm3⟩ := hm2
      have l1 : p'.length = u.length + (r.length + 1) := by rw [e]; simp
      have l2 : q'.length = v.length + (r'.length + 1) := by rw [e']; simp
      have e1 : mk nDr i p' = (i + u.length) :: mk nDr (i + u.length + 1) r := by
        rw [e, mk_none fun x hx => by unfold nDr; rw [hu x hx]; rfl, mk, if_pos (by unfold nDr; rw [hs]; rfl)]
      have e2 : mk nPu j q' = (j + v.length) :: mk nPu (j + v.length + 1) r' := by
        rw [e', mk_none fun x hx => by unfold nPu; rw [hv x hx]; rfl, mk, if_pos (by unfold nPu; rw [hw]; rfl)]
      have a1 : p[i + u.length]? = some s := by
        have : (p.drop i)[u.length]? = some s := by rw [ep, e, List.getElem?_append_right (Nat.le_refl _), Nat.sub_self]; rfl
        rwa [List.getElem?_drop] at this
      have a2 : q[j + v.length]? = some w := by
        have : (q.drop j)[v.length]? = some w := by rw [eq, e', List.getElem?_append_right (Nat.le_refl _), Nat.sub_self]; rfl
        rwa [List.getElem?_drop] at this
      have d1 : p.drop (i + u.length + 1) = r := by
        rw [← List.drop_drop, ← List.drop_drop, ep, e, List.drop_left]
        rfl
      have d2 : q.drop (j + v.length + 1) = r' := by
        rw [← List.drop_drop, ← List.drop_drop, eq, e', List.drop_left]
        rfl
      have os : s.ok = true := List.all_eq_true.mp op s (List.mem_of_getElem? a1)
      have ow : w.ok = true := List.all_eq_true.mp oq w (List.mem_of_getElem? a2)
      have ej := lj_joint hs hw hx hy os ow
      have lg : (lj s.old w.new).length ≤ 1 := by
        cases s.old <;> cases w.new <;> simp [lj]
      obtain ⟨i', j', t7, t8, q1⟩ := ih r r' (f ++ u ++ v ++ lj s.old w.new) (i + u.length + 1) (j + v.length + 1) (some (.int ((i + u.length : Nat)))) (some (.int ((j + v.length : Nat)))) (by omega) (by omega) d1 (by omega) d2 hm3 (by simp only [List.length_append]; omega)
      refine ⟨i', j', t7, t8, ?_⟩
      rw [e1, e2]
      show forLoop none _ (.tup [.int ((i + u.length : Nat)), .int ((j + v.length : Nat))] :: its (mk nDr (i + u.length + 1) r) (mk nPu (j + v.length + 1) r') p.length q.length) _ st = _
      rw [forLoop, if_pos (show srcOk none st = true from rfl), frF_some (sl' := sS t1 t2 p q m0 n0 f i j (some (.int ((i + u.length : Nat)))) (some (.int ((j + v.length : Nat))))) rfl, sum_turn (g := lj s.old w.new) (by omega) (by omega) (by omega) (by omega) (by omega) (.inr ⟨s, w, a1, a2, rfl⟩)]
      dsimp only
      have k1 : (p.drop i).take (i + u.length - i) = u := by rw [ep, e, Nat.add_sub_cancel_left, List.take_left]
      have k2 : (q.drop j).take (j + v.length - j) = v := by rw [eq, e', Nat.add_sub_cancel_left, List.take_left]
      rw [k1, k2, q1]
      have eJ : J p' q' = u ++ (v ++ (joint s w ++ J r r')) := by rw [e, e', J_drops hu, J_puts hs hv, J_joint hs hw]
      rw [eJ, ej]
      simp only [List.append_assoc]
end
end K43
set_option maxHeartbeats 1000000
namespace K43
open PySem PySem.Spec PyProof.Rows L2 TM K43.F
theorem sn_par3 {cl : Nat → List D → Store → Res D} {sl : Slots} {a b c : CE} {x y z : D} {i j l : Nat} (h1 : Rn cl a sl x) (h2 : Rn cl b sl y) (h3 : Rn cl c sl z) (hi : i < sl.length) (hj : j < sl.length) (hl : l < sl.length) : Sn cl (.par3 i j l a b c) sl (((sl.set i (some x)).set j (some y)).set l (some z)) := fun st => by
  obtain ⟨e1, q1⟩ := h1 st
  obtain ⟨e2, q2⟩ := h2 (st ++ e1)
  obtain ⟨e3, q3⟩ := h3 (st ++ e1 ++ e2)
  refine ⟨e1 ++ e2 ++ e3, ?_⟩
  show (evE cl a sl st).then (fun x st1 => (evE cl b sl st1).then fun y st2 => (evE cl c sl st2).then fun z st3 => if i < sl.length ∧ j < sl.length ∧ l < sl.length then RS.next (((sl.set i (some x)).set j (some y)).set l (some z)) st3 else .stuck) = _
  rw [q1, Res.then_ok, q2, Res.then_ok, q3, Res.then_ok, if_pos ⟨hi, hj, hl⟩]
  simp only [List.append_assoc]
section
variable {k : Nat} {p q : List Sp} {t t1 t2 : Bool}
theorem f_lsum (h : made p = given q) (op : okL p = true) (oq : okL q = true) (lp : p.length ≤ 10000) (lq : q.length ≤ 10000) : Rc (C (k + 2)) 24 [sq t1 (SL p), sq t2 (SL q)] (.lst (SL (J p q))) := by
  let s1 : Slots := [some (sq t1 (SL p)), some (sq t2 (SL q)), some (.lst (iD (mk nDr 0 p))), none, none, none, none, none, none, none, none]
  let s2 : Slots := [some (sq t1 (SL p)), some (sq t2 (SL q)), some (.lst (iD (mk nDr 0 p))), some (.lst (iD (mk nPu 0 q))), none, none, none, none, none, none, none]
  let s3 : Slots := sS t1 t2 p q (.lst (iD (mk nDr 0 p))) (.lst (iD (mk nPu 0 q))) [] 0 0 none none
  have ll : ∀ {P : Sp → Bool} {i : Nat} {r : List Sp}, (mk P i r).length ≤ r.length := by
    intro P i r
    induction r generalizing i with
    | nil => exact Nat.le_refl _
    | cons s r ih =>
      unfold mk
      split
      · rw [List.length_cons, List.length_cons]
        exact Nat.succ_le_succ ih
      · exact Nat.le_succ_of_le ih
  refine rc_of (F := t__law_sum.fd) rfl rfl ?_
  refine br_cons (sl' := s1) (sn_lc (i := 2) (r_places (f0 := some (sq t1 (SL p))) (v := 0) (w := "drop") (P := nDr) (t := t1) rfl nDr_eq lp) (by show 2 < 11; decide)) ?_
  refine br_cons (sl' := s2) (sn_lc (i := 3) (r_places (f0 := some (sq t1 (SL p))) (v := 1) (w := "put") (P := nPu) (t := t2) rfl nPu_eq lq) (by show 3 < 11; decide)) ?_
  refine br_cons (sl' := s3) (sn_par3 (i := 4) (j := 5) (l := 6) (x := .lst []) (r_lst rs_nil (by show 0 ≤ 1000; decide)) r_int r_int (by show 4 < 11; decide) (by show 5 < 11; decide) (by show 6 < 11; decide)) ?_
  have ln : ∀ {i : Nat} {r : List Sp} {tt : Bool}, s3[i]? = some (some (sq tt (SL r))) → Rn (C (k + 1)) (.lst false [(.bi .len [(.var i)])]) s3 (.lst [.int (r.length : Nat)]) := fun {i r tt} hv => r_lst (rs_cons (r_bi (rs_cons (r_var hv) rs_nil) fun st => by
    have : biD .len [sq tt (SL r)] st = .ok (.int ((SL r).length : Nat)) st := by cases tt <;> rfl
    rw [this, List.length_map]) rs_nil) (by show 1 ≤ 1000; decide)
  have ad : ∀ {i : Nat} {e : CE} {l : List Nat} {m : Nat}, l.length ≤ 10000 → s3[i]? = some (some (.lst (iD l))) → Rn (C (k + 1)) e s3 (.lst [.int (m : Nat)]) → Rn (C (k + 1)) (.op .Add (.var i) e) s3 (.lst (iD l ++ [.int (m : Nat)])) := fun {i e l m} hl hv he => r_op (r_var hv) he fun st => opD_lst (by rw [List.length_map, sizeLine_eq, List.length_singleton]; omega)
  have it : Ri (C (k + 1)) (.zip (.op .Add (.var 2) (.lst false [(.bi .len [(.var 0)])])) (.op .Add (.var 3) (.lst false [(.bi .len [(.var 1)])]))) s3 (its (mk nDr 0 p) (mk nPu 0 q) p.length q.length) :=
    ri_zip' (ad (i := 2) (Nat.le_trans ll lp) rfl (ln (i := 0) (tt := t1) rfl)) (ad (i := 3) (Nat.le_trans ll lq) rfl (ln (i := 1) (tt := t2) rfl)) rfl rfl
  intro st
  obtain ⟨ex, qi⟩ := it st
  obtain ⟨i', j', t7, t8, ql⟩ := sum_loop (k := k) (t1 := t1) (t2 := t2) (m0 := .lst (iD (mk nDr 0 p))) (n0 := .lst (iD (mk nPu 0 q))) (st := st ++ ex) op oq lp lq p.length p q [] 0 0 none none (Nat.le_refl _) (by omega) (by rw [List.drop_zero]) (by omega) (by rw [List.drop_zero]) h (Nat.zero_le _)
  refine ⟨ex, ?_⟩
  have b3 : evS (C (k + 1)) (b__law_sum.getD 3 .pass) s3 st = .next (sS t1 t2 p q (.lst (iD (mk nDr 0 p))) (.lst (iD (mk nPu 0 q))) ([] ++ J p q) i' j' t7 t8) (st ++ ex) := by
    show evS (C (k + 1)) (.for_ (.tup [(.name 7), (.name 8)]) (.zip (.op .Add (.var 2) (.lst false [(.bi .len [(.var 0)])])) (.op .Add (.var 3) (.lst false [(.bi .len [(.var 1)])]))) suB) s3 st = _
    rw [evS_for, qi, Res.then_ok]
    exact ql
  exact (evSs_cons b3).trans rfl
/-! ### a sum that is refused -/
theorem tS_ne {a b : List Nat} (h : a ≠ b) : decide (tS a = tS b) = false := decide_eq_false fun z => h (tS_inj.mp z)
theorem add_exc (h : made p ≠ given q) (st : Store) : C (k + 1) 12 [scD p, scD q] st = .exc 2 [("wrong", .str (tS (given q)))] st := by
  rw [show C (k + 1) 12 [scD p, scD q] st = endS (evSs (C k) [b_Script___add__.getD 0 .pass, b_Script___add__.getD 1 .pass] (slots0 2 [scD p, scD q]) st) from evCall_at (F := t_Script___add__.fd) rfl rfl]
  have v : tru (evE (C k) (.cmp .NotEq (.fld 1 (.var 0) "made") (.fld 1 (.var 1) "given"))) (slots0 2 [scD p, scD q]) st = .ok true st := by
    show ofO (truth (.bl (!decide (tS (made p) = tS (given q)))) st) st = _
    rw [tS_ne h]
    rfl
  have q0 : evS (C k) (b_Script___add__.getD 0 .pass) (slots0 2 [scD p, scD q]) st = .exc 2 [("wrong", .str (tS (given q)))] st := by
    show evS (C k) (.iff (.cmp .NotEq (.fld 1 (.var 0) "made") (.fld 1 (.var 1) "given")) [(.rais 2 "WrongText" "wrong" (.fld 1 (.var 1) "given"))] []) _ st = _
    rw [x_iff, v]
    rfl
  show endS (match evS (C k) (b_Script___add__.getD 0 .pass) (slots0 2 [scD p, scD q]) st with
    | .next sl' st' => evSs (C k) [b_Script___add__.getD 1 .pass] sl' st'
    | .ret d st' => .ret d st'
    | .brk sl' st' => .brk sl' st'
    | .cnt sl' st' => .cnt sl' st'
    | .exc C fs st' => .exc C fs st'
    | .stuck => .stuck) = _
  rw [q0]
  rfl
theorem both_ok (h : made p = given q) (h1 : Gd p) (h2 : Gd q) (hl : p.length + q.length ≤ 10000) : Rc (C (k + 5)) 26 [scD p, scD q] (.tup [scD (J p q), .non]) := by
  refine rc_of (F := t__law_both.fd) rfl rfl ?_
  refine br_cons (sl' := [some (scD p), some (scD q), none, some .non, some .non]) (sn_asg (t := .tup [(.name 3), (.name 4)]) (e := .tup [.non, .non]) (x := .tup [.non, .non]) (r_of fun st => rfl) rfl) ?_
  refine br_cons (sl' := [some (scD p), some (scD q), none, some (scD (J p q)), some .non]) (fun st => ?_) (br_ret (sn_ret (r_tup (rs_cons (r_var rfl) (rs_cons (r_var rfl) rs_nil)) (by show 2 ≤ 1000; decide))))
  obtain ⟨ex, q1⟩ := (x_add (k := k) (a := .var 0) (b := .var 1) (sl := [some (scD p), some (scD q), none, some .non, some .non]) h h1 h2 hl (r_var rfl) (r_var rfl)) st
  refine ⟨ex, ?_⟩
  show tryR [2] [1] 2 (some 4) false "wrong" [some (scD p), some (scD q), none, some .non, some .non] (evS (C (k + 4)) (.asg (.name 3) (.mth (.bin .Add) 0 12 "__add__" (.var 0) [(.var 1)])) [some (scD p), some (scD q), none, some .non, some .non] st) = _
  rw [x_asg, q1]
  rfl
theorem both_no (h : made p ≠ given q) : Rc (C (k + 2)) 26 [scD p, scD q] (.tup [.non, .str (tS (given q))]) := by
  refine rc_of (F := t__law_both.fd) rfl rfl ?_
  refine br_cons (sl' := [some (scD p), some (scD q), none, some .non, some .non]) (sn_asg (t := .tup [(.name 3), (.name 4)]) (e := .tup [.non, .non]) (x := .tup [.non, .non]) (r_of fun st => rfl) rfl) ?_
  refine br_cons (sl' := [some (scD p), some (scD q), none, some .non, some (.str (tS (given q)))]) (fun st => ?_) (br_ret (sn_ret (r_tup (rs_cons (r_var rfl) (rs_cons (r_var rfl) rs_nil)) (by show 2 ≤ 1000; decide))))
  refine ⟨[], ?_⟩
  rw [List.append_nil]
  have q1 : evE (C (k + 1)) (.mth (.bin .Add) 0 12 "__add__" (.var 0) [(.var 1)]) [some (scD p), some (scD q), none, some .non, some .non] st = .exc 2 [("wrong", .str (tS (given q)))] st := by
    show ((C (k + 1) 12 [scD p, scD q] st).bind fun d st3 => wayEnd (.bin .Add) d st3) = _
    rw [add_exc h]
    rfl
  show tryR [2] [1] 2 (some 4) false "wrong" [some (scD p), some (scD q), none, some .non, some .non] (evS (C (k + 1)) (.asg (.name 3) (.mth (.bin .Add) 0 12 "__add__" (.var 0) [(.var 1)])) [some (scD p), some (scD q), none, some .non, some .non] st) = _
  rw [x_asg, q1]
  rfl
/-! ### whether a sum is right -/
section
variable {sl : Slots} {cl : Nat → List D → Store → Res D}
theorem x_nes {e e2 : CE} {l : List Nat} (h : Rn cl e sl (.str (tS l))) (h2 : Rn cl e2 sl (.str (tS l))) : Rn cl (.cmp .NotEq e e2) sl (.bl false) := r_cmp (k := false) h h2 fun st => by
  show some (!decide (tS l = tS l)) = some false
  rw [decide_eq_true rfl]
  rfl
theorem x_nes' {e e2 : CE} {l m : List Nat} (hlm : l ≠ m) (h : Rn cl e sl (.str (tS l))) (h2 : Rn cl e2 sl (.str (tS m))) : Rn cl (.cmp .NotEq e e2) sl (.bl true) := r_cmp (k := true) h h2 fun st => by
  show some (!decide (tS l = tS m)) = some true
  rw [tS_ne hlm]
  rfl
theorem x_eqs {e e2 : CE} {l : List Nat} (h : Rn cl e sl (.str (tS l))) (h2 : Rn cl e2 sl (.str (tS l))) : Rn cl (.cmp .Eq e e2) sl (.bl true) := r_cmp (k := true) h h2 fun st => by
  show some (decide (tS l = tS l)) = some true
  rw [decide_eq_true rfl]
theorem or_ff {e e2 : CE} (h : Rn cl e sl (.bl false)) (h2 : Rn cl e2 sl (.bl false)) : Rn cl (.or_ e e2) sl (.bl false) := r_or (k := false) h (fun _ => rfl) (fun _ => h2) fun h => by cases h
theorem and_tt {e e2 : CE} (h : Rn cl e sl (.bl true)) (h2 : Rn cl e2 sl (.bl true)) : Rn cl (.and_ e e2) sl (.bl true) := r_and (k := true) h (fun _ => rfl) (fun _ => h2) fun h => by cases h
theorem no_f {e : CE} {t : List CS} (h : Rn cl e sl (.bl false)) : Sn cl (.iff e t []) sl sl := sn_no h fun _ => rfl
end
theorem r_tupl {cl : Nat → List D → Store → Res D} {sl : Slots} {e : CE} {t : Bool} {xs : List D} (h : Rn cl e sl (sq t xs)) : Rn cl (.bi .tuple [e]) sl (.tup xs) := r_bi (rs_cons h rs_nil) fun st => by cases t <;> rfl
theorem f_right {a b c : Nat} (ha : a ≤ 1000) (hb : b ≤ 1000) (hc : c ≤ 1000) (h1 : Gd p) (h2 : Gd q) (lp : p.length ≤ 500) (lq : q.length ≤ 500) : Rc (C (k + 6)) 27 [sq t1 (SL p), sq t2 (SL q), prD a b c] (.bl true) := by
  refine rc_of (F := t__law_sum_right.fd) rfl rfl ?_
  let s1 : Slots := [some (sq t1 (SL p)), some (sq t2 (SL q)), some (prD a b c), none, some (scD p), some (scD q), none, none]
  refine br_cons (sl' := s1) (sn_par (i := 4) (j := 5) (r_script (k := k + 2) (t := t1) h1.ok h1.len (r_var rfl)) (r_script (k := k + 2) (t := t2) h2.ok h2.len (r_var rfl)) (by show 4 < 8; decide) (by show 5 < 8; decide)) ?_
  have fl : ∀ {sl : Slots} {i : Nat} {r : List Sp} {x : Str} {d : D}, sl[i]? = some (some (scD r)) → (fsS r).lookup x = some d → Rn (C (k + 5)) (.fld 1 (.var i) x) sl d := fun {sl i r x d} hv hx => x_fld (r_var hv) hx
  have hgood : ∀ (u v : D), Sn (C (k + 5)) (b__law_sum_right.getD 2 .pass) [some (sq t1 (SL p)), some (sq t2 (SL q)), some (prD a b c), none, some (scD p), some (scD q), some u, some v] [some (sq t1 (SL p)), some (sq t2 (SL q)), some (prD a b c), none, some (scD p), some (scD q), some u, some v] := fun u v => by
    refine no_f (e := .cmp .NotEq (.bi .repr [(.tup [(.fld 1 (.var 4) "steps"), (.fld 1 (.var 5) "steps")])]) (.bi .repr [(.tup [(.bi .tuple [(.var 0)]), (.bi .tuple [(.var 1)])])])) (x_reprs (d := .tup [.tup (SL p), .tup (SL q)]) (m := 50000) (k := 4) ?_ (by decide) (by decide) (r_tup (rs_cons (fl (r := p) rfl rfl) (rs_cons (fl (r := q) rfl rfl) rs_nil)) (by show 2 ≤ 1000; decide)) (r_tup (rs_cons (r_tupl (t := t1) (r_var rfl)) (rs_cons (r_tupl (t := t2) (r_var rfl)) rs_nil)) (by show 2 ≤ 1000; decide)))
    refine (sh_tup (b := 21000) (k := 3) fun x hx => ?_).mono (by show 2 * 21001 ≤ 50000; decide) (by decide)
    simp only [List.mem_cons, List.not_mem_nil, or_false] at hx
    rcases hx with rfl | rfl
    · exact sh_SL h1.lb (by omega)
    · exact sh_SL h2.lb (by omega)
  have mk : ∀ {sl : Slots}, sl[0]? = some (some (sq t1 (SL p))) → Rn (C (k + 5)) (.call 22 "_law_made" [(.var 0)]) sl (.str (tS (made p))) := fun h => r_call (rs_cons (r_var h) rs_nil) (f_made (k := k + 4) (t := t1) h1.len)
  have mk2 : ∀ {sl : Slots}, sl[1]? = some (some (sq t2 (SL q))) → Rn (C (k + 5)) (.call 22 "_law_made" [(.var 1)]) sl (.str (tS (made q))) := fun h => r_call (rs_cons (r_var h) rs_nil) (f_made (k := k + 4) (t := t2) h2.len)
  have gv : ∀ {sl : Slots}, sl[0]? = some (some (sq t1 (SL p))) → Rn (C (k + 5)) (.call 21 "_law_given" [(.var 0)]) sl (.str (tS (given p))) := fun h => r_call (rs_cons (r_var h) rs_nil) (f_given (k := k + 4) (t := t1) h1.len)
  have gv2 : ∀ {sl : Slots}, sl[1]? = some (some (sq t2 (SL q))) → Rn (C (k + 5)) (.call 21 "_law_given" [(.var 1)]) sl (.str (tS (given q))) := fun h => r_call (rs_cons (r_var h) rs_nil) (f_given (k := k + 4) (t := t2) h2.len)
  by_cases h : made p = given q
  · have g := Gd.J h h1 h2 (by omega)
    obtain ⟨j1, j2⟩ := J_facts p q h
    have lj := J_len p q h
    let s2 : Slots := [some (sq t1 (SL p)), some (sq t2 (SL q)), some (prD a b c), none, some (scD p), some (scD q), some (scD (J p q)), some .non]
    let s3 : Slots := [some (sq t1 (SL p)), some (sq t2 (SL q)), some (prD a b c), some (.int (cost a b c (J p q) : Nat)), some (scD p), some (scD q), some (scD (J p q)), some .non]
    refine br_cons (sl' := s2) (sn_asg (t := .tup [(.name 6), (.name 7)]) (r_call (rs_cons (r_var rfl) (rs_cons (r_var rfl) rs_nil)) (both_ok (k := k) h h1 h2 (by omega))) rfl) ?_
    refine br_cons (hgood _ _) ?_
    refine br_cons (no_f (x_nes (l := made p) (mk rfl) (by rw [h]; exact gv2 rfl))) ?_
    refine br_cons (no_f (or_ff (r_cmp (k := false) (x := scD (J p q)) (y := .non) (r_var rfl) (r_of fun st => rfl) fun st => rfl) (x_reprs (d := .tup (SL (J p q))) (m := 21000) (k := 3) (sh_SL g.lb (by omega)) (by decide) (by decide) (fl (r := J p q) rfl rfl) (r_tupl (t := false) (r_call (rs_cons (r_var rfl) (rs_cons (r_var rfl) rs_nil)) (f_lsum (k := k + 3) (t1 := t1) (t2 := t2) h h1.ok h2.ok h1.len h2.len)))))) ?_
    refine br_cons (no_f (or_ff (x_nes (l := given p) (by rw [← j1]; exact fl (r := J p q) rfl rfl) (gv rfl)) (or_ff (x_nes (l := made q) (by rw [← j2]; exact fl (r := J p q) rfl rfl) (mk2 rfl)) (x_nes (l := made q) ?_ ?_)))) ?_
    · have := x_callS (k := k + 4) (p := J p q) (a := .var 6) (b := .fld 1 (.var 4) "given") (sl := s2) (r_var rfl) (by rw [j1]; exact fl (r := p) rfl rfl)
      rwa [j2] at this
    · refine x_callS (k := k + 4) (p := q) (a := .var 5) (sl := s2) (r_var rfl) ?_
      rw [← h]
      exact x_callS (k := k + 4) (p := p) (a := .var 4) (sl := s2) (r_var rfl) (fl (r := p) rfl rfl)
    refine br_cons (sl' := s3) (sn_asg (t := .name 3) (e := .mthK 0 8 "cost" ["put", "drop", "swap"] (.var 6) [] [(.idx (.var 2) (.int 0)), (.idx (.var 2) (.int 1)), (.idx (.var 2) (.int 2))] [0, 1, 2, 3]) (r_mthK (x := scD (J p q)) (zs := [.int a, .int b, .int c]) (r_var rfl) (fun _ => rfl) (rs_cons (r_idx (x := prD a b c) (r_var rfl) r_int fun _ => rfl) (rs_cons (r_idx (x := prD a b c) (r_var rfl) r_int fun _ => rfl) (rs_cons (r_idx (x := prD a b c) (r_var rfl) r_int fun _ => rfl) rs_nil))) rfl (f_cost (k := k + 4) g.len)) rfl) ?_
    refine br_ret (sn_ret (r_cmp (k := true) (x := .int (cost a b c (J p q) : Nat)) (y := .int ((cost a b c p : Nat) + (cost a b c q : Nat))) (r_var rfl) (r_op (r_call (rs_cons (r_var rfl) (rs_cons (r_var rfl) rs_nil)) (r_ok fun st => f_lcost (k := k + 4) (t := t1) ha hb hc)) (r_call (rs_cons (r_var rfl) (rs_cons (r_var rfl) rs_nil)) (r_ok fun st => f_lcost (k := k + 4) (t := t2) ha hb hc)) fun st => opD_add) fun st => ?_))
    show some (decide (((cost a b c (J p q) : Nat) : Int) ≤ (cost a b c p : Nat) + (cost a b c q : Nat))) = some true
    have := J_cost (a := a) (b := b) (c := c) p q h
    rw [decide_eq_true (by omega)]
  · let s2 : Slots := [some (sq t1 (SL p)), some (sq t2 (SL q)), some (prD a b c), none, some (scD p), some (scD q), some .non, some (.str (tS (given q)))]
    refine br_cons (sl' := s2) (sn_asg (t := .tup [(.name 6), (.name 7)]) (r_call (rs_cons (r_var rfl) (rs_cons (r_var rfl) rs_nil)) (both_no (k := k + 3) h)) rfl) ?_
    refine br_cons (hgood _ _) ?_
    have tail : Sr (C (k + 5)) (.ret (.and_ (.cmp .Is (.var 6) .non) (.cmp .Eq (.var 7) (.call 21 "_law_given" [(.var 1)])))) s2 (.bl true) := sn_ret (and_tt (r_cmp (k := true) (x := .non) (y := .non) (r_var rfl) (r_of fun st => rfl) fun st => rfl) (x_eqs (l := given q) (r_var rfl) (gv2 rfl)))
    intro st
    obtain ⟨e1, q1⟩ := (x_nes' h (mk (sl := s2) rfl) (gv2 (sl := s2) rfl)) st
    obtain ⟨e2, q2⟩ := tail (st ++ e1)
    refine ⟨e1 ++ e2, ?_⟩
    have b3 : evS (C (k + 5)) (b__law_sum_right.getD 3 .pass) s2 st = .ret (.bl true) (st ++ e1 ++ e2) := by
      show evS (C (k + 5)) (.iff (.cmp .NotEq (.call 22 "_law_made" [(.var 0)]) (.call 21 "_law_given" [(.var 1)])) [(.ret (.and_ (.cmp .Is (.var 6) .non) (.cmp .Eq (.var 7) (.call 21 "_law_given" [(.var 1)]))))] []) s2 st = _
      rw [x_iff, x_tru, q1, Res.bind_ok]
      exact evSs_ret q2
    rw [← List.append_assoc]
    exact evSs_ret b3
end
end K43
set_option maxHeartbeats 1000000
namespace K43
open PySem PySem.Spec PyProof.Rows L2 TM K43.F
/-! ### the law's end: fixed scripts -/
def rp (n : Nat) (l : List Sp) : List Sp := (List.replicate n l).flatten
theorem rp_succ (n : Nat) (l : List Sp) : rp (n + 1) l = l ++ rp n l := by
  unfold rp
  rw [List.replicate_succ, List.flatten_cons]
theorem SL_rp (n : Nat) (l : List Sp) : SL (rp n l) = (List.replicate n (SL l)).flatten := by
  unfold rp
  rw [SL, List.map_flatten, List.map_replicate]
theorem rp_mem {n : Nat} {l : List Sp} {s : Sp} (h : s ∈ rp n l) : s ∈ l := by
  unfold rp at h
  rw [List.mem_flatten] at h
  obtain ⟨m, hm, hs⟩ := h
  rw [(List.mem_replicate.mp hm).2] at hs
  exact hs
theorem rp_len (n : Nat) (l : List Sp) : (rp n l).length = n * l.length := by
  unfold rp
  induction n with
  | zero => simp
  | succ n ih => rw [List.replicate_succ, List.flatten_cons, List.length_append, ih, Nat.add_mul, Nat.one_mul, Nat.add_comm]
theorem rp_gd {n : Nat} {l : List Sp} (ho : okL l = true) (hb : LB l) (hl : n * l.length ≤ 10000) : Gd (rp n l) := ⟨by
  unfold okL at *
  rw [List.all_eq_true] at *
  exact fun s hs => ho s (rp_mem hs), fun s hs => hb s (rp_mem hs), by rw [rp_len]; exact hl⟩
theorem rp_J (a b : Nat) : ∀ n, J (rp n [.keep a, .put b]) (rp n [.keep a, .drop b]) = kept (List.replicate n a)
  | 0 => J_nil
  | n + 1 => by
    rw [rp_succ, rp_succ]
    show J (.keep a :: .put b :: rp n [.keep a, .put b]) (.keep a :: .drop b :: rp n [.keep a, .drop b]) = _
    rw [J_joint rfl rfl, J_joint rfl rfl, rp_J a b n, List.replicate_succ]
    rfl
theorem rp_made (n : Nat) (l : List Sp) : made (rp n l) = (List.replicate n (made l)).flatten := by
  induction n with
  | zero => rfl
  | succ n ih => rw [rp_succ, made_app, ih, List.replicate_succ, List.flatten_cons]
theorem rp_given (n : Nat) (l : List Sp) : given (rp n l) = (List.replicate n (given l)).flatten := by
  induction n with
  | zero => rfl
  | succ n ih => rw [rp_succ, given_app, ih, List.replicate_succ, List.flatten_cons]
theorem mul_text (l : List Nat) (k : Nat) (h : 2 ≤ k ∧ 1 ≤ l.length ∧ l.length * k ≤ 1000000) {st : Store} : opD .Mult (.str (tS l)) (.int (k : Int)) st = .ok (.str (tS (List.replicate k l).flatten)) st := by
  show (if 2 ≤ (k : Int) ∧ 1 ≤ (tS l).length ∧ (tS l).length * (k : Int).toNat ≤ 1000000 then Res.ok (D.str ⟨(List.replicate (k : Int).toNat (tS l).cps).foldl (· ++ ·) #[]⟩) st else .stuck) = _
  rw [if_pos (by rw [tS_len, Int.toNat_natCast]; exact ⟨by omega, h.2⟩), Int.toNat_natCast]
  have e : ∀ (n : Nat) (b : Array Nat), ((List.replicate n (tS l).cps).foldl (· ++ ·) b).toList = b.toList ++ (List.replicate n l).flatten := by
    intro n
    induction n with
    | zero => intro b; simp
    | succ n ih =>
      intro b
      rw [List.replicate_succ, List.foldl_cons, ih, Array.toList_append, List.replicate_succ, List.flatten_cons, List.append_assoc]
      rfl
  have e2 : (⟨(List.replicate k (tS l).cps).foldl (· ++ ·) #[]⟩ : Str) = tS (List.replicate k l).flatten := str_ext (by
    show ((List.replicate k (tS l).cps).foldl (· ++ ·) #[]).toList = _
    rw [e]
    show [] ++ _ = _
    rw [List.nil_append]
    show _ = ((List.replicate k l).flatten.toArray).toList
    simp)
  rw [e2]
section
variable {k : Nat} {sl : Slots}
theorem r_rep {l : List Sp} {n : Nat} {e : CE} {cl : Nat → List D → Store → Res D} (h : Rn cl e sl (.lst (SL l))) (hn : n ≤ 1000) (hl : l.length ≤ 1000) : Rn cl (.op .Mult e (.int (n : Int))) sl (.lst (SL (rp n l))) := r_op h r_int fun st => by
  have : l.length * n ≤ 1000 * 1000 := Nat.mul_le_mul hl hn
  rw [opD_rep, if_pos ⟨by omega, by omega, by rw [List.length_map, Int.toNat_natCast, sizeLine_eq]; omega⟩, Int.toNat_natCast, SL_rp]
def dF : List Sp := [.keep 97, .put 98]
def dB : List Sp := [.keep 97, .drop 98]
def o1 : List Sp := [.drop 120, .put 112]
def o2 : List Sp := [.put 113, .drop 112]
theorem lb_of {p : List Sp} (h : (p.all fun s => (lets s).all fun c => decide (c < 128)) = true) : LB p := fun s hs c hc => of_decide_eq_true (List.all_eq_true.mp (List.all_eq_true.mp h s hs) c hc)
theorem gF : Gd (rp 200 dF) := rp_gd (by decide) (lb_of (by decide)) (by decide)
theorem gB : Gd (rp 200 dB) := rp_gd (by decide) (lb_of (by decide)) (by decide)
theorem g1 : Gd o1 := ⟨by decide, lb_of (by decide), by decide⟩
theorem g2 : Gd o2 := ⟨by decide, lb_of (by decide), by decide⟩
theorem hFB : made (rp 200 dF) = given (rp 200 dB) := by
  rw [rp_made, rp_given]
  rfl
theorem hBF : made (rp 200 dB) = given (rp 200 dF) := by
  rw [rp_made, rp_given]
  rfl
theorem h12 : made o1 = given o2 := rfl
theorem J12 : J o1 o2 = [.drop 120, .put 113] := by
  show J [.drop 120, .put 112] [.put 113, .drop 112] = _
  rw [J_drop, J_put rfl, J_joint rfl rfl, J_nil]
  rfl
abbrev lB (i : Nat) : CS := b_law.getD i .pass
theorem last_ok (S : D) (s1 s2 s3 s4 s5 s6 s7 s8 s9 s10 s11 s12 : Option D) : Br (C (k + 6)) [lB 1, lB 2, lB 3, lB 4, lB 5] [some S, s1, s2, s3, s4, s5, s6, s7, s8, s9, s10, s11, s12] (.bl true) := by
  let t1 : Slots := [some S, s1, s2, s3, s4, s5, some (scD (rp 200 dF)), some (scD (rp 200 dB)), s8, s9, s10, s11, s12]
  let t2 : Slots := [some S, s1, some (scD o1), s3, s4, s5, some (scD (rp 200 dF)), some (scD (rp 200 dB)), s8, s9, s10, s11, s12]
  let t3 : Slots := [some S, s1, some (scD o1), some (scD o2), s4, s5, some (scD (rp 200 dF)), some (scD (rp 200 dB)), s8, s9, s10, s11, s12]
  have ll : (rp 200 dF).length = 400 := by rw [rp_len]; rfl
  have lb : (rp 200 dB).length = 400 := by rw [rp_len]; rfl
  have st2 : ∀ {sl : Slots} {a b x y : Str}, Rn (C (k + 6)) (.lst false [(.tup [(.str a), (.str x)]), (.tup [(.str b), (.str y)])]) sl (.lst [.tup [.str a, .str x], .tup [.str b, .str y]]) := fun {sl a b x y} => r_of fun st => rfl
  refine br_cons (sl' := t1) (sn_par (i := 6) (j := 7) (r_script (k := k + 3) (t := false) gF.ok gF.len (r_rep (l := dF) st2 (by decide) (by decide))) (r_script (k := k + 3) (t := false) gB.ok gB.len (r_rep (l := dB) st2 (by decide) (by decide))) (by show 6 < 13; decide) (by show 7 < 13; decide)) ?_
  have v6 : Rn (C (k + 6)) (.var 6) t1 (scD (rp 200 dF)) := r_var rfl
  have v7 : Rn (C (k + 6)) (.var 7) t1 (scD (rp 200 dB)) := r_var rfl
  have gK : Gd (kept (List.replicate 200 97)) := Gd.kept (fun c hc => by rw [(List.mem_replicate.mp hc).2]; decide) (by rw [List.length_replicate]; decide)
  have aFB : Rn (C (k + 6)) (.mth (.bin .Add) 0 12 "__add__" (.var 6) [(.var 7)]) t1 (scD (kept (List.replicate 200 97))) := by
    have := x_add (k := k + 2) hFB gF gB (by omega) v6 v7
    rwa [show J (rp 200 dF) (rp 200 dB) = kept (List.replicate 200 97) from rp_J 97 98 200] at this
  have aBF := x_add (k := k + 2) hBF gB gF (by omega) v7 v6
  have eg : given (J (rp 200 dB) (rp 200 dF)) = (List.replicate 200 [97, 98]).flatten := by
    rw [(J_facts _ _ hBF).1, rp_given]
    rfl
  refine br_cons (no_f (e := .or_ (.not_ (.mth (.cmp .Eq) 0 13 "__eq__" (.mth (.bin .Add) 0 12 "__add__" (.var 6) [(.var 7)]) [(.cmth 0 7 "Script" "kept" [(.op .Mult (.str "a") (.int 200))])])) (.cmp .NotEq (.fld 1 (.mth (.bin .Add) 0 12 "__add__" (.var 7) [(.var 6)]) "given") (.op .Mult (.str "ab") (.int 200)))) (or_ff (r_not (k := true) (x_eq (k := k + 5) (p := kept (List.replicate 200 97)) gK.lb aFB (x_kept (k := k + 2) (l := List.replicate 200 97) (fun c hc => by rw [(List.mem_replicate.mp hc).2]; decide) (by rw [List.length_replicate]; decide) ?_)) fun _ => rfl) (x_nes (l := (List.replicate 200 [97, 98]).flatten) (by rw [← eg]; exact x_fld aBF rfl) ?_))) ?_
  · refine r_op (x := .str (tS [97])) (y := .int ((200 : Nat) : Int)) r_str r_int fun st => ?_
    rw [mul_text [97] 200 ⟨by decide, by decide, by decide⟩]
    have : (List.replicate 200 [97]).flatten = List.replicate 200 97 := by decide +kernel
    rw [this]
  · exact r_op (x := .str (tS [97, 98])) (y := .int ((200 : Nat) : Int)) r_str r_int fun st => mul_text [97, 98] 200 ⟨by decide, by decide, by decide⟩
  refine br_cons (sl' := t2) (sn_asg (t := .name 2) (r_script (k := k + 3) (t := false) (p := o1) g1.ok g1.len st2) rfl) ?_
  refine br_cons (sl' := t3) (sn_asg (t := .name 3) (r_script (k := k + 3) (t := false) (p := o2) g2.ok g2.len st2) rfl) ?_
  have w2 : Rn (C (k + 6)) (.var 2) t3 (scD o1) := r_var rfl
  have w3 : Rn (C (k + 6)) (.var 3) t3 (scD o2) := r_var rfl
  refine br_ret (sn_ret (and_tt (r_cmp (k := true) (x := .tup (SL [.drop 120, .put 113])) (y := .tup (SL [.drop 120, .put 113])) ?_ (r_of fun st => rfl) fun st => eq_SL (lb_of (by decide)) st) (r_cmp (k := true) (x := .tup (SL o2)) (y := .tup (SL o2)) ?_ (x_fld w3 rfl) fun st => eq_SL g2.lb st)))
  · have := x_add (k := k + 2) h12 g1 g2 (by decide) w2 w3
    rw [J12] at this
    exact x_fld this rfl
  · have kk := x_kept (k := k + 2) (l := [113]) (x := "Script") (m := "kept") (sl := t3) (a := .str "q") (by decide) (by decide) r_str
    have gk : Gd (kept [113]) := Gd.kept (by decide) (by decide)
    have := x_add (k := k + 2) (p := o2) (q := kept [113]) rfl g2 gk (by decide) w3 kk
    rw [show J o2 (kept [113]) = o2 from J_kept o2] at this
    exact x_fld this rfl
end
end K43
set_option maxHeartbeats 1000000
namespace K43.F
open PySem PySem.Spec PyProof.Rows L2 TM
abbrev lwF : CS := b_law.getD 0 .pass
abbrev tnB : List CS := fB ((fB lwF).getD 1 .pass)
def wS (S : D) (a n : Nat) (s2 s3 s5 s6 s7 s8 s9 s10 s11 s12 : Option D) : Slots := [some S, some (.int (a : Int)), s2, s3, some (.loc n), s5, s6, s7, s8, s9, s10, s11, s12]
section
variable {n : Nat} {cl : Nat → List D → Store → Res D} {sl : Slots} {e : CE} {P Q : D → Prop}
theorem f_callV {i f : Nat} {nm : Str} {v : D} (h0 : sl[i]? = some (some v)) (h : Fe cl n e sl P) (hc : ∀ d, P d → Fc cl n f [v, d] Q) : Fe cl n (.call f nm [(.var i), e]) sl Q := fun st s => by
  obtain ⟨d, st1, q1, p1, s1, f1⟩ := h st s
  obtain ⟨r, st2, q2, p2, s2, f2⟩ := hc d p1 st1 s1
  refine ⟨r, st2, ?_, p2, s2, f1.trans f2⟩
  have q0 : evE cl (.var i) sl st = .ok v st := by rw [x_var, h0]
  rw [x_call, x_cons, q0, Res.bind_ok, x_cons, q1, Res.bind_ok, x_nil, Res.bind_ok, Res.bind_ok, Res.bind_ok, q2]
theorem f_chooseV {i K : Nat} (hK : 2 ≤ K) (h : sl[i]? = some (some (.loc n))) (ha : Fe (C K) n e sl (fun d => ∃ ds, d = .lst ds ∧ (0 < ds.length ∧ ds.length ≤ 1000) ∧ ∀ x ∈ ds, P x)) : Fe (C K) n (.call 16 "_law_choose" [(.var i), e]) sl P :=
  f_callV h ha fun d ⟨ds, e, hl, hp⟩ => by
    subst e
    exact fun st s => by
      obtain ⟨x, st', q, hx, r⟩ := fc_choose hK (List.length_pos_iff.mp hl.1) hl.2 st s
      exact ⟨x, st', q, hp x hx, r⟩
def Wd (m : Nat) (d : D) : Prop := ∃ l, d = .str (tS l) ∧ l.length ≤ m ∧ ∀ c ∈ l, c < 128
theorem f_stepsV {K m : Nat} {g : Str} (hK : 2 ≤ K) (h4 : sl[4]? = some (some (.loc n))) (h11 : sl[11]? = some (some (.str g))) (hg : Ls g) (hm : m ≤ 100) (he : Fe (C (K + 1)) n e sl (Wd m)) : Fe (C (K + 1)) n (.call 20 "_law_steps" [(.var 4), e, (.var 11)]) sl (fun d => ∃ f, d = .lst (SL f) ∧ Gd f ∧ f.length ≤ 3 * m + 3) := fun st s => by
  obtain ⟨d, st1, q1, ⟨l, rfl, ll, lt⟩, s1, f1⟩ := he st s
  obtain ⟨r, st2, q2, ⟨f, rfl, fo, fb, fg, fl⟩, s2, f2⟩ := fc_steps (K := K) (n := n) (own := l) (g := g) hK hg lt (by omega) st1 s1
  refine ⟨.lst (SL f), st2, ?_, ⟨f, rfl, ⟨fo, fb, by omega⟩, by omega⟩, s2, f1.trans f2⟩
  have q0 : ∀ st, evE (C (K + 1)) (.var 4) sl st = .ok (.loc n) st := fun st => by rw [x_var, h4]
  have q3 : ∀ st, evE (C (K + 1)) (.var 11) sl st = .ok (.str g) st := fun st => by rw [x_var, h11]
  rw [x_call, x_cons, q0, Res.bind_ok, x_cons, q1, Res.bind_ok, x_cons, q3, Res.bind_ok, x_nil, Res.bind_ok, Res.bind_ok, Res.bind_ok, Res.bind_ok, q2]
theorem f_wordV {K m : Nat} {g : Str} (hK : 2 ≤ K) (hm : m ≤ 6) (h4 : sl[4]? = some (some (.loc n))) (h11 : sl[11]? = some (some (.str g))) (hg : Ls g) : Fe (C (K + 1)) n (.call 17 "_law_word" [(.var 4), (.int (m : Int)), (.var 11)]) sl (Wd 6) :=
  f_call (rs_cons (r_var h4) (rs_cons r_int (rs_cons (r_var h11) rs_nil))) (fc_word (K := K) hm hK hg)
end
theorem turn_ok {S : D} {a n : Nat} {st : Store} {s2 s3 s5 s6 s7 s8 s9 s10 s11 s12 : Option D} (s : SS st n) :
    ∃ t8 t9 t10 t11 t12 st', evSs (C 12) tnB (wS S a n s2 s3 s5 s6 s7 s8 s9 s10 s11 s12) st = .next (wS S a n s2 s3 s5 s6 s7 t8 t9 t10 t11 t12) st' ∧ SS st' n := by
  obtain ⟨d, st1, q1, ⟨g, rfl, hg⟩, ss1, f1⟩ := f_call (cl := C 12) (n := n) (sl := wS S a n s2 s3 s5 s6 s7 s8 s9 s10 s11 s12) (nm := "_law_signs") (es := [(.var 4)]) (rs_cons (r_var rfl) rs_nil) (fc_signs (K := 11) (n := n) (by decide)) st s
  obtain ⟨d, st2, q2, ⟨pa, pb, pc, rfl, la, lb, lc⟩, ss2, f2⟩ := f_call (cl := C 12) (n := n) (sl := wS S a n s2 s3 s5 s6 s7 s8 s9 s10 s11 s12) (nm := "_law_prices") (es := [(.var 4)]) (rs_cons (r_var rfl) rs_nil) (fc_prices (K := 11) (n := n) (by decide)) st1 ss1
  have b0 : evS (C 12) (tnB.getD 0 .pass) (wS S a n s2 s3 s5 s6 s7 s8 s9 s10 s11 s12) st = .next (wS S a n s2 s3 s5 s6 s7 s8 s9 s10 (some (.str g)) (some (prD pa pb pc))) st2 := by
    show (evE (C 12) (.call 18 "_law_signs" [(.var 4)]) (wS S a n s2 s3 s5 s6 s7 s8 s9 s10 s11 s12) st).then (fun x st1 => (evE (C 12) (.call 19 "_law_prices" [(.var 4)]) (wS S a n s2 s3 s5 s6 s7 s8 s9 s10 s11 s12) st1).then fun y st2 => if 11 < (wS S a n s2 s3 s5 s6 s7 s8 s9 s10 s11 s12).length ∧ 12 < (wS S a n s2 s3 s5 s6 s7 s8 s9 s10 s11 s12).length then RS.next (((wS S a n s2 s3 s5 s6 s7 s8 s9 s10 s11 s12).set 11 (some x)).set 12 (some y)) st2 else .stuck) = _
    rw [q1, Res.then_ok, q2]
    rfl
  obtain ⟨d, st3, q3, ⟨p, rfl, gp, lp⟩, ss3, f3⟩ := f_stepsV (K := 11) (n := n) (m := 6) (e := .call 17 "_law_word" [(.var 4), (.int 6), (.var 11)]) (sl := wS S a n s2 s3 s5 s6 s7 s8 s9 s10 (some (.str g)) (some (prD pa pb pc))) (g := g) (by decide) rfl rfl hg (by decide) (f_wordV (K := 11) (m := 6) (by decide) (by decide) rfl rfl hg) st2 ss2
  have b1 : evS (C 12) (tnB.getD 1 .pass) (wS S a n s2 s3 s5 s6 s7 s8 s9 s10 (some (.str g)) (some (prD pa pb pc))) st2 = .next (wS S a n s2 s3 s5 s6 s7 (some (.lst (SL p))) s9 s10 (some (.str g)) (some (prD pa pb pc))) st3 := by
    show evS (C 12) (.asg (.name 8) (.call 20 "_law_steps" [(.var 4), (.call 17 "_law_word" [(.var 4), (.int 6), (.var 11)]), (.var 11)])) _ st2 = _
    rw [x_asg, q3]
    rfl
  have mp : (made p).length ≤ 21 := Nat.le_trans made_le lp
  let sl3 : Slots := wS S a n s2 s3 s5 s6 s7 (some (.lst (SL p))) s9 s10 (some (.str g)) (some (prD pa pb pc))
  have w1 : Rn (C 12) (.op .Mult (.lst false [(.call 22 "_law_made" [(.var 8)])]) (.int 4)) sl3 (.lst (List.replicate 4 (.str (tS (made p))))) := r_op (x := .lst [.str (tS (made p))]) (y := .int 4) (r_lst (rs_cons (r_call (rs_cons (r_var rfl) rs_nil) (f_made (k := 11) (t := false) gp.len)) rs_nil) (by show 1 ≤ 1000; decide)) r_int fun st => by
    rw [opD_rep, if_pos ⟨by decide, by decide, by rw [sizeLine_eq]; show 1 * 4 ≤ 16777216; decide⟩]
    rfl
  have w2 : Fe (C 12) n (.op .Add (.op .Mult (.lst false [(.call 22 "_law_made" [(.var 8)])]) (.int 4)) (.lst false [(.call 17 "_law_word" [(.var 4), (.int 4), (.var 11)])])) sl3 (fun d => ∃ ds, d = .lst ds ∧ (0 < ds.length ∧ ds.length ≤ 1000) ∧ ∀ x ∈ ds, Wd 21 x) := by
    refine f_op (P := fun d => d = .lst (List.replicate 4 (.str (tS (made p))))) (Q := fun d => ∃ ds, d = .lst ds ∧ ds.length = 1 ∧ ∀ x ∈ ds, Wd 6 x) (f_rn w1 rfl) (f_lst (es := [(.call 17 "_law_word" [(.var 4), (.int 4), (.var 11)])]) (fun e he => ?_) (by decide)) fun x y hx ⟨ds, hy, l1, hp⟩ => ?_
    · rw [List.mem_singleton] at he
      subst he
      exact f_wordV (K := 11) (m := 4) (by decide) (by decide) rfl rfl hg
    · subst hx hy
      refine ⟨.lst (List.replicate 4 (.str (tS (made p))) ++ ds), ⟨_, rfl, ⟨by simp, by simp; omega⟩, fun z hz => ?_⟩, fun st => opD_lst (by rw [List.length_replicate, sizeLine_eq]; omega)⟩
      rcases List.mem_append.mp hz with hz | hz
      · rw [(List.mem_replicate.mp hz).2]
        exact ⟨made p, rfl, mp, made_lt gp.lb⟩
      · obtain ⟨l, e, h1, h2⟩ := hp z hz
        exact ⟨l, e, by omega, h2⟩
  obtain ⟨d, st4, q4, ⟨l, rfl, hl, hlt⟩, ss4, f4⟩ := f_chooseV (i := 4) (K := 12) (by decide) rfl w2 st3 ss3
  have b2 : evS (C 12) (tnB.getD 2 .pass) sl3 st3 = .next (wS S a n s2 s3 s5 s6 s7 (some (.lst (SL p))) (some (.str (tS l))) s10 (some (.str g)) (some (prD pa pb pc))) st4 := by
    show evS (C 12) (.asg (.name 9) (.call 16 "_law_choose" [(.var 4), (.op .Add (.op .Mult (.lst false [(.call 22 "_law_made" [(.var 8)])]) (.int 4)) (.lst false [(.call 17 "_law_word" [(.var 4), (.int 4), (.var 11)])]))])) sl3 st3 = _
    rw [x_asg, q4]
    rfl
  obtain ⟨d, st5, q5, ⟨q, rfl, gq, lq⟩, ss5, f5⟩ := f_stepsV (K := 11) (n := n) (m := 21) (e := .var 9) (sl := wS S a n s2 s3 s5 s6 s7 (some (.lst (SL p))) (some (.str (tS l))) s10 (some (.str g)) (some (prD pa pb pc))) (g := g) (by decide) rfl rfl hg (by decide) (f_rn (r_var rfl) ⟨l, rfl, hl, hlt⟩) st4 ss4
  have b3 : evS (C 12) (tnB.getD 3 .pass) (wS S a n s2 s3 s5 s6 s7 (some (.lst (SL p))) (some (.str (tS l))) s10 (some (.str g)) (some (prD pa pb pc))) st4 = .next (wS S a n s2 s3 s5 s6 s7 (some (.lst (SL p))) (some (.str (tS l))) (some (.lst (SL q))) (some (.str g)) (some (prD pa pb pc))) st5 := by
    show evS (C 12) (.asg (.name 10) (.call 20 "_law_steps" [(.var 4), (.var 9), (.var 11)])) _ st4 = _
    rw [x_asg, q5]
    rfl
  let sl5 : Slots := wS S a n s2 s3 s5 s6 s7 (some (.lst (SL p))) (some (.str (tS l))) (some (.lst (SL q))) (some (.str g)) (some (prD pa pb pc))
  have S4 : Sn (C 12) (tnB.getD 4 .pass) sl5 sl5 := no_f (e := .or_ (.not_ (.call 27 "_law_sum_right" [(.var 8), (.var 10), (.var 12)])) (.not_ (.call 27 "_law_sum_right" [(.var 10), (.var 8), (.var 12)])))
    (or_ff (r_not (k := true) (r_call (rs_cons (r_var rfl) (rs_cons (r_var rfl) (rs_cons (r_var rfl) rs_nil))) (f_right (k := 6) (t1 := false) (t2 := false) la lb lc gp gq (by omega) (by omega))) fun _ => rfl) (r_not (k := true) (r_call (rs_cons (r_var rfl) (rs_cons (r_var rfl) (rs_cons (r_var rfl) rs_nil))) (f_right (k := 6) (t1 := false) (t2 := false) la lb lc gq gp (by omega) (by omega))) fun _ => rfl))
  have S5 : Sn (C 12) (tnB.getD 5 .pass) sl5 sl5 := no_f (e := .not_ (.call 27 "_law_sum_right" [(.bi .tuple [(.var 8)]), (.bi .tuple [(.var 10)]), (.var 12)]))
    (r_not (k := true) (r_call (rs_cons (r_tupl (t := false) (r_var rfl)) (rs_cons (r_tupl (t := false) (r_var rfl)) (rs_cons (r_var rfl) rs_nil))) (f_right (k := 6) (t1 := true) (t2 := true) la lb lc gp gq (by omega) (by omega))) fun _ => rfl)
  obtain ⟨x4, q6⟩ := S4 st5
  obtain ⟨x5, q7⟩ := S5 (st5 ++ x4)
  refine ⟨some (.lst (SL p)), some (.str (tS l)), some (.lst (SL q)), some (.str g), some (prD pa pb pc), st5 ++ x4 ++ x5, ?_, SS_app (SS_app ss5)⟩
  show evSs (C 12) [tnB.getD 0 .pass, tnB.getD 1 .pass, tnB.getD 2 .pass, tnB.getD 3 .pass, tnB.getD 4 .pass, tnB.getD 5 .pass] _ st = _
  rw [evSs_cons b0, evSs_cons b1, evSs_cons b2, evSs_cons b3, evSs_cons q6, evSs_cons q7]
  rfl
theorem start_ok {ns : List Int} {a : Nat} {s2 s3 s4 s5 s6 s7 s8 s9 s10 s11 s12 : Option D} {st : Store} (ha : a ≤ 100) (hn : ns.length ≤ 63) (hz : ∀ z ∈ ns, Builtin.Int.intBits z ≤ 1048576) :
    ∃ t2 t3 t4 t5 t6 t7 t8 t9 t10 t11 t12 st', evSs (C 12) (fB lwF) [some (.lst (ns.map .int)), some (.int (a : Int)), s2, s3, s4, s5, s6, s7, s8, s9, s10, s11, s12] st = .next [some (.lst (ns.map .int)), some (.int (a : Int)), t2, t3, t4, t5, t6, t7, t8, t9, t10, t11, t12] st' := by
  obtain ⟨x, y, e, x0, y0, y1⟩ := stream_ok (K := 11) (a := a) (st := st) ha hn hz
  have hs : SS (st ++ [.lst [.int x, .int y]]) st.length := ⟨x, y, by rw [List.getElem?_append_right (Nat.le_refl _), Nat.sub_self]; rfl, x0, y0, y1⟩
  have b0 : evS (C 12) ((fB lwF).getD 0 .pass) [some (.lst (ns.map .int)), some (.int (a : Int)), s2, s3, s4, s5, s6, s7, s8, s9, s10, s11, s12] st = .next (wS (.lst (ns.map .int)) a st.length s2 s3 s5 s6 s7 s8 s9 s10 s11 s12) (st ++ [.lst [.int x, .int y]]) := by
    show evS (C 12) (.asg (.name 4) (.call 14 "_law_stream" [(.var 0), (.var 1)])) _ st = _
    have : evE (C 12) (.call 14 "_law_stream" [(.var 0), (.var 1)]) [some (.lst (ns.map .int)), some (.int (a : Int)), s2, s3, s4, s5, s6, s7, s8, s9, s10, s11, s12] st = .ok (.loc st.length) (st ++ [.lst [.int x, .int y]]) := e
    rw [x_asg, this]
    rfl
  obtain ⟨sl', st', q, ⟨⟨t5, t8, t9, t10, t11, t12, e2⟩, ss⟩⟩ := for_walk (src := none) (f := frF (.name 5) (evSs (C 12) tnB)) (P := fun sl st' => (∃ t5 t8 t9 t10 t11 t12, sl = wS (.lst (ns.map .int)) a st.length s2 s3 t5 s6 s7 t8 t9 t10 t11 t12) ∧ SS st' st.length) (fun _ _ _ => rfl) ((List.range 8).map fun (i : Nat) => D.int (0 + (i : Int))) (wS (.lst (ns.map .int)) a st.length s2 s3 s5 s6 s7 s8 s9 s10 s11 s12) (st ++ [.lst [.int x, .int y]]) (fun d _ sl st1 ⟨⟨t5, t8, t9, t10, t11, t12, e⟩, ss⟩ => by
    subst e
    rw [frF_some (sl' := wS (.lst (ns.map .int)) a st.length s2 s3 (some d) s6 s7 t8 t9 t10 t11 t12) rfl]
    obtain ⟨u8, u9, u10, u11, u12, st2, q, ss2⟩ := turn_ok (S := .lst (ns.map .int)) (a := a) (s2 := s2) (s3 := s3) (s5 := some d) (s6 := s6) (s7 := s7) (s8 := t8) (s9 := t9) (s10 := t10) (s11 := t11) (s12 := t12) ss
    exact ⟨_, st2, q, ⟨_, _, _, _, _, _, rfl⟩, ss2⟩) ⟨⟨_, _, _, _, _, _, rfl⟩, hs⟩
  subst e2
  refine ⟨s2, s3, some (.loc st.length), t5, s6, s7, t8, t9, t10, t11, t12, st', ?_⟩
  have b1 : evS (C 12) ((fB lwF).getD 1 .pass) (wS (.lst (ns.map .int)) a st.length s2 s3 s5 s6 s7 s8 s9 s10 s11 s12) (st ++ [.lst [.int x, .int y]]) = .next (wS (.lst (ns.map .int)) a st.length s2 s3 t5 s6 s7 t8 t9 t10 t11 t12) st' := by
    show evS (C 12) (.for_ (.name 5) (.rng [(.int 8)]) tnB) _ _ = _
    rw [evS_for, evI_rng (z := 8) (by decide) (x_int (b := 8)), Res.then_ok]
    exact q
  exact (evSs_cons b0).trans ((evSs_cons b1).trans rfl)
end K43.F
namespace K43
open PySem PySem.Spec PyProof.Rows L2 TM K43.F
theorem law_val (ns : List Int) (hn : ns.length ≤ 63) (hz : ∀ z ∈ ns, Builtin.Int.intBits z ≤ 1048576) : ∃ st, evCall FT (12 + 1) 28 [.lst (ns.map .int)] [] = .ok (.bl true) st := by
  let z : Nat := max 1 (min 4 ns.length)
  have hz4 : z ≤ 4 := by omega
  obtain ⟨sl', st', q, ⟨s1, s2, s3, s4, s5, s6, s7, s8, s9, s10, s11, s12, e⟩⟩ := for_walk (src := none) (f := frF (.name 1) (evSs (C 12) (fB lwF))) (P := fun sl _ => ∃ s1 s2 s3 s4 s5 s6 s7 s8 s9 s10 s11 s12, sl = [some (.lst (ns.map .int)), s1, s2, s3, s4, s5, s6, s7, s8, s9, s10, s11, s12]) (fun _ _ _ => rfl) ((List.range z).map fun (i : Nat) => D.int (0 + (i : Int))) (slots0 13 [.lst (ns.map .int)]) [] (fun d hd sl st ⟨s1, s2, s3, s4, s5, s6, s7, s8, s9, s10, s11, s12, e⟩ => by
    subst e
    obtain ⟨i, hi, rfl⟩ := List.mem_map.mp hd
    have hi4 : i < z := List.mem_range.mp hi
    rw [show (0 : Int) + (i : Int) = (i : Int) by omega]
    obtain ⟨t2, t3, t4, t5, t6, t7, t8, t9, t10, t11, t12, st', q⟩ := start_ok (a := i) (by omega) hn hz (s2 := s2) (s3 := s3) (s4 := s4) (s5 := s5) (s6 := s6) (s7 := s7) (s8 := s8) (s9 := s9) (s10 := s10) (s11 := s11) (s12 := s12) (st := st)
    refine ⟨[some (.lst (ns.map .int)), some (.int (i : Int)), t2, t3, t4, t5, t6, t7, t8, t9, t10, t11, t12], st', ?_, ⟨some (.int i), t2, t3, t4, t5, t6, t7, t8, t9, t10, t11, t12, rfl⟩⟩
    rw [frF_some (sl' := [some (.lst (ns.map .int)), some (.int (i : Int)), s2, s3, s4, s5, s6, s7, s8, s9, s10, s11, s12]) rfl]
    exact q) ⟨none, none, none, none, none, none, none, none, none, none, none, none, rfl⟩
  subst e
  obtain ⟨ex, ql⟩ := last_ok (k := 6) (.lst (ns.map .int)) s1 s2 s3 s4 s5 s6 s7 s8 s9 s10 s11 s12 st'
  refine ⟨st' ++ ex, ?_⟩
  rw [evCall_at (F := t_law.fd) rfl rfl]
  have hv : evE (C 12) (.bi .max [(.int 1), (.bi .min [(.int 4), (.bi .len [(.var 0)])])]) (slots0 13 [.lst (ns.map .int)]) [] = .ok (.int (z : Int)) [] := by
    show Res.ok (D.int (if (if (((ns.map D.int).length : Nat) : Int) < 4 then (((ns.map D.int).length : Nat) : Int) else 4) > 1 then (if (((ns.map D.int).length : Nat) : Int) < 4 then (((ns.map D.int).length : Nat) : Int) else 4) else 1)) ([] : Store) = _
    rw [List.length_map]
    congr 2
    show _ = ((max 1 (min 4 ns.length) : Nat) : Int)
    split <;> split <;> omega
  have q0 : evS (C 12) lwF (slots0 13 [.lst (ns.map .int)]) [] = .next [some (.lst (ns.map .int)), s1, s2, s3, s4, s5, s6, s7, s8, s9, s10, s11, s12] st' := by
    show evS (C 12) (.for_ (.name 1) (.rng [(.bi .max [(.int 1), (.bi .min [(.int 4), (.bi .len [(.var 0)])])])]) (fB lwF)) _ [] = _
    rw [evS_for, evI_rng (z := z) (by omega) hv, Res.then_ok]
    exact q
  show endS (evSs (C 12) [lwF, lB 1, lB 2, lB 3, lB 4, lB 5] (slots0 13 [.lst (ns.map .int)]) []) = _
  rw [evSs_cons q0, ql]
  rfl
end K43
theorem PySem.Challenge.cw_soonknown_k43_sums_of_scripts_holds : PySem.Challenge.rw_soonknown_k43_sums_of_scripts.Holds := by
  exact k43_end fun ns h1 h2 => K43.law_val ns h1 h2
