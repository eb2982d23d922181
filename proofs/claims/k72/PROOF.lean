import PyProof.Rows.All
import Wide.All
import OpenK.AllK
import Wide.FinOn
import HandS.ForMost
import KE.KDictKeyed
import HandS.Flow
import HandS.Wide
import HandS.IsInst
import HandS.Conv
import HandS.TupAny
import HandS.TupMul
import KE.DataMinMax
import KE.KDictPairs
import HandS.HeadHook1
import HandS.SortKw
import HandS.Style
import KE.GoesEnum
import KE.GoesMore
import HandS.NoneIn
import HandS.Defaults
import HandS.CallLocal
import HandS.Ends
import HandS.HeadHook2
import KE.KStateDown
import Lean
import HandS.Base
import HandS.Call
import HandS.More
import HandS.Words
import HandS.WordsExc
import HandS.Head0
import HandS.Head1
import HandS.Head2
import HandS.HeadEnd
import PySem.Challenge.RW_tosslanes_k72_whole_towers_and_trees
set_option Elab.async false
set_option linter.all false
set_option maxRecDepth 100000
section
/-! Mi1: a small language of values: data, stores, syntax with its text in the model's own syntax, and what it is worth. -/
noncomputable section
namespace Mi
open PySem L2

/-! ### data -/
inductive D where
  | non | bl (b : Bool) | int (i : Int) | str (x : Str)
  | tup (ds : List D)
  /-- the script: a list that is read alone -/
  | ro (ds : List D)
  | fn (x : Str)
  /-- an object of the store -/
  | loc (n : Nat)
  deriving Inhabited

inductive MO where
  | lst (ds : List D)
  | dic (kvs : List (Key × D))
  | dit (kvs : List (NestedKey × D))
  deriving Inhabited

abbrev StD := List (Option D)
abbrev Store := List MO
abbrev Orc := Nat → List D → Store → Option (D × Store)

mutual
def D.beq : D → D → Bool
  | .non, .non => true
  | .bl a, .bl b => a == b
  | .int a, .int b => a == b
  | .str a, .str b => a == b
  | .tup a, .tup b => D.beqL a b
  | .ro a, .ro b => D.beqL a b
  | .fn a, .fn b => a == b
  | .loc a, .loc b => a == b
  | _, _ => false
def D.beqL : List D → List D → Bool
  | [], [] => true
  | a :: r, b :: q => D.beq a b && D.beqL r q
  | _, _ => false
end
mutual
theorem D.beq_eq : ∀ {a b : D}, D.beq a b = true → a = b
  | .non, b, h => by cases b <;> simp [D.beq] at h ⊢
  | .bl x, b, h => by cases b <;> simp [D.beq] at h ⊢; exact h
  | .int x, b, h => by cases b <;> simp [D.beq] at h ⊢; exact h
  | .str x, b, h => by cases b <;> simp [D.beq] at h ⊢; exact h
  | .tup x, b, h => by cases b <;> simp [D.beq] at h ⊢; exact D.beqL_eq h
  | .ro x, b, h => by cases b <;> simp [D.beq] at h ⊢; exact D.beqL_eq h
  | .fn x, b, h => by cases b <;> simp [D.beq] at h ⊢; exact h
  | .loc x, b, h => by cases b <;> simp [D.beq] at h ⊢; exact h
theorem D.beqL_eq : ∀ {a b : List D}, D.beqL a b = true → a = b
  | [], b, h => by cases b <;> simp [D.beqL] at h ⊢
  | x :: r, b, h => by
    cases b with
    | nil => simp [D.beqL] at h
    | cons y q =>
      simp only [D.beqL, Bool.and_eq_true] at h
      rw [D.beq_eq h.1, D.beqL_eq h.2]
end
mutual
@[simp] theorem D.beq_self : ∀ a : D, D.beq a a = true
  | .non => rfl
  | .bl x => by simp [D.beq]
  | .int x => by simp [D.beq]
  | .str x => by simp [D.beq]
  | .tup x => by simp only [D.beq]; exact D.beqL_self x
  | .ro x => by simp only [D.beq]; exact D.beqL_self x
  | .fn x => by simp [D.beq]
  | .loc x => by simp [D.beq]
@[simp] theorem D.beqL_self : ∀ a : List D, D.beqL a a = true
  | [] => rfl
  | x :: r => by simp only [D.beqL, Bool.and_eq_true]; exact ⟨D.beq_self x, D.beqL_self r⟩
end
def kvBeq {κ : Type} [DecidableEq κ] : List (κ × D) → List (κ × D) → Bool
  | [], [] => true
  | (k, a) :: r, (l, b) :: q => decide (k = l) && D.beq a b && kvBeq r q
  | _, _ => false
theorem kvBeq_eq {κ : Type} [DecidableEq κ] : ∀ {a b : List (κ × D)}, kvBeq a b = true → a = b
  | [], b, h => by cases b <;> simp [kvBeq] at h ⊢
  | (k, x) :: r, b, h => by
    cases b with
    | nil => simp [kvBeq] at h
    | cons y q =>
      obtain ⟨l, y⟩ := y
      simp only [kvBeq, Bool.and_eq_true, decide_eq_true_eq] at h
      rw [h.1.1, D.beq_eq h.1.2, kvBeq_eq h.2]
@[simp] theorem kvBeq_self {κ : Type} [DecidableEq κ] : ∀ a : List (κ × D), kvBeq a a = true
  | [] => rfl
  | (k, x) :: r => by simp [kvBeq, kvBeq_self r]
def MO.beq : MO → MO → Bool
  | .lst a, .lst b => D.beqL a b
  | .dic a, .dic b => kvBeq a b
  | .dit a, .dit b => kvBeq a b
  | _, _ => false
theorem MO.beq_eq {a b : MO} (h : MO.beq a b = true) : a = b := by
  cases a <;> cases b <;> simp only [MO.beq] at h <;> first | (rw [D.beqL_eq h]) | (rw [kvBeq_eq h]) | cases h
@[simp] theorem MO.beq_self (a : MO) : MO.beq a a = true := by cases a <;> simp [MO.beq]

/-! no object of the store within -/
mutual
def D.pure : D → Bool
  | .tup a => D.pureL a
  | .ro a => D.pureL a
  | .loc _ => false
  | _ => true
def D.pureL : List D → Bool
  | [] => true
  | a :: r => D.pure a && D.pureL r
end
def MO.pure : MO → Bool
  | .lst a => D.pureL a
  | .dic a => D.pureL (a.map (·.2))
  | .dit a => D.pureL (a.map (·.2))
/-- what stood ahead is as it was, or holds nothing new -/
def keepsOld : Store → Store → Bool
  | [], _ => true
  | _ :: _, [] => false
  | a :: r, b :: q => (MO.beq a b || MO.pure b) && keepsOld r q
/-- what is not used any more is let go: S the store ahead -/
def gc (S : Store) (d : D) (S' : Store) : D × Store :=
  if keepsOld S S' then
    if D.pure d then (d, S'.take S.length)
    else match d with
      | .loc m => if m < S.length then (d, S'.take S.length) else match S'[m]? with
        | some mo => if MO.pure mo then (.loc S.length, S'.take S.length ++ [mo]) else (d, S')
        | none => (d, S')
      | _ => (d, S')
  else (d, S')
def gcO (S : Store) : Option (D × Store) → Option (D × Store)
  | some (d, S') => some (gc S d S')
  | none => none

/-! ### as Python's data -/
def mapO {α β : Type} (f : α → Option β) : List α → Option (List β)
  | [] => some []
  | a :: r => match f a with
    | some b => match mapO f r with
      | some bs => some (b :: bs)
      | none => none
    | none => none
def toPy (S : Store) : Nat → D → Option PyData
  | _, .non => some .none
  | _, .bl b => some (.bool b)
  | _, .int i => some (.int i)
  | _, .str x => if PyData.strOk x then some (.str x) else none
  | n + 1, .tup ds => (mapO (toPy S n) ds).map .tuple
  | n + 1, .ro ds => (mapO (toPy S n) ds).map .list
  | n + 1, .loc m => match S[m]? with
    | some (.lst ds) => (mapO (toPy S n) ds).map .list
    | _ => none
  | 0, .tup _ => none
  | 0, .ro _ => none
  | _, .fn _ => none
  | 0, .loc _ => none
def eqD (S : Store) (d e : D) : Option Bool :=
  match toPy S 120 d, toPy S 120 e with
  | some a, some b => some (PyData.eqv a b)
  | _, _ => none

/-! ### operations on values -/
def getG {κ : Type} [DecidableEq κ] (kvs : List (κ × D)) (k : κ) : Option D := (kvs.find? fun kv => decide (kv.1 = k)).map (·.2)
def putG {κ : Type} [DecidableEq κ] (kvs : List (κ × D)) (k : κ) (v : D) : List (κ × D) :=
  if (kvs.any fun kv => decide (kv.1 = k)) = true then kvs.map (fun kv => if kv.1 = k then (kv.1, v) else kv) else kvs ++ [(k, v)]
def keyOf : D → Option Key
  | .int i => some (.inl i)
  | .str x => some (.inr x)
  | _ => none
/-- tuples of Nones and ints, as keys -/
def leafK : D → Option NestedKey
  | .non => some .none
  | .int i => some (.num i)
  | _ => none
def keyT (ks : List D) : Option NestedKey := (mapO leafK ks).map .tup
def seqOf (S : Store) : D → Option (List D)
  | .tup ds => some ds
  | .ro ds => some ds
  | .loc m => match S[m]? with
    | some (.lst ds) => some ds
    | _ => none
  | _ => none
/-- may be walked as long as it stays as it is -/
def stays (d : D) (ds : List D) (S : Store) : Bool :=
  match d with
  | .loc m => match S[m]? with
    | some (.lst es) => D.beqL es ds
    | _ => false
  | _ => true
def truthD (S : Store) : D → Option Bool
  | .non => some false
  | .bl b => some b
  | .int i => some (i != 0)
  | .str x => if x.length ≤ sizeLine then some ((x.length : Int) != 0) else none
  | .tup ds => some (!ds.isEmpty)
  | .ro ds => some (!ds.isEmpty)
  | .fn _ => none
  | .loc m => match S[m]? with
    | some (.lst ds) => some (!ds.isEmpty)
    | some (.dic kvs) => some (!kvs.isEmpty)
    | _ => none
def cut {α : Type} (xs : List α) (lo hi : Option Int) : List α := (xs.drop (HT.sIx xs.length 0 lo)).take (HT.sIx xs.length xs.length hi - HT.sIx xs.length 0 lo)

def opD (o : Operator) (a b : D) (S : Store) : Option (D × Store) :=
  match o, a, b with
  | .Add, .int i, .int j => some (.int (i + j), S)
  | .Add, .str x, .str y => if x.length + y.length ≤ sizeLine then some (.str (x ++ y), S) else none
  | .Add, .tup x, .tup y => if x.length + y.length ≤ sizeLine then some (.tup (x ++ y), S) else none
  | .Add, .loc m, .loc n => match S[m]?, S[n]? with
    | some (.lst x), some (.lst y) => if x.length + y.length ≤ sizeLine then some (.loc S.length, S ++ [.lst (x ++ y)]) else none
    | _, _ => none
  | .Add, .ro x, .loc n => match S[n]? with
    | some (.lst y) => if x.length + y.length ≤ sizeLine then some (.loc S.length, S ++ [.lst (x ++ y)]) else none
    | _ => none
  | .Sub, .int i, .int j => some (.int (i - j), S)
  | .Mult, .int i, .int j => if i.natAbs < 2 ^ 64 ∨ j.natAbs < 2 ^ 64 ∨ i.natAbs.log2 + j.natAbs.log2 < 1000000 then some (.int (i * j), S) else none
  | .Mult, .loc m, .int k => match S[m]? with
    | some (.lst x) => @ite _ (-(2 ^ 63) ≤ k ∧ k < 2 ^ 63 ∧ x.length * k.toNat ≤ sizeLine) (Classical.propDecidable _) (some (.loc S.length, S ++ [.lst (List.replicate k.toNat x).flatten])) none
    | _ => none
  | .FloorDiv, .int i, .int j => if 0 < j ∧ j.natAbs.log2 < 9000 then some (.int (i / j), S) else none
  | .Mod, .int i, .int j => if 0 < j then some (.int (i % j), S) else none
  | .Pow, .int i, .int j => @ite _ (0 ≤ j ∧ j ≤ 1000000 ∧ i.natAbs < 2 ^ 64) (Classical.propDecidable _) (some (.int (i ^ j.toNat), S)) none
  | _, _, _ => none
def lexLt : List Nat → List Nat → Bool
  | [], [] => false
  | [], _ :: _ => true
  | _ :: _, [] => false
  | a :: r, b :: q => if a < b then true else if b < a then false else lexLt r q
def flatPy : D → Option PyData
  | .non => some .none
  | .bl b => some (.bool b)
  | .int i => some (.int i)
  | .str x => some (.str x)
  | _ => none
def inSeq (a : D) (ds : List D) : Option Bool :=
  match flatPy a, mapO flatPy ds with
  | some x, some ys => some (ys.any fun y => PyData.eqv y x)
  | _, _ => none
def inD (a b : D) (S : Store) : Option Bool :=
  match b with
  | .loc m => match S[m]? with
    | some (.dic kvs) => (keyOf a).map fun k => (getG kvs k).isSome
    | some (.dit kvs) => match a with
      | .tup ks => (keyT ks).map fun k => (getG kvs k).isSome
      | _ => none
    | some (.lst ds) => inSeq a ds
    | _ => none
  | .tup ds => inSeq a ds
  | .ro ds => inSeq a ds
  | _ => none
def cmpD (o : CmpOp) (a b : D) (S : Store) : Option Bool :=
  match o with
  | .Eq => eqD S a b
  | .NotEq => (eqD S a b).map (!·)
  | .Lt => match a, b with
    | .int i, .int j => some (decide (i < j))
    | _, _ => none
  | .LtE => match a, b with
    | .int i, .int j => some (decide (i ≤ j))
    | _, _ => none
  | .Gt => match a, b with
    | .int i, .int j => some (decide (j < i))
    | _, _ => none
  | .GtE => match a, b with
    | .int i, .int j => some (decide (j ≤ i))
    | _, _ => none
  | .Is => match a, b with
    | .non, .non => some true
    | .bl x, .bl y => some (decide (x = y))
    | _, .non => some false
    | _, _ => none
  | .IsNot => match a, b with
    | .non, .non => some false
    | .bl x, .bl y => some (!decide (x = y))
    | _, .non => some true
    | _, _ => none
  | .In => inD a b S
  | .NotIn => (inD a b S).map (!·)
def ixD (a i : D) (S : Store) : Option D :=
  match i with
  | .int k => match a with
    | .loc m => match S[m]? with
      | some (.lst ds) => atI ds k
      | some (.dic kvs) => getG kvs (.inl k)
      | _ => none
    | .tup ds => atI ds k
    | .ro ds => atI ds k
    | _ => none
  | .str x => match a with
    | .loc m => match S[m]? with
      | some (.dic kvs) => getG kvs (.inr x)
      | _ => none
    | _ => none
  | .tup ks => match a with
    | .loc m => match S[m]? with
      | some (.dit kvs) => match keyT ks with
        | some k => getG kvs k
        | none => none
      | _ => none
    | _ => none
  | _ => none
def slD (a : D) (lo hi : Option Int) (S : Store) : Option (D × Store) :=
  match a with
  | .tup ds => some (.tup (cut ds lo hi), S)
  | .ro ds => some (.loc S.length, S ++ [.lst (cut ds lo hi)])
  | .loc m => match S[m]? with
    | some (.lst ds) => some (.loc S.length, S ++ [.lst (cut ds lo hi)])
    | _ => none
  | _ => none
def setD (a i v : D) (S : Store) : Option Store :=
  match a, i with
  | .loc m, .int k => match S[m]? with
    | some (.lst ds) => match ixN ds.length k with
      | some j => some (S.set m (.lst (ds.set j v)))
      | none => none
    | some (.dic kvs) => if kvs.length < sizeLine then some (S.set m (.dic (putG kvs (.inl k) v))) else none
    | _ => none
  | .loc m, .str x => match S[m]? with
    | some (.dic kvs) => if kvs.length < sizeLine then some (S.set m (.dic (putG kvs (.inr x) v))) else none
    | _ => none
  | .loc m, .tup ks => match keyT ks with
    | some k => match S[m]? with
      | some (.dic []) => some (S.set m (.dit [(k, v)]))
      | some (.dit kvs) => if kvs.length < sizeLine then some (S.set m (.dit (putG kvs k v))) else none
      | _ => none
    | none => none
  | _, _ => none

/-! ### built-in names -/
inductive Ty where
  | int | bool | str | list | tuple | dict
  deriving DecidableEq
def Ty.name : Ty → String
  | .int => "int" | .bool => "bool" | .str => "str" | .list => "list" | .tuple => "tuple" | .dict => "dict"
def tyD (S : Store) : D → Option String
  | .non => some "NoneType"
  | .bl _ => some "bool"
  | .int _ => some "int"
  | .str _ => some "str"
  | .tup _ => some "tuple"
  | .ro _ => some "list"
  | .fn _ => none
  | .loc m => match S[m]? with
    | some (.lst _) => some "list"
    | some (.dic _) => some "dict"
    | some (.dit _) => none
    | none => none
def isaD (n : String) (t : Ty) : Bool := n == t.name || (n == "bool" && t.name == "int")
inductive Bi where
  | len | int | tuple | list | min | max | abs | dict | sum | any | all
  deriving DecidableEq
def Bi.name : Bi → String
  | .len => "len" | .int => "int" | .tuple => "tuple" | .list => "list" | .min => "min" | .max => "max" | .abs => "abs" | .dict => "dict" | .sum => "sum" | .any => "any" | .all => "all"
def pairKV (S : Store) (d : D) : Option (Key × D) :=
  match seqOf S d with
  | some [k, v] => (keyOf k).map fun k => (k, v)
  | _ => none
def intsOf : List D → Option (List Int)
  | [] => some []
  | .int i :: r => (intsOf r).map (i :: ·)
  | _ => none
def boolsOf : List D → Option (List Bool)
  | [] => some []
  | .bl i :: r => (boolsOf r).map (i :: ·)
  | _ => none
def greatest (i : Int) (r : List Int) : Int := r.foldl max i
def least (i : Int) (r : List Int) : Int := r.foldl min i
/-- the items of a list (no tuple) -/
def lstOf (S : Store) : D → Option (List D)
  | .tup _ => none
  | d => seqOf S d
/-- max(xs), min(xs) -/
def mxlD (gr : Bool) (a : D) (S : Store) : Option (D × Store) :=
  match lstOf S a with
  | some ds => match intsOf ds with
    | some (i :: r) => some (.int (if gr then greatest i r else least i r), S)
    | _ => none
  | none => none
def sumD (a : D) (S : Store) : Option (D × Store) :=
  match lstOf S a with
  | some ds => (intsOf ds).map fun ns => (.int ns.sum, S)
  | none => none
def anyD (a : D) (S : Store) : Option (D × Store) :=
  match lstOf S a with
  | some ds => (boolsOf ds).map fun ns => (.bl (ns.any id), S)
  | none => none
def allD (a : D) (S : Store) : Option (D × Store) :=
  match lstOf S a with
  | some ds => (boolsOf ds).map fun ns => (.bl (ns.all id), S)
  | none => none
def biD (f : Bi) (as : List D) (S : Store) : Option (D × Store) :=
  match f, as with
  | .len, [a] => match a with
    | .str x => if x.length ≤ sizeLine then some (.int x.length, S) else none
    | .loc m => match S[m]? with
      | some (.lst ds) => some (.int ds.length, S)
      | some (.dic kvs) => some (.int kvs.length, S)
      | _ => none
    | _ => (seqOf S a).map fun ds => (.int ds.length, S)
  | .int, [.int i] => some (.int i, S)
  | .int, [.bl b] => some (.int (if b then 1 else 0), S)
  | .tuple, [.tup ds] => some (.tup ds, S)
  | .tuple, [a] => (seqOf S a).map fun ds => (.tup ds, S)
  | .list, [a] => (seqOf S a).map fun ds => (.loc S.length, S ++ [.lst ds])
  | .min, [.int i, .int j] => some (.int (if j < i then j else i), S)
  | .max, [.int i, .int j] => some (.int (if j > i then j else i), S)
  | .abs, [.int i] => some (.int (if i < 0 then -i else i), S)
  | .min, [a] => mxlD false a S
  | .max, [a] => mxlD true a S
  | .sum, [a] => sumD a S
  | .any, [a] => anyD a S
  | .all, [a] => allD a S
  | .dict, [a] => match seqOf S a with
    | some ds => (mapO (pairKV S) ds).map fun kvs => (.loc S.length, S ++ [.dic (kvs.foldl (fun acc p => putG acc p.1 p.2) [])])
    | none => none
  | _, _ => none
/-- max(xs, default=d), min(xs, default=d) -/
def maxD (gr : Bool) (a d : D) (S : Store) : Option D :=
  match seqOf S a with
  | some ds => match intsOf ds with
    | some (i :: r) => some (.int (if gr then greatest i r else least i r))
    | some [] => some d
    | none => none
  | none => none
inductive Mt where
  | append | extend | clear | pop | get | count | index
  deriving DecidableEq
def Mt.name : Mt → String
  | .append => "append" | .extend => "extend" | .clear => "clear" | .pop => "pop" | .get => "get" | .count => "count" | .index => "index"
def cntSeq (a : D) (ds : List D) : Option Nat :=
  match flatPy a, mapO flatPy ds with
  | some x, some ys => some (ys.countP fun y => PyData.eqv y x)
  | _, _ => none
def idxSeq (a : D) (ds : List D) : Option Nat :=
  match flatPy a, mapO flatPy ds with
  | some x, some ys => ys.findIdx? fun y => PyData.eqv y x
  | _, _ => none
def mtD (m : Mt) (o : D) (as : List D) (S : Store) : Option (D × Store) :=
  match o with
  | .loc n => match S[n]? with
    | some (.lst ds) => match m, as with
      | .append, [x] => if ds.length < sizeLine then some (.non, S.set n (.lst (ds ++ [x]))) else none
      | .extend, [x] => match x with
        | .loc k => match S[k]? with
          | some (.lst es) => if ds.length + es.length ≤ sizeLine then some (.non, S.set n (.lst (ds ++ es))) else none
          | _ => none
        | _ => none
      | .clear, [] => some (.non, S.set n (.lst []))
      | .count, [x] => (cntSeq x ds).map fun (n : Nat) => (.int (n : Int), S)
      | .index, [x] => (idxSeq x ds).map fun (n : Nat) => (.int (n : Int), S)
      | .pop, [] => match ds[ds.length - 1]? with
        | some y => some (y, S.set n (.lst ds.dropLast))
        | none => none
      | _, _ => none
    | some (.dic kvs) => match m, as with
      | .get, [.tup ks, d] => match kvs with
        | [] => (keyT ks).map fun _ => (d, S)
        | _ => none
      | .get, [.tup ks] => match kvs with
        | [] => (keyT ks).map fun _ => (.non, S)
        | _ => none
      | .get, [k, d] => (keyOf k).map fun k => ((getG kvs k).getD d, S)
      | .get, [k] => (keyOf k).map fun k => ((getG kvs k).getD .non, S)
      | _, _ => none
    | some (.dit kvs) => match m, as with
      | .get, [.tup ks, d] => (keyT ks).map fun k => ((getG kvs k).getD d, S)
      | .get, [.tup ks] => (keyT ks).map fun k => ((getG kvs k).getD .non, S)
      | _, _ => none
    | _ => none
  | _ => none

/-- the object fits the method -/
def recvD (m : Mt) (o : D) (S : Store) : Bool :=
  match o with
  | .loc n => match S[n]? with
    | some (.lst _) => m != .get
    | some (.dic _) => m == .get
    | some (.dit _) => m == .get
    | _ => false
  | _ => false

/-! ### syntax -/
mutual
inductive E where
  | con (c : Const) (k : Nat) (p : Pos)
  | var (i : Nat) (x : Str) (p : Pos)
  | glo (x : Str) (i : Int) (p : Pos)
  | tup (es : Es) (k : Nat) (p : Pos)
  | lst (es : Es) (p : Pos)
  | dct (p : Pos)
  | op (o : Operator) (a b : E) (p : Pos)
  | neg (a : E) (p : Pos)
  | not (a : E) (p : Pos)
  | bop (o : BoolOp) (es : Es) (p : Pos)
  | cmp (o : CmpOp) (a b : E) (p : Pos)
  | chn (o q : CmpOp) (a b c : E) (p : Pos)
  | ifx (c a b : E) (p : Pos)
  | ix (a i : E) (p : Pos)
  | sl (a : E) (lo hi : Eo) (q p : Pos)
  | rev (a : E) (k : Nat) (p1 p2 p3 p : Pos)
  | gtp (x : Str) (ds : List D) (p : Pos)
  | call (f : Str) (n : Nat) (as : Es) (q p : Pos)
  | fnv (x : Str) (p : Pos)
  | callL (i : Nat) (x : Str) (fs : List (Str × Nat)) (as : Es) (q p : Pos)
  | callK (f : Str) (n : Nat) (as : Es) (ks : List Str) (kps : List Pos) (kes : Es) (pm : List Nat) (q p : Pos)
  | bi (f : Bi) (as : Es) (q p : Pos)
  | mxd (gr : Bool) (a d : E) (q kp p : Pos)
  | isi (a : E) (t : Ty) (q tp p : Pos)
  | isl (a : E) (k : Nat) (q p1 p2 tp p : Pos)
  | lrg (a b : E) (q2 p2 q p : Pos)
  | lrg1 (a : E) (q2 p2 q p : Pos)
  | mt (o : E) (m : Mt) (as : Es) (q p : Pos)
  | lc (e : E) (g : G) (it : I) (c : Eo) (own : List (Str × Nat)) (sc : Scope) (p : Pos)
inductive Es where
  | nil | cons (e : E) (r : Es)
inductive Eo where
  | none | some (e : E)
inductive I where
  | ex (e : E)
  | rng1 (a : E) (q p : Pos)
  | rng2 (a b : E) (q p : Pos)
  | rng3 (a b c : E) (q p : Pos)
  | enm (e : E) (q p : Pos)
inductive G where
  | nm (i : Nat) (x : Str) (p : Pos)
  | tp (gs : Gs) (k : Nat) (p : Pos)
  | sb (o i : E) (p : Pos)
inductive Gs where
  | nil | cons (g : G) (r : Gs)
end
mutual
inductive T where
  | asg (g : G) (e : E) (p : Pos)
  | aug (i : Nat) (x : Str) (o : Operator) (e : E) (q p : Pos)
  | ex (e : E) (p : Pos)
  | ret (e : E) (p : Pos)
  | retN (p : Pos)
  | iff (c : E) (a b : Ts) (p : Pos)
  | fr (g : G) (it : I) (b : Ts) (p : Pos)
  | whl (c : E) (b : Ts) (p : Pos)
  | brk (p : Pos)
  | cnt (p : Pos)
  | pas (p : Pos)
  /-- what is never come to -/
  | nev (s : Stmt)
inductive Ts where
  | nil | cons (t : T) (r : Ts)
end

/-! ### its text -/
def kwDefault : Str := "default"
mutual
def embE : E → Expr
  | .con c k p => .Constant c k p
  | .var _ x p => .Name x p
  | .glo x _ p => .Name x p
  | .tup es k p => .Tuple (embEs es) k p
  | .lst es p => .List (embEs es) p
  | .dct p => .Dict [] [] p
  | .op o a b p => .BinOp (embE a) o (embE b) p
  | .neg a p => .UnaryOp .USub (embE a) p
  | .not a p => .UnaryOp .Not (embE a) p
  | .bop o es p => .BoolOp o (embEs es) p
  | .cmp o a b p => .Compare (embE a) [o] [embE b] p
  | .chn o q a b c p => .Compare (embE a) [o, q] [embE b, embE c] p
  | .ifx c a b p => .IfExp (embE c) (embE a) (embE b) p
  | .ix a i p => .Subscript (embE a) (embE i) p
  | .sl a lo hi q p => .Subscript (embE a) (.Slice (embEo lo) (embEo hi) none q) p
  | .rev a k p1 p2 p3 p => .Subscript (embE a) (.Slice none none (some (.UnaryOp .USub (.Constant (.int 1) k p1) p2)) p3) p
  | .gtp x _ p => .Name x p
  | .call f _ as q p => .Call (.Name f q) (embEs as) [] p
  | .fnv x p => .Name x p
  | .callL _ x _ as q p => .Call (.Name x q) (embEs as) [] p
  | .callK f _ as ks kps kes _ q p => .Call (.Name f q) (embEs as) (embKs ks kps kes) p
  | .bi f as q p => .Call (.Name (Str.ofString f.name) q) (embEs as) [] p
  | .mxd gr a d q kp p => .Call (.Name (Str.ofString (if gr then "max" else "min")) q) [embE a] [⟨some kwDefault, embE d, kp⟩] p
  | .isi a t q tp p => .Call (.Name "isinstance" q) [embE a, .Name (Str.ofString t.name) tp] [] p
  | .isl a k q p1 p2 tp p => .Call (.Name "isinstance" q) [embE a, .Tuple [.Name "list" p1, .Name "tuple" p2] k tp] [] p
  | .lrg a b q2 p2 q p => .Call (.Name "list" q) [.Call (.Name "range" q2) [embE a, embE b] [] p2] [] p
  | .lrg1 a q2 p2 q p => .Call (.Name "list" q) [.Call (.Name "range" q2) [embE a] [] p2] [] p
  | .mt o m as q p => .Call (.Attribute (embE o) (Str.ofString m.name) q) (embEs as) [] p
  | .lc e g it c _ sc p => .ListComp (embE e) [⟨embG g, embI it, embIf c, 0⟩] sc p
def embEs : Es → List Expr
  | .nil => []
  | .cons e r => embE e :: embEs r
def embKs (ks : List Str) (kps : List Pos) : Es → List Keyword
  | .nil => []
  | .cons e r => ⟨some (ks.headD ""), embE e, kps.headD ⟨0, 0, 0, 0⟩⟩ :: embKs ks.tail kps.tail r
def embEo : Eo → Option Expr
  | .none => none
  | .some e => some (embE e)
def embIf : Eo → List Expr
  | .none => []
  | .some e => [embE e]
def embI : I → Expr
  | .ex e => embE e
  | .rng1 a q p => .Call (.Name "range" q) [embE a] [] p
  | .rng2 a b q p => .Call (.Name "range" q) [embE a, embE b] [] p
  | .rng3 a b c q p => .Call (.Name "range" q) [embE a, embE b, embE c] [] p
  | .enm e q p => .Call (.Name "enumerate" q) [embE e] [] p
def embG : G → Expr
  | .nm _ x p => .Name x p
  | .tp gs k p => .Tuple (embGs gs) k p
  | .sb o i p => .Subscript (embE o) (embE i) p
def embGs : Gs → List Expr
  | .nil => []
  | .cons g r => embG g :: embGs r
end
mutual
def embT : T → Stmt
  | .asg g e p => .Assign [embG g] (embE e) p
  | .aug _ x o e q p => .AugAssign (.Name x q) o (embE e) p
  | .ex e p => .Expr (embE e) p
  | .ret e p => .Return (some (embE e)) p
  | .retN p => .Return none p
  | .iff c a b p => .If (embE c) (embTs a) (embTs b) p
  | .fr g it b p => .For (embG g) (embI it) (embTs b) [] p
  | .whl c b p => .While (embE c) (embTs b) [] p
  | .brk p => .Break p
  | .cnt p => .Continue p
  | .pas p => .Pass p
  | .nev s => s
def embTs : Ts → List Stmt
  | .nil => []
  | .cons t r => embT t :: embTs r
end

/-! ### whether it is well said -/
/-- the arguments in the parameters' order -/
def pick {α : Type} (pm : List Nat) (vs : List α) : List α := pm.filterMap fun i => vs[i]?
structure Tab where
  cal : Str → Nat → Nat → Bool
  kal : Str → Nat → Nat → List Str → List Nat → Bool
  fnv : Str → Bool
  glo : Str → Option Int
  tup : Str → Option (List D)
def visB (sc : Scope) (x : Str) : Bool := match sc.names.lookup x with | some .local => true | some .cell => true | some .free => true | _ => false
def locB (sc : Scope) (fn : Str → Bool) (x : Str) : Bool := match sc.names.lookup x with | some .local => true | some .cell => fn x | _ => false
def glB (sc : Scope) (x : Str) : Bool := (match sc.names.lookup x with | some .globalImplicit => true | _ => false) && !(x == ("__debug__" : Str))
def relab (sc scope : Scope) : Scope := { scope with names := scope.names.map fun (n, k) => if (k == .free && sc.kind == .function && sc.names.lookup n == some .cell) then (n, .cell) else (n, k) }
def Es.len : Es → Nat
  | .nil => 0
  | .cons _ r => r.len + 1
def Gs.len : Gs → Nat
  | .nil => 0
  | .cons _ r => r.len + 1
def isTp : G → Bool
  | .tp .. => true
  | _ => false
mutual
def slots : G → List Nat
  | .nm i _ _ => [i]
  | .tp gs _ _ => slotsL gs
  | .sb _ _ _ => []
def slotsL : Gs → List Nat
  | .nil => []
  | .cons g r => slots g ++ slotsL r
end
/-- no call without arguments -/
def noCall0 : E → Bool
  | .call _ _ .nil _ _ => false
  | .bi _ .nil _ _ => false
  | .callK .. => false
  | .callL .. => false
  | _ => true
mutual
def wfE (Γ : Tab) (N : List Str) : Scope → (Str → Bool) → E → Bool
  | _, _, .con .. => true
  | sc, _, .var i x _ => decide (N[i]? = some x) && visB sc x && !(x == ("__debug__" : Str)) && !(x == ("__classdict__" : Str))
  | sc, _, .glo x i _ => glB sc x && decide (Γ.glo x = some i)
  | sc, fn, .tup es _ _ => wfEs Γ N sc fn es
  | sc, fn, .lst es _ => wfEs Γ N sc fn es
  | _, _, .dct _ => true
  | sc, fn, .op _ a b _ => wfE Γ N sc fn a && wfE Γ N sc fn b
  | sc, fn, .neg a _ => wfE Γ N sc fn a
  | sc, fn, .not a _ => wfE Γ N sc fn a
  | sc, fn, .bop _ es _ => wfEs Γ N sc fn es && decide (0 < es.len)
  | sc, fn, .cmp _ a b _ => wfE Γ N sc fn a && wfE Γ N sc fn b
  | sc, fn, .chn _ _ a b c _ => wfE Γ N sc fn a && wfE Γ N sc fn b && wfE Γ N sc fn c
  | sc, fn, .ifx c a b _ => wfE Γ N sc fn c && wfE Γ N sc fn a && wfE Γ N sc fn b
  | sc, fn, .ix a i _ => wfE Γ N sc fn a && wfE Γ N sc fn i
  | sc, fn, .sl a lo hi _ _ => wfE Γ N sc fn a && wfEo Γ N sc fn lo && wfEo Γ N sc fn hi
  | sc, fn, .rev a _ _ _ _ _ => wfE Γ N sc fn a
  | sc, _, .gtp x ds _ => glB sc x && (match Γ.tup x with | some es => D.beqL es ds | none => false)
  | sc, fn, .call f n as _ _ => glB sc f && Γ.cal f n as.len && wfEs Γ N sc fn as
  | sc, _, .fnv x _ => glB sc x && Γ.fnv x
  | sc, fn, .callL i x fs as _ _ => (decide (N[i]? = some x) && visB sc x && !(x == ("__debug__" : Str)) && !(x == ("__classdict__" : Str))) && fs.all (fun p => Γ.fnv p.1 && Γ.cal p.1 p.2 as.len) && wfEs Γ N sc fn as && decide (0 < as.len)
  | sc, fn, .callK f n as ks _ kes pm _ _ => glB sc f && Γ.kal f n as.len ks pm && wfEs Γ N sc fn as && wfEs Γ N sc fn kes && decide (ks.length = kes.len) && decide (0 < as.len)
  | sc, fn, .bi f as _ _ => glB sc (Str.ofString f.name) && wfEs Γ N sc fn as
  | sc, fn, .mxd gr a d _ _ _ => glB sc (Str.ofString (if gr then "max" else "min")) && wfE Γ N sc fn a && wfE Γ N sc fn d
  | sc, fn, .isi a t _ _ _ => glB sc "isinstance" && glB sc (Str.ofString t.name) && wfE Γ N sc fn a
  | sc, fn, .isl a _ _ _ _ _ _ => glB sc "isinstance" && glB sc "list" && glB sc "tuple" && wfE Γ N sc fn a
  | sc, fn, .lrg a b _ _ _ _ => glB sc "list" && glB sc "range" && wfE Γ N sc fn a && wfE Γ N sc fn b
  | sc, fn, .lrg1 a _ _ _ _ => glB sc "list" && glB sc "range" && wfE Γ N sc fn a
  | sc, fn, .mt o _ as q p => noCall0 o && wfE Γ N sc fn o && wfEs Γ N sc fn as && (q.endLine == p.line) && decide (as.len < 20)
  | sc, fn, .lc e g it c own scx _ => wfI Γ N sc fn (isTp g) it && blkC N sc scx own && (slots g).all (fun j => (own.map (·.2)).contains j) &&
      wfG Γ N (relab sc scx) (fun x => scx.names.lookup x == some .cell) g && wfEo Γ N (relab sc scx) (fun x => scx.names.lookup x == some .cell) c && wfE Γ N (relab sc scx) (fun x => scx.names.lookup x == some .cell) e
def wfEs (Γ : Tab) (N : List Str) : Scope → (Str → Bool) → Es → Bool
  | _, _, .nil => true
  | sc, fn, .cons e r => wfE Γ N sc fn e && wfEs Γ N sc fn r
def wfEo (Γ : Tab) (N : List Str) : Scope → (Str → Bool) → Eo → Bool
  | _, _, .none => true
  | sc, fn, .some e => wfE Γ N sc fn e
def wfI (Γ : Tab) (N : List Str) : Scope → (Str → Bool) → Bool → I → Bool
  | sc, fn, _, .ex e => wfE Γ N sc fn e
  | sc, fn, _, .rng1 a _ _ => glB sc "range" && wfE Γ N sc fn a
  | sc, fn, _, .rng2 a b _ _ => glB sc "range" && wfE Γ N sc fn a && wfE Γ N sc fn b
  | sc, fn, _, .rng3 a b c _ _ => glB sc "range" && wfE Γ N sc fn a && wfE Γ N sc fn b && wfE Γ N sc fn c
  | sc, fn, tp, .enm e _ _ => tp && glB sc "enumerate" && wfE Γ N sc fn e
def wfG (Γ : Tab) (N : List Str) : Scope → (Str → Bool) → G → Bool
  | sc, fn, .nm i x _ => decide (N[i]? = some x) && locB sc fn x
  | sc, fn, .tp gs _ _ => wfGs Γ N sc fn gs
  | sc, fn, .sb o i _ => wfE Γ N sc fn o && wfE Γ N sc fn i
def wfGs (Γ : Tab) (N : List Str) : Scope → (Str → Bool) → Gs → Bool
  | _, _, .nil => true
  | sc, fn, .cons g r => wfG Γ N sc fn g && wfGs Γ N sc fn r
end
/-- which stores are exchanged: none: not served -/
def swKind (sc : Scope) (ts vs : List Expr) : Option (Option (List Str)) :=
  match swappedStores [.Tuple ts 0 ⟨0, 0, 0, 0⟩] (.Tuple vs 0 ⟨0, 0, 0, 0⟩) { scope := sc, locals := 0, globals := 0, cells := [] } with
  | .pure r => some r
  | _ => none
def isLocal (sc : Scope) (x : Str) : Bool := match sc.names.lookup x with | some .local => true | _ => false
def asgOk (sc : Scope) : G → E → Bool
  | .tp gs _ _, .tup es _ _ => match swKind sc (embGs gs) (embEs es) with
    | some none => true
    | some (some ns) => match gs with
      | .cons (.nm i x _) (.cons (.nm j y _) .nil) => decide (ns = [x, y]) && isLocal sc x && isLocal sc y && decide (i ≠ j) && decide (es.len = 2)
      | .cons (.nm i x _) (.cons (.nm j y _) (.cons (.nm l z _) .nil)) => decide (ns = [x, y, z]) && isLocal sc x && isLocal sc y && isLocal sc z && decide (i ≠ j) && decide (i ≠ l) && decide (j ≠ l) && decide (es.len = 3)
      | _ => false
    | none => false
  | _, _ => true
def isLc : E → Bool
  | .lc .. => true
  | _ => false
mutual
def wfT (Γ : Tab) (N : List Str) (sc : Scope) : T → Bool
  | .asg g e _ => wfG Γ N sc (fun _ => true) g && wfE Γ N sc (fun _ => true) e && asgOk sc g e
  | .aug i x _ e _ _ => decide (N[i]? = some x) && locB sc (fun _ => true) x && wfE Γ N sc (fun _ => true) e
  | .ex e _ => !isLc e && wfE Γ N sc (fun _ => true) e
  | .ret e _ => wfE Γ N sc (fun _ => true) e
  | .retN _ => true
  | .iff c a b _ => wfE Γ N sc (fun _ => true) c && wfTs Γ N sc a && wfTs Γ N sc b
  | .fr g it b _ => wfI Γ N sc (fun _ => true) (isTp g) it && wfG Γ N sc (fun _ => true) g && wfTs Γ N sc b
  | .whl c b _ => wfE Γ N sc (fun _ => true) c && wfTs Γ N sc b
  | .brk _ => true
  | .cnt _ => true
  | .pas _ => true
  | .nev _ => true
def wfTs (Γ : Tab) (N : List Str) (sc : Scope) : Ts → Bool
  | .nil => true
  | .cons t r => wfT Γ N sc t && wfTs Γ N sc r
end

/-! ### what it is worth -/
def conD : Const → Option D
  | .none => some .non
  | .bool b => some (.bl b)
  | .int i => some (.int i)
  | .str x => some (.str x)
  | _ => none
/-- what a loop walks: the items, what must stay -/
structure Wk where
  items : List D
  ok : Store → Bool
def wipeD (σ : StD) : List Nat → StD
  | [] => σ
  | v :: vs => (wipeD σ vs).set v none
def rangeD (lo : Int) : Nat → List D
  | 0 => []
  | n + 1 => .int lo :: rangeD (lo + 1) n
def rngD (lo hi : Int) : Option Wk :=
  @ite _ (-(2 ^ 62) ≤ lo ∧ lo < 2 ^ 62 ∧ -(2 ^ 62) ≤ hi ∧ hi < 2 ^ 62) (Classical.propDecidable _) (some ⟨rangeD lo (hi - lo).toNat, fun _ => true⟩) none
/-- a range by steps -/
def stepD (lo c : Int) : Nat → List D
  | 0 => []
  | n + 1 => .int lo :: stepD (lo + c) c n
def rng3D (lo hi c : Int) : Option Wk :=
  @ite _ (c = -1 ∧ -(2 ^ 62) ≤ lo ∧ lo < 2 ^ 62 ∧ -(2 ^ 62) ≤ hi ∧ hi < 2 ^ 62) (Classical.propDecidable _) (some ⟨stepD lo (-1) (lo - hi).toNat, fun _ => true⟩) none
def revD (a : D) (S : Store) : Option (D × Store) :=
  match lstOf S a with
  | some ds => some (.loc S.length, S ++ [.lst ds.reverse])
  | none => none
def enumD (i : Int) : List D → List D
  | [] => []
  | d :: r => .tup [.int i, d] :: enumD (i + 1) r
/-- one turn after the other of a comprehension -/
def lcD (ok : Store → Bool) (g : D → Store → Option (StD × Store)) (c : StD → Store → Option (Bool × Store)) (e : StD → Store → Option (D × Store)) : List D → List D → Store → Option (List D × Store)
  | [], acc, S => if ok S then some (acc, S) else none
  | x :: r, acc, S => if ok S then
      match g x S with
      | some (σ1, S1) => match c σ1 S1 with
        | some (true, S2) => match e σ1 S2 with
          | some (y, S3) => if acc.length < sizeLine then lcD ok g c e r (acc ++ [y]) S3 else none
          | none => none
        | some (false, S2) => lcD ok g c e r acc S2
        | none => none
      | none => none
    else none
/-- one step after another -/
def bnd {α β : Type} (x : Option (α × Store)) (f : α → Store → Option (β × Store)) : Option (β × Store) :=
  match x with
  | some (a, S) => f a S
  | none => none
@[simp] theorem bnd_some {α β : Type} (a : α) (S : Store) (f : α → Store → Option (β × Store)) : bnd (some (a, S)) f = f a S := rfl
@[simp] theorem bnd_none {α β : Type} (f : α → Store → Option (β × Store)) : bnd none f = none := rfl
def opt {α : Type} (x : Option α) (S : Store) : Option (α × Store) :=
  match x with
  | some a => some (a, S)
  | none => none
@[simp] theorem opt_some {α : Type} (a : α) (S : Store) : opt (some a) S = some (a, S) := rfl
@[simp] theorem opt_none {α : Type} (S : Store) : opt (none : Option α) S = none := rfl
structure Ev where
  e : StD → Store → Option (D × Store)
  b : StD → Store → Option (Bool × Store)
/-- a test is the value's truth -/
def plain (f : StD → Store → Option (D × Store)) : Ev := ⟨f, fun σ S => bnd (f σ S) fun d S1 => opt (truthD S1 d) S1⟩
def negD : D → Store → Option (D × Store)
  | .int i, S => some (.int (-i), S)
  | _, _ => none
def notD : D → Store → Option (D × Store)
  | .bl b, S => some (.bl (!b), S)
  | _, _ => none
/-- a and b, a or b, as values: k goes on -/
def bopD (o : BoolOp) (k : Store → Option (D × Store)) : D → Store → Option (D × Store)
  | .bl true, S => match o with
    | .And => k S
    | .Or => some (.bl true, S)
  | .bl false, S => match o with
    | .And => some (.bl false, S)
    | .Or => k S
  | _, _ => none
def bopB (o : BoolOp) (k : Store → Option (Bool × Store)) : Bool → Store → Option (Bool × Store)
  | true, S => match o with
    | .And => k S
    | .Or => some (true, S)
  | false, S => match o with
    | .And => some (false, S)
    | .Or => k S
def iteD {α : Type} (k l : Store → Option (α × Store)) : Bool → Store → Option (α × Store)
  | true, S => k S
  | false, S => l S
def intD : D → Store → Option (Int × Store)
  | .int i, S => some (i, S)
  | _, _ => none
def tupD : D → Option (List D)
  | .tup ds => some ds
  | _ => none
def slotD (σ : StD) (i : Nat) : Option D :=
  match σ[i]? with
  | some (some d) => some d
  | _ => none
/-- which def a datum is -/
def fnIx (fs : List (Str × Nat)) : D → Option Nat
  | .fn y => fs.lookup y
  | _ => none
mutual
def ev (C : Orc) : E → Ev
  | .con c _ _ => plain fun _ S => opt (conD c) S
  | .var i _ _ => plain fun σ S => opt (slotD σ i) S
  | .glo _ i _ => plain fun _ S => some (.int i, S)
  | .tup es _ _ => plain fun σ S => bnd (evEs C es σ S) fun ds S1 => if ds.length ≤ sizeLine then some (.tup ds, S1) else none
  | .lst es _ => plain fun σ S => bnd (evEs C es σ S) fun ds S1 => if ds.length ≤ sizeLine then some (.loc S1.length, S1 ++ [.lst ds]) else none
  | .dct _ => plain fun _ S => some (.loc S.length, S ++ [.dic []])
  | .op o a b _ => plain fun σ S => bnd ((ev C a).e σ S) fun x S1 => bnd ((ev C b).e σ S1) fun y S2 => opD o x y S2
  | .neg a _ => plain fun σ S => bnd ((ev C a).e σ S) negD
  | .not a _ => ⟨fun σ S => bnd ((ev C a).e σ S) notD, fun σ S => bnd ((ev C a).b σ S) fun b S1 => some (!b, S1)⟩
  | .bop o es _ => ⟨evBop C o es, evBB C o es⟩
  | .cmp o a b _ => ⟨fun σ S => bnd ((ev C a).e σ S) fun x S1 => bnd ((ev C b).e σ S1) fun y S2 => bnd (opt (cmpD o x y S2) S2) fun k S3 => some (gc S (.bl k) S3),
      fun σ S => bnd ((ev C a).e σ S) fun x S1 => bnd ((ev C b).e σ S1) fun y S2 => bnd (opt (cmpD o x y S2) S2) fun k S3 => some (k, (gc S (.bl k) S3).2)⟩
  | .chn o q a b c _ => ⟨fun σ S => bnd ((ev C a).e σ S) fun x S1 => bnd ((ev C b).e σ S1) fun y S2 => bnd (opt (cmpD o x y S2) S2) (iteD (fun S3 => bnd ((ev C c).e σ S3) fun z S4 => opt ((cmpD q y z S4).map .bl) S4) (fun S3 => some (.bl false, S3))),
      fun σ S => bnd ((ev C a).e σ S) fun x S1 => bnd ((ev C b).e σ S1) fun y S2 => bnd (opt (cmpD o x y S2) S2) (iteD (fun S3 => bnd ((ev C c).e σ S3) fun z S4 => opt (cmpD q y z S4) S4) (fun S3 => some (false, S3)))⟩
  | .ifx c a b _ => ⟨fun σ S => bnd ((ev C c).b σ S) (iteD ((ev C a).e σ) ((ev C b).e σ)), fun σ S => bnd ((ev C c).b σ S) (iteD ((ev C a).b σ) ((ev C b).b σ))⟩
  | .ix a i _ => plain fun σ S => bnd ((ev C a).e σ S) fun x S1 => bnd ((ev C i).e σ S1) fun y S2 => bnd (opt (ixD x y S2) S2) fun z S3 => some (gc S z S3)
  | .sl a lo hi _ _ => plain fun σ S => bnd ((ev C a).e σ S) fun x S1 => bnd (evEo C lo σ S1) fun l S2 => bnd (evEo C hi σ S2) fun h S3 => slD x l h S3
  | .rev a _ _ _ _ _ => plain fun σ S => bnd ((ev C a).e σ S) revD
  | .gtp _ ds _ => plain fun _ S => some (.tup ds, S)
  | .call _ n as _ _ => plain fun σ S => bnd (evEs C as σ S) fun ds S1 => bnd (C n ds S1) fun d S2 => some (gc S d S2)
  | .fnv x _ => plain fun _ S => some (.fn x, S)
  | .callL i _ fs as _ _ => plain fun σ S => bnd (opt (slotD σ i) S) fun d S0 => bnd (opt (fnIx fs d) S0) fun n S0 => bnd (evEs C as σ S0) fun ds S1 => bnd (C n ds S1) fun d S2 => some (gc S d S2)
  | .callK _ n as _ _ kes pm _ _ => plain fun σ S => bnd (evEs C as σ S) fun ds S1 => bnd (evEs C kes σ S1) fun zs S2 => bnd (C n (pick pm (ds ++ zs)) S2) fun d S3 => some (gc S d S3)
  | .bi f as _ _ => plain fun σ S => bnd (evEs C as σ S) fun ds S1 => bnd (biD f ds S1) fun d S2 => some (gc S d S2)
  | .mxd gr a d _ _ _ => plain fun σ S => bnd ((ev C a).e σ S) fun x S1 => bnd ((ev C d).e σ S1) fun y S2 => bnd (opt (maxD gr x y S2) S2) fun z S3 => some (gc S z S3)
  | .isi a t _ _ _ => plain fun σ S => bnd ((ev C a).e σ S) fun x S1 => bnd (opt (tyD S1 x) S1) fun n S2 => some (gc S (.bl (isaD n t)) S2)
  | .isl a _ _ _ _ _ _ => plain fun σ S => bnd ((ev C a).e σ S) fun x S1 => bnd (opt (tyD S1 x) S1) fun n S2 => some (gc S (.bl (isaD n .list || isaD n .tuple)) S2)
  | .lrg a b _ _ _ _ => plain fun σ S => bnd (bnd ((ev C a).e σ S) intD) fun i S1 => bnd (bnd ((ev C b).e σ S1) intD) fun j S2 => bnd (opt (rngD i j) S2) fun w S3 =>
      if w.items.length ≤ 2 ^ 24 then some (.loc S3.length, S3 ++ [.lst w.items]) else none
  | .lrg1 a _ _ _ _ => plain fun σ S => bnd (bnd ((ev C a).e σ S) intD) fun i S1 => bnd (opt (rngD 0 i) S1) fun w S3 =>
      if w.items.length ≤ 2 ^ 24 then some (.loc S3.length, S3 ++ [.lst w.items]) else none
  | .mt o m as _ _ => plain fun σ S => bnd ((ev C o).e σ S) fun x S1 => if recvD m x S1 then bnd (evEs C as σ S1) fun ds S2 => bnd (mtD m x ds S2) fun d S3 => some (gc S d S3) else none
  | .lc e g it c own _ _ => plain fun σ S => bnd (evI C it σ S) fun w S1 =>
      bnd (lcD w.ok (fun x T => evG C g x (wipeD σ (own.map (·.2))) T) (evIf C c) ((ev C e).e) w.items [] S1) fun ds S2 => some (.loc S2.length, S2 ++ [.lst ds])
def evBop (C : Orc) (o : BoolOp) : Es → StD → Store → Option (D × Store)
  | .nil, _, _ => none
  | .cons a r, σ, S => match r with
    | .nil => (ev C a).e σ S
    | .cons _ _ => bnd ((ev C a).e σ S) (bopD o fun S1 => evBop C o r σ S1)
def evBB (C : Orc) (o : BoolOp) : Es → StD → Store → Option (Bool × Store)
  | .nil, _, _ => none
  | .cons a r, σ, S => match r with
    | .nil => (ev C a).b σ S
    | .cons _ _ => bnd ((ev C a).b σ S) (bopB o fun S1 => evBB C o r σ S1)
def evEs (C : Orc) : Es → StD → Store → Option (List D × Store)
  | .nil, _, S => some ([], S)
  | .cons e r, σ, S => bnd ((ev C e).e σ S) fun d S1 => bnd (evEs C r σ S1) fun ds S2 => some (d :: ds, S2)
def evEo (C : Orc) : Eo → StD → Store → Option (Option Int × Store)
  | .none, _, S => some (none, S)
  | .some e, σ, S => bnd (bnd ((ev C e).e σ S) intD) fun i S1 => some (some i, S1)
def evIf (C : Orc) : Eo → StD → Store → Option (Bool × Store)
  | .none, _, S => some (true, S)
  | .some e, σ, S => (ev C e).b σ S
def evI (C : Orc) : I → StD → Store → Option (Wk × Store)
  | .ex e, σ, S => bnd ((ev C e).e σ S) fun d S1 => bnd (opt (seqOf S1 d) S1) fun ds S2 => some (⟨ds, stays d ds⟩, S2)
  | .rng1 a _ _, σ, S => bnd (bnd ((ev C a).e σ S) intD) fun i S1 => opt (rngD 0 i) S1
  | .rng2 a b _ _, σ, S => bnd (bnd ((ev C a).e σ S) intD) fun i S1 => bnd (bnd ((ev C b).e σ S1) intD) fun j S2 => opt (rngD i j) S2
  | .rng3 a b c _ _, σ, S => bnd (bnd ((ev C a).e σ S) intD) fun i S1 => bnd (bnd ((ev C b).e σ S1) intD) fun j S2 => bnd (bnd ((ev C c).e σ S2) intD) fun k S3 => opt (rng3D i j k) S3
  | .enm e _ _, σ, S => bnd ((ev C e).e σ S) fun d S1 => bnd (opt (seqOf S1 d) S1) fun ds S2 => some (⟨enumD 0 ds, stays d ds⟩, S2)
def evG (C : Orc) : G → D → StD → Store → Option (StD × Store)
  | .nm i _ _, v, σ, S => some (σ.set i (some v), S)
  | .tp gs _ _, v, σ, S => bnd (opt (seqOf S v) S) fun ds S1 => evGs C gs ds σ S1
  | .sb o i _, v, σ, S => bnd ((ev C o).e σ S) fun x S1 => bnd ((ev C i).e σ S1) fun y S2 => match setD x y v S2 with
    | some S3 => some (σ, S3)
    | none => none
def evGs (C : Orc) : Gs → List D → StD → Store → Option (StD × Store)
  | .nil, vs, σ, S => match vs with
    | [] => some (σ, S)
    | _ => none
  | .cons g r, vs, σ, S => match vs with
    | v :: ws => bnd (evG C g v σ S) fun σ1 S1 => evGs C r ws σ1 S1
    | [] => none
end
inductive Fl where
  | next (σ : StD) | brk (σ : StD) | cnt (σ : StD) | ret (d : D)
def forD (ok : Store → Bool) (g : D → StD → Store → Option (StD × Store)) (b : StD → Store → Option (Fl × Store)) : List D → StD → Store → Option (Fl × Store)
  | [], σ, S => if ok S then some (.next σ, S) else none
  | x :: r, σ, S => if ok S then
      match g x σ S with
      | some (σ1, S1) => match b σ1 S1 with
        | some (.next σ2, S2) => forD ok g b r σ2 S2
        | some (.cnt σ2, S2) => forD ok g b r σ2 S2
        | some (.brk σ2, S2) => some (.next σ2, S2)
        | some (.ret d, S2) => some (.ret d, S2)
        | none => none
      | none => none
    else none
def whlD (c : StD → Store → Option (Bool × Store)) (b : StD → Store → Option (Fl × Store)) : Nat → StD → Store → Option (Fl × Store)
  | 0, _, _ => none
  | n + 1, σ, S => match c σ S with
    | some (true, S1) => match b σ S1 with
      | some (.next σ2, S2) => whlD c b n σ2 S2
      | some (.cnt σ2, S2) => whlD c b n σ2 S2
      | some (.brk σ2, S2) => some (.next σ2, S2)
      | some (.ret d, S2) => some (.ret d, S2)
      | none => none
    | some (false, S1) => some (.next σ, S1)
    | none => none
/-- how many turns a while may take -/
def turns : Nat := 2 ^ 40
def augD (o : Operator) : D → D → Option D
  | .int a, .int b => match o with
    | .Add => some (.int (a + b))
    | .Sub => some (.int (a - b))
    | _ => none
  | _, _ => none
mutual
def evT (C : Orc) : T → StD → Store → Option (Fl × Store)
  | .asg g e _, σ, S => bnd ((ev C e).e σ S) fun d S1 => bnd (evG C g d σ S1) fun σ1 S2 => some (.next σ1, S2)
  | .aug i _ o e _ _, σ, S => bnd (opt (slotD σ i) S) fun x S1 => bnd ((ev C e).e σ S1) fun y S2 => bnd (opt (augD o x y) S2) fun z S3 => some (.next (σ.set i (some z)), S3)
  | .ex e _, σ, S => bnd ((ev C e).e σ S) fun _ S1 => some (.next σ, (gc S .non S1).2)
  | .ret e _, σ, S => bnd ((ev C e).e σ S) fun d S1 => some (.ret d, S1)
  | .retN _, _, S => some (.ret .non, S)
  | .iff c a b _, σ, S => bnd ((ev C c).b σ S) (iteD (evTs C a σ) (evTs C b σ))
  | .fr g it b _, σ, S => bnd (evI C it σ S) fun w S1 => forD w.ok (evG C g) (evTs C b) w.items σ S1
  | .whl c b _, σ, S => whlD ((ev C c).b) (evTs C b) turns σ S
  | .brk _, σ, S => some (.brk σ, S)
  | .cnt _, σ, S => some (.cnt σ, S)
  | .pas _, σ, S => some (.next σ, S)
  | .nev _, _, _ => none
def evTs (C : Orc) : Ts → StD → Store → Option (Fl × Store)
  | .nil, σ, S => some (.next σ, S)
  | .cons t r, σ, S => bnd (evT C t σ S) fun f S1 => match f with
    | .next σ1 => evTs C r σ1 S1
    | .brk σ1 => some (.brk σ1, S1)
    | .cnt σ1 => some (.cnt σ1, S1)
    | .ret d => some (.ret d, S1)
end
end Mi
end

end

section
/-! MiT: tuples that are laid and known to the object. -/
namespace Mi
open PySem PySem.Spec L2
/-- a tuple that is known to the object, and has no dict of its own -/
def TupAt (K : PySem.W.Frag) (H : Hp) (a : Addr) (vs : List V) : Prop := (∃ o, H a = some (.frz o (.tup vs)) ∧ o.dict = none) ∨
  ∃ (o : Obj) (its : Array Value) (n : Nat), K.lookup a = some o ∧ o.cls = .type "tuple" ∧ o.dict = none ∧ o.data = .seq its n ∧ its.size ≤ sizeLine ∧ Vals vs its.toList
theorem TupAt.sq {K : PySem.W.Frag} {H : Hp} {a : Addr} {vs : List V} (h : TupAt K H a vs) : SqT K H a vs := by
  rcases h with ⟨o, e, _⟩ | ⟨o, its, n, h1, h2, h3, h4, h5, h6⟩
  · exact .inl (.inr ⟨o, e⟩)
  · exact .inr ⟨o, its, n, h1, h2, h4, h5, h6⟩
theorem TupAt.new {K : PySem.W.Frag} {H : Hp} {a : Addr} {vs : List V} {o : Obj} (h : o.dict = none) : TupAt K (upd H a (.frz o (.tup vs))) a vs := .inl ⟨o, upd_same, h⟩
section
variable {X : Cx}
theorem Inv.tupF {pins : List (Addr × Obj)} {σ : L2.St} {H : Hp} {s : Shared} (I : L2.Inv X pins σ H s) {xs : List V} {us : List Value} (r : Vals xs us) (hz : xs.length ≤ sizeLine) :
    L2.Inv X pins σ (upd H s.heap.objs.size (.frz { cls := .type "tuple", data := .seq us.toArray } (.tup xs))) { s with heap := s.heap.push { cls := .type "tuple", data := .seq us.toArray } } :=
  I.laid (t' := s.toks) (fun b u e => Heap.get?_push_of_some _ e) (Nat.le_refl _) ⟨Heap.get?_push_size _ rfl, hz, us, r, ⟨_, Heap.get?_push_size _ rfl, rfl, _, rfl⟩⟩
def NewT (H : Hp) (xs : List V) (Q : VK) : Prop := ∀ p o, H p = none → o.dict = none → Q (.ref p) (upd H p (.frz o (.tup xs)))
theorem pe_tupF {es : List Expr} {t : TA} {k : Nat} {pos : Pos} (h : PA X es t) : PE X (.Tuple es k pos) (fun σ H Q => t σ H fun xs H1 => xs.length ≤ sizeLine ∧ NewT H1 xs Q) := by
  refine ⟨fun pins s σ H Q I hq => ?_⟩
  refine wpAny_Tuple_spliced (thn (h.run pos pins s σ H _ I hq) fun us s1 ⟨xs, H1, I1, r, z, q⟩ => ⟨by rw [← r.length]; exact z, ?_⟩)
  exact ⟨.ref s1.heap.objs.size, _, Inv.tupF I1 r z, rfl, q _ _ (I1.hok.fresh (Nat.le_refl _)) rfl⟩
theorem op_catF : OpR X (binaryOp .Add) (fun x y H Q => ∃ a b xs ys, x = .ref a ∧ y = .ref b ∧ SqT X.K H a xs ∧ SqT X.K H b ys ∧ xs.length + ys.length ≤ sizeLine ∧
    (xs = [] → Q (.ref b) H) ∧ (xs ≠ [] → ys = [] → Q (.ref a) H) ∧ (xs ≠ [] → ys ≠ [] → NewT H (xs ++ ys) Q)) := by
  intro pins s σ H x y v u Q I rx ry ⟨a, b, xs, ys, e1, e2, ha, hb, hz, q0, q1, q2⟩
  subst e1 e2
  cases rx
  cases ry
  obtain ⟨its, r1, p1, _⟩ := I.tuple ha
  obtain ⟨its2, r2, p2, _⟩ := I.tuple hb
  by_cases hx : xs = []
  · subst hx
    cases r1
    exact cat_tup0 p1 p2 ⟨.ref b, H, I, rfl, q0 rfl⟩
  · refine HT.cat_tup p1 p2 (fun z => hx (r1.nil_iff.mp z)) (fun z => ⟨.ref a, H, I, rfl, q1 hx (r2.nil_iff.mp z)⟩) (fun z => ?_) (by rw [← r1.length, ← r2.length]; exact hz)
    exact ⟨.ref s.heap.objs.size, _, Inv.tupF I (r1.append r2) (by rw [List.length_append]; exact hz), rfl, q2 hx (fun w => z (r2.nil_iff.mpr w)) _ _ (I.hok.fresh (Nat.le_refl _)) rfl⟩
theorem sl_tupF : SlR X (fun x lo hi H Q => ∃ a xs, x = .ref a ∧ SqT X.K H a xs ∧ (HT.sIx xs.length 0 lo = 0 ∧ HT.sIx xs.length xs.length hi = xs.length → Q (.ref a) H) ∧
    (¬ (HT.sIx xs.length 0 lo = 0 ∧ HT.sIx xs.length xs.length hi = xs.length) → NewT H (cutV xs lo hi) Q)) := by
  intro pins s σ H x v vl vu lo hi sl Q I rx hs pl pu ⟨a, xs, e1, hx, q1, q2⟩
  subst e1
  cases rx
  obtain ⟨its, r, ht, hz⟩ := I.tuple hx
  have hlen : its.toArray.size = xs.length := by rw [List.size_toArray]; exact r.length.symm
  refine ⟨"tuple", _, PyProof.Rows.slot_tuple_getitem.lookup, ht.typeIs, ?_⟩
  by_cases hw : HT.sIx xs.length 0 lo = 0 ∧ HT.sIx xs.length xs.length hi = xs.length
  · exact getItem_tuple_whole ht hs pl pu (by rw [hlen]; exact hw) ⟨.ref a, H, I, rfl, q1 hw⟩
  · refine HT.getItem_tuple_cut ht hs pl pu (by rw [hlen]; exact hw) ?_ (by rw [hlen]; exact hz)
    rw [hlen]
    exact ⟨.ref s.heap.objs.size, _, Inv.tupF I ((r.drop (HT.sIx xs.length 0 lo)).take (HT.sIx xs.length xs.length hi - HT.sIx xs.length 0 lo)) (Nat.le_trans (cutV_length xs lo hi) hz), rfl, q2 hw _ _ (I.hok.fresh (Nat.le_refl _)) rfl⟩
theorem call_tupleF : CallR X (.type "tuple") (fun xs H Q => ∃ p ys, xs = [.ref p] ∧ ((SqL X.K H p ys ∧ NewT H ys Q) ∨ (SqT X.K H p ys ∧ Q (.ref p) H))) := by
  intro pins s σ H xs us Q I r ⟨p, ys, e1, h⟩
  subst e1
  obtain ⟨u, rfl, rx⟩ := vals1 r
  cases rx
  rcases h with ⟨hq, q⟩ | ⟨hq, q⟩
  · obtain ⟨its, r', pl, hz⟩ := I.list hq
    have hlen := r'.length
    refine call_tuple_list pl.isList (fun h' kp => ?_) (by simp only [List.size_toArray] <;> omega)
    have I1 : L2.Inv X pins σ H { s with heap := h' } := I.kept (t' := s.toks) kp
    exact ⟨.ref h'.objs.size, _, Inv.tupF I1 r' hz, rfl, q _ _ (I1.hok.fresh (Nat.le_refl _)) rfl⟩
  · obtain ⟨its, r', pl, hz⟩ := I.tuple hq
    exact call_tuple_same pl ⟨.ref p, H, I, rfl, q⟩
end
end Mi

end

section
/-! Mi2: data in the abstract heap. -/
namespace Mi
open PySem PySem.Spec L2

/-- a list that is never written: locked, or of the written part -/
def RoAt (K : PySem.W.Frag) (H : Hp) (a : Addr) (vs : List V) : Prop :=
  (∃ o, H a = some (.frz o (.lst vs))) ∨ ∃ (o : Obj) (its : Array Value) (n : Nat), K.lookup a = some o ∧ o.cls = .type "list" ∧ o.dict = none ∧ o.data = .seq its n ∧ its.size ≤ sizeLine ∧ Vals vs its.toList
theorem RoAt.sq {K : PySem.W.Frag} {H : Hp} {a : Addr} {vs : List V} (h : RoAt K H a vs) : SqL K H a vs := by
  rcases h with h | h
  · exact .inl (.inr h)
  · exact .inr h
mutual
def Rep (K : PySem.W.Frag) (H : Hp) (ρ : List Addr) : D → V → Prop
  | .non, v => v = .non
  | .bl b, v => v = .bl b
  | .int i, v => v = .int i
  | .str x, v => v = .str x
  | .tup ds, v => ∃ a vs, v = .ref a ∧ TupAt K H a vs ∧ RepL K H ρ ds vs
  | .ro ds, v => ∃ a vs, v = .ref a ∧ RoAt K H a vs ∧ RepL K H ρ ds vs
  | .loc n, v => ∃ a, v = .ref a ∧ ρ[n]? = some a
  | .fn x, v => v = .ref (He.ga K x)
def RepL (K : PySem.W.Frag) (H : Hp) (ρ : List Addr) : List D → List V → Prop
  | [], vs => vs = []
  | d :: ds, vs => ∃ v r, vs = v :: r ∧ Rep K H ρ d v ∧ RepL K H ρ ds r
end
/-- a dict whose keys are tuples: its entries, one behind the other -/
def dtO (a : Addr) (xs : List (NestedKey × Addr × Value)) : HO := .ext fun h => ((a == sysModules) = false ∧ xs.length ≤ sizeLine) ∧ ∃ (P : Program) (w : World) (o : Obj) (es : Array DictEntry) (ep : Nat), h.get? a = some o ∧ o.ExactDict ∧ o.data = .dict es ep ∧ es.toList = xs.map (entryOfKey (nestedKind P w)) ∧ (xs.map (·.1)).Nodup
inductive LeafV : NestedKey → V → Prop
  | non : LeafV .none .non
  | int (i : Int) : LeafV (.num i) (.int i)
/-- the tuple at q is the key k -/
def KeyAt (K : PySem.W.Frag) (H : Hp) (k : NestedKey) (q : Addr) : Prop := ∃ ks vs, k = .tup ks ∧ TupAt K H q vs ∧ Paired LeafV ks vs
def DitAt (K : PySem.W.Frag) (H : Hp) (a : Addr) (ws : List (NestedKey × V)) : Prop :=
  ∃ xs : List (NestedKey × Addr × Value), H a = some (dtO a xs) ∧ Paired (fun (p : NestedKey × V) (x : NestedKey × Addr × Value) => p.1 = x.1 ∧ KeyAt K H x.1 x.2.1 ∧ RelV p.2 x.2.2) ws xs
theorem KeyAt.mono {K : PySem.W.Frag} {H H' : Hp} {k : NestedKey} {q : Addr} (h : KeyAt K H k q) (t : ∀ vs, TupAt K H q vs → TupAt K H' q vs) : KeyAt K H' k q := by
  obtain ⟨ks, vs, e, a, p⟩ := h
  exact ⟨ks, vs, e, t vs a, p⟩
theorem DitAt.mono {K : PySem.W.Frag} {H H' : Hp} {a : Addr} {ws : List (NestedKey × V)} (h : DitAt K H a ws) (same : H' a = H a) (t : ∀ q vs, TupAt K H q vs → TupAt K H' q vs) : DitAt K H' a ws := by
  obtain ⟨xs, e, p⟩ := h
  exact ⟨xs, same.trans e, L2.Paired.mapP p fun p x ⟨h1, h2, h3⟩ => ⟨h1, h2.mono (t _), h3⟩⟩
def ObjRep (K : PySem.W.Frag) (H : Hp) (ρ : List Addr) (a : Addr) : MO → Prop
  | .lst ds => ∃ vs, H a = some (.lst vs) ∧ RepL K H ρ ds vs
  | .dic kvs => ∃ ws, H a = some (.dK ws) ∧ ws.map (·.1) = kvs.map (·.1) ∧ RepL K H ρ (kvs.map (·.2)) (ws.map (·.2))
  | .dit kvs => ∃ ws, DitAt K H a ws ∧ ws.map (·.1) = kvs.map (·.1) ∧ RepL K H ρ (kvs.map (·.2)) (ws.map (·.2))
structure HRep (K : PySem.W.Frag) (H : Hp) (ρ : List Addr) (S : Store) : Prop where
  len : ρ.length = S.length
  nd : ρ.Nodup
  ob : ∀ (n : Nat) (mo : MO) (a : Addr), S[n]? = some mo → ρ[n]? = some a → ObjRep K H ρ a mo
structure Ext (H : Hp) (ρ : List Addr) (H' : Hp) (ρ' : List Addr) : Prop where
  pre : ∃ τ, ρ' = ρ ++ τ
  new : ∀ b, b ∈ ρ' → b ∉ ρ → H b = none
  keep : ∀ b o, b ∉ ρ → H b = some o → H' b = some o
structure Cor (K : PySem.W.Frag) (H : Hp) (ρ : List Addr) (σ : St) (σD : StD) (S : Store) : Prop where
  len : σ.length = σD.length
  st : ∀ (i : Nat) (d : D), σD[i]? = some (some d) → ∃ v, σ[i]? = some (some v) ∧ Rep K H ρ d v
  hp : HRep K H ρ S

section
variable {K : PySem.W.Frag} {H H' H1 H2 : Hp} {ρ ρ' ρ1 ρ2 : List Addr} {S S' : Store} {σ : St} {σD : StD}
theorem Ext.refl : Ext H ρ H ρ := ⟨⟨[], by simp⟩, fun b h n => absurd h n, fun _ _ _ h => h⟩
theorem Ext.trans (a : Ext H ρ H1 ρ1) (b : Ext H1 ρ1 H2 ρ2) : Ext H ρ H2 ρ2 := by
  obtain ⟨τ, e⟩ := a.pre
  obtain ⟨τ', e'⟩ := b.pre
  have kp : ∀ c o, c ∉ ρ → H c = some o → c ∉ ρ1 := fun c o n h m => by
    have := a.new c m n
    rw [h] at this; cases this
  refine ⟨⟨τ ++ τ', by rw [e', e, List.append_assoc]⟩, fun c m n => ?_, fun c o n h => b.keep c o (kp c o n h) (a.keep c o n h)⟩
  by_cases m1 : c ∈ ρ1
  · exact a.new c m1 n
  · have h1 := b.new c m m1
    cases q : H c with
    | none => rfl
    | some o => rw [a.keep c o n q] at h1; cases h1
theorem HRep.has (h : HRep K H ρ S) {a : Addr} (m : a ∈ ρ) : ∃ (n : Nat) (mo : MO), S[n]? = some mo ∧ ρ[n]? = some a ∧ ObjRep K H ρ a mo := by
  obtain ⟨n, hn, e⟩ := List.mem_iff_getElem.mp m
  have hS : n < S.length := by rw [← h.len]; exact hn
  have e1 : S[n]? = some S[n] := List.getElem?_eq_getElem hS
  have e2 : ρ[n]? = some a := by rw [List.getElem?_eq_getElem hn, e]
  exact ⟨n, _, e1, e2, h.ob n _ a e1 e2⟩
theorem ObjRep.isMut {a : Addr} {mo : MO} (h : ObjRep K H ρ a mo) : ∃ o, H a = some o ∧ Mut (some o) := by
  cases mo with
  | lst ds => obtain ⟨vs, e, _⟩ := h; exact ⟨_, e, trivial⟩
  | dic ds => obtain ⟨vs, e, _⟩ := h; exact ⟨_, e, trivial⟩
  | dit ds => obtain ⟨vs, ⟨xs, e, _⟩, _⟩ := h; exact ⟨_, e, trivial⟩
theorem HRep.notin (h : HRep K H ρ S) {a : Addr} {o : HO} (e : H a = some o) (nm : ¬ Mut (some o)) : a ∉ ρ := fun m => by
  obtain ⟨n, mo, _, _, r⟩ := h.has m
  obtain ⟨u, eu, mu⟩ := r.isMut
  rw [e] at eu; cases eu
  exact nm mu
theorem HRep.free (h : HRep K H ρ S) {a : Addr} (e : H a = none) : a ∉ ρ := fun m => by
  obtain ⟨n, mo, _, _, r⟩ := h.has m
  obtain ⟨u, eu, mu⟩ := r.isMut
  rw [e] at eu; cases eu
theorem Ext.ix (x : Ext H ρ H' ρ') {n : Nat} {a : Addr} (e : ρ[n]? = some a) : ρ'[n]? = some a := by
  obtain ⟨τ, rfl⟩ := x.pre
  rw [List.getElem?_append_left (List.getElem?_eq_some_iff.mp e).1]
  exact e
theorem TupAt.ext (hp : HRep K H ρ S) (x : Ext H ρ H' ρ') {a : Addr} {vs : List V} (h : TupAt K H a vs) : TupAt K H' a vs := by
  rcases h with ⟨o, h, n⟩ | h
  · exact .inl ⟨o, x.keep _ _ (hp.notin h fun z => z) h, n⟩
  · exact .inr h
theorem RoAt.ext (hp : HRep K H ρ S) (x : Ext H ρ H' ρ') {a : Addr} {vs : List V} (h : RoAt K H a vs) : RoAt K H' a vs := by
  rcases h with ⟨o, h⟩ | h
  · exact .inl ⟨o, x.keep _ _ (hp.notin h fun z => z) h⟩
  · exact .inr h
mutual
theorem Ext.rep (hp : HRep K H ρ S) (x : Ext H ρ H' ρ') : ∀ (d : D) (v : V), Rep K H ρ d v → Rep K H' ρ' d v
  | .non, v, h => h
  | .bl b, v, h => h
  | .int i, v, h => h
  | .str y, v, h => h
  | .fn y, v, h => h
  | .tup ds, v, h => by
    obtain ⟨a, vs, e, q, r⟩ := h
    exact ⟨a, vs, e, q.ext hp x, Ext.repL hp x ds vs r⟩
  | .ro ds, v, h => by
    obtain ⟨a, vs, e, q, r⟩ := h
    exact ⟨a, vs, e, q.ext hp x, Ext.repL hp x ds vs r⟩
  | .loc n, v, h => by
    obtain ⟨a, e, q⟩ := h
    exact ⟨a, e, x.ix q⟩
theorem Ext.repL (hp : HRep K H ρ S) (x : Ext H ρ H' ρ') : ∀ (ds : List D) (vs : List V), RepL K H ρ ds vs → RepL K H' ρ' ds vs
  | [], vs, h => h
  | d :: ds, vs, h => by
    obtain ⟨v, r, e, h1, h2⟩ := h
    exact ⟨v, r, e, Ext.rep hp x d v h1, Ext.repL hp x ds r h2⟩
end
theorem Cor.ext (c : Cor K H ρ σ σD S) (x : Ext H ρ H' ρ') (hp : HRep K H' ρ' S') : Cor K H' ρ' σ σD S' :=
  ⟨c.len, fun i d e => let ⟨v, h1, h2⟩ := c.st i d e; ⟨v, h1, x.rep c.hp d v h2⟩, hp⟩
theorem RepL.length : ∀ {ds : List D} {vs : List V}, RepL K H ρ ds vs → ds.length = vs.length
  | [], vs, h => by cases h; rfl
  | d :: ds, vs, h => by
    obtain ⟨v, r, e, _, h2⟩ := h
    rw [e, List.length_cons, List.length_cons, RepL.length h2]
theorem RepL.get : ∀ {ds : List D} {vs : List V} {i : Nat} {d : D}, RepL K H ρ ds vs → ds[i]? = some d → ∃ v, vs[i]? = some v ∧ Rep K H ρ d v
  | [], _, _, _, _, e => by simp at e
  | x :: ds, vs, 0, d, h, e => by
    obtain ⟨v, r, q, h1, _⟩ := h
    have e' : x = d := Option.some.inj e
    subst e' q
    exact ⟨v, rfl, h1⟩
  | x :: ds, vs, i + 1, d, h, e => by
    obtain ⟨v, r, q, _, h2⟩ := h
    subst q
    exact RepL.get (i := i) h2 e
theorem RepL.append : ∀ {ds es : List D} {vs ws : List V}, RepL K H ρ ds vs → RepL K H ρ es ws → RepL K H ρ (ds ++ es) (vs ++ ws)
  | [], _, vs, ws, h, h' => by cases h; exact h'
  | d :: ds, es, vs, ws, h, h' => by
    obtain ⟨v, r, e, h1, h2⟩ := h
    subst e
    exact ⟨v, r ++ ws, rfl, h1, RepL.append h2 h'⟩
theorem RepL.take : ∀ (n : Nat) {ds : List D} {vs : List V}, RepL K H ρ ds vs → RepL K H ρ (ds.take n) (vs.take n)
  | 0, _, _, _ => by simp [RepL]
  | n + 1, [], vs, h => by cases h; simp [RepL]
  | n + 1, d :: ds, vs, h => by
    obtain ⟨v, r, e, h1, h2⟩ := h
    subst e
    exact ⟨v, _, rfl, h1, RepL.take n h2⟩
theorem RepL.drop : ∀ (n : Nat) {ds : List D} {vs : List V}, RepL K H ρ ds vs → RepL K H ρ (ds.drop n) (vs.drop n)
  | 0, _, _, h => h
  | n + 1, [], vs, h => by cases h; simp [RepL]
  | n + 1, d :: ds, vs, h => by
    obtain ⟨v, r, e, h1, h2⟩ := h
    subst e
    exact RepL.drop n h2
theorem RepL.set : ∀ (n : Nat) {ds : List D} {vs : List V} {d : D} {v : V}, RepL K H ρ ds vs → Rep K H ρ d v → RepL K H ρ (ds.set n d) (vs.set n v)
  | _, [], vs, _, _, h, _ => by cases h; simp [RepL]
  | 0, x :: ds, vs, d, v, h, h' => by
    obtain ⟨y, r, e, h1, h2⟩ := h
    subst e
    exact ⟨v, r, rfl, h', h2⟩
  | n + 1, x :: ds, vs, d, v, h, h' => by
    obtain ⟨y, r, e, h1, h2⟩ := h
    subst e
    exact ⟨y, _, rfl, h1, RepL.set n h2 h'⟩
theorem RepL.cut (lo hi : Option Int) {ds : List D} {vs : List V} (h : RepL K H ρ ds vs) : RepL K H ρ (cut ds lo hi) (cutV vs lo hi) := by
  unfold Mi.cut cutV
  rw [h.length]
  exact (h.drop _).take _
theorem RepL.dropLast {ds : List D} {vs : List V} (h : RepL K H ρ ds vs) : RepL K H ρ ds.dropLast vs.dropLast := by
  rw [List.dropLast_eq_take, List.dropLast_eq_take, h.length]
  exact h.take _
theorem RepL.map_loc {ds : List D} {vs : List V} (h : RepL K H ρ ds vs) : True := trivial

/-! ### new objects, writes -/
theorem Ext.newT (hp : HRep K H ρ S) {p : Addr} {o : HO} (hn : H p = none) : Ext H ρ (upd H p o) ρ :=
  ⟨⟨[], by simp⟩, fun b h n => absurd h n, fun b u n h => by rw [upd_ne (ne_of_none h hn)]; exact h⟩
theorem Ext.newL (hp : HRep K H ρ S) {p : Addr} {o : HO} (hn : H p = none) : Ext H ρ (upd H p o) (ρ ++ [p]) :=
  ⟨⟨[p], rfl⟩, fun b h n => by
    rcases List.mem_append.mp h with m | m
    · exact absurd m n
    · have e : b = p := by simpa using m
      rw [e]; exact hn, fun b u n h => by rw [upd_ne (ne_of_none h hn)]; exact h⟩
theorem ObjRep.ext (hp : HRep K H ρ S) (x : Ext H ρ H' ρ') {a : Addr} {mo : MO} (same : H' a = H a) (h : ObjRep K H ρ a mo) : ObjRep K H' ρ' a mo := by
  cases mo with
  | lst ds => obtain ⟨vs, e, r⟩ := h; exact ⟨vs, same.trans e, x.repL hp _ _ r⟩
  | dic ds => obtain ⟨vs, e, q, r⟩ := h; exact ⟨vs, same.trans e, q, x.repL hp _ _ r⟩
  | dit ds => obtain ⟨vs, e, q, r⟩ := h; exact ⟨vs, e.mono same fun q vs h => h.ext hp x, q, x.repL hp _ _ r⟩
theorem HRep.newT (hp : HRep K H ρ S) {p : Addr} {o : HO} (hn : H p = none) : HRep K (upd H p o) ρ S :=
  ⟨hp.len, hp.nd, fun n mo a e1 e2 => by
    have r := hp.ob n mo a e1 e2
    obtain ⟨u, eu, _⟩ := r.isMut
    exact r.ext hp (Ext.newT hp hn) (upd_ne (ne_of_none eu hn))⟩
theorem HRep.newL (hp : HRep K H ρ S) {p : Addr} {o : HO} {mo : MO} (hn : H p = none) (h : ObjRep K (upd H p o) (ρ ++ [p]) p mo) : HRep K (upd H p o) (ρ ++ [p]) (S ++ [mo]) := by
  have hf := hp.free hn
  refine ⟨by simp [hp.len], ?_, fun n m a e1 e2 => ?_⟩
  · rw [List.nodup_append]
    exact ⟨hp.nd, by simp, fun a ha b hb => by
      have : b = p := by simpa using hb
      intro e; subst e; subst this; exact hf ha⟩
  · by_cases hl : n < S.length
    · rw [List.getElem?_append_left hl] at e1
      rw [List.getElem?_append_left (by rw [hp.len]; exact hl)] at e2
      have r := hp.ob n m a e1 e2
      obtain ⟨u, eu, _⟩ := r.isMut
      exact r.ext hp (Ext.newL hp hn) (upd_ne (ne_of_none eu hn))
    · have hb := (List.getElem?_eq_some_iff.mp e1).1
      simp at hb
      have en : n = S.length := by omega
      subst en
      rw [List.getElem?_append_right (Nat.le_refl _), Nat.sub_self] at e1
      rw [← hp.len, List.getElem?_append_right (Nat.le_refl _), Nat.sub_self] at e2
      have e1' : mo = m := Option.some.inj e1
      have e2' : p = a := Option.some.inj e2
      subst e1' e2'
      exact h
theorem HRep.newLst (hp : HRep K H ρ S) {p : Addr} {ds : List D} {vs : List V} (hn : H p = none) (r : RepL K H ρ ds vs) : HRep K (upd H p (.lst vs)) (ρ ++ [p]) (S ++ [.lst ds]) :=
  hp.newL hn ⟨vs, upd_same, (Ext.newL hp hn).repL hp _ _ r⟩
theorem HRep.newLoc (hp : HRep K H ρ S) {p : Addr} {o : HO} : Rep K (upd H p o) (ρ ++ [p]) (.loc S.length) (.ref p) := by
  refine ⟨p, rfl, ?_⟩
  rw [← hp.len, List.getElem?_append_right (Nat.le_refl _), Nat.sub_self]
  rfl
theorem Ext.write (hp : HRep K H ρ S) {n : Nat} {a : Addr} {o : HO} (ha : ρ[n]? = some a) : Ext H ρ (upd H a o) ρ :=
  ⟨⟨[], by simp⟩, fun b h n => absurd h n, fun b u m h => by
    rw [upd_ne (fun e => m (by rw [e]; exact List.mem_of_getElem? ha))]; exact h⟩
theorem HRep.write (hp : HRep K H ρ S) {n : Nat} {a : Addr} {o : HO} {mo : MO} (ha : ρ[n]? = some a) (h : ObjRep K (upd H a o) ρ a mo) : HRep K (upd H a o) ρ (S.set n mo) := by
  refine ⟨by simp [hp.len], hp.nd, fun m q b e1 e2 => ?_⟩
  by_cases hm : n = m
  · subst hm
    rw [ha] at e2; cases e2
    have hl : n < S.length := by rw [← hp.len]; exact (List.getElem?_eq_some_iff.mp ha).1
    rw [List.getElem?_set_self hl] at e1
    cases e1
    exact h
  · rw [List.getElem?_set_ne hm] at e1
    have r := hp.ob m q b e1 e2
    have nb : b ≠ a := fun e => by
      subst e
      obtain ⟨l1, g1⟩ := List.getElem?_eq_some_iff.mp ha
      obtain ⟨l2, g2⟩ := List.getElem?_eq_some_iff.mp e2
      exact hm ((List.getElem_inj hp.nd).mp (g1.trans g2.symm))
    exact r.ext hp (Ext.write hp ha) (upd_ne nb)

/-! ### letting go -/
mutual
theorem Rep.pure_any {τ : List Addr} : ∀ (d : D) (v : V), D.pure d = true → Rep K H ρ d v → Rep K H τ d v
  | .non, v, _, h => h
  | .bl b, v, _, h => h
  | .int i, v, _, h => h
  | .str y, v, _, h => h
  | .fn y, v, _, h => h
  | .tup ds, v, p, h => by
    obtain ⟨a, vs, e, q, r⟩ := h
    exact ⟨a, vs, e, q, Rep.pure_anyL ds vs (by simpa [D.pure] using p) r⟩
  | .ro ds, v, p, h => by
    obtain ⟨a, vs, e, q, r⟩ := h
    exact ⟨a, vs, e, q, Rep.pure_anyL ds vs (by simpa [D.pure] using p) r⟩
  | .loc n, v, p, h => by simp [D.pure] at p
theorem Rep.pure_anyL {τ : List Addr} : ∀ (ds : List D) (vs : List V), D.pureL ds = true → RepL K H ρ ds vs → RepL K H τ ds vs
  | [], vs, _, h => h
  | d :: ds, vs, p, h => by
    obtain ⟨v, r, e, h1, h2⟩ := h
    simp only [D.pureL, Bool.and_eq_true] at p
    exact ⟨v, r, e, Rep.pure_any d v p.1 h1, Rep.pure_anyL ds r p.2 h2⟩
end
mutual
theorem Rep.shrink {τ : List Addr} : ∀ (d : D) (v v0 : V), Rep K H ρ d v0 → Rep K H' (ρ ++ τ) d v → Rep K H' ρ d v
  | .non, v, _, _, h => h
  | .bl b, v, _, _, h => h
  | .int i, v, _, _, h => h
  | .str y, v, _, _, h => h
  | .fn y, v, _, _, h => h
  | .tup ds, v, _, h0, h => by
    obtain ⟨a, vs, e, q, r⟩ := h
    obtain ⟨a0, vs0, e0, q0, r0⟩ := h0
    exact ⟨a, vs, e, q, Rep.shrinkL ds vs vs0 r0 r⟩
  | .ro ds, v, _, h0, h => by
    obtain ⟨a, vs, e, q, r⟩ := h
    obtain ⟨a0, vs0, e0, q0, r0⟩ := h0
    exact ⟨a, vs, e, q, Rep.shrinkL ds vs vs0 r0 r⟩
  | .loc n, v, _, h0, h => by
    obtain ⟨a, e, q⟩ := h
    obtain ⟨a0, e0, q0⟩ := h0
    exact ⟨a, e, by rw [List.getElem?_append_left (List.getElem?_eq_some_iff.mp q0).1] at q; exact q⟩
theorem Rep.shrinkL {τ : List Addr} : ∀ (ds : List D) (vs vs0 : List V), RepL K H ρ ds vs0 → RepL K H' (ρ ++ τ) ds vs → RepL K H' ρ ds vs
  | [], vs, _, _, h => h
  | d :: ds, vs, _, h0, h => by
    obtain ⟨v, r, e, h1, h2⟩ := h
    obtain ⟨v0, r0, e0, h10, h20⟩ := h0
    exact ⟨v, r, e, Rep.shrink d v v0 h10 h1, Rep.shrinkL ds r r0 h20 h2⟩
end
theorem ObjRep.shrink {τ : List Addr} {a b : Addr} {mo : MO} (h0 : ObjRep K H ρ b mo) (h : ObjRep K H' (ρ ++ τ) a mo) : ObjRep K H' ρ a mo := by
  cases mo with
  | lst ds =>
    obtain ⟨vs, e, r⟩ := h
    obtain ⟨vs0, e0, r0⟩ := h0
    exact ⟨vs, e, Rep.shrinkL _ _ _ r0 r⟩
  | dic ds =>
    obtain ⟨vs, e, q, r⟩ := h
    obtain ⟨vs0, e0, q0, r0⟩ := h0
    exact ⟨vs, e, q, Rep.shrinkL _ _ _ r0 r⟩
  | dit ds =>
    obtain ⟨vs, e, q, r⟩ := h
    obtain ⟨vs0, e0, q0, r0⟩ := h0
    exact ⟨vs, e, q, Rep.shrinkL _ _ _ r0 r⟩
theorem ObjRep.pure_any {τ : List Addr} {a : Addr} {mo : MO} (p : MO.pure mo = true) (h : ObjRep K H τ a mo) : ObjRep K H ρ a mo := by
  cases mo with
  | lst ds => obtain ⟨vs, e, r⟩ := h; exact ⟨vs, e, Rep.pure_anyL _ _ p r⟩
  | dic ds => obtain ⟨vs, e, q, r⟩ := h; exact ⟨vs, e, q, Rep.pure_anyL _ _ p r⟩
  | dit ds => obtain ⟨vs, e, q, r⟩ := h; exact ⟨vs, e, q, Rep.pure_anyL _ _ p r⟩
mutual
theorem Rep.grow {τ : List Addr} : ∀ (d : D) (v : V), Rep K H ρ d v → Rep K H (ρ ++ τ) d v
  | .non, v, h => h
  | .bl b, v, h => h
  | .int i, v, h => h
  | .str y, v, h => h
  | .fn y, v, h => h
  | .tup ds, v, h => by
    obtain ⟨a, vs, e, q, r⟩ := h
    exact ⟨a, vs, e, q, Rep.growL ds vs r⟩
  | .ro ds, v, h => by
    obtain ⟨a, vs, e, q, r⟩ := h
    exact ⟨a, vs, e, q, Rep.growL ds vs r⟩
  | .loc n, v, h => by
    obtain ⟨a, e, q⟩ := h
    exact ⟨a, e, by rw [List.getElem?_append_left (List.getElem?_eq_some_iff.mp q).1]; exact q⟩
theorem Rep.growL {τ : List Addr} : ∀ (ds : List D) (vs : List V), RepL K H ρ ds vs → RepL K H (ρ ++ τ) ds vs
  | [], vs, h => h
  | d :: ds, vs, h => by
    obtain ⟨v, r, e, h1, h2⟩ := h
    exact ⟨v, r, e, Rep.grow d v h1, Rep.growL ds r h2⟩
end
theorem ObjRep.grow {τ : List Addr} {a : Addr} {mo : MO} (h : ObjRep K H ρ a mo) : ObjRep K H (ρ ++ τ) a mo := by
  cases mo with
  | lst ds => obtain ⟨vs, e, r⟩ := h; exact ⟨vs, e, Rep.growL _ _ r⟩
  | dic ds => obtain ⟨vs, e, q, r⟩ := h; exact ⟨vs, e, q, Rep.growL _ _ r⟩
  | dit ds => obtain ⟨vs, e, q, r⟩ := h; exact ⟨vs, e, q, Rep.growL _ _ r⟩
theorem keepsOld_at : ∀ {S S' : Store} {i : Nat} {mo : MO}, keepsOld S S' = true → i < S.length → S'[i]? = some mo → S[i]? = some mo ∨ MO.pure mo = true
  | [], _, i, _, _, h, _ => by simp at h
  | a :: r, [], _, _, h, _, _ => by simp [keepsOld] at h
  | a :: r, b :: q, 0, mo, h, _, e => by
    simp only [keepsOld, Bool.and_eq_true, Bool.or_eq_true] at h
    have e' : b = mo := Option.some.inj e
    subst e'
    rcases h.1 with h1 | h1
    · rw [MO.beq_eq h1]; exact .inl rfl
    · exact .inr h1
  | a :: r, b :: q, i + 1, mo, h, hl, e => by
    simp only [keepsOld, Bool.and_eq_true, Bool.or_eq_true] at h
    exact keepsOld_at (i := i) h.2 (by simpa using hl) e
theorem keepsOld_len : ∀ {S S' : Store}, keepsOld S S' = true → S.length ≤ S'.length
  | [], _, _ => Nat.zero_le _
  | a :: r, [], h => by simp [keepsOld] at h
  | a :: r, b :: q, h => by
    simp only [keepsOld, Bool.and_eq_true] at h
    have := keepsOld_len h.2
    simp; exact this
theorem HRep.shrink (hp : HRep K H ρ S) (x : Ext H ρ H' ρ') (hp' : HRep K H' ρ' S') (ko : keepsOld S S' = true) : Ext H ρ H' ρ ∧ HRep K H' ρ (S'.take S.length) := by
  obtain ⟨τ, rfl⟩ := x.pre
  have hl := keepsOld_len ko
  refine ⟨⟨⟨[], by simp⟩, fun b h n => absurd h n, x.keep⟩, ⟨by rw [List.length_take, hp.len]; omega, hp.nd, fun n mo a e1 e2 => ?_⟩⟩
  have hn : n < S.length := by rw [← hp.len]; exact (List.getElem?_eq_some_iff.mp e2).1
  rw [List.getElem?_take_of_lt hn] at e1
  have r := hp'.ob n mo a e1 (by rw [List.getElem?_append_left (by rw [hp.len]; exact hn)]; exact e2)
  rcases keepsOld_at ko hn e1 with h | h
  · exact (hp.ob n mo a h e2).shrink r
  · exact r.pure_any h
theorem gc_ok (hp : HRep K H ρ S) (x : Ext H ρ H' ρ') (hp' : HRep K H' ρ' S') {d : D} {v : V} (r : Rep K H' ρ' d v) :
    ∃ ρ'', Ext H ρ H' ρ'' ∧ HRep K H' ρ'' (gc S d S').2 ∧ Rep K H' ρ'' (gc S d S').1 v := by
  unfold gc
  by_cases ko : keepsOld S S' = true
  · rw [if_pos ko]
    obtain ⟨x1, h1⟩ := hp.shrink x hp' ko
    by_cases pd : D.pure d = true
    · rw [if_pos pd]
      exact ⟨ρ, x1, h1, Rep.pure_any d v pd r⟩
    · rw [if_neg pd]
      cases d with
      | loc m =>
        dsimp only
        by_cases hm : m < S.length
        · rw [if_pos hm]
          obtain ⟨a, e, q⟩ := r
          obtain ⟨τ, rfl⟩ := x.pre
          rw [List.getElem?_append_left (by rw [hp.len]; exact hm)] at q
          exact ⟨ρ, x1, h1, a, e, q⟩
        · rw [if_neg hm]
          cases hS : S'[m]? with
          | none => exact ⟨ρ', x, hp', r⟩
          | some mo =>
            dsimp only
            by_cases pm : MO.pure mo = true
            · rw [if_pos pm]
              obtain ⟨a, e, q⟩ := r
              have am : a ∈ ρ' := List.mem_of_getElem? q
              have an : a ∉ ρ := fun h => by
                obtain ⟨j, hj, ej⟩ := List.mem_iff_getElem.mp h
                have ej' : ρ'[j]? = some a := x.ix (by rw [List.getElem?_eq_getElem hj, ej])
                obtain ⟨l1, g1⟩ := List.getElem?_eq_some_iff.mp q
                obtain ⟨l2, g2⟩ := List.getElem?_eq_some_iff.mp ej'
                have := (List.getElem_inj hp'.nd).mp (g1.trans g2.symm)
                rw [hp.len] at hj
                omega
              have ob := hp'.ob m mo a hS q
              refine ⟨ρ ++ [a], ⟨⟨[a], rfl⟩, fun b hb nb => ?_, x.keep⟩, ⟨?_, ?_, fun n mo' b e1 e2 => ?_⟩, a, e, ?_⟩
              · rcases List.mem_append.mp hb with m1 | m1
                · exact absurd m1 nb
                · have eb : b = a := by simpa using m1
                  subst eb
                  exact x.new b am nb
              · rw [List.length_append, List.length_append, h1.len]; rfl
              · rw [List.nodup_append]
                exact ⟨hp.nd, by simp, fun c hc b hb => by
                  have : b = a := by simpa using hb
                  intro e2; subst e2; subst this; exact an hc⟩
              · have tl : (S'.take S.length).length = S.length := by rw [← h1.len, hp.len]
                by_cases hn : n < S.length
                · rw [List.getElem?_append_left (by rw [tl]; exact hn)] at e1
                  rw [List.getElem?_append_left (by rw [hp.len]; exact hn)] at e2
                  have o1 := h1.ob n mo' b e1 e2
                  exact o1.grow
                · have hb := (List.getElem?_eq_some_iff.mp e1).1
                  rw [List.length_append, tl] at hb
                  have en : n = S.length := by
                    have : ([mo] : List MO).length = 1 := rfl
                    omega
                  subst en
                  rw [List.getElem?_append_right (by rw [tl]; exact Nat.le_refl _), tl, Nat.sub_self] at e1
                  rw [← hp.len, List.getElem?_append_right (Nat.le_refl _), Nat.sub_self] at e2
                  have e1' : mo = mo' := Option.some.inj e1
                  have e2' : a = b := Option.some.inj e2
                  subst e1' e2'
                  exact ob.pure_any pm
              · rw [← hp.len, List.getElem?_append_right (Nat.le_refl _), Nat.sub_self]; rfl
            · rw [if_neg pm]
              exact ⟨ρ', x, hp', r⟩
      | _ => exact ⟨ρ', x, hp', r⟩
  · rw [if_neg ko]
    exact ⟨ρ', x, hp', r⟩
end
end Mi

end

section
/-! Mi3: the rules: expressions. -/
namespace Mi
open PySem PySem.Spec L2

abbrev After (K : PySem.W.Frag) (H : Hp) (ρ : List Addr) (S' : Store) (d : D) (Q : VK) : Prop := ∀ v H' ρ', Ext H ρ H' ρ' → HRep K H' ρ' S' → Rep K H' ρ' d v → Q v H'
def tD (K : PySem.W.Frag) (f : StD → Store → Option (D × Store)) : TE := fun σ H Q => ∃ ρ σD S d S', Cor K H ρ σ σD S ∧ f σD S = some (d, S') ∧ After K H ρ S' d Q
def tDB (K : PySem.W.Frag) (f : StD → Store → Option (Bool × Store)) : TT := fun σ H Q => ∃ ρ σD S b S', Cor K H ρ σ σD S ∧ f σD S = some (b, S') ∧ ∀ H' ρ', Ext H ρ H' ρ' → HRep K H' ρ' S' → Q b H'
def tDs (K : PySem.W.Frag) (f : StD → Store → Option (List D × Store)) : TA := fun σ H Q => ∃ ρ σD S ds S', Cor K H ρ σ σD S ∧ f σD S = some (ds, S') ∧ ∀ vs H' ρ', Ext H ρ H' ρ' → HRep K H' ρ' S' → RepL K H' ρ' ds vs → Q vs H'

theorem bnd_eq {α β : Type} {x : Option (α × Store)} {f : α → Store → Option (β × Store)} {r : β × Store} (h : bnd x f = some r) : ∃ a S, x = some (a, S) ∧ f a S = some r := by
  cases x with
  | none => cases h
  | some p => obtain ⟨a, S⟩ := p; exact ⟨a, S, rfl, h⟩
theorem opt_eq {α : Type} {x : Option α} {S S' : Store} {a : α} (h : opt x S = some (a, S')) : x = some a ∧ S' = S := by
  cases x with
  | none => cases h
  | some b => cases h; exact ⟨rfl, rfl⟩
theorem _root_.L2.PE.imp {X : Cx} {e : Expr} {t t' : TE} (h : PE X e t) (i : ∀ σ H Q, t' σ H Q → t σ H Q) : PE X e t' := ⟨fun pins s σ H Q I hw => h.run pins s σ H Q I (i σ H Q hw)⟩
theorem _root_.L2.PT.imp {X : Cx} {e : Expr} {t t' : TT} (h : PT X e t) (i : ∀ σ H Q, t' σ H Q → t σ H Q) : PT X e t' := ⟨fun pins s σ H Q I hw => h.run pins s σ H Q I (i σ H Q hw)⟩
theorem _root_.L2.PA.imp {X : Cx} {e : List Expr} {t t' : TA} (h : PA X e t) (i : ∀ σ H Q, t' σ H Q → t σ H Q) : PA X e t' := ⟨fun pos pins s σ H Q I hw => h.run pos pins s σ H Q I (i σ H Q hw)⟩
theorem _root_.L2.PS.imp {X : Cx} {e : Stmt} {t t' : TS} (h : PS X e t) (i : ∀ D σ H, t' D σ H → t D σ H) : PS X e t' := ⟨fun pins s σ H D I hw => h.run pins s σ H D I (i D σ H hw)⟩
theorem _root_.L2.PSs.imp {X : Cx} {e : List Stmt} {t t' : TS} (h : PSs X e t) (i : ∀ D σ H, t' D σ H → t D σ H) : PSs X e t' := ⟨fun pins s σ H D I hw => h.run pins s σ H D I (i D σ H hw)⟩
theorem pe_no {X : Cx} {e : Expr} {t : TE} (i : ∀ σ H Q, ¬ t σ H Q) : PE X e t := ⟨fun _ _ σ H Q _ hw => (i σ H Q hw).elim⟩

section
variable {X : Cx} {a b c : Expr} {fa fb fc : StD → Store → Option (D × Store)} {p q : Pos}
/-- letting go behind an expression -/
theorem tD_gc {K : PySem.W.Frag} {f : StD → Store → Option (D × Store)} {σ : L2.St} {H : Hp} {Q : VK} (h : tD K (fun τ S => bnd (f τ S) fun d S1 => some (gc S d S1)) σ H Q) : tD K f σ H Q := by
  obtain ⟨ρ, σD, S, d, S', c, e, k⟩ := h
  obtain ⟨d1, S1, e1, e2⟩ := bnd_eq e
  refine ⟨ρ, σD, S, d1, S1, c, e1, fun v H' ρ' x hp r => ?_⟩
  obtain ⟨ρ'', x2, h2, r2⟩ := gc_ok c.hp x hp r
  have e3 : gc S d1 S1 = (d, S') := Option.some.inj e2
  rw [e3] at h2 r2
  exact k v H' ρ'' x2 h2 r2
theorem pe_gc {e : Expr} {f : StD → Store → Option (D × Store)} (h : PE X e (tD X.K f)) : PE X e (tD X.K fun τ S => bnd (f τ S) fun d S1 => some (gc S d S1)) := h.imp fun _ _ _ => tD_gc
theorem r_con {c : Const} {k : Nat} : PE X (.Constant c k p) (tD X.K fun _ S => opt (conD c) S) := by
  have go : ∀ {d : D} {v : V}, conD c = some d → (∀ H ρ, Rep X.K H ρ d v) → PE X (.Constant c k p) (tC v) → PE X (.Constant c k p) (tD X.K fun _ S => opt (conD c) S) := fun {d v} hd hr h =>
    h.imp fun σ H Q ⟨ρ, σD, S, d', S', cc, e, kk⟩ => by
      rw [hd] at e
      cases e
      exact kk v H ρ Ext.refl cc.hp (hr H ρ)
  cases c with
  | none => exact go rfl (fun _ _ => rfl) pe_non
  | bool b => exact go rfl (fun _ _ => rfl) pe_bl
  | int i => exact go rfl (fun _ _ => rfl) pe_int
  | str x => exact go rfl (fun _ _ => rfl) pe_str
  | _ => exact pe_no fun σ H Q ⟨ρ, σD, S, d', S', cc, e, kk⟩ => by cases e
theorem r_var {i : Nat} {x : Str} (hN : X.N[i]? = some x) (hv : Vis X.env.scope x) (hd : (x == ("__debug__" : Str)) = false) (hcd : (x == ("__classdict__" : Str)) = false) : PE X (.Name x p) (tD X.K fun σ S => opt (slotD σ i) S) :=
  (pe_var hN hv hd hcd).imp fun σ H Q ⟨ρ, σD, S, d, S', c, e, k⟩ => by
    obtain ⟨e1, e2⟩ := opt_eq e
    subst e2
    have e3 : σD[i]? = some (some d) := by
      unfold slotD at e1
      split at e1
      · cases e1; assumption
      · cases e1
    obtain ⟨v, h1, h2⟩ := c.st i d e3
    exact ⟨v, h1, k v H ρ Ext.refl c.hp h2⟩
theorem r_glo {x : Str} {i : Int} {u : Value} (hg : Gl X x) (hm : X.mg x = some u) (hu : ∃ t, u = .int i t) (hd : (x == ("__debug__" : Str)) = false) : PE X (.Name x p) (tD X.K fun _ S => some (.int i, S)) :=
  (pe_glob (v := .int i) hg hm hu hd).imp fun σ H Q ⟨ρ, σD, S, d, S', c, e, k⟩ => by
    cases e
    exact k (.int i) H ρ Ext.refl c.hp rfl
theorem r_nil : PA X [] (tDs X.K fun _ S => some ([], S)) := pa_nil.imp fun σ H Q ⟨ρ, σD, S, d, S', c, e, k⟩ => by
  cases e
  exact k [] H ρ Ext.refl c.hp rfl
theorem r_cons {e : Expr} {es : List Expr} {f : StD → Store → Option (D × Store)} {g : StD → Store → Option (List D × Store)} (he : PE X e (tD X.K f)) (hr : PA X es (tDs X.K g))
    (hs : starEach (e :: es) X.env = (false, eval e X.env) :: starEach es X.env) : PA X (e :: es) (tDs X.K fun σ S => bnd (f σ S) fun d S1 => bnd (g σ S1) fun ds S2 => some (d :: ds, S2)) :=
  (pa_cons he hr hs).imp fun σ H Q ⟨ρ, σD, S, d, S', c, e, k⟩ => by
    obtain ⟨d1, S1, e1, e2⟩ := bnd_eq e
    obtain ⟨ds, S2, e3, e4⟩ := bnd_eq e2
    have e5 := Option.some.inj e4
    injection e5 with e6 e7
    subst e6 e7
    refine ⟨ρ, σD, S, d1, S1, c, e1, fun v H1 ρ1 x1 h1 r1 => ⟨ρ1, σD, S1, ds, _, c.ext x1 h1, e3, fun vs H2 ρ2 x2 h2 r2 => ?_⟩⟩
    exact k (v :: vs) H2 ρ2 (x1.trans x2) h2 ⟨v, vs, rfl, x2.rep h1 _ _ r1, r2⟩
theorem r_tup {es : List Expr} {k : Nat} {g : StD → Store → Option (List D × Store)} (h : PA X es (tDs X.K g)) : PE X (.Tuple es k p) (tD X.K fun σ S => bnd (g σ S) fun ds S1 => if ds.length ≤ sizeLine then some (.tup ds, S1) else none) :=
  (pe_tupF h).imp fun σ H Q ⟨ρ, σD, S, d, S', c, e, k⟩ => by
    obtain ⟨ds, S1, e1, e2⟩ := bnd_eq e
    split at e2
    · rename_i hz
      have e3 := Option.some.inj e2
      injection e3 with e4 e5
      subst e4 e5
      refine ⟨ρ, σD, S, ds, _, c, e1, fun vs H1 ρ1 x1 h1 r1 => ⟨by rw [← r1.length]; exact hz, fun p o hn ho => ?_⟩⟩
      exact k _ _ ρ1 (x1.trans (Ext.newT h1 hn)) (h1.newT hn) ⟨p, vs, rfl, .new ho, (Ext.newT h1 hn).repL h1 _ _ r1⟩
    · cases e2
theorem r_lst {es : List Expr} {g : StD → Store → Option (List D × Store)} (h : PA X es (tDs X.K g)) : PE X (.List es p) (tD X.K fun σ S => bnd (g σ S) fun ds S1 => if ds.length ≤ sizeLine then some (.loc S1.length, S1 ++ [.lst ds]) else none) :=
  (pe_lst h).imp fun σ H Q ⟨ρ, σD, S, d, S', c, e, k⟩ => by
    obtain ⟨ds, S1, e1, e2⟩ := bnd_eq e
    split at e2
    · rename_i hz
      cases e2
      refine ⟨ρ, σD, S, ds, S1, c, e1, fun vs H1 ρ1 x1 h1 r1 => ⟨by rw [← r1.length]; exact hz, fun p hn => ?_⟩⟩
      exact k _ _ (ρ1 ++ [p]) (x1.trans (Ext.newL h1 hn)) (h1.newLst hn r1) h1.newLoc
    · cases e2
theorem r_dct : PE X (.Dict [] [] p) (tD X.K fun _ S => some (.loc S.length, S ++ [.dic []])) :=
  pe_dnewK.imp fun σ H Q ⟨ρ, σD, S, d, S', c, e, k⟩ => by
    cases e
    intro p hn
    exact k _ _ (ρ ++ [p]) (Ext.newL c.hp hn) (c.hp.newL hn ⟨[], upd_same, rfl, rfl⟩) c.hp.newLoc

/-! ### two values -/
def lift2 (K : PySem.W.Frag) (g : D → D → Store → Option (D × Store)) : R2 := fun x y H Q => ∃ ρ S dx dy d S', HRep K H ρ S ∧ Rep K H ρ dx x ∧ Rep K H ρ dy y ∧ g dx dy S = some (d, S') ∧ After K H ρ S' d Q
theorem tD_2 {K : PySem.W.Frag} {g : D → D → Store → Option (D × Store)} {σ : L2.St} {H : Hp} {Q : VK} (h : tD K (fun τ S => bnd (fa τ S) fun x S1 => bnd (fb τ S1) fun y S2 => g x y S2) σ H Q) : tOp (lift2 K g) (tD K fa) (tD K fb) σ H Q := by
  obtain ⟨ρ, σD, S, d, S', c, e, k⟩ := h
  obtain ⟨x, S1, e1, e2⟩ := bnd_eq e
  obtain ⟨y, S2, e3, e4⟩ := bnd_eq e2
  refine ⟨ρ, σD, S, x, S1, c, e1, fun v H1 ρ1 x1 h1 r1 => ⟨ρ1, σD, S1, y, S2, c.ext x1 h1, e3, fun w H2 ρ2 x2 h2 r2 => ?_⟩⟩
  exact ⟨ρ2, S2, x, y, d, S', h2, x2.rep h1 _ _ r1, r2, e4, fun v' H' ρ' x' h' r' => k v' H' ρ' ((x1.trans x2).trans x') h' r'⟩
theorem OpR.imp {f : Value → Value → Sem Value} {r r' : R2} (h : OpR X f r) (i : ∀ x y H Q, r' x y H Q → r x y H Q) : OpR X f r' := fun pins s σ H x y v u Q I rx ry q => h pins s σ H x y v u Q I rx ry (i x y H Q q)
theorem CallR.imp {f : Value} {r r' : List V → Hp → VK → Prop} (h : CallR X f r) (i : ∀ xs H Q, r' xs H Q → r xs H Q) : CallR X f r' := fun pins s σ H xs us Q I rx q => h pins s σ H xs us Q I rx (i xs H Q q)

theorem opr_no {f : Value → Value → Sem Value} {r : R2} (i : ∀ x y H Q, ¬ r x y H Q) : OpR X f r := fun pins s σ H x y v u Q I rx ry q => (i x y H Q q).elim

end
section
variable {X : Cx}
theorem lst_at {K : PySem.W.Frag} {H : Hp} {ρ : List Addr} {S : Store} (hp : HRep K H ρ S) {m : Nat} {ds : List D} {v : V} (e : S[m]? = some (.lst ds)) (r : Rep K H ρ (.loc m) v) : ∃ a vs, v = .ref a ∧ ρ[m]? = some a ∧ H a = some (.lst vs) ∧ RepL K H ρ ds vs := by
  obtain ⟨a, ev, ea⟩ := r
  obtain ⟨vs, h1, h2⟩ := hp.ob m _ a e ea
  exact ⟨a, vs, ev, ea, h1, h2⟩
theorem dic_at {K : PySem.W.Frag} {H : Hp} {ρ : List Addr} {S : Store} (hp : HRep K H ρ S) {m : Nat} {kvs : List (Key × D)} {v : V} (e : S[m]? = some (.dic kvs)) (r : Rep K H ρ (.loc m) v) :
    ∃ a ws, v = .ref a ∧ ρ[m]? = some a ∧ H a = some (.dK ws) ∧ ws.map (·.1) = kvs.map (·.1) ∧ RepL K H ρ (kvs.map (·.2)) (ws.map (·.2)) := by
  obtain ⟨a, ev, ea⟩ := r
  obtain ⟨vs, h1, h2, h3⟩ := hp.ob m _ a e ea
  exact ⟨a, vs, ev, ea, h1, h2, h3⟩
theorem op_catS : OpR X (binaryOp .Add) (fun x y H Q => ∃ l b xs zs, x = .ref l ∧ y = .ref b ∧ SqL X.K H l xs ∧ H b = some (.lst zs) ∧ xs.length + zs.length ≤ sizeLine ∧ ∀ p, H p = none → Q (.ref p) (upd H p (.lst (xs ++ zs)))) := by
  intro pins s σ H x y v u Q I rx ry h
  obtain ⟨l, b, xs, zs, rfl, rfl, hH, hB, hz, q⟩ := h
  cases rx
  cases ry
  obtain ⟨its, r, pl, -⟩ := I.list hH
  obtain ⟨⟨cls, dd, data, sl⟩, n, e, h1, h2, h3⟩ := pl
  simp only at h1 h2 h3
  subst h1 h2 h3
  have hl := r.length
  obtain ⟨z2, its2, n2, r2, hl2, e2⟩ := I.lstM hB
  have ea : its.toArray ++ its2.toArray = (its ++ its2).toArray := by simp
  refine concat_meets ⟨_, e, rfl⟩ ⟨_, e2, rfl⟩ noFill_list_add seq_list_add PySem.F.slot_list_add PySem.F.entry_list_add (PySem.F.args_list_add_2 _ _) (PyProof.Rows.list_addW l b its.toArray its2.toArray n n2 none none sl #[] (by simp; omega)) ⟨e, e2, ?_⟩
  rw [ea]
  exact ⟨.ref _, _, I.lnew (t' := s.toks) (r.append r2) (by rw [List.length_append]; omega), rfl, q _ I.fresh⟩
theorem op_D (o : Operator) : OpR X (binaryOp o) (lift2 X.K (opD o)) := by
  intro pins s σ H x y v u Q I rx ry ⟨ρ, S, dx, dy, d, S', hp, r1, r2, e, k⟩
  unfold opD at e
  split at e <;> first | contradiction | skip
  · cases e
    exact op_add pins s σ H x y v u Q I rx ry ⟨_, _, r1, r2, k _ H ρ Ext.refl hp rfl⟩
  · split at e
    · rename_i hz
      cases e
      exact op_add_str pins s σ H x y v u Q I rx ry ⟨_, _, r1, r2, hz, k _ H ρ Ext.refl hp rfl⟩
    · cases e
  · split at e
    · rename_i xs ys hz
      cases e
      obtain ⟨a, vs, e1, ha, r1⟩ := r1
      obtain ⟨b, ws, e2, hb, r2⟩ := r2
      have l1 := r1.length
      have l2 := r2.length
      refine op_catF pins s σ H x y v u Q I rx ry ⟨a, b, vs, ws, e1, e2, ha.sq, hb.sq, by omega, fun z => ?_, fun _ z => ?_, fun _ _ p o hn ho => ?_⟩
      · subst z
        have : xs = [] := List.eq_nil_of_length_eq_zero (by simpa using l1)
        subst this
        exact k _ H ρ Ext.refl hp ⟨b, ws, rfl, hb, r2⟩
      · subst z
        have : ys = [] := List.eq_nil_of_length_eq_zero (by simpa using l2)
        subst this
        exact k _ H ρ Ext.refl hp ⟨a, vs, rfl, ha, by simpa using r1⟩
      · exact k _ _ ρ (Ext.newT hp hn) (hp.newT hn) ⟨p, _, rfl, .new ho, (Ext.newT hp hn).repL hp _ _ (r1.append r2)⟩
    · cases e
  · split at e
    · split at e
      · rename_i xs ys h1 h2 hz
        cases e
        obtain ⟨a, vs, e1, _, ha, r1⟩ := lst_at hp h1 r1
        obtain ⟨b, ws, e2, _, hb, r2⟩ := lst_at hp h2 r2
        have l1 := r1.length
        have l2 := r2.length
        refine op_cat pins s σ H x y v u Q I rx ry ⟨a, b, vs, ws, e1, e2, ha, hb, by omega, fun p hn => ?_⟩
        exact k _ _ (ρ ++ [p]) (Ext.newL hp hn) (hp.newLst hn (r1.append r2)) hp.newLoc
      · cases e
    · cases e
  · split at e
    · split at e
      · rename_i xs _ ys h2 hz
        cases e
        obtain ⟨a, vs, e1, ha, r1⟩ := r1
        obtain ⟨b, ws, e2, _, hb, r2⟩ := lst_at hp h2 r2
        have l1 := r1.length
        have l2 := r2.length
        refine op_catS pins s σ H x y v u Q I rx ry ⟨a, b, vs, ws, e1, e2, ha.sq, hb, by omega, fun p hn => ?_⟩
        exact k _ _ (ρ ++ [p]) (Ext.newL hp hn) (hp.newLst hn (r1.append r2)) hp.newLoc
      · cases e
    · cases e
  · cases e
    exact op_sub pins s σ H x y v u Q I rx ry ⟨_, _, r1, r2, k _ H ρ Ext.refl hp rfl⟩
  · split at e
    · rename_i hz
      cases e
      rcases hz with hz | hz | hz
      · exact op_mul pins s σ H x y v u Q I rx ry ⟨_, _, r1, r2, .inl ⟨by omega, by omega⟩, k _ H ρ Ext.refl hp rfl⟩
      · exact op_mul pins s σ H x y v u Q I rx ry ⟨_, _, r1, r2, .inr ⟨by omega, by omega⟩, k _ H ρ Ext.refl hp rfl⟩
      · exact op_mulW pins s σ H x y v u Q I rx ry ⟨_, _, r1, r2, hz, k _ H ρ Ext.refl hp rfl⟩
    · cases e
  · split at e
    · split at e
      · rename_i xs h1 hz
        cases e
        obtain ⟨a, vs, e1, _, ha, r1⟩ := lst_at hp h1 r1
        have l1 := r1.length
        refine op_rep pins s σ H x y v u Q I rx ry ⟨a, _, vs, e1, r2, ha, hz.1, hz.2.1, by rw [← l1]; exact hz.2.2, fun p hn => ?_⟩
        refine k _ _ (ρ ++ [p]) (Ext.newL hp hn) (hp.newLst hn ?_) hp.newLoc
        have all : ∀ n : Nat, RepL X.K H ρ (List.replicate n xs).flatten (List.replicate n vs).flatten := fun n => by
          induction n with
          | zero => rfl
          | succ n ih => rw [List.replicate_succ, List.replicate_succ, List.flatten_cons, List.flatten_cons]; exact r1.append ih
        exact all _
      · cases e
    · cases e
  · split at e
    · rename_i hz
      cases e
      exact op_fdivW pins s σ H x y v u Q I rx ry ⟨_, _, r1, r2, hz, k _ H ρ Ext.refl hp rfl⟩
    · cases e
  · split at e
    · rename_i hz
      cases e
      exact op_mod pins s σ H x y v u Q I rx ry ⟨_, _, r1, r2, hz, k _ H ρ Ext.refl hp rfl⟩
    · cases e
  · split at e
    · rename_i hz
      cases e
      exact op_pow pins s σ H x y v u Q I rx ry ⟨_, _, r1, r2, hz, k _ H ρ Ext.refl hp rfl⟩
    · cases e
theorem r_op {a b : Expr} {fa fb : StD → Store → Option (D × Store)} {p : Pos} (o : Operator) (ha : PE X a (tD X.K fa)) (hb : PE X b (tD X.K fb)) : PE X (.BinOp a o b p) (tD X.K fun τ S => bnd (fa τ S) fun x S1 => bnd (fb τ S1) fun y S2 => opD o x y S2) :=
  (pe_op (op_D o) ha hb).imp fun _ _ _ => tD_2
theorem r_neg {a : Expr} {fa : StD → Store → Option (D × Store)} {p : Pos} (ha : PE X a (tD X.K fa)) : PE X (.UnaryOp .USub a p) (tD X.K fun τ S => bnd (fa τ S) negD) :=
  (pe_un un_neg ha).imp fun σ H Q ⟨ρ, σD, S, d, S', c, e, k⟩ => by
    obtain ⟨x, S1, e1, e2⟩ := bnd_eq e
    cases x <;> first | (cases e2; done) | skip
    cases e2
    exact ⟨ρ, σD, S, _, _, c, e1, fun v H1 ρ1 x1 h1 r1 => ⟨_, r1, k _ H1 ρ1 x1 h1 rfl⟩⟩
theorem r_not {a : Expr} {fa : StD → Store → Option (D × Store)} {p : Pos} (ha : PE X a (tD X.K fa)) : PE X (.UnaryOp .Not a p) (tD X.K fun τ S => bnd (fa τ S) notD) :=
  (pe_not ha).imp fun σ H Q ⟨ρ, σD, S, d, S', c, e, k⟩ => by
    obtain ⟨x, S1, e1, e2⟩ := bnd_eq e
    cases x <;> first | (cases e2; done) | skip
    cases e2
    exact ⟨ρ, σD, S, _, _, c, e1, fun v H1 ρ1 x1 h1 r1 => ⟨_, r1, k _ H1 ρ1 x1 h1 rfl⟩⟩
end
end Mi

end

section
/-! MiD: dicts whose keys are tuples of Nones and ints. -/
namespace Mi
open PySem PySem.Spec L2
theorem hashes_free (w w' : World) : ∀ {ks : List NestedKey} {vs : List V}, Paired LeafV ks vs → NestedKey.hashes w ks = NestedKey.hashes w' ks
  | _, _, .nil => rfl
  | _, _, .cons h r => by
    rw [NestedKey.hashes, NestedKey.hashes, hashes_free w w' r]
    cases h <;> rfl
theorem KeyAt.hash {K : PySem.W.Frag} {H : Hp} {k : NestedKey} {q : Addr} (h : KeyAt K H k q) (w w' : World) : k.hash w = k.hash w' := by
  obtain ⟨ks, vs, rfl, _, p⟩ := h
  rw [NestedKey.hash, NestedKey.hash, hashes_free w w' p]
theorem depth_leaf : ∀ {ks : List NestedKey} {vs : List V}, Paired LeafV ks vs → NestedKey.depthAll ks = 0
  | _, _, .nil => rfl
  | _, _, .cons h r => by
    rw [NestedKey.depthAll, depth_leaf r]
    cases h <;> rfl
theorem nested_all {h : Heap} : ∀ {ks : List NestedKey} {vs : List V} {us : List Value}, Paired LeafV ks vs → Vals vs us → NestedAll h ks us
  | _, _, _, .nil, .nil => .nil
  | _, _, _, .cons a r, .cons b t => by
    refine .cons ?_ (nested_all r t)
    cases a with
    | non => cases (show _ = Value.none from b); exact .none
    | int i =>
      obtain ⟨tk, e⟩ := (show ∃ t, _ = Value.int i t from b)
      subst e
      exact .int i tk
section
variable {X : Cx} {pins : List (Addr × Obj)} {σ : L2.St} {H : Hp} {s : Shared} {a q : Addr}
theorem key_is {k : NestedKey} (I : L2.Inv X pins σ H s) (h : KeyAt X.K H k q) : (nestedKind X.prog X.w).is s.heap k q := by
  obtain ⟨ks, vs, rfl, ht, p⟩ := h
  obtain ⟨its, rv, ⟨o, ho, hc, n, hd⟩, _⟩ := I.tuple ht.sq
  exact ⟨.tup ho hc hd (by simpa using nested_all p rv), by rw [NestedKey.depth, depth_leaf p]; decide⟩
abbrev DRel (K : PySem.W.Frag) (H : Hp) (p : NestedKey × V) (x : NestedKey × Addr × Value) : Prop := p.1 = x.1 ∧ KeyAt K H x.1 x.2.1 ∧ RelV p.2 x.2.2
theorem drel_key {K : PySem.W.Frag} {H : Hp} : ∀ {ws : List (NestedKey × V)} {xs : List (NestedKey × Addr × Value)}, Paired (DRel K H) ws xs → ∀ x ∈ xs, KeyAt K H x.1 x.2.1
  | _, _, .nil, x, h => by simp at h
  | _, _, .cons a r, x, h => by
    rcases List.mem_cons.mp h with rfl | h
    · exact a.2.1
    · exact drel_key r x h
theorem dit_dd {xs : List (NestedKey × Addr × Value)} (I : L2.Inv X pins σ H s) (e : H a = some (dtO a xs)) (hk : ∀ x ∈ xs, KeyAt X.K H x.1 x.2.1) :
    (a == sysModules) = false ∧ xs.length ≤ sizeLine ∧ s.heap.DictOfH (nestedKind X.prog X.w) a xs := by
  obtain ⟨⟨⟨z1, z2⟩, P, w, o, es, ep, h1, h2, h3, h4, h5⟩, _, _⟩ := (show ObjOk X.prog X.w H s.heap a (dtO a xs) from I.hok a _ e)
  refine ⟨z1, z2, o, es, ep, h1, h2, h3, ?_, fun x hx => key_is I (hk x hx), h5⟩
  rw [h4]
  refine List.map_congr_left fun x hx => ?_
  show (⟨x.1.hash w, _, _⟩ : DictEntry) = ⟨x.1.hash X.w, _, _⟩
  rw [(hk x hx).hash w X.w]
theorem dtO_ok {P : Program} {w : World} {H' : Hp} {h : Heap} {xs : List (NestedKey × Addr × Value)} (z1 : (a == sysModules) = false) (z2 : xs.length ≤ sizeLine) (d : h.DictOfH (nestedKind P w) a xs) : ObjOk P w H' h a (dtO a xs) := by
  obtain ⟨o, es, ep, h1, h2, h3, h4, _, h5⟩ := d
  exact ⟨⟨⟨z1, z2⟩, P, w, o, es, ep, h1, h2, h3, h4, h5⟩, ⟨o, h1⟩, fun ha hb ⟨z, P, w, o, es, ep, h1, h2⟩ k => ⟨z, P, w, o, es, ep, k _ h1, h2⟩⟩
theorem drel_val {K : PySem.W.Frag} {H : Hp} {k : NestedKey} : ∀ {ws : List (NestedKey × V)} {xs : List (NestedKey × Addr × Value)}, Paired (DRel K H) ws xs → RelO (valV ws k) ((atKey xs k).map (·.2))
  | _, _, .nil => True.intro
  | _, _, @Paired.cons _ _ _ p x l m a r => by
    obtain ⟨e, _, rv⟩ := a
    by_cases h : p.1 = k
    · have h' : x.1 = k := e ▸ h
      rw [valV_pos h]
      simp only [atKey, List.find?_cons, h', decide_true, Option.map_some]
      exact rv
    · have h' : ¬ x.1 = k := e ▸ h
      rw [valV_neg h]
      have := drel_val (k := k) r
      simp only [atKey, List.find?_cons, h', decide_false] at this ⊢
      exact this
theorem drel_isSome {K : PySem.W.Frag} {H : Hp} {k : NestedKey} {ws : List (NestedKey × V)} {xs : List (NestedKey × Addr × Value)} (r : Paired (DRel K H) ws xs) : (valV ws k).isSome = (atKey xs k).isSome := by
  have := drel_val (k := k) r
  cases h1 : valV ws k with
  | none => rw [h1] at this; cases h2 : atKey xs k with
    | none => rfl
    | some p => rw [h2] at this; exact this.elim
  | some v => rw [h1] at this; cases h2 : atKey xs k with
    | none => rw [h2] at this; exact this.elim
    | some p => rfl
theorem any_valV {ws : List (NestedKey × V)} {k : NestedKey} : (ws.any fun kv => decide (kv.1 = k)) = (valV ws k).isSome := by
  induction ws with
  | nil => rfl
  | cons p r ih =>
    by_cases h : p.1 = k
    · rw [valV_pos h]; simp [h]
    · rw [valV_neg h, ← ih]; simp [h]
theorem drel_put {K : PySem.W.Frag} {H : Hp} {k : NestedKey} {b : Addr} {v : V} {u : Value} (hk : KeyAt K H k b) (rv : RelV v u) {ws : List (NestedKey × V)} {xs : List (NestedKey × Addr × Value)} (r : Paired (DRel K H) ws xs) :
    Paired (DRel K H) (if (ws.any fun kv => decide (kv.1 = k)) = true then ws.map (fun kv => if kv.1 = k then (kv.1, v) else kv) else ws ++ [(k, v)]) (storedH xs k b u) := by
  unfold storedH
  rw [any_valV, drel_isSome r]
  split
  · rename_i hsm
    clear hk hsm
    induction r with
    | nil => exact .nil
    | @cons p x l m a r ih =>
      refine .cons ?_ ih
      obtain ⟨e, ka, rr⟩ := a
      unfold putAt
      dsimp only
      by_cases h : p.1 = k
      · have h' : x.1 = k := e ▸ h
        rw [if_pos h, if_pos h']
        exact ⟨e, ka, rv⟩
      · have h' : ¬ x.1 = k := e ▸ h
        rw [if_neg h, if_neg h']
        exact ⟨e, ka, rr⟩
  · exact r.snoc ⟨rfl, hk, rv⟩
end
section
variable {K : PySem.W.Frag} {H : Hp} {ρ : List Addr} {S : Store}
theorem dit_at (hp : HRep K H ρ S) {m : Nat} {kvs : List (NestedKey × D)} {v : V} (e : S[m]? = some (.dit kvs)) (r : Rep K H ρ (.loc m) v) :
    ∃ a ws, v = .ref a ∧ ρ[m]? = some a ∧ DitAt K H a ws ∧ ws.map (·.1) = kvs.map (·.1) ∧ RepL K H ρ (kvs.map (·.2)) (ws.map (·.2)) := by
  obtain ⟨a, ev, ea⟩ := r
  obtain ⟨vs, h1, h2, h3⟩ := hp.ob m _ a e ea
  exact ⟨a, vs, ev, ea, h1, h2, h3⟩
theorem leaf_ok : ∀ {ds : List D} {ks : List NestedKey} {vs : List V}, mapO leafK ds = some ks → RepL K H ρ ds vs → Paired LeafV ks vs
  | [], ks, vs, e, r => by
    cases e
    cases (show vs = [] from r)
    exact .nil
  | d :: ds, ks, vs, e, r => by
    obtain ⟨v, w, rfl, r1, r2⟩ := r
    unfold mapO at e
    cases h1 : leafK d with
    | none => rw [h1] at e; cases e
    | some b =>
      rw [h1] at e
      dsimp only at e
      cases h2 : mapO leafK ds with
      | none => rw [h2] at e; cases e
      | some bs =>
        rw [h2] at e
        cases e
        refine .cons ?_ (leaf_ok h2 r2)
        cases d <;> first | (cases h1; done) | skip
        · cases h1; cases (show v = .non from r1); exact .non
        · cases h1; cases (show v = .int _ from r1); exact .int _
theorem keyT_ok {ks : List D} {k : NestedKey} {v : V} (e : keyT ks = some k) (r : Rep K H ρ (.tup ks) v) : ∃ q, v = .ref q ∧ KeyAt K H k q := by
  obtain ⟨l, e1, rfl⟩ := Option.map_eq_some_iff.mp e
  obtain ⟨q, vs, rfl, ht, rr⟩ := r
  exact ⟨q, rfl, l, vs, rfl, ht, leaf_ok e1 rr⟩
end
section
variable {X : Cx} {pins : List (Addr × Obj)} {σ : L2.St} {H : Hp} {s : Shared} {a q : Addr} {k : NestedKey} {ws : List (NestedKey × V)} {A : Around} {E : Value → Shared → Prop}
theorem dit_getItem {v : V} {Q : Value → Shared → Prop} (hu : A.units + 9 < cLine) (I : L2.Inv X pins σ H s) (h : DitAt X.K H a ws) (hk : KeyAt X.K H k q) (l : valV ws k = some v) (hq : ∀ u s', L2.Inv X pins σ H s' → RelV v u → Q u s') :
    s.TypeIs (.ref a) "dict" ∧ wpAny (model X.prog X.w) A (getItem (.ref a) (.ref q)) Q E s := by
  obtain ⟨xs, e, r⟩ := h
  obtain ⟨z1, z2, dd⟩ := dit_dd I e (drel_key r)
  refine ⟨dd.typeIs, ?_⟩
  obtain ⟨w', hw, rw'⟩ := RelO.some_of (v := v) (o := (atKey xs k).map (·.2)) (by rw [← l]; exact drel_val r)
  obtain ⟨p, hp, hp2⟩ := Option.map_eq_some_iff.mp hw
  refine wpAny_getItem_heap (show A.units + 1 + 8 < cLine from hu) (key_is I hk) dd hp ?_
  rw [hp2]
  exact hq w' _ (I.tok _) rw'
theorem dit_in {Q : Value → Shared → Prop} (hu : A.units + 9 < cLine) (I : L2.Inv X pins σ H s) (h : DitAt X.K H a ws) (hk : KeyAt X.K H k q) (hq : ∀ s', L2.Inv X pins σ H s' → Q (.bool (valV ws k).isSome) s') :
    wpAny (model X.prog X.w) A (compareOp .In (.ref q) (.ref a)) Q E s := by
  obtain ⟨xs, e, r⟩ := h
  obtain ⟨z1, z2, dd⟩ := dit_dd I e (drel_key r)
  refine wpAny_in_heap (show A.units + 1 + 8 < cLine from hu) (key_is I hk) z1 dd ?_
  rw [← drel_isSome r]
  exact hq _ (I.tok _)
theorem dit_notIn {Q : Value → Shared → Prop} (hu : A.units + 9 < cLine) (I : L2.Inv X pins σ H s) (h : DitAt X.K H a ws) (hk : KeyAt X.K H k q) (hq : ∀ s', L2.Inv X pins σ H s' → Q (.bool (!(valV ws k).isSome)) s') :
    wpAny (model X.prog X.w) A (compareOp .NotIn (.ref q) (.ref a)) Q E s := by
  obtain ⟨xs, e, r⟩ := h
  obtain ⟨z1, z2, dd⟩ := dit_dd I e (drel_key r)
  refine PyProof.Rows.wpAny_notIn_heap (show A.units + 1 + 8 < cLine from hu) (key_is I hk) z1 dd ?_
  rw [← drel_isSome r]
  exact hq _ (I.tok _)
theorem dit_get1 {Q : Value → Shared → Prop} (hu : A.units + 9 < cLine) (I : L2.Inv X pins σ H s) (h : DitAt X.K H a ws) (hk : KeyAt X.K H k q) (hq : ∀ u s', L2.Inv X pins σ H s' → RelV ((valV ws k).getD .non) u → Q u s') :
    wpAny (model X.prog X.w) A (call (.builtin "dict.get") [.ref a, .ref q]) Q E s := by
  obtain ⟨xs, e, r⟩ := h
  obtain ⟨z1, z2, dd⟩ := dit_dd I e (drel_key r)
  refine call_meetsIn PySem.F.slot_dict_get dd.typeIs PySem.F.entry_dict_get (PySem.F.args_dict_get_2 _ _) (meetsH_dict_get (nestedKind X.prog X.w) a q z1) ⟨show A.units + 1 + 8 < cLine from hu, k, xs, key_is I hk, dd, hq _ _ (I.tok _) ?_⟩
  exact (drel_val r).getD rfl
theorem dit_get2 {d : V} {ud : Value} {Q : Value → Shared → Prop} (hu : A.units + 9 < cLine) (I : L2.Inv X pins σ H s) (h : DitAt X.K H a ws) (hk : KeyAt X.K H k q) (rd : RelV d ud) (hq : ∀ u s', L2.Inv X pins σ H s' → RelV ((valV ws k).getD d) u → Q u s') :
    wpAny (model X.prog X.w) A (call (.builtin "dict.get") [.ref a, .ref q, ud]) Q E s := by
  obtain ⟨xs, e, r⟩ := h
  obtain ⟨z1, z2, dd⟩ := dit_dd I e (drel_key r)
  refine call_meetsIn PySem.F.slot_dict_get dd.typeIs PySem.F.entry_dict_get (PySem.F.args_dict_get_3 _ _ _) (meetsH_dict_get_default (nestedKind X.prog X.w) a q z1 ud) ⟨show A.units + 1 + 8 < cLine from hu, k, xs, key_is I hk, dd, hq _ _ (I.tok _) ?_⟩
  exact (drel_val r).getD rd
theorem dic0_dd (I : L2.Inv X pins σ H s) (e : H a = some (.dK [])) : (a == sysModules) = false ∧ s.heap.DictOfH (nestedKind X.prog X.w) a [] := by
  obtain ⟨z, hd, vs, rel, o1, es, ep, g1, g2, g3, g4, g5, g6⟩ := dk_of I.hok e
  cases rel
  have e0 : es.toList = [] := by generalize es.toList = l at g5; cases g5; rfl
  exact ⟨hd, o1, es, ep, g1, g2, g3, by rw [e0]; rfl, fun x hx => by simp at hx, List.nodup_nil⟩
theorem dic0_get1 {Q : Value → Shared → Prop} (hu : A.units + 9 < cLine) (I : L2.Inv X pins σ H s) (h : H a = some (.dK [])) (hk : KeyAt X.K H k q) (hq : ∀ s', L2.Inv X pins σ H s' → Q .none s') :
    wpAny (model X.prog X.w) A (call (.builtin "dict.get") [.ref a, .ref q]) Q E s := by
  obtain ⟨z1, dd⟩ := dic0_dd I h
  exact call_meetsIn PySem.F.slot_dict_get dd.typeIs PySem.F.entry_dict_get (PySem.F.args_dict_get_2 _ _) (meetsH_dict_get (nestedKind X.prog X.w) a q z1) ⟨show A.units + 1 + 8 < cLine from hu, k, [], key_is I hk, dd, hq _ (I.tok _)⟩
theorem dic0_get2 {ud : Value} {Q : Value → Shared → Prop} (hu : A.units + 9 < cLine) (I : L2.Inv X pins σ H s) (h : H a = some (.dK [])) (hk : KeyAt X.K H k q) (hq : ∀ s', L2.Inv X pins σ H s' → Q ud s') :
    wpAny (model X.prog X.w) A (call (.builtin "dict.get") [.ref a, .ref q, ud]) Q E s := by
  obtain ⟨z1, dd⟩ := dic0_dd I h
  exact call_meetsIn PySem.F.slot_dict_get dd.typeIs PySem.F.entry_dict_get (PySem.F.args_dict_get_3 _ _ _) (meetsH_dict_get_default (nestedKind X.prog X.w) a q z1 ud) ⟨show A.units + 1 + 8 < cLine from hu, k, [], key_is I hk, dd, hq _ (I.tok _)⟩
/-- a[q] = v -/
theorem dit_setItem {v : V} {u : Value} {Q : Unit → Shared → Prop} (hu : A.units + 9 < cLine) (I : L2.Inv X pins σ H s) {xs : List (NestedKey × Addr × Value)} (dd : s.heap.DictOfH (nestedKind X.prog X.w) a xs) (z1 : (a == sysModules) = false) (hl : xs.length < sizeLine) (mu : Mut (H a)) (hk : KeyAt X.K H k q)
    (hq : ∀ s', L2.Inv X pins σ (upd H a (dtO a (storedH xs k q u))) s' → Q () s') : wpAny (model X.prog X.w) A (setItem (.ref a) (.ref q) u) Q E s := by
  refine wpAny_setItem_heap (hsz := Nat.le_of_lt hl) (show A.units + 1 + 8 < cLine from hu) (key_is I hk) dd fun h' dd' hs => hq _ ?_
  have he : ∃ o, h'.get? a = some o := let ⟨o, _, _, e, _⟩ := dd'; ⟨o, e⟩
  refine d_write I mu hs he (dtO_ok z1 ?_ dd')
  unfold storedH
  split
  · rw [List.length_map]; omega
  · rw [List.length_append]; exact hl
end
end Mi

end

section
/-! Mi4: comparisons, tests, subscripts. -/
namespace Mi
open PySem PySem.Spec L2
section
variable {K : PySem.W.Frag} {H : Hp} {ρ : List Addr} {S : Store}
theorem mapO_ok {β : Type} {f : D → Option β} {P : V → β → Prop} : ∀ {ds : List D} {bs : List β} {vs : List V}, mapO f ds = some bs → RepL K H ρ ds vs → (∀ d b v, f d = some b → Rep K H ρ d v → P v b) → Paired P vs bs
  | [], bs, vs, e, r, _ => by cases e; cases r; exact .nil
  | d :: ds, bs, vs, e, r, h => by
    obtain ⟨v, vr, rfl, r1, r2⟩ := r
    unfold mapO at e
    split at e
    · rename_i b hb
      split at e
      · rename_i br hbr
        cases e
        exact .cons (h d b v hb r1) (mapO_ok hbr r2 h)
      · cases e
    · cases e
theorem dpAll_of {P : PyData → Prop} : ∀ {vs : List V} {ps : List PyData}, Paired (fun v p => Dp K H v p ∧ P p) vs ps → DpAll K H vs ps ∧ ∀ p ∈ ps, P p
  | _, _, .nil => ⟨.nil, fun p h => nomatch h⟩
  | _, _, .cons h t => ⟨.cons h.1 (dpAll_of t).1, fun p hp => by
      rcases List.mem_cons.mp hp with rfl | hp
      · exact h.2
      · exact (dpAll_of t).2 p hp⟩
theorem canLayAll_of : ∀ {ps : List PyData}, (∀ p ∈ ps, p.canLay0 = true) → PyData.canLayAll0 ps = true
  | [], _ => by simp [PyData.canLayAll0]
  | p :: ps, h => by
    simp only [PyData.canLayAll0, Bool.and_eq_true]
    exact ⟨h p List.mem_cons_self, canLayAll_of fun q hq => h q (List.mem_cons_of_mem _ hq)⟩
theorem depthAll_of {n : Nat} : ∀ {ps : List PyData}, (∀ p ∈ ps, p.depth ≤ n) → PyData.depthAll ps ≤ n
  | [], _ => by simp [PyData.depthAll]
  | p :: ps, h => by
    simp only [PyData.depthAll]
    exact Nat.max_le.mpr ⟨h p List.mem_cons_self, depthAll_of fun q hq => h q (List.mem_cons_of_mem _ hq)⟩
theorem toPy_ok (hp : HRep K H ρ S) : ∀ (n : Nat) (d : D) (p : PyData) (v : V), toPy S n d = some p → Rep K H ρ d v → Dp K H v p ∧ (p.canLay0 = true ∧ p.depth ≤ n) := by
  intro n
  have sc : ∀ (m : Nat) (d : D) (p : PyData) (v : V), (∀ ds, d ≠ .tup ds) → (∀ ds, d ≠ .ro ds) → (∀ k, d ≠ .loc k) → toPy S m d = some p → Rep K H ρ d v → Dp K H v p ∧ (p.canLay0 = true ∧ p.depth ≤ m) := by
    intro m d p v h1 h2 h3 e r
    cases d with
    | non => cases r; unfold toPy at e; cases e; exact ⟨.non, by simp [PyData.canLay0], by simp [PyData.depth]⟩
    | bl b => cases r; unfold toPy at e; cases e; exact ⟨.bl _, by simp [PyData.canLay0], by simp [PyData.depth]⟩
    | int b => cases r; unfold toPy at e; cases e; exact ⟨.int _, by simp [PyData.canLay0], by simp [PyData.depth]⟩
    | str x =>
      cases r; unfold toPy at e
      split at e
      · rename_i hx
        cases e; exact ⟨.str _, by simpa [PyData.canLay0] using hx, by simp [PyData.depth]⟩
      · cases e
    | tup ds => exact absurd rfl (h1 ds)
    | ro ds => exact absurd rfl (h2 ds)
    | fn y => unfold toPy at e; cases e
    | loc k => exact absurd rfl (h3 k)
  induction n with
  | zero =>
    intro d p v e r
    cases d with
    | tup ds => unfold toPy at e; cases e
    | ro ds => unfold toPy at e; cases e
    | loc k => unfold toPy at e; cases e
    | _ => exact sc _ _ _ _ (by intro _ z; cases z) (by intro _ z; cases z) (by intro _ z; cases z) e r
  | succ n ih =>
    intro d p v e r
    have all : ∀ {ds : List D} {ps : List PyData} {vs : List V}, mapO (toPy S n) ds = some ps → RepL K H ρ ds vs → DpAll K H vs ps ∧ PyData.canLayAll0 ps = true ∧ PyData.depthAll ps ≤ n := fun {ds ps vs} e r => by
      obtain ⟨h1, h2⟩ := dpAll_of (mapO_ok (P := fun v p => Dp K H v p ∧ (p.canLay0 = true ∧ p.depth ≤ n)) e r fun d b v e' r' => ih d b v e' r')
      exact ⟨h1, canLayAll_of fun p hp => (h2 p hp).1, depthAll_of fun p hp => (h2 p hp).2⟩
    cases d with
    | tup ds =>
      unfold toPy at e
      obtain ⟨ps, e1, e2⟩ := Option.map_eq_some_iff.mp e
      subst e2
      obtain ⟨a, vs, rfl, ha, r1⟩ := r
      obtain ⟨h1, h2, h3⟩ := all e1 r1
      exact ⟨.tup ha.sq h1, by simpa [PyData.canLay0] using h2, by simp [PyData.depth]; exact h3⟩
    | ro ds =>
      unfold toPy at e
      obtain ⟨ps, e1, e2⟩ := Option.map_eq_some_iff.mp e
      subst e2
      obtain ⟨a, vs, rfl, ha, r1⟩ := r
      obtain ⟨h1, h2, h3⟩ := all e1 r1
      exact ⟨.lst ha.sq h1, by simpa [PyData.canLay0] using h2, by simp [PyData.depth]; exact h3⟩
    | loc k =>
      unfold toPy at e
      split at e
      · rename_i ds hS
        obtain ⟨ps, e1, e2⟩ := Option.map_eq_some_iff.mp e
        subst e2
        obtain ⟨a, vs, rfl, _, ha, r1⟩ := lst_at hp hS r
        obtain ⟨h1, h2, h3⟩ := all e1 r1
        exact ⟨.lst (.of ha) h1, by simpa [PyData.canLay0] using h2, by simp [PyData.depth]; exact h3⟩
      · cases e
    | _ => exact sc _ _ _ _ (by intro _ z; cases z) (by intro _ z; cases z) (by intro _ z; cases z) e r
theorem room_of {A : Around} {p q : PyData} (h : p.canLay0 = true ∧ p.depth ≤ 120) (hu : A.units + 125 < cLine) : A.units + min p.depth q.depth < cLine := by
  have h1 := h.2
  have h2 : min p.depth q.depth ≤ p.depth := Nat.min_le_left _ _
  omega
theorem seq_at (hp : HRep K H ρ S) {d : D} {ds : List D} {v : V} (e : seqOf S d = some ds) (r : Rep K H ρ d v) : ∃ a vs, v = .ref a ∧ (SqL K H a vs ∨ SqT K H a vs) ∧ RepL K H ρ ds vs := by
  cases d with
  | tup es => cases e; obtain ⟨a, vs, rfl, ha, r1⟩ := r; exact ⟨a, vs, rfl, .inr ha.sq, r1⟩
  | ro es => cases e; obtain ⟨a, vs, rfl, ha, r1⟩ := r; exact ⟨a, vs, rfl, .inl ha.sq, r1⟩
  | loc m =>
    unfold seqOf at e
    dsimp only at e
    split at e
    · rename_i es hS
      cases e
      obtain ⟨a, vs, rfl, _, ha, r1⟩ := lst_at hp hS r
      exact ⟨a, vs, rfl, .inl (.of ha), r1⟩
    · cases e
  | _ => cases e
theorem flat_ok {d : D} {p : PyData} {v : V} (e : flatPy d = some p) (r : Rep K H ρ d v) : flatV v = true ∧ ∀ {w : V} {q : PyData} {d' : D}, flatPy d' = some q → Rep K H ρ d' w → eqV v w = PyData.eqv p q := by
  cases d with
  | non => cases e; cases r; exact ⟨rfl, fun {w q d'} e' r' => by cases d' <;> first | (cases e'; done) | (cases e'; cases r'; simp [eqV, PyData.eqv])⟩
  | bl b => cases e; cases r; exact ⟨rfl, fun {w q d'} e' r' => by cases d' <;> first | (cases e'; done) | (cases e'; cases r'; simp [eqV, PyData.eqv])⟩
  | int i => cases e; cases r; exact ⟨rfl, fun {w q d'} e' r' => by cases d' <;> first | (cases e'; done) | (cases e'; cases r'; simp [eqV, PyData.eqv])⟩
  | str x => cases e; cases r; exact ⟨rfl, fun {w q d'} e' r' => by cases d' <;> first | (cases e'; done) | (cases e'; cases r'; simp [eqV, PyData.eqv])⟩
  | _ => cases e
theorem inSeq_ok {a : D} {ds : List D} {b : Bool} {v : V} {vs : List V} (e : inSeq a ds = some b) (r : Rep K H ρ a v) (rs : RepL K H ρ ds vs) : flatV v = true ∧ vs.all flatV = true ∧ inV v vs = b := by
  unfold inSeq at e
  split at e
  · rename_i x ys h1 h2
    cases e
    refine ⟨(flat_ok h1 r).1, ?_⟩
    have go : ∀ {ds : List D} {ys : List PyData} {vs : List V}, mapO flatPy ds = some ys → RepL K H ρ ds vs → vs.all flatV = true ∧ inV v vs = ys.any fun y => PyData.eqv y x := by
      intro ds
      induction ds with
      | nil => intro ys vs e r; cases e; cases r; exact ⟨rfl, rfl⟩
      | cons d ds ih =>
        intro ys vs e rr
        obtain ⟨w, vr, rfl, r1, r2⟩ := rr
        unfold mapO at e
        split at e
        · rename_i y hy
          split at e
          · rename_i yr hyr
            cases e
            obtain ⟨i1, i2⟩ := ih hyr r2
            obtain ⟨f1, f2⟩ := flat_ok hy r1
            refine ⟨by rw [List.all_cons, f1, i1]; rfl, ?_⟩
            unfold inV at i2 ⊢
            rw [List.any_cons, List.any_cons, f2 h1 r, i2]
          · cases e
        · cases e
    exact go h2 rs
  · cases e
theorem keyOf_ok {a : D} {k : Key} {v : V} (e : keyOf a = some k) (r : Rep K H ρ a v) : v = kV k := by
  cases a <;> first | (cases e; done) | (cases e; exact r)
theorem getG_ok {κ : Type} [DecidableEq κ] {k : κ} : ∀ {kvs : List (κ × D)} {ws : List (κ × V)}, ws.map (·.1) = kvs.map (·.1) → RepL K H ρ (kvs.map (·.2)) (ws.map (·.2)) →
    (∀ d, getG kvs k = some d → ∃ v, valV ws k = some v ∧ Rep K H ρ d v) ∧ (getG kvs k = none → valV ws k = none) ∧ (valV ws k).isSome = (getG kvs k).isSome
  | [], ws, e, _ => by
    have : ws = [] := by simpa using e
    subst this
    exact ⟨fun d h => (by cases h), fun _ => rfl, rfl⟩
  | (l, x) :: r, ws, e, rr => by
    cases ws with
    | nil => simp at e
    | cons w ws =>
      obtain ⟨l', y⟩ := w
      simp only [List.map_cons, List.cons.injEq] at e
      obtain ⟨e1, e2⟩ := e
      subst e1
      obtain ⟨v, vr, ev, r1, r2⟩ := rr
      simp only [List.map_cons, List.cons.injEq] at ev
      obtain ⟨ev1, ev2⟩ := ev
      subst ev1 ev2
      obtain ⟨i1, i2, i3⟩ := getG_ok (k := k) e2 r2
      by_cases h : l' = k
      · have g1 : getG ((l', x) :: r) k = some x := by simp [getG, List.find?_cons, h]
        have g2 : valV ((l', y) :: ws) k = some y := valV_pos h
        refine ⟨fun d hd => ?_, fun hn => ?_, ?_⟩
        · rw [g1] at hd; cases hd; exact ⟨y, g2, r1⟩
        · rw [g1] at hn; cases hn
        · rw [g1, g2]; rfl
      · have g1 : getG ((l', x) :: r) k = getG r k := by simp [getG, List.find?_cons, h]
        have g2 : valV ((l', y) :: ws) k = valV ws k := valV_neg h
        rw [g1, g2]
        exact ⟨i1, i2, i3⟩
end
section
variable {X : Cx}
theorem in_ok (hu : X.A.units + 9 < cLine) (neg : Bool) : OpR X (compareOp (if neg then .NotIn else .In)) (lift2 X.K fun x y S => opt ((inD x y S).map fun b => .bl (if neg then !b else b)) S) := by
  intro pins s σ H x y v u Q I rx ry ⟨ρ, S, dx, dy, d, S', hp, r1, r2, e, k⟩
  obtain ⟨e1, e0⟩ := opt_eq e
  subst S'
  obtain ⟨b, e2, rfl⟩ := Option.map_eq_some_iff.mp e1
  have seq : ∀ {ds : List D}, seqOf S dy = some ds → inSeq dx ds = some b → wpAny (model X.prog X.w) X.A (compareOp (if neg then .NotIn else .In) v u) (EP X pins σ Q) X.xe s := fun {ds} h1 h2 => by
    obtain ⟨a, vs, rfl, hq, rs⟩ := seq_at hp h1 r2
    obtain ⟨f1, f2, f3⟩ := inSeq_ok h2 r1 rs
    cases neg with
    | true => exact op_notIn_seq pins s σ H x _ v u Q I rx ry ⟨a, vs, rfl, hq, f1, f2, by rw [f3]; exact k _ H ρ Ext.refl hp rfl⟩
    | false => exact op_in_seq pins s σ H x _ v u Q I rx ry ⟨a, vs, rfl, hq, f1, f2, by rw [f3]; exact k _ H ρ Ext.refl hp rfl⟩
  unfold inD at e2
  split at e2
  · rename_i m
    split at e2
    · rename_i kvs hS
      obtain ⟨kk, e3, e4⟩ := Option.map_eq_some_iff.mp e2
      obtain ⟨a, ws, rfl, _, ha, k1, k2⟩ := dic_at hp hS r2
      have ek := keyOf_ok e3 r1
      subst ek
      cases ry
      have g : DGet H a (kV kk) (valV ws kk) := DGet.k ha
      have gs : (valV ws kk).isSome = b := (getG_ok k1 k2).2.2.trans e4
      cases neg with
      | true => exact d_notIn (Nat.lt_of_le_of_lt (Nat.add_le_add_left (by decide) _) hu) I g rx fun s3 I3 => ⟨.bl (!(valV ws kk).isSome), H, I3, rfl, by rw [gs]; exact k _ H ρ Ext.refl hp rfl⟩
      | false => exact d_in (Nat.lt_of_le_of_lt (Nat.add_le_add_left (by decide) _) hu) I g rx fun s3 I3 => ⟨.bl (valV ws kk).isSome, H, I3, rfl, by rw [gs]; exact k _ H ρ Ext.refl hp rfl⟩
    · rename_i kvs hS
      split at e2
      · rename_i ks
        obtain ⟨kk, e3, e4⟩ := Option.map_eq_some_iff.mp e2
        obtain ⟨a, ws, rfl, _, ha, k1, k2⟩ := dit_at hp hS r2
        obtain ⟨q, rfl, hk⟩ := keyT_ok e3 r1
        cases rx
        cases ry
        have gs : (valV ws kk).isSome = b := (getG_ok k1 k2).2.2.trans e4
        cases neg with
        | true => exact dit_notIn hu I ha hk fun s3 I3 => ⟨.bl (!(valV ws kk).isSome), H, I3, rfl, by rw [gs]; exact k _ H ρ Ext.refl hp rfl⟩
        | false => exact dit_in hu I ha hk fun s3 I3 => ⟨.bl (valV ws kk).isSome, H, I3, rfl, by rw [gs]; exact k _ H ρ Ext.refl hp rfl⟩
      · cases e2
    · rename_i ds hS
      exact seq (by unfold seqOf; dsimp only; rw [hS]) e2
    · cases e2
  · exact seq rfl e2
  · exact seq rfl e2
  · cases e2
theorem isNon {K : PySem.W.Frag} {H : Hp} {ρ : List Addr} {d : D} {v : V} (r : Rep K H ρ d v) (h : d ≠ .non) : decide (v = .non) = false := by
  cases d with
  | non => exact absurd rfl h
  | bl b => cases r; rfl
  | int b => cases r; rfl
  | str b => cases r; rfl
  | tup b => obtain ⟨a, vs, rfl, _⟩ := r; rfl
  | ro b => obtain ⟨a, vs, rfl, _⟩ := r; rfl
  | fn b => cases r; rfl
  | loc b => obtain ⟨a, rfl, _⟩ := r; rfl
theorem cmp_D (hu : X.A.units + 125 < cLine) (o : CmpOp) : OpR X (compareOp o) (lift2 X.K fun x y S => opt ((cmpD o x y S).map .bl) S) := by
  intro pins s σ H x y v u Q I rx ry ⟨ρ, S, dx, dy, d, S', hp, r1, r2, e, k⟩
  obtain ⟨e1, e0⟩ := opt_eq e
  subst S'
  obtain ⟨b, e2, rfl⟩ := Option.map_eq_some_iff.mp e1
  have kk : Q (.bl b) H := k _ H ρ Ext.refl hp rfl
  unfold cmpD at e2
  split at e2
  · unfold eqD at e2
    split at e2
    · rename_i p q h1 h2
      cases e2
      obtain ⟨d1, s1⟩ := toPy_ok hp 120 _ _ _ h1 r1
      obtain ⟨d2, s2⟩ := toPy_ok hp 120 _ _ _ h2 r2
      obtain ⟨as, z1⟩ := Dp.reads I p x v d1 rx
      obtain ⟨bs, z2⟩ := Dp.reads I q y u d2 ry
      exact SeqAt.compareEq_reads z1 z2 s1.1 s2.1 (room_of s1 hu) ⟨.bl _, H, I, rfl, kk⟩
    · cases e2
  · obtain ⟨b', e3, rfl⟩ := Option.map_eq_some_iff.mp e2
    unfold eqD at e3
    split at e3
    · rename_i p q h1 h2
      cases e3
      obtain ⟨d1, s1⟩ := toPy_ok hp 120 _ _ _ h1 r1
      obtain ⟨d2, s2⟩ := toPy_ok hp 120 _ _ _ h2 r2
      obtain ⟨as, z1⟩ := Dp.reads I p x v d1 rx
      obtain ⟨bs, z2⟩ := Dp.reads I q y u d2 ry
      exact SeqAt.compareNe_reads z1 z2 s1.1 s2.1 (room_of s1 hu) ⟨.bl _, H, I, rfl, kk⟩
    · cases e3
  · split at e2
    · cases e2
      exact op_lt pins s σ H x y v u Q I rx ry ⟨_, _, r1, r2, kk⟩
    · cases e2
  · split at e2
    · cases e2
      exact op_le pins s σ H x y v u Q I rx ry ⟨_, _, r1, r2, kk⟩
    · cases e2
  · split at e2
    · cases e2
      exact op_gt pins s σ H x y v u Q I rx ry ⟨_, _, r1, r2, kk⟩
    · cases e2
  · split at e2
    · cases e2
      exact op_ge pins s σ H x y v u Q I rx ry ⟨_, _, r1, r2, kk⟩
    · cases e2
  · split at e2
    · cases e2
      cases r1
      cases r2
      exact op_isN pins s σ H _ _ v u Q I rx ry ⟨rfl, kk⟩
    · cases e2
      cases r1
      cases r2
      exact op_isBl pins s σ H _ _ v u Q I rx ry ⟨_, _, rfl, rfl, kk⟩
    · cases e2
      cases r2
      exact op_isN pins s σ H _ _ v u Q I rx ry ⟨rfl, by rw [isNon r1 (by assumption)]; exact kk⟩
    · cases e2
  · split at e2
    · cases e2
      cases r1
      cases r2
      exact op_notN pins s σ H _ _ v u Q I rx ry ⟨rfl, kk⟩
    · cases e2
      cases r1
      cases r2
      exact op_notBl pins s σ H _ _ v u Q I rx ry ⟨_, _, rfl, rfl, kk⟩
    · cases e2
      cases r2
      exact op_notN pins s σ H _ _ v u Q I rx ry ⟨rfl, by rw [isNon r1 (by assumption)]; exact kk⟩
    · cases e2
  · exact in_ok (by omega) false pins s σ H x y v u Q I rx ry ⟨ρ, S, dx, dy, _, S, hp, r1, r2, by dsimp only; rw [e2]; rfl, k⟩
  · obtain ⟨b', e3, rfl⟩ := Option.map_eq_some_iff.mp e2
    exact in_ok (by omega) true pins s σ H x y v u Q I rx ry ⟨ρ, S, dx, dy, _, S, hp, r1, r2, by dsimp only; rw [e3]; rfl, k⟩

section
variable {a b c : Expr} {fa fb fc : StD → Store → Option (D × Store)} {p : Pos}
theorem r_cmp (hu : X.A.units + 125 < cLine) (o : CmpOp) (ha : PE X a (tD X.K fa)) (hb : PE X b (tD X.K fb)) (hm : behindInMarks o b = false) :
    PE X (.Compare a [o] [b] p) (tD X.K fun σ S => bnd (fa σ S) fun x S1 => bnd (fb σ S1) fun y S2 => bnd (opt (cmpD o x y S2) S2) fun k S3 => some (gc S (.bl k) S3)) := by
  refine (pe_gc ((pe_cmpR (cmp_D hu o) ha hb hm).imp fun σ H Q => tD_2)).imp fun σ H Q ⟨ρ, σD, S, d, S', cc, e, k⟩ => ⟨ρ, σD, S, d, S', cc, ?_, k⟩
  obtain ⟨x, S1, e1, e2⟩ := bnd_eq e
  obtain ⟨y, S2, e3, e4⟩ := bnd_eq e2
  obtain ⟨z, S3, e5, e6⟩ := bnd_eq e4
  obtain ⟨e7, e8⟩ := opt_eq e5
  subst S3
  simp only [e1, e3, bnd_some, e7, Option.map_some, opt_some]
  exact e6
theorem t_cmp (hu : X.A.units + 125 < cLine) (o : CmpOp) (ha : PE X a (tD X.K fa)) (hb : PE X b (tD X.K fb)) (hm : behindInMarks o b = false) :
    PT X (.Compare a [o] [b] p) (tDB X.K fun σ S => bnd (fa σ S) fun x S1 => bnd (fb σ S1) fun y S2 => bnd (opt (cmpD o x y S2) S2) fun k S3 => some (k, (gc S (.bl k) S3).2)) := by
  refine (pt_cmpR (cmp_D hu o) ha hb hm).imp fun σ H Q ⟨ρ, σD, S, d, S', cc, e, k⟩ => ?_
  obtain ⟨x, S1, e1, e2⟩ := bnd_eq e
  obtain ⟨y, S2, e3, e4⟩ := bnd_eq e2
  obtain ⟨z, S3, e5, e6⟩ := bnd_eq e4
  obtain ⟨e7, e8⟩ := opt_eq e5
  subst S3
  have e9 := Option.some.inj e6
  injection e9 with e10 e11
  subst e10 e11
  refine tD_2 (tD_gc ⟨ρ, σD, S, .bl z, (gc S (.bl z) S2).2, cc, ?_, fun v H' ρ' x' h' r' => ⟨z, r', k H' ρ' x' h'⟩⟩)
  simp only [e1, e3, bnd_some, e7, Option.map_some, opt_some]
  unfold gc
  split <;> rfl
theorem r_chn (hu : X.A.units + 125 < cLine) (o q : CmpOp) (ha : PE X a (tD X.K fa)) (hb : PE X b (tD X.K fb)) (hc : PE X c (tD X.K fc)) (hm : lastMarks [o, q] [b, c] = false) :
    PE X (.Compare a [o, q] [b, c] p) (tD X.K fun σ S => bnd (fa σ S) fun x S1 => bnd (fb σ S1) fun y S2 => bnd (opt (cmpD o x y S2) S2) (iteD (fun S3 => bnd (fc σ S3) fun z S4 => opt ((cmpD q y z S4).map .bl) S4) (fun S3 => some (.bl false, S3)))) := by
  refine (pe_chain (cmp_D hu o) (cmp_D hu q) ha hb hc hm).imp fun σ H Q ⟨ρ, σD, S, d, S', cc, e, k⟩ => ?_
  obtain ⟨x, S1, e1, e2⟩ := bnd_eq e
  obtain ⟨y, S2, e3, e4⟩ := bnd_eq e2
  obtain ⟨z, S3, e5, e6⟩ := bnd_eq e4
  obtain ⟨e7, e8⟩ := opt_eq e5
  subst S3
  refine ⟨ρ, σD, S, x, S1, cc, e1, fun v H1 ρ1 x1 h1 r1 => ⟨ρ1, σD, S1, y, S2, cc.ext x1 h1, e3, fun w H2 ρ2 x2 h2 r2 => ?_⟩⟩
  refine ⟨ρ2, S2, x, y, .bl z, S2, h2, x2.rep h1 _ _ r1, r2, by dsimp only; rw [e7]; rfl, fun u H3 ρ3 x3 h3 r3 => ⟨z, r3, ?_⟩⟩
  cases z with
  | true =>
    rw [if_pos rfl]
    obtain ⟨zz, S4, e9, e10⟩ := bnd_eq (show bnd (fc σD S2) _ = some (d, S') from e6)
    have x13 := (x1.trans x2).trans x3
    refine ⟨ρ3, σD, S2, zz, S4, cc.ext x13 h3, e9, fun w' H4 ρ4 x4 h4 r4 => ?_⟩
    exact ⟨ρ4, S4, y, zz, d, S', h4, x4.rep h3 _ _ (x3.rep h2 _ _ r2), r4, e10, fun v' H' ρ' x' h' r' => k v' H' ρ' ((x13.trans x4).trans x') h' r'⟩
  | false =>
    rw [if_neg Bool.false_ne_true]
    have e9 := Option.some.inj (show some (D.bl false, S2) = some (d, S') from e6)
    injection e9 with e10 e11
    subst e10 e11
    exact k _ H3 ρ3 ((x1.trans x2).trans x3) h3 rfl
theorem t_chn (hu : X.A.units + 125 < cLine) (o q : CmpOp) (ha : PE X a (tD X.K fa)) (hb : PE X b (tD X.K fb)) (hc : PE X c (tD X.K fc)) (hm : lastMarks [o, q] [b, c] = false) :
    PT X (.Compare a [o, q] [b, c] p) (tDB X.K fun σ S => bnd (fa σ S) fun x S1 => bnd (fb σ S1) fun y S2 => bnd (opt (cmpD o x y S2) S2) (iteD (fun S3 => bnd (fc σ S3) fun z S4 => opt (cmpD q y z S4) S4) (fun S3 => some (false, S3)))) := by
  refine (pt_chain (cmp_D hu o) (cmp_D hu q) ha hb hc hm).imp fun σ H Q ⟨ρ, σD, S, d, S', cc, e, k⟩ => ?_
  obtain ⟨x, S1, e1, e2⟩ := bnd_eq e
  obtain ⟨y, S2, e3, e4⟩ := bnd_eq e2
  obtain ⟨z, S3, e5, e6⟩ := bnd_eq e4
  obtain ⟨e7, e8⟩ := opt_eq e5
  subst S3
  refine ⟨ρ, σD, S, x, S1, cc, e1, fun v H1 ρ1 x1 h1 r1 => ⟨ρ1, σD, S1, y, S2, cc.ext x1 h1, e3, fun w H2 ρ2 x2 h2 r2 => ?_⟩⟩
  refine ⟨ρ2, S2, x, y, .bl z, S2, h2, x2.rep h1 _ _ r1, r2, by dsimp only; rw [e7]; rfl, fun u H3 ρ3 x3 h3 r3 => ⟨z, r3, ?_⟩⟩
  cases z with
  | true =>
    rw [if_pos rfl]
    obtain ⟨zz, S4, e9, e10⟩ := bnd_eq (show bnd (fc σD S2) _ = some (d, S') from e6)
    have x13 := (x1.trans x2).trans x3
    refine ⟨ρ3, σD, S2, zz, S4, cc.ext x13 h3, e9, fun w' H4 ρ4 x4 h4 r4 => ?_⟩
    obtain ⟨e11, e12⟩ := opt_eq e10
    subst e12
    exact ⟨ρ4, _, y, zz, .bl d, _, h4, x4.rep h3 _ _ (x3.rep h2 _ _ r2), r4, by dsimp only; rw [e11]; rfl, fun v' H' ρ' x' h' r' => ⟨d, r', k H' ρ' ((x13.trans x4).trans x') h'⟩⟩
  | false =>
    rw [if_neg Bool.false_ne_true]
    have e9 := Option.some.inj (show some (false, S2) = some (d, S') from e6)
    injection e9 with e10 e11
    subst e10 e11
    exact ⟨false, rfl, k H3 ρ3 ((x1.trans x2).trans x3) h3⟩

/-! ### truth, and, or, if -/
theorem truth_ok {K : PySem.W.Frag} {H : Hp} {ρ : List Addr} {S : Store} (hp : HRep K H ρ S) {d : D} {v : V} {b : Bool} (e : truthD S d = some b) (r : Rep K H ρ d v) : TruV K v H b := by
  cases d with
  | non => cases e; cases r; rfl
  | bl b => cases e; cases r; rfl
  | int i => cases e; cases r; rfl
  | str x =>
    unfold truthD at e
    dsimp only at e
    split at e
    · rename_i hz; cases e; cases r; exact ⟨hz, rfl⟩
    · cases e
  | tup ds =>
    cases e
    obtain ⟨a, vs, rfl, ha, r1⟩ := r
    refine .inr (.inl ⟨vs, ha.sq, ?_⟩)
    have := r1.length
    cases ds <;> cases vs <;> first | rfl | (simp at this)
  | fn y => cases e
  | ro ds =>
    cases e
    obtain ⟨a, vs, rfl, ha, r1⟩ := r
    refine .inl ⟨vs, ha.sq, ?_⟩
    have := r1.length
    cases ds <;> cases vs <;> first | rfl | (simp at this)
  | loc m =>
    unfold truthD at e
    dsimp only at e
    split at e
    · rename_i ds hS
      cases e
      obtain ⟨a, vs, rfl, _, ha, r1⟩ := lst_at hp hS r
      refine .inl ⟨vs, .of ha, ?_⟩
      have := r1.length
      cases ds <;> cases vs <;> first | rfl | (simp at this)
    · rename_i kvs hS
      cases e
      obtain ⟨a, ws, rfl, _, ha, k1, _⟩ := dic_at hp hS r
      refine .inr (.inr ⟨ws, ha, ?_⟩)
      cases kvs <;> cases ws <;> first | rfl | (simp at k1)
    · cases e
theorem t_truth (ha : PE X a (tD X.K fa)) (he : ∀ whole, isTrue a X.env whole = (do let v ← whole; standAt a.pos; holding [v] (truthy v))) : PT X a (tDB X.K (plain fa).b) :=
  (pt_truth ha he).imp fun σ H Q ⟨ρ, σD, S, d, S', cc, e, k⟩ => by
    obtain ⟨x, S1, e1, e2⟩ := bnd_eq e
    obtain ⟨e3, e4⟩ := opt_eq e2
    subst e4
    exact ⟨ρ, σD, S, x, _, cc, e1, fun v H1 ρ1 x1 h1 r1 => ⟨d, truth_ok h1 e3 r1, k H1 ρ1 x1 h1⟩⟩
variable {ga gb gc' : StD → Store → Option (Bool × Store)}
theorem t_not (ha : PT X a (tDB X.K ga)) : PT X (.UnaryOp .Not a p) (tDB X.K fun σ S => bnd (ga σ S) fun b S1 => some (!b, S1)) :=
  (pt_not ha).imp fun σ H Q ⟨ρ, σD, S, d, S', cc, e, k⟩ => by
    obtain ⟨x, S1, e1, e2⟩ := bnd_eq e
    have e3 := Option.some.inj e2
    injection e3 with e4 e5
    subst e4 e5
    exact ⟨ρ, σD, S, x, _, cc, e1, fun H1 ρ1 x1 h1 => k H1 ρ1 x1 h1⟩
theorem r_ifx (hc : PT X c (tDB X.K gc')) (ha : PE X a (tD X.K fa)) (hb : PE X b (tD X.K fb)) : PE X (.IfExp c a b p) (tD X.K fun σ S => bnd (gc' σ S) (iteD (fa σ) (fb σ))) :=
  (pe_ifExp hc ha hb).imp fun σ H Q ⟨ρ, σD, S, d, S', cc, e, k⟩ => by
    obtain ⟨x, S1, e1, e2⟩ := bnd_eq e
    refine ⟨ρ, σD, S, x, S1, cc, e1, fun H1 ρ1 x1 h1 => ?_⟩
    cases x with
    | true => rw [if_pos rfl]; exact ⟨ρ1, σD, S1, d, S', cc.ext x1 h1, e2, fun v H2 ρ2 x2 h2 r2 => k v H2 ρ2 (x1.trans x2) h2 r2⟩
    | false => rw [if_neg Bool.false_ne_true]; exact ⟨ρ1, σD, S1, d, S', cc.ext x1 h1, e2, fun v H2 ρ2 x2 h2 r2 => k v H2 ρ2 (x1.trans x2) h2 r2⟩
theorem t_ifx (hc : PT X c (tDB X.K gc')) (ha : PT X a (tDB X.K ga)) (hb : PT X b (tDB X.K gb)) : PT X (.IfExp c a b p) (tDB X.K fun σ S => bnd (gc' σ S) (iteD (ga σ) (gb σ))) := by
  refine ⟨fun pins s σ H Q I ⟨ρ, σD, S, d, S', cc, e, k⟩ => ?_⟩
  obtain ⟨x, S1, e1, e2⟩ := bnd_eq e
  refine PyProof.Rows.isTrue_IfExp (thn (hc.run pins s σ H (fun b H1 => if b = true then tDB X.K ga σ H1 Q else tDB X.K gb σ H1 Q) I ⟨ρ, σD, S, x, S1, cc, e1, fun H1 ρ1 x1 h1 => ?_⟩) fun d s1 ⟨H1, I1, q1⟩ => ?_)
  · cases x with
    | true => rw [if_pos rfl]; exact ⟨ρ1, σD, S1, d, S', cc.ext x1 h1, e2, fun H2 ρ2 x2 h2 => k H2 ρ2 (x1.trans x2) h2⟩
    | false => rw [if_neg Bool.false_ne_true]; exact ⟨ρ1, σD, S1, d, S', cc.ext x1 h1, e2, fun H2 ρ2 x2 h2 => k H2 ρ2 (x1.trans x2) h2⟩
  · cases d with
    | true => exact ha.run pins s1 σ H1 Q I1 q1
    | false => exact hb.run pins s1 σ H1 Q I1 q1
theorem _root_.L2.PW.imp {e : Expr} {t t' : TT} (h : PW X e t) (i : ∀ σ H Q, t' σ H Q → t σ H Q) : PW X e t' := ⟨fun wh pins s σ H Q I hw => h.run wh pins s σ H Q I (i σ H Q hw)⟩
theorem w_one {o : BoolOp} (ha : PT X a (tDB X.K ga)) : PW X (.BoolOp o [a] p) (tDB X.K ga) := by
  cases o with
  | And => exact pw_and1 ha
  | Or => exact pw_or1 ha
theorem w_more {o : BoolOp} {r : List Expr} (ha : PT X a (tDB X.K ga)) (hb : PW X (.BoolOp o (b :: r) p) (tDB X.K gb)) : PW X (.BoolOp o (a :: b :: r) p) (tDB X.K fun σ S => bnd (ga σ S) (bopB o fun S1 => gb σ S1)) := by
  have go : ∀ {t : TT}, PW X (.BoolOp o (a :: b :: r) p) t → (∀ σ H Q, tDB X.K (fun σ S => bnd (ga σ S) (bopB o fun S1 => gb σ S1)) σ H Q → t σ H Q) → PW X (.BoolOp o (a :: b :: r) p) (tDB X.K fun σ S => bnd (ga σ S) (bopB o fun S1 => gb σ S1)) := fun h i => h.imp i
  cases o with
  | And =>
    refine go (pw_and ha hb) fun σ H Q ⟨ρ, σD, S, d, S', cc, e, k⟩ => ?_
    obtain ⟨x, S1, e1, e2⟩ := bnd_eq e
    refine ⟨ρ, σD, S, x, S1, cc, e1, fun H1 ρ1 x1 h1 => ?_⟩
    cases x with
    | true => rw [if_pos rfl]; exact ⟨ρ1, σD, S1, d, S', cc.ext x1 h1, e2, fun H2 ρ2 x2 h2 => k H2 ρ2 (x1.trans x2) h2⟩
    | false =>
      rw [if_neg Bool.false_ne_true]
      have e3 := Option.some.inj (show some (false, S1) = some (d, S') from e2)
      injection e3 with e4 e5
      subst e4 e5
      exact k H1 ρ1 x1 h1
  | Or =>
    refine go (pw_or ha hb) fun σ H Q ⟨ρ, σD, S, d, S', cc, e, k⟩ => ?_
    obtain ⟨x, S1, e1, e2⟩ := bnd_eq e
    refine ⟨ρ, σD, S, x, S1, cc, e1, fun H1 ρ1 x1 h1 => ?_⟩
    cases x with
    | false => rw [if_neg Bool.false_ne_true]; exact ⟨ρ1, σD, S1, d, S', cc.ext x1 h1, e2, fun H2 ρ2 x2 h2 => k H2 ρ2 (x1.trans x2) h2⟩
    | true =>
      rw [if_pos rfl]
      have e3 := Option.some.inj (show some (true, S1) = some (d, S') from e2)
      injection e3 with e4 e5
      subst e4 e5
      exact k H1 ρ1 x1 h1
theorem r_more {o : BoolOp} {r : List Expr} (ha : PE X a (tD X.K fa)) (hb : PE X (.BoolOp o (b :: r) p) (tD X.K fb)) : PE X (.BoolOp o (a :: b :: r) p) (tD X.K fun σ S => bnd (fa σ S) (bopD o fun S1 => fb σ S1)) := by
  have bl : ∀ {x : D} {S1 : Store} {kk : Store → Option (D × Store)} {r : D × Store}, bopD o kk x S1 = some r → ∃ b, x = .bl b := fun {x S1 kk r} h => by
    cases x <;> first | (cases h; done) | exact ⟨_, rfl⟩
  cases o with
  | And =>
    refine (pe_and ha hb).imp fun σ H Q ⟨ρ, σD, S, d, S', cc, e, k⟩ => ?_
    obtain ⟨x, S1, e1, e2⟩ := bnd_eq e
    obtain ⟨z, rfl⟩ := bl e2
    refine ⟨ρ, σD, S, _, S1, cc, e1, fun v H1 ρ1 x1 h1 r1 => ⟨z, r1, ?_⟩⟩
    cases z with
    | true => rw [if_pos rfl]; exact ⟨ρ1, σD, S1, d, S', cc.ext x1 h1, e2, fun v H2 ρ2 x2 h2 r2 => k v H2 ρ2 (x1.trans x2) h2 r2⟩
    | false =>
      rw [if_neg Bool.false_ne_true]
      have e3 := Option.some.inj (show some (D.bl false, S1) = some (d, S') from e2)
      injection e3 with e4 e5
      subst e4 e5
      exact k _ H1 ρ1 x1 h1 rfl
  | Or =>
    refine (pe_or ha hb).imp fun σ H Q ⟨ρ, σD, S, d, S', cc, e, k⟩ => ?_
    obtain ⟨x, S1, e1, e2⟩ := bnd_eq e
    obtain ⟨z, rfl⟩ := bl e2
    refine ⟨ρ, σD, S, _, S1, cc, e1, fun v H1 ρ1 x1 h1 r1 => ⟨z, r1, ?_⟩⟩
    cases z with
    | false => rw [if_neg Bool.false_ne_true]; exact ⟨ρ1, σD, S1, d, S', cc.ext x1 h1, e2, fun v H2 ρ2 x2 h2 r2 => k v H2 ρ2 (x1.trans x2) h2 r2⟩
    | true =>
      rw [if_pos rfl]
      have e3 := Option.some.inj (show some (D.bl true, S1) = some (d, S') from e2)
      injection e3 with e4 e5
      subst e4 e5
      exact k _ H1 ρ1 x1 h1 rfl

/-! ### subscripts -/
theorem atI_ok {K : PySem.W.Frag} {H : Hp} {ρ : List Addr} {ds : List D} {vs : List V} {i : Int} {d : D} (r : RepL K H ρ ds vs) (e : atI ds i = some d) : ∃ v, atI vs i = some v ∧ Rep K H ρ d v := by
  unfold atI at e ⊢
  rw [← r.length]
  cases h : ixN ds.length i with
  | none => rw [h] at e; cases e
  | some j =>
    rw [h] at e
    exact r.get (i := j) e
theorem ix_D (hu : X.A.units + 9 < cLine) : IxR X (lift2 X.K fun x y S => opt (ixD x y S) S) := by
  intro value slice pins s σ H x y v u Q I rx ry ⟨ρ, S, dx, dy, d, S', hp, r1, r2, e, k⟩ hs
  obtain ⟨e1, e0⟩ := opt_eq e
  subst S'
  have dic : ∀ {m : Nat} {kvs : List (Key × D)} {kk : Key}, dx = .loc m → S[m]? = some (.dic kvs) → getG kvs kk = some d → y = kV kk → wpAny (model X.prog X.w) X.A (PyProof.Rows.subscriptTail value slice v u) (EP X pins σ Q) X.xe s := fun {m kvs kk} h1 h2 h3 h4 => by
    subst h1 h4
    obtain ⟨a, ws, rfl, _, ha, k1, k2⟩ := dic_at hp h2 r1
    obtain ⟨w, g1, g2⟩ := (getG_ok k1 k2).1 d h3
    have g : DGet H a (kV kk) (some w) := by rw [← g1]; exact DGet.k ha
    cases rx
    exact PyProof.Rows.tail_any (dict_typeIs I g) PySem.F.slot_dict_getitem.lookup (d_getItem (Nat.lt_of_le_of_lt (Nat.add_le_add_left (by decide) _) hu) I g ry fun w' s3 I3 rw' => ⟨w, H, I3, rw', k w H ρ Ext.refl hp g2⟩) hs
  unfold ixD at e1
  split at e1
  · rename_i kk
    split at e1
    · rename_i m
      split at e1
      · rename_i ds hS
        obtain ⟨a, vs, rfl, _, ha, rs⟩ := lst_at hp hS r1
        obtain ⟨w, g1, g2⟩ := atI_ok rs e1
        exact ix_list value slice pins s σ H _ y v u Q I rx ry ⟨a, vs, kk, w, rfl, r2, .of ha, g1, k w H ρ Ext.refl hp g2⟩ hs
      · rename_i kvs hS
        exact dic rfl hS e1 r2
      · cases e1
    · obtain ⟨a, vs, rfl, ha, rs⟩ := r1
      obtain ⟨w, g1, g2⟩ := atI_ok rs e1
      exact ix_tup value slice pins s σ H _ y v u Q I rx ry ⟨a, vs, kk, w, rfl, r2, ha.sq, g1, k w H ρ Ext.refl hp g2⟩ hs
    · obtain ⟨a, vs, rfl, ha, rs⟩ := r1
      obtain ⟨w, g1, g2⟩ := atI_ok rs e1
      exact ix_list value slice pins s σ H _ y v u Q I rx ry ⟨a, vs, kk, w, rfl, r2, ha.sq, g1, k w H ρ Ext.refl hp g2⟩ hs
    · cases e1
  · split at e1
    · split at e1
      · rename_i kvs hS
        exact dic rfl hS e1 r2
      · cases e1
    · cases e1
  · rename_i ks
    split at e1
    · rename_i m
      split at e1
      · rename_i kvs hS
        split at e1
        · rename_i kk hk
          obtain ⟨a, ws, rfl, _, ha, k1, k2⟩ := dit_at hp hS r1
          obtain ⟨q, rfl, hk⟩ := keyT_ok hk r2
          obtain ⟨w, g1, g2⟩ := (getG_ok k1 k2).1 d e1
          cases rx
          cases ry
          obtain ⟨ty, go⟩ := dit_getItem (A := X.A) (E := X.xe) hu I ha hk g1 (Q := EP X pins σ Q) fun u s3 I3 ru => ⟨w, H, I3, ru, k w H ρ Ext.refl hp g2⟩
          exact PyProof.Rows.tail_any ty PySem.F.slot_dict_getitem.lookup go hs
        · cases e1
      · cases e1
    · cases e1
  · cases e1
theorem r_ix (hu : X.A.units + 9 < cLine) (ha : PE X a (tD X.K fa)) (hb : PE X b (tD X.K fb)) (hs : PlainIx b) :
    PE X (.Subscript a b p) (tD X.K fun σ S => bnd (fa σ S) fun x S1 => bnd (fb σ S1) fun y S2 => bnd (opt (ixD x y S2) S2) fun z S3 => some (gc S z S3)) := by
  refine (pe_gc ((pe_ix (ix_D hu) ha hb hs).imp fun σ H Q => tD_2)).imp fun σ H Q ⟨ρ, σD, S, d, S', cc, e, k⟩ => ⟨ρ, σD, S, d, S', cc, ?_, k⟩
  obtain ⟨x, S1, e1, e2⟩ := bnd_eq e
  obtain ⟨y, S2, e3, e4⟩ := bnd_eq e2
  simp only [e1, e3, bnd_some]
  exact e4
def tDo (K : PySem.W.Frag) (f : StD → Store → Option (Option Int × Store)) : TO := fun σ H Q => ∃ ρ σD S b S', Cor K H ρ σ σD S ∧ f σD S = some (b, S') ∧ ∀ H' ρ', Ext H ρ H' ρ' → HRep K H' ρ' S' → Q b H'
theorem o_none : PO X none (tDo X.K fun _ S => some (none, S)) := ⟨fun pins s σ H Q I ⟨ρ, σD, S, b, S', cc, e, k⟩ => by
  have e3 := Option.some.inj e
  injection e3 with e4 e5
  subst e4 e5
  exact po_none.run pins s σ H Q I (k H ρ Ext.refl cc.hp)⟩
theorem o_some (ha : PE X a (tD X.K fa)) : PO X (some a) (tDo X.K fun σ S => bnd (bnd (fa σ S) intD) fun i S1 => some (some i, S1)) := ⟨fun pins s σ H Q I ⟨ρ, σD, S, b, S', cc, e, k⟩ => by
  obtain ⟨i, S1, e1, e2⟩ := bnd_eq e
  obtain ⟨x, S2, e3, e4⟩ := bnd_eq e1
  have e5 := Option.some.inj e2
  injection e5 with e6 e7
  subst e6 e7
  cases x <;> first | (cases e4; done) | skip
  have e8 := Option.some.inj e4
  injection e8 with e9 e10
  subst e9 e10
  exact (po_some ha).run pins s σ H Q I ⟨ρ, σD, S, _, _, cc, e3, fun v H1 ρ1 x1 h1 r1 => ⟨_, r1, k H1 ρ1 x1 h1⟩⟩⟩
theorem sl_D : SlR X (fun x lo hi H Q => ∃ ρ S dx d S', HRep X.K H ρ S ∧ Rep X.K H ρ dx x ∧ slD dx lo hi S = some (d, S') ∧ After X.K H ρ S' d Q) := by
  intro pins s σ H x v vl vu lo hi sl Q I rx hs pl pu ⟨ρ, S, dx, d, S', hp, r1, e, k⟩
  have fin : ∀ {dd : D} {SS : Store}, some (dd, SS) = some (d, S') → dd = d ∧ SS = S' := fun h => by
    have := Option.some.inj h
    injection this with h1 h2
    exact ⟨h1, h2⟩
  unfold slD at e
  split at e
  · obtain ⟨rfl, rfl⟩ := fin e
    obtain ⟨a, vs, rfl, ha, rs⟩ := r1
    refine sl_tupF pins s σ H _ v vl vu lo hi sl Q I rx hs pl pu ⟨a, vs, rfl, ha.sq, fun hw => ?_, fun _ p o hn ho => ?_⟩
    · refine k _ H ρ Ext.refl hp ⟨a, vs, rfl, ha, ?_⟩
      have := rs.cut lo hi
      unfold cutV at this
      rw [hw.1, hw.2] at this
      simpa using this
    · exact k _ _ ρ (Ext.newT hp hn) (hp.newT hn) ⟨p, _, rfl, .new ho, (Ext.newT hp hn).repL hp _ _ (rs.cut lo hi)⟩
  · obtain ⟨rfl, rfl⟩ := fin e
    obtain ⟨a, vs, rfl, ha, rs⟩ := r1
    exact sl_list pins s σ H _ v vl vu lo hi sl Q I rx hs pl pu ⟨a, vs, rfl, ha.sq, fun p hn => k _ _ (ρ ++ [p]) (Ext.newL hp hn) (hp.newLst hn (rs.cut lo hi)) hp.newLoc⟩
  · split at e
    · rename_i ds hS
      obtain ⟨rfl, rfl⟩ := fin e
      obtain ⟨a, vs, rfl, _, ha, rs⟩ := lst_at hp hS r1
      exact sl_list pins s σ H _ v vl vu lo hi sl Q I rx hs pl pu ⟨a, vs, rfl, .of ha, fun p hn => k _ _ (ρ ++ [p]) (Ext.newL hp hn) (hp.newLst hn (rs.cut lo hi)) hp.newLoc⟩
    · cases e
  · cases e
theorem r_sl {lo hi : Option Expr} {fl fh : StD → Store → Option (Option Int × Store)} {p2 : Pos} (ha : PE X a (tD X.K fa)) (hl : PO X lo (tDo X.K fl)) (hh : PO X hi (tDo X.K fh)) :
    PE X (.Subscript a (.Slice lo hi none p2) p) (tD X.K fun σ S => bnd (fa σ S) fun x S1 => bnd (fl σ S1) fun l S2 => bnd (fh σ S2) fun h S3 => slD x l h S3) :=
  (pe_slice sl_D ha hl hh).imp fun σ H Q ⟨ρ, σD, S, d, S', cc, e, k⟩ => by
    obtain ⟨x, S1, e1, e2⟩ := bnd_eq e
    obtain ⟨l, S2, e3, e4⟩ := bnd_eq e2
    obtain ⟨h, S3, e5, e6⟩ := bnd_eq e4
    refine ⟨ρ, σD, S, x, S1, cc, e1, fun v H1 ρ1 x1 h1 r1 => ⟨ρ1, σD, S1, l, S2, cc.ext x1 h1, e3, fun H2 ρ2 x2 h2 => ⟨ρ2, σD, S2, h, S3, cc.ext (x1.trans x2) h2, e5, fun H3 ρ3 x3 h3 => ?_⟩⟩⟩
    exact ⟨ρ3, S3, x, d, S', h3, x3.rep h2 _ _ (x2.rep h1 _ _ r1), e6, fun v' H' ρ' x' h' r' => k v' H' ρ' (((x1.trans x2).trans x3).trans x') h' r'⟩
end
end
end Mi

end

section
/-! Mi5: built-in functions and methods. -/
namespace Mi
open PySem PySem.Spec L2
def liftN (K : PySem.W.Frag) (g : List D → Store → Option (D × Store)) : List V → Hp → VK → Prop := fun xs H Q => ∃ ρ S ds d S', HRep K H ρ S ∧ RepL K H ρ ds xs ∧ g ds S = some (d, S') ∧ After K H ρ S' d Q
theorem tD_N {K : PySem.W.Frag} {g : StD → Store → Option (List D × Store)} {F : List D → Store → Option (D × Store)} {σ : L2.St} {H : Hp} {Q : VK} (h : tD K (fun τ S => bnd (g τ S) fun ds S1 => F ds S1) σ H Q) : tCB (liftN K F) (tDs K g) σ H Q := by
  obtain ⟨ρ, σD, S, d, S', c, e, k⟩ := h
  obtain ⟨ds, S1, e1, e2⟩ := bnd_eq e
  exact ⟨ρ, σD, S, ds, S1, c, e1, fun vs H1 ρ1 x1 h1 r1 => ⟨ρ1, S1, ds, d, S', h1, r1, e2, fun v' H' ρ' x' h' r' => k v' H' ρ' (x1.trans x') h' r'⟩⟩
theorem inj2 {α β : Type} {a a' : α} {b b' : β} (h : some (a, b) = some (a', b')) : a = a' ∧ b = b' := by
  have := Option.some.inj h
  injection this with h1 h2
  exact ⟨h1, h2⟩
section
variable {X : Cx}
theorem repL1 {K : PySem.W.Frag} {H : Hp} {ρ : List Addr} {d : D} {xs : List V} (r : RepL K H ρ [d] xs) : ∃ v, xs = [v] ∧ Rep K H ρ d v := by
  obtain ⟨v, r', rfl, h1, h2⟩ := r
  cases h2
  exact ⟨v, rfl, h1⟩
theorem repL2 {K : PySem.W.Frag} {H : Hp} {ρ : List Addr} {d e : D} {xs : List V} (r : RepL K H ρ [d, e] xs) : ∃ v w, xs = [v, w] ∧ Rep K H ρ d v ∧ Rep K H ρ e w := by
  obtain ⟨v, r', rfl, h1, h2⟩ := r
  obtain ⟨w, rfl, h3⟩ := repL1 h2
  exact ⟨v, w, rfl, h1, h3⟩
theorem len_D : CallR X (.builtin "len") (liftN X.K (biD .len)) := by
  intro pins s σ H xs us Q I r ⟨ρ, S, ds, d, S', hp, rs, e, k⟩
  match ds, e with
  | [], e => cases e
  | _ :: _ :: _, e => cases e
  | [a], e =>
    obtain ⟨v, rfl, ra⟩ := repL1 rs
    have seq : ∀ {es : List D}, seqOf S a = some es → d = .int es.length → S' = S → wpAny (model X.prog X.w) X.A (call (.builtin "len") us) (EP X pins σ Q) X.xe s := fun {es} h1 h2 h3 => by
      subst h2 h3
      obtain ⟨b, vs, rfl, hq, rr⟩ := seq_at hp h1 ra
      have hl := rr.length
      rcases hq with hq | hq
      · exact call_len pins s σ H _ us Q I r ⟨_, vs.length, rfl, .inl ⟨vs, hq, rfl⟩, by rw [← hl]; exact k _ H ρ Ext.refl hp rfl⟩
      · exact call_len pins s σ H _ us Q I r ⟨_, vs.length, rfl, .inr ⟨vs, hq, rfl⟩, by rw [← hl]; exact k _ H ρ Ext.refl hp rfl⟩
    cases a with
    | str x =>
      unfold biD at e
      dsimp only at e
      split at e
      · rename_i hz
        obtain ⟨rfl, rfl⟩ := inj2 e
        cases ra
        exact call_len pins s σ H _ us Q I r ⟨_, x.length, rfl, ⟨hz, rfl⟩, k _ H ρ Ext.refl hp rfl⟩
      · cases e
    | loc m =>
      unfold biD at e
      dsimp only at e
      split at e
      · rename_i es hS
        obtain ⟨rfl, rfl⟩ := inj2 e
        exact seq (by unfold seqOf; dsimp only; rw [hS]) rfl rfl
      · rename_i kvs hS
        obtain ⟨rfl, rfl⟩ := inj2 e
        obtain ⟨b, ws, rfl, _, ha, k1, _⟩ := dic_at hp hS ra
        have hl : ws.length = kvs.length := by simpa using congrArg List.length k1
        exact call_lenD pins s σ H _ us Q I r ⟨b, ws, rfl, ha, by rw [hl]; exact k _ H ρ Ext.refl hp rfl⟩
      · cases e
    | tup es =>
      obtain ⟨rfl, rfl⟩ := inj2 (show some (D.int es.length, S) = some (d, S') from e)
      exact seq rfl rfl rfl
    | ro es =>
      obtain ⟨rfl, rfl⟩ := inj2 (show some (D.int es.length, S) = some (d, S') from e)
      exact seq rfl rfl rfl
    | _ => cases e
theorem int_D : CallR X (.type "int") (liftN X.K (biD .int)) := by
  intro pins s σ H xs us Q I r ⟨ρ, S, ds, d, S', hp, rs, e, k⟩
  unfold biD at e
  split at e <;> first | contradiction | skip
  · obtain ⟨rfl, rfl⟩ := inj2 e
    obtain ⟨v, rfl, ra⟩ := repL1 rs
    cases ra
    exact call_int1 pins s σ H _ us Q I r (.inl ⟨_, rfl, k _ H ρ Ext.refl hp rfl⟩)
  · obtain ⟨rfl, rfl⟩ := inj2 e
    obtain ⟨v, rfl, ra⟩ := repL1 rs
    cases ra
    exact call_int1 pins s σ H _ us Q I r (.inr ⟨_, rfl, k _ H ρ Ext.refl hp rfl⟩)
theorem tuple_D : CallR X (.type "tuple") (liftN X.K (biD .tuple)) := by
  intro pins s σ H xs us Q I r ⟨ρ, S, ds, d, S', hp, rs, e, k⟩
  unfold biD at e
  split at e <;> first | contradiction | skip
  · obtain ⟨rfl, rfl⟩ := inj2 e
    obtain ⟨v, rfl, ra⟩ := repL1 rs
    obtain ⟨b, vs, rfl, ha, rr⟩ := id ra
    exact call_tupleF pins s σ H _ us Q I r ⟨b, vs, rfl, .inr ⟨ha.sq, k _ H ρ Ext.refl hp ra⟩⟩
  · rename_i a hne _
    obtain ⟨v, rfl, ra⟩ := repL1 rs
    obtain ⟨es, e1, e2⟩ := Option.map_eq_some_iff.mp e
    injection e2 with e3 e4
    subst e3 e4
    obtain ⟨b, vs, rfl, hq, rr⟩ := seq_at hp e1 ra
    have hq' : SqL X.K H b vs := by
      rcases hq with hq | hq
      · exact hq
      · cases a with
        | tup q => exact absurd rfl (hne q)
        | ro q =>
          cases e1
          obtain ⟨b', vs', e5, h5, r5⟩ := ra
          cases e5
          obtain ⟨i1, v1, p1, _⟩ := I.list h5.sq
          obtain ⟨i2, v2, p2, _⟩ := I.tuple hq
          obtain ⟨o1, n1, g1, c1, _⟩ := p1
          obtain ⟨o2, g2, c2, _⟩ := p2
          rw [g1] at g2; cases g2
          rw [c1] at c2; exact absurd c2 (by decide)
        | loc m =>
          unfold seqOf at e1
          dsimp only at e1
          split at e1
          · rename_i q hS
            obtain ⟨b', vs', e5, _, h5, r5⟩ := lst_at hp hS ra
            cases e5
            obtain ⟨i1, v1, p1, _⟩ := I.list (.of h5)
            obtain ⟨i2, v2, p2, _⟩ := I.tuple hq
            obtain ⟨o1, n1, g1, c1, _⟩ := p1
            obtain ⟨o2, g2, c2, _⟩ := p2
            rw [g1] at g2; cases g2
            rw [c1] at c2; exact absurd c2 (by decide)
          · cases e1
        | _ => cases e1
    exact call_tupleF pins s σ H _ us Q I r ⟨b, vs, rfl, .inl ⟨hq', fun p o hn ho => k _ _ ρ (Ext.newT hp hn) (hp.newT hn) ⟨p, _, rfl, .new ho, (Ext.newT hp hn).repL hp _ _ rr⟩⟩⟩
theorem list_D : CallR X (.type "list") (liftN X.K (biD .list)) := by
  intro pins s σ H xs us Q I r ⟨ρ, S, ds, d, S', hp, rs, e, k⟩
  unfold biD at e
  split at e <;> first | contradiction | skip
  obtain ⟨v, rfl, ra⟩ := repL1 rs
  obtain ⟨es, e1, e2⟩ := Option.map_eq_some_iff.mp e
  injection e2 with e3 e4
  subst e3 e4
  obtain ⟨b, vs, rfl, hq, rr⟩ := seq_at hp e1 ra
  exact call_list_of pins s σ H _ us Q I r ⟨b, vs, rfl, hq, fun p hn => k _ _ (ρ ++ [p]) (Ext.newL hp hn) (hp.newLst hn rr) hp.newLoc⟩
theorem lst_sq {K : PySem.W.Frag} {H : Hp} {ρ : List Addr} {S : Store} (hp : HRep K H ρ S) {d : D} {ds : List D} {v : V} (e : lstOf S d = some ds) (r : Rep K H ρ d v) : ∃ a vs, v = .ref a ∧ SqL K H a vs ∧ RepL K H ρ ds vs := by
  cases d with
  | ro es =>
    have e2 : es = ds := Option.some.inj e
    subst e2
    obtain ⟨a, vs, rfl, ha, rs⟩ := r
    exact ⟨a, vs, rfl, ha.sq, rs⟩
  | loc m =>
    have e2 : (match S[m]? with | some (.lst ds) => some ds | _ => none) = some ds := e
    split at e2
    · rename_i es hS
      have e3 : es = ds := Option.some.inj e2
      subst e3
      obtain ⟨a, vs, rfl, _, ha, rs⟩ := lst_at hp hS r
      exact ⟨a, vs, rfl, .of ha, rs⟩
    · cases e2
  | _ => cases e
theorem intsOf_ok {K : PySem.W.Frag} {H : Hp} {ρ : List Addr} : ∀ {ds : List D} {ns : List Int} {vs : List V}, intsOf ds = some ns → RepL K H ρ ds vs → vs = ns.map V.int
  | [], ns, vs, e, r => by
    cases e; cases r; rfl
  | d :: ds, ns, vs, e, r => by
    obtain ⟨v, w, rfl, r1, r2⟩ := r
    cases d <;> first | (cases e; done) | skip
    obtain ⟨ms, e1, rfl⟩ := Option.map_eq_some_iff.mp e
    rw [intsOf_ok e1 r2, show v = V.int _ from r1]; rfl
theorem boolsOf_ok {K : PySem.W.Frag} {H : Hp} {ρ : List Addr} : ∀ {ds : List D} {ns : List Bool} {vs : List V}, boolsOf ds = some ns → RepL K H ρ ds vs → vs = ns.map V.bl
  | [], ns, vs, e, r => by
    cases e; cases r; rfl
  | d :: ds, ns, vs, e, r => by
    obtain ⟨v, w, rfl, r1, r2⟩ := r
    cases d <;> first | (cases e; done) | skip
    obtain ⟨ms, e1, rfl⟩ := Option.map_eq_some_iff.mp e
    rw [boolsOf_ok e1 r2, show v = V.bl _ from r1]; rfl
theorem greatest_in : ∀ (r : List Int) (i : Int), greatest i r ∈ i :: r ∧ ∀ y ∈ i :: r, y ≤ greatest i r
  | [], i => ⟨List.mem_cons_self .., fun y hy => Int.le_of_eq (by simpa [greatest] using hy)⟩
  | j :: r, i => by
    obtain ⟨h1, h2⟩ := greatest_in r (max i j)
    have e : greatest i (j :: r) = greatest (max i j) r := rfl
    rw [e]
    refine ⟨?_, fun y hy => ?_⟩
    · rcases List.mem_cons.mp h1 with h | h
      · rw [h]
        rcases Int.le_total i j with q | q
        · rw [Int.max_eq_right q]; simp
        · rw [Int.max_eq_left q]; simp
      · exact List.mem_cons_of_mem _ (List.mem_cons_of_mem _ h)
    · have hm := h2 (max i j) (List.mem_cons_self ..)
      rcases List.mem_cons.mp hy with h | h
      · rw [h]; omega
      · rcases List.mem_cons.mp h with h | h
        · rw [h]; omega
        · exact h2 y (List.mem_cons_of_mem _ h)
theorem least_in : ∀ (r : List Int) (i : Int), least i r ∈ i :: r ∧ ∀ y ∈ i :: r, least i r ≤ y
  | [], i => ⟨List.mem_cons_self .., fun y hy => Int.le_of_eq (by have h : y = i := (by simpa using hy); exact h.symm)⟩
  | j :: r, i => by
    obtain ⟨h1, h2⟩ := least_in r (min i j)
    have e : least i (j :: r) = least (min i j) r := rfl
    rw [e]
    refine ⟨?_, fun y hy => ?_⟩
    · rcases List.mem_cons.mp h1 with h | h
      · rw [h]
        rcases Int.le_total i j with q | q
        · rw [Int.min_eq_left q]; simp
        · rw [Int.min_eq_right q]; simp
      · exact List.mem_cons_of_mem _ (List.mem_cons_of_mem _ h)
    · have hm := h2 (min i j) (List.mem_cons_self ..)
      rcases List.mem_cons.mp hy with h | h
      · rw [h]; omega
      · rcases List.mem_cons.mp h with h | h
        · rw [h]; omega
        · exact h2 y (List.mem_cons_of_mem _ h)
theorem mxl_eq {gr : Bool} {a : D} {S : Store} {r : D × Store} (e : mxlD gr a S = some r) : ∃ ds i q, lstOf S a = some ds ∧ intsOf ds = some (i :: q) ∧ r = (.int (if gr then greatest i q else least i q), S) := by
  unfold mxlD at e
  split at e
  · rename_i ds h1
    split at e
    · rename_i i q h2; exact ⟨ds, i, q, h1, h2, (Option.some.inj e).symm⟩
    · cases e
  · cases e
theorem min_D (hc : X.calm = true) : CallR X (.builtin "min") (liftN X.K (biD .min)) := by
  intro pins s σ H xs us Q I r ⟨ρ, S, ds, d, S', hp, rs, e, k⟩
  unfold biD at e
  split at e <;> first | contradiction | skip
  · obtain ⟨rfl, rfl⟩ := inj2 e
    obtain ⟨v, w, rfl, ra, rb⟩ := repL2 rs
    cases ra
    cases rb
    exact call_min2 hc pins s σ H _ us Q I r ⟨_, _, rfl, k _ H ρ Ext.refl hp rfl⟩
  · obtain ⟨v, rfl, ra⟩ := repL1 rs
    obtain ⟨es, i, q, e1, e2, e3⟩ := mxl_eq e
    obtain ⟨rfl, rfl⟩ := Prod.mk.inj e3
    obtain ⟨a, vs, rfl, hs, rr⟩ := lst_sq hp e1 ra
    have ev := intsOf_ok e2 rr
    subst ev
    refine cr_min hc pins s σ H _ us Q I r ⟨a, i :: q, rfl, hs, by simp, fun m hm hle => ?_⟩
    obtain ⟨g1, g2⟩ := least_in q i
    have em : m = least i q := by have := hle _ g1; have := g2 _ hm; omega
    exact k _ H ρ Ext.refl hp (by rw [em]; rfl)
theorem max_D (hc : X.calm = true) : CallR X (.builtin "max") (liftN X.K (biD .max)) := by
  intro pins s σ H xs us Q I r ⟨ρ, S, ds, d, S', hp, rs, e, k⟩
  unfold biD at e
  split at e <;> first | contradiction | skip
  · obtain ⟨rfl, rfl⟩ := inj2 e
    obtain ⟨v, w, rfl, ra, rb⟩ := repL2 rs
    cases ra
    cases rb
    exact call_max2 hc pins s σ H _ us Q I r ⟨_, _, rfl, k _ H ρ Ext.refl hp rfl⟩
  · obtain ⟨v, rfl, ra⟩ := repL1 rs
    obtain ⟨es, i, q, e1, e2, e3⟩ := mxl_eq e
    obtain ⟨rfl, rfl⟩ := Prod.mk.inj e3
    obtain ⟨a, vs, rfl, hs, rr⟩ := lst_sq hp e1 ra
    have ev := intsOf_ok e2 rr
    subst ev
    refine cr_max hc pins s σ H _ us Q I r ⟨a, i :: q, rfl, hs, by simp, fun m hm hle => ?_⟩
    obtain ⟨g1, g2⟩ := greatest_in q i
    have em : m = greatest i q := by have := hle _ g1; have := g2 _ hm; omega
    exact k _ H ρ Ext.refl hp (by rw [em]; rfl)
theorem sum_D (hc : X.calm = true) : CallR X (.builtin "sum") (liftN X.K (biD .sum)) := by
  intro pins s σ H xs us Q I r ⟨ρ, S, ds, d, S', hp, rs, e, k⟩
  unfold biD at e
  split at e <;> first | contradiction | skip
  obtain ⟨v, rfl, ra⟩ := repL1 rs
  unfold sumD at e
  split at e
  · rename_i es e1
    obtain ⟨ns, e2, e3⟩ := Option.map_eq_some_iff.mp e
    obtain ⟨rfl, rfl⟩ := Prod.mk.inj e3
    obtain ⟨a, vs, rfl, hs, rr⟩ := lst_sq hp e1 ra
    have ev := intsOf_ok e2 rr
    subst ev
    exact cr_sum hc pins s σ H _ us Q I r ⟨a, ns, rfl, hs, k _ H ρ Ext.refl hp rfl⟩
  · cases e
theorem any_D (hc : X.calm = true) : CallR X (.builtin "any") (liftN X.K (biD .any)) := by
  intro pins s σ H xs us Q I r ⟨ρ, S, ds, d, S', hp, rs, e, k⟩
  unfold biD at e
  split at e <;> first | contradiction | skip
  obtain ⟨v, rfl, ra⟩ := repL1 rs
  unfold anyD at e
  split at e
  · rename_i es e1
    obtain ⟨ns, e2, e3⟩ := Option.map_eq_some_iff.mp e
    obtain ⟨rfl, rfl⟩ := Prod.mk.inj e3
    obtain ⟨a, vs, rfl, hs, rr⟩ := lst_sq hp e1 ra
    have ev := boolsOf_ok e2 rr
    subst ev
    exact cr_any hc pins s σ H _ us Q I r ⟨a, ns, rfl, hs, k _ H ρ Ext.refl hp rfl⟩
  · cases e
theorem all_D (hc : X.calm = true) : CallR X (.builtin "all") (liftN X.K (biD .all)) := by
  intro pins s σ H xs us Q I r ⟨ρ, S, ds, d, S', hp, rs, e, k⟩
  unfold biD at e
  split at e <;> first | contradiction | skip
  obtain ⟨v, rfl, ra⟩ := repL1 rs
  unfold allD at e
  split at e
  · rename_i es e1
    obtain ⟨ns, e2, e3⟩ := Option.map_eq_some_iff.mp e
    obtain ⟨rfl, rfl⟩ := Prod.mk.inj e3
    obtain ⟨a, vs, rfl, hs, rr⟩ := lst_sq hp e1 ra
    have ev := boolsOf_ok e2 rr
    subst ev
    exact cr_all hc pins s σ H _ us Q I r ⟨a, ns, rfl, hs, k _ H ρ Ext.refl hp rfl⟩
  · cases e
theorem repL_rev {K : PySem.W.Frag} {H : Hp} {ρ : List Addr} : ∀ {ds : List D} {vs : List V}, RepL K H ρ ds vs → RepL K H ρ ds.reverse vs.reverse
  | [], vs, h => by cases h; exact rfl
  | d :: ds, vs, h => by
    obtain ⟨v, r, rfl, h1, h2⟩ := h
    rw [List.reverse_cons, List.reverse_cons]
    exact (repL_rev h2).append ⟨v, [], rfl, h1, rfl⟩
theorem r_rev {a : Expr} {fa : StD → Store → Option (D × Store)} {k : Nat} {p1 p2 p3 p : Pos} (ha : PE X a (tD X.K fa)) :
    PE X (.Subscript a (.Slice none none (some (.UnaryOp .USub (.Constant (.int 1) k p1) p2)) p3) p) (tD X.K fun σ S => bnd (fa σ S) revD) := by
  refine (pe_revL ha).imp fun σ H Q ⟨ρ, σD, S, d, S', cc, e, kk⟩ => ?_
  obtain ⟨x, S1, e1, e2⟩ := bnd_eq e
  unfold revD at e2
  split at e2
  · rename_i ds h
    obtain ⟨rfl, rfl⟩ := inj2 e2
    refine ⟨ρ, σD, S, x, S1, cc, e1, fun v H1 ρ1 x1 h1 r1 => ?_⟩
    obtain ⟨a, vs, rfl, hs, rr⟩ := lst_sq h1 h r1
    exact ⟨a, vs, rfl, hs, fun q hn => kk _ _ (ρ1 ++ [q]) (x1.trans (Ext.newL h1 hn)) (h1.newLst hn (repL_rev rr)) h1.newLoc⟩
  · cases e2
theorem abs_D : CallR X (.builtin "abs") (liftN X.K (biD .abs)) := by
  intro pins s σ H xs us Q I r ⟨ρ, S, ds, d, S', hp, rs, e, k⟩
  unfold biD at e
  split at e <;> first | contradiction | skip
  obtain ⟨rfl, rfl⟩ := inj2 e
  obtain ⟨v, rfl, ra⟩ := repL1 rs
  cases ra
  exact call_abs pins s σ H _ us Q I r ⟨_, rfl, k _ H ρ Ext.refl hp rfl⟩
theorem pairs3 {pins : List (Addr × Obj)} {σ : L2.St} {H : Hp} {s : Shared} (I : L2.Inv X pins σ H s) : ∀ {ps : List Addr} {kvs : List (Key × V)}, Paired (fun p kv => SqL X.K H p [kV kv.1, kv.2] ∨ SqT X.K H p [kV kv.1, kv.2]) ps kvs →
    ∃ tr : List (Key × Value × Value), KV kvs (tr.map fun t => (t.1, t.2.2)) ∧ tr.length = ps.length ∧ ∀ (j : Nat) (t : Key × Value × Value), tr[j]? = some t → ∃ b, ps[j]? = some b ∧ PySem.PairAt s.heap b t.2.1 t.2.2 ∧ keyIs t.1 t.2.1 = true
  | _, _, .nil => ⟨[], .nil, rfl, fun j q e => by simp at e⟩
  | _, _, .cons (a := p) (b := kv) h t => by
    obtain ⟨tr, r, hl, hp⟩ := pairs3 I t
    have hh : ∃ its, Vals [kV kv.1, kv.2] its ∧ (s.heap.IsTuple p its.toArray ∨ s.heap.IsList p its.toArray) := by
      rcases h with h | h
      · obtain ⟨its, rv, ht, _⟩ := I.list h
        exact ⟨its, rv, .inr ht.isList⟩
      · obtain ⟨its, rv, ht, _⟩ := I.tuple h
        exact ⟨its, rv, .inl ht⟩
    obtain ⟨its, rv, ht⟩ := hh
    obtain ⟨u, y, ei, ru, ry⟩ := vals2 rv
    subst ei
    refine ⟨(kv.1, u, y) :: tr, .cons ⟨rfl, ry⟩ r, by rw [List.length_cons, List.length_cons, hl], fun j q e => ?_⟩
    cases j with
    | zero =>
      have e' : (kv.1, u, y) = q := Option.some.inj e
      subst e'
      exact ⟨p, rfl, ht, kV_is (P := X.prog) (w := X.w) ru⟩
    | succ j =>
      obtain ⟨b, e1, e2, e3⟩ := hp j q (by simpa using e)
      exact ⟨b, by simpa using e1, e2, e3⟩
/-- dict(xs) of a tuple of pairs -/
theorem TupAt.heap {pins : List (Addr × Obj)} {σ : L2.St} {H : Hp} {s : Shared} {a : Addr} {xs : List V} (I : L2.Inv X pins σ H s) (hq : TupAt X.K H a xs) :
    ∃ (o : Obj) (n : Nat) (its : List Value), s.heap.get? a = some o ∧ o.cls = .type "tuple" ∧ o.dict = none ∧ o.data = .seq its.toArray n ∧ Vals xs its ∧ xs.length ≤ sizeLine := by
  rcases hq with ⟨o, ho, hdn⟩ | ⟨o, its, n, hk, hc, hdn, hs, hz, r⟩
  · obtain ⟨hget, hz, its, rv, o', ho', hc, n, hdat⟩ := I.hok a _ ho
    rw [hget] at ho'; cases ho'
    exact ⟨o, n, its, hget, hc, hdn, hdat, rv, hz⟩
  · refine ⟨o, n, its.toList, I.kIn a o hk, hc, hdn, by simpa using hs, r, ?_⟩
    have e := r.length
    simp only [Array.length_toList] at e
    omega
theorem call_dictT (hcalm : X.calm = true) : CallR X (.type "dict") (fun xs H Q => ∃ (a : Addr) (ps : List Addr) (kvs : List (Key × V)), xs = [.ref a] ∧ (TupAt X.K H a (ps.map V.ref) ∨ SqL X.K H a (ps.map V.ref)) ∧ Paired (fun p kv => SqL X.K H p [kV kv.1, kv.2] ∨ SqT X.K H p [kV kv.1, kv.2]) ps kvs ∧
    ∀ p, H p = none → Q (.ref p) (upd H p (.dK (mergeK [] kvs)))) := by
  intro pins s σ H xs us Q I r ⟨a, ps, kvs, ex, hq, hp, q⟩
  subst ex
  obtain ⟨u, eu, rx⟩ := vals1 r
  subst eu
  cases rx
  obtain ⟨tr, rel, hl, hpr⟩ := pairs3 I hp
  have big : (s.heap.objs.size == sysModules) = false := beq_eq_false_iff_ne.mpr (Nat.ne_of_gt I.big)
  have pit : PySem.PairItems s.heap (ps.map Value.ref).toArray (fun j => ps.getD j 0) (tr.map (·.2)) := by
    refine ⟨by simp [hl], fun j k v hj => ?_⟩
    rw [List.getElem?_map] at hj
    obtain ⟨t, ht, et⟩ := Option.map_eq_some_iff.mp hj
    obtain ⟨b, e1, e2, e3⟩ := hpr j t ht
    have e4 : ps.getD j 0 = b := by rw [List.getD_eq_getElem?_getD, e1]; rfl
    dsimp only
    rw [e4]
    have et' : t.2 = (k, v) := et
    rw [et'] at e2
    exact ⟨by simp [e1], e2⟩
  have pal : PySem.PairsHave (mixKind X.prog X.w) (tr.map (·.2)).length (PySem.PairRel (tr.map (·.2))) (tr.map fun t => (t.1, t.2.2)) := by
    refine ⟨by simp, fun i key v hi => ?_⟩
    have hi' : (tr.map (·.2))[i]? = some (key, v) := hi
    rw [List.getElem?_map] at hi'
    obtain ⟨t, ht, et⟩ := Option.map_eq_some_iff.mp hi'
    obtain ⟨b, e1, e2, e3⟩ := hpr i t ht
    have et' : t.2 = (key, v) := et
    refine ⟨t.1, by rw [List.getElem?_map, ht]; simp [et'], ?_⟩
    rw [et'] at e3
    exact e3
  have fin : ps.length ≤ sizeLine → ∀ h' tk, h'.DictOf (mixKind X.prog X.w) s.heap.objs.size (PySem.merged [] (tr.map fun t => (t.1, t.2.2))) → (∀ b o, s.heap.get? b = some o → h'.get? b = some o) → EP X pins σ Q (.ref s.heap.objs.size) { s with heap := h', toks := tk } := fun hz h' tk hd' kk => by
    have hlen : (mergeK [] kvs).length ≤ sizeLine := by
      refine Nat.le_trans (length_mergeK kvs []) ?_
      rw [List.length_nil, Nat.zero_add, rel.length, List.length_map, hl]
      exact hz
    exact ⟨.ref s.heap.objs.size, upd H s.heap.objs.size (.dK (mergeK [] kvs)), I.laid (t' := tk) kk (Nat.le_refl _) (show ObjOk X.prog X.w _ _ _ (.dK (mergeK [] kvs)) from ⟨hlen, big, _, KV.merge rel .nil, hd'⟩), rfl, q _ (I.hok.fresh (Nat.le_refl _))⟩
  rcases hq with hq | hq
  · obtain ⟨o, n, its, hget, hc, hdn, hdat, rv, hz⟩ := TupAt.heap I hq
    have ei := refs_at rv
    subst ei
    rw [List.length_map] at hz
    exact PySem.call_dict_pairs (prog := X.prog) (w := X.w) (A := X.A) (s := s) (E := X.xe) (Q := EP X pins σ Q) (knd := mixKind X.prog X.w) (kvs := tr.map fun t => (t.1, t.2.2))
      (PySem.PairArg.tuple a (ps.map Value.ref).toArray (fun j => ps.getD j 0) (tr.map (·.2))) (I.ok.hd hcalm) ⟨⟨o, n, hget, hc, hdn, hdat⟩, pit⟩ pal (by simp [hl]; exact hz) fun h' tk hd' kk => fin hz h' tk hd' fun b o e => kk b o (by simp) e
  · obtain ⟨its, rv, ⟨o, n, hget, hc, hdn, hdat⟩, hz⟩ := I.list hq
    have ei := refs_at rv
    subst ei
    rw [List.length_map] at hz
    exact PySem.call_dict_pairs (prog := X.prog) (w := X.w) (A := X.A) (s := s) (E := X.xe) (Q := EP X pins σ Q) (knd := mixKind X.prog X.w) (kvs := tr.map fun t => (t.1, t.2.2))
      (PySem.PairArg.list a (ps.map Value.ref).toArray (fun j => ps.getD j 0) (tr.map (·.2))) (I.ok.hd hcalm) ⟨⟨o, n, hget, hc, hdn, hdat⟩, pit⟩ pal (by simp [hl]; exact hz) fun h' tk hd' kk => fin hz h' tk hd' fun b o e => kk b o (by simp) e
theorem pairKV_ok {K : PySem.W.Frag} {H : Hp} {ρ : List Addr} {S : Store} (hp : HRep K H ρ S) : ∀ {ds : List D} {kvs : List (Key × D)} {vs : List V}, mapO (pairKV S) ds = some kvs → RepL K H ρ ds vs →
    ∃ (ps : List Addr) (ws : List (Key × V)), vs = ps.map V.ref ∧ Paired (fun p kv => SqL K H p [kV kv.1, kv.2] ∨ SqT K H p [kV kv.1, kv.2]) ps ws ∧ ws.map (·.1) = kvs.map (·.1) ∧ RepL K H ρ (kvs.map (·.2)) (ws.map (·.2))
  | [], kvs, vs, e, r => by cases e; cases r; exact ⟨[], [], rfl, .nil, rfl, rfl⟩
  | d :: ds, kvs, vs, e, r => by
    obtain ⟨v, vr, rfl, r1, r2⟩ := r
    unfold mapO at e
    split at e
    · rename_i b hb
      split at e
      · rename_i br hbr
        cases e
        obtain ⟨ps, ws, rfl, h1, h2, h3⟩ := pairKV_ok hp hbr r2
        unfold pairKV at hb
        split at hb
        · rename_i kk vv hsq
          obtain ⟨key, hk, rfl⟩ := Option.map_eq_some_iff.mp hb
          obtain ⟨a, ys, rfl, ha, rr⟩ := seq_at hp hsq r1
          obtain ⟨y1, y2, rfl, ry1, ry2⟩ := repL2 rr
          have := keyOf_ok hk ry1
          subst this
          refine ⟨a :: ps, (key, y2) :: ws, rfl, .cons ha h1, by simp [h2], y2, ws.map (·.2), rfl, ry2, h3⟩
        · cases hb
      · cases e
    · cases e
theorem putK_ok {K : PySem.W.Frag} {H : Hp} {ρ : List Addr} {κ : Type} [DecidableEq κ] {k : κ} {d : D} {v : V} (rd : Rep K H ρ d v) {kvs : List (κ × D)} {ws : List (κ × V)} (h1 : ws.map (·.1) = kvs.map (·.1)) (h2 : RepL K H ρ (kvs.map (·.2)) (ws.map (·.2))) :
    (putK ws k v).map (·.1) = (putG kvs k d).map (·.1) ∧ RepL K H ρ ((putG kvs k d).map (·.2)) ((putK ws k v).map (·.2)) := by
  have anyEq : (ws.any fun kv => decide (kv.1 = k)) = (kvs.any fun kv => decide (kv.1 = k)) := by
    have e1 : (ws.any fun kv => decide (kv.1 = k)) = (ws.map (·.1)).any fun x => decide (x = k) := by rw [List.any_map]; rfl
    have e2 : (kvs.any fun kv => decide (kv.1 = k)) = (kvs.map (·.1)).any fun x => decide (x = k) := by rw [List.any_map]; rfl
    rw [e1, e2, h1]
  unfold putK putG
  rw [anyEq]
  split
  · constructor
    · have f1 : ∀ l : List (κ × V), (l.map (fun kv => if kv.1 = k then (kv.1, v) else kv)).map (·.1) = l.map (·.1) := fun l => by
        rw [List.map_map]; apply List.map_congr_left; intro x _; simp only [Function.comp]; split <;> rfl
      have f2 : ∀ l : List (κ × D), (l.map (fun kv => if kv.1 = k then (kv.1, d) else kv)).map (·.1) = l.map (·.1) := fun l => by
        rw [List.map_map]; apply List.map_congr_left; intro x _; simp only [Function.comp]; split <;> rfl
      rw [f1, f2, h1]
    · rename_i hany
      clear anyEq hany
      induction kvs generalizing ws with
      | nil =>
        have : ws = [] := by simpa using h1
        subst this; rfl
      | cons p r ih =>
        cases ws with
        | nil => simp at h1
        | cons w ws =>
          simp only [List.map_cons, List.cons.injEq] at h1
          obtain ⟨y, yr, ey, r1, r2⟩ := h2
          simp only [List.map_cons, List.cons.injEq] at ey
          obtain ⟨ey1, ey2⟩ := ey
          subst ey1 ey2
          have hh2 := ih h1.2 r2
          simp only [List.map_cons]
          rw [h1.1]
          split
          · exact ⟨v, _, rfl, rd, hh2⟩
          · exact ⟨w.2, _, rfl, r1, hh2⟩
  · simp only [List.map_append, List.map_cons, List.map_nil]
    exact ⟨by rw [h1], h2.append ⟨v, [], rfl, rd, rfl⟩⟩
theorem mergeK_ok {K : PySem.W.Frag} {H : Hp} {ρ : List Addr} : ∀ {more : List (Key × D)} {mw : List (Key × V)} {kvs : List (Key × D)} {ws : List (Key × V)}, mw.map (·.1) = more.map (·.1) → RepL K H ρ (more.map (·.2)) (mw.map (·.2)) →
    ws.map (·.1) = kvs.map (·.1) → RepL K H ρ (kvs.map (·.2)) (ws.map (·.2)) →
    (mergeK ws mw).map (·.1) = (more.foldl (fun acc p => putG acc p.1 p.2) kvs).map (·.1) ∧ RepL K H ρ ((more.foldl (fun acc p => putG acc p.1 p.2) kvs).map (·.2)) ((mergeK ws mw).map (·.2))
  | [], mw, kvs, ws, e, _, h1, h2 => by
    have : mw = [] := by simpa using e
    subst this; exact ⟨h1, h2⟩
  | p :: more, mw, kvs, ws, e, r, h1, h2 => by
    cases mw with
    | nil => simp at e
    | cons w mw =>
      simp only [List.map_cons, List.cons.injEq] at e
      obtain ⟨y, yr, ey, r1, r2⟩ := r
      simp only [List.map_cons, List.cons.injEq] at ey
      obtain ⟨ey1, ey2⟩ := ey
      subst ey1 ey2
      have := putK_ok (k := p.1) r1 h1 h2
      have eq : mergeK ws (w :: mw) = mergeK (putK ws p.1 w.2) mw := by rw [← e.1]; rfl
      rw [eq]
      exact mergeK_ok (more := more) (kvs := putG kvs p.1 p.2) e.2 r2 this.1 this.2
theorem dict_D (hc : X.calm = true) : CallR X (.type "dict") (liftN X.K (biD .dict)) := by
  intro pins s σ H xs us Q I r ⟨ρ, S, ds, d, S', hp, rs, e, k⟩
  unfold biD at e
  split at e <;> first | contradiction | skip
  rename_i a _
  obtain ⟨v, rfl, ra⟩ := repL1 rs
  split at e
  · rename_i es h1
    obtain ⟨kvs, e1, e2⟩ := Option.map_eq_some_iff.mp e
    injection e2 with e3 e4
    subst e3 e4
    have fin : ∀ {ws : List (Key × V)}, ws.map (·.1) = kvs.map (·.1) → RepL X.K H ρ (kvs.map (·.2)) (ws.map (·.2)) → ∀ p, H p = none → Q (.ref p) (upd H p (.dK (mergeK [] ws))) := fun {ws} g1 g2 p hn => by
      obtain ⟨m1, m2⟩ := mergeK_ok (kvs := []) (ws := []) g1 g2 rfl rfl
      exact k _ _ (ρ ++ [p]) (Ext.newL hp hn) (hp.newL hn ⟨_, upd_same, m1, (Ext.newL hp hn).repL hp _ _ m2⟩) hp.newLoc
    cases a with
    | tup q =>
      cases h1
      obtain ⟨b, vs, rfl, ha, rr⟩ := ra
      obtain ⟨ps, ws, rfl, g0, g1, g2⟩ := pairKV_ok hp e1 rr
      exact call_dictT hc pins s σ H _ us Q I r ⟨b, ps, ws, rfl, .inl ha, g0, fin g1 g2⟩
    | ro q =>
      cases h1
      obtain ⟨b, vs, rfl, ha, rr⟩ := ra
      obtain ⟨ps, ws, rfl, g0, g1, g2⟩ := pairKV_ok hp e1 rr
      exact call_dictT hc pins s σ H _ us Q I r ⟨b, ps, ws, rfl, .inr ha.sq, g0, fin g1 g2⟩
    | loc m =>
      unfold seqOf at h1
      dsimp only at h1
      split at h1
      · rename_i q hS
        cases h1
        obtain ⟨b, vs, rfl, _, ha, rr⟩ := lst_at hp hS ra
        obtain ⟨ps, ws, rfl, g0, g1, g2⟩ := pairKV_ok hp e1 rr
        exact call_dictT hc pins s σ H _ us Q I r ⟨b, ps, ws, rfl, .inr (.of ha), g0, fin g1 g2⟩
      · cases h1
    | _ => cases h1
  · cases e
/-! ### max, min with a default -/
theorem alike_ints (ns : List Int) : PySem.W.AlikeAll (ns.map .int) := by
  refine ⟨fun x hx y hy => ?_, fun x hx => ?_⟩
  · obtain ⟨i, _, rfl⟩ := List.mem_map.mp hx
    obtain ⟨j, _, rfl⟩ := List.mem_map.mp hy
    simp [PySem.W.alike]
  · obtain ⟨i, _, rfl⟩ := List.mem_map.mp hx
    intro z; cases z
theorem depth_ints : ∀ ns : List Int, PyData.depthAll (ns.map .int) = 0
  | [] => by simp [PyData.depthAll]
  | n :: ns => by simp [PyData.depthAll, PyData.depth, depth_ints ns]
theorem dp_ints (K : PySem.W.Frag) (H : Hp) : ∀ ns : List Int, DpAll K H (ns.map V.int) (ns.map .int)
  | [] => .nil
  | n :: ns => .cons (.int n) (dp_ints K H ns)
theorem reads_int {h : Heap} {v : Value} {i : Int} {as : List Addr} (r : Reads h v (.int i) as) : ∃ t, v = .int i t := by
  cases r
  exact ⟨_, rfl⟩
def rMxd (K : PySem.W.Frag) (gr : Bool) : List V → List V → Hp → VK → Prop := fun xs zs H Q => ∃ (a : Addr) (ns : List Int) (z : V), xs = [.ref a] ∧ zs = [z] ∧ (SqL K H a (ns.map V.int) ∨ SqT K H a (ns.map V.int)) ∧
  (ns = [] → Q z H) ∧ ∀ i r, ns = i :: r → Q (.int (if gr then greatest i r else least i r)) H
theorem call_mxd (hc : X.calm = true) (hu : X.A.units + 125 < cLine) (gr : Bool) : CallRK X (.builtin (if gr then "max" else "min")) [Str.ofString "default"] (rMxd X.K gr) := by
  intro pins s σ H xs zs us ws Q I rx rz ⟨a, ns, z, e1, e2, hq, q0, q1⟩
  subst e1 e2
  obtain ⟨u, rfl, ru⟩ := vals1 rx
  obtain ⟨w, rfl, rw'⟩ := vals1 rz
  cases ru
  have hd : X.A.units + 1 + PyData.depthAll (ns.map .int) < cLine := by rw [depth_ints]; omega
  have h0 : (ns.map PyData.int) = [] → ∀ h' tk, (∀ b o, s.heap.get? b = some o → h'.get? b = some o) → EP X pins σ Q w { s with heap := h', toks := tk } := fun hn h' tk kp => ⟨z, H, I.kept kp, rw', q0 (by simpa using hn)⟩
  have fin : ∀ {best : PyData → List PyData → PyData}, (∀ i r, best (.int i) (r.map .int) = .int (if gr then greatest i r else least i r)) → ∀ {vs : Array Value} (y : PyData) (ys : List PyData) (i : Nat) (v : Value) (h' : Heap) (tk : Nat) (bs : List Addr), ns.map .int = y :: ys → vs[i]? = some v → Reads h' v (best y ys) bs →
      (∀ b o, s.heap.get? b = some o → h'.get? b = some o) → EP X pins σ Q v { s with heap := h', toks := tk } := fun {best} hb {vs} y ys i v h' tk bs e _ r kp => by
    cases ns with
    | nil => cases e
    | cons n r' =>
      simp only [List.map_cons, List.cons.injEq] at e
      obtain ⟨e1, e2⟩ := e
      subst e1 e2
      rw [hb] at r
      obtain ⟨t, rfl⟩ := reads_int r
      exact ⟨.int _, H, I.kept kp, ⟨t, rfl⟩, q1 n r' rfl⟩
  have bmax : gr = true → ∀ i r, PySem.W.maxD (.int i) (r.map .int) = .int (if gr then greatest i r else least i r) := fun h i r => by rw [h]; exact PySem.W.maxD_ints i r
  have bmin : gr = false → ∀ i r, PySem.W.minD (.int i) (r.map .int) = .int (if gr then greatest i r else least i r) := fun h i r => by rw [h]; exact PySem.W.minD_ints i r
  rcases hq with hq | hq
  · obtain ⟨its, rv, pl, hz⟩ := I.list hq
    obtain ⟨as, ra⟩ := Dp.readsAll I (ns.map .int) _ its (dp_ints X.K H ns) rv
    cases gr with
    | true => exact PySem.W.max_list_default (I.ok.hd hc) pl.isList (by simpa using ra) (alike_ints ns) hd h0 (fin (bmax rfl))
    | false => exact PySem.W.min_list_default (I.ok.hd hc) pl.isList (by simpa using ra) (alike_ints ns) hd h0 (fin (bmin rfl))
  · obtain ⟨its, rv, pl, hz⟩ := I.tuple hq
    obtain ⟨as, ra⟩ := Dp.readsAll I (ns.map .int) _ its (dp_ints X.K H ns) rv
    cases gr with
    | true => exact PySem.W.max_tuple_default (I.ok.hd hc) (show s.heap.IsTuple a its.toArray from pl) (by simpa using ra) (alike_ints ns) hd h0 (fin (bmax rfl))
    | false => exact PySem.W.min_tuple_default (I.ok.hd hc) (show s.heap.IsTuple a its.toArray from pl) (by simpa using ra) (alike_ints ns) hd h0 (fin (bmin rfl))
theorem boot_mxd (gr : Bool) : bootBuiltins (Str.ofString (if gr then "max" else "min")) = some (.builtin (if gr then "max" else "min")) := by
  cases gr with
  | true => exact PyProof.Rows.boot_max
  | false => exact PyProof.Rows.boot_min
theorem r_mxd {a b : Expr} {fa fb : StD → Store → Option (D × Store)} {q kp p : Pos} (hc : X.calm = true) (hu : X.A.units + 125 < cLine) (gr : Bool) (hg : Gl X (Str.ofString (if gr then "max" else "min"))) (hm : X.mg (Str.ofString (if gr then "max" else "min")) = none)
    (ha : PE X a (tD X.K fa)) (hb : PE X b (tD X.K fb)) (hs : starEach [a] X.env = [(false, eval a X.env)]) :
    PE X (.Call (.Name (Str.ofString (if gr then "max" else "min")) q) [a] [⟨some kwDefault, b, kp⟩] p) (tD X.K fun σ S => bnd (fa σ S) fun x S1 => bnd (fb σ S1) fun y S2 => bnd (opt (maxD gr x y S2) S2) fun z S3 => some (gc S z S3)) := by
  have base : PE X (.Call (.Name (Str.ofString (if gr then "max" else "min")) q) [a] [⟨some kwDefault, b, kp⟩] p) (tCKw (rMxd X.K gr) (tCons (tD X.K fa) tNil) (tCons (tD X.K fb) tNil)) :=
    pe_callBK (call_mxd hc hu gr) hg hm (boot_mxd gr) (pa_cons ha pa_nil hs) (pk_cons hb pk_nil) (by cases gr <;> decide) (by cases gr <;> decide) (by rw [hs]; rfl) (by rw [hs]; rfl) rfl rfl rfl
  have base2 : PE X (.Call (.Name (Str.ofString (if gr then "max" else "min")) q) [a] [⟨some kwDefault, b, kp⟩] p) (tD X.K fun σ S => bnd (fa σ S) fun x S1 => bnd (fb σ S1) fun y S2 => opt (maxD gr x y S2) S2) := by
    refine base.imp fun σ H Q ⟨ρ, σD, S, d, S', cc, e, k⟩ => ?_
    obtain ⟨x, S1, e1, e2⟩ := bnd_eq e
    obtain ⟨y, S2, e3, e4⟩ := bnd_eq e2
    obtain ⟨e5, e6⟩ := opt_eq e4
    subst S'
    refine ⟨ρ, σD, S, x, S1, cc, e1, fun v H1 ρ1 x1 h1 r1 => ⟨ρ1, σD, S1, y, S2, cc.ext x1 h1, e3, fun w H2 ρ2 x2 h2 r2 => ?_⟩⟩
    unfold maxD at e5
    split at e5
    · rename_i ds hds
      obtain ⟨b', vs, rfl, hq, rr⟩ := seq_at h2 hds (x2.rep h1 _ _ r1)
      split at e5
      · rename_i i r hi
        cases e5
        rw [intsOf_ok hi rr] at hq
        refine ⟨b', i :: r, w, rfl, rfl, hq, (by intro z; cases z), fun i' r' he => ?_⟩
        injection he with he1 he2
        subst he1 he2
        exact k _ H2 ρ2 (x1.trans x2) h2 rfl
      · rename_i hi
        cases e5
        rw [intsOf_ok hi rr] at hq
        exact ⟨b', [], w, rfl, rfl, hq, fun _ => k _ H2 ρ2 (x1.trans x2) h2 r2, (by intro i' r' he; cases he)⟩
      · cases e5
    · cases e5
  refine (pe_gc base2).imp fun σ H Q ⟨ρ, σD, S, d, S', cc, e, k⟩ => ⟨ρ, σD, S, d, S', cc, ?_, k⟩
  obtain ⟨x, S1, e1, e2⟩ := bnd_eq e
  obtain ⟨y, S2, e3, e4⟩ := bnd_eq e2
  simp only [e1, e3, bnd_some]
  exact e4
/-! ### isinstance -/
theorem ty_at {K : PySem.W.Frag} {H : Hp} {ρ : List Addr} {S : Store} (hp : HRep K H ρ S) {d : D} {v : V} {n : String} (e : tyD S d = some n) (r : Rep K H ρ d v) : TyX K H v (.type n) := by
  cases d with
  | non => cases e; cases r; exact .base .non
  | bl b => cases e; cases r; exact .base (.bl b)
  | int b => cases e; cases r; exact .base (.int b)
  | str b => cases e; cases r; exact .base (.str b)
  | tup ds =>
    cases e
    obtain ⟨a, vs, rfl, ha, _⟩ := r
    rcases ha with ⟨o, ho, _⟩ | ⟨o, its, n, hk, hc, _⟩
    · exact .fTuple ho
    · exact .kTuple hk hc
  | fn y => cases e
  | ro ds =>
    cases e
    obtain ⟨a, vs, rfl, ha, _⟩ := r
    rcases ha with ⟨o, ho⟩ | ⟨o, its, n, hk, hc, _⟩
    · exact .base (.frz ho)
    · exact .kList hk hc
  | loc m =>
    unfold tyD at e
    dsimp only at e
    split at e
    · rename_i ds hS
      cases e
      obtain ⟨a, vs, rfl, _, ha, _⟩ := lst_at hp hS r
      exact .base (.lst ha)
    · rename_i ds hS
      cases e
      obtain ⟨a, vs, rfl, _, ha, _⟩ := dic_at hp hS r
      exact .base (.dK ha)
    · cases e
    · cases e
def tys : List String := ["NoneType", "bool", "int", "str", "tuple", "list", "dict"]
theorem ty_mem {S : Store} {d : D} {n : String} (e : tyD S d = some n) : n ∈ tys := by
  cases d with
  | loc m =>
    unfold tyD at e
    dsimp only at e
    split at e <;> first | (cases e; decide) | cases e
  | fn y => cases e
  | _ => cases e; decide
theorem kit1 (K : PySem.W.Frag) {n : String} (h : n ∈ tys) (t : Ty) : PySem.W.kitOne K (.type n) (.type t.name) = some (isaD n t) := by
  have all : ∀ m ∈ tys, ∀ t : Ty, PySem.W.kitOne K (.type m) (.type t.name) = some (isaD m t) := by
    intro m hm t
    simp only [tys, List.mem_cons, List.mem_nil_iff, or_false] at hm
    rcases hm with rfl | rfl | rfl | rfl | rfl | rfl | rfl <;> cases t <;> rfl
  exact all n h t
theorem kit2 (K : PySem.W.Frag) {n : String} (h : n ∈ tys) : PySem.W.kitAny K (.type n) [.type "list", .type "tuple"] = some (isaD n .list || isaD n .tuple) := by
  simp only [tys, List.mem_cons, List.mem_nil_iff, or_false] at h
  rcases h with rfl | rfl | rfl | rfl | rfl | rfl | rfl <;> rfl
end
end Mi

end

section
/-! MiE: enumerate of a list or a tuple; what is walked. -/
namespace PySem
open Sem (wp)
theorem mi_enum_new1 {v : Value} {o : Obj} {H : Heap → Prop} (B : Begins v o H) :
    Meets (Builtin.«enumerate.__new__» ⟨[.type "enumerate", v], []⟩) (fun _ R s => H s.heap ∧
      R (.ok (.ret (.ref (s.heap.push o).objs.size))) { s with heap := (s.heap.push o).push { cls := .type "enumerate", data := .fields #[.none, .bool false, .ref s.heap.objs.size, rawInt 0, .none, .none] } }) :=
  .of_wp fun prog w A R s h => by
    obtain ⟨hp, g, d, tk, os⟩ := s; obtain ⟨h1, h⟩ := h
    have hsub := sub_enumerate
    have q1 : ∀ {A' : Around} {E : Value → Shared → Prop} {Q : Value → Shared → Prop}, Q (.ref hp.objs.size) ⟨hp.push o, g, d, tk, os⟩ → wpAny (model prog w) A' (pyIter v) Q E ⟨hp, g, d, tk, os⟩ :=
      fun q => B.iter prog w _ _ ⟨hp, g, d, tk, os⟩ _ h1 q
    wp_walk using q1
    refine wpAny_stack_any fun st => wpAny_pure ?_
    split
    · rename_i c _ _ _ _ _
      cases (c == Value.type "enumerate")
      · wp_walk using q1
        exact ⟨_, rfl, h⟩
      · wp_walk using q1
        exact ⟨_, rfl, h⟩
    · wp_walk using q1
      exact ⟨_, rfl, h⟩
theorem mi_call_enum {prog : Program} {w : World} {A : Around} {E : Value → Shared → Prop} {s : Shared} {v : Value} {o : Obj} {H : Heap → Prop} {Q : Value → Shared → Prop} (B : Begins v o H) (h1 : H s.heap)
    (h : ∀ h', IsEnum h' (s.heap.objs.size + 1) s.heap.objs.size 0 .none → h'.get? s.heap.objs.size = some o → h'.objs.size = s.heap.objs.size + 2 →
      (∀ b o, s.heap.get? b = some o → h'.get? b = some o) → Q (.ref (s.heap.objs.size + 1)) { s with heap := h' }) :
    wpAny (model prog w) A (call (.type "enumerate") [v]) Q E s := by
  refine callType_new F.called_enumerate (by decide) (F.typeCall_enumerate_1 _) (F.newCall_enumerate_1 _) (fun obj => F.args_object_init_2 obj _) F.entry_enumerate_new
    (mi_enum_new1 B) ⟨h1, ?_⟩
  have hz : (s.heap.push o).objs.size = s.heap.objs.size + 1 := Heap.size_push ..
  show _ ∧ _
  rw [hz]
  have he : IsEnum ((s.heap.push o).push { cls := .type "enumerate", data := .fields #[.none, .bool false, .ref s.heap.objs.size, rawInt 0, .none, .none] }) (s.heap.objs.size + 1) s.heap.objs.size 0 .none := by
    have := Heap.get?_push_size (s.heap.push o) (o := { cls := .type "enumerate", data := .fields #[.none, .bool false, .ref s.heap.objs.size, rawInt 0, .none, .none] }) rfl
    rw [hz] at this; exact this
  exact ⟨⟨_, he, rfl⟩, h _ he (Heap.get?_push_of_some _ (Heap.get?_push_size _ B.free)) (by rw [Heap.size_push, hz]) fun b o x => Heap.get?_push_of_some _ (Heap.get?_push_of_some _ x)⟩
end PySem
namespace Mi
open PySem PySem.Spec L2
/-- each item in a new pair -/
def ItE (c : Int) (SQ : Hp → List V → Prop) : It :=
  ⟨fun i H => ∃ (xs : List V) (x : V), SQ H xs ∧ xs[i]? = some x,
   fun i H v H' => ∃ T o x, v = .ref T ∧ H T = none ∧ o.dict = none ∧ H' = upd H T (.frz o (.tup [.int (c + (i : Nat)), x])) ∧ ∀ xs, SQ H xs → xs[i]? = some x,
   fun i H => ∃ xs : List V, SQ H xs ∧ xs.length = i⟩
theorem pairF {X : Cx} {pins : List (Addr × Obj)} {σ : L2.St} {H : Hp} {s : Shared} {h'' : Heap} {ch : List Addr} {c : Int} {x : V} {u : Value} {tk tk' : Nat} (I : L2.Inv X pins σ H s) (hf : ∀ b ∈ ch, FpOk X pins H b) (ru : RelV x u)
    (k : ∀ b o, b ∉ ch → s.heap.get? b = some o → h''.get? b = some o) (hT : h''.get? s.heap.objs.size = some { cls := .type "tuple", data := .seq #[.int c tk, u] }) :
    L2.Inv X pins σ (upd H s.heap.objs.size (.frz { cls := .type "tuple", data := .seq #[.int c tk, u] } (.tup [.int c, x]))) { s with heap := h'', toks := tk' } :=
  I.turnedNew (ch := ch) k hf (Nat.le_refl _) ⟨hT, by show 2 ≤ sizeLine; decide, [.int c tk, u], .cons ⟨_, rfl⟩ (.cons ru .nil), ⟨_, hT, rfl, _, rfl⟩⟩
theorem turn_enumL {P : Program} {w : World} {K : PySem.W.Frag} {elts : List Expr} {kk : Nat} {tpos : Pos} (c0 : Int) (a e it : Addr) :
    Turn P w K (.Tuple elts kk tpos) (ItE c0 fun H xs => SqL K H a xs) [e, it] e (fun i h => (∃ old, IsEnum h e it (c0 + ((i : Nat) : Int)) old) ∧ h.IsListIter it a i ∧ e ≠ it) where
  mem := by simp
  obj := fun i h st b hb => by
    obtain ⟨⟨old, he⟩, ⟨o, ho, hc, hd⟩, _⟩ := st
    have e' : b = e ∨ b = it := by simpa using hb
    rcases e' with z | z
    · rw [z]; exact ⟨_, he, fun v q => nomatch q⟩
    · rw [z]; exact ⟨o, ho, fun v q => by rw [hd] at q; cases q⟩
  keep := fun i h h' st k => let ⟨⟨old, he⟩, hi, hne⟩ := st; ⟨⟨old, k e (by simp) _ he⟩, hi.at fun o q => k it (by simp) o q, hne⟩
  item := by
    intro X hP hw hK hc i pins s σ H E I hf st hg
    subst hP hw hK
    obtain ⟨⟨old, he⟩, hit, hne⟩ := st
    obtain ⟨xs, x, hq, hx⟩ := hg
    obtain ⟨its, rv, p0, hz⟩ := I.list hq
    have p := p0.isList
    obtain ⟨u, hu, ru⟩ := rv.get hx
    have hel : e < s.heap.objs.size := Heap.lt_size he
    have hil : it < s.heap.objs.size := by obtain ⟨_, q, _⟩ := hit; exact Heap.lt_size q
    have nia : it ≠ a := fun z => by
      obtain ⟨o1, g1, c1, d1⟩ := hit
      obtain ⟨o2, g2, c2, n2, d2⟩ := p
      rw [z, g2] at g1; cases g1
      rw [d2] at d1; cases d1
    have nea : e ≠ a := fun z => by
      obtain ⟨o2, g2, c2, n2, d2⟩ := p
      have he2 := he
      unfold IsEnum at he2
      rw [z, g2] at he2
      cases he2
      cases d2
    have D := Draws.list (prog := X.prog) (w := X.w) (A := X.A.in1) (I.ok.hd hc) it a (Ne.symm nia) its.toArray
    have hlt : i < its.toArray.size := by
      have := (List.getElem?_eq_some_iff.mp hu).1
      simpa using this
    refine wpAny_pyNext_enum_itemC D he ⟨hit, p⟩ hlt hne (by simp [hne, nea]) fun y h' tk hy ho hst hT hsz hk => ?_
    have ey : y = u := by
      have h1 : its.toArray[i]? = some u := by simpa using hu
      rw [h1] at hy
      exact (Option.some.inj hy).symm
    subst ey
    refine ⟨_, rfl, wpAny_letOwnedTupleGo_enum (s := { s with heap := h', toks := tk + 1 }) ho fun h'' he' sb => ?_⟩
    have hT2 : h''.get? s.heap.objs.size = some { cls := .type "tuple", data := .seq #[.int (c0 + (i : Int)) tk, y] } := (sb.2 _ (Nat.ne_of_gt hel)).trans hT
    have I1 := pairF (tk' := tk + 1) (ch := [e, it]) I hf ru (fun b ob hb q => (sb.2 b (fun z => hb (by simp [z]))).trans (hk b ob (fun z => hb (by simp [z])) (fun z => hb (by simp [z])) q)) hT2
    refine ⟨.ref s.heap.objs.size, _, I1, rfl, ⟨_, _, x, rfl, I.hok.fresh (Nat.le_refl _), rfl, rfl, fun ys hy => by rw [I.list_inj hy hq]; exact hx⟩, ⟨⟨y, ?_⟩, hst.1.at fun o q => (sb.2 it (Ne.symm hne)).trans q, hne⟩, fun b hb => ?_⟩
    · have e1 : c0 + ((i + 1 : Nat) : Int) = c0 + (i : Int) + 1 := by omega
      rw [e1]; exact he'
    · have hb' : b < s.heap.objs.size := by
        have e' : b = e ∨ b = it := by simpa using hb
        rcases e' with z | z
        · rw [z]; exact hel
        · rw [z]; exact hil
      rw [upd_ne (Nat.ne_of_lt hb')]
      exact (hf b hb).1
  done := by
    intro X hP hw hK hc i pins s σ H E I hf st hg
    subst hP hw hK
    obtain ⟨⟨old, he⟩, hit, hne⟩ := st
    obtain ⟨xs, hq, hx⟩ := hg
    obtain ⟨its, rv, p0, hz⟩ := I.list hq
    have p := p0.isList
    obtain ⟨f0, f1, f2, f3, f4, f5⟩ := hf it (by simp)
    have hl := rv.length
    have nia : it ≠ a := fun z => by
      obtain ⟨o1, g1, c1, d1⟩ := hit
      obtain ⟨o2, g2, c2, n2, d2⟩ := p
      rw [z, g2] at g1; cases g1
      rw [d2] at d1; cases d1
    have D := Draws.list (prog := X.prog) (w := X.w) (A := X.A.in1) (I.ok.hd hc) it a (Ne.symm nia) its.toArray
    have en : i = its.toArray.size := by simp; omega
    exact wpAny_pyNext_enum_endD D he (by rw [← en]; exact ⟨hit, p⟩) fun h' eb => ⟨rfl, I.turned (t' := s.toks) (fun b o hb q => eb b o hb q) f0 f1 f3 f4 f5⟩
  self := fun A i s Q E st h => let ⟨⟨_, he⟩, _⟩ := st; wpAny_pyIter_enum he h
theorem turn_enumT {P : Program} {w : World} {K : PySem.W.Frag} {elts : List Expr} {kk : Nat} {tpos : Pos} (c0 : Int) (a e it : Addr) :
    Turn P w K (.Tuple elts kk tpos) (ItE c0 fun H xs => SqT K H a xs) [e, it] e (fun i h => (∃ old, IsEnum h e it (c0 + ((i : Nat) : Int)) old) ∧ h.IsTupleIter it a i ∧ e ≠ it) where
  mem := by simp
  obj := fun i h st b hb => by
    obtain ⟨⟨old, he⟩, ⟨o, ho, hc, hd⟩, _⟩ := st
    have e' : b = e ∨ b = it := by simpa using hb
    rcases e' with z | z
    · rw [z]; exact ⟨_, he, fun v q => nomatch q⟩
    · rw [z]; exact ⟨o, ho, fun v q => by rw [hd] at q; cases q⟩
  keep := fun i h h' st k => let ⟨⟨old, he⟩, hi, hne⟩ := st; ⟨⟨old, k e (by simp) _ he⟩, hi.at fun o q => k it (by simp) o q, hne⟩
  item := by
    intro X hP hw hK hc i pins s σ H E I hf st hg
    subst hP hw hK
    obtain ⟨⟨old, he⟩, hit, hne⟩ := st
    obtain ⟨xs, x, hq, hx⟩ := hg
    obtain ⟨its, rv, p, hz⟩ := I.tuple hq
    obtain ⟨u, hu, ru⟩ := rv.get hx
    have hel : e < s.heap.objs.size := Heap.lt_size he
    have hil : it < s.heap.objs.size := by obtain ⟨_, q, _⟩ := hit; exact Heap.lt_size q
    have nia : it ≠ a := fun z => by
      obtain ⟨o1, g1, c1, d1⟩ := hit
      obtain ⟨o2, g2, c2, n2, d2⟩ := p
      rw [z, g2] at g1; cases g1
      rw [d2] at d1; cases d1
    have nea : e ≠ a := fun z => by
      obtain ⟨o2, g2, c2, n2, d2⟩ := p
      have he2 := he
      unfold IsEnum at he2
      rw [z, g2] at he2
      cases he2
      cases d2
    have D := Draws.tuple (prog := X.prog) (w := X.w) (A := X.A.in1) (I.ok.hd hc) it a (Ne.symm nia) its.toArray
    have hlt : i < its.toArray.size := by
      have := (List.getElem?_eq_some_iff.mp hu).1
      simpa using this
    refine wpAny_pyNext_enum_itemC D he ⟨hit, p⟩ hlt hne (by simp [hne, nea]) fun y h' tk hy ho hst hT hsz hk => ?_
    have ey : y = u := by
      have h1 : its.toArray[i]? = some u := by simpa using hu
      rw [h1] at hy
      exact (Option.some.inj hy).symm
    subst ey
    refine ⟨_, rfl, wpAny_letOwnedTupleGo_enum (s := { s with heap := h', toks := tk + 1 }) ho fun h'' he' sb => ?_⟩
    have hT2 : h''.get? s.heap.objs.size = some { cls := .type "tuple", data := .seq #[.int (c0 + (i : Int)) tk, y] } := (sb.2 _ (Nat.ne_of_gt hel)).trans hT
    have I1 := pairF (tk' := tk + 1) (ch := [e, it]) I hf ru (fun b ob hb q => (sb.2 b (fun z => hb (by simp [z]))).trans (hk b ob (fun z => hb (by simp [z])) (fun z => hb (by simp [z])) q)) hT2
    refine ⟨.ref s.heap.objs.size, _, I1, rfl, ⟨_, _, x, rfl, I.hok.fresh (Nat.le_refl _), rfl, rfl, fun ys hy => by rw [I.tuple_inj hy hq]; exact hx⟩, ⟨⟨y, ?_⟩, hst.1.at fun o q => (sb.2 it (Ne.symm hne)).trans q, hne⟩, fun b hb => ?_⟩
    · have e1 : c0 + ((i + 1 : Nat) : Int) = c0 + (i : Int) + 1 := by omega
      rw [e1]; exact he'
    · have hb' : b < s.heap.objs.size := by
        have e' : b = e ∨ b = it := by simpa using hb
        rcases e' with z | z
        · rw [z]; exact hel
        · rw [z]; exact hil
      rw [upd_ne (Nat.ne_of_lt hb')]
      exact (hf b hb).1
  done := by
    intro X hP hw hK hc i pins s σ H E I hf st hg
    subst hP hw hK
    obtain ⟨⟨old, he⟩, hit, hne⟩ := st
    obtain ⟨xs, hq, hx⟩ := hg
    obtain ⟨its, rv, p, hz⟩ := I.tuple hq
    obtain ⟨f0, f1, f2, f3, f4, f5⟩ := hf it (by simp)
    have hl := rv.length
    have nia : it ≠ a := fun z => by
      obtain ⟨o1, g1, c1, d1⟩ := hit
      obtain ⟨o2, g2, c2, n2, d2⟩ := p
      rw [z, g2] at g1; cases g1
      rw [d2] at d1; cases d1
    have D := Draws.tuple (prog := X.prog) (w := X.w) (A := X.A.in1) (I.ok.hd hc) it a (Ne.symm nia) its.toArray
    have en : i = its.toArray.size := by simp; omega
    exact wpAny_pyNext_enum_endD D he (by rw [← en]; exact ⟨hit, p⟩) fun h' eb => ⟨rfl, I.turned (t' := s.toks) (fun b o hb q => eb b o hb q) f0 f1 f3 f4 f5⟩
  self := fun A i s Q E st h => let ⟨⟨_, he⟩, _⟩ := st; wpAny_pyIter_enum he h
section
variable {X : Cx}
def iEnumF (K : PySem.W.Frag) (ta : TA) : TI := fun σ H R => ta σ H fun vs H1 => ∃ a xs, vs = [.ref a] ∧ ((SqL K H1 a xs ∧ R (ItE 0 fun H xs => SqL K H a xs) H1) ∨ (SqT K H1 a xs ∧ R (ItE 0 fun H xs => SqT K H a xs) H1))
theorem pi_enumF {e : Expr} {ta : TA} {p pos tpos : Pos} {elts : List Expr} {kk : Nat} (hg : Gl X "enumerate") (hm : X.mg "enumerate" = none) (ha : PA X [e] ta) (hs : starEach [e] X.env = [(false, eval e X.env)]) :
    PI X (.Tuple elts kk tpos) (.Call (.Name "enumerate" p) [e] [] pos) (iEnumF X.K ta) := by
  refine ⟨fun pins s σ H R I h => ?_⟩
  refine PyProof.Rows.Call_ (ld_blt I hg hm PyProof.Rows.boot_enumerate (PyProof.Rows.callWith_type1 (thn (ha.run pos pins s σ H _ I h) fun us s1 ⟨vs, H1, I1, r1, q1⟩ => ?_) hs rfl))
  obtain ⟨a, xs, ex, q⟩ := q1
  subst ex
  obtain ⟨u, rfl, ru⟩ := vals1 r1
  cases ru
  have fp : ∀ b ∈ [s1.heap.objs.size + 1, s1.heap.objs.size], FpOk X pins H1 b := fun b hb => by
    have e' : b = s1.heap.objs.size + 1 ∨ b = s1.heap.objs.size := by simpa using hb
    have hle : s1.heap.objs.size ≤ b := by
      rcases e' with z | z
      · rw [z]; exact Nat.le_add_right _ _
      · rw [z]; exact Nat.le_refl _
    exact I1.fpOk hle (I1.hok.fresh hle)
  rcases q with ⟨hq, q⟩ | ⟨hq, q⟩
  · obtain ⟨its, rv, p', hz⟩ := I1.list hq
    refine call_enumerate_list p'.isList fun h' he hit hsz hk => wpAny_pyIter_enum he ?_
    have I2 : L2.Inv X pins σ H1 { s1 with heap := h' } := I1.kept (t' := s1.toks) hk
    exact ⟨s1.heap.objs.size + 1, [s1.heap.objs.size + 1, s1.heap.objs.size], _, _, H1, rfl, I2, turn_enumL 0 a (s1.heap.objs.size + 1) s1.heap.objs.size, ⟨⟨.none, he⟩, hit, Nat.succ_ne_self _⟩, fp, q⟩
  · obtain ⟨its, rv, p', hz⟩ := I1.tuple hq
    refine mi_call_enum (begins_tuple a its.toArray) p' fun h' he hit hsz hk => wpAny_pyIter_enum he ?_
    have I2 : L2.Inv X pins σ H1 { s1 with heap := h' } := I1.kept (t' := s1.toks) hk
    exact ⟨s1.heap.objs.size + 1, [s1.heap.objs.size + 1, s1.heap.objs.size], _, _, H1, rfl, I2, turn_enumT 0 a (s1.heap.objs.size + 1) s1.heap.objs.size, ⟨⟨.none, he⟩, ⟨_, hit, rfl, rfl⟩, Nat.succ_ne_self _⟩, fp, q⟩
theorem _root_.L2.PI.or {tg e : Expr} {w1 w2 : TI} (h1 : PI X tg e w1) (h2 : PI X tg e w2) : PI X tg e (fun σ H R => w1 σ H R ∨ w2 σ H R) := ⟨fun pins s σ H R I h => by
  rcases h with h | h
  · exact h1.run pins s σ H R I h
  · exact h2.run pins s σ H R I h⟩
theorem _root_.L2.PI.imp {tg e : Expr} {w w' : TI} (h : PI X tg e w) (i : ∀ σ H R, w' σ H R → w σ H R) : PI X tg e w' := ⟨fun pins s σ H R I q => h.run pins s σ H R I (i σ H R q)⟩

/-! ### what is walked, by data -/
structure ItOk (K : PySem.W.Frag) (J : It) (w : Wk) (H0 : Hp) (ρ0 : List Addr) : Prop where
  go : ∀ (i : Nat) (d : D) (H : Hp) (ρ : List Addr) (S : Store), Ext H0 ρ0 H ρ → HRep K H ρ S → w.ok S = true → w.items[i]? = some d → J.go i H ∧ ∀ x H', J.yld i H x H' → Ext H ρ H' ρ ∧ HRep K H' ρ S ∧ Rep K H' ρ d x
  stop : ∀ (i : Nat) (H : Hp) (ρ : List Addr) (S : Store), Ext H0 ρ0 H ρ → HRep K H ρ S → w.ok S = true → i = w.items.length → J.stop i H
def tI (K : PySem.W.Frag) (f : StD → Store → Option (Wk × Store)) : TI := fun σ H R => ∃ ρ σD S w S', Cor K H ρ σ σD S ∧ f σD S = some (w, S') ∧ ∀ J H' ρ', Ext H ρ H' ρ' → HRep K H' ρ' S' → ItOk K J w H' ρ' → R J H'
theorem rangeD_get : ∀ (n : Nat) (lo : Int) (i : Nat) (d : D), (rangeD lo n)[i]? = some d → i < n ∧ d = .int (lo + i)
  | 0, lo, i, d, h => by simp [rangeD] at h
  | n + 1, lo, 0, d, h => by
    have : D.int lo = d := Option.some.inj h
    exact ⟨Nat.succ_pos _, by rw [← this]; simp⟩
  | n + 1, lo, i + 1, d, h => by
    obtain ⟨h1, h2⟩ := rangeD_get n (lo + 1) i d h
    exact ⟨Nat.succ_lt_succ h1, by rw [h2]; congr 1; omega⟩
theorem rangeD_len : ∀ (n : Nat) (lo : Int), (rangeD lo n).length = n
  | 0, _ => rfl
  | n + 1, lo => by simp [rangeD, rangeD_len n]
theorem itr_ok (K : PySem.W.Frag) (lo : Int) (n : Nat) (H0 : Hp) (ρ0 : List Addr) : ItOk K (Itr lo n) ⟨rangeD lo n, fun _ => true⟩ H0 ρ0 where
  go := fun i d H ρ S x hp _ e => by
    obtain ⟨h1, h2⟩ := rangeD_get n lo i d e
    refine ⟨h1, fun y H' hy => ?_⟩
    obtain ⟨rfl, rfl⟩ := hy
    exact ⟨Ext.refl, hp, by rw [h2]; rfl⟩
  stop := fun i H ρ S x hp _ e => by
    show n ≤ i
    rw [e]; simp [rangeD_len]
/-- the sequence at a, at every turn -/
theorem seq_stays {K : PySem.W.Frag} {H0 H : Hp} {ρ0 ρ : List Addr} {S0 S : Store} {d : D} {ds : List D} {v : V} (hp0 : HRep K H0 ρ0 S0) (r0 : Rep K H0 ρ0 d v) (x : Ext H0 ρ0 H ρ) (hp : HRep K H ρ S) (ok : stays d ds S = true) (e0 : seqOf S0 d = some ds) :
    seqOf S d = some ds ∧ Rep K H ρ d v := by
  refine ⟨?_, x.rep hp0 _ _ r0⟩
  cases d with
  | loc m =>
    unfold stays at ok
    dsimp only at ok
    split at ok
    · rename_i es hS
      unfold seqOf
      dsimp only
      rw [hS, D.beqL_eq ok]
    · cases ok
  | _ => exact e0
theorem r_seq {tg e : Expr} {f : StD → Store → Option (D × Store)} (h : PE X e (tD X.K f)) : PI X tg e (tI X.K fun σ S => bnd (f σ S) fun d S1 => bnd (opt (seqOf S1 d) S1) fun ds S2 => some (⟨ds, stays d ds⟩, S2)) := by
  refine ((pi_list h).or (pi_tup h)).imp fun σ H R ⟨ρ, σD, S, w, S', cc, e, k⟩ => ?_
  obtain ⟨d, S1, e1, e2⟩ := bnd_eq e
  obtain ⟨ds, S2, e3, e4⟩ := bnd_eq e2
  obtain ⟨e5, e6⟩ := opt_eq e3
  subst S2
  obtain ⟨rfl, rfl⟩ := inj2 e4
  have lst : ∀ {H1 : Hp} {ρ1 : List Addr} {a : Addr}, HRep X.K H1 ρ1 S1 → Rep X.K H1 ρ1 d (.ref a) → (∀ ds', d ≠ .tup ds') → ItOk X.K (Itl X.K a) ⟨ds, stays d ds⟩ H1 ρ1 := fun {H1 ρ1 a} h1 r1 nt => by
    have at_ : ∀ (H2 : Hp) (ρ2 : List Addr) (S2 : Store), Ext H1 ρ1 H2 ρ2 → HRep X.K H2 ρ2 S2 → stays d ds S2 = true → ∃ vs, SqL X.K H2 a vs ∧ RepL X.K H2 ρ2 ds vs := fun H2 ρ2 S2 x2 h2 ok => by
      obtain ⟨s1, s2⟩ := seq_stays h1 r1 x2 h2 ok e5
      cases d with
      | tup q => exact absurd rfl (nt q)
      | ro q =>
        cases s1
        obtain ⟨b, vs, eb, hb, rr⟩ := s2
        cases eb
        exact ⟨vs, hb.sq, rr⟩
      | loc m =>
        unfold seqOf at s1
        dsimp only at s1
        split at s1
        · rename_i q hS
          cases s1
          obtain ⟨b, vs, eb, _, hb, rr⟩ := lst_at h2 hS s2
          cases eb
          exact ⟨vs, .of hb, rr⟩
        · cases s1
      | _ => cases s1
    refine ⟨fun i d' H2 ρ2 S2 x2 h2 ok e => ?_, fun i H2 ρ2 S2 x2 h2 ok e => ?_⟩
    · obtain ⟨vs, q1, q2⟩ := at_ H2 ρ2 S2 x2 h2 ok
      obtain ⟨v, g1, g2⟩ := q2.get e
      refine ⟨⟨vs, v, q1, g1⟩, fun y H' hy => ?_⟩
      obtain ⟨rfl, hy⟩ := hy
      have := hy vs q1
      rw [g1] at this
      cases this
      exact ⟨Ext.refl, h2, g2⟩
    · obtain ⟨vs, q1, q2⟩ := at_ H2 ρ2 S2 x2 h2 ok
      exact ⟨vs, q1, by rw [e, ← q2.length]; exact Nat.le_refl _⟩
  cases d with
  | tup q =>
    cases e5
    refine .inr ⟨ρ, σD, S, _, _, cc, e1, fun v H1 ρ1 x1 h1 r1 => ?_⟩
    obtain ⟨a, vs, rfl, ha, rr⟩ := id r1
    refine ⟨a, rfl, ⟨vs, ha.sq⟩, k _ H1 ρ1 x1 h1 ⟨fun i d' H2 ρ2 S2 x2 h2 ok e => ?_, fun i H2 ρ2 S2 x2 h2 ok e => ?_⟩⟩
    · have ha2 := ha.ext h1 x2
      have rr2 := x2.repL h1 _ _ rr
      obtain ⟨v, g1, g2⟩ := rr2.get e
      refine ⟨⟨vs, v, ha2.sq, g1⟩, fun y H' hy => ?_⟩
      obtain ⟨rfl, hy⟩ := hy
      have := hy vs ha2.sq
      rw [g1] at this
      cases this
      exact ⟨Ext.refl, h2, g2⟩
    · exact ⟨vs, (ha.ext h1 x2).sq, by rw [e, ← rr.length]; exact Nat.le_refl _⟩
  | ro q =>
    refine .inl ⟨ρ, σD, S, _, _, cc, e1, fun v H1 ρ1 x1 h1 r1 => ?_⟩
    obtain ⟨a, vs, rfl, ha, rr⟩ := id r1
    exact ⟨a, rfl, ⟨vs, ha.sq⟩, k _ H1 ρ1 x1 h1 (lst h1 r1 fun _ z => by cases z)⟩
  | loc m =>
    refine .inl ⟨ρ, σD, S, _, _, cc, e1, fun v H1 ρ1 x1 h1 r1 => ?_⟩
    obtain ⟨a, rfl, ea⟩ := id r1
    have sq : ∃ vs, SqL X.K H1 a vs := by
      unfold seqOf at e5
      dsimp only at e5
      split at e5
      · rename_i q hS
        obtain ⟨b, vs, eb, _, hb, rr⟩ := lst_at h1 hS r1
        cases eb
        exact ⟨vs, .of hb⟩
      · cases e5
    exact ⟨a, rfl, sq, k _ H1 ρ1 x1 h1 (lst h1 r1 fun _ z => by cases z)⟩
  | _ => cases e5
theorem r_rng1 {tg a : Expr} {fa : StD → Store → Option (D × Store)} {q p : Pos} (hg : Gl X "range") (hm : X.mg "range" = none) (ha : PE X a (tD X.K fa)) (hs : starEach [a] X.env = [(false, eval a X.env)]) :
    PI X tg (.Call (.Name "range" q) [a] [] p) (tI X.K fun σ S => bnd (bnd (fa σ S) intD) fun i S1 => opt (rngD 0 i) S1) := by
  refine (pi_range1 hg hm (pa_cons ha pa_nil hs) hs).imp fun σ H R ⟨ρ, σD, S, w, S', cc, e, k⟩ => ?_
  obtain ⟨i, S1, e1, e2⟩ := bnd_eq e
  obtain ⟨x, S2, e3, e4⟩ := bnd_eq e1
  obtain ⟨e5, e6⟩ := opt_eq e2
  subst S'
  cases x <;> first | (cases e4; done) | skip
  obtain ⟨rfl, rfl⟩ := inj2 e4
  unfold rngD at e5
  split at e5
  · rename_i hb
    cases e5
    refine ⟨ρ, σD, S, _, _, cc, e3, fun v H1 ρ1 x1 h1 r1 => ⟨_, by rw [show v = V.int _ from r1], hb.2.2.1, hb.2.2.2, ?_⟩⟩
    have := k (Itr 0 _) H1 ρ1 x1 h1 (itr_ok _ _ _ _ _)
    simpa using this
  · cases e5
theorem r_rng2 {tg a b : Expr} {fa fb : StD → Store → Option (D × Store)} {q p : Pos} (hg : Gl X "range") (hm : X.mg "range" = none) (ha : PE X a (tD X.K fa)) (hb : PE X b (tD X.K fb)) (hs : starEach [a, b] X.env = [(false, eval a X.env), (false, eval b X.env)]) (hs2 : starEach [b] X.env = [(false, eval b X.env)]) :
    PI X tg (.Call (.Name "range" q) [a, b] [] p) (tI X.K fun σ S => bnd (bnd (fa σ S) intD) fun i S1 => bnd (bnd (fb σ S1) intD) fun j S2 => opt (rngD i j) S2) := by
  refine (pi_range2 hg hm (pa_cons ha (pa_cons hb pa_nil hs2) (by rw [hs, hs2])) hs hs2).imp fun σ H R ⟨ρ, σD, S, w, S', cc, e, k⟩ => ?_
  obtain ⟨i, S1, e1, e2⟩ := bnd_eq e
  obtain ⟨x, S2, e3, e4⟩ := bnd_eq e1
  obtain ⟨j, S3, e5, e6⟩ := bnd_eq e2
  obtain ⟨y, S4, e7, e8⟩ := bnd_eq e5
  obtain ⟨e9, e10⟩ := opt_eq e6
  subst S'
  cases x <;> first | (cases e4; done) | skip
  obtain ⟨rfl, rfl⟩ := inj2 e4
  cases y <;> first | (cases e8; done) | skip
  obtain ⟨rfl, rfl⟩ := inj2 e8
  unfold rngD at e9
  split at e9
  · rename_i hb
    cases e9
    refine ⟨ρ, σD, S, _, _, cc, e3, fun v H1 ρ1 x1 h1 r1 => ⟨ρ1, σD, _, _, _, cc.ext x1 h1, e7, fun v2 H2 ρ2 x2 h2 r2 => ?_⟩⟩
    exact ⟨_, _, by rw [show v = V.int _ from r1, show v2 = V.int _ from r2], ⟨hb.1, hb.2.1, hb.2.2.1, hb.2.2.2⟩, k (Itr _ _) H2 ρ2 (x1.trans x2) h2 (itr_ok _ _ _ _ _)⟩
  · cases e9
theorem stepD_get : ∀ (n : Nat) (lo c : Int) (i : Nat) (d : D), (stepD lo c n)[i]? = some d → i < n ∧ d = .int (lo + i * c)
  | 0, lo, c, i, d, h => by simp [stepD] at h
  | n + 1, lo, c, 0, d, h => by
    have : D.int lo = d := Option.some.inj h
    exact ⟨Nat.succ_pos _, by rw [← this]; simp⟩
  | n + 1, lo, c, i + 1, d, h => by
    obtain ⟨h1, h2⟩ := stepD_get n (lo + c) c i d h
    refine ⟨Nat.succ_lt_succ h1, ?_⟩
    rw [h2]; congr 1
    have e : ((i + 1 : Nat) : Int) * c = (i : Int) * c + c := by rw [Int.natCast_add, Int.add_mul]; simp
    rw [e]; omega
theorem stepD_len : ∀ (n : Nat) (lo c : Int), (stepD lo c n).length = n
  | 0, _, _ => rfl
  | n + 1, lo, c => by simp [stepD, stepD_len n]
theorem itc_ok (K : PySem.W.Frag) (lo c : Int) (n : Nat) (H0 : Hp) (ρ0 : List Addr) : ItOk K (Itc lo c n) ⟨stepD lo c n, fun _ => true⟩ H0 ρ0 where
  go := fun i d H ρ S x hp _ e => by
    obtain ⟨h1, h2⟩ := stepD_get n lo c i d e
    refine ⟨h1, fun y H' hy => ?_⟩
    obtain ⟨rfl, rfl⟩ := hy
    exact ⟨Ext.refl, hp, by rw [h2]; rfl⟩
  stop := fun i H ρ S x hp _ e => by
    show n ≤ i
    rw [e]; simp [stepD_len]
theorem r_rng3 {tg a b c : Expr} {fa fb fc : StD → Store → Option (D × Store)} {q p : Pos} (hg : Gl X "range") (hm : X.mg "range" = none) (ha : PE X a (tD X.K fa)) (hb : PE X b (tD X.K fb)) (hcc : PE X c (tD X.K fc))
    (hs : ∀ r, starEach (a :: r) X.env = (false, eval a X.env) :: starEach r X.env) (hs2 : ∀ r, starEach (b :: r) X.env = (false, eval b X.env) :: starEach r X.env) (hs3 : ∀ r, starEach (c :: r) X.env = (false, eval c X.env) :: starEach r X.env) :
    PI X tg (.Call (.Name "range" q) [a, b, c] [] p) (tI X.K fun σ S => bnd (bnd (fa σ S) intD) fun i S1 => bnd (bnd (fb σ S1) intD) fun j S2 => bnd (bnd (fc σ S2) intD) fun k S3 => opt (rng3D i j k) S3) := by
  refine (pi_range3 hg hm (pa_cons ha (pa_cons hb (pa_cons hcc pa_nil (hs3 _)) (hs2 _)) (hs _)) (hs _) (by rw [hs2, hs3]; rfl)).imp fun σ H R ⟨ρ, σD, S, w, S', cc, e, k⟩ => ?_
  obtain ⟨i, S1, e1, e2⟩ := bnd_eq e
  obtain ⟨x, S2, e3, e4⟩ := bnd_eq e1
  obtain ⟨j, S3, e5, e6⟩ := bnd_eq e2
  obtain ⟨y, S4, e7, e8⟩ := bnd_eq e5
  obtain ⟨l, S5, e9, e10⟩ := bnd_eq e6
  obtain ⟨z, S6, e11, e12⟩ := bnd_eq e9
  obtain ⟨e13, e14⟩ := opt_eq e10
  subst S'
  cases x <;> first | (cases e4; done) | skip
  obtain ⟨rfl, rfl⟩ := inj2 e4
  cases y <;> first | (cases e8; done) | skip
  obtain ⟨rfl, rfl⟩ := inj2 e8
  cases z <;> first | (cases e12; done) | skip
  obtain ⟨rfl, rfl⟩ := inj2 e12
  unfold rng3D at e13
  split at e13
  · rename_i hb
    cases e13
    obtain ⟨rfl, b1, b2, b3, b4⟩ := hb
    refine ⟨ρ, σD, S, _, _, cc, e3, fun v H1 ρ1 x1 h1 r1 => ⟨ρ1, σD, _, _, _, cc.ext x1 h1, e7, fun v2 H2 ρ2 x2 h2 r2 => ⟨ρ2, σD, _, _, _, (cc.ext x1 h1).ext x2 h2, e11, fun v3 H3 ρ3 x3 h3 r3 => ?_⟩⟩⟩
    exact ⟨_, _, _, _, by rw [show v = V.int _ from r1, show v2 = V.int _ from r2, show v3 = V.int _ from r3], RgC.neg b1 b2 b3 b4, k (Itc _ _ _) H3 ρ3 ((x1.trans x2).trans x3) h3 (itc_ok _ _ _ _ _ _)⟩
  · cases e13
theorem enumD_get : ∀ (ds : List D) (j : Int) (i : Nat) (d : D), (enumD j ds)[i]? = some d → ∃ x, ds[i]? = some x ∧ d = .tup [.int (j + i), x]
  | [], j, i, d, h => by simp [enumD] at h
  | y :: r, j, 0, d, h => by
    have : D.tup [.int j, y] = d := Option.some.inj h
    exact ⟨y, rfl, by rw [← this]; simp⟩
  | y :: r, j, i + 1, d, h => by
    obtain ⟨x, h1, h2⟩ := enumD_get r (j + 1) i d h
    refine ⟨x, h1, ?_⟩
    rw [h2]
    have : j + 1 + (i : Int) = j + ((i + 1 : Nat) : Int) := by omega
    rw [this]
theorem enumD_len : ∀ (ds : List D) (j : Int), (enumD j ds).length = ds.length
  | [], _ => rfl
  | y :: r, j => by simp [enumD, enumD_len r]
theorem r_enm {a : Expr} {fa : StD → Store → Option (D × Store)} {q p tpos : Pos} {elts : List Expr} {kk : Nat} (hg : Gl X "enumerate") (hm : X.mg "enumerate" = none) (ha : PE X a (tD X.K fa)) (hs : starEach [a] X.env = [(false, eval a X.env)]) :
    PI X (.Tuple elts kk tpos) (.Call (.Name "enumerate" q) [a] [] p) (tI X.K fun σ S => bnd (fa σ S) fun d S1 => bnd (opt (seqOf S1 d) S1) fun ds S2 => some (⟨enumD 0 ds, stays d ds⟩, S2)) := by
  refine (pi_enumF hg hm (pa_cons ha pa_nil hs) hs).imp fun σ H R ⟨ρ, σD, S, w, S', cc, e, k⟩ => ?_
  obtain ⟨d, S1, e1, e2⟩ := bnd_eq e
  obtain ⟨ds, S2, e3, e4⟩ := bnd_eq e2
  obtain ⟨e5, e6⟩ := opt_eq e3
  subst S2
  obtain ⟨rfl, rfl⟩ := inj2 e4
  refine ⟨ρ, σD, S, _, _, cc, e1, fun v H1 ρ1 x1 h1 r1 => ?_⟩
  have mk : ∀ {a : Addr} {SQ : Hp → List V → Prop}, (∀ (H2 : Hp) (ρ2 : List Addr) (S2 : Store), Ext H1 ρ1 H2 ρ2 → HRep X.K H2 ρ2 S2 → stays d ds S2 = true → ∃ vs, SQ H2 vs ∧ RepL X.K H2 ρ2 ds vs) → ItOk X.K (ItE 0 SQ) ⟨enumD 0 ds, stays d ds⟩ H1 ρ1 := fun {a SQ} at_ => by
    refine ⟨fun i d' H2 ρ2 S2 x2 h2 ok e => ?_, fun i H2 ρ2 S2 x2 h2 ok e => ?_⟩
    · obtain ⟨vs, q1, q2⟩ := at_ H2 ρ2 S2 x2 h2 ok
      obtain ⟨x, g0, rfl⟩ := enumD_get ds 0 i d' e
      obtain ⟨v, g1, g2⟩ := q2.get g0
      refine ⟨⟨vs, v, q1, g1⟩, fun y H' hy => ?_⟩
      obtain ⟨T, o, z, rfl, hn, ho, rfl, hy⟩ := hy
      have := hy vs q1
      rw [g1] at this
      cases this
      refine ⟨Ext.newT h2 hn, h2.newT hn, T, _, rfl, .new ho, V.int (0 + (i : Int)), [v], rfl, rfl, v, [], rfl, (Ext.newT h2 hn).rep h2 _ _ g2, rfl⟩
    · obtain ⟨vs, q1, q2⟩ := at_ H2 ρ2 S2 x2 h2 ok
      exact ⟨vs, q1, by rw [e, ← q2.length]; exact (enumD_len ds 0).symm⟩
  cases d with
  | tup q =>
    cases e5
    obtain ⟨a, vs, rfl, ha, rr⟩ := r1
    refine ⟨a, vs, rfl, .inr ⟨ha.sq, k _ H1 ρ1 x1 h1 (mk (a := a) fun H2 ρ2 S2 x2 h2 _ => ⟨vs, (ha.ext h1 x2).sq, x2.repL h1 _ _ rr⟩)⟩⟩
  | ro q =>
    cases e5
    obtain ⟨a, vs, rfl, ha, rr⟩ := r1
    refine ⟨a, vs, rfl, .inl ⟨ha.sq, k _ H1 ρ1 x1 h1 (mk (a := a) fun H2 ρ2 S2 x2 h2 _ => ⟨vs, (ha.ext h1 x2).sq, x2.repL h1 _ _ rr⟩)⟩⟩
  | loc m =>
    have at_ : ∀ (H2 : Hp) (ρ2 : List Addr) (S2 : Store), Ext H1 ρ1 H2 ρ2 → HRep X.K H2 ρ2 S2 → seqOf S2 (.loc m) = some ds → ∃ a vs, v = .ref a ∧ SqL X.K H2 a vs ∧ RepL X.K H2 ρ2 ds vs := fun H2 ρ2 S2 x2 h2 e => by
      unfold seqOf at e
      dsimp only at e
      split at e
      · rename_i q hS
        cases e
        obtain ⟨b, vs, eb, _, hb, rr⟩ := lst_at h2 hS (x2.rep h1 _ _ r1)
        exact ⟨b, vs, eb, .of hb, rr⟩
      · cases e
    obtain ⟨a, vs, rfl, hq, rr⟩ := at_ H1 ρ1 _ Ext.refl h1 e5
    refine ⟨a, vs, rfl, .inl ⟨hq, k _ H1 ρ1 x1 h1 (mk (a := a) fun H2 ρ2 S2 x2 h2 ok => ?_)⟩⟩
    obtain ⟨b, ws, eb, hb, r2⟩ := at_ H2 ρ2 S2 x2 h2 (seq_stays h1 r1 x2 h2 ok e5).1
    cases eb
    exact ⟨ws, hb, r2⟩
  | _ => cases e5
end
end Mi

end

section
/-! Mi6: targets, comprehensions, statements. -/
namespace Mi
open PySem PySem.Spec L2
def tG (K : PySem.W.Frag) (sl : List Nat) (f : D → StD → Store → Option (StD × Store)) : TG := fun v σ H Q => ∃ ρ σD S d σE S', Cor K H ρ σ σD S ∧ Rep K H ρ d v ∧ f d σD S = some (σE, S') ∧
  ∀ σ' H' ρ', (σ'.length = σ.length ∧ ∀ j, j ∉ sl → σ'[j]? = σ[j]?) → Ext H ρ H' ρ' → Cor K H' ρ' σ' σE S' → Q σ' H'
def tGs (K : PySem.W.Frag) (sl : List Nat) (f : List D → StD → Store → Option (StD × Store)) : TGs := fun vs σ H Q => ∃ ρ σD S ds σE S', Cor K H ρ σ σD S ∧ RepL K H ρ ds vs ∧ f ds σD S = some (σE, S') ∧
  ∀ σ' H' ρ', (σ'.length = σ.length ∧ ∀ j, j ∉ sl → σ'[j]? = σ[j]?) → Ext H ρ H' ρ' → Cor K H' ρ' σ' σE S' → Q σ' H'
section
variable {K : PySem.W.Frag} {H H' : Hp} {ρ ρ' : List Addr} {S S' : Store} {σ : L2.St} {σD : StD}
theorem Cor.set (c : Cor K H ρ σ σD S) (i : Nat) {d : D} {v : V} (r : Rep K H ρ d v) : Cor K H ρ (σ.set i (some v)) (σD.set i (some d)) S := by
  refine ⟨by simp [c.len], fun j e h => ?_, c.hp⟩
  by_cases hj : i = j
  · subst hj
    by_cases hl : i < σD.length
    · rw [List.getElem?_set_self hl] at h
      cases h
      exact ⟨v, by rw [List.getElem?_set_self (by rw [c.len]; exact hl)], r⟩
    · rw [List.getElem?_eq_none (by simpa using hl)] at h; cases h
  · rw [List.getElem?_set_ne hj] at h
    obtain ⟨w, h1, h2⟩ := c.st j e h
    exact ⟨w, by rw [List.getElem?_set_ne hj]; exact h1, h2⟩
theorem wipeD_some {σ : StD} {i : Nat} {x : D} : ∀ {vs : List Nat}, (wipeD σ vs)[i]? = some (some x) → σ[i]? = some (some x) ∧ i ∉ vs
  | [], h => ⟨h, by simp⟩
  | v :: vs, h => by
    unfold wipeD at h
    by_cases hi : v = i
    · subst hi
      by_cases hv : v < (wipeD σ vs).length
      · rw [List.getElem?_set_self hv] at h; cases h
      · rw [List.getElem?_eq_none (by simpa using hv)] at h; cases h
    · rw [List.getElem?_set_ne hi] at h
      obtain ⟨h1, h2⟩ := wipeD_some h
      exact ⟨h1, by simp only [List.mem_cons, not_or]; exact ⟨fun e => hi e.symm, h2⟩⟩
theorem wipeD_length (σ : StD) : ∀ vs : List Nat, (wipeD σ vs).length = σ.length
  | [] => rfl
  | v :: vs => by unfold wipeD; rw [List.length_set, wipeD_length σ vs]
theorem wipe_in {σ : L2.St} {i : Nat} : ∀ {vs : List Nat}, i ∈ vs → i < σ.length → (wipe σ vs)[i]? = some none
  | v :: vs, h, hl => by
    unfold wipe
    by_cases hi : v = i
    · subst hi
      rw [List.getElem?_set_self (by rw [wipe_length]; exact hl)]
    · rw [List.getElem?_set_ne hi]
      exact wipe_in ((List.mem_cons.mp h).resolve_left fun e => hi e.symm) hl
theorem Cor.wipe (c : Cor K H ρ σ σD S) (vs : List Nat) : Cor K H ρ (L2.wipe σ vs) (wipeD σD vs) S := by
  refine ⟨by rw [wipe_length, wipeD_length, c.len], fun j e h => ?_, c.hp⟩
  obtain ⟨h1, h2⟩ := wipeD_some h
  obtain ⟨w, h3, h4⟩ := c.st j e h1
  exact ⟨w, by rw [wipe_out h2]; exact h3, h4⟩
theorem wipe_same {σ τ : L2.St} {vs : List Nat} (hl : τ.length = σ.length) (h : ∀ j, j ∉ vs → τ[j]? = σ[j]?) : wipe τ vs = wipe σ vs := by
  apply List.ext_getElem?
  intro j
  by_cases hj : j ∈ vs
  · by_cases hk : j < σ.length
    · rw [wipe_in hj hk, wipe_in hj (by rw [hl]; exact hk)]
    · rw [List.getElem?_eq_none (by rw [wipe_length, hl]; omega), List.getElem?_eq_none (by rw [wipe_length]; omega)]
  · rw [wipe_out hj, wipe_out hj, h j hj]
theorem Ext.out (x : Ext H ρ H' ρ') {a : Addr} {o : HO} (n : a ∉ ρ) (e : H a = some o) : H' a = some o ∧ a ∉ ρ' :=
  ⟨x.keep a o n e, fun m => by
    have := x.new a m n
    rw [e] at this; cases this⟩
mutual
theorem Rep.updOut {a : Addr} {ws : List V} {o : HO} (e : H a = some (.lst ws)) : ∀ (d : D) (v : V), Rep K H ρ d v → Rep K (upd H a o) ρ d v
  | .non, v, h => h
  | .bl b, v, h => h
  | .int i, v, h => h
  | .str y, v, h => h
  | .tup ds, v, h => by
    obtain ⟨b, vs, ev, q, r⟩ := h
    refine ⟨b, vs, ev, ?_, Rep.updOutL e ds vs r⟩
    rcases q with ⟨ob, q, n⟩ | q
    · exact .inl ⟨ob, by rw [upd_ne (ne_of q e (by intro z; cases z))]; exact q, n⟩
    · exact .inr q
  | .ro ds, v, h => by
    obtain ⟨b, vs, ev, q, r⟩ := h
    refine ⟨b, vs, ev, ?_, Rep.updOutL e ds vs r⟩
    rcases q with ⟨ob, q⟩ | q
    · exact .inl ⟨ob, by rw [upd_ne (ne_of q e (by intro z; cases z))]; exact q⟩
    · exact .inr q
  | .loc n, v, h => h
  | .fn y, v, h => h
theorem Rep.updOutL {a : Addr} {ws : List V} {o : HO} (e : H a = some (.lst ws)) : ∀ (ds : List D) (vs : List V), RepL K H ρ ds vs → RepL K (upd H a o) ρ ds vs
  | [], vs, h => h
  | d :: ds, vs, h => by
    obtain ⟨v, r, ev, h1, h2⟩ := h
    exact ⟨v, r, ev, Rep.updOut e d v h1, Rep.updOutL e ds r h2⟩
end
theorem TupAt.updOut {a q : Addr} {ws : List V} {o : HO} {vs : List V} (e : H a = some (.lst ws)) (h : TupAt K H q vs) : TupAt K (upd H a o) q vs := by
  rcases h with ⟨o', h1, h2⟩ | h
  · exact .inl ⟨o', by rw [upd_ne (ne_of h1 e (fun z => nomatch z))]; exact h1, h2⟩
  · exact .inr h
theorem HRep.updOut (hp : HRep K H ρ S) {a : Addr} {ws : List V} {o : HO} (n : a ∉ ρ) (e : H a = some (.lst ws)) : HRep K (upd H a o) ρ S := by
  refine ⟨hp.len, hp.nd, fun m mo b e1 e2 => ?_⟩
  have nb : b ≠ a := fun z => n (by rw [← z]; exact List.mem_of_getElem? e2)
  have r := hp.ob m mo b e1 e2
  cases mo with
  | lst ds => obtain ⟨vs, h1, h2⟩ := r; exact ⟨vs, by rw [upd_ne nb]; exact h1, Rep.updOutL e _ _ h2⟩
  | dic ds => obtain ⟨vs, h1, h2, h3⟩ := r; exact ⟨vs, by rw [upd_ne nb]; exact h1, h2, Rep.updOutL e _ _ h3⟩
  | dit ds => obtain ⟨vs, h1, h2, h3⟩ := r; exact ⟨vs, h1.mono (upd_ne nb) fun q vs h => h.updOut e, h2, Rep.updOutL e _ _ h3⟩
theorem Ext.updOut (x : Ext H ρ H' ρ') {a : Addr} {o : HO} (n : H a = none) : Ext H ρ (upd H' a o) ρ' :=
  ⟨x.pre, x.new, fun b u m e => by rw [upd_ne (ne_of_none e n)]; exact x.keep b u m e⟩
theorem HRep.adopt (hp : HRep K H ρ S) {a : Addr} {ws : List V} {ds : List D} (n : a ∉ ρ) (e : H a = some (.lst ws)) (r : RepL K H ρ ds ws) : HRep K H (ρ ++ [a]) (S ++ [.lst ds]) := by
  refine ⟨by simp [hp.len], ?_, fun m mo b e1 e2 => ?_⟩
  · rw [List.nodup_append]
    exact ⟨hp.nd, by simp, fun c hc b hb => by
      have : b = a := by simpa using hb
      intro z; subst z; subst this; exact n hc⟩
  · by_cases hl : m < S.length
    · rw [List.getElem?_append_left hl] at e1
      rw [List.getElem?_append_left (by rw [hp.len]; exact hl)] at e2
      exact (hp.ob m mo b e1 e2).grow
    · have hb := (List.getElem?_eq_some_iff.mp e1).1
      simp at hb
      have en : m = S.length := by omega
      subst en
      rw [List.getElem?_append_right (Nat.le_refl _), Nat.sub_self] at e1
      rw [← hp.len, List.getElem?_append_right (Nat.le_refl _), Nat.sub_self] at e2
      have e1' : MO.lst ds = mo := Option.some.inj e1
      have e2' : a = b := Option.some.inj e2
      subst e1' e2'
      exact ⟨ws, e, Rep.growL _ _ r⟩
theorem Ext.none (x : Ext H ρ H' ρ') (hp : HRep K H ρ S) (hp' : HRep K H' ρ' S') {a : Addr} (n : H' a = none) : H a = none := by
  cases q : H a with
  | none => rfl
  | some o =>
    by_cases m : a ∈ ρ
    · obtain ⟨τ, rfl⟩ := x.pre
      have := hp'.free n
      exact absurd (List.mem_append_left _ m) this
    · rw [x.keep a o m q] at n; cases n
end
section
variable {X : Cx} {p : Pos}
theorem _root_.L2.PG.imp {tg : Expr} {t t' : TG} (h : PG X tg t) (i : ∀ v σ H Q, t' v σ H Q → t v σ H Q) : PG X tg t' := ⟨fun pins s σ H v u Q I r q => h.run pins s σ H v u Q I r (i v σ H Q q)⟩
theorem _root_.L2.PGs.imp {tg : List Expr} {t t' : TGs} (h : PGs X tg t) (i : ∀ v σ H Q, t' v σ H Q → t v σ H Q) : PGs X tg t' := ⟨fun pins s σ H v u Q I r q => h.run pins s σ H v u Q I r (i v σ H Q q)⟩
theorem g_nm {i : Nat} {x : Str} (hN : X.N.Nodup) (hi : X.N[i]? = some x) (hx : Loc X.env.scope x) (hf : X.fn x = true ∨ X.env.scope.names.lookup x = some .local) : PG X (.Name x p) (tG X.K [i] fun d σ S => some (σ.set i (some d), S)) :=
  (pg_name hN hi hx hf).imp fun v σ H Q ⟨ρ, σD, S, d, σE, S', c, r, e, k⟩ => by
    obtain ⟨rfl, rfl⟩ := inj2 e
    exact k _ H ρ ⟨by simp, fun j hj => by rw [List.getElem?_set_ne]; intro z; exact hj (by simp [z])⟩ Ext.refl (c.set i r)
theorem gs_nil : PGs X [] (tGs X.K [] fun vs σ S => match vs with | [] => some (σ, S) | _ => none) :=
  pgs_nil.imp fun vs σ H Q ⟨ρ, σD, S, ds, σE, S', c, r, e, k⟩ => by
    cases ds with
    | nil =>
      cases r
      obtain ⟨rfl, rfl⟩ := inj2 e
      exact ⟨rfl, k σ H ρ ⟨rfl, fun _ _ => rfl⟩ Ext.refl c⟩
    | cons d ds => cases e
theorem gs_cons {e : Expr} {es : List Expr} {s1 s2 : List Nat} {f : D → StD → Store → Option (StD × Store)} {g : List D → StD → Store → Option (StD × Store)} (h1 : PG X e (tG X.K s1 f)) (h2 : PGs X es (tGs X.K s2 g))
    (hs : (assignEach (e :: es) X.env).map (·.2) = assign e X.env :: (assignEach es X.env).map (·.2)) :
    PGs X (e :: es) (tGs X.K (s1 ++ s2) fun vs σ S => match vs with | v :: ws => bnd (f v σ S) fun σ1 S1 => g ws σ1 S1 | [] => none) :=
  (pgs_cons h1 h2 hs).imp fun vs σ H Q ⟨ρ, σD, S, ds, σE, S', c, r, e, k⟩ => by
    cases ds with
    | nil => cases e
    | cons d ds =>
      obtain ⟨v, vr, rfl, r1, r2⟩ := r
      obtain ⟨σ1, S1, e1, e2⟩ := bnd_eq e
      refine ⟨v, vr, rfl, ρ, σD, S, d, σ1, S1, c, r1, e1, fun σ' H1 ρ1 q1 x1 c1 => ⟨ρ1, σ1, S1, ds, σE, S', c1, x1.repL c.hp _ _ r2, e2, fun σ'' H2 ρ2 q2 x2 c2 => ?_⟩⟩
      refine k σ'' H2 ρ2 ⟨q2.1.trans q1.1, fun j hj => ?_⟩ (x1.trans x2) c2
      rw [List.mem_append, not_or] at hj
      rw [q2.2 j hj.2, q1.2 j hj.1]
theorem g_tp {es : List Expr} {k n : Nat} {sl : List Nat} {g : List D → StD → Store → Option (StD × Store)} (hc : X.calm = true) (h : PGs X es (tGs X.K sl g)) (hn : (assignEach es X.env).length = n) (hst : (assignEach es X.env).findIdx? (·.1) = none)
    (hg : ∀ ds σ S r, g ds σ S = some r → ds.length = n) : PG X (.Tuple es k p) (tG X.K sl fun d σ S => bnd (opt (seqOf S d) S) fun ds S1 => g ds σ S1) := by
  refine ⟨fun pins s σ H v u Q I rv ⟨ρ, σD, S, d, σE, S', c, r, e, kk⟩ => ?_⟩
  obtain ⟨ds, S1, e1, e2⟩ := bnd_eq e
  obtain ⟨e3, e4⟩ := opt_eq e1
  subst S1
  obtain ⟨a, vs, rfl, ha, rr⟩ := seq_at c.hp e3 r
  have hl : vs.length = n := by rw [← rr.length]; exact hg _ _ _ _ e2
  rcases ha with ha | ha
  · exact (pg_unl hc h hn hst).run pins s σ H _ u Q I rv ⟨a, vs, rfl, ha, hl, ρ, σD, S, _, σE, S', c, rr, e2, kk⟩
  · exact (pg_tup hc h hn hst).run pins s σ H _ u Q I rv ⟨a, vs, rfl, ha, hl, ρ, σD, S, _, σE, S', c, rr, e2, kk⟩
theorem set_D (hu : X.A.units + 9 < cLine) : PSet X (fun o i v H Q => ∃ ρ S do_ di dv S', HRep X.K H ρ S ∧ Rep X.K H ρ do_ o ∧ Rep X.K H ρ di i ∧ Rep X.K H ρ dv v ∧ setD do_ di dv S = some S' ∧ ∀ H', Ext H ρ H' ρ → HRep X.K H' ρ S' → Q H') := by
  intro pins s σ H o i v ov iv u Q I ro ri rv ⟨ρ, S, do_, di, dv, S', hp, r1, r2, r3, e, k⟩
  have dic : ∀ {m : Nat} {kvs : List (Key × D)} {kk : Key}, do_ = .loc m → S[m]? = some (.dic kvs) → kvs.length < sizeLine → S' = S.set m (.dic (putG kvs kk dv)) → i = kV kk → wpAny (model X.prog X.w) X.A (setItem ov iv u) (fun _ s' => ∃ H', L2.Inv X pins σ H' s' ∧ Q H') X.xe s := fun {m kvs kk} h1 h2 h3 h4 h5 => by
    subst h1 h4 h5
    obtain ⟨a, ws, rfl, ea, ha, k1, k2⟩ := dic_at hp h2 r1
    have hl : ws.length = kvs.length := by simpa using congrArg List.length k1
    cases ro
    obtain ⟨p1, p2⟩ := putK_ok (k := kk) r3 k1 k2
    have wr := hp.write (o := .dK (putK ws kk v)) (mo := .dic (putG kvs kk dv)) ea ⟨_, upd_same, p1, (Ext.write hp ea).repL hp _ _ p2⟩
    exact d_setItem (Nat.lt_of_le_of_lt (Nat.add_le_add_left (by decide) _) hu) I (DPut.k (k := kk) ha (by omega)) ri rv fun s4 I4 => ⟨_, I4, k _ (Ext.write hp ea) wr⟩
  unfold setD at e
  split at e
  · rename_i m kk
    split at e
    · rename_i ds hS
      split at e
      · rename_i j hj
        cases e
        obtain ⟨a, vs, rfl, ea, ha, rs⟩ := lst_at hp hS r1
        refine set_list pins s σ H _ i v ov iv u Q I ro ri rv ⟨a, vs, kk, j, rfl, r2, ha, by rw [← rs.length]; exact hj, ?_⟩
        exact k _ (Ext.write hp ea) (hp.write ea ⟨_, upd_same, (Ext.write hp ea).repL hp _ _ (rs.set j r3)⟩)
      · cases e
    · rename_i kvs hS
      split at e
      · rename_i hz
        exact dic rfl hS hz (Option.some.inj e).symm r2
      · cases e
    · cases e
  · split at e
    · rename_i kvs hS
      split at e
      · rename_i hz
        exact dic rfl hS hz (Option.some.inj e).symm r2
      · cases e
    · cases e
  · rename_i m ks
    split at e
    · rename_i kk hk
      obtain ⟨q, rfl, hkq⟩ := keyT_ok hk r2
      cases ri
      have fin : ∀ {a : Addr} {xs : List (NestedKey × Addr × Value)} {ws : List (NestedKey × V)} {kvs : List (NestedKey × D)}, ρ[m]? = some a → o = .ref a → s.heap.DictOfH (nestedKind X.prog X.w) a xs → (a == sysModules) = false → xs.length < sizeLine → Mut (H a) → Paired (DRel X.K H) ws xs →
          ws.map (·.1) = kvs.map (·.1) → RepL X.K H ρ (kvs.map (·.2)) (ws.map (·.2)) → S' = S.set m (.dit (putG kvs kk dv)) → wpAny (model X.prog X.w) X.A (setItem ov (.ref q) u) (fun _ s' => ∃ H', L2.Inv X pins σ H' s' ∧ Q H') X.xe s := fun {a xs ws kvs} ea eo dd z1 z2 mu rr k1 k2 eS => by
        subst eo eS
        cases ro
        refine dit_setItem (v := v) hu I dd z1 z2 mu hkq (u := u) fun s4 I4 => ⟨_, I4, ?_⟩
        obtain ⟨p1, p2⟩ := putK_ok (k := kk) r3 k1 k2
        have pk : putK ws kk v = (if (ws.any fun kv => decide (kv.1 = kk)) = true then ws.map (fun kv => if kv.1 = kk then (kv.1, v) else kv) else ws ++ [(kk, v)]) := rfl
        have xx := Ext.write (o := dtO a (storedH xs kk q u)) hp ea
        refine k _ xx (hp.write (mo := .dit (putG kvs kk dv)) ea ⟨putK ws kk v, ⟨_, upd_same, ?_⟩, p1, xx.repL hp _ _ p2⟩)
        rw [pk]
        exact L2.Paired.mapP (drel_put hkq rv rr) fun p x ⟨h1, h2, h3⟩ => ⟨h1, h2.mono fun vs h => h.ext hp xx, h3⟩
      split at e
      · rename_i hS
        cases e
        obtain ⟨a, ws, rfl, ea, ha, k1, k2⟩ := dic_at hp hS r1
        have ew : ws = [] := by simpa using k1
        subst ew
        obtain ⟨z, hd, vs, rel, o1, es, ep, g1, g2, g3, g4, g5, g6⟩ := dk_of I.hok ha
        cases rel
        have e0 : es.toList = [] := by generalize es.toList = l at g5; cases g5; rfl
        exact fin (xs := []) (ws := []) (kvs := []) ea rfl ⟨o1, es, ep, g1, g2, g3, by rw [e0]; rfl, fun x hx => by simp at hx, List.nodup_nil⟩ hd (by decide) (by rw [ha]; trivial) .nil rfl rfl rfl
      · rename_i kvs hS
        split at e
        · rename_i hz
          obtain ⟨a, ws, rfl, ea, ⟨xs, ha, rr⟩, k1, k2⟩ := dit_at hp hS r1
          obtain ⟨z1, z2, dd⟩ := dit_dd I ha (drel_key rr)
          have hl : xs.length = kvs.length := by
            have h1 := Paired.length rr
            have h2 := congrArg List.length k1
            simp only [List.length_map] at h2
            omega
          exact fin ea rfl dd z1 (by omega) (by rw [ha]; trivial) rr k1 k2 (Option.some.inj e).symm
        · cases e
      · cases e
    · cases e
  · cases e
theorem g_sb {o i : Expr} {fo fi : StD → Store → Option (D × Store)} (hu : X.A.units + 9 < cLine) (ho : PE X o (tD X.K fo)) (hi : PE X i (tD X.K fi))
    (ha : ∀ v, assign (.Subscript o i p) X.env v = (do
      let ov ← holding [v] (eval o X.env)
      let iv ← holding [v, ov] (eval i X.env)
      standAt p
      holding [v, ov, iv] (setItem ov iv v)
      release [v, ov, iv] [])) : PG X (.Subscript o i p) (tG X.K [] fun v σ S => bnd (fo σ S) fun x S1 => bnd (fi σ S1) fun y S2 => match setD x y v S2 with | some S3 => some (σ, S3) | none => none) :=
  (pg_sub ho hi (set_D hu) ha).imp fun v σ H Q ⟨ρ, σD, S, d, σE, S', c, r, e, k⟩ => by
    obtain ⟨x, S1, e1, e2⟩ := bnd_eq e
    obtain ⟨y, S2, e3, e4⟩ := bnd_eq e2
    split at e4
    · rename_i S3 hS3
      obtain ⟨rfl, rfl⟩ := inj2 e4
      refine ⟨ρ, σD, S, x, S1, c, e1, fun ov H1 ρ1 x1 h1 r1 => ⟨ρ1, σD, S1, y, S2, c.ext x1 h1, e3, fun iv H2 ρ2 x2 h2 r2 => ?_⟩⟩
      refine ⟨ρ2, S2, x, y, d, S3, h2, x2.rep h1 _ _ r1, r2, x2.rep h1 _ _ (x1.rep c.hp _ _ r), hS3, fun H' x3 h3 => ?_⟩
      exact k σ H' ρ2 ⟨rfl, fun _ _ => rfl⟩ ((x1.trans x2).trans x3) (c.ext ((x1.trans x2).trans x3) h3)
    · cases e4
end
end Mi

end

section
/-! Mi7: comprehensions, loops, statements. -/
namespace Mi
open PySem PySem.Spec L2
section
variable {X : Cx} {p : Pos}
/-- a comprehension's turns -/
theorem lc_ok {K : PySem.W.Frag} {fi : StD → Store → Option (Wk × Store)} {sl vs : List Nat} {g : D → StD → Store → Option (StD × Store)} {c : StD → Store → Option (Bool × Store)} {e : StD → Store → Option (D × Store)} (hsl : ∀ j, j ∈ sl → j ∈ vs)
    {σ : L2.St} {H : Hp} {Q : VK} (h : tD K (fun σ S => bnd (fi σ S) fun w S1 => bnd (lcD w.ok (fun x T => g x (wipeD σ vs) T) c e w.items [] S1) fun ds S2 => some (.loc S2.length, S2 ++ [.lst ds])) σ H Q) :
    tLc (tI K fi) (tG K sl g) (tDB K c) (tD K e) vs σ H Q := by
  obtain ⟨ρ, σD, S, d, S', cc, e0, k⟩ := h
  obtain ⟨w, S1, e1, e2⟩ := bnd_eq e0
  obtain ⟨ds, S2, e3, e4⟩ := bnd_eq e2
  obtain ⟨rfl, rfl⟩ := inj2 e4
  refine ⟨ρ, σD, S, w, S1, cc, e1, fun J H1 ρ1 x1 h1 ok D hD => ?_⟩
  refine ⟨fun i m Hh => ∃ ρi Si acc accV, m = w.items.length - i ∧ i ≤ w.items.length ∧ Ext H1 ρ1 Hh ρi ∧ HRep K Hh ρi Si ∧ Hh D = some (.lst accV) ∧ D ∉ ρi ∧ RepL K Hh ρi acc accV ∧
    lcD w.ok (fun x T => g x (wipeD σD vs) T) c e (w.items.drop i) acc Si = some (ds, S2), ?_, ?_⟩
  · exact ⟨_, ρ1, S1, [], [], rfl, Nat.zero_le _, Ext.newT h1 hD, h1.newT hD, upd_same, h1.free hD, rfl, e3⟩
  · rintro i m Hh ⟨ρi, Si, acc, accV, rfl, hi, xi, hpi, hDi, nDi, ri, ei⟩
    by_cases hlt : i < w.items.length
    · refine .inr ?_
      rw [List.drop_eq_getElem_cons hlt] at ei
      have eit : w.items[i]? = some w.items[i] := List.getElem?_eq_getElem hlt
      generalize w.items[i] = it at ei eit
      unfold lcD at ei
      split at ei
      · rename_i okS
        obtain ⟨go, yl⟩ := ok.go i it Hh ρi Si xi hpi okS eit
        refine ⟨go, fun H' => ∃ ρi Si acc accV, Ext H1 ρ1 H' ρi ∧ HRep K H' ρi Si ∧ H' D = some (.lst accV) ∧ D ∉ ρi ∧ RepL K H' ρi acc accV ∧
          lcD w.ok (fun x T => g x (wipeD σD vs) T) c e (w.items.drop (i + 1)) acc Si = some (ds, S2), fun H' ⟨ρi, Si, acc, accV, q1, q2, q3, q4, q5, q6⟩ => ⟨w.items.length - (i + 1), by omega, ρi, Si, acc, accV, rfl, hlt, q1, q2, q3, q4, q5, q6⟩, fun x H2 hy => ?_⟩
        obtain ⟨x2, hp2, r2⟩ := yl x H2 hy
        obtain ⟨hD2, nD2⟩ := x2.out nDi hDi
        have c2 : Cor K H2 ρi (wipe σ vs) (wipeD σD vs) Si := (cc.ext ((x1.trans xi).trans x2) hp2).wipe vs
        have ri2 := x2.repL hpi _ _ ri
        split at ei
        · rename_i σ1 T1 eg
          refine ⟨ρi, wipeD σD vs, Si, it, σ1, T1, c2, r2, eg, fun σ2 H3 ρ3 q3 x3 c3 => ⟨?_, ?_⟩⟩
          · rw [wipe_same (τ := σ2) (σ := wipe σ vs) q3.1 (fun j hj => q3.2 j fun z => hj (hsl j z))]
            exact wipe_same (by rw [wipe_length]) fun j hj => wipe_out hj
          · obtain ⟨hD3, nD3⟩ := x3.out nD2 hD2
            have ri3 := x3.repL hp2 _ _ ri2
            split at ei
            · rename_i T2 ec
              refine ⟨ρ3, σ1, T1, true, T2, c3, ec, fun H4 ρ4 x4 h4 => ?_⟩
              obtain ⟨hD4, nD4⟩ := x4.out nD3 hD3
              have ri4 := x4.repL c3.hp _ _ ri3
              rw [if_pos rfl]
              split at ei
              · rename_i y T3 ee
                split at ei
                · rename_i hz
                  refine ⟨ρ4, σ1, T2, y, T3, c3.ext x4 h4, ee, fun v H5 ρ5 x5 h5 r5 => ?_⟩
                  obtain ⟨hD5, nD5⟩ := x5.out nD4 hD4
                  have ri5 := x5.repL h4 _ _ ri4
                  refine ⟨accV, hD5, by rw [← ri5.length]; exact hz, ρ5, T3, acc ++ [y], accV ++ [v], ?_, h5.updOut nD5 hD5, upd_same, nD5, Rep.updOutL hD5 _ _ (ri5.append ⟨v, [], rfl, r5, rfl⟩), ei⟩
                  exact ((((xi.trans x2).trans x3).trans x4).trans x5).updOut hD
                · cases ei
              · cases ei
            · rename_i T2 ec
              refine ⟨ρ3, σ1, T1, false, T2, c3, ec, fun H4 ρ4 x4 h4 => ?_⟩
              obtain ⟨hD4, nD4⟩ := x4.out nD3 hD3
              have ri4 := x4.repL c3.hp _ _ ri3
              rw [if_neg Bool.false_ne_true]
              exact ⟨ρ4, T2, acc, accV, ((xi.trans x2).trans x3).trans x4, h4, hD4, nD4, ri4, ei⟩
            · cases ei
        · cases ei
      · cases ei
    · have en : i = w.items.length := by omega
      subst en
      rw [List.drop_length] at ei
      unfold lcD at ei
      split at ei
      · rename_i okS
        obtain ⟨rfl, rfl⟩ := inj2 ei
        refine .inl ⟨ok.stop _ Hh ρi _ xi hpi okS rfl, ?_⟩
        have hn : H D = none := x1.none cc.hp h1 hD
        have x := x1.trans xi
        obtain ⟨τ, eτ⟩ := x.pre
        refine k _ Hh (ρi ++ [D]) ⟨⟨τ ++ [D], by rw [eτ, List.append_assoc]⟩, fun b hb nb => ?_, x.keep⟩ (hpi.adopt nDi hDi ri) ⟨D, rfl, ?_⟩
        · rcases List.mem_append.mp hb with m1 | m1
          · exact x.new b m1 nb
          · have eb : b = D := by simpa using m1
            rw [eb]; exact hn
        · rw [← hpi.len, List.getElem?_append_right (Nat.le_refl _), Nat.sub_self]; rfl
      · cases ei

theorem _root_.L2.PTs.imp {e : List Expr} {t t' : TT} (h : PTs X e t) (i : ∀ σ H Q, t' σ H Q → t σ H Q) : PTs X e t' := ⟨fun pins s σ H Q I hw => h.run pins s σ H Q I (i σ H Q hw)⟩
theorem ts_none : PTs X [] (tDB X.K fun _ S => some (true, S)) := pts_nil.imp fun σ H Q ⟨ρ, σD, S, b, S', cc, e, k⟩ => by
  obtain ⟨rfl, rfl⟩ := inj2 e
  exact k H ρ Ext.refl cc.hp
section
variable {elt tg iter : Expr} {ifs : List Expr} {scope : Scope} {own : List (Str × Nat)} {fi : StD → Store → Option (Wk × Store)} {sl : List Nat} {g : D → StD → Store → Option (StD × Store)} {c : StD → Store → Option (Bool × Store)} {e : StD → Store → Option (D × Store)}
abbrev evLc (fi : StD → Store → Option (Wk × Store)) (vs : List Nat) (g : D → StD → Store → Option (StD × Store)) (c : StD → Store → Option (Bool × Store)) (e : StD → Store → Option (D × Store)) : StD → Store → Option (D × Store) :=
  fun σ S => bnd (fi σ S) fun w S1 => bnd (lcD w.ok (fun x T => g x (wipeD σ vs) T) c e w.items [] S1) fun ds S2 => some (.loc S2.length, S2 ++ [.lst ds])
theorem r_lc (hc : X.calm = true) (hN : X.N.Nodup) (hi : PI X tg iter (tI X.K fi)) (ok : BlkOk X.N X.env.scope scope own)
    (hg : ∀ (s : Shared) (H : Hp) (C : Addr) (cl : List (Str × Addr)) (fp : List Addr), PG (X.blk s H scope (compEnvC scope cl C X.env) fp) tg (tG X.K sl g)) (ht : ∀ (s : Shared) (H : Hp) (C : Addr) (cl : List (Str × Addr)) (fp : List Addr), PTs (X.blk s H scope (compEnvC scope cl C X.env) fp) ifs (tDB X.K c))
    (he : ∀ (s : Shared) (H : Hp) (C : Addr) (cl : List (Str × Addr)) (fp : List Addr), PE (X.blk s H scope (compEnvC scope cl C X.env) fp) elt (tD X.K e)) (hs : ∀ x, foldedSetIterable iter X.env x = pure x) (hsl : ∀ j, j ∈ sl → j ∈ own.map (·.2)) :
    PE X (.ListComp elt [⟨tg, iter, ifs, 0⟩] scope p) (tD X.K (evLc fi (own.map (·.2)) g c e)) :=
  (pe_lc hc hN hi ok hg ht he hs).imp fun σ H Q => lc_ok hsl
/-! ### statements -/
def Out (K : PySem.W.Frag) (En : Ends) (H : Hp) (ρ : List Addr) (S' : Store) : Fl → Prop
  | .next σE => ∀ σ' H' ρ', Ext H ρ H' ρ' → Cor K H' ρ' σ' σE S' → En.nx σ' H'
  | .brk σE => ∀ σ' H' ρ', Ext H ρ H' ρ' → Cor K H' ρ' σ' σE S' → En.bk σ' H'
  | .cnt σE => ∀ σ' H' ρ', Ext H ρ H' ρ' → Cor K H' ρ' σ' σE S' → En.ct σ' H'
  | .ret d => ∀ v H' ρ', Ext H ρ H' ρ' → HRep K H' ρ' S' → Rep K H' ρ' d v → En.rt v H'
def tT (K : PySem.W.Frag) (f : StD → Store → Option (Fl × Store)) : TS := fun En σ H => ∃ ρ σD S r S', Cor K H ρ σ σD S ∧ f σD S = some (r, S') ∧ Out K En H ρ S' r
theorem Out.ext {K : PySem.W.Frag} {En : Ends} {H H' : Hp} {ρ ρ' : List Addr} {S' : Store} {r : Fl} (h : Out K En H ρ S' r) (x : Ext H ρ H' ρ') : Out K En H' ρ' S' r := by
  cases r with
  | next σE => exact fun σ2 H2 ρ2 x2 c2 => h σ2 H2 ρ2 (x.trans x2) c2
  | brk σE => exact fun σ2 H2 ρ2 x2 c2 => h σ2 H2 ρ2 (x.trans x2) c2
  | cnt σE => exact fun σ2 H2 ρ2 x2 c2 => h σ2 H2 ρ2 (x.trans x2) c2
  | ret d => exact fun v H2 ρ2 x2 h2 r2 => h v H2 ρ2 (x.trans x2) h2 r2
theorem tsx_nil : PSs X [] (tT X.K fun σ S => some (.next σ, S)) := pss_nil.imp fun En σ H ⟨ρ, σD, S, r, S', cc, e, k⟩ => by
  obtain ⟨rfl, rfl⟩ := inj2 e
  exact k σ H ρ Ext.refl cc
def seqT (f g : StD → Store → Option (Fl × Store)) : StD → Store → Option (Fl × Store) := fun σ S => bnd (f σ S) fun r S1 => match r with
    | .next σ1 => g σ1 S1
    | .brk σ1 => some (.brk σ1, S1)
    | .cnt σ1 => some (.cnt σ1, S1)
    | .ret d => some (.ret d, S1)
theorem tsx_cons {st : Stmt} {rest : List Stmt} {f g' : StD → Store → Option (Fl × Store)} (h1 : PS X st (tT X.K f)) (h2 : PSs X rest (tT X.K g')) : PSs X (st :: rest) (tT X.K (seqT f g')) :=
  (pss_cons h1 h2).imp fun En σ H ⟨ρ, σD, S, r, S', cc, e, k⟩ => by
    obtain ⟨r1, S1, e1, e2⟩ := bnd_eq e
    cases r1 with
    | next σ1 => exact ⟨ρ, σD, S, .next σ1, S1, cc, e1, fun σ' H' ρ' x' c' => ⟨ρ', σ1, S1, r, S', c', e2, k.ext x'⟩⟩
    | brk σ1 => obtain ⟨rfl, rfl⟩ := inj2 e2; exact ⟨ρ, σD, S, .brk σ1, S1, cc, e1, k⟩
    | cnt σ1 => obtain ⟨rfl, rfl⟩ := inj2 e2; exact ⟨ρ, σD, S, .cnt σ1, S1, cc, e1, k⟩
    | ret d => obtain ⟨rfl, rfl⟩ := inj2 e2; exact ⟨ρ, σD, S, .ret d, S1, cc, e1, k⟩
variable {a b : Expr} {fa : StD → Store → Option (D × Store)} {q : Pos}
theorem s_ex (he : PE X a (tD X.K fa)) (hs : swapsWith a none p.line X.env = pure false) : PS X (.Expr a p) (tT X.K fun σ S => bnd (fa σ S) fun _ S1 => some (.next σ, (gc S .non S1).2)) :=
  (ps_expr he hs).imp fun En σ H ⟨ρ, σD, S, r, S', cc, e, k⟩ => by
    obtain ⟨d, S1, e1, e2⟩ := bnd_eq e
    obtain ⟨rfl, rfl⟩ := inj2 e2
    refine ⟨ρ, σD, S, d, S1, cc, e1, fun v H1 ρ1 x1 h1 r1 => ?_⟩
    obtain ⟨ρ2, x2, h2, _⟩ := gc_ok cc.hp x1 h1 (show Rep X.K H1 ρ1 .non .non from rfl)
    exact k σ H1 ρ2 x2 (cc.ext x2 h2)
theorem s_ret (he : PE X a (tD X.K fa)) : PS X (.Return (some a) p) (tT X.K fun σ S => bnd (fa σ S) fun d S1 => some (.ret d, S1)) :=
  (ps_ret he).imp fun En σ H ⟨ρ, σD, S, r, S', cc, e, k⟩ => by
    obtain ⟨d, S1, e1, e2⟩ := bnd_eq e
    obtain ⟨rfl, rfl⟩ := inj2 e2
    exact ⟨ρ, σD, S, d, _, cc, e1, fun v H1 ρ1 x1 h1 r1 => k v H1 ρ1 x1 h1 r1⟩
theorem s_retN : PS X (.Return none p) (tT X.K fun _ S => some (.ret .non, S)) :=
  ps_retN.imp fun En σ H ⟨ρ, σD, S, r, S', cc, e, k⟩ => by
    obtain ⟨rfl, rfl⟩ := inj2 e
    exact k .non H ρ Ext.refl cc.hp rfl
theorem s_pas : PS X (.Pass p) (tT X.K fun σ S => some (.next σ, S)) := ps_pass.imp fun En σ H ⟨ρ, σD, S, r, S', cc, e, k⟩ => by
  obtain ⟨rfl, rfl⟩ := inj2 e
  exact k σ H ρ Ext.refl cc
theorem s_brk : PS X (.Break p) (tT X.K fun σ S => some (.brk σ, S)) := ps_break.imp fun En σ H ⟨ρ, σD, S, r, S', cc, e, k⟩ => by
  obtain ⟨rfl, rfl⟩ := inj2 e
  exact k σ H ρ Ext.refl cc
theorem s_cnt : PS X (.Continue p) (tT X.K fun σ S => some (.cnt σ, S)) := ps_continue.imp fun En σ H ⟨ρ, σD, S, r, S', cc, e, k⟩ => by
  obtain ⟨rfl, rfl⟩ := inj2 e
  exact k σ H ρ Ext.refl cc
theorem s_nev {st : Stmt} : PS X st (tT X.K fun _ _ => none) := ⟨fun _ _ σ H En _ ⟨ρ, σD, S, r, S', cc, e, k⟩ => by cases e⟩
theorem s_iff {x y : List Stmt} {gc' : StD → Store → Option (Bool × Store)} {f g' : StD → Store → Option (Fl × Store)} (hc : PT X a (tDB X.K gc')) (hx : PSs X x (tT X.K f)) (hy : PSs X y (tT X.K g')) : PS X (.If a x y p) (tT X.K fun σ S => bnd (gc' σ S) (iteD (f σ) (g' σ))) :=
  (ps_if hc hx hy).imp fun En σ H ⟨ρ, σD, S, r, S', cc, e, k⟩ => by
    obtain ⟨z, S1, e1, e2⟩ := bnd_eq e
    refine ⟨ρ, σD, S, z, S1, cc, e1, fun H1 ρ1 x1 h1 => ?_⟩
    cases z with
    | true => rw [if_pos rfl]; exact ⟨ρ1, σD, S1, r, S', cc.ext x1 h1, e2, k.ext x1⟩
    | false => rw [if_neg Bool.false_ne_true]; exact ⟨ρ1, σD, S1, r, S', cc.ext x1 h1, e2, k.ext x1⟩
def asgT (fa : StD → Store → Option (D × Store)) (g : D → StD → Store → Option (StD × Store)) : StD → Store → Option (Fl × Store) := fun σ S => bnd (fa σ S) fun d S1 => bnd (g d σ S1) fun σ1 S2 => some (.next σ1, S2)
theorem asg_ok {K : PySem.W.Frag} {En : Ends} {σ : L2.St} {H : Hp} (h : tT K (asgT fa g) En σ H) : tAsg (tD K fa) (tG K sl g) En σ H := by
  obtain ⟨ρ, σD, S, r, S', cc, e, k⟩ := h
  obtain ⟨d, S1, e1, e2⟩ := bnd_eq e
  obtain ⟨σ1, S2, e3, e4⟩ := bnd_eq e2
  obtain ⟨rfl, rfl⟩ := inj2 e4
  exact ⟨ρ, σD, S, d, S1, cc, e1, fun v H1 ρ1 x1 h1 r1 => ⟨ρ1, σD, S1, d, σ1, _, cc.ext x1 h1, r1, e3, fun σ' H' ρ' _ x' c' => k σ' H' ρ' (x1.trans x') c'⟩⟩
theorem s_asg (he : PE X a (tD X.K fa)) (hg : PG X tg (tG X.K sl g)) (hs : swapsWithSole [tg] a p.line X.env = pure false) (hw : swappedStores [tg] a X.env = pure none) (h1 : (assignEach [tg] X.env).map (·.2) = [assign tg X.env]) : PS X (.Assign [tg] a p) (tT X.K (asgT fa g)) :=
  (ps_asg he hg hs hw h1).imp fun En σ H => asg_ok
theorem s_aug {i : Nat} {x : Str} {o : Operator} (hN : X.N.Nodup) (hi : X.N[i]? = some x) (hx : Loc X.env.scope x) (he : PE X a (tD X.K fa)) (hf : X.fn x = true ∨ X.env.scope.names.lookup x = some .local) :
    PS X (.AugAssign (.Name x q) o a p) (tT X.K fun σ S => bnd (opt (slotD σ i) S) fun x S1 => bnd (fa σ S1) fun y S2 => bnd (opt (augD o x y) S2) fun z S3 => some (.next (σ.set i (some z)), S3)) := by
  have go : ∀ {t : TIp}, PIp X o t → (∀ {K : PySem.W.Frag} {H : Hp} {ρ : List Addr} {dx dy dz : D} {v w : V} {Q : VK}, augD o dx dy = some dz → Rep K H ρ dx v → Rep K H ρ dy w → (∀ u, Rep K H ρ dz u → Q u H) → t v w H Q) →
      PS X (.AugAssign (.Name x q) o a p) (tT X.K fun σ S => bnd (opt (slotD σ i) S) fun x S1 => bnd (fa σ S1) fun y S2 => bnd (opt (augD o x y) S2) fun z S3 => some (.next (σ.set i (some z)), S3)) := fun {t} ht hh =>
    (ps_aug hN hi hx he ht hf).imp fun En σ H ⟨ρ, σD, S, r, S', cc, e, k⟩ => by
      obtain ⟨dx, S1, e1, e2⟩ := bnd_eq e
      obtain ⟨e3, e4⟩ := opt_eq e1
      subst S1
      obtain ⟨dy, S2, e5, e6⟩ := bnd_eq e2
      obtain ⟨dz, S3, e7, e8⟩ := bnd_eq e6
      obtain ⟨e9, e10⟩ := opt_eq e7
      subst S3
      obtain ⟨rfl, rfl⟩ := inj2 e8
      have e11 : σD[i]? = some (some dx) := by
        unfold slotD at e3
        split at e3
        · cases e3; assumption
        · cases e3
      obtain ⟨v, h1, h2⟩ := cc.st i dx e11
      refine ⟨v, h1, ρ, σD, S, dy, _, cc, e5, fun w H1 ρ1 x1 h1' r1 => hh e9 (x1.rep cc.hp _ _ h2) r1 fun u ru => ?_⟩
      exact k _ H1 ρ1 x1 ((cc.ext x1 h1').set i ru)
  have isInts : ∀ {dx dy dz : D} {o : Operator}, augD o dx dy = some dz → ∃ a b, dx = .int a ∧ dy = .int b := fun {dx dy dz o} h => by
    cases dx <;> cases dy <;> first | (cases h; done) | exact ⟨_, _, rfl, rfl⟩
  cases o with
  | Add =>
    exact go ip_add fun {K H ρ dx dy dz v w Q} h r1 r2 kk => by
      obtain ⟨a, b, rfl, rfl⟩ := isInts h
      cases h
      exact ⟨a, b, r1, r2, kk _ rfl⟩
  | Sub =>
    exact go ip_sub fun {K H ρ dx dy dz v w Q} h r1 r2 kk => by
      obtain ⟨a, b, rfl, rfl⟩ := isInts h
      cases h
      exact ⟨a, b, r1, r2, kk _ rfl⟩
  | _ =>
    exact ⟨fun _ _ σ H En _ ⟨ρ, σD, S, r, S', cc, e, k⟩ => by
      obtain ⟨dx, S1, e1, e2⟩ := bnd_eq e
      obtain ⟨dy, S2, e5, e6⟩ := bnd_eq e2
      obtain ⟨dz, S3, e7, e8⟩ := bnd_eq e6
      obtain ⟨e9, e10⟩ := opt_eq e7
      obtain ⟨a, b, rfl, rfl⟩ := isInts e9
      cases e9⟩
theorem s_for {body : List Stmt} {fb : StD → Store → Option (Fl × Store)} (hp : PassesOwn (model X.prog X.w) X.A X.env X.xe) (hc : X.calm = true) (hi : PI X tg iter (tI X.K fi)) (hg : PG X tg (tG X.K sl g)) (hb : PSs X body (tT X.K fb)) (hs : ∀ x, foldedSetIterable iter X.env x = pure x) :
    PS X (.For tg iter body [] p) (tT X.K fun σ S => bnd (fi σ S) fun w S1 => forD w.ok g fb w.items σ S1) := by
  refine (ps_for hp hc hi hg hb hs).imp fun En σ H ⟨ρ, σD, S, r, S', cc, e, k⟩ => ?_
  obtain ⟨w, S1, e1, e2⟩ := bnd_eq e
  refine ⟨ρ, σD, S, w, S1, cc, e1, fun J H1 ρ1 x1 h1 ok => ?_⟩
  refine ⟨fun i m τ Hh => ∃ ρi τD Si, m = w.items.length - i ∧ i ≤ w.items.length ∧ Ext H1 ρ1 Hh ρi ∧ Cor X.K Hh ρi τ τD Si ∧ forD w.ok g fb (w.items.drop i) τD Si = some (r, S'), ⟨_, ρ1, σD, S1, rfl, Nat.zero_le _, Ext.refl, cc.ext x1 h1, e2⟩, ?_⟩
  rintro i m τ Hh ⟨ρi, τD, Si, rfl, hi', xi, ci, ei⟩
  by_cases hlt : i < w.items.length
  · rw [List.drop_eq_getElem_cons hlt] at ei
    have eit : w.items[i]? = some w.items[i] := List.getElem?_eq_getElem hlt
    generalize w.items[i] = it at ei eit
    unfold forD at ei
    split at ei
    · rename_i okS
      obtain ⟨go, yl⟩ := ok.go i it Hh ρi Si xi ci.hp okS eit
      refine .inr ⟨go, fun τ' H' => ∃ ρi τD Si, Ext H1 ρ1 H' ρi ∧ Cor X.K H' ρi τ' τD Si ∧ forD w.ok g fb (w.items.drop (i + 1)) τD Si = some (r, S'), fun τ' H' ⟨ρi, τD, Si, q1, q2, q3⟩ => ⟨w.items.length - (i + 1), by omega, ρi, τD, Si, rfl, hlt, q1, q2, q3⟩, fun x H2 hy => ?_⟩
      obtain ⟨x2, hp2, r2⟩ := yl x H2 hy
      split at ei
      · rename_i τ1 T1 eg
        refine ⟨ρi, τD, Si, it, τ1, T1, ci.ext x2 hp2, r2, eg, fun τ2 H3 ρ3 _ x3 c3 => ?_⟩
        have x13 := (xi.trans x2).trans x3
        split at ei
        · rename_i τ3 T2 eb
          exact ⟨ρ3, τ1, T1, .next τ3, T2, c3, eb, fun τ4 H4 ρ4 x4 c4 => ⟨ρ4, τ3, T2, x13.trans x4, c4, ei⟩⟩
        · rename_i τ3 T2 eb
          exact ⟨ρ3, τ1, T1, .cnt τ3, T2, c3, eb, fun τ4 H4 ρ4 x4 c4 => ⟨ρ4, τ3, T2, x13.trans x4, c4, ei⟩⟩
        · rename_i τ3 T2 eb
          obtain ⟨rfl, rfl⟩ := inj2 ei
          exact ⟨ρ3, τ1, T1, .brk τ3, _, c3, eb, fun τ4 H4 ρ4 x4 c4 => k τ4 H4 ρ4 ((x1.trans x13).trans x4) c4⟩
        · rename_i dd T2 eb
          obtain ⟨rfl, rfl⟩ := inj2 ei
          exact ⟨ρ3, τ1, T1, .ret dd, _, c3, eb, fun v H4 ρ4 x4 h4 r4 => k v H4 ρ4 ((x1.trans x13).trans x4) h4 r4⟩
        · cases ei
      · cases ei
    · cases ei
  · have en : i = w.items.length := by omega
    subst en
    rw [List.drop_length] at ei
    unfold forD at ei
    split at ei
    · rename_i okS
      obtain ⟨rfl, rfl⟩ := inj2 ei
      exact .inl ⟨ok.stop _ Hh ρi _ xi ci.hp okS rfl, k τ Hh ρi (x1.trans xi) ci⟩
    · cases ei
theorem s_whl {body : List Stmt} {ft : StD → Store → Option (Bool × Store)} {fb : StD → Store → Option (Fl × Store)} (hp : PassesOwn (model X.prog X.w) X.A X.env X.xe) (ht : PT X a (tDB X.K ft)) (hb : PSs X body (tT X.K fb)) (N : Nat) :
    PS X (.While a body [] p) (tT X.K fun σ S => whlD ft fb N σ S) := by
  refine (ps_while hp ht hb).imp fun En σ H ⟨ρ, σD, S, r, S', cc, e, k⟩ => ?_
  refine ⟨fun m τ Hh => ∃ ρi τD Si, Ext H ρ Hh ρi ∧ Cor X.K Hh ρi τ τD Si ∧ whlD ft fb m τD Si = some (r, S'), ⟨N, ρ, σD, S, Ext.refl, cc, e⟩, ?_⟩
  rintro m τ Hh ⟨ρi, τD, Si, xi, ci, ei⟩
  cases m with
  | zero => cases ei
  | succ n =>
    unfold whlD at ei
    split at ei
    · rename_i T1 et
      refine ⟨ρi, τD, Si, true, T1, ci, et, fun H1 ρ1 x1 h1 => ?_⟩
      refine iteT ?_
      refine ⟨fun τ' H' => ∃ ρi τD Si, Ext H ρ H' ρi ∧ Cor X.K H' ρi τ' τD Si ∧ whlD ft fb n τD Si = some (r, S'), fun τ' H' ⟨ρi, τD, Si, q1, q2, q3⟩ => ⟨n, Nat.lt_succ_self n, ρi, τD, Si, q1, q2, q3⟩, ?_⟩
      have x01 := xi.trans x1
      split at ei
      · rename_i τ3 T2 eb
        exact ⟨ρ1, τD, T1, .next τ3, T2, ci.ext x1 h1, eb, fun τ4 H4 ρ4 x4 c4 => ⟨ρ4, τ3, T2, x01.trans x4, c4, ei⟩⟩
      · rename_i τ3 T2 eb
        exact ⟨ρ1, τD, T1, .cnt τ3, T2, ci.ext x1 h1, eb, fun τ4 H4 ρ4 x4 c4 => ⟨ρ4, τ3, T2, x01.trans x4, c4, ei⟩⟩
      · rename_i τ3 T2 eb
        obtain ⟨rfl, rfl⟩ := inj2 ei
        exact ⟨ρ1, τD, T1, .brk τ3, _, ci.ext x1 h1, eb, fun τ4 H4 ρ4 x4 c4 => k τ4 H4 ρ4 (x01.trans x4) c4⟩
      · rename_i dd T2 eb
        obtain ⟨rfl, rfl⟩ := inj2 ei
        exact ⟨ρ1, τD, T1, .ret dd, _, ci.ext x1 h1, eb, fun v H4 ρ4 x4 h4 r4 => k v H4 ρ4 (x01.trans x4) h4 r4⟩
      · cases ei
    · rename_i T1 et
      obtain ⟨rfl, rfl⟩ := inj2 ei
      refine ⟨ρi, τD, Si, false, T1, ci, et, fun H1 ρ1 x1 h1 => ?_⟩
      refine iteF ?_
      exact k τ H1 ρ1 (xi.trans x1) (ci.ext x1 h1)
    · cases ei
end
end
end Mi

end

section
/-! Mi8: calls, methods; the language is sound. -/
namespace Mi
open PySem PySem.Spec L2
/-! ### facts of the text -/
section
variable {env : Env}
theorem star_e (e : E) (r : List Expr) : starEach (embE e :: r) env = (false, eval (embE e) env) :: starEach r env := by cases e <;> rfl
theorem star_i (e : I) (r : List Expr) : starEach (embI e :: r) env = (false, eval (embI e) env) :: starEach r env := by
  cases e with
  | ex e => exact star_e e r
  | _ => rfl
theorem star_any (pos : Pos) : ∀ es : Es, (backTo pos (starEach (embEs es) env)).any (·.1) = false
  | .nil => rfl
  | .cons e r => by
    show (backTo pos (starEach (embE e :: embEs r) env)).any (·.1) = false
    rw [star_e]
    show (false || (backTo pos (starEach (embEs r) env)).any (·.1)) = false
    rw [star_any pos r]; rfl
theorem star_all (pos : Pos) : ∀ es : Es, (backTo pos (starEach (embEs es) env)).all (fun x => !x.1) = true
  | .nil => rfl
  | .cons e r => by
    show (backTo pos (starEach (embE e :: embEs r) env)).all (fun x => !x.1) = true
    rw [star_e]
    show (true && (backTo pos (starEach (embEs r) env)).all (fun x => !x.1)) = true
    rw [star_all pos r]; rfl
theorem emb_len : ∀ es : Es, (embEs es).length = es.len
  | .nil => rfl
  | .cons e r => by simp [embEs, Es.len, emb_len r]
theorem noSet (o : CmpOp) (e : E) : behindInMarks o (embE e) = false := by cases e <;> rfl
theorem noSet2 (o q : CmpOp) (e f : E) : lastMarks [o, q] [embE e, embE f] = false := by
  show behindInMarks q (embE f) = false
  exact noSet q f
theorem plainIx (e : E) : PlainIx (embE e) := by cases e <;> exact fun _ _ => rfl
theorem folded_e (e : E) (x : Value) : foldedSetIterable (embE e) env x = pure x := by cases e <;> rfl
theorem folded_i (e : I) (x : Value) : foldedSetIterable (embI e) env x = pure x := by
  cases e with
  | ex e => exact folded_e e x
  | _ => rfl
theorem base_e (e : E) (h : noCall0 e = true) (nm : Str) : attributeBase (embE e) nm env (eval (embE e) env) = eval (embE e) env := by
  cases e with
  | call f n as q p =>
    cases as with
    | nil => cases h
    | cons a r => rfl
  | bi f as q p =>
    cases as with
    | nil => cases h
    | cons a r => rfl
  | callK f n as ks kps kes pm q p => cases h
  | callL i x fs as q p => cases h
  | _ => rfl
theorem asg_sb (o i : E) (p : Pos) (v : Value) : assign (.Subscript (embE o) (embE i) p) env v = (do
      let ov ← holding [v] (eval (embE o) env)
      let iv ← holding [v, ov] (eval (embE i) env)
      standAt p
      holding [v, ov, iv] (setItem ov iv v)
      release [v, ov, iv] []) := by cases i <;> rfl
theorem asgE_g (g : G) (r : List Expr) : assignEach (embG g :: r) env = (false, assign (embG g) env) :: assignEach r env := by cases g <;> rfl
theorem asgE_len : ∀ gs : Gs, (assignEach (embGs gs) env).length = gs.len
  | .nil => rfl
  | .cons g r => by
    show (assignEach (embG g :: embGs r) env).length = _
    rw [asgE_g, List.length_cons, asgE_len r]; rfl
theorem asgE_star : ∀ gs : Gs, (assignEach (embGs gs) env).findIdx? (·.1) = none
  | .nil => rfl
  | .cons g r => by
    show (assignEach (embG g :: embGs r) env).findIdx? (·.1) = none
    rw [asgE_g, List.findIdx?_cons]
    simp [asgE_star r]
theorem truth_e (e : E) (h : (match e with | .not .. => false | .bop .. => false | .cmp .. => false | .chn .. => false | .ifx .. => false | _ => true) = true) (whole : Sem Value) :
    isTrue (embE e) env whole = (do let v ← whole; standAt (embE e).pos; holding [v] (truthy v)) := by
  cases e <;> first | rfl | (cases h)
end
theorem evGs_len (C : Orc) : ∀ (gs : Gs) (ds : List D) (σ : StD) (S : Store) (r : StD × Store), evGs C gs ds σ S = some r → ds.length = gs.len
  | .nil, ds, σ, S, r, h => by
    cases ds with
    | nil => rfl
    | cons d ds => cases h
  | .cons g gs, ds, σ, S, r, h => by
    cases ds with
    | nil => cases h
    | cons d ds =>
      obtain ⟨σ1, S1, e1, e2⟩ := bnd_eq (show bnd (evG C g d σ S) _ = some r from h)
      rw [List.length_cons, evGs_len C gs ds σ1 S1 r e2]; rfl

/-! ### methods -/
section
variable {X : Cx}
def liftM (K : PySem.W.Frag) (m : Mt) : V → List V → Hp → VK → Prop := fun x xs H Q => ∃ ρ S dx ds d S', HRep K H ρ S ∧ Rep K H ρ dx x ∧ RepL K H ρ ds xs ∧ mtD m dx ds S = some (d, S') ∧ After K H ρ S' d Q
def Mt.ty : Mt → String
  | .get => "dict"
  | _ => "list"
/-- of that builtin type: a dict with tuples as keys, too -/
def tyW (K : PySem.W.Frag) (T : String) (x : V) (H : Hp) : Prop := tyV K T x H ∨ (T = "dict" ∧ ∃ a xs, x = .ref a ∧ H a = some (dtO a xs))
theorem tyW_is {X : Cx} {pins : List (Addr × Obj)} {σ : L2.St} {H : Hp} {s : Shared} {T : String} {x : V} {v : Value} (I : L2.Inv X pins σ H s) (r : RelV x v) (ty : tyW X.K T x H) : s.TypeIs v T ∧ ∀ a, v = .ref a → ∃ ob, s.heap.get? a = some ob ∧ ob.dict = none := by
  rcases ty with ty | ⟨rfl, a, xs, rfl, ha⟩
  · exact tyV_is I r ty
  · cases r
    obtain ⟨⟨_, _, _, o, _, _, g1, g2, _⟩, _, _⟩ := (show ObjOk X.prog X.w H s.heap a (dtO a xs) from I.hok a _ ha)
    exact ⟨⟨o, g1, g2.1⟩, fun b eb => by cases eb; exact ⟨o, g1, g2.2.1⟩⟩
def tMt (K : PySem.W.Frag) (T : String) (f : V → List V → Hp → VK → Prop) (tx : TE) (ts : TA) : TE := fun σ H Q => tx σ H fun x H1 => tyW K T x H1 ∧ ts σ H1 fun xs H2 => f x xs H2 Q
theorem pe_mt0 {X : Cx} {oe : Expr} {tx : TE} {nm : Str} {ap cp : Pos} {T id : String} {f : V → List V → Hp → VK → Prop} (pa : PlainAttrs T) (sl : Slot T nm id) (ht : typeOf (.builtin id) = pure (.type "method_descriptor")) (hf : MtR X id f) (he : PE X oe tx)
    (hb : attributeBase oe nm X.env (eval oe X.env) = eval oe X.env) (hl : (ap.endLine == cp.line) = true) : PE X (.Call (.Attribute oe nm ap) [] [] cp) (fun σ H Q => tx σ H fun x H1 => tyW X.K T x H1 ∧ f x [] H1 Q) :=
  ⟨fun pins s σ H Q I h => wpAny_Call_method0_late hb hl (thn (he.run pins s σ H _ I h) fun v s1 ⟨x, H1, J, rx, ty, q1⟩ =>
    have z := tyW_is J rx ty
    ⟨T, id, pa, sl, ht, z.1, z.2, Calls.callWith_builtin rfl (PySem.evalArgs_none (hf pins s1 σ H1 x [] v [] Q J rx .nil q1))⟩)⟩
theorem pe_mt1 {X : Cx} {oe a0 : Expr} {ar : List Expr} {tx : TE} {ts : TA} {nm : Str} {ap cp : Pos} {T id : String} {f : V → List V → Hp → VK → Prop} (pa : PlainAttrs T) (sl : Slot T nm id) (ht : typeOf (.builtin id) = pure (.type "method_descriptor")) (hf : MtR X id f) (he : PE X oe tx) (hs : PA X (a0 :: ar) ts)
    (hb : attributeBase oe nm X.env (eval oe X.env) = eval oe X.env)
    (few : ((backTo cp (starEach (a0 :: ar) X.env)).all (fun x => !x.1) && (backToKw cp (keywordEach [] X.env)).all (fun x => x.1.isSome) && decide ((a0 :: ar).length + ([] : List Keyword).length + (if ([] : List Keyword).isEmpty then 0 else 1) < 30)) = true)
    (hl : (ap.endLine == cp.line) = true) (st : starEach (a0 :: ar) X.env = (false, eval a0 X.env) :: starEach ar X.env) (pl : (backTo cp (starEach ar X.env)).any (·.1) = false) : PE X (.Call (.Attribute oe nm ap) (a0 :: ar) [] cp) (tMt X.K T f tx ts) := by
  refine ⟨fun pins s σ H Q I h => wpAny_Call_method_late hb few hl rfl (thn (he.run pins s σ H _ I h) fun v s1 ⟨x, H1, J, rx, ty, q1⟩ => ?_)⟩
  have z := tyW_is J rx ty
  have go := hs.run cp pins s1 σ H1 _ J q1
  refine ⟨T, id, pa, sl, ht, z.1, z.2, ?_⟩
  rw [st] at go ⊢
  exact Calls.callWith_builtin (by show (false || (backTo cp (starEach ar X.env)).any (·.1)) = false; rw [pl]; rfl) (Calls.evalArgs_plain (thn go fun us s2 ⟨vs, H2, J2, r2, q2⟩ => hf pins s2 σ H2 x vs v us Q J2 rx r2 q2))
theorem recv_ty {K : PySem.W.Frag} {H : Hp} {ρ : List Addr} {S : Store} (hp : HRep K H ρ S) {m : Mt} {d : D} {v : V} (e : recvD m d S = true) (r : Rep K H ρ d v) : tyW K m.ty v H := by
  cases d with
  | loc n =>
    unfold recvD at e
    dsimp only at e
    split at e
    · rename_i ds hS
      obtain ⟨a, vs, rfl, _, ha, _⟩ := lst_at hp hS r
      have : m.ty = "list" := by cases m <;> first | rfl | (exact absurd e (by decide))
      rw [this]
      exact .inl (.inl ⟨rfl, vs, .of ha⟩)
    · rename_i ds hS
      obtain ⟨a, vs, rfl, _, ha, _⟩ := dic_at hp hS r
      have : m.ty = "dict" := by cases m <;> first | rfl | (exact absurd e (by decide))
      rw [this]
      exact .inl (.inr (.inr (.inl ⟨rfl, .inl ⟨vs, ha⟩⟩)))
    · rename_i ds hS
      obtain ⟨a, vs, rfl, _, ⟨xs, ha, _⟩, _⟩ := dit_at hp hS r
      have : m.ty = "dict" := by cases m <;> first | rfl | (exact absurd e (by decide))
      rw [this]
      exact .inr ⟨rfl, a, xs, rfl, ha⟩
    · cases e
  | _ => cases e
theorem mt_list {m : Mt} {dx : D} {ds : List D} {S : Store} {r : D × Store} (hm : m ≠ .get) (e : mtD m dx ds S = some r) : ∃ n xs, dx = .loc n ∧ S[n]? = some (.lst xs) := by
  cases dx with
  | loc n =>
    unfold mtD at e
    dsimp only at e
    split at e
    · rename_i xs hS; exact ⟨n, xs, rfl, hS⟩
    · split at e <;> first | contradiction | (cases e)
    · split at e <;> first | contradiction | (cases e)
    · cases e
  | _ => cases e
theorem append_D : MtR X "list.append" (liftM X.K .append) := by
  intro pins s σ H x xs v us Q I rx rxs ⟨ρ, S, dx, ds, d, S', hp, r1, r2, e, k⟩
  obtain ⟨n, ys, rfl, hS⟩ := mt_list (by decide) e
  obtain ⟨a, vs, rfl, ea, ha, rs⟩ := lst_at hp hS r1
  unfold mtD at e
  dsimp only at e
  rw [hS] at e
  dsimp only at e
  split at e <;> first | contradiction | skip
  split at e
  · rename_i y _ hz
    obtain ⟨rfl, rfl⟩ := inj2 e
    obtain ⟨w, rfl, rw'⟩ := repL1 r2
    refine mt_append pins s σ H _ _ v us Q I rx rxs ⟨a, vs, w, rfl, rfl, ha, by rw [← rs.length]; exact hz, ?_⟩
    exact k _ _ ρ (Ext.write hp ea) (hp.write ea ⟨_, upd_same, (Ext.write hp ea).repL hp _ _ (rs.append ⟨w, [], rfl, rw', rfl⟩)⟩) rfl
  · cases e
theorem extend_D : MtR X "list.extend" (liftM X.K .extend) := by
  intro pins s σ H x xs v us Q I rx rxs ⟨ρ, S, dx, ds, d, S', hp, r1, r2, e, k⟩
  obtain ⟨n, ys, rfl, hS⟩ := mt_list (by decide) e
  obtain ⟨a, vs, rfl, ea, ha, rs⟩ := lst_at hp hS r1
  unfold mtD at e
  dsimp only at e
  rw [hS] at e
  dsimp only at e
  split at e <;> first | contradiction | skip
  split at e
  · rename_i m
    split at e
    · rename_i es hE
      split at e
      · rename_i hz
        obtain ⟨rfl, rfl⟩ := inj2 e
        obtain ⟨w, rfl, rw'⟩ := repL1 r2
        obtain ⟨b, ws, rfl, eb, hb, rs2⟩ := lst_at hp hE rw'
        refine mt_extend pins s σ H _ _ v us Q I rx rxs ⟨a, b, vs, ws, rfl, rfl, ha, hb, by rw [← rs.length, ← rs2.length]; exact hz, ?_⟩
        exact k _ _ ρ (Ext.write hp ea) (hp.write ea ⟨_, upd_same, (Ext.write hp ea).repL hp _ _ (rs.append rs2)⟩) rfl
      · cases e
    · cases e
  · cases e
theorem clear_D : MtR X "list.clear" (liftM X.K .clear) := by
  intro pins s σ H x xs v us Q I rx rxs ⟨ρ, S, dx, ds, d, S', hp, r1, r2, e, k⟩
  obtain ⟨n, ys, rfl, hS⟩ := mt_list (by decide) e
  obtain ⟨a, vs, rfl, ea, ha, rs⟩ := lst_at hp hS r1
  unfold mtD at e
  dsimp only at e
  rw [hS] at e
  dsimp only at e
  split at e <;> first | contradiction | skip
  obtain ⟨rfl, rfl⟩ := inj2 e
  cases r2
  refine mt_clear pins s σ H _ _ v us Q I rx rxs ⟨a, vs, rfl, rfl, ha, ?_⟩
  exact k _ _ ρ (Ext.write hp ea) (hp.write ea ⟨_, upd_same, rfl⟩) rfl
theorem pop_D : MtR X "list.pop" (liftM X.K .pop) := by
  intro pins s σ H x xs v us Q I rx rxs ⟨ρ, S, dx, ds, d, S', hp, r1, r2, e, k⟩
  obtain ⟨n, ys, rfl, hS⟩ := mt_list (by decide) e
  obtain ⟨a, vs, rfl, ea, ha, rs⟩ := lst_at hp hS r1
  unfold mtD at e
  dsimp only at e
  rw [hS] at e
  dsimp only at e
  split at e <;> first | contradiction | skip
  split at e
  · rename_i y hy
    obtain ⟨rfl, rfl⟩ := inj2 e
    cases r2
    obtain ⟨w, g1, g2⟩ := rs.get hy
    refine mt_pop pins s σ H _ _ v us Q I rx rxs ⟨a, vs, w, rfl, rfl, ha, by rw [← rs.length]; exact g1, ?_⟩
    exact k _ _ ρ (Ext.write hp ea) (hp.write ea ⟨_, upd_same, (Ext.write hp ea).repL hp _ _ rs.dropLast⟩) ((Ext.write hp ea).rep hp _ _ g2)
  · cases e
theorem flats_ok {K : PySem.W.Frag} {H : Hp} {ρ : List Addr} {a : D} {x : PyData} {v : V} (h1 : flatPy a = some x) (r : Rep K H ρ a v) : ∀ {ds : List D} {ys : List PyData} {vs : List V}, mapO flatPy ds = some ys → RepL K H ρ ds vs →
    vs.all flatV = true ∧ vs.map (fun w => eqV w v) = ys.map fun y => PyData.eqv y x
  | [], ys, vs, e, rr => by cases e; cases rr; exact ⟨rfl, rfl⟩
  | d :: ds, ys, vs, e, rr => by
    obtain ⟨w, vr, rfl, r1, r2⟩ := rr
    unfold mapO at e
    split at e
    · rename_i y hy
      split at e
      · rename_i yr hyr
        cases e
        obtain ⟨i1, i2⟩ := flats_ok h1 r hyr r2
        obtain ⟨f1, f2⟩ := flat_ok hy r1
        refine ⟨by rw [List.all_cons, f1, i1]; rfl, ?_⟩
        rw [List.map_cons, List.map_cons, f2 h1 r, i2]
      · cases e
    · cases e
theorem countP_map_id {α : Type} (f : α → Bool) (l : List α) : l.countP f = (l.map f).countP id := by rw [List.countP_map]; rfl
theorem eqU_countP {y : V} : ∀ {ys : List V} {us : List Value}, Vals ys us → ys.all flatV = true → us.countP (eqU y) = ys.countP fun z => eqV z y
  | [], us, r, h => by cases r; rfl
  | z :: ys, us, r, h => by
    cases r with
    | cons r1 r2 =>
      rw [List.all_cons, Bool.and_eq_true] at h
      rw [List.countP_cons, List.countP_cons, eqU_countP r2 h.2, eqU_of r1 h.1]
theorem count_D : MtR X "list.count" (liftM X.K .count) := by
  intro pins s σ H x xs v us Q I rx rxs ⟨ρ, S, dx, ds, d, S', hp, r1, r2, e, k⟩
  obtain ⟨n, ys, rfl, hS⟩ := mt_list (by decide) e
  obtain ⟨a, vs, rfl, ea, ha, rs⟩ := lst_at hp hS r1
  unfold mtD at e
  dsimp only at e
  rw [hS] at e
  dsimp only at e
  split at e <;> first | contradiction | skip
  rename_i y _
  obtain ⟨c, e1, e2⟩ := Option.map_eq_some_iff.mp e
  obtain ⟨rfl, rfl⟩ := Prod.mk.inj e2
  obtain ⟨w, rfl, rw'⟩ := repL1 r2
  unfold cntSeq at e1
  split at e1
  · rename_i px pys g1 g2
    cases e1
    obtain ⟨f1, f2⟩ := flats_ok g1 rw' g2 rs
    have fw := (flat_ok g1 rw').1
    cases rx
    cases rxs with
    | cons ry rt =>
      rename_i uy ut
      cases rt
      obtain ⟨its, rv, ⟨⟨cls, dd, data, sl⟩, n, ho, hc, hdn, hd⟩, hlen⟩ := I.list (SqL.of ha)
      simp only at hc hd
      subst hc hd
      refine call_meets PySem.F.slot_list_count ⟨_, ho, rfl⟩ PySem.F.entry_list_count (PySem.F.args_list_count_2 _ _)
        (SeqAt.list_countAt a its.toArray n dd sl uy (eqU w)) ⟨ho, fun u' hu' => mem_eqAt ry fw rv f1 u' (by simpa using hu'), ?_⟩
      have ec : its.toArray.toList.countP (eqU w) = pys.countP fun y => PyData.eqv y px := by
        have h1 := eqU_countP (y := w) rv f1
        rw [countP_map_id (fun z => eqV z w), f2, ← countP_map_id] at h1
        exact h1
      refine ⟨.int ((pys.countP fun y => PyData.eqv y px : Nat) : Int), H, I.tok _, ⟨s.toks, ?_⟩, k _ H ρ Ext.refl hp rfl⟩
      show Value.int ((its.toArray.toList.countP (eqU w) : Nat) : Int) s.toks = Value.int _ s.toks
      rw [ec]
  · cases e1
theorem index_D : MtR X "list.index" (liftM X.K .index) := by
  intro pins s σ H x xs v us Q I rx rxs ⟨ρ, S, dx, ds, d, S', hp, r1, r2, e, k⟩
  obtain ⟨n, ys, rfl, hS⟩ := mt_list (by decide) e
  obtain ⟨a, vs, rfl, ea, ha, rs⟩ := lst_at hp hS r1
  unfold mtD at e
  dsimp only at e
  rw [hS] at e
  dsimp only at e
  split at e <;> first | contradiction | skip
  rename_i y _
  obtain ⟨c, e1, e2⟩ := Option.map_eq_some_iff.mp e
  obtain ⟨rfl, rfl⟩ := Prod.mk.inj e2
  obtain ⟨w, rfl, rw'⟩ := repL1 r2
  unfold idxSeq at e1
  split at e1
  · rename_i px pys g1 g2
    obtain ⟨f1, f2⟩ := flats_ok g1 rw' g2 rs
    have fw := (flat_ok g1 rw').1
    have hlen : vs.length = pys.length := by
      have := congrArg List.length f2
      simpa using this
    obtain ⟨hc, hc1, hc2⟩ := List.findIdx?_eq_some_iff_getElem.mp e1
    have hcv : c < vs.length := by omega
    have hat : ∀ m (hm : m < vs.length), eqV vs[m] w = PyData.eqv (pys[m]'(by omega)) px := fun m hm => by
      have h3 := congrArg (fun l => l[m]?) f2
      simp only [List.getElem?_map] at h3
      rw [List.getElem?_eq_getElem hm, List.getElem?_eq_getElem (by omega : m < pys.length)] at h3
      exact Option.some.inj h3
    refine mt_index pins s σ H _ _ v us Q I rx rxs ⟨a, vs, w, c, vs[c], rfl, rfl, SqL.of ha, fw, f1, List.getElem?_eq_getElem hcv, ?_, fun m z hm hz => ?_, k _ H ρ Ext.refl hp rfl⟩
    · rw [hat c hcv]; exact hc1
    · have hmv : m < vs.length := by omega
      rw [List.getElem?_eq_getElem hmv] at hz
      cases hz
      rw [hat m hmv]
      have := hc2 m hm
      simpa using this
  · cases e1
theorem get_D (hu : X.A.units + 9 < cLine) : MtR X "dict.get" (liftM X.K .get) := by
  intro pins s σ H x xs v us Q I rx rxs ⟨ρ, S, dx, ds, d, S', hp, r1, r2, e, k⟩
  cases dx with
  | loc n =>
    unfold mtD at e
    dsimp only at e
    split at e
    · cases e
    · rename_i kvs hS
      obtain ⟨a, ws, rfl, ea, ha, k1, k2⟩ := dic_at hp hS r1
      cases rx
      split at e <;> first | contradiction | skip
      · rename_i kd dd _
        split at e
        · obtain ⟨key, hk, e2⟩ := Option.map_eq_some_iff.mp e
          injection e2 with e3 e4
          subst e3 e4
          have ew : ws = [] := by simpa using k1
          subst ew
          obtain ⟨y, z, rfl, ry, rz⟩ := repL2 r2
          obtain ⟨u1, u2, rfl, ru1, ru2⟩ := vals2 rxs
          obtain ⟨q, rfl, hkq⟩ := keyT_ok hk ry
          cases ru1
          exact dic0_get2 hu I ha hkq fun s3 I3 => ⟨_, H, I3, ru2, k _ H ρ Ext.refl hp rz⟩
        · cases e
      · rename_i kd _
        split at e
        · obtain ⟨key, hk, e2⟩ := Option.map_eq_some_iff.mp e
          injection e2 with e3 e4
          subst e3 e4
          have ew : ws = [] := by simpa using k1
          subst ew
          obtain ⟨y, rfl, ry⟩ := repL1 r2
          obtain ⟨u1, rfl, ru1⟩ := vals1 rxs
          obtain ⟨q, rfl, hkq⟩ := keyT_ok hk ry
          cases ru1
          exact dic0_get1 hu I ha hkq fun s3 I3 => ⟨.non, H, I3, rfl, k _ H ρ Ext.refl hp rfl⟩
        · cases e
      · rename_i kd dd _
        obtain ⟨key, hk, e2⟩ := Option.map_eq_some_iff.mp e
        injection e2 with e3 e4
        subst e3 e4
        obtain ⟨y, z, rfl, ry, rz⟩ := repL2 r2
        obtain ⟨u1, u2, rfl, ru1, ru2⟩ := vals2 rxs
        have := keyOf_ok hk ry
        subst this
        refine d_get2 (Nat.lt_of_le_of_lt (Nat.add_le_add_left (by decide) _) hu) I (DGet.k (k := key) ha) ru1 ru2 fun w' s3 I3 rw' => ⟨_, H, I3, rw', ?_⟩
        refine k _ H ρ Ext.refl hp ?_
        cases h : getG kvs key with
        | none => rw [(getG_ok k1 k2).2.1 h]; exact rz
        | some q =>
          obtain ⟨w, g1, g2⟩ := (getG_ok k1 k2).1 q h
          rw [g1]; exact g2
      · rename_i kd _
        obtain ⟨key, hk, e2⟩ := Option.map_eq_some_iff.mp e
        injection e2 with e3 e4
        subst e3 e4
        obtain ⟨y, rfl, ry⟩ := repL1 r2
        obtain ⟨u1, rfl, ru1⟩ := vals1 rxs
        have := keyOf_ok hk ry
        subst this
        refine d_get1 (Nat.lt_of_le_of_lt (Nat.add_le_add_left (by decide) _) hu) I (DGet.k (k := key) ha) ru1 fun w' s3 I3 rw' => ⟨_, H, I3, rw', ?_⟩
        refine k _ H ρ Ext.refl hp ?_
        cases h : getG kvs key with
        | none => rw [(getG_ok k1 k2).2.1 h]; exact rfl
        | some q =>
          obtain ⟨w, g1, g2⟩ := (getG_ok k1 k2).1 q h
          rw [g1]; exact g2
    · rename_i kvs hS
      obtain ⟨a, ws, rfl, ea, ha, k1, k2⟩ := dit_at hp hS r1
      cases rx
      split at e <;> first | contradiction | skip
      · rename_i kd dd _
        obtain ⟨key, hk, e2⟩ := Option.map_eq_some_iff.mp e
        injection e2 with e3 e4
        subst e3 e4
        obtain ⟨y, z, rfl, ry, rz⟩ := repL2 r2
        obtain ⟨u1, u2, rfl, ru1, ru2⟩ := vals2 rxs
        obtain ⟨q, rfl, hkq⟩ := keyT_ok hk ry
        cases ru1
        refine dit_get2 hu I ha hkq ru2 fun w' s3 I3 rw' => ⟨_, H, I3, rw', ?_⟩
        refine k _ H ρ Ext.refl hp ?_
        cases h : getG kvs key with
        | none => rw [(getG_ok k1 k2).2.1 h]; exact rz
        | some q =>
          obtain ⟨w, g1, g2⟩ := (getG_ok k1 k2).1 q h
          rw [g1]; exact g2
      · rename_i kd _
        obtain ⟨key, hk, e2⟩ := Option.map_eq_some_iff.mp e
        injection e2 with e3 e4
        subst e3 e4
        obtain ⟨y, rfl, ry⟩ := repL1 r2
        obtain ⟨u1, rfl, ru1⟩ := vals1 rxs
        obtain ⟨q, rfl, hkq⟩ := keyT_ok hk ry
        cases ru1
        refine dit_get1 hu I ha hkq fun w' s3 I3 rw' => ⟨_, H, I3, rw', ?_⟩
        refine k _ H ρ Ext.refl hp ?_
        cases h : getG kvs key with
        | none => rw [(getG_ok k1 k2).2.1 h]; exact rfl
        | some q =>
          obtain ⟨w, g1, g2⟩ := (getG_ok k1 k2).1 q h
          rw [g1]; exact g2
    · cases e
  | _ => cases e
theorem r_mt (hu : X.A.units + 9 < cLine) {o : E} {m : Mt} {as : Es} {q p : Pos} {fo : StD → Store → Option (D × Store)} {fs : StD → Store → Option (List D × Store)} (ho : PE X (embE o) (tD X.K fo)) (ha : PA X (embEs as) (tDs X.K fs))
    (hb : noCall0 o = true) (hl : (q.endLine == p.line) = true) (hlen : as.len < 20) (hnil : as = .nil → ∀ σ S, fs σ S = some ([], S)) :
    PE X (.Call (.Attribute (embE o) (Str.ofString m.name) q) (embEs as) [] p) (tD X.K fun σ S => bnd (fo σ S) fun x S1 => if recvD m x S1 then bnd (fs σ S1) fun ds S2 => bnd (mtD m x ds S2) fun d S3 => some (gc S d S3) else none) := by
  have core : PE X (.Call (.Attribute (embE o) (Str.ofString m.name) q) (embEs as) [] p) (tD X.K fun σ S => bnd (fo σ S) fun x S1 => if recvD m x S1 then bnd (fs σ S1) fun ds S2 => mtD m x ds S2 else none) := by
    have go : ∀ {id : String}, PlainAttrs m.ty → Slot m.ty (Str.ofString m.name) id → typeOf (.builtin id) = pure (.type "method_descriptor") → MtR X id (liftM X.K m) →
        PE X (.Call (.Attribute (embE o) (Str.ofString m.name) q) (embEs as) [] p) (tD X.K fun σ S => bnd (fo σ S) fun x S1 => if recvD m x S1 then bnd (fs σ S1) fun ds S2 => mtD m x ds S2 else none) := fun {id} pa slot hty hm => by
      cases as with
      | nil =>
        refine (pe_mt0 pa slot hty hm ho (base_e o hb _) hl).imp fun σ H Q ⟨ρ, σD, S, d, S', cc, e, k⟩ => ?_
        obtain ⟨x, S1, e1, e2⟩ := bnd_eq e
        split at e2
        · rename_i hr
          rw [hnil rfl] at e2
          refine ⟨ρ, σD, S, x, S1, cc, e1, fun v H1 ρ1 x1 h1 r1 => ⟨recv_ty h1 hr r1, ρ1, S1, x, [], d, S', h1, r1, rfl, e2, fun v' H' ρ' x' h' r' => k v' H' ρ' (x1.trans x') h' r'⟩⟩
        · cases e2
      | cons a r =>
        refine (pe_mt1 pa slot hty hm ho ha (base_e o hb _) ?_ hl (star_e a _) (star_any p r)).imp fun σ H Q ⟨ρ, σD, S, d, S', cc, e, k⟩ => ?_
        · have h1 := star_all (env := X.env) p (.cons a r)
          have h2 : (embE a :: embEs r).length < 20 := by
            have := emb_len (.cons a r)
            rw [show embEs (.cons a r) = embE a :: embEs r from rfl] at this
            omega
          rw [show embEs (.cons a r) = embE a :: embEs r from rfl] at h1
          rw [h1]
          show (true && true && decide _) = true
          rw [Bool.true_and, Bool.true_and]
          exact decide_eq_true (by
            show (embE a :: embEs r).length + 0 + 0 < 30
            omega)
        · obtain ⟨x, S1, e1, e2⟩ := bnd_eq e
          split at e2
          · rename_i hr
            obtain ⟨ds, S2, e3, e4⟩ := bnd_eq e2
            refine ⟨ρ, σD, S, x, S1, cc, e1, fun v H1 ρ1 x1 h1 r1 => ⟨recv_ty h1 hr r1, ρ1, σD, S1, ds, S2, cc.ext x1 h1, e3, fun vs H2 ρ2 x2 h2 r2 => ?_⟩⟩
            exact ⟨ρ2, S2, x, ds, d, S', h2, x2.rep h1 _ _ r1, r2, e4, fun v' H' ρ' x' h' r' => k v' H' ρ' ((x1.trans x2).trans x') h' r'⟩
          · cases e2
    cases m with
    | append => exact go PySem.F.plainAttrs_list PySem.F.slot_list_append PySem.F.type_list_append append_D
    | extend => exact go PySem.F.plainAttrs_list PySem.F.slot_list_extend PySem.F.type_list_extend extend_D
    | clear => exact go PySem.F.plainAttrs_list PySem.F.slot_list_clear PySem.F.type_list_clear clear_D
    | pop => exact go PySem.F.plainAttrs_list PySem.F.slot_list_pop PySem.F.type_list_pop pop_D
    | count => exact go PySem.F.plainAttrs_list PySem.F.slot_list_count PySem.F.type_list_count count_D
    | index => exact go PySem.F.plainAttrs_list PySem.F.slot_list_index PySem.F.type_list_index index_D
    | get => exact go PySem.F.plainAttrs_dict PySem.F.slot_dict_get PySem.F.type_dict_get (get_D hu)
  refine (pe_gc core).imp fun σ H Q ⟨ρ, σD, S, d, S', cc, e, k⟩ => ⟨ρ, σD, S, d, S', cc, ?_, k⟩
  obtain ⟨x, S1, e1, e2⟩ := bnd_eq e
  split at e2
  · rename_i hr
    obtain ⟨ds, S2, e3, e4⟩ := bnd_eq e2
    simp only [e1, bnd_some, hr, if_true, e3]
    exact e4
  · cases e2
/-! ### calls -/
theorem lookup_in {α β : Type} [BEq α] [LawfulBEq α] {x : α} {i : β} : ∀ {l : List (α × β)}, l.lookup x = some i → (x, i) ∈ l
  | [], h => by cases h
  | (y, j) :: r, h => by
    rw [List.lookup_cons] at h
    cases e : x == y with
    | true =>
      rw [e] at h
      have h2 := Option.some.inj h
      rw [← h2, eq_of_beq e]
      exact List.mem_cons_self ..
    | false =>
      rw [e] at h
      exact List.mem_cons_of_mem _ (lookup_in h)
/-- a def keeps what the oracle tells -/
def CallOk (P : Program) (w : World) (K : PySem.W.Frag) (mg : Str → Option Value) (base : Heap) (C : Orc) (k : Nat) (f : Str) (n : Nat) (m : Nat) : Prop :=
  ∃ (fa : Addr) (fd : FuncData) (ps : List Str) (dvs : List V) (dsV : List Value) (sp : Sp), mg f = some (.ref fa) ∧ PySem.W.keepIn K (.ref fa) = true ∧ Binds K fd ps dsV ∧ Vals dvs dsV ∧ FnOk P w K mg base CX0 k fa fd ps sp ∧
    ∀ (vs : List V) (H : Hp) (Q : VK), vs.length = m → liftN K (C n) vs H Q → sp (vs ++ dvs) H Q E0
theorem r_call {C : Orc} {k : Nat} {f : Str} {n : Nat} {as : Es} {q p : Pos} {fs : StD → Store → Option (List D × Store)} (hr : Room k X.A) (hk : CallOk X.prog X.w X.K X.mg X.base C k f n as.len) (hg : Gl X f) (hd : (f == ("__debug__" : Str)) = false)
    (ha : PA X (embEs as) (tDs X.K fs)) (hlen : ∀ σ S ds S', fs σ S = some (ds, S') → ds.length = as.len) (hnil : as = .nil → ∀ σ S, fs σ S = some ([], S)) :
    PE X (.Call (.Name f q) (embEs as) [] p) (tD X.K fun σ S => bnd (fs σ S) fun ds S1 => bnd (C n ds S1) fun d S2 => some (gc S d S2)) := by
  obtain ⟨fa, fd, ps, dvs, dsV, sp, h1, h2, h3, h4, h5, h6⟩ := hk
  have core : PE X (.Call (.Name f q) (embEs as) [] p) (tD X.K fun σ S => bnd (fs σ S) fun ds S1 => C n ds S1) := by
    have fin : ∀ {t : TE}, PE X (.Call (.Name f q) (embEs as) [] p) t → (∀ σ H Q, tCall sp dvs E0 (tDs X.K fs) σ H Q → t σ H Q) → PE X (.Call (.Name f q) (embEs as) [] p) (tD X.K fun σ S => bnd (fs σ S) fun ds S1 => C n ds S1) := fun {t} ht hi =>
      ht.imp fun σ H Q ⟨ρ, σD, S, d, S', cc, e, k⟩ => hi σ H Q (by
        obtain ⟨ds, S1, e1, e2⟩ := bnd_eq e
        refine ⟨ρ, σD, S, ds, S1, cc, e1, fun vs H1 ρ1 x1 hp1 r1 => h6 vs H1 Q (by rw [← r1.length]; exact hlen _ _ _ _ e1) ?_⟩
        exact ⟨ρ1, S1, ds, d, S', hp1, r1, e2, fun v' H' ρ' x' h' r' => k v' H' ρ' (x1.trans x') h' r'⟩)
    cases as with
    | nil =>
      refine fin (pe_call0 h5 hr hg h1 h2 h3 h4 pass0 hd) fun σ H Q ⟨ρ, σD, S, ds, S', cc, e, k⟩ => ?_
      rw [hnil rfl] at e
      obtain ⟨rfl, rfl⟩ := inj2 e
      exact k [] H ρ Ext.refl cc.hp rfl
    | cons a r => exact fin (pe_call h5 hr hg h1 h2 h3 h4 pass0 ha hd (star_e a _) (star_any p r)) fun σ H Q h => h
  refine (pe_gc core).imp fun σ H Q ⟨ρ, σD, S, d, S', cc, e, k⟩ => ⟨ρ, σD, S, d, S', cc, ?_, k⟩
  obtain ⟨ds, S1, e1, e2⟩ := bnd_eq e
  simp only [e1, bnd_some]
  exact e2
/-! ### isinstance, list(range) -/
/-- a local name that holds a def -/
theorem r_callL {X : Cx} {C : Orc} {k i : Nat} {x : Str} {fs : List (Str × Nat)} {a0 : E} {ar : Es} {q p : Pos} {g : StD → Store → Option (List D × Store)} (hr : Room k X.A)
    (hk : ∀ y n, (y, n) ∈ fs → CallOk X.prog X.w X.K X.mg X.base C k y n (ar.len + 1) ∧ X.mg y = some (.ref (He.ga X.K y))) (hN : X.N[i]? = some x) (hv : Vis X.env.scope x) (hd : (x == ("__debug__" : Str)) = false) (hcd : (x == ("__classdict__" : Str)) = false)
    (ha : PA X (embEs (.cons a0 ar)) (tDs X.K g)) (hlen : ∀ σ S ds S', g σ S = some (ds, S') → ds.length = ar.len + 1) :
    PE X (.Call (.Name x q) (embEs (.cons a0 ar)) [] p) (tD X.K fun σ S => bnd (opt (slotD σ i) S) fun d S0 => bnd (opt (fnIx fs d) S0) fun n S0 => bnd (g σ S0) fun ds S1 => bnd (C n ds S1) fun d S2 => some (gc S d S2)) := by
  have core : PE X (.Call (.Name x q) (embEs (.cons a0 ar)) [] p) (tD X.K fun σ S => bnd (opt (slotD σ i) S) fun d S0 => bnd (opt (fnIx fs d) S0) fun n S0 => bnd (g σ S0) fun ds S1 => C n ds S1) := by
    refine ⟨fun pins s σ H Q I h => ?_⟩
    obtain ⟨ρ, σD, S, d, S', cc, e, kk⟩ := h
    obtain ⟨d0, S0, e1, e2⟩ := bnd_eq e
    obtain ⟨f1, q1⟩ := opt_eq e1
    subst q1
    obtain ⟨n, S1, e3, e4⟩ := bnd_eq e2
    obtain ⟨f3, q3⟩ := opt_eq e3
    subst q3
    obtain ⟨ds, S2, e5, e6⟩ := bnd_eq e4
    clear e1 e3
    cases d0 with
    | fn y =>
      have hm : (y, n) ∈ fs := lookup_in f3
      obtain ⟨⟨fa, fd, ps, dvs, dsV, sp, h1, h2, h3, h4, h5, h6⟩, hy⟩ := hk y n hm
      have hs : σD[i]? = some (some (.fn y)) := by
        unfold slotD at f1
        split at f1
        · rename_i d' he
          rw [he, Option.some.inj f1]
        · cases f1
      obtain ⟨v, hv1, hv2⟩ := cc.st i _ hs
      have hv3 : v = .ref (He.ga X.K y) := hv2
      have hf : fa = He.ga X.K y := by
        rw [h1] at hy
        injection hy with hy
        injection hy
      subst hf
      subst hv3
      exact (pe_callL h5 hr hN hv h2 h3 h4 pass0 ha hd hcd (star_e a0 _) (star_any p ar)).run pins s σ H Q I ⟨hv1, ρ, σD, _, ds, S2, cc, e5, fun vs H1 ρ1 x1 hp1 r1 => h6 vs H1 Q (by rw [← r1.length]; exact hlen _ _ _ _ e5)
        ⟨ρ1, S2, ds, d, S', hp1, r1, e6, fun v' H' ρ' x' h' r' => kk v' H' ρ' (x1.trans x') h' r'⟩⟩
    | _ => cases f3
  refine (pe_gc core).imp fun σ H Q ⟨ρ, σD, S, d, S', cc, e, k⟩ => ⟨ρ, σD, S, d, S', cc, ?_, k⟩
  obtain ⟨d0, S0, e1, e2⟩ := bnd_eq e
  obtain ⟨n, S1, e3, e4⟩ := bnd_eq e2
  obtain ⟨ds, S2, e5, e6⟩ := bnd_eq e4
  simp only [e1, e3, e5, bnd_some]
  exact e6
theorem r_fnv {X : Cx} {x : Str} {p : Pos} (hg : Gl X x) (hm : X.mg x = some (.ref (He.ga X.K x))) (hd : (x == ("__debug__" : Str)) = false) : PE X (.Name x p) (tD X.K fun _ S => some (.fn x, S)) :=
  (pe_glob (v := .ref (He.ga X.K x)) hg hm rfl hd).imp fun σ H Q ⟨ρ, σD, S, d, S', c, e, k⟩ => by
    obtain ⟨rfl, rfl⟩ := inj2 e
    exact k _ H ρ Ext.refl c.hp rfl
/-- a def called with keywords -/
def KCallOk (P : Program) (w : World) (K : PySem.W.Frag) (mg : Str → Option Value) (base : Heap) (C : Orc) (k : Nat) (f : Str) (n : Nat) (m : Nat) (ks : List Str) (pm : List Nat) : Prop :=
  ∃ (fa : Addr) (fd : FuncData) (ps : List Str) (sp : Sp), mg f = some (.ref fa) ∧ PySem.W.keepIn K (.ref fa) = true ∧ KBn K fd ps m ks (fun us ws => pick pm (us ++ ws)) (fun vs zs => pick pm (vs ++ zs)) ∧ FnOk P w K mg base CX0 k fa fd ps sp ∧
    (∀ vs : List V, vs.length = m + ks.length → (pick pm vs).length = ps.length) ∧ ∀ (vs : List V) (H : Hp) (Q : VK), liftN K (C n) vs H Q → vs.length = ps.length → sp vs H Q E0
theorem repL_pick {K : PySem.W.Frag} {H : Hp} {ρ : List Addr} {ds : List D} {vs : List V} (r : RepL K H ρ ds vs) : ∀ pm : List Nat, RepL K H ρ (pick pm ds) (pick pm vs)
  | [] => rfl
  | i :: pm => by
    have ih := repL_pick r pm
    unfold pick at ih ⊢
    rw [List.filterMap_cons, List.filterMap_cons]
    cases h : ds[i]? with
    | none =>
      have h2 : vs[i]? = none := by
        rw [List.getElem?_eq_none_iff] at h ⊢
        rw [← r.length]; exact h
      rw [h2]; exact ih
    | some d =>
      obtain ⟨v, hv, rv⟩ := r.get h
      rw [hv]
      exact ⟨v, _, rfl, rv, ih⟩
theorem key_all (pos : Pos) : ∀ (kes : Es) (ks : List Str) (kps : List Pos), ks.length = kes.len → (backToKw pos (keywordEach (embKs ks kps kes) env)).all (·.1.isSome) = true ∧ (backToKw pos (keywordEach (embKs ks kps kes) env)).filterMap (·.1) = ks ∧ (backToKw pos (keywordEach (embKs ks kps kes) env)).any (·.1.isNone) = false
  | .nil, ks, kps, h => by
    have : ks = [] := List.eq_nil_of_length_eq_zero h
    subst this
    exact ⟨rfl, rfl, rfl⟩
  | .cons e r, ks, kps, h => by
    cases ks with
    | nil => exact absurd h (by show ¬ 0 = r.len + 1; omega)
    | cons x ks =>
      obtain ⟨h1, h2, h3⟩ := key_all pos r ks kps.tail (by have : ks.length + 1 = r.len + 1 := h; omega)
      have ee : backToKw pos (keywordEach (embKs (x :: ks) kps (.cons e r)) env) = (some x, do let v ← eval (embE e) env; standAt pos; pure v) :: backToKw pos (keywordEach (embKs ks kps.tail r) env) := rfl
      rw [ee]
      refine ⟨?_, ?_, ?_⟩
      · rw [List.all_cons, h1]; rfl
      · rw [List.filterMap_cons, h2]
      · rw [List.any_cons, h3]; rfl
theorem r_knil {X : Cx} {ks : List Str} {kps : List Pos} : PK X (embKs ks kps .nil) (tDs X.K fun _ S => some ([], S)) := ⟨fun pos pins s σ H Q I ⟨ρ, σD, S, ds, S', cc, e, k⟩ => pk_nil.run pos pins s σ H Q I (by
  obtain ⟨rfl, rfl⟩ := inj2 e
  exact k [] H ρ Ext.refl cc.hp rfl)⟩
theorem r_kcons {X : Cx} {e : E} {r : Es} {ks : List Str} {kps : List Pos} {f : StD → Store → Option (D × Store)} {g : StD → Store → Option (List D × Store)} (he : PE X (embE e) (tD X.K f)) (hr : PK X (embKs ks.tail kps.tail r) (tDs X.K g)) :
    PK X (embKs ks kps (.cons e r)) (tDs X.K fun σ S => bnd (f σ S) fun d S1 => bnd (g σ S1) fun ds S2 => some (d :: ds, S2)) :=
  ⟨fun pos pins s σ H Q I ⟨ρ, σD, S, ds, S', cc, e, k⟩ => (pk_cons he hr).run pos pins s σ H Q I (by
    obtain ⟨d, S1, e1, e2⟩ := bnd_eq e
    obtain ⟨es, S2, e3, e4⟩ := bnd_eq e2
    obtain ⟨rfl, rfl⟩ := inj2 e4
    exact ⟨ρ, σD, S, d, S1, cc, e1, fun v H1 ρ1 x1 h1 r1 => ⟨ρ1, σD, S1, es, _, cc.ext x1 h1, e3, fun vs H2 ρ2 x2 h2 r2 => k (v :: vs) H2 ρ2 (x1.trans x2) h2 ⟨v, vs, rfl, x2.rep h1 _ _ r1, r2⟩⟩⟩)⟩
theorem r_callK {X : Cx} {C : Orc} {k : Nat} {f : Str} {n : Nat} {a0 : E} {ar kes : Es} {ks : List Str} {kps : List Pos} {pm : List Nat} {q p : Pos} {fs fk : StD → Store → Option (List D × Store)} (hr : Room k X.A) (hk : KCallOk X.prog X.w X.K X.mg X.base C k f n (ar.len + 1) ks pm) (hg : Gl X f) (hd : (f == ("__debug__" : Str)) = false)
    (ha : PA X (embEs (.cons a0 ar)) (tDs X.K fs)) (hlen : ∀ σ S ds S', fs σ S = some (ds, S') → ds.length = ar.len + 1) (hb : PK X (embKs ks kps kes) (tDs X.K fk)) (hlk : ∀ σ S ds S', fk σ S = some (ds, S') → ds.length = ks.length) (hks : ks.length = kes.len) :
    PE X (.Call (.Name f q) (embEs (.cons a0 ar)) (embKs ks kps kes) p) (tD X.K fun σ S => bnd (fs σ S) fun ds S1 => bnd (fk σ S1) fun zs S2 => bnd (C n (pick pm (ds ++ zs)) S2) fun d S3 => some (gc S d S3)) := by
  obtain ⟨fa, fd, ps, sp, h1, h2, h3, h5, h7, h6⟩ := hk
  obtain ⟨k1, k2, k3⟩ := key_all (env := X.env) p kes ks kps hks
  have st : ((backTo p (starEach (embEs (.cons a0 ar)) X.env)).any (·.1) || (backToKw p (keywordEach (embKs ks kps kes) X.env)).any (·.1.isNone)) = false := by
    rw [star_any p (.cons a0 ar), k3]; rfl
  have core : PE X (.Call (.Name f q) (embEs (.cons a0 ar)) (embKs ks kps kes) p) (tD X.K fun σ S => bnd (fs σ S) fun ds S1 => bnd (fk σ S1) fun zs S2 => C n (pick pm (ds ++ zs)) S2) := by
    refine (pe_callN (E := E0) h5 hr hg h1 h2 h3 pass0 ha hb k1 k2 hd (star_e a0 _) st).imp fun σ H Q ⟨ρ, σD, S, d, S', cc, e, k⟩ => ?_
    obtain ⟨ds, S1, e1, e2⟩ := bnd_eq e
    obtain ⟨zs, S2, e3, e4⟩ := bnd_eq e2
    refine ⟨ρ, σD, S, ds, S1, cc, e1, fun vs H1 ρ1 x1 hp1 r1 => ⟨ρ1, σD, S1, zs, S2, cc.ext x1 hp1, e3, fun ws H2 ρ2 x2 hp2 r2 => ?_⟩⟩
    have rr := repL_pick ((x2.repL hp1 _ _ r1).append r2) pm
    have hl1 : vs.length = ar.len + 1 := by rw [← r1.length]; exact hlen _ _ _ _ e1
    have hl2 : ws.length = ks.length := by rw [← r2.length]; exact hlk _ _ _ _ e3
    refine ⟨hl1, hl2, h6 _ H2 Q ⟨ρ2, S2, _, d, S', hp2, rr, e4, fun v' H' ρ' x' h' r' => k v' H' ρ' ((x1.trans x2).trans x') h' r'⟩ (h7 _ (by rw [List.length_append, hl1, hl2]))⟩
  refine (pe_gc core).imp fun σ H Q ⟨ρ, σD, S, d, S', cc, e, k⟩ => ⟨ρ, σD, S, d, S', cc, ?_, k⟩
  obtain ⟨ds, S1, e1, e2⟩ := bnd_eq e
  obtain ⟨zs, S2, e3, e4⟩ := bnd_eq e2
  simp only [e1, e3, bnd_some]
  exact e4
theorem r_isi {a : Expr} {fa : StD → Store → Option (D × Store)} {t : Ty} {q tp p : Pos} (hg : Gl X "isinstance") (hm : X.mg "isinstance" = none) (hg2 : Gl X (Str.ofString t.name)) (hm2 : X.mg (Str.ofString t.name) = none) (ha : PE X a (tD X.K fa))
    (hs : ∀ r, starEach (a :: r) X.env = (false, eval a X.env) :: starEach r X.env) :
    PE X (.Call (.Name "isinstance" q) [a, .Name (Str.ofString t.name) tp] [] p) (tD X.K fun σ S => bnd (fa σ S) fun x S1 => bnd (opt (tyD S1 x) S1) fun n S2 => some (gc S (.bl (isaD n t)) S2)) := by
  have bt : bootBuiltins (Str.ofString t.name) = some (.type t.name) := by
    cases t with
    | int => exact PyProof.Rows.boot_int
    | bool => exact PyProof.Rows.boot_bool
    | str => exact PyProof.Rows.boot_str
    | list => exact PyProof.Rows.boot_list
    | tuple => exact PyProof.Rows.boot_tuple
    | dict => exact PyProof.Rows.boot_dict
  have hty : PE X (.Name (Str.ofString t.name) tp) (tC (.ty t.name)) := pe_bltn hg2 hm2 bt rfl (by cases t <;> decide) (by cases t <;> decide)
  have core : PE X (.Call (.Name "isinstance" q) [a, .Name (Str.ofString t.name) tp] [] p) (tD X.K fun σ S => bnd (fa σ S) fun x S1 => opt ((tyD S1 x).map fun n => .bl (isaD n t)) S1) := by
    refine (pe_callB call_isi hg hm PyProof.Rows.boot_isinstance (pa_cons ha (pa_cons hty pa_nil rfl) (hs _)) (by decide) (by decide) (hs _) rfl).imp fun σ H Q ⟨ρ, σD, S, d, S', cc, e, k⟩ => ?_
    obtain ⟨x, S1, e1, e2⟩ := bnd_eq e
    obtain ⟨e3, e4⟩ := opt_eq e2
    subst S'
    obtain ⟨n, e5, e6⟩ := Option.map_eq_some_iff.mp e3
    subst e6
    exact ⟨ρ, σD, S, x, S1, cc, e1, fun v H1 ρ1 x1 h1 r1 => ⟨v, .ty t.name, _, _, _, rfl, .ty _, ty_at h1 e5 r1, kit1 X.K (ty_mem e5) t, k _ H1 ρ1 x1 h1 rfl⟩⟩
  refine (pe_gc core).imp fun σ H Q ⟨ρ, σD, S, d, S', cc, e, k⟩ => ⟨ρ, σD, S, d, S', cc, ?_, k⟩
  obtain ⟨x, S1, e1, e2⟩ := bnd_eq e
  obtain ⟨n, S2, e3, e4⟩ := bnd_eq e2
  obtain ⟨e5, e6⟩ := opt_eq e3
  subst S2
  simp only [e1, bnd_some, e5, Option.map_some, opt_some]
  exact e4
theorem r_isl {a : Expr} {fa : StD → Store → Option (D × Store)} {kk : Nat} {q p1 p2 tp p : Pos} (hg : Gl X "isinstance") (hm : X.mg "isinstance" = none) (hg2 : Gl X "list") (hm2 : X.mg "list" = none) (hg3 : Gl X "tuple") (hm3 : X.mg "tuple" = none) (ha : PE X a (tD X.K fa))
    (hs : ∀ r, starEach (a :: r) X.env = (false, eval a X.env) :: starEach r X.env) :
    PE X (.Call (.Name "isinstance" q) [a, .Tuple [.Name "list" p1, .Name "tuple" p2] kk tp] [] p) (tD X.K fun σ S => bnd (fa σ S) fun x S1 => bnd (opt (tyD S1 x) S1) fun n S2 => some (gc S (.bl (isaD n .list || isaD n .tuple)) S2)) := by
  have h1 : PE X (.Name "list" p1) (tC (.ty "list")) := pe_bltn hg2 hm2 PyProof.Rows.boot_list rfl
  have h2 : PE X (.Name "tuple" p2) (tC (.ty "tuple")) := pe_bltn hg3 hm3 PyProof.Rows.boot_tuple rfl
  have core : PE X (.Call (.Name "isinstance" q) [a, .Tuple [.Name "list" p1, .Name "tuple" p2] kk tp] [] p) (tD X.K fun σ S => bnd (fa σ S) fun x S1 => opt ((tyD S1 x).map fun n => .bl (isaD n .list || isaD n .tuple)) S1) := by
    refine (pe_callB call_isiT hg hm PyProof.Rows.boot_isinstance (pa_cons ha (pa_cons (pe_tup (pa_cons h1 (pa_cons h2 pa_nil rfl) rfl)) pa_nil rfl) (hs _)) (by decide) (by decide) (hs _) rfl).imp fun σ H Q ⟨ρ, σD, S, d, S', cc, e, k⟩ => ?_
    obtain ⟨x, S1, e1, e2⟩ := bnd_eq e
    obtain ⟨e3, e4⟩ := opt_eq e2
    subst S'
    obtain ⟨n, e5, e6⟩ := Option.map_eq_some_iff.mp e3
    subst e6
    refine ⟨ρ, σD, S, x, S1, cc, e1, fun v H1 ρ1 x1 h1 r1 => ⟨by show 2 ≤ sizeLine; decide, fun pp hn => ?_⟩⟩
    have x2 := Ext.newT (o := .tup [.ty "list", .ty "tuple"]) h1 hn
    have h2 := h1.newT (o := .tup [.ty "list", .ty "tuple"]) hn
    exact ⟨v, pp, _, _, [.type "list", .type "tuple"], _, rfl, upd_same, .cons (.ty _) (.cons (.ty _) .nil), ty_at h2 e5 (x2.rep h1 _ _ r1), kit2 X.K (ty_mem e5), k _ _ ρ1 (x1.trans x2) h2 rfl⟩
  refine (pe_gc core).imp fun σ H Q ⟨ρ, σD, S, d, S', cc, e, k⟩ => ⟨ρ, σD, S, d, S', cc, ?_, k⟩
  obtain ⟨x, S1, e1, e2⟩ := bnd_eq e
  obtain ⟨n, S2, e3, e4⟩ := bnd_eq e2
  obtain ⟨e5, e6⟩ := opt_eq e3
  subst S2
  simp only [e1, bnd_some, e5, Option.map_some, opt_some]
  exact e4
theorem repL_rg {K : PySem.W.Frag} {H : Hp} {ρ : List Addr} : ∀ (n : Nat) (lo : Int), RepL K H ρ (rangeD lo n) ((List.range n).map fun i => V.int (lo + (i : Nat)))
  | 0, _ => rfl
  | n + 1, lo => by
    rw [List.range_succ_eq_map, List.map_cons, List.map_map]
    refine ⟨_, _, rfl, by show V.int (lo + ((0 : Nat) : Int)) = V.int lo; simp, ?_⟩
    have := repL_rg (K := K) (H := H) (ρ := ρ) n (lo + 1)
    have e : ((fun i : Nat => V.int (lo + (i : Int))) ∘ Nat.succ) = fun i : Nat => V.int (lo + 1 + (i : Int)) := by
      funext i
      show V.int (lo + ((i + 1 : Nat) : Int)) = _
      congr 1; omega
    rw [e]; exact this
theorem r_lrg1 {a : Expr} {fa : StD → Store → Option (D × Store)} {q2 p2 q p : Pos} (hc : X.calm = true) (hg : Gl X "list") (hm : X.mg "list" = none) (hg2 : Gl X "range") (hm2 : X.mg "range" = none) (ha : PE X a (tD X.K fa))
    (hs : ∀ r, starEach (a :: r) X.env = (false, eval a X.env) :: starEach r X.env) :
    PE X (.Call (.Name "list" q) [.Call (.Name "range" q2) [a] [] p2] [] p) (tD X.K fun σ S => bnd (bnd (fa σ S) intD) fun i S1 => bnd (opt (rngD 0 i) S1) fun w S3 =>
      if w.items.length ≤ 2 ^ 24 then some (.loc S3.length, S3 ++ [.lst w.items]) else none) := by
  refine (pe_listRg hc hg hm (prg_1 hg2 hm2 ha (hs _)) rfl).imp fun σ H R ⟨ρ, σD, S, w, S', cc, e, k⟩ => ?_
  obtain ⟨i, S1, e1, e2⟩ := bnd_eq e
  obtain ⟨x, S2, e3, e4⟩ := bnd_eq e1
  obtain ⟨ww, S5, e9, e10⟩ := bnd_eq e2
  obtain ⟨e11, e12⟩ := opt_eq e9
  subst S5
  cases x <;> first | (cases e4; done) | skip
  obtain ⟨rfl, rfl⟩ := inj2 e4
  unfold rngD at e11
  split at e11
  · rename_i hb'
    cases e11
    split at e10
    · rename_i hl
      obtain ⟨rfl, rfl⟩ := inj2 e10
      refine ⟨ρ, σD, S, _, _, cc, e3, fun v H1 ρ1 x1 h1 r1 => ?_⟩
      rw [rangeD_len] at hl
      refine ⟨_, r1, ⟨hb'.1, hb'.2.1, hb'.2.2.1, hb'.2.2.2, hl⟩, fun pp hn => ?_⟩
      exact k _ _ (ρ1 ++ [pp]) (x1.trans (Ext.newL h1 hn)) (h1.newLst hn (repL_rg _ _)) h1.newLoc
    · cases e10
  · cases e11
theorem r_lrg {a b : Expr} {fa fb : StD → Store → Option (D × Store)} {q2 p2 q p : Pos} (hc : X.calm = true) (hg : Gl X "list") (hm : X.mg "list" = none) (hg2 : Gl X "range") (hm2 : X.mg "range" = none) (ha : PE X a (tD X.K fa)) (hb : PE X b (tD X.K fb))
    (hs : ∀ r, starEach (a :: r) X.env = (false, eval a X.env) :: starEach r X.env) (hs2 : ∀ r, starEach (b :: r) X.env = (false, eval b X.env) :: starEach r X.env) :
    PE X (.Call (.Name "list" q) [.Call (.Name "range" q2) [a, b] [] p2] [] p) (tD X.K fun σ S => bnd (bnd (fa σ S) intD) fun i S1 => bnd (bnd (fb σ S1) intD) fun j S2 => bnd (opt (rngD i j) S2) fun w S3 =>
      if w.items.length ≤ 2 ^ 24 then some (.loc S3.length, S3 ++ [.lst w.items]) else none) := by
  refine (pe_listRg hc hg hm (prg_2 hg2 hm2 ha hb (hs _) (hs2 _) (by rw [hs2]; rfl)) rfl).imp fun σ H R ⟨ρ, σD, S, w, S', cc, e, k⟩ => ?_
  obtain ⟨i, S1, e1, e2⟩ := bnd_eq e
  obtain ⟨x, S2, e3, e4⟩ := bnd_eq e1
  obtain ⟨j, S3, e5, e6⟩ := bnd_eq e2
  obtain ⟨y, S4, e7, e8⟩ := bnd_eq e5
  obtain ⟨ww, S5, e9, e10⟩ := bnd_eq e6
  obtain ⟨e11, e12⟩ := opt_eq e9
  subst S5
  cases x <;> first | (cases e4; done) | skip
  obtain ⟨rfl, rfl⟩ := inj2 e4
  cases y <;> first | (cases e8; done) | skip
  obtain ⟨rfl, rfl⟩ := inj2 e8
  unfold rngD at e11
  split at e11
  · rename_i hb'
    cases e11
    split at e10
    · rename_i hl
      obtain ⟨rfl, rfl⟩ := inj2 e10
      refine ⟨ρ, σD, S, _, _, cc, e3, fun v H1 ρ1 x1 h1 r1 => ⟨ρ1, σD, _, _, _, cc.ext x1 h1, e7, fun v2 H2 ρ2 x2 h2 r2 => ?_⟩⟩
      rw [rangeD_len] at hl
      refine ⟨_, _, r1, r2, ⟨hb'.1, hb'.2.1, hb'.2.2.1, hb'.2.2.2, hl⟩, fun pp hn => ?_⟩
      exact k _ _ (ρ2 ++ [pp]) ((x1.trans x2).trans (Ext.newL h2 hn)) (h2.newLst hn (repL_rg _ _)) h2.newLoc
    · cases e10
  · cases e11
end
end Mi

end

section
/-! Mi9: the language is sound. -/
namespace Mi
open PySem PySem.Spec L2
def bltNames : List Str := ["len", "int", "tuple", "list", "min", "max", "abs", "dict", "isinstance", "range", "enumerate", "bool", "str", "sum", "any", "all", "sorted", "zip", "repr", "reversed", "set"]
/-- a tuple of the written part -/
def TupK (K : PySem.W.Frag) (a : Addr) (vs : List V) : Prop := ∃ (o : Obj) (its : Array Value) (n : Nat), K.lookup a = some o ∧ o.cls = .type "tuple" ∧ o.dict = none ∧ o.data = .seq its n ∧ its.size ≤ sizeLine ∧ Vals vs its.toList
def TupOk (K : PySem.W.Frag) (mg : Str → Option Value) (x : Str) (ds : List D) : Prop := ∃ a vs, mg x = some (.ref a) ∧ TupK K a vs ∧ ∀ H ρ, RepL K H ρ ds vs
structure Good (Γ : Tab) (C : Orc) (k : Nat) (X : Cx) : Prop where
  calm : X.calm = true
  nd : X.N.Nodup
  xe : X.xe = fun _ _ => False
  room : Room k X.A
  kind : X.env.scope.kind = .function
  blt : ∀ x ∈ bltNames, X.mg x = none
  cal : ∀ f n m, Γ.cal f n m = true → CallOk X.prog X.w X.K X.mg X.base C k f n m
  kal : ∀ f n m ks pm, Γ.kal f n m ks pm = true → KCallOk X.prog X.w X.K X.mg X.base C k f n m ks pm
  glo : ∀ x i, Γ.glo x = some i → ∃ t, X.mg x = some (.int i t)
  tup : ∀ x ds, Γ.tup x = some ds → TupOk X.K X.mg x ds
  fnv : ∀ x, Γ.fnv x = true → X.mg x = some (.ref (He.ga X.K x))
theorem Good.u1 {Γ : Tab} {C : Orc} {k : Nat} {X : Cx} (G : Good Γ C k X) : X.A.units + 9 < cLine := by have := G.room.un; omega
theorem Good.u65 {Γ : Tab} {C : Orc} {k : Nat} {X : Cx} (G : Good Γ C k X) : X.A.units + 125 < cLine := by have := G.room.un; omega
theorem Good.blk {Γ : Tab} {C : Orc} {k : Nat} {X : Cx} (G : Good Γ C k X) {scope : Scope} (hk : scope.kind = .function) (s : Shared) (H : Hp) (C' : Addr) (cl : List (Str × Addr)) (fp : List Addr) : Good Γ C k (X.blk s H scope (compEnvC scope cl C' X.env) fp) :=
  ⟨G.calm, G.nd, rfl, G.room, hk, G.blt, G.cal, G.kal, G.glo, G.tup, G.fnv⟩
theorem relab_eq (X : Cx) (scope : Scope) (cl : List (Str × Addr)) (C' : Addr) : (compEnvC scope cl C' X.env).scope = relab X.env.scope scope := rfl
theorem gl_of {X : Cx} {x : Str} (h : glB X.env.scope x = true) : Gl X x ∧ (x == ("__debug__" : Str)) = false := by
  unfold glB at h
  rw [Bool.and_eq_true] at h
  constructor
  · have h1 := h.1
    split at h1
    · assumption
    · cases h1
  · simpa using h.2
theorem vis_of {sc : Scope} {x : Str} (h : visB sc x = true) : Vis sc x := by
  unfold visB at h
  split at h <;> first | exact .inl (by assumption) | exact .inr (.inl (by assumption)) | exact .inr (.inr (by assumption)) | cases h
theorem loc_of {sc : Scope} {fn : Str → Bool} {x : Str} (h : locB sc fn x = true) : Loc sc x ∧ (fn x = true ∨ sc.names.lookup x = some .local) := by
  unfold locB at h
  split at h
  · exact ⟨.inl (by assumption), .inr (by assumption)⟩
  · exact ⟨.inr (by assumption), .inl h⟩
  · cases h
def Bi.val : Bi → Value
  | .len => .builtin "len" | .int => .type "int" | .tuple => .type "tuple" | .list => .type "list" | .min => .builtin "min" | .max => .builtin "max" | .abs => .builtin "abs" | .dict => .type "dict" | .sum => .builtin "sum" | .any => .builtin "any" | .all => .builtin "all"
theorem bi_in (f : Bi) : Str.ofString f.name ∈ bltNames := by cases f <;> decide
section
variable {X : Cx}
theorem r_bi (hc : X.calm = true) {f : Bi} {as : Es} {q p : Pos} {fs : StD → Store → Option (List D × Store)} (hg : Gl X (Str.ofString f.name)) (hm : X.mg (Str.ofString f.name) = none) (ha : PA X (embEs as) (tDs X.K fs))
    (hlen : ∀ σ S ds S', fs σ S = some (ds, S') → ds.length = as.len) :
    PE X (.Call (.Name (Str.ofString f.name) q) (embEs as) [] p) (tD X.K fun σ S => bnd (fs σ S) fun ds S1 => bnd (biD f ds S1) fun d S2 => some (gc S d S2)) := by
  have core : PE X (.Call (.Name (Str.ofString f.name) q) (embEs as) [] p) (tD X.K fun σ S => bnd (fs σ S) fun ds S1 => biD f ds S1) := by
    cases as with
    | nil =>
      refine pe_no fun σ H Q ⟨ρ, σD, S, d, S', cc, e, k⟩ => ?_
      obtain ⟨ds, S1, e1, e2⟩ := bnd_eq e
      have el : ds = [] := List.eq_nil_of_length_eq_zero (hlen _ _ _ _ e1)
      subst el
      cases f <;> cases e2
    | cons a r =>
      have nm : Str.ofString f.name ≠ "__name__" := by cases f <;> decide
      have db : (Str.ofString f.name == ("__debug__" : Str)) = false := by cases f <;> decide
      cases f with
      | len => exact (pe_callB len_D hg hm PySem.boot_len ha nm db (star_e a _) (star_any p r)).imp fun _ _ _ => tD_N
      | int => exact (pe_callTy int_D hg hm PyProof.Rows.boot_int ha nm db (star_e a _) (star_any p r)).imp fun _ _ _ => tD_N
      | tuple => exact (pe_callTy tuple_D hg hm PyProof.Rows.boot_tuple ha nm db (star_e a _) (star_any p r)).imp fun _ _ _ => tD_N
      | list => exact (pe_callTy list_D hg hm PyProof.Rows.boot_list ha nm db (star_e a _) (star_any p r)).imp fun _ _ _ => tD_N
      | min => exact (pe_callB (min_D hc) hg hm PyProof.Rows.boot_min ha nm db (star_e a _) (star_any p r)).imp fun _ _ _ => tD_N
      | max => exact (pe_callB (max_D hc) hg hm PyProof.Rows.boot_max ha nm db (star_e a _) (star_any p r)).imp fun _ _ _ => tD_N
      | abs => exact (pe_callB abs_D hg hm PyProof.Rows.boot_abs ha nm db (star_e a _) (star_any p r)).imp fun _ _ _ => tD_N
      | sum => exact (pe_callB (sum_D hc) hg hm (by decide +kernel) ha nm db (star_e a _) (star_any p r)).imp fun _ _ _ => tD_N
      | any => exact (pe_callB (any_D hc) hg hm (by decide +kernel) ha nm db (star_e a _) (star_any p r)).imp fun _ _ _ => tD_N
      | all => exact (pe_callB (all_D hc) hg hm (by decide +kernel) ha nm db (star_e a _) (star_any p r)).imp fun _ _ _ => tD_N
      | dict => exact (pe_callTy (dict_D hc) hg hm PyProof.Rows.boot_dict ha nm db (star_e a _) (star_any p r)).imp fun _ _ _ => tD_N
  refine (pe_gc core).imp fun σ H Q ⟨ρ, σD, S, d, S', cc, e, k⟩ => ⟨ρ, σD, S, d, S', cc, ?_, k⟩
  obtain ⟨ds, S1, e1, e2⟩ := bnd_eq e
  simp only [e1, bnd_some]
  exact e2
end
theorem r_gtp {X : Cx} {x : Str} {ds : List D} {p : Pos} (hg : Gl X x) (h : TupOk X.K X.mg x ds) (hd : (x == ("__debug__" : Str)) = false) : PE X (.Name x p) (tD X.K fun _ S => some (.tup ds, S)) := by
  obtain ⟨a, vs, hm, ht, hr⟩ := h
  refine (pe_glob (v := .ref a) hg hm rfl hd).imp fun σ H Q ⟨ρ, σD, S, d, S', c, e, k⟩ => ?_
  obtain ⟨rfl, rfl⟩ := inj2 e
  exact k _ H ρ Ext.refl c.hp ⟨a, vs, rfl, .inr ht, hr H ρ⟩
theorem evEs_len (C : Orc) : ∀ (es : Es) (σ : StD) (S : Store) (ds : List D) (S' : Store), evEs C es σ S = some (ds, S') → ds.length = es.len
  | .nil, σ, S, ds, S', h => by obtain ⟨rfl, rfl⟩ := inj2 (show some ([], S) = some (ds, S') from h); rfl
  | .cons e r, σ, S, ds, S', h => by
    obtain ⟨d, S1, e1, e2⟩ := bnd_eq (show bnd ((ev C e).e σ S) _ = some (ds, S') from h)
    obtain ⟨es, S2, e3, e4⟩ := bnd_eq e2
    obtain ⟨rfl, rfl⟩ := inj2 e4
    rw [List.length_cons, evEs_len C r σ S1 es _ e3]; rfl
theorem and2 {a b : Bool} (h : (a && b) = true) : a = true ∧ b = true := by simpa using h
theorem and3 {a b c : Bool} (h : (a && b && c) = true) : a = true ∧ b = true ∧ c = true := by simp only [Bool.and_eq_true] at h; exact ⟨h.1.1, h.1.2, h.2⟩
section
variable {Γ : Tab} {C : Orc} {k : Nat}
mutual
theorem sndE : ∀ (e : E) (X : Cx) (G : Good Γ C k X), wfE Γ X.N X.env.scope X.fn e = true → PE X (embE e) (tD X.K (ev C e).e) ∧ PT X (embE e) (tDB X.K (ev C e).b)
  | .con c n p, X, G, h => have h1 : PE X _ (tD X.K _) := r_con; ⟨h1, t_truth h1 (truth_e (.con c n p) rfl)⟩
  | .var i x p, X, G, h => by
    obtain ⟨h12, h3⟩ := and2 (show (decide (X.N[i]? = some x) && visB X.env.scope x && !(x == ("__debug__" : Str)) && !(x == ("__classdict__" : Str))) = true from h)
    obtain ⟨h1, h2, h4⟩ := and3 h12
    have hh : PE X _ (tD X.K _) := r_var (p := p) (of_decide_eq_true h1) (vis_of h2) (by simpa using h4) (by simpa using h3)
    exact ⟨hh, t_truth hh (truth_e (.var i x p) rfl)⟩
  | .glo x i p, X, G, h => by
    obtain ⟨h1, h2⟩ := and2 (show (glB X.env.scope x && decide (Γ.glo x = some i)) = true from h)
    obtain ⟨t, ht⟩ := G.glo x i (of_decide_eq_true h2)
    have hh : PE X _ (tD X.K _) := r_glo (p := p) (gl_of h1).1 ht ⟨t, rfl⟩ (gl_of h1).2
    exact ⟨hh, t_truth hh (truth_e (.glo x i p) rfl)⟩
  | .tup es n p, X, G, h => by
    have hh : PE X _ (tD X.K _) := r_tup (p := p) (k := n) (sndEs es X G h)
    exact ⟨hh, t_truth hh (truth_e (.tup es n p) rfl)⟩
  | .lst es p, X, G, h => by
    have hh : PE X _ (tD X.K _) := r_lst (p := p) (sndEs es X G h)
    exact ⟨hh, t_truth hh (truth_e (.lst es p) rfl)⟩
  | .dct p, X, G, h => by
    have hh : PE X _ (tD X.K _) := r_dct (p := p)
    exact ⟨hh, t_truth hh (truth_e (.dct p) rfl)⟩
  | .op o a b p, X, G, h => by
    obtain ⟨h1, h2⟩ := and2 (show (wfE Γ X.N X.env.scope X.fn a && wfE Γ X.N X.env.scope X.fn b) = true from h)
    have hh : PE X _ (tD X.K _) := r_op (p := p) o (sndE a X G h1).1 (sndE b X G h2).1
    exact ⟨hh, t_truth hh (truth_e (.op o a b p) rfl)⟩
  | .neg a p, X, G, h => by
    have hh : PE X _ (tD X.K _) := r_neg (p := p) (sndE a X G h).1
    exact ⟨hh, t_truth hh (truth_e (.neg a p) rfl)⟩
  | .not a p, X, G, h => ⟨r_not (sndE a X G h).1, t_not (sndE a X G h).2⟩
  | .bop o es p, X, G, h => by
    obtain ⟨h1, h2⟩ := and2 (show (wfEs Γ X.N X.env.scope X.fn es && decide (0 < es.len)) = true from h)
    exact sndBop o es p X G h1 (of_decide_eq_true h2)
  | .cmp o a b p, X, G, h => by
    obtain ⟨h1, h2⟩ := and2 (show (wfE Γ X.N X.env.scope X.fn a && wfE Γ X.N X.env.scope X.fn b) = true from h)
    exact ⟨r_cmp G.u65 o (sndE a X G h1).1 (sndE b X G h2).1 (noSet o b), t_cmp G.u65 o (sndE a X G h1).1 (sndE b X G h2).1 (noSet o b)⟩
  | .chn o q a b c p, X, G, h => by
    obtain ⟨h1, h2, h3⟩ := and3 (show (wfE Γ X.N X.env.scope X.fn a && wfE Γ X.N X.env.scope X.fn b && wfE Γ X.N X.env.scope X.fn c) = true from h)
    exact ⟨r_chn G.u65 o q (sndE a X G h1).1 (sndE b X G h2).1 (sndE c X G h3).1 (noSet2 o q b c), t_chn G.u65 o q (sndE a X G h1).1 (sndE b X G h2).1 (sndE c X G h3).1 (noSet2 o q b c)⟩
  | .ifx c a b p, X, G, h => by
    obtain ⟨h1, h2, h3⟩ := and3 (show (wfE Γ X.N X.env.scope X.fn c && wfE Γ X.N X.env.scope X.fn a && wfE Γ X.N X.env.scope X.fn b) = true from h)
    exact ⟨r_ifx (sndE c X G h1).2 (sndE a X G h2).1 (sndE b X G h3).1, t_ifx (sndE c X G h1).2 (sndE a X G h2).2 (sndE b X G h3).2⟩
  | .ix a i p, X, G, h => by
    obtain ⟨h1, h2⟩ := and2 (show (wfE Γ X.N X.env.scope X.fn a && wfE Γ X.N X.env.scope X.fn i) = true from h)
    have hh : PE X _ (tD X.K _) := r_ix (p := p) G.u1 (sndE a X G h1).1 (sndE i X G h2).1 (plainIx i)
    exact ⟨hh, t_truth hh (truth_e (.ix a i p) rfl)⟩
  | .sl a lo hi q p, X, G, h => by
    obtain ⟨h1, h2, h3⟩ := and3 (show (wfE Γ X.N X.env.scope X.fn a && wfEo Γ X.N X.env.scope X.fn lo && wfEo Γ X.N X.env.scope X.fn hi) = true from h)
    have hh : PE X _ (tD X.K _) := r_sl (p := p) (p2 := q) (sndE a X G h1).1 (sndEo lo X G h2).1 (sndEo hi X G h3).1
    exact ⟨hh, t_truth hh (truth_e (.sl a lo hi q p) rfl)⟩
  | .rev a n p1 p2 p3 p, X, G, h => by
    have hh : PE X _ (tD X.K _) := r_rev (k := n) (p1 := p1) (p2 := p2) (p3 := p3) (p := p) (sndE a X G h).1
    exact ⟨hh, t_truth hh (truth_e (.rev a n p1 p2 p3 p) rfl)⟩
  | .gtp x ds p, X, G, h => by
    obtain ⟨h1, h2⟩ := and2 (show (glB X.env.scope x && (match Γ.tup x with | some es => D.beqL es ds | none => false)) = true from h)
    have h3 : Γ.tup x = some ds := by
      cases e : Γ.tup x with
      | none => rw [e] at h2; cases h2
      | some es => rw [e] at h2; rw [D.beqL_eq h2]
    have hh : PE X _ (tD X.K _) := r_gtp (p := p) (gl_of h1).1 (G.tup x ds h3) (gl_of h1).2
    exact ⟨hh, t_truth hh (truth_e (.gtp x ds p) rfl)⟩
  | .call f n as q p, X, G, h => by
    obtain ⟨h1, h2, h3⟩ := and3 (show (glB X.env.scope f && Γ.cal f n as.len && wfEs Γ X.N X.env.scope X.fn as) = true from h)
    have hh : PE X _ (tD X.K _) := r_call (q := q) (p := p) G.room (G.cal f n as.len h2) (gl_of h1).1 (gl_of h1).2 (sndEs as X G h3) (fun σ S ds S' e => evEs_len C as σ S ds S' e) (fun e σ S => by subst e; rfl)
    exact ⟨hh, t_truth hh (truth_e (.call f n as q p) rfl)⟩
  | .fnv x p, X, G, h => by
    obtain ⟨h1, h2⟩ := and2 (show (glB X.env.scope x && Γ.fnv x) = true from h)
    have hh : PE X _ (tD X.K _) := r_fnv (p := p) (gl_of h1).1 (G.fnv x h2) (gl_of h1).2
    exact ⟨hh, t_truth hh (truth_e (.fnv x p) rfl)⟩
  | .callL i x fs .nil q p, X, G, h => by
    obtain ⟨_, h0⟩ := and2 (show (_ && decide (0 < Es.nil.len)) = true from h)
    cases of_decide_eq_true h0
  | .callL i x fs (.cons a ar) q p, X, G, h => by
    obtain ⟨h0, _⟩ := and2 (show (_ && decide (0 < (Es.cons a ar).len)) = true from h)
    obtain ⟨h12, hfs, hw⟩ := and3 (show ((decide (X.N[i]? = some x) && visB X.env.scope x && !(x == ("__debug__" : Str)) && !(x == ("__classdict__" : Str))) && fs.all (fun p => Γ.fnv p.1 && Γ.cal p.1 p.2 (Es.cons a ar).len) && wfEs Γ X.N X.env.scope X.fn (.cons a ar)) = true from h0)
    obtain ⟨h12, h3⟩ := and2 h12
    obtain ⟨h1, h2, h4⟩ := and3 h12
    have hh : PE X _ (tD X.K _) := r_callL (q := q) (p := p) (i := i) G.room (fun y n hm => by
      obtain ⟨g1, g2⟩ := and2 (List.all_eq_true.mp hfs _ hm)
      exact ⟨G.cal y n _ g2, G.fnv y g1⟩) (of_decide_eq_true h1) (vis_of h2) (by simpa using h4) (by simpa using h3) (sndEs (.cons a ar) X G hw) (fun σ S ds S' e => evEs_len C (.cons a ar) σ S ds S' e)
    exact ⟨hh, t_truth hh (truth_e (.callL i x fs (.cons a ar) q p) rfl)⟩
  | .callK f n .nil ks kps kes pm q p, X, G, h => by
    obtain ⟨_, _, h6⟩ := and3 (show (glB X.env.scope f && Γ.kal f n 0 ks pm && wfEs Γ X.N X.env.scope X.fn .nil && wfEs Γ X.N X.env.scope X.fn kes && decide (ks.length = kes.len) && decide (0 < Es.nil.len)) = true from h)
    exact absurd (of_decide_eq_true h6) (Nat.lt_irrefl 0)
  | .callK f n (.cons a ar) ks kps kes pm q p, X, G, h => by
    obtain ⟨h1234, h5, _⟩ := and3 (show (glB X.env.scope f && Γ.kal f n (Es.cons a ar).len ks pm && wfEs Γ X.N X.env.scope X.fn (.cons a ar) && wfEs Γ X.N X.env.scope X.fn kes && decide (ks.length = kes.len) && decide (0 < (Es.cons a ar).len)) = true from h)
    obtain ⟨h12, h3, h4⟩ := and3 h1234
    obtain ⟨h1, h2⟩ := and2 h12
    have hh : PE X _ (tD X.K _) := r_callK (q := q) (p := p) (kps := kps) G.room (G.kal f n _ ks pm h2) (gl_of h1).1 (gl_of h1).2 (sndEs (.cons a ar) X G h3) (fun σ S ds S' e => evEs_len C (.cons a ar) σ S ds S' e) (sndKs kes ks kps X G h4) (fun σ S ds S' e => by rw [of_decide_eq_true h5]; exact evEs_len C kes σ S ds S' e) (of_decide_eq_true h5)
    exact ⟨hh, t_truth hh (truth_e (.callK f n (.cons a ar) ks kps kes pm q p) rfl)⟩
  | .bi f as q p, X, G, h => by
    obtain ⟨h1, h2⟩ := and2 (show (glB X.env.scope (Str.ofString f.name) && wfEs Γ X.N X.env.scope X.fn as) = true from h)
    have hh : PE X _ (tD X.K _) := r_bi (q := q) (p := p) G.calm (gl_of h1).1 (G.blt _ (bi_in f)) (sndEs as X G h2) (fun σ S ds S' e => evEs_len C as σ S ds S' e)
    exact ⟨hh, t_truth hh (truth_e (.bi f as q p) rfl)⟩
  | .mxd gr a d q kp p, X, G, h => by
    obtain ⟨h1, h2, h3⟩ := and3 (show (glB X.env.scope (Str.ofString (if gr then "max" else "min")) && wfE Γ X.N X.env.scope X.fn a && wfE Γ X.N X.env.scope X.fn d) = true from h)
    have hh : PE X _ (tD X.K _) := r_mxd (q := q) (p := p) (kp := kp) G.calm G.u65 gr (gl_of h1).1 (G.blt _ (by cases gr <;> decide)) (sndE a X G h2).1 (sndE d X G h3).1 (star_e a [])
    exact ⟨hh, t_truth hh (truth_e (.mxd gr a d q kp p) rfl)⟩
  | .isi a t q tp p, X, G, h => by
    obtain ⟨h1, h2, h3⟩ := and3 (show (glB X.env.scope "isinstance" && glB X.env.scope (Str.ofString t.name) && wfE Γ X.N X.env.scope X.fn a) = true from h)
    have hh : PE X _ (tD X.K _) := r_isi (q := q) (tp := tp) (p := p) (gl_of h1).1 (G.blt _ (by decide)) (gl_of h2).1 (G.blt _ (by cases t <;> decide)) (sndE a X G h3).1 (star_e a)
    exact ⟨hh, t_truth hh (truth_e (.isi a t q tp p) rfl)⟩
  | .isl a n q p1 p2 tp p, X, G, h => by
    obtain ⟨h12, h3⟩ := and2 (show (glB X.env.scope "isinstance" && glB X.env.scope "list" && glB X.env.scope "tuple" && wfE Γ X.N X.env.scope X.fn a) = true from h)
    obtain ⟨h1, h2, h4⟩ := and3 h12
    have hh : PE X _ (tD X.K _) := r_isl (kk := n) (q := q) (p1 := p1) (p2 := p2) (tp := tp) (p := p) (gl_of h1).1 (G.blt _ (by decide)) (gl_of h2).1 (G.blt _ (by decide)) (gl_of h4).1 (G.blt _ (by decide)) (sndE a X G h3).1 (star_e a)
    exact ⟨hh, t_truth hh (truth_e (.isl a n q p1 p2 tp p) rfl)⟩
  | .lrg a b q2 p2 q p, X, G, h => by
    obtain ⟨h12, h3⟩ := and2 (show (glB X.env.scope "list" && glB X.env.scope "range" && wfE Γ X.N X.env.scope X.fn a && wfE Γ X.N X.env.scope X.fn b) = true from h)
    obtain ⟨h1, h2, h4⟩ := and3 h12
    have hh : PE X _ (tD X.K _) := r_lrg (q2 := q2) (p2 := p2) (q := q) (p := p) G.calm (gl_of h1).1 (G.blt _ (by decide)) (gl_of h2).1 (G.blt _ (by decide)) (sndE a X G h4).1 (sndE b X G h3).1 (star_e a) (star_e b)
    exact ⟨hh, t_truth hh (truth_e (.lrg a b q2 p2 q p) rfl)⟩
  | .lrg1 a q2 p2 q p, X, G, h => by
    obtain ⟨h1, h2, h4⟩ := and3 (show (glB X.env.scope "list" && glB X.env.scope "range" && wfE Γ X.N X.env.scope X.fn a) = true from h)
    have hh : PE X _ (tD X.K _) := r_lrg1 (q2 := q2) (p2 := p2) (q := q) (p := p) G.calm (gl_of h1).1 (G.blt _ (by decide)) (gl_of h2).1 (G.blt _ (by decide)) (sndE a X G h4).1 (star_e a)
    exact ⟨hh, t_truth hh (truth_e (.lrg1 a q2 p2 q p) rfl)⟩
  | .mt o m as q p, X, G, h => by
    obtain ⟨h123, h4, h5⟩ := and3 (show (noCall0 o && wfE Γ X.N X.env.scope X.fn o && wfEs Γ X.N X.env.scope X.fn as && (q.endLine == p.line) && decide (as.len < 20)) = true from h)
    obtain ⟨h1, h2, h3⟩ := and3 h123
    have hh : PE X _ (tD X.K _) := r_mt (m := m) G.u1 (sndE o X G h2).1 (sndEs as X G h3) h1 h4 (of_decide_eq_true h5) (fun e σ S => by subst e; rfl)
    exact ⟨hh, t_truth hh (truth_e (.mt o m as q p) rfl)⟩
  | .lc e g it c own scx p, X, G, h => by
    have hh : PE X (embE (.lc e g it c own scx p)) (tD X.K (ev C (.lc e g it c own scx p)).e) := by
      obtain ⟨h1234, h5, h6⟩ := and3 (show (wfI Γ X.N X.env.scope X.fn (isTp g) it && blkC X.N X.env.scope scx own && (slots g).all (fun j => (own.map (·.2)).contains j) &&
        wfG Γ X.N (relab X.env.scope scx) (fun x => scx.names.lookup x == some .cell) g && wfEo Γ X.N (relab X.env.scope scx) (fun x => scx.names.lookup x == some .cell) c && wfE Γ X.N (relab X.env.scope scx) (fun x => scx.names.lookup x == some .cell) e) = true from h)
      obtain ⟨h12, h3, h4⟩ := and3 h1234
      obtain ⟨h1, h2⟩ := and2 h12
      have ok := blkOk_by h2
      refine r_lc (sl := slots g) (p := p) G.calm G.nd (sndI it X G g h1) ok (fun s H C' cl fp => ?_) (fun s H C' cl fp => ?_) (fun s H C' cl fp => ?_) (folded_i it) fun j hj => ?_
      · exact sndG g _ (G.blk ok.kind s H C' cl fp) h4
      · exact (sndEo c _ (G.blk ok.kind s H C' cl fp) h5).2
      · exact (sndE e _ (G.blk ok.kind s H C' cl fp) h6).1
      · have := List.all_eq_true.mp h3 j hj
        simpa using this
    exact ⟨hh, t_truth hh (truth_e (.lc e g it c own scx p) rfl)⟩
theorem sndBop : ∀ (o : BoolOp) (es : Es) (p : Pos) (X : Cx) (G : Good Γ C k X), wfEs Γ X.N X.env.scope X.fn es = true → 0 < es.len → PE X (.BoolOp o (embEs es) p) (tD X.K (evBop C o es)) ∧ PT X (.BoolOp o (embEs es) p) (tDB X.K (evBB C o es))
  | o, .nil, p, X, G, h, hl => absurd hl (Nat.lt_irrefl 0)
  | o, .cons a .nil, p, X, G, h, hl => by
    obtain ⟨h1, h2⟩ := and2 (show (wfE Γ X.N X.env.scope X.fn a && wfEs Γ X.N X.env.scope X.fn .nil) = true from h)
    exact ⟨pe_one (sndE a X G h1).1, (w_one (sndE a X G h1).2).pt⟩
  | o, .cons a (.cons b r), p, X, G, h, hl => by
    obtain ⟨h1, h2⟩ := and2 (show (wfE Γ X.N X.env.scope X.fn a && wfEs Γ X.N X.env.scope X.fn (.cons b r)) = true from h)
    exact ⟨r_more (sndE a X G h1).1 (sndBop o (.cons b r) p X G h2 (Nat.succ_pos _)).1, (w_more (sndE a X G h1).2 (sndW o (.cons b r) p X G h2 (Nat.succ_pos _))).pt⟩
theorem sndW : ∀ (o : BoolOp) (es : Es) (p : Pos) (X : Cx) (G : Good Γ C k X), wfEs Γ X.N X.env.scope X.fn es = true → 0 < es.len → PW X (.BoolOp o (embEs es) p) (tDB X.K (evBB C o es))
  | o, .nil, p, X, G, h, hl => absurd hl (Nat.lt_irrefl 0)
  | o, .cons a .nil, p, X, G, h, hl => by
    obtain ⟨h1, h2⟩ := and2 (show (wfE Γ X.N X.env.scope X.fn a && wfEs Γ X.N X.env.scope X.fn .nil) = true from h)
    exact w_one (sndE a X G h1).2
  | o, .cons a (.cons b r), p, X, G, h, hl => by
    obtain ⟨h1, h2⟩ := and2 (show (wfE Γ X.N X.env.scope X.fn a && wfEs Γ X.N X.env.scope X.fn (.cons b r)) = true from h)
    exact w_more (sndE a X G h1).2 (sndW o (.cons b r) p X G h2 (Nat.succ_pos _))
theorem sndEs : ∀ (es : Es) (X : Cx) (G : Good Γ C k X), wfEs Γ X.N X.env.scope X.fn es = true → PA X (embEs es) (tDs X.K (evEs C es))
  | .nil, X, G, h => r_nil
  | .cons e r, X, G, h => by
    obtain ⟨h1, h2⟩ := and2 (show (wfE Γ X.N X.env.scope X.fn e && wfEs Γ X.N X.env.scope X.fn r) = true from h)
    exact r_cons (sndE e X G h1).1 (sndEs r X G h2) (star_e e _)
theorem sndKs : ∀ (es : Es) (ks : List Str) (kps : List Pos) (X : Cx) (G : Good Γ C k X), wfEs Γ X.N X.env.scope X.fn es = true → PK X (embKs ks kps es) (tDs X.K (evEs C es))
  | .nil, ks, kps, X, G, h => r_knil
  | .cons e r, ks, kps, X, G, h => by
    obtain ⟨h1, h2⟩ := and2 (show (wfE Γ X.N X.env.scope X.fn e && wfEs Γ X.N X.env.scope X.fn r) = true from h)
    exact r_kcons (sndE e X G h1).1 (sndKs r ks.tail kps.tail X G h2)
theorem sndEo : ∀ (eo : Eo) (X : Cx) (G : Good Γ C k X), wfEo Γ X.N X.env.scope X.fn eo = true → PO X (embEo eo) (tDo X.K (evEo C eo)) ∧ PTs X (embIf eo) (tDB X.K (evIf C eo))
  | .none, X, G, h => ⟨o_none, ts_none⟩
  | .some e, X, G, h => ⟨o_some (sndE e X G h).1, pts_one (sndE e X G h).2⟩
theorem sndI : ∀ (it : I) (X : Cx) (G : Good Γ C k X) (g : Mi.G), wfI Γ X.N X.env.scope X.fn (isTp g) it = true → PI X (embG g) (embI it) (tI X.K (evI C it))
  | .ex e, X, G, g, h => r_seq (sndE e X G h).1
  | .rng1 a q p, X, G, g, h => by
    obtain ⟨h1, h2⟩ := and2 (show (glB X.env.scope "range" && wfE Γ X.N X.env.scope X.fn a) = true from h)
    exact r_rng1 (gl_of h1).1 (G.blt _ (by decide)) (sndE a X G h2).1 (star_e a [])
  | .rng2 a b q p, X, G, g, h => by
    obtain ⟨h1, h2, h3⟩ := and3 (show (glB X.env.scope "range" && wfE Γ X.N X.env.scope X.fn a && wfE Γ X.N X.env.scope X.fn b) = true from h)
    exact r_rng2 (gl_of h1).1 (G.blt _ (by decide)) (sndE a X G h2).1 (sndE b X G h3).1 (by rw [star_e, star_e]; rfl) (star_e b [])
  | .rng3 a b c q p, X, G, g, h => by
    obtain ⟨h12, h3⟩ := and2 (show (glB X.env.scope "range" && wfE Γ X.N X.env.scope X.fn a && wfE Γ X.N X.env.scope X.fn b && wfE Γ X.N X.env.scope X.fn c) = true from h)
    obtain ⟨h1, h2, h4⟩ := and3 h12
    exact r_rng3 (gl_of h1).1 (G.blt _ (by decide)) (sndE a X G h2).1 (sndE b X G h4).1 (sndE c X G h3).1 (star_e a) (star_e b) (star_e c)
  | .enm e q p, X, G, g, h => by
    obtain ⟨h1, h2, h3⟩ := and3 (show (isTp g && glB X.env.scope "enumerate" && wfE Γ X.N X.env.scope X.fn e) = true from h)
    cases g with
    | tp gs n tp => exact r_enm (gl_of h2).1 (G.blt _ (by decide)) (sndE e X G h3).1 (star_e e [])
    | nm i x pp => cases h1
    | sb o i pp => cases h1
theorem sndG : ∀ (g : Mi.G) (X : Cx) (G : Good Γ C k X), wfG Γ X.N X.env.scope X.fn g = true → PG X (embG g) (tG X.K (slots g) (evG C g))
  | .nm i x p, X, G, h => by
    obtain ⟨h1, h2⟩ := and2 (show (decide (X.N[i]? = some x) && locB X.env.scope X.fn x) = true from h)
    exact g_nm G.nd (of_decide_eq_true h1) (loc_of h2).1 (loc_of h2).2
  | .tp gs n p, X, G, h => g_tp (n := gs.len) G.calm (sndGs gs X G h) (asgE_len gs) (asgE_star gs) (fun ds σ S r e => evGs_len C gs ds σ S r e)
  | .sb o i p, X, G, h => by
    obtain ⟨h1, h2⟩ := and2 (show (wfE Γ X.N X.env.scope X.fn o && wfE Γ X.N X.env.scope X.fn i) = true from h)
    exact g_sb G.u1 (sndE o X G h1).1 (sndE i X G h2).1 (asg_sb o i p)
theorem sndGs : ∀ (gs : Gs) (X : Cx) (G : Good Γ C k X), wfGs Γ X.N X.env.scope X.fn gs = true → PGs X (embGs gs) (tGs X.K (slotsL gs) (evGs C gs))
  | .nil, X, G, h => gs_nil
  | .cons g r, X, G, h => by
    obtain ⟨h1, h2⟩ := and2 (show (wfG Γ X.N X.env.scope X.fn g && wfGs Γ X.N X.env.scope X.fn r) = true from h)
    exact gs_cons (sndG g X G h1) (sndGs r X G h2) (by rw [asgE_g]; rfl)
end
end
end Mi

end

section
/-! Mi10: statements are sound. -/
namespace Mi
open PySem PySem.Spec L2
theorem sw_of {env : Env} {ts vs : List Expr} {k k' : Nat} {p p' : Pos} {r : Option (List Str)} (h : swKind env.scope ts vs = some r) : swappedStores [.Tuple ts k p] (.Tuple vs k' p') env = pure r := by
  have e : swappedStores [.Tuple ts k p] (.Tuple vs k' p') env = swappedStores [.Tuple ts 0 ⟨0, 0, 0, 0⟩] (.Tuple vs 0 ⟨0, 0, 0, 0⟩) { scope := env.scope, locals := 0, globals := 0, cells := [] } := rfl
  rw [e]
  unfold swKind at h
  split at h
  · rename_i q hq
    cases h
    exact hq
  · cases h
theorem loc_is {sc : Scope} {x : Str} (h : isLocal sc x = true) : sc.names.lookup x = some .local := by
  unfold isLocal at h
  split at h
  · assumption
  · cases h
section
variable {X : Cx} {p : Pos}
theorem s_par2 {C : Orc} {i j : Nat} {x y : Str} {a b : Expr} {px py pt : Pos} {kt k2 pt2} {fs : StD → Store → Option (List D × Store)} (hc : X.calm = true) (hN : X.N.Nodup) (hi : X.N[i]? = some x) (hj : X.N[j]? = some y) (hij : i ≠ j)
    (hx : X.env.scope.names.lookup x = some .local) (hy : X.env.scope.names.lookup y = some .local) (ha : PA X [a, b] (tDs X.K fs))
    (hw : swappedStores [.Tuple [.Name x px, .Name y py] kt pt] (.Tuple [a, b] k2 pt2) X.env = pure (some [x, y])) :
    PS X (.Assign [.Tuple [.Name x px, .Name y py] kt pt] (.Tuple [a, b] k2 pt2) p) (tT X.K (asgT (fun σ S => bnd (fs σ S) fun ds S1 => if ds.length ≤ sizeLine then some (.tup ds, S1) else none) (evG C (.tp (.cons (.nm i x px) (.cons (.nm j y py) .nil)) kt pt)))) :=
  (ps_par hc hN hi hj hij hx hy ha hw rfl).imp fun En σ H ⟨ρ, σD, S, r, S', cc, e, k⟩ => by
    obtain ⟨d, S1, e1, e2⟩ := bnd_eq e
    obtain ⟨σ1, S2, e3, e4⟩ := bnd_eq e2
    obtain ⟨ds, S3, e5, e6⟩ := bnd_eq e1
    obtain ⟨rfl, rfl⟩ := inj2 e4
    split at e6
    · obtain ⟨rfl, rfl⟩ := inj2 e6
      match ds, e3 with
      | [], e3 => cases e3
      | [_], e3 => cases e3
      | _ :: _ :: _ :: _, e3 => cases e3
      | [d1, d2], e3 =>
        obtain ⟨rfl, rfl⟩ := inj2 (show some ((σD.set i (some d1)).set j (some d2), S3) = some (σ1, S2) from e3)
        refine ⟨ρ, σD, S, _, _, cc, e5, fun vs H1 ρ1 x1 h1 r1 => ?_⟩
        obtain ⟨v, w, rfl, rv, rw'⟩ := repL2 r1
        exact ⟨v, w, rfl, k _ H1 ρ1 x1 (((cc.ext x1 h1).set i rv).set j rw')⟩
    · cases e6
theorem repL3 {K : PySem.W.Frag} {H : Hp} {ρ : List Addr} {d e f : D} {xs : List V} (r : RepL K H ρ [d, e, f] xs) : ∃ v w u, xs = [v, w, u] ∧ Rep K H ρ d v ∧ Rep K H ρ e w ∧ Rep K H ρ f u := by
  obtain ⟨v, r', rfl, h1, h2⟩ := r
  obtain ⟨w, u, rfl, h3, h4⟩ := repL2 h2
  exact ⟨v, w, u, rfl, h1, h3, h4⟩
theorem s_par3 {C : Orc} {i j l : Nat} {x y z : Str} {a b c : Expr} {px py pz pt : Pos} {kt k2 pt2} {fs : StD → Store → Option (List D × Store)} (hc : X.calm = true) (hN : X.N.Nodup) (hi : X.N[i]? = some x) (hj : X.N[j]? = some y) (hl : X.N[l]? = some z) (hij : i ≠ j) (hil : i ≠ l) (hjl : j ≠ l)
    (hx : X.env.scope.names.lookup x = some .local) (hy : X.env.scope.names.lookup y = some .local) (hz : X.env.scope.names.lookup z = some .local) (ha : PA X [a, b, c] (tDs X.K fs))
    (hw : swappedStores [.Tuple [.Name x px, .Name y py, .Name z pz] kt pt] (.Tuple [a, b, c] k2 pt2) X.env = pure (some [x, y, z])) :
    PS X (.Assign [.Tuple [.Name x px, .Name y py, .Name z pz] kt pt] (.Tuple [a, b, c] k2 pt2) p) (tT X.K (asgT (fun σ S => bnd (fs σ S) fun ds S1 => if ds.length ≤ sizeLine then some (.tup ds, S1) else none) (evG C (.tp (.cons (.nm i x px) (.cons (.nm j y py) (.cons (.nm l z pz) .nil))) kt pt)))) :=
  (ps_par3 hc hN hi hj hl hij hil hjl hx hy hz ha hw rfl).imp fun En σ H ⟨ρ, σD, S, r, S', cc, e, k⟩ => by
    obtain ⟨d, S1, e1, e2⟩ := bnd_eq e
    obtain ⟨σ1, S2, e3, e4⟩ := bnd_eq e2
    obtain ⟨ds, S3, e5, e6⟩ := bnd_eq e1
    obtain ⟨rfl, rfl⟩ := inj2 e4
    split at e6
    · obtain ⟨rfl, rfl⟩ := inj2 e6
      match ds, e3 with
      | [], e3 => cases e3
      | [_], e3 => cases e3
      | [_, _], e3 => cases e3
      | _ :: _ :: _ :: _ :: _, e3 => cases e3
      | [d1, d2, d3], e3 =>
        obtain ⟨rfl, rfl⟩ := inj2 (show some (((σD.set i (some d1)).set j (some d2)).set l (some d3), S3) = some (σ1, S2) from e3)
        refine ⟨ρ, σD, S, _, _, cc, e5, fun vs H1 ρ1 x1 h1 r1 => ?_⟩
        obtain ⟨v, w, u, rfl, rv, rw', ru⟩ := repL3 r1
        exact ⟨v, w, u, rfl, k _ H1 ρ1 x1 ((((cc.ext x1 h1).set i rv).set j rw').set l ru)⟩
    · cases e6
end
theorem swaps_plain {env : Env} {l : Nat} (t : Option Expr) (e : E) (h : (!isLc e) = true) : swapsWith (embE e) t l env = pure false := by
  cases e <;> first | rfl | (cases h)
theorem swapped_no {env : Env} (g : G) (e : E) (h : (match g, e with | .tp .., .tup .. => false | _, _ => true) = true) : swappedStores [embG g] (embE e) env = pure none := by
  cases g <;> cases e <;> first | rfl | (cases h)
section
variable {Γ : Tab} {C : Orc} {k : Nat}
theorem sndAsg (g : G) (e : E) (p : Pos) (X : Cx) (G : Good Γ C k X) (hf : X.fn = fun _ => true) (hg : wfG Γ X.N X.env.scope (fun _ => true) g = true) (he : wfE Γ X.N X.env.scope (fun _ => true) e = true) (hk : asgOk X.env.scope g e = true) :
    PS X (.Assign [embG g] (embE e) p) (tT X.K (asgT (ev C e).e (evG C g))) := by
  have hg' : PG X (embG g) (tG X.K (slots g) (evG C g)) := sndG g X G (by rw [hf]; exact hg)
  have he' : PE X (embE e) (tD X.K (ev C e).e) := (sndE e X G (by rw [hf]; exact he)).1
  have one : (assignEach [embG g] X.env).map (·.2) = [assign (embG g) X.env] := by rw [asgE_g]; rfl
  have plainCase : swapsWith (embE e) (some (embG g)) p.line X.env = pure false → swappedStores [embG g] (embE e) X.env = pure none → PS X (.Assign [embG g] (embE e) p) (tT X.K (asgT (ev C e).e (evG C g))) := fun h1 h2 => s_asg he' hg' h1 h2 one
  cases e with
  | lc el gg it c own scx q =>
    cases g with
    | nm i x px =>
      obtain ⟨h1, h2⟩ := and2 (show (decide (X.N[i]? = some x) && locB X.env.scope (fun _ => true) x) = true from hg)
      have sw : swapsWith (embE (.lc el gg it c own scx q)) (some (.Name x px)) p.line X.env = pure (X.env.blockKind == .function && X.env.kindOf x == some .local && px.line == q.line && !(scx.names.any fun (n, k) => n == x && (k == .local || k == .cell))) := rfl
      by_cases b : (X.env.blockKind == .function && X.env.kindOf x == some .local && px.line == q.line && !(scx.names.any fun (n, k) => n == x && (k == .local || k == .cell))) = true
      · rw [b] at sw
        have hl : X.env.scope.names.lookup x = some .local := by
          simp only [Bool.and_eq_true, beq_iff_eq] at b
          exact b.1.1.2
        obtain ⟨h1234, h5, h6⟩ := and3 (show (wfI Γ X.N X.env.scope (fun _ => true) (isTp gg) it && blkC X.N X.env.scope scx own && (slots gg).all (fun j => (own.map (·.2)).contains j) &&
          wfG Γ X.N (relab X.env.scope scx) (fun x => scx.names.lookup x == some .cell) gg && wfEo Γ X.N (relab X.env.scope scx) (fun x => scx.names.lookup x == some .cell) c && wfE Γ X.N (relab X.env.scope scx) (fun x => scx.names.lookup x == some .cell) el) = true from he)
        obtain ⟨h12, h3, h4⟩ := and3 h1234
        obtain ⟨h7, h8⟩ := and2 h12
        have ok := blkOk_by h8
        have hsl : ∀ j, j ∈ slots gg → j ∈ own.map (·.2) := fun j hj => by
          have := List.all_eq_true.mp h3 j hj
          simpa using this
        have base := ps_setLc (wi := tI X.K (evI C it)) (g := tG X.K (slots gg) (evG C gg)) (tt := tDB X.K (evIf C c)) (te := tD X.K (ev C el).e) (spos := p) G.calm G.nd (of_decide_eq_true h1) hl sw (sndI it X G gg (by rw [hf]; exact h7)) ok (fun s H C' cl fp => sndG gg _ (G.blk ok.kind s H C' cl fp) h4) (fun s H C' cl fp => (sndEo c _ (G.blk ok.kind s H C' cl fp) h5).2)
          (fun s H C' cl fp => (sndE el _ (G.blk ok.kind s H C' cl fp) h6).1) (folded_i it)
        refine base.imp fun En σ H h => ?_
        have h := asg_ok (sl := [i]) h
        have hh : tD X.K (ev C (.lc el gg it c own scx q)).e σ H (fun x H1 => gName i x σ H1 En.nx) := by
          obtain ⟨ρ, σD, S, d, S', cc, e1, kk⟩ := h
          refine ⟨ρ, σD, S, d, S', cc, e1, fun v H' ρ' x' h' r' => ?_⟩
          obtain ⟨ρ2, σ2, S2, d2, σE, S3, c2, r2, e2, k2⟩ := kk v H' ρ' x' h' r'
          obtain ⟨rfl, rfl⟩ := inj2 (show some (σ2.set i (some d2), S2) = some (σE, S3) from e2)
          exact k2 _ H' ρ2 ⟨by simp, fun j hj => by rw [List.getElem?_set_ne]; intro z; exact hj (by simp [z])⟩ Ext.refl (c2.set i r2)
        exact lc_ok (vs := own.map (·.2)) hsl hh
      · have b' : (X.env.blockKind == .function && X.env.kindOf x == some .local && px.line == q.line && !(scx.names.any fun (n, k) => n == x && (k == .local || k == .cell))) = false := eq_false_of_ne_true b
        rw [b'] at sw
        exact plainCase sw rfl
    | tp gs n pp => exact plainCase rfl rfl
    | sb o i pp => exact plainCase rfl rfl
  | tup es n q =>
    cases g with
    | tp gs m pp =>
      have hk' : asgOk X.env.scope (.tp gs m pp) (.tup es n q) = true := hk
      unfold asgOk at hk'
      dsimp only at hk'
      split at hk'
      · rename_i hs
        exact plainCase rfl (sw_of hs)
      · rename_i ns hs
        have sw := sw_of (k := m) (k' := n) (p := pp) (p' := q) hs
        split at hk'
        · rename_i i x px j y py
          simp only [Bool.and_eq_true, decide_eq_true_eq] at hk'
          obtain ⟨⟨⟨⟨e1, e2⟩, e3⟩, e4⟩, e5⟩ := hk'
          subst e1
          obtain ⟨w1, w2⟩ := and2 (show (wfG Γ X.N X.env.scope (fun _ => true) (.nm i x px) && wfGs Γ X.N X.env.scope (fun _ => true) (.cons (.nm j y py) .nil)) = true from hg)
          obtain ⟨w3, w4⟩ := and2 (show (wfG Γ X.N X.env.scope (fun _ => true) (.nm j y py) && wfGs Γ X.N X.env.scope (fun _ => true) .nil) = true from w2)
          obtain ⟨n1, _⟩ := and2 (show (decide (X.N[i]? = some x) && locB X.env.scope (fun _ => true) x) = true from w1)
          obtain ⟨n2, _⟩ := and2 (show (decide (X.N[j]? = some y) && locB X.env.scope (fun _ => true) y) = true from w3)
          have ha := sndEs es X G (by rw [hf]; exact he)
          match es, e5, ha, sw, he' with
          | .cons a (.cons b .nil), _, ha, sw, he' => exact s_par2 (C := C) G.calm G.nd (of_decide_eq_true n1) (of_decide_eq_true n2) e4 (loc_is e2) (loc_is e3) ha sw
        · rename_i i x px j y py l z pz
          simp only [Bool.and_eq_true, decide_eq_true_eq] at hk'
          obtain ⟨⟨⟨⟨⟨⟨⟨e1, e2⟩, e3⟩, e4⟩, e5⟩, e6⟩, e7⟩, e8⟩ := hk'
          subst e1
          obtain ⟨w1, w2⟩ := and2 (show (wfG Γ X.N X.env.scope (fun _ => true) (.nm i x px) && wfGs Γ X.N X.env.scope (fun _ => true) (.cons (.nm j y py) (.cons (.nm l z pz) .nil))) = true from hg)
          obtain ⟨w3, w4⟩ := and2 (show (wfG Γ X.N X.env.scope (fun _ => true) (.nm j y py) && wfGs Γ X.N X.env.scope (fun _ => true) (.cons (.nm l z pz) .nil)) = true from w2)
          obtain ⟨w5, w6⟩ := and2 (show (wfG Γ X.N X.env.scope (fun _ => true) (.nm l z pz) && wfGs Γ X.N X.env.scope (fun _ => true) .nil) = true from w4)
          obtain ⟨n1, _⟩ := and2 (show (decide (X.N[i]? = some x) && locB X.env.scope (fun _ => true) x) = true from w1)
          obtain ⟨n2, _⟩ := and2 (show (decide (X.N[j]? = some y) && locB X.env.scope (fun _ => true) y) = true from w3)
          obtain ⟨n3, _⟩ := and2 (show (decide (X.N[l]? = some z) && locB X.env.scope (fun _ => true) z) = true from w5)
          have ha := sndEs es X G (by rw [hf]; exact he)
          match es, e8, ha, sw, he' with
          | .cons a (.cons b (.cons c .nil)), _, ha, sw, he' => exact s_par3 (C := C) G.calm G.nd (of_decide_eq_true n1) (of_decide_eq_true n2) (of_decide_eq_true n3) e5 e6 e7 (loc_is e2) (loc_is e3) (loc_is e4) ha sw
        · cases hk'
      · cases hk'
    | nm i x px => exact plainCase rfl rfl
    | sb o i pp => exact plainCase rfl rfl
  | _ => exact plainCase (swaps_plain _ _ rfl) (swapped_no g _ (by cases g <;> rfl))
mutual
theorem sndT : ∀ (t : T) (X : Cx) (G : Good Γ C k X), X.fn = (fun _ => true) → wfT Γ X.N X.env.scope t = true → PS X (embT t) (tT X.K (evT C t))
  | .asg g e p, X, G, hf, h => by
    obtain ⟨h1, h2, h3⟩ := and3 (show (wfG Γ X.N X.env.scope (fun _ => true) g && wfE Γ X.N X.env.scope (fun _ => true) e && asgOk X.env.scope g e) = true from h)
    exact sndAsg g e p X G hf h1 h2 h3
  | .aug i x o e q p, X, G, hf, h => by
    obtain ⟨h1, h2, h3⟩ := and3 (show (decide (X.N[i]? = some x) && locB X.env.scope (fun _ => true) x && wfE Γ X.N X.env.scope (fun _ => true) e) = true from h)
    exact s_aug G.nd (of_decide_eq_true h1) (loc_of h2).1 (sndE e X G (by rw [hf]; exact h3)).1 (by rw [hf]; exact .inl rfl)
  | .ex e p, X, G, hf, h => by
    obtain ⟨h1, h2⟩ := and2 (show (!isLc e && wfE Γ X.N X.env.scope (fun _ => true) e) = true from h)
    exact s_ex (sndE e X G (by rw [hf]; exact h2)).1 (swaps_plain _ e h1)
  | .ret e p, X, G, hf, h => s_ret (sndE e X G (by rw [hf]; exact h)).1
  | .retN p, X, G, hf, h => s_retN
  | .iff c a b p, X, G, hf, h => by
    obtain ⟨h1, h2, h3⟩ := and3 (show (wfE Γ X.N X.env.scope (fun _ => true) c && wfTs Γ X.N X.env.scope a && wfTs Γ X.N X.env.scope b) = true from h)
    exact s_iff (sndE c X G (by rw [hf]; exact h1)).2 (sndTs a X G hf h2) (sndTs b X G hf h3)
  | .fr g it b p, X, G, hf, h => by
    obtain ⟨h1, h2, h3⟩ := and3 (show (wfI Γ X.N X.env.scope (fun _ => true) (isTp g) it && wfG Γ X.N X.env.scope (fun _ => true) g && wfTs Γ X.N X.env.scope b) = true from h)
    exact s_for (by rw [G.xe]; exact PassesOwn.never) G.calm (sndI it X G g (by rw [hf]; exact h1)) (sndG g X G (by rw [hf]; exact h2)) (sndTs b X G hf h3) (folded_i it)
  | .whl c b p, X, G, hf, h => by
    obtain ⟨h1, h2⟩ := and2 (show (wfE Γ X.N X.env.scope (fun _ => true) c && wfTs Γ X.N X.env.scope b) = true from h)
    exact s_whl (by rw [G.xe]; exact PassesOwn.never) (sndE c X G (by rw [hf]; exact h1)).2 (sndTs b X G hf h2) turns
  | .brk p, X, G, hf, h => s_brk
  | .cnt p, X, G, hf, h => s_cnt
  | .pas p, X, G, hf, h => s_pas
  | .nev s, X, G, hf, h => s_nev
theorem sndTs : ∀ (ts : Ts) (X : Cx) (G : Good Γ C k X), X.fn = (fun _ => true) → wfTs Γ X.N X.env.scope ts = true → PSs X (embTs ts) (tT X.K (evTs C ts))
  | .nil, X, G, hf, h => tsx_nil
  | .cons t r, X, G, hf, h => by
    obtain ⟨h1, h2⟩ := and2 (show (wfT Γ X.N X.env.scope t && wfTs Γ X.N X.env.scope r) = true from h)
    exact tsx_cons (sndT t X G hf h1) (sndTs r X G hf h2)
end
end
end Mi

end

section
/-! Mi11: a table of defs, what calling them is worth, every def keeps it. -/
namespace Mi
open PySem PySem.Spec L2
structure Def where
  nm : Str
  ps : List Str
  dfs : List D
  N : List Str
  sc : Scope
  body : Ts
  /-- calls with keywords: how many by position, the names, the order -/
  kws : List (Nat × List Str × List Nat)
def Def.full (d : Def) (as : List D) : List D := as ++ d.dfs.drop (as.length + d.dfs.length - d.ps.length)
def outD (S : Store) : Option (Fl × Store) → Option (D × Store)
  | some (.ret v, S') => some (gc S v S')
  | some (.next _, S') => some (gc S .non S')
  | _ => none
def startD (N : List Str) (vs : List D) : StD := vs.map some ++ List.replicate (N.length - vs.length) none
noncomputable def runFull (C : Orc) (d : Def) (vs : List D) (S : Store) : Option (D × Store) :=
  if vs.length = d.ps.length then outD S (evTs C d.body (startD d.N vs) S) else none
noncomputable def runDef (C : Orc) (d : Def) (as : List D) (S : Store) : Option (D × Store) := runFull C d (d.full as) S
noncomputable def orc (defs : List Def) : Nat → Orc
  | 0 => fun _ _ _ => none
  | k + 1 => fun n as S => match defs[n]? with
    | some d => runDef (orc defs k) d as S
    | none => none
def tabOf (defs : List Def) (gl : List (Str × Int)) (tp : List (Str × List D)) : Tab where
  cal f n m := match defs[n]? with
    | some d => d.nm == f && decide (d.ps.length ≤ m + d.dfs.length) && decide (m ≤ d.ps.length)
    | none => false
  kal f n m ks pm := match defs[n]? with
    | some d => d.nm == f && decide ((m, ks, pm) ∈ d.kws) && decide ((pick pm (List.range (m + ks.length))).length = d.ps.length)
    | none => false
  fnv x := defs.any fun d => d.nm == x
  glo x := gl.lookup x
  tup x := tp.lookup x
def DefOk (K : PySem.W.Frag) (mg : Str → Option Value) (d : Def) : Prop :=
  ∃ (fn : Str) (fa : Addr) (fd : FuncData) (params : Arguments) (dvs : List V), mg d.nm = some (.ref fa) ∧ FunD K fn fn params (embTs d.body) d.sc dvs [] fa fd ∧ FnScope d.N d.ps d.sc ∧ (∀ H ρ, RepL K H ρ d.dfs dvs) ∧
    (∀ m, d.ps.length ≤ m + d.dfs.length → m ≤ d.ps.length → ∃ ds, Vals (dvs.drop (m + d.dfs.length - d.ps.length)) ds ∧ Binds K fd d.ps ds) ∧
    (∀ m ks pm, (m, ks, pm) ∈ d.kws → KBn K fd d.ps m ks (fun us ws => pick pm (us ++ ws)) (fun vs zs => pick pm (vs ++ zs))) ∧ fa = He.ga K d.nm
theorem pick_len {α β : Type} (pm : List Nat) {vs : List α} {ws : List β} (h : vs.length = ws.length) : (pick pm vs).length = (pick pm ws).length := by
  induction pm with
  | nil => rfl
  | cons i pm ih =>
    unfold pick at ih ⊢
    rw [List.filterMap_cons, List.filterMap_cons]
    by_cases hi : i < vs.length
    · rw [List.getElem?_eq_getElem hi, List.getElem?_eq_getElem (h ▸ hi)]
      dsimp only
      rw [List.length_cons, List.length_cons, ih]
    · rw [List.getElem?_eq_none (by omega), List.getElem?_eq_none (by omega)]
      exact ih
theorem vals_pick (pm : List Nat) {vs : List V} {us : List Value} (r : Vals vs us) : Vals (pick pm vs) (pick pm us) := by
  induction pm with
  | nil => exact .nil
  | cons i pm ih =>
    unfold pick at ih ⊢
    rw [List.filterMap_cons, List.filterMap_cons]
    cases h : vs[i]? with
    | none => rw [r.none_of h]; exact ih
    | some v =>
      obtain ⟨u, hu, ru⟩ := r.get h
      rw [hu]
      exact .cons ru ih
section
variable {K : PySem.W.Frag} {x qual : Str} {params : Arguments} {body : List Stmt} {scope : Scope} {dvs : List V} {kws : List (Str × V)} {f : Addr} {fd : FuncData} {ps : List Str}
/-- keywords, with defaults behind -/
theorem kw_d (F : FunD K x qual params body scope dvs kws f fd) (m : Nat) (ks : List Str) (pm : List Nat) (hd : dvs ≠ [])
    (h : ∀ (T : Addr) (kV doc pmv : Value) (an : Option Addr) (cdv ct : Value) (us its ws : List Value), us.length = m → its.length = dvs.length → ws.length = ks.length →
      ∃ k, bindArgs (PySem.W.fnOf x qual params body scope (.ref T) kV doc pmv an cdv ct) ⟨us, ks.zip ws⟩ = seqItems? (.ref T) >>= k ∧ k (some its.toArray) = pure (ps.zip (pick pm (us ++ ws)))) : KBn K fd ps m ks (fun us ws => pick pm (us ++ ws)) (fun vs zs => pick pm (vs ++ zs)) := by
  obtain ⟨oc, od, dV, kV, doc, pmv, an, cdv, ct, osl, rfl, lk, hcd, hD, hK⟩ := F.ex
  rcases hD with ⟨e, _⟩ | ⟨_, T, o, its, n, rfl, lT, oT, rT⟩
  · exact absurd e hd
  · refine ⟨fun s us ws X l1 l2 => ?_, fun r1 r2 => vals_pick pm (r1.append r2)⟩
    obtain ⟨k, e1, e2⟩ := h T kV doc pmv an cdv ct us its ws l1 rT.length.symm l2
    refine BindsTo.of_looks fun M => ?_
    rw [e1]
    exact looks_items X lT oT (.of_pure e2)
/-- keywords, no defaults -/
theorem kw_n (F : FunD K x qual params body scope [] kws f fd) (m : Nat) (ks : List Str) (pm : List Nat)
    (h : ∀ (kV doc pmv : Value) (an : Option Addr) (cdv ct : Value) (us ws : List Value), us.length = m → ws.length = ks.length →
      bindArgs (PySem.W.fnOf x qual params body scope .none kV doc pmv an cdv ct) ⟨us, ks.zip ws⟩ = pure (ps.zip (pick pm (us ++ ws)))) : KBn K fd ps m ks (fun us ws => pick pm (us ++ ws)) (fun vs zs => pick pm (vs ++ zs)) := by
  obtain ⟨oc, od, dV, kV, doc, pmv, an, cdv, ct, osl, rfl, lk, hcd, hD, hK⟩ := F.ex
  rcases hD with ⟨_, rfl⟩ | ⟨e, _⟩
  · exact ⟨fun s us ws X l1 l2 => .of_eq (h kV doc pmv an cdv ct us ws l1 l2), fun r1 r2 => vals_pick pm (r1.append r2)⟩
  · exact absurd rfl e
end
theorem repL_app {K : PySem.W.Frag} {H : Hp} {ρ : List Addr} : ∀ {ds es : List D} {vs ws : List V}, RepL K H ρ ds vs → RepL K H ρ es ws → RepL K H ρ (ds ++ es) (vs ++ ws)
  | [], es, vs, ws, h, g => by
    have : vs = [] := h
    subst this; exact g
  | d :: r, es, vs, ws, h, g => by
    obtain ⟨v, t, rfl, h1, h2⟩ := h
    exact ⟨v, t ++ ws, rfl, h1, repL_app h2 g⟩
theorem repL_drop {K : PySem.W.Frag} {H : Hp} {ρ : List Addr} : ∀ (n : Nat) {ds : List D} {vs : List V}, RepL K H ρ ds vs → RepL K H ρ (ds.drop n) (vs.drop n)
  | 0, _, _, h => h
  | n + 1, [], vs, h => by
    have : vs = [] := h
    subst this; exact rfl
  | n + 1, d :: r, vs, h => by
    obtain ⟨v, t, rfl, h1, h2⟩ := h
    exact repL_drop n h2
theorem repL_at {K : PySem.W.Frag} {H : Hp} {ρ : List Addr} : ∀ {ds : List D} {vs : List V} (i : Nat) (d : D), RepL K H ρ ds vs → ds[i]? = some d → ∃ v, vs[i]? = some v ∧ Rep K H ρ d v
  | [], vs, i, d, h, e => by simp at e
  | x :: r, vs, 0, d, h, e => by
    obtain ⟨v, t, rfl, h1, h2⟩ := h
    have : x = d := by simpa using e
    subst this
    exact ⟨v, rfl, h1⟩
  | x :: r, vs, i + 1, d, h, e => by
    obtain ⟨v, t, rfl, h1, h2⟩ := h
    obtain ⟨u, e1, e2⟩ := repL_at i d h2 (by simpa using e)
    exact ⟨u, by simpa using e1, e2⟩
theorem cor_start {K : PySem.W.Frag} {H : Hp} {ρ : List Addr} {S : Store} {N : List Str} {ds : List D} {vs : List V} (hp : HRep K H ρ S) (h : RepL K H ρ ds vs) : Cor K H ρ (start N vs) (startD N ds) S := by
  have hl := h.length
  refine ⟨?_, fun i d e => ?_, hp⟩
  · simp only [L2.start, startD, List.length_append, List.length_map, List.length_replicate]; omega
  · unfold startD at e
    by_cases hi : i < ds.length
    · rw [List.getElem?_append_left (by simpa using hi)] at e
      rw [List.getElem?_map] at e
      cases h2 : ds[i]? with
      | none => rw [h2] at e; cases e
      | some x =>
        rw [h2] at e
        have : x = d := by simpa using e
        subst this
        obtain ⟨v, e1, e2⟩ := repL_at i x h h2
        refine ⟨v, ?_, e2⟩
        unfold L2.start
        rw [List.getElem?_append_left (by rw [List.length_map]; omega), List.getElem?_map, e1]; rfl
    · rw [List.getElem?_append_right (by simpa using Nat.le_of_not_lt hi)] at e
      rw [List.getElem?_replicate] at e
      split at e <;> cases e
theorem fv_ok {K : PySem.W.Frag} {mg : Str → Option Value} {defs : List Def} {gl : List (Str × Int)} {tp : List (Str × List D)} (hd : ∀ d ∈ defs, DefOk K mg d) : ∀ x, (tabOf defs gl tp).fnv x = true → mg x = some (.ref (He.ga K x)) := by
  intro x h
  obtain ⟨d, hm, e⟩ := List.any_eq_true.mp (show (defs.any fun d => d.nm == x) = true from h)
  obtain ⟨fn, fa, fd, params, dvs, g1, F, S, hr, hbn, hbk, rfl⟩ := hd d hm
  rw [← eq_of_beq e]
  exact g1
theorem fn_good {P : Program} {w : World} {K : PySem.W.Frag} {mg : Str → Option Value} {base : Heap} {Γ : Tab} {C : Orc} {k : Nat} {d : Def} {fn : Str} {fa : Addr} {fd : FuncData} {params : Arguments} {dvs : List V} (F : FunD K fn fn params (embTs d.body) d.sc dvs [] fa fd) (S : FnScope d.N d.ps d.sc)
    (hb : ∀ x ∈ bltNames, mg x = none) (hg : ∀ x i, Γ.glo x = some i → ∃ t, mg x = some (.int i t)) (ht : ∀ x ds, Γ.tup x = some ds → TupOk K mg x ds) (hw : wfTs Γ d.N d.sc d.body = true) (ih : ∀ f n m, Γ.cal f n m = true → CallOk P w K mg base C k f n m) (ihk : ∀ f n m ks pm, Γ.kal f n m ks pm = true → KCallOk P w K mg base C k f n m ks pm) (hv : ∀ x, Γ.fnv x = true → mg x = some (.ref (He.ga K x))) :
    FnOk P w K mg base CX0 (k + 1) fa fd d.ps (fun vs H Q _ => vs.length = d.ps.length ∧ liftN K (runFull C d) vs H Q) := by
  refine F.ok S (fun vs H Q E z => z.1) fun cdv A outer s H vs Q E hro ⟨hl, ρ, T, es, x, T', hp, hrep, ev, af⟩ => ?_
  refine ⟨tT K (evTs C d.body), PSs.nox (sndTs (Γ := Γ) (C := C) (k := k) d.body _ ⟨rfl, S.nd, rfl, hro, S.kind, hb, ih, ihk, hg, ht, hv⟩ rfl hw), ?_⟩
  unfold runFull at ev
  split at ev
  · cases er : evTs C d.body (startD d.N es) T with
    | none => rw [er] at ev; cases ev
    | some r =>
      obtain ⟨r, T2⟩ := r
      rw [er] at ev
      refine ⟨ρ, _, T, r, T2, cor_start hp hrep, er, ?_⟩
      cases r with
      | ret v =>
        have ev' : gc T v T2 = (x, T') := Option.some.inj ev
        refine fun v' H' ρ' x' h' r' => ?_
        obtain ⟨ρ2, y1, y2, y3⟩ := gc_ok hp x' h' r'
        rw [ev'] at y2 y3
        exact af v' H' ρ2 y1 y2 y3
      | next σ =>
        have ev' : gc T .non T2 = (x, T') := Option.some.inj ev
        refine fun σ' H' ρ' x' c' => ?_
        obtain ⟨ρ2, y1, y2, y3⟩ := gc_ok hp x' c'.hp (d := .non) (v := .non) rfl
        rw [ev'] at y2 y3
        exact af .non H' ρ2 y1 y2 y3
      | brk σ => cases ev
      | cnt σ => cases ev
  · cases ev
theorem defs_ok {P : Program} {w : World} {K : PySem.W.Frag} {mg : Str → Option Value} {base : Heap} {defs : List Def} {gl : List (Str × Int)} {tp : List (Str × List D)} (hd : ∀ d ∈ defs, DefOk K mg d) (hb : ∀ x ∈ bltNames, mg x = none)
    (hg : ∀ x i, gl.lookup x = some i → ∃ t, mg x = some (.int i t)) (ht : ∀ x ds, tp.lookup x = some ds → TupOk K mg x ds) (hw : ∀ d ∈ defs, wfTs (tabOf defs gl tp) d.N d.sc d.body = true) :
    ∀ (k : Nat), (∀ (f : Str) (n m : Nat), (tabOf defs gl tp).cal f n m = true → CallOk P w K mg base (orc defs k) k f n m) ∧ (∀ (f : Str) (n m : Nat) (ks : List Str) (pm : List Nat), (tabOf defs gl tp).kal f n m ks pm = true → KCallOk P w K mg base (orc defs k) k f n m ks pm)
  | 0 => by
    refine ⟨fun f n m h => ?_, fun f n m ks pm h => ?_⟩
    · unfold tabOf at h
      dsimp only at h
      cases e : defs[n]? with
      | none => rw [e] at h; cases h
      | some d =>
        rw [e] at h
        simp only [Bool.and_eq_true, decide_eq_true_eq, beq_iff_eq] at h
        obtain ⟨⟨rfl, h1⟩, h2⟩ := h
        obtain ⟨fn, fa, fd, params, dvs, g1, F, S, hr, hbn, hbk, -⟩ := hd d (List.mem_of_getElem? e)
        obtain ⟨ds, v1, b1⟩ := hbn m h1 h2
        refine ⟨fa, fd, d.ps, _, ds, fun _ _ _ _ => False, g1, F.kp, b1, v1, ⟨fun _ _ _ _ z => z.elim, fun _ _ _ _ _ _ _ _ _ _ _ _ _ z => z.elim⟩, fun vs H Q hl ⟨ρ, T, es, x, T', _, _, e, _⟩ => ?_⟩
        cases e
    · unfold tabOf at h
      dsimp only at h
      cases e : defs[n]? with
      | none => rw [e] at h; cases h
      | some d =>
        rw [e] at h
        simp only [Bool.and_eq_true, decide_eq_true_eq, beq_iff_eq] at h
        obtain ⟨⟨rfl, h1⟩, h2⟩ := h
        obtain ⟨fn, fa, fd, params, dvs, g1, F, S, hr, hbn, hbk, -⟩ := hd d (List.mem_of_getElem? e)
        refine ⟨fa, fd, d.ps, fun _ _ _ _ => False, g1, F.kp, hbk m ks pm h1, ⟨fun _ _ _ _ z => z.elim, fun _ _ _ _ _ _ _ _ _ _ _ _ _ z => z.elim⟩, fun vs hl => (pick_len pm (by rw [hl, List.length_range])).trans h2, fun vs H Q ⟨ρ, T, es, x, T', _, _, e, _⟩ _ => ?_⟩
        cases e
  | k + 1 => by
    obtain ⟨ih, ihk⟩ := defs_ok (P := P) (w := w) (base := base) hd hb hg ht hw k
    refine ⟨fun f n m h => ?_, fun f n m ks pm h => ?_⟩
    · unfold tabOf at h
      dsimp only at h
      cases e : defs[n]? with
      | none => rw [e] at h; cases h
      | some d =>
        rw [e] at h
        simp only [Bool.and_eq_true, decide_eq_true_eq, beq_iff_eq] at h
        obtain ⟨⟨rfl, h1⟩, h2⟩ := h
        have hm := List.mem_of_getElem? e
        obtain ⟨fn, fa, fd, params, dvs, g1, F, S, hr, hbn, hbk, -⟩ := hd d hm
        obtain ⟨ds, v1, b1⟩ := hbn m h1 h2
        refine ⟨fa, fd, d.ps, _, ds, fun vs H Q _ => vs.length = d.ps.length ∧ liftN K (runFull (orc defs k) d) vs H Q, g1, F.kp, b1, v1, ?_, ?_⟩
        · exact fn_good F S hb hg ht (hw d hm) ih ihk (fv_ok hd)
        · intro vs H Q hl ⟨ρ, T, es, x, T', hp, hrep, ev, af⟩
          have el := hrep.length
          have ed := (hr H ρ).length
          have ev2 : runFull (orc defs k) d (d.full es) T = some (x, T') := by
            have : orc defs (k + 1) n es T = runDef (orc defs k) d es T := by
              show (match defs[n]? with | some d => runDef (orc defs k) d es T | none => none) = _
              rw [e]
            rw [this] at ev; exact ev
          have hrep2 : RepL K H ρ (d.full es) (vs ++ dvs.drop (m + d.dfs.length - d.ps.length)) := by
            unfold Def.full
            have : es.length = m := by omega
            rw [this]
            exact repL_app hrep (repL_drop _ (hr H ρ))
          refine ⟨?_, ρ, T, _, x, T', hp, hrep2, ev2, af⟩
          have := hrep2.length
          unfold runFull at ev2
          split at ev2
          · omega
          · cases ev2
    · unfold tabOf at h
      dsimp only at h
      cases e : defs[n]? with
      | none => rw [e] at h; cases h
      | some d =>
        rw [e] at h
        simp only [Bool.and_eq_true, decide_eq_true_eq, beq_iff_eq] at h
        obtain ⟨⟨rfl, h1⟩, h2⟩ := h
        have hm := List.mem_of_getElem? e
        obtain ⟨fn, fa, fd, params, dvs, g1, F, S, hr, hbn, hbk, -⟩ := hd d hm
        refine ⟨fa, fd, d.ps, fun vs H Q _ => vs.length = d.ps.length ∧ liftN K (runFull (orc defs k) d) vs H Q, g1, F.kp, hbk m ks pm h1, fn_good F S hb hg ht (hw d hm) ih ihk (fv_ok hd), fun vs hl => (pick_len pm (by rw [hl, List.length_range])).trans h2, ?_⟩
        intro vs H Q ⟨ρ, T, es, x, T', hp, hrep, ev, af⟩ hl
        have el := hrep.length
        have ev2 : runFull (orc defs k) d es T = some (x, T') := by
          have : orc defs (k + 1) n es T = runDef (orc defs k) d es T := by
            show (match defs[n]? with | some d => runDef (orc defs k) d es T | none => none) = _
            rw [e]
          rw [this] at ev
          unfold runDef Def.full at ev
          rwa [List.drop_eq_nil_of_le (by omega), List.append_nil] at ev
        exact ⟨hl, ρ, T, _, x, T', hp, hrep, ev2, af⟩
def flatB : D → Value → Bool
  | .non, .none => true
  | .bl b, .bool c => b == c
  | .int i, .int j _ => decide (i = j)
  | .str x, .str y _ => decide (x = y)
  | _, _ => false
def flatsB : List D → List Value → Bool
  | [], [] => true
  | d :: ds, u :: us => flatB d u && flatsB ds us
  | _, _ => false
def vOf : D → V
  | .bl b => .bl b
  | .int i => .int i
  | .str x => .str x
  | _ => .non
theorem flatB_ok {d : D} {u : Value} (h : flatB d u = true) : RelV (vOf d) u ∧ ∀ (K : PySem.W.Frag) (H : Hp) (ρ : List Addr), Rep K H ρ d (vOf d) := by
  cases d with
  | non => cases u <;> first | (cases h; done) | exact ⟨rfl, fun _ _ _ => rfl⟩
  | bl b =>
    cases u with
    | bool c =>
      have e : b = c := by simpa [flatB] using h
      subst e
      exact ⟨rfl, fun _ _ _ => rfl⟩
    | _ => cases h
  | int i =>
    cases u with
    | int j t =>
      have e : i = j := of_decide_eq_true h
      subst e
      exact ⟨⟨t, rfl⟩, fun _ _ _ => rfl⟩
    | _ => cases h
  | str i =>
    cases u with
    | str j t =>
      have e : i = j := of_decide_eq_true h
      subst e
      exact ⟨⟨t, rfl⟩, fun _ _ _ => rfl⟩
    | _ => cases h
  | _ => cases u <;> cases h
theorem flatsB_ok : ∀ {ds : List D} {us : List Value}, flatsB ds us = true → Vals (ds.map vOf) us ∧ ∀ (K : PySem.W.Frag) (H : Hp) (ρ : List Addr), RepL K H ρ ds (ds.map vOf)
  | [], [], _ => ⟨.nil, fun _ _ _ => rfl⟩
  | [], _ :: _, h => by cases h
  | _ :: _, [], h => by cases h
  | d :: ds, u :: us, h => by
    have h1 : (flatB d u && flatsB ds us) = true := h
    rw [Bool.and_eq_true] at h1
    obtain ⟨a1, a2⟩ := flatB_ok h1.1
    obtain ⟨b1, b2⟩ := flatsB_ok h1.2
    exact ⟨.cons a1 b1, fun K H ρ => ⟨_, _, rfl, a2 K H ρ, b2 K H ρ⟩⟩
def tupB (K : PySem.W.Frag) (x : Str) (ds : List D) : Bool :=
  match PySem.W.nsIn K mainGlobals x with
  | some (some (.ref a)) => (match K.lookup a with
    | some ⟨.type n, none, .seq its _, _⟩ => n == "tuple" && decide (its.size ≤ sizeLine) && flatsB ds its.toList
    | _ => false)
  | _ => false
theorem tupB_ok {K : PySem.W.Frag} {h : Heap} {mg : Str → Option Value} (X : K.In h) (G : h.Ns mainGlobals mg) {x : Str} {ds : List D} (c : tupB K x ds = true) : TupOk K mg x ds := by
  unfold tupB at c
  split at c
  · rename_i a e
    split at c
    · rename_i n its m sl hk
      simp only [Bool.and_eq_true, beq_iff_eq, decide_eq_true_eq] at c
      obtain ⟨⟨rfl, c2⟩, c3⟩ := c
      obtain ⟨v1, v2⟩ := flatsB_ok c3
      exact ⟨a, ds.map vOf, PySem.W.mg_of X G e, ⟨_, its, m, hk, rfl, rfl, rfl, c2, v1⟩, fun H ρ => v2 K H ρ⟩
    · cases c
  · cases c
def tupsB (tp : List (Str × List D)) (K : PySem.W.Frag) : Bool := tp.all fun p => tupB K p.1 p.2
def obsX (n : Nat) (fa : List He.Fa) (fn : List He.DefD) (tp : List (Str × List D)) (g : Addr → Option Obj) : He.AlD × Bool := (He.obsDG n fa fn g, tupsB tp (He.frG g (He.asD g n)))
def hookX (n : Nat) (fa : List He.Fa) (fn : List He.DefD) (tp : List (Str × List D)) : PySem.W.Hook where
  α := He.AlD × Bool
  obs := fun s => obsX n fa fn tp s.heap.get?
  val := fun _ => (He.valD fn, true)
  says := fun _ h => ∃ K : PySem.W.Frag, K.In h ∧ He.SaysD fa fn K ∧ tupsB tp K = true
  of := fun _ _ e => ⟨_, He.frG_in, (Prod.mk.inj e).1, (Prod.mk.inj e).2⟩
  keeps := fun _ _ _ ⟨K, hK, c⟩ k => ⟨K, PySem.W.Frag.In.keeps hK k, c⟩
theorem obsX_eq {n : Nat} {fa : List He.Fa} {fn : List He.DefD} {tp : List (Str × List D)} {g : Addr → Option Obj} {s : Shared} (h : ∀ a, g a = s.heap.get? a) : obsX n fa fn tp g = (hookX n fa fn tp).obs s := by
  have e : g = s.heap.get? := funext h
  rw [e] <;> rfl
theorem repL_ints {K : PySem.W.Frag} {H : Hp} {ρ : List Addr} : ∀ ns : List Int, RepL K H ρ (ns.map D.int) (ns.map V.int)
  | [] => rfl
  | i :: r => ⟨_, _, rfl, rfl, repL_ints r⟩
theorem vals_drop0 {n : Nat} : Vals (List.drop n []) [] := by
  rw [List.drop_nil]; exact .nil

theorem SaysD_facts {fa : List He.Fa} {fn : List He.DefD} {K : PySem.W.Frag} (c : He.SaysD fa fn K) {f : He.Fa} (h : f ∈ fa) : f.ok K = true := by
  obtain ⟨i, e⟩ := List.getElem?_of_mem h
  exact c.fact i e
/-- the law's call: the script is a list that nobody writes -/
theorem entry {K : PySem.W.Frag} {H : Hp} {a : Addr} {ns : List Int} {C : Orc} {d : Def} (hO : Only H) (hS : SqL K H a (ns.map V.int)) (hp : d.ps.length = 1) {S' : Store} (h : runFull C d [.ro (ns.map D.int)] [] = some (.bl true, S')) :
    [V.ref a].length = d.ps.length ∧ liftN K (runFull C d) [.ref a] H (fun v _ => v = .bl true) := by
  refine ⟨hp.symm, [], [], [.ro (ns.map D.int)], _, _, ⟨rfl, .nil, fun n mo a e => by simp at e⟩, ⟨_, _, rfl, ⟨a, ns.map V.int, rfl, ?_, ?_⟩, rfl⟩, h, fun v H' ρ' _ _ r => r⟩
  · rcases hS with h | h
    · rcases h with h | ⟨o, h⟩
      · rcases hO a with e | ⟨o, xs, e⟩
        · rw [e] at h; cases h
        · rw [e] at h; cases h
      · exact .inl ⟨o, h⟩
    · exact .inr h
  · exact repL_ints ns
end Mi

end

section
/-! Mi12: plain facts about the evaluator. -/
namespace Mi
open PySem PySem.Spec L2
@[simp] theorem keepsOld_app : ∀ (S T : Store), keepsOld S (S ++ T) = true
  | [], _ => rfl
  | a :: r, T => by
    show ((MO.beq a a || MO.pure a) && keepsOld r (r ++ T)) = true
    rw [MO.beq_self, keepsOld_app r T]; rfl
@[simp] theorem keepsOld_self (S : Store) : keepsOld S S = true := by
  have := keepsOld_app S []
  rwa [List.append_nil] at this
theorem keepsOld_set : ∀ (S : Store) (n : Nat) (mo : MO) (T : Store), MO.pure mo = true → keepsOld S (S.set n mo ++ T) = true
  | [], _, _, _, _ => rfl
  | a :: r, 0, mo, T, h => by
    show ((MO.beq a mo || MO.pure mo) && keepsOld r (r ++ T)) = true
    rw [h, keepsOld_app]; simp
  | a :: r, n + 1, mo, T, h => by
    show ((MO.beq a a || MO.pure a) && keepsOld r (r.set n mo ++ T)) = true
    rw [MO.beq_self, keepsOld_set r n mo T h]; rfl
theorem keepsOld_set0 (S : Store) (n : Nat) (mo : MO) (h : MO.pure mo = true) : keepsOld S (S.set n mo) = true := by
  have := keepsOld_set S n mo [] h
  rwa [List.append_nil] at this
theorem gc_pure {S S' : Store} {d : D} (hk : keepsOld S S' = true) (hd : D.pure d = true) : gc S d S' = (d, S'.take S.length) := by
  unfold gc; rw [if_pos hk, if_pos hd]
theorem gc_self {S : Store} {d : D} (hd : D.pure d = true) : gc S d S = (d, S) := by rw [gc_pure (keepsOld_self S) hd, List.take_length]
theorem gc_app {S T : Store} {d : D} (hd : D.pure d = true) : gc S d (S ++ T) = (d, S) := by rw [gc_pure (keepsOld_app S T) hd, List.take_left]
theorem gc_same {S : Store} {d : D} : gc S d S = (d, S) := by
  unfold gc
  rw [if_pos (keepsOld_self S)]
  split
  · rw [List.take_length]
  · cases d with
    | loc m =>
      dsimp only
      split
      · rw [List.take_length]
      · rename_i h
        rw [List.getElem?_eq_none (by omega)]
    | _ => rfl
theorem gc_set {S : Store} {n : Nat} {mo : MO} {d : D} (hm : MO.pure mo = true) (hd : D.pure d = true) : gc S d (S.set n mo) = (d, S.set n mo) := by
  rw [gc_pure (keepsOld_set0 S n mo hm) hd, List.take_of_length_le (by rw [List.length_set]; exact Nat.le_refl _)]
theorem gc_setapp {S T : Store} {n : Nat} {mo : MO} {d : D} (hm : MO.pure mo = true) (hd : D.pure d = true) : gc S d (S.set n mo ++ T) = (d, S.set n mo) := by
  rw [gc_pure (keepsOld_set S n mo T hm) hd, ← List.length_set (i := n) (a := mo), List.take_left]
theorem gc_old {S T : Store} {m : Nat} (h : m < S.length) : gc S (.loc m) (S ++ T) = (.loc m, S) := by
  unfold gc
  rw [if_pos (keepsOld_app S T), if_neg (by simp [D.pure])]
  dsimp only
  rw [if_pos h, List.take_left]
theorem gc_old0 {S : Store} {m : Nat} (h : m < S.length) : gc S (.loc m) S = (.loc m, S) := by
  have := gc_old (T := []) h
  rwa [List.append_nil] at this
/-- a fresh pure thing goes to the end -/
theorem gc_fresh {S T : Store} {m : Nat} {mo : MO} (h : S.length ≤ m) (hm : (S ++ T)[m]? = some mo) (hp : MO.pure mo = true) : gc S (.loc m) (S ++ T) = (.loc S.length, S ++ [mo]) := by
  unfold gc
  rw [if_pos (keepsOld_app S T), if_neg (by simp [D.pure])]
  dsimp only
  rw [if_neg (by omega), hm]
  dsimp only
  rw [if_pos hp, List.take_left]
theorem gc_new {S : Store} {mo : MO} (hp : MO.pure mo = true) : gc S (.loc S.length) (S ++ [mo]) = (.loc S.length, S ++ [mo]) :=
  gc_fresh (Nat.le_refl _) (by simp) hp
theorem gc_dead {S T : Store} {m : Nat} {mo : MO} (h : S.length ≤ m) (hm : (S ++ T)[m]? = some mo) (hp : MO.pure mo = false) : gc S (.loc m) (S ++ T) = (.loc m, S ++ T) := by
  unfold gc
  rw [if_pos (keepsOld_app S T), if_neg (by simp [D.pure])]
  dsimp only
  rw [if_neg (by omega), hm]
  dsimp only
  rw [hp]; rfl
@[simp] theorem pure_int (i : Int) : D.pure (.int i) = true := rfl
@[simp] theorem pure_bl (b : Bool) : D.pure (.bl b) = true := rfl
@[simp] theorem pure_non : D.pure .non = true := rfl
@[simp] theorem pure_tup (ds : List D) : D.pure (.tup ds) = D.pureL ds := rfl
@[simp] theorem pureL_nil : D.pureL [] = true := rfl
@[simp] theorem pureL_cons (d : D) (r : List D) : D.pureL (d :: r) = (D.pure d && D.pureL r) := rfl
@[simp] theorem pure_lst (ds : List D) : MO.pure (.lst ds) = D.pureL ds := rfl
theorem pureL_map {α : Type} {f : α → D} : ∀ (l : List α), (∀ x ∈ l, D.pure (f x) = true) → D.pureL (l.map f) = true
  | [], _ => rfl
  | a :: r, h => by
    show (D.pure (f a) && D.pureL (r.map f)) = true
    rw [h a (List.mem_cons_self ..), pureL_map r fun x hx => h x (List.mem_cons_of_mem _ hx)]; rfl
/-- a comprehension whose turns leave the store -/
theorem lcD_pure {α : Type} {ok : Store → Bool} {g : D → Store → Option (StD × Store)} {c : StD → Store → Option (Bool × Store)} {e : StD → Store → Option (D × Store)} {S : Store} (inj : α → D) (p : α → Bool) (f : α → D) (hok : ok S = true) :
    ∀ (xs : List α) (acc : List D), (∀ x ∈ xs, ∃ σ, g (inj x) S = some (σ, S) ∧ c σ S = some (p x, S) ∧ (p x = true → e σ S = some (f x, S))) → acc.length + xs.length ≤ sizeLine →
      lcD ok g c e (xs.map inj) acc S = some (acc ++ (xs.filter p).map f, S)
  | [], acc, _, _ => by simp [lcD, hok]
  | x :: r, acc, h, hl => by
    obtain ⟨σ, h1, h2, h3⟩ := h x (List.mem_cons_self ..)
    have hr := fun acc hl => lcD_pure (e := e) inj p f hok r acc (fun y hy => h y (List.mem_cons_of_mem _ hy)) hl
    simp only [List.length_cons] at hl
    rw [List.map_cons, lcD, if_pos hok, h1]
    dsimp only
    rw [h2]
    cases hp : p x with
    | true =>
      dsimp only
      rw [h3 hp]
      dsimp only
      rw [if_pos (by omega), hr _ (by simp; omega), List.filter_cons, hp]
      simp
    | false =>
      dsimp only
      rw [hr _ (by omega), List.filter_cons, hp]
      simp

/-! ### running it, one step after another: only what comes first is looked at -/
theorem bnd_congr {α β : Type} {x y : Option (α × Store)} {f : α → Store → Option (β × Store)} (h : x = y) : bnd x f = bnd y f := by rw [h]
def seqF (x : Option (Fl × Store)) (k : StD → Store → Option (Fl × Store)) : Option (Fl × Store) :=
  match x with
  | some (.next σ, S) => k σ S
  | some (.brk σ, S) => some (.brk σ, S)
  | some (.cnt σ, S) => some (.cnt σ, S)
  | some (.ret d, S) => some (.ret d, S)
  | none => none
theorem seqF_congr {x y : Option (Fl × Store)} {k : StD → Store → Option (Fl × Store)} (h : x = y) : seqF x k = seqF y k := by rw [h]
theorem seqF_next {k : StD → Store → Option (Fl × Store)} {σ : StD} {S : Store} : seqF (some (.next σ, S)) k = k σ S := rfl
theorem seqF_brk {k : StD → Store → Option (Fl × Store)} {σ : StD} {S : Store} : seqF (some (.brk σ, S)) k = some (.brk σ, S) := rfl
theorem seqF_cnt {k : StD → Store → Option (Fl × Store)} {σ : StD} {S : Store} : seqF (some (.cnt σ, S)) k = some (.cnt σ, S) := rfl
theorem seqF_ret {k : StD → Store → Option (Fl × Store)} {d : D} {S : Store} : seqF (some (.ret d, S)) k = some (.ret d, S) := rfl
theorem ts_nil {C : Orc} {σ : StD} {S : Store} : evTs C .nil σ S = some (.next σ, S) := rfl
theorem ts_cons {C : Orc} {t : T} {r : Ts} {σ : StD} {S : Store} : evTs C (.cons t r) σ S = seqF (evT C t σ S) (fun σ1 S1 => evTs C r σ1 S1) := by
  show bnd (evT C t σ S) _ = _
  cases evT C t σ S with
  | none => rfl
  | some p => obtain ⟨f, S1⟩ := p; cases f <;> rfl
theorem out_ret {S S' : Store} {v : D} : outD S (some (.ret v, S')) = some (gc S v S') := rfl
theorem out_next {S S' : Store} {σ : StD} : outD S (some (.next σ, S')) = some (gc S .non S') := rfl
theorem ite_t {α : Type} {k l : Store → Option (α × Store)} {S : Store} : iteD k l true S = k S := rfl
theorem ite_f {α : Type} {k l : Store → Option (α × Store)} {S : Store} : iteD k l false S = l S := rfl
theorem bop_and_t {k : Store → Option (D × Store)} {S : Store} : bopD .And k (.bl true) S = k S := rfl
theorem bop_and_f {k : Store → Option (D × Store)} {S : Store} : bopD .And k (.bl false) S = some (.bl false, S) := rfl
theorem bop_or_t {k : Store → Option (D × Store)} {S : Store} : bopD .Or k (.bl true) S = some (.bl true, S) := rfl
theorem bop_or_f {k : Store → Option (D × Store)} {S : Store} : bopD .Or k (.bl false) S = k S := rfl
theorem bb_and_t {k : Store → Option (Bool × Store)} {S : Store} : bopB .And k true S = k S := rfl
theorem bb_and_f {k : Store → Option (Bool × Store)} {S : Store} : bopB .And k false S = some (false, S) := rfl
theorem bb_or_t {k : Store → Option (Bool × Store)} {S : Store} : bopB .Or k true S = some (true, S) := rfl
theorem bb_or_f {k : Store → Option (Bool × Store)} {S : Store} : bopB .Or k false S = k S := rfl
theorem slot_0 {x : D} {r : StD} : slotD (some x :: r) 0 = some x := rfl
theorem slot_s {x : Option D} {r : StD} {n : Nat} : slotD (x :: r) (n + 1) = slotD r n := rfl
theorem e_con {c : Const} {k : Nat} {p : Pos} {C : Orc} {σ : StD} {S : Store} : (ev C (.con c k p)).e σ S = opt (conD c) S := rfl
theorem b_con {c : Const} {k : Nat} {p : Pos} {C : Orc} {σ : StD} {S : Store} : (ev C (.con c k p)).b σ S = bnd ((ev C (.con c k p)).e σ S) fun d S1 => opt (truthD S1 d) S1 := rfl
theorem e_var {i : Nat} {x : Str} {p : Pos} {C : Orc} {σ : StD} {S : Store} : (ev C (.var i x p)).e σ S = opt (slotD σ i) S := rfl
theorem b_var {i : Nat} {x : Str} {p : Pos} {C : Orc} {σ : StD} {S : Store} : (ev C (.var i x p)).b σ S = bnd ((ev C (.var i x p)).e σ S) fun d S1 => opt (truthD S1 d) S1 := rfl
theorem e_glo {x : Str} {i : Int} {p : Pos} {C : Orc} {σ : StD} {S : Store} : (ev C (.glo x i p)).e σ S = some (.int i, S) := rfl
theorem b_glo {x : Str} {i : Int} {p : Pos} {C : Orc} {σ : StD} {S : Store} : (ev C (.glo x i p)).b σ S = bnd ((ev C (.glo x i p)).e σ S) fun d S1 => opt (truthD S1 d) S1 := rfl
theorem e_tup {es : Es} {k : Nat} {p : Pos} {C : Orc} {σ : StD} {S : Store} : (ev C (.tup es k p)).e σ S = bnd (evEs C es σ S) fun ds S1 => if ds.length ≤ sizeLine then some (.tup ds, S1) else none := rfl
theorem b_tup {es : Es} {k : Nat} {p : Pos} {C : Orc} {σ : StD} {S : Store} : (ev C (.tup es k p)).b σ S = bnd ((ev C (.tup es k p)).e σ S) fun d S1 => opt (truthD S1 d) S1 := rfl
theorem e_lst {es : Es} {p : Pos} {C : Orc} {σ : StD} {S : Store} : (ev C (.lst es p)).e σ S = bnd (evEs C es σ S) fun ds S1 => if ds.length ≤ sizeLine then some (.loc S1.length, S1 ++ [.lst ds]) else none := rfl
theorem b_lst {es : Es} {p : Pos} {C : Orc} {σ : StD} {S : Store} : (ev C (.lst es p)).b σ S = bnd ((ev C (.lst es p)).e σ S) fun d S1 => opt (truthD S1 d) S1 := rfl
theorem e_dct {p : Pos} {C : Orc} {σ : StD} {S : Store} : (ev C (.dct p)).e σ S = some (.loc S.length, S ++ [.dic []]) := rfl
theorem b_dct {p : Pos} {C : Orc} {σ : StD} {S : Store} : (ev C (.dct p)).b σ S = bnd ((ev C (.dct p)).e σ S) fun d S1 => opt (truthD S1 d) S1 := rfl
theorem e_op {o : Operator} {a b : E} {p : Pos} {C : Orc} {σ : StD} {S : Store} : (ev C (.op o a b p)).e σ S = bnd ((ev C a).e σ S) fun x S1 => bnd ((ev C b).e σ S1) fun y S2 => opD o x y S2 := rfl
theorem b_op {o : Operator} {a b : E} {p : Pos} {C : Orc} {σ : StD} {S : Store} : (ev C (.op o a b p)).b σ S = bnd ((ev C (.op o a b p)).e σ S) fun d S1 => opt (truthD S1 d) S1 := rfl
theorem e_neg {a : E} {p : Pos} {C : Orc} {σ : StD} {S : Store} : (ev C (.neg a p)).e σ S = bnd ((ev C a).e σ S) negD := rfl
theorem b_neg {a : E} {p : Pos} {C : Orc} {σ : StD} {S : Store} : (ev C (.neg a p)).b σ S = bnd ((ev C (.neg a p)).e σ S) fun d S1 => opt (truthD S1 d) S1 := rfl
theorem e_not {a : E} {p : Pos} {C : Orc} {σ : StD} {S : Store} : (ev C (.not a p)).e σ S = bnd ((ev C a).e σ S) notD := rfl
theorem b_not {a : E} {p : Pos} {C : Orc} {σ : StD} {S : Store} : (ev C (.not a p)).b σ S = bnd ((ev C a).b σ S) fun b S1 => some (!b, S1) := rfl
theorem e_bop {o : BoolOp} {es : Es} {p : Pos} {C : Orc} {σ : StD} {S : Store} : (ev C (.bop o es p)).e σ S = evBop C o es σ S := rfl
theorem b_bop {o : BoolOp} {es : Es} {p : Pos} {C : Orc} {σ : StD} {S : Store} : (ev C (.bop o es p)).b σ S = evBB C o es σ S := rfl
theorem e_cmp {o : CmpOp} {a b : E} {p : Pos} {C : Orc} {σ : StD} {S : Store} : (ev C (.cmp o a b p)).e σ S = bnd ((ev C a).e σ S) fun x S1 => bnd ((ev C b).e σ S1) fun y S2 => bnd (opt (cmpD o x y S2) S2) fun k S3 => some (gc S (.bl k) S3) := rfl
theorem b_cmp {o : CmpOp} {a b : E} {p : Pos} {C : Orc} {σ : StD} {S : Store} : (ev C (.cmp o a b p)).b σ S = bnd ((ev C a).e σ S) fun x S1 => bnd ((ev C b).e σ S1) fun y S2 => bnd (opt (cmpD o x y S2) S2) fun k S3 => some (k, (gc S (.bl k) S3).2) := rfl
theorem e_chn {o q : CmpOp} {a b c : E} {p : Pos} {C : Orc} {σ : StD} {S : Store} : (ev C (.chn o q a b c p)).e σ S = bnd ((ev C a).e σ S) fun x S1 => bnd ((ev C b).e σ S1) fun y S2 => bnd (opt (cmpD o x y S2) S2) (iteD (fun S3 => bnd ((ev C c).e σ S3) fun z S4 => opt ((cmpD q y z S4).map .bl) S4) (fun S3 => some (.bl false, S3))) := rfl
theorem b_chn {o q : CmpOp} {a b c : E} {p : Pos} {C : Orc} {σ : StD} {S : Store} : (ev C (.chn o q a b c p)).b σ S = bnd ((ev C a).e σ S) fun x S1 => bnd ((ev C b).e σ S1) fun y S2 => bnd (opt (cmpD o x y S2) S2) (iteD (fun S3 => bnd ((ev C c).e σ S3) fun z S4 => opt (cmpD q y z S4) S4) (fun S3 => some (false, S3))) := rfl
theorem e_ifx {c a b : E} {p : Pos} {C : Orc} {σ : StD} {S : Store} : (ev C (.ifx c a b p)).e σ S = bnd ((ev C c).b σ S) (iteD ((ev C a).e σ) ((ev C b).e σ)) := rfl
theorem b_ifx {c a b : E} {p : Pos} {C : Orc} {σ : StD} {S : Store} : (ev C (.ifx c a b p)).b σ S = bnd ((ev C c).b σ S) (iteD ((ev C a).b σ) ((ev C b).b σ)) := rfl
theorem e_ix {a i : E} {p : Pos} {C : Orc} {σ : StD} {S : Store} : (ev C (.ix a i p)).e σ S = bnd ((ev C a).e σ S) fun x S1 => bnd ((ev C i).e σ S1) fun y S2 => bnd (opt (ixD x y S2) S2) fun z S3 => some (gc S z S3) := rfl
theorem b_ix {a i : E} {p : Pos} {C : Orc} {σ : StD} {S : Store} : (ev C (.ix a i p)).b σ S = bnd ((ev C (.ix a i p)).e σ S) fun d S1 => opt (truthD S1 d) S1 := rfl
theorem e_sl {a : E} {lo hi : Eo} {q p : Pos} {C : Orc} {σ : StD} {S : Store} : (ev C (.sl a lo hi q p)).e σ S = bnd ((ev C a).e σ S) fun x S1 => bnd (evEo C lo σ S1) fun l S2 => bnd (evEo C hi σ S2) fun h S3 => slD x l h S3 := rfl
theorem b_sl {a : E} {lo hi : Eo} {q p : Pos} {C : Orc} {σ : StD} {S : Store} : (ev C (.sl a lo hi q p)).b σ S = bnd ((ev C (.sl a lo hi q p)).e σ S) fun d S1 => opt (truthD S1 d) S1 := rfl
theorem e_call {f : Str} {n : Nat} {as : Es} {q p : Pos} {C : Orc} {σ : StD} {S : Store} : (ev C (.call f n as q p)).e σ S = bnd (evEs C as σ S) fun ds S1 => bnd (C n ds S1) fun d S2 => some (gc S d S2) := rfl
theorem b_call {f : Str} {n : Nat} {as : Es} {q p : Pos} {C : Orc} {σ : StD} {S : Store} : (ev C (.call f n as q p)).b σ S = bnd ((ev C (.call f n as q p)).e σ S) fun d S1 => opt (truthD S1 d) S1 := rfl
theorem e_fnv {x : Str} {p : Pos} {C : Orc} {σ : StD} {S : Store} : (ev C (.fnv x p)).e σ S = some (.fn x, S) := rfl
theorem e_callL {i : Nat} {x : Str} {fs : List (Str × Nat)} {as : Es} {q p : Pos} {C : Orc} {σ : StD} {S : Store} : (ev C (.callL i x fs as q p)).e σ S = bnd (opt (slotD σ i) S) fun d S0 => bnd (opt (fnIx fs d) S0) fun n S0 => bnd (evEs C as σ S0) fun ds S1 => bnd (C n ds S1) fun d S2 => some (gc S d S2) := rfl
theorem fnIx_fn {fs : List (Str × Nat)} {y : Str} : fnIx fs (.fn y) = fs.lookup y := rfl
theorem e_callK {C : Orc} {f : Str} {n : Nat} {as kes : Es} {ks : List Str} {kps : List Pos} {pm : List Nat} {q p : Pos} {σ : StD} {S : Store} : (ev C (.callK f n as ks kps kes pm q p)).e σ S = bnd (evEs C as σ S) fun ds S1 => bnd (evEs C kes σ S1) fun zs S2 => bnd (C n (pick pm (ds ++ zs)) S2) fun d S3 => some (gc S d S3) := rfl
theorem e_bi {f : Bi} {as : Es} {q p : Pos} {C : Orc} {σ : StD} {S : Store} : (ev C (.bi f as q p)).e σ S = bnd (evEs C as σ S) fun ds S1 => bnd (biD f ds S1) fun d S2 => some (gc S d S2) := rfl
theorem b_bi {f : Bi} {as : Es} {q p : Pos} {C : Orc} {σ : StD} {S : Store} : (ev C (.bi f as q p)).b σ S = bnd ((ev C (.bi f as q p)).e σ S) fun d S1 => opt (truthD S1 d) S1 := rfl
theorem e_mxd {gr : Bool} {a d : E} {q kp p : Pos} {C : Orc} {σ : StD} {S : Store} : (ev C (.mxd gr a d q kp p)).e σ S = bnd ((ev C a).e σ S) fun x S1 => bnd ((ev C d).e σ S1) fun y S2 => bnd (opt (maxD gr x y S2) S2) fun z S3 => some (gc S z S3) := rfl
theorem b_mxd {gr : Bool} {a d : E} {q kp p : Pos} {C : Orc} {σ : StD} {S : Store} : (ev C (.mxd gr a d q kp p)).b σ S = bnd ((ev C (.mxd gr a d q kp p)).e σ S) fun d S1 => opt (truthD S1 d) S1 := rfl
theorem e_isi {a : E} {t : Ty} {q tp p : Pos} {C : Orc} {σ : StD} {S : Store} : (ev C (.isi a t q tp p)).e σ S = bnd ((ev C a).e σ S) fun x S1 => bnd (opt (tyD S1 x) S1) fun n S2 => some (gc S (.bl (isaD n t)) S2) := rfl
theorem b_isi {a : E} {t : Ty} {q tp p : Pos} {C : Orc} {σ : StD} {S : Store} : (ev C (.isi a t q tp p)).b σ S = bnd ((ev C (.isi a t q tp p)).e σ S) fun d S1 => opt (truthD S1 d) S1 := rfl
theorem e_isl {a : E} {k : Nat} {q p1 p2 tp p : Pos} {C : Orc} {σ : StD} {S : Store} : (ev C (.isl a k q p1 p2 tp p)).e σ S = bnd ((ev C a).e σ S) fun x S1 => bnd (opt (tyD S1 x) S1) fun n S2 => some (gc S (.bl (isaD n .list || isaD n .tuple)) S2) := rfl
theorem b_isl {a : E} {k : Nat} {q p1 p2 tp p : Pos} {C : Orc} {σ : StD} {S : Store} : (ev C (.isl a k q p1 p2 tp p)).b σ S = bnd ((ev C (.isl a k q p1 p2 tp p)).e σ S) fun d S1 => opt (truthD S1 d) S1 := rfl
theorem e_lrg {a b : E} {q2 p2 q p : Pos} {C : Orc} {σ : StD} {S : Store} : (ev C (.lrg a b q2 p2 q p)).e σ S = bnd (bnd ((ev C a).e σ S) intD) fun i S1 => bnd (bnd ((ev C b).e σ S1) intD) fun j S2 => bnd (opt (rngD i j) S2) fun w S3 => if w.items.length ≤ 2 ^ 24 then some (.loc S3.length, S3 ++ [.lst w.items]) else none := rfl
theorem b_lrg {a b : E} {q2 p2 q p : Pos} {C : Orc} {σ : StD} {S : Store} : (ev C (.lrg a b q2 p2 q p)).b σ S = bnd ((ev C (.lrg a b q2 p2 q p)).e σ S) fun d S1 => opt (truthD S1 d) S1 := rfl
theorem e_mt {o : E} {m : Mt} {as : Es} {q p : Pos} {C : Orc} {σ : StD} {S : Store} : (ev C (.mt o m as q p)).e σ S = bnd ((ev C o).e σ S) fun x S1 => if recvD m x S1 then bnd (evEs C as σ S1) fun ds S2 => bnd (mtD m x ds S2) fun d S3 => some (gc S d S3) else none := rfl
theorem b_mt {o : E} {m : Mt} {as : Es} {q p : Pos} {C : Orc} {σ : StD} {S : Store} : (ev C (.mt o m as q p)).b σ S = bnd ((ev C (.mt o m as q p)).e σ S) fun d S1 => opt (truthD S1 d) S1 := rfl
theorem e_lc {e : E} {g : G} {it : I} {c : Eo} {own : List (Str × Nat)} {sc : Scope} {p : Pos} {C : Orc} {σ : StD} {S : Store} : (ev C (.lc e g it c own sc p)).e σ S = bnd (evI C it σ S) fun w S1 => bnd (lcD w.ok (fun x T => evG C g x (wipeD σ (own.map (·.2))) T) (evIf C c) ((ev C e).e) w.items [] S1) fun ds S2 => some (.loc S2.length, S2 ++ [.lst ds]) := rfl
theorem b_lc {e : E} {g : G} {it : I} {c : Eo} {own : List (Str × Nat)} {sc : Scope} {p : Pos} {C : Orc} {σ : StD} {S : Store} : (ev C (.lc e g it c own sc p)).b σ S = bnd ((ev C (.lc e g it c own sc p)).e σ S) fun d S1 => opt (truthD S1 d) S1 := rfl
theorem e_rev {a : E} {k : Nat} {p1 p2 p3 p : Pos} {C : Orc} {σ : StD} {S : Store} : (ev C (.rev a k p1 p2 p3 p)).e σ S = bnd ((ev C a).e σ S) revD := rfl
theorem b_rev {a : E} {k : Nat} {p1 p2 p3 p : Pos} {C : Orc} {σ : StD} {S : Store} : (ev C (.rev a k p1 p2 p3 p)).b σ S = bnd ((ev C (.rev a k p1 p2 p3 p)).e σ S) fun d S1 => opt (truthD S1 d) S1 := rfl
theorem e_gtp {x : Str} {ds : List D} {p : Pos} {C : Orc} {σ : StD} {S : Store} : (ev C (.gtp x ds p)).e σ S = some (.tup ds, S) := rfl
theorem e_lrg1 {a : E} {q2 p2 q p : Pos} {C : Orc} {σ : StD} {S : Store} : (ev C (.lrg1 a q2 p2 q p)).e σ S = bnd (bnd ((ev C a).e σ S) intD) fun i S1 => bnd (opt (rngD 0 i) S1) fun w S3 => if w.items.length ≤ 2 ^ 24 then some (.loc S3.length, S3 ++ [.lst w.items]) else none := rfl
theorem i_rng3 {a b c : E} {q p : Pos} {C : Orc} {σ : StD} {S : Store} : evI C (.rng3 a b c q p) σ S = bnd (bnd ((ev C a).e σ S) intD) fun i S1 => bnd (bnd ((ev C b).e σ S1) intD) fun j S2 => bnd (bnd ((ev C c).e σ S2) intD) fun k S3 => opt (rng3D i j k) S3 := rfl
theorem bop_1 {C : Orc} {o : BoolOp} {a : E} {σ : StD} {S : Store} : evBop C o (.cons a .nil) σ S = (ev C a).e σ S := rfl
theorem bop_2 {C : Orc} {o : BoolOp} {a b : E} {r : Es} {σ : StD} {S : Store} : evBop C o (.cons a (.cons b r)) σ S = bnd ((ev C a).e σ S) (bopD o fun S1 => evBop C o (.cons b r) σ S1) := rfl
theorem bb_1 {C : Orc} {o : BoolOp} {a : E} {σ : StD} {S : Store} : evBB C o (.cons a .nil) σ S = (ev C a).b σ S := rfl
theorem bb_2 {C : Orc} {o : BoolOp} {a b : E} {r : Es} {σ : StD} {S : Store} : evBB C o (.cons a (.cons b r)) σ S = bnd ((ev C a).b σ S) (bopB o fun S1 => evBB C o (.cons b r) σ S1) := rfl
theorem es_nil {C : Orc} {σ : StD} {S : Store} : evEs C .nil σ S = some ([], S) := rfl
theorem es_cons {C : Orc} {e : E} {r : Es} {σ : StD} {S : Store} : evEs C (.cons e r) σ S = bnd ((ev C e).e σ S) fun d S1 => bnd (evEs C r σ S1) fun ds S2 => some (d :: ds, S2) := rfl
theorem eo_none {C : Orc} {σ : StD} {S : Store} : evEo C .none σ S = some (none, S) := rfl
theorem eo_some {C : Orc} {e : E} {σ : StD} {S : Store} : evEo C (.some e) σ S = bnd (bnd ((ev C e).e σ S) intD) fun i S1 => some (some i, S1) := rfl
theorem if_none {C : Orc} {σ : StD} {S : Store} : evIf C .none σ S = some (true, S) := rfl
theorem if_some {C : Orc} {e : E} {σ : StD} {S : Store} : evIf C (.some e) σ S = (ev C e).b σ S := rfl
theorem i_ex {C : Orc} {e : E} {σ : StD} {S : Store} : evI C (.ex e) σ S = bnd ((ev C e).e σ S) fun d S1 => bnd (opt (seqOf S1 d) S1) fun ds S2 => some (⟨ds, stays d ds⟩, S2) := rfl
theorem i_rng1 {C : Orc} {a : E} {q p : Pos} {σ : StD} {S : Store} : evI C (.rng1 a q p) σ S = bnd (bnd ((ev C a).e σ S) intD) fun i S1 => opt (rngD 0 i) S1 := rfl
theorem i_rng2 {C : Orc} {a b : E} {q p : Pos} {σ : StD} {S : Store} : evI C (.rng2 a b q p) σ S = bnd (bnd ((ev C a).e σ S) intD) fun i S1 => bnd (bnd ((ev C b).e σ S1) intD) fun j S2 => opt (rngD i j) S2 := rfl
theorem i_enm {C : Orc} {e : E} {q p : Pos} {σ : StD} {S : Store} : evI C (.enm e q p) σ S = bnd ((ev C e).e σ S) fun d S1 => bnd (opt (seqOf S1 d) S1) fun ds S2 => some (⟨enumD 0 ds, stays d ds⟩, S2) := rfl
theorem q_nm {C : Orc} {i : Nat} {x : Str} {p : Pos} {v : D} {σ : StD} {S : Store} : evG C (.nm i x p) v σ S = some (σ.set i (some v), S) := rfl
theorem q_tp {C : Orc} {gs : Gs} {k : Nat} {p : Pos} {v : D} {σ : StD} {S : Store} : evG C (.tp gs k p) v σ S = bnd (opt (seqOf S v) S) fun ds S1 => evGs C gs ds σ S1 := rfl
def setK (σ : StD) : Option Store → Option (StD × Store)
  | some S3 => some (σ, S3)
  | none => none
theorem q_sb {C : Orc} {o i : E} {p : Pos} {v : D} {σ : StD} {S : Store} : evG C (.sb o i p) v σ S = bnd ((ev C o).e σ S) fun x S1 => bnd ((ev C i).e σ S1) fun y S2 => setK σ (setD x y v S2) := by
  show bnd ((ev C o).e σ S) _ = _
  congr 1
theorem setK_some {σ : StD} {S : Store} : setK σ (some S) = some (σ, S) := rfl
theorem qs_nil {C : Orc} {σ : StD} {S : Store} : evGs C .nil [] σ S = some (σ, S) := rfl
theorem qs_cons {C : Orc} {g : G} {r : Gs} {v : D} {ws : List D} {σ : StD} {S : Store} : evGs C (.cons g r) (v :: ws) σ S = bnd (evG C g v σ S) fun σ1 S1 => evGs C r ws σ1 S1 := rfl
theorem t_asg {C : Orc} {g : G} {e : E} {p : Pos} {σ : StD} {S : Store} : evT C (.asg g e p) σ S = bnd ((ev C e).e σ S) fun d S1 => bnd (evG C g d σ S1) fun σ1 S2 => some (.next σ1, S2) := rfl
theorem t_aug {C : Orc} {i : Nat} {x : Str} {o : Operator} {e : E} {q p : Pos} {σ : StD} {S : Store} : evT C (.aug i x o e q p) σ S = bnd (opt (slotD σ i) S) fun x S1 => bnd ((ev C e).e σ S1) fun y S2 => bnd (opt (augD o x y) S2) fun z S3 => some (.next (σ.set i (some z)), S3) := rfl
theorem t_ex {C : Orc} {e : E} {p : Pos} {σ : StD} {S : Store} : evT C (.ex e p) σ S = bnd ((ev C e).e σ S) fun _ S1 => some (.next σ, (gc S .non S1).2) := rfl
theorem t_ret {C : Orc} {e : E} {p : Pos} {σ : StD} {S : Store} : evT C (.ret e p) σ S = bnd ((ev C e).e σ S) fun d S1 => some (.ret d, S1) := rfl
theorem t_retN {C : Orc} {p : Pos} {σ : StD} {S : Store} : evT C (.retN p) σ S = some (.ret .non, S) := rfl
theorem t_iff {C : Orc} {c : E} {a b : Ts} {p : Pos} {σ : StD} {S : Store} : evT C (.iff c a b p) σ S = bnd ((ev C c).b σ S) (iteD (evTs C a σ) (evTs C b σ)) := rfl
theorem t_fr {C : Orc} {g : G} {it : I} {b : Ts} {p : Pos} {σ : StD} {S : Store} : evT C (.fr g it b p) σ S = bnd (evI C it σ S) fun w S1 => forD w.ok (evG C g) (evTs C b) w.items σ S1 := rfl
theorem t_whl {C : Orc} {c : E} {b : Ts} {p : Pos} {σ : StD} {S : Store} : evT C (.whl c b p) σ S = whlD ((ev C c).b) (evTs C b) turns σ S := rfl
theorem t_brk {C : Orc} {p : Pos} {σ : StD} {S : Store} : evT C (.brk p) σ S = some (.brk σ, S) := rfl
theorem t_cnt {C : Orc} {p : Pos} {σ : StD} {S : Store} : evT C (.cnt p) σ S = some (.cnt σ, S) := rfl
theorem t_pas {C : Orc} {p : Pos} {σ : StD} {S : Store} : evT C (.pas p) σ S = some (.next σ, S) := rfl
theorem con_none : conD .none = some .non := rfl
theorem con_bool {b : Bool} : conD (.bool b) = some (.bl b) := rfl
theorem con_int {i : Int} : conD (.int i) = some (.int i) := rfl
theorem con_str {x : Str} : conD (.str x) = some (.str x) := rfl
theorem neg_int {i : Int} {S : Store} : negD (.int i) S = some (.int (-i), S) := rfl
theorem not_bl {b : Bool} {S : Store} : notD (.bl b) S = some (.bl (!b), S) := rfl
theorem int_int {i : Int} {S : Store} : intD (.int i) S = some (i, S) := rfl
theorem add_int {i j : Int} {S : Store} : opD .Add (.int i) (.int j) S = some (.int (i + j), S) := rfl
theorem sub_int {i j : Int} {S : Store} : opD .Sub (.int i) (.int j) S = some (.int (i - j), S) := rfl
theorem lt_int {i j : Int} {S : Store} : cmpD .Lt (.int i) (.int j) S = some (decide (i < j)) := rfl
theorem le_int {i j : Int} {S : Store} : cmpD .LtE (.int i) (.int j) S = some (decide (i ≤ j)) := rfl
theorem gt_int {i j : Int} {S : Store} : cmpD .Gt (.int i) (.int j) S = some (decide (j < i)) := rfl
theorem ge_int {i j : Int} {S : Store} : cmpD .GtE (.int i) (.int j) S = some (decide (j ≤ i)) := rfl
theorem eq_int {i j : Int} {S : Store} : cmpD .Eq (.int i) (.int j) S = some (decide (i = j)) := by
  show some (PyData.eqv (.int i) (.int j)) = _
  congr 1
theorem ne_int {i j : Int} {S : Store} : cmpD .NotEq (.int i) (.int j) S = some (!decide (i = j)) := by
  show Option.map _ (cmpD .Eq (.int i) (.int j) S) = _
  rw [eq_int]; rfl
theorem is_nn {S : Store} : cmpD .Is .non .non S = some true := rfl
theorem is_in {i : Int} {S : Store} : cmpD .Is (.int i) .non S = some false := rfl
theorem is_bb {a b : Bool} {S : Store} : cmpD .Is (.bl a) (.bl b) S = some (decide (a = b)) := rfl
theorem isn_nn {S : Store} : cmpD .IsNot .non .non S = some false := rfl
theorem isn_in {i : Int} {S : Store} : cmpD .IsNot (.int i) .non S = some true := rfl
theorem isn_bb {a b : Bool} {S : Store} : cmpD .IsNot (.bl a) (.bl b) S = some (!decide (a = b)) := rfl
theorem tr_non {S : Store} : truthD S .non = some false := rfl
theorem tr_bl {b : Bool} {S : Store} : truthD S (.bl b) = some b := rfl
theorem tr_int {i : Int} {S : Store} : truthD S (.int i) = some (i != 0) := rfl
theorem ty_non {S : Store} : tyD S .non = some "NoneType" := rfl
theorem ty_bl {b : Bool} {S : Store} : tyD S (.bl b) = some "bool" := rfl
theorem ty_int {i : Int} {S : Store} : tyD S (.int i) = some "int" := rfl
theorem ty_tup {ds : List D} {S : Store} : tyD S (.tup ds) = some "tuple" := rfl
theorem ty_ro {ds : List D} {S : Store} : tyD S (.ro ds) = some "list" := rfl
theorem isa_int_int : isaD "int" .int = true := rfl
theorem isa_int_bool : isaD "int" .bool = false := rfl
theorem isa_int_list : isaD "int" .list = false := rfl
theorem isa_int_tuple : isaD "int" .tuple = false := rfl
theorem isa_list_list : isaD "list" .list = true := rfl
theorem isa_list_tuple : isaD "list" .tuple = false := rfl
theorem isa_tuple_list : isaD "tuple" .list = false := rfl
theorem isa_tuple_tuple : isaD "tuple" .tuple = true := rfl
theorem sq_tup {ds : List D} {S : Store} : seqOf S (.tup ds) = some ds := rfl
theorem sq_ro {ds : List D} {S : Store} : seqOf S (.ro ds) = some ds := rfl
theorem bi_int_int {i : Int} {S : Store} : biD .int [.int i] S = some (.int i, S) := rfl
theorem bi_int_bl {b : Bool} {S : Store} : biD .int [.bl b] S = some (.int (if b then 1 else 0), S) := rfl
theorem bi_tuple_tup {ds : List D} {S : Store} : biD .tuple [.tup ds] S = some (.tup ds, S) := rfl
theorem bi_list {a : D} {S : Store} : biD .list [a] S = (seqOf S a).map fun ds => (.loc S.length, S ++ [.lst ds]) := rfl
theorem bi_min {i j : Int} {S : Store} : biD .min [.int i, .int j] S = some (.int (if j < i then j else i), S) := rfl
theorem bi_max {i j : Int} {S : Store} : biD .max [.int i, .int j] S = some (.int (if j > i then j else i), S) := rfl
theorem bi_len_tup {ds : List D} {S : Store} : biD .len [.tup ds] S = some (.int ds.length, S) := rfl
theorem bi_len_ro {ds : List D} {S : Store} : biD .len [.ro ds] S = some (.int ds.length, S) := rfl
theorem ix_tup {ds : List D} {k : Int} {S : Store} : ixD (.tup ds) (.int k) S = atI ds k := rfl
theorem ix_ro {ds : List D} {k : Int} {S : Store} : ixD (.ro ds) (.int k) S = atI ds k := rfl
theorem sl_tup {ds : List D} {lo hi : Option Int} {S : Store} : slD (.tup ds) lo hi S = some (.tup (cut ds lo hi), S) := rfl
theorem sl_ro {ds : List D} {lo hi : Option Int} {S : Store} : slD (.ro ds) lo hi S = some (.loc S.length, S ++ [.lst (cut ds lo hi)]) := rfl
section
variable {S : Store} {m : Nat} {ds : List D}
/-- the list at m -/
theorem sq_loc (h : S[m]? = some (.lst ds)) : seqOf S (.loc m) = some ds := by unfold seqOf; dsimp only; rw [h]
theorem ty_loc (h : S[m]? = some (.lst ds)) : tyD S (.loc m) = some "list" := by unfold tyD; dsimp only; rw [h]
theorem ix_loc (h : S[m]? = some (.lst ds)) {k : Int} : ixD (.loc m) (.int k) S = atI ds k := by unfold ixD; dsimp only; rw [h]
theorem len_loc (h : S[m]? = some (.lst ds)) : biD .len [.loc m] S = some (.int ds.length, S) := by unfold biD; dsimp only; rw [h]
theorem tuple_loc (h : S[m]? = some (.lst ds)) : biD .tuple [.loc m] S = some (.tup ds, S) := by unfold biD; dsimp only; rw [sq_loc h]; rfl
theorem look_app {T : Store} {mo : MO} (h : S[m]? = some mo) : (S ++ T)[m]? = some mo := by
  rw [List.getElem?_append_left (List.getElem?_eq_some_iff.mp h).1]; exact h
theorem look_new {mo : MO} : (S ++ [mo])[S.length]? = some mo := by simp
theorem stays_new {es : List D} (h : S[m]? = some (.lst ds)) : stays (.loc m) ds S = true := by unfold stays; dsimp only; rw [h]; exact D.beqL_self ds
theorem stays_tup {es : List D} : stays (.tup ds) es S = true := rfl
theorem stays_ro {es : List D} : stays (.ro ds) es S = true := rfl
theorem set_loc (h : S[m]? = some (.lst ds)) {k : Int} {v : D} {j : Nat} (hj : ixN ds.length k = some j) : setD (.loc m) (.int k) v S = some (S.set m (.lst (ds.set j v))) := by unfold setD; dsimp only; rw [h]; dsimp only; rw [hj]
end
section
variable {S : Store} {d : D} {ds : List D}
theorem sq_cases (h : seqOf S d = some ds) : d = .tup ds ∨ d = .ro ds ∨ ∃ m, d = .loc m ∧ S[m]? = some (.lst ds) := by
  cases d with
  | tup es => exact .inl (by rw [sq_tup] at h; rw [Option.some.inj h])
  | ro es => exact .inr (.inl (by rw [sq_ro] at h; rw [Option.some.inj h]))
  | loc m =>
    unfold seqOf at h
    dsimp only at h
    split at h
    · rename_i es e; exact .inr (.inr ⟨m, rfl, by rw [e, Option.some.inj h]⟩)
    · cases h
  | _ => cases h
theorem len_sq (h : seqOf S d = some ds) : biD .len [d] S = some (.int ds.length, S) := by
  rcases sq_cases h with rfl | rfl | ⟨m, rfl, e⟩
  · rfl
  · rfl
  · exact len_loc e
theorem ix_sq (h : seqOf S d = some ds) {k : Int} : ixD d (.int k) S = atI ds k := by
  rcases sq_cases h with rfl | rfl | ⟨m, rfl, e⟩
  · rfl
  · rfl
  · exact ix_loc e
theorem tuple_sq (h : seqOf S d = some ds) : biD .tuple [d] S = some (.tup ds, S) := by
  rcases sq_cases h with rfl | rfl | ⟨m, rfl, e⟩
  · rfl
  · rfl
  · exact tuple_loc e
theorem sq_app {T : Store} (h : seqOf S d = some ds) : seqOf (S ++ T) d = some ds := by
  rcases sq_cases h with rfl | rfl | ⟨m, rfl, e⟩
  · rfl
  · rfl
  · exact sq_loc (look_app e)
theorem stays_sq (h : seqOf S d = some ds) : stays d ds S = true := by
  rcases sq_cases h with rfl | rfl | ⟨m, rfl, e⟩
  · rfl
  · rfl
  · exact stays_new (es := ds) e
theorem ty_sq (h : seqOf S d = some ds) : tyD S d = some "tuple" ∨ tyD S d = some "list" := by
  rcases sq_cases h with rfl | rfl | ⟨m, rfl, e⟩
  · exact .inl rfl
  · exact .inr rfl
  · exact .inr (ty_loc e)
end
theorem at_0 {d : D} {r : List D} : atI (d :: r) 0 = some d := by
  simp [atI, ixN]
theorem at_1 {d e : D} {r : List D} : atI (d :: e :: r) 1 = some e := by
  have h : (1 : Int) < ↑r.length + 1 + 1 := by omega
  simp [atI, ixN, h]
theorem at_nat {ds : List D} {i : Nat} {d : D} (h : ds[i]? = some d) : atI ds (i : Nat) = some d := by
  have hi : i < ds.length := (List.getElem?_eq_some_iff.mp h).1
  have h2 : (i : Int) < ds.length := by omega
  simp [atI, ixN, h2, h]
theorem orc_at {defs : List Def} {k n : Nat} {as : List D} {S : Store} {d : Def} (h : defs[n]? = some d) : orc defs (k + 1) n as S = runDef (orc defs k) d as S := by
  show (match defs[n]? with | some d => runDef (orc defs k) d as S | none => none) = _
  rw [h]
section
variable {S T U V : Store} {n : Nat} {ds : List D} {i : Int} {b : Bool}
theorem gc_si : gc S (.int i) S = (.int i, S) := gc_self rfl
theorem gc_ai : gc S (.int i) (S ++ T) = (.int i, S) := gc_app rfl
theorem gc_aai : gc S (.int i) (S ++ T ++ U) = (.int i, S) := by rw [List.append_assoc]; exact gc_app rfl
theorem gc_aaai : gc S (.int i) (S ++ T ++ U ++ V) = (.int i, S) := by rw [List.append_assoc, List.append_assoc]; exact gc_app rfl
theorem gc_sb : gc S (.bl b) S = (.bl b, S) := gc_self rfl
theorem gc_ab : gc S (.bl b) (S ++ T) = (.bl b, S) := gc_app rfl
theorem gc_aab : gc S (.bl b) (S ++ T ++ U) = (.bl b, S) := by rw [List.append_assoc]; exact gc_app rfl
theorem gc_aaab : gc S (.bl b) (S ++ T ++ U ++ V) = (.bl b, S) := by rw [List.append_assoc, List.append_assoc]; exact gc_app rfl
theorem gc_sn : gc S (.non) S = (.non, S) := gc_self rfl
theorem gc_an : gc S (.non) (S ++ T) = (.non, S) := gc_app rfl
theorem gc_aan : gc S (.non) (S ++ T ++ U) = (.non, S) := by rw [List.append_assoc]; exact gc_app rfl
theorem gc_aaan : gc S (.non) (S ++ T ++ U ++ V) = (.non, S) := by rw [List.append_assoc, List.append_assoc]; exact gc_app rfl
end

theorem gc_tupa {S T : Store} {ds : List D} (h : D.pureL ds = true) : gc S (.tup ds) (S ++ T) = (.tup ds, S) := gc_app h
theorem gc_tupaa {S T U : Store} {ds : List D} (h : D.pureL ds = true) : gc S (.tup ds) (S ++ T ++ U) = (.tup ds, S) := by rw [List.append_assoc]; exact gc_app h
theorem gc_newl {S : Store} {ds : List D} (h : D.pureL ds = true) : gc S (.loc S.length) (S ++ [.lst ds]) = (.loc S.length, S ++ [.lst ds]) := gc_new h
theorem wipe_nil {σ : StD} : wipeD σ [] = σ := rfl
theorem wipe_cons {σ : StD} {v : Nat} {vs : List Nat} : wipeD σ (v :: vs) = (wipeD σ vs).set v none := rfl
/-! ### loops by an invariant -/
def stepOk (I : StD → Store → Prop) (Post : Option (Fl × Store) → Prop) : Option (Fl × Store) → Prop
  | some (.next σ, S) => I σ S
  | some (.cnt σ, S) => I σ S
  | some (.brk σ, S) => Post (some (.next σ, S))
  | some (.ret d, S) => Post (some (.ret d, S))
  | none => False
theorem forD_gen {ok : Store → Bool} {g : D → StD → Store → Option (StD × Store)} {b : StD → Store → Option (Fl × Store)} (I : List D → StD → Store → Prop) (Post : Option (Fl × Store) → Prop)
    (hend : ∀ σ S, I [] σ S → ok S = true ∧ Post (some (.next σ, S))) (hs : ∀ x r σ S, I (x :: r) σ S → ok S = true ∧ stepOk (I r) Post (bnd (g x σ S) b)) :
    ∀ (items : List D) (σ : StD) (S : Store), I items σ S → Post (forD ok g b items σ S)
  | [], σ, S, h => by
    obtain ⟨h1, h2⟩ := hend σ S h
    rw [forD, if_pos h1]; exact h2
  | x :: r, σ, S, h => by
    obtain ⟨h1, h2⟩ := hs x r σ S h
    rw [forD, if_pos h1]
    cases e : g x σ S with
    | none => rw [e] at h2; exact h2.elim
    | some p =>
      obtain ⟨σ1, S1⟩ := p
      rw [e, bnd_some] at h2
      dsimp only
      cases e2 : b σ1 S1 with
      | none => rw [e2] at h2; exact h2.elim
      | some q =>
        obtain ⟨f, S2⟩ := q
        rw [e2] at h2
        cases f with
        | next σ2 => exact forD_gen I Post hend hs r σ2 S2 h2
        | cnt σ2 => exact forD_gen I Post hend hs r σ2 S2 h2
        | brk σ2 => exact h2
        | ret d => exact h2
theorem for_X {ok : Store → Bool} {g : D → StD → Store → Option (StD × Store)} {b : StD → Store → Option (Fl × Store)} {items : List D} {σ : StD} {S : Store} {X : Option (Fl × Store)} (hX : forD ok g b items σ S = X) (I : List D → StD → Store → Prop) (Post : Option (Fl × Store) → Prop)
    (h0 : I items σ S) (hend : ∀ σ S, I [] σ S → ok S = true ∧ Post (some (.next σ, S))) (hs : ∀ x r σ S, I (x :: r) σ S → ok S = true ∧ stepOk (I r) Post (bnd (g x σ S) b)) : Post X :=
  hX ▸ forD_gen I Post hend hs items σ S h0
def stepL (I : List D → Store → Prop) (acc : List D) : Option (Option D × Store) → Prop
  | some (some y, S) => I (acc ++ [y]) S
  | some (none, S) => I acc S
  | none => False
theorem lcD_gen {ok : Store → Bool} {g : D → Store → Option (StD × Store)} {c : StD → Store → Option (Bool × Store)} {e : StD → Store → Option (D × Store)} (I : List D → List D → Store → Prop) (Post : Option (List D × Store) → Prop)
    (hend : ∀ acc S, I [] acc S → ok S = true ∧ Post (some (acc, S)))
    (hs : ∀ x r acc S, I (x :: r) acc S → ok S = true ∧ acc.length < sizeLine ∧ stepL (I r) acc (bnd (g x S) fun σ S1 => bnd (c σ S1) (iteD (fun S2 => bnd (e σ S2) fun y S3 => some (some y, S3)) (fun S2 => some (none, S2))))) :
    ∀ (items acc : List D) (S : Store), I items acc S → Post (lcD ok g c e items acc S)
  | [], acc, S, h => by
    obtain ⟨h1, h2⟩ := hend acc S h
    rw [lcD, if_pos h1]; exact h2
  | x :: r, acc, S, h => by
    obtain ⟨h1, h3, h2⟩ := hs x r acc S h
    rw [lcD, if_pos h1]
    cases eg : g x S with
    | none => rw [eg] at h2; exact h2.elim
    | some p =>
      obtain ⟨σ1, S1⟩ := p
      rw [eg, bnd_some] at h2
      dsimp only
      cases ec : c σ1 S1 with
      | none => rw [ec] at h2; exact h2.elim
      | some q =>
        obtain ⟨t, S2⟩ := q
        rw [ec, bnd_some] at h2
        cases t with
        | false => exact lcD_gen I Post hend hs r acc S2 h2
        | true =>
          dsimp only
          rw [ite_t] at h2
          cases ee : e σ1 S2 with
          | none => rw [ee] at h2; exact h2.elim
          | some z =>
            obtain ⟨y, S3⟩ := z
            rw [ee, bnd_some] at h2
            dsimp only
            rw [if_pos h3]
            exact lcD_gen I Post hend hs r (acc ++ [y]) S3 h2
theorem lc_X {ok : Store → Bool} {g : D → Store → Option (StD × Store)} {c : StD → Store → Option (Bool × Store)} {e : StD → Store → Option (D × Store)} {items acc : List D} {S : Store} {X : Option (List D × Store)} (hX : lcD ok g c e items acc S = X) (I : List D → List D → Store → Prop) (Post : Option (List D × Store) → Prop)
    (h0 : I items acc S) (hend : ∀ acc S, I [] acc S → ok S = true ∧ Post (some (acc, S)))
    (hs : ∀ x r acc S, I (x :: r) acc S → ok S = true ∧ acc.length < sizeLine ∧ stepL (I r) acc (bnd (g x S) fun σ S1 => bnd (c σ S1) (iteD (fun S2 => bnd (e σ S2) fun y S3 => some (some y, S3)) (fun S2 => some (none, S2))))) : Post X :=
  hX ▸ lcD_gen I Post hend hs items acc S h0

/-! ### equality of data -/
theorem mapO_map {α β γ : Type} {f : α → β} {g : α → γ} {F : β → Option γ} : ∀ (xs : List α), (∀ x ∈ xs, F (f x) = some (g x)) → mapO F (xs.map f) = some (xs.map g)
  | [], _ => rfl
  | x :: r, h => by
    rw [List.map_cons, mapO, h x (List.mem_cons_self ..)]
    dsimp only
    rw [mapO_map r fun y hy => h y (List.mem_cons_of_mem _ hy)]; rfl
theorem mapO_all {α β : Type} {F : α → Option β} {P : β → Prop} (h : ∀ a b, F a = some b → P b) : ∀ {xs : List α} {ys : List β}, mapO F xs = some ys → ∀ y ∈ ys, P y
  | [], ys, e => by
    have : ys = [] := (Option.some.inj e).symm
    subst this; intro y hy; cases hy
  | x :: r, ys, e => by
    rw [mapO] at e
    split at e
    · rename_i b hb
      split at e
      · rename_i bs hbs
        have := Option.some.inj e
        subst this
        intro y hy
        rcases List.mem_cons.mp hy with rfl | hy
        · exact h x _ hb
        · exact mapO_all h hbs y hy
      · cases e
    · cases e
theorem eqvAll_of : ∀ (ps : List PyData), (∀ p ∈ ps, PyData.eqv p p = true) → PyData.eqvAll ps ps = true
  | [], _ => rfl
  | p :: r, h => by
    rw [PyData.eqvAll, h p (List.mem_cons_self ..), eqvAll_of r fun q hq => h q (List.mem_cons_of_mem _ hq)]; rfl
theorem toPy_refl {S : Store} : ∀ (n : Nat) (d : D) (p : PyData), toPy S n d = some p → PyData.eqv p p = true
  | n, .non, p, h => by
    cases n <;> (simp only [toPy] at h; cases h; rfl)
  | n, .bl b, p, h => by
    cases n <;> (simp only [toPy] at h; cases h; simp [PyData.eqv])
  | n, .int i, p, h => by
    cases n <;> (simp only [toPy] at h; cases h; simp [PyData.eqv])
  | n, .str x, p, h => by
    cases n <;> (simp only [toPy] at h; split at h <;> cases h; simp [PyData.eqv])
  | n, .fn y, p, h => by cases n <;> (simp only [toPy] at h; cases h)
  | 0, .tup ds, p, h => by simp [toPy] at h
  | 0, .ro ds, p, h => by simp [toPy] at h
  | 0, .loc m, p, h => by simp [toPy] at h
  | n + 1, .tup ds, p, h => by
    rw [toPy] at h
    obtain ⟨ps, h1, h2⟩ := Option.map_eq_some_iff.mp h
    subst h2
    rw [PyData.eqv]
    exact eqvAll_of ps (mapO_all (fun a b e => toPy_refl n a b e) h1)
  | n + 1, .ro ds, p, h => by
    rw [toPy] at h
    obtain ⟨ps, h1, h2⟩ := Option.map_eq_some_iff.mp h
    subst h2
    rw [PyData.eqv]
    exact eqvAll_of ps (mapO_all (fun a b e => toPy_refl n a b e) h1)
  | n + 1, .loc m, p, h => by
    rw [toPy] at h
    split at h
    · obtain ⟨ps, h1, h2⟩ := Option.map_eq_some_iff.mp h
      subst h2
      rw [PyData.eqv]
      exact eqvAll_of ps (mapO_all (fun a b e => toPy_refl n a b e) h1)
    · cases h
theorem eqD_same {S : Store} {d e : D} {p : PyData} (h1 : toPy S 120 d = some p) (h2 : toPy S 120 e = some p) : eqD S d e = some true := by
  unfold eqD; rw [h1, h2]
  dsimp only
  rw [toPy_refl 120 d p h1]
theorem toPy_loc {S : Store} {n m : Nat} {ds : List D} {ps : List PyData} (h : S[m]? = some (.lst ds)) (hp : mapO (toPy S n) ds = some ps) : toPy S (n + 1) (.loc m) = some (.list ps) := by
  rw [toPy, h]
  dsimp only
  rw [hp]; rfl
theorem toPy_tup {S : Store} {n : Nat} {ds : List D} {ps : List PyData} (hp : mapO (toPy S n) ds = some ps) : toPy S (n + 1) (.tup ds) = some (.tuple ps) := by
  rw [toPy, hp]; rfl
theorem toPy_int {S : Store} {n : Nat} {i : Int} : toPy S n (.int i) = some (.int i) := by cases n <;> rfl
theorem toPy_non {S : Store} {n : Nat} : toPy S n .non = some .none := by cases n <;> rfl
theorem toPy_bl {S : Store} {n : Nat} {b : Bool} : toPy S n (.bl b) = some (.bool b) := by cases n <;> rfl
theorem eqD_loc2 {S : Store} {a b : Nat} {ds : List D} {ps : List PyData} (ha : S[a]? = some (.lst ds)) (hb : S[b]? = some (.lst ds)) (hp : mapO (toPy S 119) ds = some ps) : eqD S (.loc a) (.loc b) = some true :=
  eqD_same (toPy_loc (n := 119) ha hp) (toPy_loc (n := 119) hb hp)
theorem mapO_len {α β : Type} {F : α → Option β} : ∀ {xs : List α} {ys : List β}, mapO F xs = some ys → xs.length = ys.length
  | [], ys, e => by
    have : ys = [] := (Option.some.inj e).symm
    subst this; rfl
  | x :: r, ys, e => by
    rw [mapO] at e
    split at e
    · split at e
      · rename_i bs hbs
        have := Option.some.inj e
        subst this
        simp [mapO_len hbs]
      · cases e
    · cases e
theorem eqD_empty {S : Store} {a b : Nat} {ds : List D} {ps : List PyData} (ha : S[a]? = some (.lst ds)) (hb : S[b]? = some (.lst [])) (hp : mapO (toPy S 119) ds = some ps) : eqD S (.loc a) (.loc b) = some ds.isEmpty := by
  unfold eqD
  rw [toPy_loc (n := 119) ha hp, toPy_loc (n := 119) hb (ps := []) rfl]
  dsimp only
  have := mapO_len hp
  cases ps <;> cases ds <;> first | rfl | (simp at this)
theorem ne_of {S : Store} {d e : D} {b : Bool} (h : eqD S d e = some b) : cmpD .NotEq d e S = some (!b) := by
  show Option.map _ (eqD S d e) = _
  rw [h]; rfl
theorem eq_of {S : Store} {d e : D} {b : Bool} (h : eqD S d e = some b) : cmpD .Eq d e S = some b := h
/-! ### ranges -/
def rangeI (lo : Int) : Nat → List Int
  | 0 => []
  | n + 1 => lo :: rangeI (lo + 1) n
theorem rangeD_eq : ∀ (n : Nat) (lo : Int), rangeD lo n = (rangeI lo n).map D.int
  | 0, _ => rfl
  | n + 1, lo => by rw [rangeD, rangeI, List.map_cons, rangeD_eq n]
theorem rangeI_len : ∀ (n : Nat) (lo : Int), (rangeI lo n).length = n
  | 0, _ => rfl
  | n + 1, lo => by rw [rangeI, List.length_cons, rangeI_len n]
theorem rangeI_ge : ∀ (n : Nat) (lo : Int), ∀ i ∈ rangeI lo n, lo ≤ i
  | 0, _, i, h => by cases h
  | n + 1, lo, i, h => by
    rcases List.mem_cons.mp h with rfl | h
    · exact Int.le_refl _
    · have := rangeI_ge n (lo + 1) i h; omega
theorem rng_small {lo hi : Int} (h1 : -1000000 ≤ lo) (h2 : lo ≤ 1000000) (h3 : -1000000 ≤ hi) (h4 : hi ≤ 1000000) : rngD lo hi = some ⟨(rangeI lo (hi - lo).toNat).map D.int, fun _ => true⟩ := by
  unfold rngD
  rw [if_pos ⟨by omega, by omega, by omega, by omega⟩, rangeD_eq]
/-! ### slices -/
theorem cut_from {α : Type} {xs : List α} {n : Nat} (h : n ≤ xs.length) : cut xs (some (n : Int)) none = xs.drop n := by
  unfold cut
  rw [HT.sIx_nat, HT.sIx_none, Nat.min_eq_left h]
  exact List.take_of_length_le (by rw [List.length_drop]; exact Nat.le_refl _)
theorem cut_upto {α : Type} {xs : List α} {n : Nat} : cut xs none (some (n : Int)) = xs.take n := by
  unfold cut
  rw [HT.sIx_nat, HT.sIx_none, List.drop_zero, Nat.sub_zero]
  rcases Nat.le_total n xs.length with h | h
  · rw [Nat.min_eq_left h]
  · rw [Nat.min_eq_right h, List.take_length, List.take_of_length_le h]
theorem sz_0 : (0 ≤ sizeLine) = True := eq_true (by decide)
theorem sz_1 : (1 ≤ sizeLine) = True := eq_true (by decide)
theorem sz_2 : (2 ≤ sizeLine) = True := eq_true (by decide)
theorem sz_3 : (3 ≤ sizeLine) = True := eq_true (by decide)
theorem sz_4 : (4 ≤ sizeLine) = True := eq_true (by decide)
theorem sz_5 : (5 ≤ sizeLine) = True := eq_true (by decide)
theorem sz_6 : (6 ≤ sizeLine) = True := eq_true (by decide)
theorem sz_7 : (7 ≤ sizeLine) = True := eq_true (by decide)
theorem sz_8 : (8 ≤ sizeLine) = True := eq_true (by decide)
theorem sz_9 : (9 ≤ sizeLine) = True := eq_true (by decide)
theorem sz_10 : (10 ≤ sizeLine) = True := eq_true (by decide)
end Mi

end

section
/-! Mi13: rows of pairs (towers) in the store. -/
namespace Mi
open PySem PySem.Spec
open L2 (atI ixN)
abbrev Tws := List (Int × Int)
/-- towers in the store: rows of pairs -/
def TwL (S : Store) : List D → Tws → Prop
  | [], [] => True
  | d :: ds, p :: tw => seqOf S d = some [.int p.1, .int p.2] ∧ TwL S ds tw
  | _, _ => False
def Fine : Tws → Prop
  | [] => True
  | p :: r => 1 ≤ p.2 ∧ (∀ q ∈ r, p.1 < q.1) ∧ Fine r
def prD (p : Int × Int) : D := .tup [.int p.1, .int p.2]
/-- what is a row of towers, as a tuple or a list, of tuples or lists -/
structure IsTw (S : Store) (v : D) (tw : Tws) : Prop where
  ex : ∃ ds, seqOf S v = some ds ∧ TwL S ds tw
  fine : Fine tw
  len : tw.length ≤ 1000
theorem TwL.app {S T : Store} : ∀ {ds : List D} {tw : Tws}, TwL S ds tw → TwL (S ++ T) ds tw
  | [], [], _ => trivial
  | _ :: _, _ :: _, ⟨h, r⟩ => ⟨sq_app h, TwL.app r⟩
theorem IsTw.app {S T : Store} {v : D} {tw : Tws} (h : IsTw S v tw) : IsTw (S ++ T) v tw := by
  obtain ⟨⟨ds, h1, h2⟩, h3, h4⟩ := h
  exact ⟨⟨ds, sq_app h1, h2.app⟩, h3, h4⟩
theorem TwL.len {S : Store} : ∀ {ds : List D} {tw : Tws}, TwL S ds tw → ds.length = tw.length
  | [], [], _ => rfl
  | _ :: _, _ :: _, ⟨_, r⟩ => congrArg (· + 1) (TwL.len r)
theorem TwL.prs {S : Store} : ∀ (tw : Tws), TwL S (tw.map prD) tw
  | [] => trivial
  | p :: r => ⟨rfl, TwL.prs r⟩
theorem IsTw.tup {S : Store} {tw : Tws} (h : Fine tw) (hl : tw.length ≤ 1000) : IsTw S (.tup (tw.map prD)) tw := ⟨⟨_, rfl, TwL.prs tw⟩, h, hl⟩
theorem prs_pure (tw : Tws) : D.pureL (tw.map prD) = true := pureL_map tw fun _ _ => rfl
theorem lcD_tw {ok : Store → Bool} {g : D → Store → Option (StD × Store)} {c : StD → Store → Option (Bool × Store)} {e : StD → Store → Option (D × Store)} {S : Store} (p : Int × Int → Bool) (f : Int × Int → D) (hok : ok S = true) :
    ∀ {ds : List D} {tw : Tws} (acc : List D), TwL S ds tw → (∀ d q, q ∈ tw → seqOf S d = some [.int q.1, .int q.2] → ∃ σ, g d S = some (σ, S) ∧ c σ S = some (p q, S) ∧ (p q = true → e σ S = some (f q, S))) → acc.length + tw.length ≤ sizeLine →
      lcD ok g c e ds acc S = some (acc ++ (tw.filter p).map f, S)
  | [], [], acc, _, _, _ => by simp [lcD, hok]
  | d :: ds, q :: tw, acc, ⟨h1, h2⟩, h, hl => by
    obtain ⟨σ, g1, g2, g3⟩ := h d q (List.mem_cons_self ..) h1
    have hr := fun acc hl => lcD_tw (e := e) p f hok acc h2 (fun d y hy => h d y (List.mem_cons_of_mem _ hy)) hl
    simp only [List.length_cons] at hl
    rw [lcD, if_pos hok, g1]
    dsimp only
    rw [g2]
    cases hp : p q with
    | true =>
      dsimp only
      rw [g3 hp]
      dsimp only
      rw [if_pos (by omega), hr _ (by simp; omega), List.filter_cons, hp]
      simp
    | false =>
      dsimp only
      rw [hr _ (by omega), List.filter_cons, hp]
      simp
theorem lcD_tw0 {ok : Store → Bool} {g : D → Store → Option (StD × Store)} {c : StD → Store → Option (Bool × Store)} {e : StD → Store → Option (D × Store)} {S : Store} (f : Int × Int → D) (hok : ok S = true)
    {ds : List D} {tw : Tws} (h : TwL S ds tw) (hs : ∀ d q, q ∈ tw → seqOf S d = some [.int q.1, .int q.2] → ∃ σ, g d S = some (σ, S) ∧ c σ S = some (true, S) ∧ e σ S = some (f q, S)) (hl : tw.length ≤ sizeLine) :
      lcD ok g c e ds [] S = some (tw.map f, S) := by
  have := lcD_tw (e := e) (fun _ => true) f hok [] h (fun d q h1 h2 => let ⟨σ, a, b, c⟩ := hs d q h1 h2; ⟨σ, a, b, fun _ => c⟩) (by simpa using hl)
  rw [this, List.filter_eq_self.mpr (fun _ _ => rfl)]; rfl
theorem small {n : Nat} (h : n ≤ 1000) : n ≤ sizeLine := Nat.le_trans h (by decide)

def hiT : Tws → Int
  | [] => 0
  | p :: r => greatest p.2 (r.map (·.2))
theorem intsOf_map {α : Type} (f : α → Int) : ∀ (xs : List α), intsOf (xs.map fun x => D.int (f x)) = some (xs.map f)
  | [] => rfl
  | x :: r => by rw [List.map_cons, intsOf, intsOf_map f r]; rfl
theorem maxD_tw {S : Store} {m : Nat} {tw : Tws} (h : S[m]? = some (.lst (tw.map fun q => D.int q.2))) : maxD true (.loc m) (.int 0) S = some (.int (hiT tw)) := by
  unfold maxD
  rw [sq_loc h]
  dsimp only
  rw [intsOf_map]
  cases tw <;> rfl
def kD : Option Int → D
  | none => .non
  | some i => .int i
theorem kD_n : kD none = .non := rfl
theorem kD_s {i : Int} : kD (some i) = .int i := rfl
def keysAt (tw : Tws) (l : Int) : List Int := (tw.filter fun p => decide (l ≤ p.2)).map (·.1)
/-- a link: where from, the level, where to -/
def linkD (tw : Tws) (from_ : Option Int) (l : Int) : D := .tup [kD from_, .int l, kD (keysAt tw l).head?]
def beyond (key : Option Int) (l : Int) (p : Int × Int) : Bool := decide (l ≤ p.2) && (match key with | none => true | some k => decide (k < p.1))
def nextK (tw : Tws) (key : Option Int) (l : Int) : Option Int := ((tw.filter (beyond key l)).map (·.1)).head?
theorem ints_py {S : Store} {n : Nat} (xs : List Int) : mapO (toPy S n) (xs.map D.int) = some (xs.map PyData.int) := mapO_map xs fun _ _ => toPy_int
theorem ints_pure (xs : List Int) : D.pureL (xs.map D.int) = true := pureL_map xs fun _ _ => rfl
@[simp] theorem pure_kD (o : Option Int) : D.pure (kD o) = true := by cases o <;> rfl

theorem head_at {xs : List Int} (h : xs.isEmpty = false) : atI (xs.map D.int) 0 = some (kD xs.head?) := by
  cases xs with
  | nil => cases h
  | cons i r => rw [List.map_cons, at_0]; rfl
theorem head_none {xs : List Int} (h : xs.isEmpty = true) : kD xs.head? = .non := by
  cases xs with
  | nil => rfl
  | cons i r => cases h
theorem isEmpty_map {α β : Type} {f : α → β} (xs : List α) : (xs.map f).isEmpty = xs.isEmpty := by cases xs <;> rfl
theorem beyond_map (tw : Tws) (key : Option Int) (l : Int) : (tw.filter (beyond key l)).map (fun q => D.int q.1) = ((tw.filter (beyond key l)).map (·.1)).map D.int := by rw [List.map_map]; rfl
theorem keysAt_map (tw : Tws) (l : Int) : (tw.filter fun q => decide (l ≤ q.2)).map (fun q => D.int q.1) = (keysAt tw l).map D.int := by rw [keysAt, List.map_map]; rfl
end Mi

end

section
/-! Mi14: the store by its end. -/
namespace Mi
open PySem PySem.Spec
open L2 (atI ixN)
def lk (S : Store) (m : Nat) : Option MO := S[m]?
section
variable {S L L1 L2 : Store} {m j : Nat} {v w mo : MO}
theorem lk_lt (h : lk S m = some mo) : m < S.length := (List.getElem?_eq_some_iff.mp h).1
theorem lk_app : lk (S ++ L) (S.length + j) = lk L j := by
  unfold lk; rw [List.getElem?_append_right (by omega)]; congr 1; omega
theorem lk_app0 : lk (S ++ L) S.length = lk L 0 := lk_app (j := 0)
theorem lk_sapp : lk (S.set m v ++ L) (S.length + j) = lk L j := by
  have := lk_app (S := S.set m v) (L := L) (j := j)
  rwa [List.length_set] at this
theorem lk_sapp0 : lk (S.set m v ++ L) S.length = lk L 0 := lk_sapp (j := 0)
theorem lk_z : lk (v :: L) 0 = some v := rfl
theorem lk_s : lk (v :: L) (j + 1) = lk L j := rfl
theorem lk_old (h : lk S m = some mo) : lk (S ++ L) m = some mo := by
  have := lk_lt h
  unfold lk at h ⊢
  rw [List.getElem?_append_left this]; exact h
theorem lk_set (h : lk S m = some mo) : lk (S.set m v) m = some v := by
  have := lk_lt h
  unfold lk; rw [List.getElem?_set_self this]
theorem lk_seta (h : lk S m = some mo) : lk (S.set m v ++ L) m = some v := lk_old (lk_set h)
theorem lk_other (h : lk S j = some mo) (hn : m ≠ j) : lk (S.set m v) j = some mo := by
  unfold lk at h ⊢; rw [List.getElem?_set_ne hn]; exact h
theorem lk_othera (h : lk S j = some mo) (hn : m ≠ j) : lk (S.set m v ++ L) j = some mo := lk_old (lk_other h hn)
theorem st_app : (S ++ L).set (S.length + j) v = S ++ L.set j v := by
  rw [List.set_append_right _ _ (by omega)]; congr 2; omega
theorem st_app0 : (S ++ L).set S.length v = S ++ L.set 0 v := st_app (j := 0)
theorem st_sapp : (S.set m w ++ L).set (S.length + j) v = S.set m w ++ L.set j v := by
  have := st_app (S := S.set m w) (L := L) (j := j) (v := v)
  rwa [List.length_set] at this
theorem st_sapp0 : (S.set m w ++ L).set S.length v = S.set m w ++ L.set 0 v := st_sapp (j := 0)
theorem st_old (h : lk S m = some mo) : (S ++ L).set m v = S.set m v ++ L := List.set_append_left _ _ (lk_lt h)
theorem st_olds (h : lk S m = some mo) : (S.set m w ++ L).set m v = S.set m v ++ L := by
  rw [List.set_append_left _ _ (by rw [List.length_set]; exact lk_lt h), List.set_set]
theorem len_set : (S.set m v).length = S.length := List.length_set
theorem set_set : (S.set m v).set m w = S.set m w := List.set_set ..
end
section
variable {S : Store} {m n : Nat}
theorem sq_lk : seqOf S (.loc m) = match lk S m with | some (.lst ds) => some ds | _ => none := rfl
theorem ix_lk {k : Int} : ixD (.loc m) (.int k) S = match lk S m with | some (.lst ds) => atI ds k | some (.dic kvs) => getG kvs (.inl k) | _ => none := rfl
theorem sl_lk {lo hi : Option Int} : slD (.loc m) lo hi S = match lk S m with | some (.lst ds) => some (.loc S.length, S ++ [.lst (cut ds lo hi)]) | _ => none := rfl
theorem len_lk : biD .len [.loc m] S = match lk S m with | some (.lst ds) => some (.int ds.length, S) | some (.dic kvs) => some (.int kvs.length, S) | _ => none := rfl
theorem tuple_lk : biD .tuple [.loc m] S = match lk S m with | some (.lst ds) => some (.tup ds, S) | _ => none := by
  show (seqOf S (.loc m)).map _ = _
  rw [sq_lk]
  cases lk S m with
  | none => rfl
  | some mo => cases mo <;> rfl
theorem list_lk : biD .list [.loc m] S = match lk S m with | some (.lst ds) => some (.loc S.length, S ++ [.lst ds]) | _ => none := by
  show (seqOf S (.loc m)).map _ = _
  rw [sq_lk]
  cases lk S m with
  | none => rfl
  | some mo => cases mo <;> rfl
theorem list_tup {ds : List D} : biD .list [.tup ds] S = some (.loc S.length, S ++ [.lst ds]) := rfl
theorem ty_lk : tyD S (.loc m) = match lk S m with | some (.lst _) => some "list" | some (.dic _) => some "dict" | some (.dit _) => none | none => none := rfl
theorem stays_lk {ds : List D} : stays (.loc m) ds S = match lk S m with | some (.lst es) => D.beqL es ds | _ => false := rfl
theorem set_lk {k : Int} {v : D} : setD (.loc m) (.int k) v S = match lk S m with
    | some (.lst ds) => (match ixN ds.length k with
      | some j => some (S.set m (.lst (ds.set j v)))
      | none => none)
    | some (.dic kvs) => if kvs.length < sizeLine then some (S.set m (.dic (putG kvs (.inl k) v))) else none
    | _ => none := rfl
theorem add_lk : opD .Add (.loc m) (.loc n) S = match lk S m, lk S n with
    | some (.lst x), some (.lst y) => if x.length + y.length ≤ sizeLine then some (.loc S.length, S ++ [.lst (x ++ y)]) else none
    | _, _ => none := rfl
theorem app_lk {x : D} : mtD .append (.loc n) [x] S = match lk S n with
    | some (.lst ds) => if ds.length < sizeLine then some (.non, S.set n (.lst (ds ++ [x]))) else none
    | _ => none := by
  unfold mtD lk
  dsimp only
  cases S[n]? with
  | none => rfl
  | some mo => cases mo <;> rfl
theorem ext_lk {p : Nat} : mtD .extend (.loc n) [.loc p] S = match lk S n, lk S p with
    | some (.lst ds), some (.lst es) => if ds.length + es.length ≤ sizeLine then some (.non, S.set n (.lst (ds ++ es))) else none
    | _, _ => none := by
  unfold mtD lk
  dsimp only
  cases S[n]? with
  | none => rfl
  | some mo => cases mo <;> first | rfl | (dsimp only; split <;> simp_all)
theorem clear_lk : mtD .clear (.loc n) [] S = match lk S n with
    | some (.lst ds) => some (.non, S.set n (.lst []))
    | _ => none := by
  unfold mtD lk
  dsimp only
  cases S[n]? with
  | none => rfl
  | some mo => cases mo <;> rfl
theorem rev_lk : revD (.loc n) S = match lk S n with
    | some (.lst ds) => some (.loc S.length, S ++ [.lst ds.reverse])
    | _ => none := by
  unfold revD lstOf seqOf lk
  dsimp only
  cases S[n]? with
  | none => rfl
  | some mo => cases mo <;> rfl
theorem max_lk : biD .max [.loc n] S = match lk S n with
    | some (.lst ds) => (match intsOf ds with
      | some (i :: r) => some (.int (greatest i r), S)
      | _ => none)
    | _ => none := by
  show mxlD true (.loc n) S = _
  unfold mxlD lstOf seqOf lk
  dsimp only
  cases S[n]? with
  | none => rfl
  | some mo => cases mo <;> rfl
theorem min_lk : biD .min [.loc n] S = match lk S n with
    | some (.lst ds) => (match intsOf ds with
      | some (i :: r) => some (.int (least i r), S)
      | _ => none)
    | _ => none := by
  show mxlD false (.loc n) S = _
  unfold mxlD lstOf seqOf lk
  dsimp only
  cases S[n]? with
  | none => rfl
  | some mo => cases mo <;> rfl
theorem sum_lk : biD .sum [.loc n] S = match lk S n with
    | some (.lst ds) => (intsOf ds).map fun ns => (.int ns.sum, S)
    | _ => none := by
  show sumD (.loc n) S = _
  unfold sumD lstOf seqOf lk
  dsimp only
  cases S[n]? with
  | none => rfl
  | some mo => cases mo <;> rfl
theorem any_lk : biD .any [.loc n] S = match lk S n with
    | some (.lst ds) => (boolsOf ds).map fun ns => (.bl (ns.any id), S)
    | _ => none := by
  show anyD (.loc n) S = _
  unfold anyD lstOf seqOf lk
  dsimp only
  cases S[n]? with
  | none => rfl
  | some mo => cases mo <;> rfl
theorem all_lk : biD .all [.loc n] S = match lk S n with
    | some (.lst ds) => (boolsOf ds).map fun ns => (.bl (ns.all id), S)
    | _ => none := by
  show allD (.loc n) S = _
  unfold allD lstOf seqOf lk
  dsimp only
  cases S[n]? with
  | none => rfl
  | some mo => cases mo <;> rfl
theorem count_lk {x : D} : mtD .count (.loc n) [x] S = match lk S n with
    | some (.lst ds) => (cntSeq x ds).map fun (n : Nat) => (.int (n : Int), S)
    | _ => none := by
  unfold mtD lk
  dsimp only
  cases S[n]? with
  | none => rfl
  | some mo => cases mo <;> rfl
theorem index_lk {x : D} : mtD .index (.loc n) [x] S = match lk S n with
    | some (.lst ds) => (idxSeq x ds).map fun (n : Nat) => (.int (n : Int), S)
    | _ => none := by
  unfold mtD lk
  dsimp only
  cases S[n]? with
  | none => rfl
  | some mo => cases mo <;> rfl
theorem pop_lk : mtD .pop (.loc n) [] S = match lk S n with
    | some (.lst ds) => (match ds[ds.length - 1]? with
        | some y => some (y, S.set n (.lst ds.dropLast))
        | none => none)
    | _ => none := by
  unfold mtD lk
  dsimp only
  cases S[n]? with
  | none => rfl
  | some mo => cases mo <;> rfl
theorem recv_lk {mt : Mt} : recvD mt (.loc n) S = match lk S n with
    | some (.lst _) => mt != .get
    | some (.dic _) => mt == .get
    | some (.dit _) => mt == .get
    | _ => false := rfl
theorem get2_lk {k d : D} (hk : (match k with | .tup _ => false | _ => true) = true) : mtD .get (.loc n) [k, d] S = match lk S n with
    | some (.dic kvs) => (keyOf k).map fun k => ((getG kvs k).getD d, S)
    | _ => none := by
  unfold mtD lk
  dsimp only
  cases S[n]? with
  | none => rfl
  | some mo => cases mo <;> first | rfl | (cases k <;> first | rfl | cases hk)
theorem get1_dic0 {ks : List D} (h : lk S n = some (.dic [])) : mtD .get (.loc n) [.tup ks] S = (keyT ks).map fun _ => (.non, S) := by
  unfold lk at h
  unfold mtD
  dsimp only
  rw [h]
theorem get1_dit {ks : List D} {kvs : List (PySem.NestedKey × D)} (h : lk S n = some (.dit kvs)) : mtD .get (.loc n) [.tup ks] S = (keyT ks).map fun k => ((getG kvs k).getD .non, S) := by
  unfold lk at h
  unfold mtD
  dsimp only
  rw [h]
theorem ix_dit {ks : List D} : ixD (.loc m) (.tup ks) S = match lk S m with
    | some (.dit kvs) => (match keyT ks with
      | some k => getG kvs k
      | none => none)
    | _ => none := rfl
theorem getG_put {κ : Type} [DecidableEq κ] {kvs : List (κ × D)} {k k' : κ} {v : D} : getG (putG kvs k v) k' = if k' = k then some v else getG kvs k' := by
  unfold putG
  split
  · rename_i h
    induction kvs with
    | nil => simp at h
    | cons p r ih =>
      rw [List.map_cons]
      by_cases hp : p.1 = k
      · rw [if_pos hp]
        by_cases hk : k' = k
        · rw [if_pos hk, getG, List.find?_cons]; simp [hp, hk]
        · rw [if_neg hk]
          have h1 : ¬ p.1 = k' := fun z => hk (z.symm.trans hp)
          rw [getG, List.find?_cons, getG, List.find?_cons]
          simp only [h1, decide_false]
          by_cases ha : (r.any fun kv => decide (kv.1 = k)) = true
          · have := ih ha
            rw [if_neg hk] at this
            exact this
          · have e : r.map (fun kv => if kv.1 = k then (kv.1, v) else kv) = r := by
              rw [List.map_congr_left (g := id), List.map_id]
              intro x hx
              have : ¬ x.1 = k := fun z => ha (List.any_eq_true.mpr ⟨x, hx, by simpa using z⟩)
              rw [if_neg this]; rfl
            rw [e]
      · rw [if_neg hp]
        have ha : (r.any fun kv => decide (kv.1 = k)) = true := by simpa [hp] using h
        have := ih ha
        by_cases h1 : p.1 = k'
        · have hk : ¬ k' = k := fun z => hp (h1.trans z)
          rw [if_neg hk, getG, List.find?_cons, getG, List.find?_cons]
          simp [h1]
        · rw [getG, List.find?_cons]
          simp only [h1, decide_false]
          rw [show getG (p :: r) k' = getG r k' by rw [getG, List.find?_cons]; simp only [h1, decide_false]; rfl]
          exact this
  · rename_i h
    unfold getG
    rw [List.find?_append]
    by_cases hk : k' = k
    · rw [if_pos hk]
      have : kvs.find? (fun kv => decide (kv.1 = k')) = none := by
        rw [List.find?_eq_none]
        intro x hx z
        exact h (List.any_eq_true.mpr ⟨x, hx, by rw [← hk]; exact z⟩)
      rw [this]; simp [hk]
    · rw [if_neg hk]
      have : ¬ k = k' := fun z => hk z.symm
      simp [this]
theorem putG_len {κ : Type} [DecidableEq κ] {kvs : List (κ × D)} {k : κ} {v : D} : (putG kvs k v).length ≤ kvs.length + 1 := by
  unfold putG
  split
  · rw [List.length_map]; omega
  · rw [List.length_append]; exact Nat.le_refl _
theorem set_dit {ks : List D} {v : D} : setD (.loc m) (.tup ks) v S = match keyT ks with
    | some k => (match lk S m with
      | some (.dic []) => some (S.set m (.dit [(k, v)]))
      | some (.dit kvs) => if kvs.length < sizeLine then some (S.set m (.dit (putG kvs k v))) else none
      | _ => none)
    | none => none := rfl
theorem toPy_lk {n : Nat} : toPy S (n + 1) (.loc m) = match lk S m with
    | some (.lst ds) => (mapO (toPy S n) ds).map .list
    | _ => none := by
  rw [toPy]; rfl
theorem tr_lk : truthD S (.loc m) = match lk S m with
    | some (.lst ds) => some (!ds.isEmpty)
    | some (.dic kvs) => some (!kvs.isEmpty)
    | _ => none := rfl
end
/-! ### letting go, by ends -/
section
variable {S A B L L1 L2 : Store} {m : Nat} {d : D} {v w : MO}
theorem keepsOld_two : ∀ {A B : Store}, A.length = B.length → keepsOld A B = true → keepsOld L1 L2 = true → keepsOld (A ++ L1) (B ++ L2) = true
  | [], [], _, _, h => h
  | a :: r, b :: q, hl, h1, h2 => by
    have h3 : ((MO.beq a b || MO.pure b) && keepsOld r q) = true := h1
    show ((MO.beq a b || MO.pure b) && keepsOld (r ++ L1) (q ++ L2)) = true
    rw [Bool.and_eq_true] at h3 ⊢
    exact ⟨h3.1, keepsOld_two (by simpa using hl) h3.2 h2⟩
theorem gc_gen (hl : A.length = B.length) (hk : keepsOld A B = true) (hk2 : keepsOld L1 L2 = true) (hd : D.pure d = true) : gc (A ++ L1) d (B ++ L2) = (d, B ++ L2.take L1.length) := by
  rw [gc_pure (keepsOld_two hl hk hk2) hd, List.length_append, hl, List.take_length_add_append]
theorem kset (hv : MO.pure v = true) : keepsOld S (S.set m v) = true := keepsOld_set0 S m v hv
theorem ksets (hv : MO.pure w = true) : keepsOld (S.set m v) (S.set m w) = true := by
  have := kset (S := S.set m v) (m := m) hv
  rwa [List.set_set] at this
theorem gp_0 (hd : D.pure d = true) : gc S d S = (d, S) := gc_self hd
theorem gp_1 (hd : D.pure d = true) : gc S d (S ++ L) = (d, S) := gc_app hd
theorem gp_2 (hd : D.pure d = true) (hv : MO.pure v = true) : gc S d (S.set m v) = (d, S.set m v) := gc_set hv hd
theorem gp_3 (hd : D.pure d = true) (hv : MO.pure v = true) : gc S d (S.set m v ++ L) = (d, S.set m v) := gc_setapp hv hd
theorem gp_4 (hd : D.pure d = true) (hk : keepsOld L1 L2 = true) : gc (S ++ L1) d (S ++ L2) = (d, S ++ L2.take L1.length) := gc_gen rfl (keepsOld_self S) hk hd
theorem gp_5 (hd : D.pure d = true) (hv : MO.pure v = true) (hk : keepsOld L1 L2 = true) : gc (S ++ L1) d (S.set m v ++ L2) = (d, S.set m v ++ L2.take L1.length) := gc_gen len_set.symm (kset hv) hk hd
theorem gp_6 (hd : D.pure d = true) (hv : MO.pure w = true) : gc (S.set m v) d (S.set m w) = (d, S.set m w) := by
  have := gc_set (S := S.set m v) (n := m) hv hd
  rwa [List.set_set] at this
theorem gp_7 (hd : D.pure d = true) (hv : MO.pure w = true) : gc (S.set m v) d (S.set m w ++ L) = (d, S.set m w) := by
  have := gc_setapp (S := S.set m v) (n := m) (T := L) hv hd
  rwa [List.set_set] at this
theorem gp_8 (hd : D.pure d = true) (hv : MO.pure w = true) (hk : keepsOld L1 L2 = true) : gc (S.set m v ++ L1) d (S.set m w ++ L2) = (d, S.set m w ++ L2.take L1.length) := gc_gen (by rw [len_set, len_set]) (ksets hv) hk hd
theorem ko_n : keepsOld [] L = true := by unfold keepsOld; rfl
theorem ko_s : keepsOld (v :: L1) (v :: L2) = keepsOld L1 L2 := by
  show ((MO.beq v v || MO.pure v) && keepsOld L1 L2) = _
  rw [MO.beq_self]; rfl
theorem ko_p (h : MO.pure w = true) : keepsOld (v :: L1) (w :: L2) = keepsOld L1 L2 := by
  show ((MO.beq v w || MO.pure w) && keepsOld L1 L2) = _
  rw [h, Bool.or_true]; rfl
/-- a fresh pure list -/
theorem gl_gen {j : Nat} {mo : MO} (hl : A.length = B.length) (hk : keepsOld A B = true) (hk2 : keepsOld L1 L2 = true) (hj : L1.length ≤ j) (hm : lk L2 j = some mo) (hp : MO.pure mo = true) :
    gc (A ++ L1) (.loc (A.length + j)) (B ++ L2) = (.loc (A.length + L1.length), B ++ (L2.take L1.length ++ [mo])) := by
  unfold gc
  rw [if_pos (keepsOld_two hl hk hk2), if_neg (by simp [D.pure])]
  dsimp only
  have e : (B ++ L2)[A.length + j]? = some mo := by
    have := lk_app (S := B) (L := L2) (j := j)
    rw [hm] at this
    rw [hl]; exact this
  rw [if_neg (by rw [List.length_append]; omega), e]
  dsimp only
  rw [if_pos hp, List.length_append, hl, List.take_length_add_append, List.append_assoc]
theorem gl_0 {mo : MO} (hp : MO.pure mo = true) : gc S (.loc S.length) (S ++ mo :: L) = (.loc S.length, S ++ [mo]) := by
  have := gl_gen (A := S) (B := S) (L1 := []) (L2 := mo :: L) (j := 0) rfl (keepsOld_self S) rfl (Nat.le_refl _) rfl hp
  simpa using this
theorem gl_j {mo : MO} {j : Nat} (hm : lk L j = some mo) (hp : MO.pure mo = true) : gc S (.loc (S.length + j)) (S ++ L) = (.loc S.length, S ++ [mo]) := by
  have := gl_gen (A := S) (B := S) (L1 := []) (L2 := L) (j := j) rfl (keepsOld_self S) rfl (Nat.zero_le _) hm hp
  simpa using this
theorem gl_s0 {mo : MO} (hv : MO.pure v = true) (hp : MO.pure mo = true) : gc S (.loc S.length) (S.set m v ++ mo :: L) = (.loc S.length, S.set m v ++ [mo]) := by
  have := gl_gen (A := S) (B := S.set m v) (L1 := []) (L2 := mo :: L) (j := 0) len_set.symm (kset hv) rfl (Nat.le_refl _) rfl hp
  simpa using this
theorem gl_1 {j : Nat} {mo : MO} (hk2 : keepsOld L1 L2 = true) (hj : L1.length ≤ j) (hm : lk L2 j = some mo) (hp : MO.pure mo = true) :
    gc (S ++ L1) (.loc (S.length + j)) (S ++ L2) = (.loc (S.length + L1.length), S ++ (L2.take L1.length ++ [mo])) := gl_gen rfl (keepsOld_self S) hk2 hj hm hp
theorem gl_s1 {j : Nat} {mo : MO} (hv : MO.pure v = true) (hk2 : keepsOld L1 L2 = true) (hj : L1.length ≤ j) (hm : lk L2 j = some mo) (hp : MO.pure mo = true) :
    gc (S ++ L1) (.loc (S.length + j)) (S.set m v ++ L2) = (.loc (S.length + L1.length), S.set m v ++ (L2.take L1.length ++ [mo])) := gl_gen len_set.symm (kset hv) hk2 hj hm hp
end
/-! ### arithmetic -/
section
variable {i j : Int} {S : Store}
theorem mod_int (h : 0 < j) : opD .Mod (.int i) (.int j) S = some (.int (i % j), S) := if_pos h
theorem div_int (h : 0 < j) (h2 : j.natAbs.log2 < 9000) : opD .FloorDiv (.int i) (.int j) S = some (.int (i / j), S) := if_pos ⟨h, h2⟩
theorem mul_l (h : i.natAbs < 2 ^ 64) : opD .Mult (.int i) (.int j) S = some (.int (i * j), S) := if_pos (.inl h)
theorem mul_r (h : j.natAbs < 2 ^ 64) : opD .Mult (.int i) (.int j) S = some (.int (i * j), S) := if_pos (.inr (.inl h))
theorem pow_int {n : Nat} (h : n ≤ 1000000) (h2 : i.natAbs < 2 ^ 64) : opD .Pow (.int i) (.int n) S = some (.int (i ^ n), S) := by
  have : opD .Pow (.int i) (.int n) S = some (.int (i ^ (n : Int).toNat), S) := if_pos ⟨by omega, by omega, h2⟩
  rw [this, Int.toNat_natCast]
theorem log_small {n : Nat} (h : n < 2 ^ 8999) : n.log2 < 9000 := by
  rcases Nat.eq_zero_or_pos n with rfl | hp
  · decide
  · have := (Nat.log2_lt (by omega)).mpr (Nat.lt_of_lt_of_le h (Nat.pow_le_pow_right (by omega) (by omega : 8999 ≤ 9000)))
    exact this
end
theorem at_2 {d e f : D} {r : List D} : atI (d :: e :: f :: r) 2 = some f := by
  have h : (2 : Int) < ↑r.length + 1 + 1 + 1 := by omega
  simp [atI, ixN, h]
theorem at_3 {d e f g : D} {r : List D} : atI (d :: e :: f :: g :: r) 3 = some g := by
  have h : (3 : Int) < ↑r.length + 1 + 1 + 1 + 1 := by omega
  simp [atI, ixN, h]
theorem at_in {ds : List D} {i : Int} (h0 : 0 ≤ i) (h1 : i < ds.length) : ∃ d, ds[i.toNat]? = some d ∧ atI ds i = some d := by
  have hl : i.toNat < ds.length := by omega
  refine ⟨ds[i.toNat], List.getElem?_eq_getElem hl, ?_⟩
  have := at_nat (List.getElem?_eq_getElem hl)
  rwa [Int.toNat_of_nonneg h0] at this
end Mi
namespace Mi
open PySem
theorem sz_lt : (0 < sizeLine) = True := eq_true (by decide)
theorem natAbs_01 (b : Bool) : (if b = true then (1 : Int) else 0).natAbs < 2 ^ 64 := by cases b <;> decide
theorem natAbs_lt {i : Int} {n : Nat} (h0 : 0 ≤ i) (h : i < n) (hn : n ≤ 2 ^ 64) : i.natAbs < 2 ^ 64 := by omega
end Mi
namespace Mi
/-! not by rfl: for side conditions -/
theorem nr {α : Type} {a b : α} (h : a = b) : a = b := by cases h; exact (Eq.refl a)
theorem pr_int (i : Int) : D.pure (.int i) = true := nr rfl
theorem pr_bl (b : Bool) : D.pure (.bl b) = true := nr rfl
theorem pr_non : D.pure .non = true := nr rfl
theorem pr_str (x : PySem.Str) : D.pure (.str x) = true := nr rfl
theorem pr_tup (ds : List D) : D.pure (.tup ds) = D.pureL ds := nr rfl
theorem pr_ro (ds : List D) : D.pure (.ro ds) = D.pureL ds := nr rfl
theorem pr_nil : D.pureL [] = true := nr rfl
theorem pr_cons (d : D) (r : List D) : D.pureL (d :: r) = (D.pure d && D.pureL r) := nr rfl
theorem pr_lst (ds : List D) : MO.pure (.lst ds) = D.pureL ds := nr rfl
theorem pr_ite {p : Prop} [Decidable p] {d e : D} : D.pure (if p then d else e) = if p then D.pure d else D.pure e := by split <;> rfl
theorem pr_ints (xs : List Int) : D.pureL (xs.map D.int) = true := ints_pure xs
theorem pr_prs (tw : Tws) : D.pureL (tw.map prD) = true := prs_pure tw
theorem pr_app : ∀ (a b : List D), D.pureL (a ++ b) = (D.pureL a && D.pureL b)
  | [], b => nr rfl
  | d :: r, b => by rw [List.cons_append, pr_cons, pr_cons, pr_app r b, Bool.and_assoc]
theorem pr_kD (o : Option Int) : D.pure (kD o) = true := pure_kD o
end Mi
namespace Mi
theorem pureL_mem : ∀ {ds : List D} {d : D}, D.pureL ds = true → d ∈ ds → D.pure d = true
  | x :: r, d, h, hm => by
    rw [pr_cons, Bool.and_eq_true] at h
    rcases List.mem_cons.mp hm with rfl | hm
    · exact h.1
    · exact pureL_mem h.2 hm
end Mi
namespace Mi
theorem Fine.snoc : ∀ {tw : Tws} {p : Int × Int}, Fine tw → (∀ q ∈ tw, q.1 < p.1) → 1 ≤ p.2 → Fine (tw ++ [p])
  | [], p, _, _, h => ⟨h, (fun _ z => by cases z), trivial⟩
  | q :: r, p, ⟨h1, h2, h3⟩, h4, h => by
    refine ⟨h1, fun x hx => ?_, Fine.snoc h3 (fun y hy => h4 y (List.mem_cons_of_mem _ hy)) h⟩
    rcases List.mem_append.mp hx with hx | hx
    · exact h2 x hx
    · have : x = p := by simpa using hx
      rw [this]; exact h4 q (List.mem_cons_self ..)
theorem lt_size {n : Nat} (h : n ≤ 100000) : n < PySem.sizeLine := Nat.lt_of_le_of_lt h (by decide)
theorem le_size {n : Nat} (h : n ≤ 100000) : n ≤ PySem.sizeLine := Nat.le_of_lt (lt_size h)
end Mi
namespace Mi
theorem mt_1 : (Mt.append != Mt.get) = true := rfl
theorem mt_2 : (Mt.extend != Mt.get) = true := rfl
theorem mt_3 : (Mt.clear != Mt.get) = true := rfl
theorem mt_4 : (Mt.pop != Mt.get) = true := rfl
theorem mt_5 : (Mt.get == Mt.get) = true := rfl
theorem mt_6 : (Mt.count != Mt.get) = true := rfl
theorem mt_7 : (Mt.index != Mt.get) = true := rfl
end Mi

end

section
/-! Mi15: loops over typed rows. -/
namespace Mi
open PySem PySem.Spec
open L2 (atI ixN)
section
variable {α : Type} {ok : Store → Bool} {g : D → StD → Store → Option (StD × Store)} {b : StD → Store → Option (Fl × Store)} {σ : StD} {S : Store} {X : Option (Fl × Store)} {xs : List α} {inj : α → D}
theorem for_M (hX : forD ok g b (xs.map inj) σ S = X) (I : List α → StD → Store → Prop) (Post : Option (Fl × Store) → Prop)
    (h0 : I xs σ S) (hend : ∀ σ S, I [] σ S → ok S = true ∧ Post (some (.next σ, S))) (hs : ∀ x r σ S, I (x :: r) σ S → ok S = true ∧ stepOk (I r) Post (bnd (g (inj x) σ S) b)) : Post X := by
  refine for_X hX (fun its σ S => ∃ ys, its = ys.map inj ∧ I ys σ S) Post ⟨xs, rfl, h0⟩ ?_ ?_
  · rintro σ S ⟨ys, e, h⟩
    cases ys with
    | nil => exact hend σ S h
    | cons y r => cases e
  · rintro x r σ S ⟨ys, e, h⟩
    cases ys with
    | nil => cases e
    | cons y q =>
      rw [List.map_cons] at e
      injection e with e1 e2
      subst e1 e2
      obtain ⟨h1, h2⟩ := hs y q σ S h
      refine ⟨h1, ?_⟩
      cases hb : bnd (g (inj y) σ S) b with
      | none => rw [hb] at h2; exact h2
      | some p =>
        obtain ⟨f, T⟩ := p
        rw [hb] at h2
        cases f with
        | next τ => exact ⟨q, rfl, h2⟩
        | cnt τ => exact ⟨q, rfl, h2⟩
        | brk τ => exact h2
        | ret d => exact h2
theorem for_E {i : Int} (hX : forD ok g b (enumD i (xs.map inj)) σ S = X) (I : Nat → List α → StD → Store → Prop) (Post : Option (Fl × Store) → Prop)
    (h0 : I 0 xs σ S) (hend : ∀ n σ S, I n [] σ S → ok S = true ∧ Post (some (.next σ, S))) (hs : ∀ n x r σ S, I n (x :: r) σ S → ok S = true ∧ stepOk (I (n + 1) r) Post (bnd (g (.tup [.int (i + n), inj x]) σ S) b)) : Post X := by
  refine for_X hX (fun its σ S => ∃ (n : Nat) (ys : List α), its = enumD (i + n) (ys.map inj) ∧ I n ys σ S) Post ⟨0, xs, by simp, h0⟩ ?_ ?_
  · rintro σ S ⟨n, ys, e, h⟩
    cases ys with
    | nil => exact hend n σ S h
    | cons y r => cases e
  · rintro x r σ S ⟨n, ys, e, h⟩
    cases ys with
    | nil => cases e
    | cons y q =>
      rw [List.map_cons, enumD] at e
      injection e with e1 e2
      subst e1 e2
      obtain ⟨h1, h2⟩ := hs n y q σ S h
      refine ⟨h1, ?_⟩
      have en : i + (n : Int) + 1 = i + ((n + 1 : Nat) : Int) := by omega
      rw [en]
      cases hb : bnd (g (.tup [.int (i + n), inj y]) σ S) b with
      | none => rw [hb] at h2; exact h2
      | some p =>
        obtain ⟨f, T⟩ := p
        rw [hb] at h2
        cases f with
        | next τ => exact ⟨n + 1, q, rfl, h2⟩
        | cnt τ => exact ⟨n + 1, q, rfl, h2⟩
        | brk τ => exact h2
        | ret d => exact h2
/-- a loop that only folds -/
theorem for_fold {β : Type} (enc : β → StD) (st : β → Store) (f : β → α → β) {b0 : β} (hX : forD ok g b (xs.map inj) (enc b0) (st b0) = X) (J : List α → β → Prop) (h0 : J xs b0) (hok : ∀ r c, J r c → ok (st c) = true)
    (hs : ∀ x r c, J (x :: r) c → bnd (g (inj x) (enc c) (st c)) b = some (.next (enc (f c x)), st (f c x)) ∧ J r (f c x)) : X = some (.next (enc (xs.foldl f b0)), st (xs.foldl f b0)) := by
  subst hX
  induction xs generalizing b0 with
  | nil => rw [List.map_nil, forD, if_pos (hok _ _ h0)]; rfl
  | cons x r ih =>
    obtain ⟨h1, h2⟩ := hs x r b0 h0
    rw [List.map_cons, forD, if_pos (hok _ _ h0)]
    cases hg : g (inj x) (enc b0) (st b0) with
    | none => rw [hg] at h1; cases h1
    | some p =>
      obtain ⟨σ1, S1⟩ := p
      rw [hg, bnd_some] at h1
      dsimp only
      rw [h1]
      exact ih h2
end
section
variable {α : Type} {ok : Store → Bool} {g : D → Store → Option (StD × Store)} {c : StD → Store → Option (Bool × Store)} {e : StD → Store → Option (D × Store)} {S : Store} {X : Option (List D × Store)} {xs : List α} {inj : α → D} {acc : List D}
/-- one turn of a comprehension -/
def lcS (g : D → Store → Option (StD × Store)) (c : StD → Store → Option (Bool × Store)) (e : StD → Store → Option (D × Store)) (d : D) (S : Store) : Option (Option D × Store) :=
  bnd (g d S) fun σ S1 => bnd (c σ S1) (iteD (fun S2 => bnd (e σ S2) fun y S3 => some (some y, S3)) (fun S2 => some (none, S2)))
theorem lc_F (F : α → Option D) (hX : lcD ok g c e (xs.map inj) acc S = X) (hok : ok S = true) (hl : acc.length + xs.length ≤ sizeLine) (h : ∀ x ∈ xs, lcS g c e (inj x) S = some (F x, S)) : X = some (acc ++ xs.filterMap F, S) := by
  subst hX
  induction xs generalizing acc with
  | nil => simp [lcD, hok]
  | cons x r ih =>
    have h1 := h x (List.mem_cons_self ..)
    simp only [List.length_cons] at hl
    rw [List.map_cons, lcD, if_pos hok]
    unfold lcS at h1
    cases hg : g (inj x) S with
    | none => rw [hg] at h1; cases h1
    | some p =>
      obtain ⟨σ1, S1⟩ := p
      rw [hg, bnd_some] at h1
      dsimp only
      cases hc : c σ1 S1 with
      | none => rw [hc] at h1; cases h1
      | some q =>
        obtain ⟨t, S2⟩ := q
        rw [hc, bnd_some] at h1
        cases t with
        | false =>
          rw [ite_f] at h1
          injection h1 with h1
          injection h1 with h2 h3
          subst h3
          dsimp only
          rw [ih (by omega) fun y hy => h y (List.mem_cons_of_mem _ hy), List.filterMap_cons, ← h2]
        | true =>
          rw [ite_t] at h1
          dsimp only
          cases he : e σ1 S2 with
          | none => rw [he] at h1; cases h1
          | some z =>
            obtain ⟨y, S3⟩ := z
            rw [he, bnd_some] at h1
            injection h1 with h1
            injection h1 with h2 h3
            subst h3
            dsimp only
            rw [if_pos (by omega), ih (by simp; omega) fun y hy => h y (List.mem_cons_of_mem _ hy), List.filterMap_cons, ← h2]
            simp
theorem filterMap_pf {α β : Type} (p : α → Bool) (f : α → β) : ∀ xs : List α, xs.filterMap (fun x => if p x = true then some (f x) else none) = (xs.filter p).map f
  | [] => rfl
  | x :: r => by
    rw [List.filterMap_cons, List.filter_cons]
    cases hp : p x with
    | true => simp; exact filterMap_pf p f r
    | false => simp; exact filterMap_pf p f r
theorem lc_f (f : α → D) (hX : lcD ok g c e (xs.map inj) acc S = X) (hok : ok S = true) (hl : acc.length + xs.length ≤ sizeLine) (h : ∀ x ∈ xs, lcS g c e (inj x) S = some (some (f x), S)) : X = some (acc ++ xs.map f, S) := by
  rw [lc_F (fun x => some (f x)) hX hok hl h]
  congr 3
  rw [List.filterMap_eq_map']
theorem lc_pf (p : α → Bool) (f : α → D) (hX : lcD ok g c e (xs.map inj) acc S = X) (hok : ok S = true) (hl : acc.length + xs.length ≤ sizeLine) (h : ∀ x ∈ xs, lcS g c e (inj x) S = if p x = true then some (some (f x), S) else some (none, S)) : X = some (acc ++ (xs.filter p).map f, S) := by
  rw [lc_F (fun x => if p x = true then some (f x) else none) hX hok hl fun x hx => by rw [h x hx]; split <;> rfl]
  congr 3
  exact filterMap_pf p f xs
end
/-! open tests -/
theorem ite_b {α : Type} {k l : Store → Option (α × Store)} {b : Bool} {S : Store} : iteD k l b S = if b = true then k S else l S := by cases b <;> rfl
theorem bnd_if {α β : Type} {p : Prop} [Decidable p] {x y : Option (α × Store)} {f : α → Store → Option (β × Store)} : bnd (if p then x else y) f = if p then bnd x f else bnd y f := by split <;> rfl
theorem seqF_if {p : Prop} [Decidable p] {x y : Option (Fl × Store)} {k : StD → Store → Option (Fl × Store)} : seqF (if p then x else y) k = if p then seqF x k else seqF y k := by split <;> rfl
theorem out_if {p : Prop} [Decidable p] {S : Store} {x y : Option (Fl × Store)} : outD S (if p then x else y) = if p then outD S x else outD S y := by split <;> rfl
theorem bopD_b {o : BoolOp} {k : Store → Option (D × Store)} {b : Bool} {S : Store} : bopD o k (.bl b) S = if (match o with | .And => b | .Or => !b) = true then k S else some (.bl b, S) := by cases o <;> cases b <;> rfl
theorem bopB_and {k : Store → Option (Bool × Store)} {b : Bool} {S : Store} : bopB .And k b S = if b = true then k S else some (false, S) := by cases b <;> rfl
theorem bopB_or {k : Store → Option (Bool × Store)} {b : Bool} {S : Store} : bopB .Or k b S = if b = true then some (true, S) else k S := by cases b <;> rfl
theorem bopD_and {k : Store → Option (D × Store)} {b : Bool} {S : Store} : bopD .And k (.bl b) S = if b = true then k S else some (.bl false, S) := by cases b <;> rfl
theorem bopD_or {k : Store → Option (D × Store)} {b : Bool} {S : Store} : bopD .Or k (.bl b) S = if b = true then some (.bl true, S) else k S := by cases b <;> rfl
theorem if_same_bool {S : Store} {b : Bool} {x y : Bool} : (if b = true then some (x, S) else some (y, S)) = some (if b = true then x else y, S) := by cases b <;> rfl
theorem if_bf {b : Bool} : (if b = true then true else false) = b := by cases b <;> rfl
theorem if_bx {b x : Bool} : (if b = true then x else false) = (b && x) := by cases b <;> rfl
theorem if_xt {b x : Bool} : (if b = true then true else x) = (b || x) := by cases b <;> rfl
end Mi

end

section
/-! Mi16: towers: plain facts. -/
namespace Mi
open PySem PySem.Spec
open L2 (atI ixN Key)
def kvP (p : Int × Int) : Key × D := (.inl p.1, .int p.2)
def dicT (tw : Tws) : List (Key × D) := (tw.map kvP).foldl (fun acc p => putG acc p.1 p.2) []
theorem pairKV_prs {S : Store} : ∀ tw : Tws, mapO (pairKV S) (tw.map prD) = some (tw.map kvP)
  | [] => rfl
  | p :: r => by rw [List.map_cons, mapO]; dsimp only [prD, pairKV, seqOf, keyOf, Option.map]; rw [show mapO (pairKV S) (r.map prD) = _ from pairKV_prs r]; rfl
theorem dict_prs {S : Store} {tw : Tws} : biD .dict [.tup (tw.map prD)] S = some (.loc S.length, S ++ [.dic (dicT tw)]) := by
  have e : biD .dict [.tup (tw.map prD)] S = (mapO (pairKV S) (tw.map prD)).map (fun (kvs : List (Key × D)) => (D.loc S.length, S ++ [MO.dic (kvs.foldl (fun (acc : List (Key × D)) (p : Key × D) => putG acc p.1 p.2) [])])) := rfl
  rw [e, pairKV_prs]; rfl
theorem pairKV_tw {S : Store} : ∀ {ds : List D} {tw : Tws}, TwL S ds tw → mapO (pairKV S) ds = some (tw.map kvP)
  | [], [], _ => rfl
  | d :: ds, p :: tw, ⟨h1, h2⟩ => by
    have e : pairKV S d = some (kvP p) := by unfold pairKV; rw [h1]; rfl
    rw [mapO, e]
    dsimp only
    rw [pairKV_tw h2]; rfl
/-- dict(..) of towers, whatever rows they are -/
theorem dict_tw {S : Store} {v : D} {tw : Tws} (hv : IsTw S v tw) : biD .dict [v] S = some (.loc S.length, S ++ [.dic (dicT tw)]) := by
  obtain ⟨⟨ds, h1, h2⟩, _, _⟩ := hv
  have e : biD .dict [v] S = match seqOf S v with
      | some ds => (mapO (pairKV S) ds).map (fun (kvs : List (Key × D)) => (D.loc S.length, S ++ [MO.dic (kvs.foldl (fun (acc : List (Key × D)) (p : Key × D) => putG acc p.1 p.2) [])]))
      | none => none := by
    unfold biD
    cases v <;> rfl
  rw [e, h1]
  dsimp only
  rw [pairKV_tw h2]; rfl
theorem fold_put : ∀ (tw : Tws) (acc : List (Key × D)), Fine tw → (∀ q ∈ acc, ∀ p ∈ tw, q.1 ≠ .inl p.1) → (tw.map kvP).foldl (fun acc p => putG acc p.1 p.2) acc = acc ++ tw.map kvP
  | [], acc, _, _ => by simp
  | p :: r, acc, ⟨h1, h2, h3⟩, h => by
    have hn : (acc.any fun kv => decide (kv.1 = (Sum.inl p.1 : Key))) = false := by
      rw [List.any_eq_false]
      intro q hq
      simpa using h q hq p (List.mem_cons_self ..)
    have e : putG acc (Sum.inl p.1 : Key) (.int p.2) = acc ++ [kvP p] := by
      unfold putG; rw [hn]; rfl
    rw [List.map_cons, List.foldl_cons]
    show (r.map kvP).foldl _ (putG acc (kvP p).1 (kvP p).2) = _
    rw [show putG acc (kvP p).1 (kvP p).2 = _ from e, fold_put r _ h3 ?_]
    · simp
    · intro q hq x hx
      rcases List.mem_append.mp hq with hq | hq
      · exact h q hq x (List.mem_cons_of_mem _ hx)
      · have : q = kvP p := by simpa using hq
        rw [this]
        intro z
        have z2 : p.1 = x.1 := Sum.inl.inj z
        have := h2 x hx
        omega
theorem dicT_fine {tw : Tws} (h : Fine tw) : dicT tw = tw.map kvP := by
  unfold dicT
  rw [fold_put tw [] h (fun q hq => nomatch hq)]; rfl
def hOf (tw : Tws) (key : Int) : Int := ((tw.find? fun p => decide (p.1 = key)).map (·.2)).getD 0
theorem get_kvP (key : Int) : ∀ (tw : Tws), getG (tw.map kvP) (Sum.inl key) = (tw.find? fun p => decide (p.1 = key)).map fun p => D.int p.2
  | [] => rfl
  | p :: r => by
    have ih := get_kvP key r
    unfold getG at ih ⊢
    rw [List.map_cons, List.find?_cons, List.find?_cons]
    have e : decide ((kvP p).1 = (Sum.inl key : Key)) = decide (p.1 = key) := by
      simp [kvP]
    rw [e]
    cases decide (p.1 = key) with
    | true => rfl
    | false => exact ih
theorem get_dicT {tw : Tws} (h : Fine tw) {key : Int} : (getG (dicT tw) (Sum.inl key)).getD (.int 0) = .int (hOf tw key) := by
  rw [dicT_fine h, get_kvP]
  unfold hOf
  cases tw.find? fun p => decide (p.1 = key) <;> rfl
theorem key_int {i : Int} : keyOf (.int i) = some (.inl i) := rfl
/-! all links -/
def linksR : Tws → List D
  | [] => []
  | p :: r => (rangeI 1 p.2.toNat).map (fun l => linkD r (some p.1) l) ++ linksR r
def linksT (tw : Tws) : List D := (rangeI 1 (hiT tw).toNat).map (fun l => linkD tw none l) ++ linksR tw
theorem linksR_len : ∀ {tw : Tws} {n : Nat}, (∀ p ∈ tw, p.2 ≤ n) → (linksR tw).length ≤ tw.length * n
  | [], n, _ => by simp [linksR]
  | p :: r, n, h => by
    rw [linksR, List.length_append, List.length_map, rangeI_len, List.length_cons, Nat.succ_mul]
    have := linksR_len (tw := r) (n := n) fun q hq => h q (List.mem_cons_of_mem _ hq)
    have h2 := h p (List.mem_cons_self ..)
    omega
theorem greatest_le {n : Int} : ∀ {r : List Int} {i : Int}, i ≤ n → (∀ j ∈ r, j ≤ n) → greatest i r ≤ n
  | [], i, h, _ => h
  | j :: r, i, h, h2 => by
    show List.foldl max (max i j) r ≤ n
    exact greatest_le (by have := h2 j (List.mem_cons_self ..); omega) fun x hx => h2 x (List.mem_cons_of_mem _ hx)
theorem le_greatest : ∀ {r : List Int} {i : Int}, i ≤ greatest i r ∧ ∀ j ∈ r, j ≤ greatest i r
  | [], i => ⟨Int.le_refl _, fun _ z => nomatch z⟩
  | j :: r, i => by
    have h : max i j ≤ greatest (max i j) r ∧ _ := le_greatest (r := r) (i := max i j)
    refine ⟨?_, fun x hx => ?_⟩
    · show i ≤ greatest (max i j) r
      have := h.1; omega
    · show x ≤ greatest (max i j) r
      rcases List.mem_cons.mp hx with rfl | hx
      · have := h.1; omega
      · exact h.2 x hx
theorem hiT_le {tw : Tws} {n : Int} (h0 : 0 ≤ n) (h : ∀ p ∈ tw, p.2 ≤ n) : hiT tw ≤ n := by
  cases tw with
  | nil => exact h0
  | cons p r =>
    refine greatest_le (h p (List.mem_cons_self ..)) fun j hj => ?_
    obtain ⟨q, hq, rfl⟩ := List.mem_map.mp hj
    exact h q (List.mem_cons_of_mem _ hq)
theorem le_hiT {tw : Tws} {p : Int × Int} (h : p ∈ tw) : p.2 ≤ hiT tw := by
  cases tw with
  | nil => cases h
  | cons q r =>
    rcases List.mem_cons.mp h with rfl | h
    · exact le_greatest.1
    · exact le_greatest.2 _ (List.mem_map.mpr ⟨p, h, rfl⟩)
theorem Fine.pos : ∀ {tw : Tws}, Fine tw → ∀ p ∈ tw, 1 ≤ p.2
  | q :: r, ⟨h1, h2, h3⟩, p, hp => by
    rcases List.mem_cons.mp hp with rfl | hp
    · exact h1
    · exact Fine.pos h3 p hp
theorem hiT_nn {tw : Tws} (h : Fine tw) : 0 ≤ hiT tw := by
  cases tw with
  | nil => exact Int.le_refl _
  | cons p r => have := le_hiT (tw := p :: r) (List.mem_cons_self ..); have := h.1; omega
theorem Fine.drop : ∀ {tw : Tws} (n : Nat), Fine tw → Fine (tw.drop n)
  | tw, 0, h => h
  | [], n + 1, h => trivial
  | p :: r, n + 1, h => Fine.drop n h.2.2
theorem Fine.app : ∀ {a b : Tws}, Fine (a ++ b) → Fine a ∧ Fine b ∧ ∀ p ∈ a, ∀ q ∈ b, p.1 < q.1
  | [], b, h => ⟨trivial, h, fun _ z => nomatch z⟩
  | p :: a, b, ⟨h1, h2, h3⟩ => by
    obtain ⟨i1, i2, i3⟩ := Fine.app h3
    refine ⟨⟨h1, fun q hq => h2 q (List.mem_append_left _ hq), i1⟩, i2, fun x hx q hq => ?_⟩
    rcases List.mem_cons.mp hx with rfl | hx
    · exact h2 q (List.mem_append_right _ hq)
    · exact i3 x hx q hq
/-- behind a key of the row: what follows it -/
theorem nextK_app {a r : Tws} {p : Int × Int} {l : Int} (h : Fine (a ++ p :: r)) : nextK (a ++ p :: r) (some p.1) l = (keysAt r l).head? := by
  obtain ⟨h1, ⟨h2, h3, h4⟩, h5⟩ := h.app
  unfold nextK keysAt
  have e1 : a.filter (beyond (some p.1) l) = [] := by
    rw [List.filter_eq_nil_iff]
    intro q hq
    have := h5 q hq p (List.mem_cons_self ..)
    simp [beyond]; omega
  have e2 : beyond (some p.1) l p = false := by simp [beyond]
  have e3 : r.filter (beyond (some p.1) l) = r.filter fun q => decide (l ≤ q.2) := by
    apply List.filter_congr
    intro q hq
    have := h3 q hq
    simp [beyond, this]
  rw [List.filter_append, e1, List.nil_append, List.filter_cons, e2, e3]
  simp
theorem nextK_none {tw : Tws} {l : Int} : nextK tw none l = (keysAt tw l).head? := by
  unfold nextK keysAt
  congr 3
  funext q
  simp [beyond]
theorem cut_prs {tw r : Tws} {p : Int × Int} {n : Nat} (h : tw.drop n = p :: r) : cut (tw.map prD) (some ((n : Int) + 1)) none = r.map prD := by
  have hl : n < tw.length := by
    rcases Nat.lt_or_ge n tw.length with h1 | h1
    · exact h1
    · rw [List.drop_eq_nil_of_le h1] at h; cases h
  have := cut_from (xs := tw.map prD) (n := n + 1) (by rw [List.length_map]; omega)
  rw [show ((n : Int) + 1) = ((n + 1 : Nat) : Int) by omega, this, ← List.map_drop]
  congr 1
  rw [← List.drop_drop, h]; rfl
theorem pr_linkD (tw : Tws) (o : Option Int) (l : Int) : D.pure (linkD tw o l) = true := by
  unfold linkD
  rw [pr_tup, pr_cons, pr_cons, pr_cons, pr_kD, pr_kD, pr_int, pr_nil]; rfl
theorem pr_links (tw : Tws) (o : Option Int) (ls : List Int) : D.pureL (ls.map fun l => linkD tw o l) = true := pureL_map ls fun _ _ => pr_linkD tw o _
theorem pr_linksR : ∀ tw : Tws, D.pureL (linksR tw) = true
  | [] => rfl
  | p :: r => by rw [linksR, pr_app, pr_links, pr_linksR r]; rfl
theorem pr_linksT (tw : Tws) : D.pureL (linksT tw) = true := by rw [linksT, pr_app, pr_links, pr_linksR]; rfl
end Mi
namespace Mi
open PySem
open L2 (Key)
theorem pr_dic (kvs : List (Key × D)) : MO.pure (.dic kvs) = D.pureL (kvs.map (·.2)) := nr rfl
theorem pr_dicT {tw : Tws} (h : Fine tw) : D.pureL ((dicT tw).map (·.2)) = true := by
  rw [dicT_fine h, List.map_map]; exact pureL_map tw fun _ _ => rfl
theorem linksT_len {tw : Tws} (hf : Fine tw) (hl : tw.length ≤ 1000) (hh : ∀ p ∈ tw, p.2 ≤ 1000) : (linksT tw).length ≤ 1001000 := by
  have h0 := hiT_nn hf
  have h1 := hiT_le (n := 1000) (by decide) hh
  have h2 := linksR_len (n := 1000) hh
  rw [linksT, List.length_append, List.length_map, rangeI_len]
  have : tw.length * 1000 ≤ 1000 * 1000 := Nat.mul_le_mul_right _ hl
  omega
end Mi
namespace Mi
theorem beyond_n {l : Int} {p : Int × Int} : beyond none l p = decide (l ≤ p.2) := by simp [beyond]
theorem beyond_s {q l : Int} {p : Int × Int} : beyond (some q) l p = (decide (l ≤ p.2) && decide (q < p.1)) := rfl
theorem nextK_cons {p : Int × Int} {r : Tws} {key : Option Int} {l : Int} : nextK (p :: r) key l = if beyond key l p = true then some p.1 else nextK r key l := by
  unfold nextK
  rw [List.filter_cons]
  split <;> rfl
end Mi

end

section
/-! Mi17: equality. -/
namespace Mi
open PySem PySem.Spec
open L2 (atI ixN Key)
def pyOk (S : Store) (ds : List D) : Bool := (mapO (toPy S 119) ds).isSome
def eqS (S : Store) (a b : List D) : Option Bool :=
  match mapO (toPy S 119) a, mapO (toPy S 119) b with
  | some p, some q => some (PyData.eqvAll p q)
  | _, _ => none
def eqL (S : Store) : Option MO → Option MO → Option Bool
  | some (.lst a), some (.lst b) => eqS S a b
  | _, _ => none
section
variable {S : Store} {a b : Nat} {ds es : List D}
theorem eqD_ll : eqD S (.loc a) (.loc b) = eqL S (lk S a) (lk S b) := by
  unfold eqD
  rw [toPy_lk (n := 119), toPy_lk (n := 119)]
  cases lk S a with
  | none => rfl
  | some x => cases x with
    | lst p =>
      cases lk S b with
      | none => dsimp only [eqL]; cases mapO (toPy S 119) p <;> rfl
      | some y => cases y with
        | lst q =>
          dsimp only [eqL, eqS]
          cases mapO (toPy S 119) p <;> cases mapO (toPy S 119) q <;> rfl
        | _ => dsimp only [eqL]; cases mapO (toPy S 119) p <;> rfl
    | _ => rfl
theorem eqD_tt : eqD S (.tup ds) (.tup es) = eqS S ds es := by
  unfold eqD eqS
  rw [toPy, toPy]
  cases mapO (toPy S 119) ds <;> cases mapO (toPy S 119) es <;> rfl
theorem eqL_ll : eqL S (some (.lst ds)) (some (.lst es)) = eqS S ds es := rfl
theorem eqv_all_refl {ps : List PyData} (h : PyData.eqv (.list ps) (.list ps) = true) : PyData.eqvAll ps ps = true := h
theorem eqS_same (h : pyOk S ds = true) : eqS S ds ds = some true := by
  unfold pyOk at h
  unfold eqS
  cases e : mapO (toPy S 119) ds with
  | none => rw [e] at h; cases h
  | some ps =>
    dsimp only
    congr 1
    exact eqvAll_of ps (mapO_all (fun a b e => toPy_refl 119 a b e) e)
theorem eqS_nil (h : pyOk S ds = true) : eqS S ds [] = some ds.isEmpty := by
  unfold pyOk at h
  unfold eqS
  cases e : mapO (toPy S 119) ds with
  | none => rw [e] at h; cases h
  | some ps =>
    have := mapO_len e
    have e2 : mapO (toPy S 119) ([] : List D) = some [] := rfl
    rw [e2]
    dsimp only
    cases ps <;> cases ds <;> first | rfl | (simp at this)
theorem eqvAll_ints : ∀ (xs ys : List Int), PyData.eqvAll (xs.map .int) (ys.map .int) = decide (xs = ys)
  | [], [] => rfl
  | [], y :: ys => rfl
  | x :: xs, [] => rfl
  | x :: xs, y :: ys => by
    rw [List.map_cons, List.map_cons, PyData.eqvAll, eqvAll_ints xs ys]
    have : PyData.eqv (.int x) (.int y) = decide (x = y) := by
      have h := eq_int (i := x) (j := y) (S := [])
      exact Option.some.inj h
    rw [this]
    by_cases h1 : x = y <;> by_cases h2 : xs = ys <;> simp [h1, h2]
theorem eqS_ints {xs ys : List Int} : eqS S (xs.map D.int) (ys.map D.int) = some (decide (xs = ys)) := by
  unfold eqS
  rw [ints_py, ints_py]
  dsimp only
  rw [eqvAll_ints]
end
theorem mapO_some_app {α β : Type} {F : α → Option β} : ∀ (a b : List α), (mapO F (a ++ b)).isSome = ((mapO F a).isSome && (mapO F b).isSome)
  | [], b => by simp [mapO]
  | x :: r, b => by
    rw [List.cons_append, mapO, mapO]
    have ih := mapO_some_app (F := F) r b
    cases F x with
    | none => rfl
    | some y =>
      dsimp only
      cases h1 : mapO F r <;> cases h2 : mapO F (r ++ b) <;> cases h3 : mapO F b <;> rw [h1, h2, h3] at ih <;> simp at ih ⊢
theorem py_app (S : Store) (a b : List D) : pyOk S (a ++ b) = (pyOk S a && pyOk S b) := mapO_some_app a b
theorem py_nil (S : Store) : pyOk S [] = true := nr rfl
theorem py_map {α : Type} {S : Store} {f : α → D} : ∀ {xs : List α}, (∀ x ∈ xs, (toPy S 119 (f x)).isSome = true) → pyOk S (xs.map f) = true
  | [], _ => rfl
  | x :: r, h => by
    have h1 := h x (List.mem_cons_self ..)
    have h2 := py_map (xs := r) fun y hy => h y (List.mem_cons_of_mem _ hy)
    unfold pyOk at h2 ⊢
    rw [List.map_cons, mapO]
    cases e1 : toPy S 119 (f x) with
    | none => rw [e1] at h1; cases h1
    | some p =>
      cases e2 : mapO (toPy S 119) (r.map f) with
      | none => rw [e2] at h2; cases h2
      | some q => rfl
theorem py_cons (S : Store) (d : D) (r : List D) : pyOk S (d :: r) = ((toPy S 119 d).isSome && pyOk S r) := by
  unfold pyOk
  rw [mapO]
  cases toPy S 119 d with
  | none => rfl
  | some p => cases mapO (toPy S 119) r <;> rfl
theorem py_ints (S : Store) (xs : List Int) : pyOk S (xs.map D.int) = true := py_map fun _ _ => by rw [toPy_int]; rfl
theorem py_int (S : Store) (n : Nat) (i : Int) : (toPy S n (.int i)).isSome = true := by rw [toPy_int]; rfl
theorem py_bl (S : Store) (n : Nat) (b : Bool) : (toPy S n (.bl b)).isSome = true := by rw [toPy_bl]; rfl
theorem py_non (S : Store) (n : Nat) : (toPy S n .non).isSome = true := by rw [toPy_non]; rfl
theorem py_kD (S : Store) (n : Nat) (o : Option Int) : (toPy S n (kD o)).isSome = true := by
  cases o
  · exact py_non S n
  · exact py_int S n _
/-- flat things -/
def flatD : D → Bool
  | .non => true | .bl _ => true | .int _ => true | _ => false
def flat2 : D → Bool
  | .tup ds => ds.all flatD
  | d => flatD d
theorem py_flat {S : Store} {n : Nat} {d : D} (h : flatD d = true) : (toPy S n d).isSome = true := by
  cases d with
  | non => exact py_non S n
  | bl b => exact py_bl S n b
  | int i => exact py_int S n i
  | _ => cases h
theorem mapO_isSome {α β : Type} {F : α → Option β} : ∀ {xs : List α}, (∀ x ∈ xs, (F x).isSome = true) → (mapO F xs).isSome = true
  | [], _ => rfl
  | x :: r, h => by
    have h1 := h x (List.mem_cons_self ..)
    have h2 := mapO_isSome (xs := r) fun y hy => h y (List.mem_cons_of_mem _ hy)
    rw [mapO]
    cases e1 : F x with
    | none => rw [e1] at h1; cases h1
    | some p =>
      cases e2 : mapO F r with
      | none => rw [e2] at h2; cases h2
      | some q => rfl
theorem py_flat2 {S : Store} {n : Nat} {d : D} (h : flat2 d = true) : (toPy S (n + 1) d).isSome = true := by
  cases d with
  | tup ds =>
    rw [toPy]
    have := mapO_isSome (F := toPy S n) (xs := ds) fun x hx => py_flat (List.all_eq_true.mp h x hx)
    cases e : mapO (toPy S n) ds with
    | none => rw [e] at this; cases this
    | some q => rfl
  | non => exact py_non S _
  | bl b => exact py_bl S _ b
  | int i => exact py_int S _ i
  | _ => cases h
theorem py_all2 {S : Store} {ds : List D} (h : ∀ d ∈ ds, flat2 d = true) : pyOk S ds = true := mapO_isSome fun x hx => py_flat2 (n := 118) (h x hx)
theorem flat_kD (o : Option Int) : flatD (kD o) = true := by cases o <;> rfl
theorem flat_linkD (tw : Tws) (o : Option Int) (l : Int) : flat2 (linkD tw o l) = true := by
  show ([kD o, D.int l, kD (keysAt tw l).head?].all flatD) = true
  rw [List.all_cons, List.all_cons, List.all_cons, flat_kD, flat_kD]; rfl
theorem flat_linksR : ∀ (tw : Tws), ∀ d ∈ linksR tw, flat2 d = true
  | [], d, h => by cases h
  | p :: r, d, h => by
    rw [linksR] at h
    rcases List.mem_append.mp h with h | h
    · obtain ⟨l, _, rfl⟩ := List.mem_map.mp h
      exact flat_linkD r _ l
    · exact flat_linksR r d h
theorem py_links (S : Store) (tw : Tws) : pyOk S (linksT tw) = true := by
  refine py_all2 fun d h => ?_
  rw [linksT] at h
  rcases List.mem_append.mp h with h | h
  · obtain ⟨l, _, rfl⟩ := List.mem_map.mp h
    exact flat_linkD tw _ l
  · exact flat_linksR tw d h
theorem py_prs (S : Store) (tw : Tws) : pyOk S (tw.map prD) = true := py_all2 fun d h => by
  obtain ⟨p, _, rfl⟩ := List.mem_map.mp h
  rfl
theorem eq_D {S : Store} {d e : D} : cmpD .Eq d e S = eqD S d e := rfl
theorem ne_D {S : Store} {d e : D} : cmpD .NotEq d e S = (eqD S d e).map (!·) := rfl
theorem eqD_ii {S : Store} {i j : Int} : eqD S (.int i) (.int j) = some (decide (i = j)) := eq_int (S := S)
theorem eqD_kk {S : Store} {o : Option Int} : eqD S (kD o) (kD o) = some true := by
  have h : ∃ p, toPy S 120 (kD o) = some p := by
    cases o with
    | none => exact ⟨_, toPy_non⟩
    | some i => exact ⟨_, toPy_int⟩
  obtain ⟨p, h⟩ := h
  exact eqD_same h h
end Mi
namespace Mi
theorem fm_none {α β : Type} : ∀ xs : List α, xs.filterMap (fun _ => (none : Option β)) = []
  | [] => rfl
  | _ :: r => by rw [List.filterMap_cons]; exact fm_none r
theorem kD_places (ps : List Int) : ps.map D.int ++ [D.non] = (ps.map some ++ [none]).map kD := by
  rw [List.map_append, List.map_map]; rfl
end Mi
namespace Mi
open PySem
def gcR (n : Nat) (B L1 L2 : Store) (j : Nat) : D × Store :=
  if keepsOld L1 L2 = true then
    (if j < L1.length then (.loc (n + j), B ++ L2.take L1.length)
    else match lk L2 j with
      | some mo => if MO.pure mo = true then (.loc (n + L1.length), B ++ (L2.take L1.length ++ [mo])) else (.loc (n + j), B ++ L2)
      | none => (.loc (n + j), B ++ L2))
  else (.loc (n + j), B ++ L2)
section
variable {S A B L1 L2 : Store} {m j : Nat} {v w : MO}
theorem keepsOld_eq : ∀ {A B : Store}, A.length = B.length → keepsOld (A ++ L1) (B ++ L2) = (keepsOld A B && keepsOld L1 L2)
  | [], [], _ => by simp [keepsOld]
  | a :: r, b :: q, hl => by
    show ((MO.beq a b || MO.pure b) && keepsOld (r ++ L1) (q ++ L2)) = (((MO.beq a b || MO.pure b) && keepsOld r q) && keepsOld L1 L2)
    rw [keepsOld_eq (by simpa using hl), Bool.and_assoc]
theorem gq_gen (hl : A.length = B.length) (hk : keepsOld A B = true) : gc (A ++ L1) (.loc (A.length + j)) (B ++ L2) = gcR A.length B L1 L2 j := by
  unfold gc gcR
  rw [keepsOld_eq hl, hk, Bool.true_and]
  by_cases h : keepsOld L1 L2 = true
  · rw [if_pos h, if_pos h, if_neg (by simp [D.pure])]
    dsimp only
    by_cases h2 : j < L1.length
    · rw [if_pos h2, if_pos (by rw [List.length_append]; omega), List.length_append, hl, List.take_length_add_append]
    · rw [if_neg h2, if_neg (by rw [List.length_append]; omega)]
      have e : (B ++ L2)[A.length + j]? = lk L2 j := by rw [hl]; exact lk_app
      rw [e]
      cases lk L2 j with
      | none => rfl
      | some mo =>
        dsimp only
        by_cases h3 : MO.pure mo = true
        · rw [if_pos h3, if_pos h3, List.length_append, hl, List.take_length_add_append, List.append_assoc]
        · rw [if_neg h3, if_neg h3]
  · rw [if_neg h, if_neg h]
theorem gq_1 : gc (S ++ L1) (.loc (S.length + j)) (S ++ L2) = gcR S.length S L1 L2 j := gq_gen rfl (keepsOld_self S)
theorem gq_2 : gc (S ++ L1) (.loc S.length) (S ++ L2) = gcR S.length S L1 L2 0 := gq_gen (j := 0) rfl (keepsOld_self S)
theorem gq_3 : gc S (.loc (S.length + j)) (S ++ L2) = gcR S.length S [] L2 j := by
  have := gq_1 (S := S) (L1 := []) (L2 := L2) (j := j)
  rwa [List.append_nil] at this
theorem gq_4 : gc S (.loc S.length) (S ++ L2) = gcR S.length S [] L2 0 := gq_3 (j := 0)
theorem gq_5 (hv : MO.pure v = true) : gc (S ++ L1) (.loc (S.length + j)) (S.set m v ++ L2) = gcR S.length (S.set m v) L1 L2 j := gq_gen len_set.symm (kset hv)
theorem gq_6 (hv : MO.pure v = true) : gc (S ++ L1) (.loc S.length) (S.set m v ++ L2) = gcR S.length (S.set m v) L1 L2 0 := gq_gen (j := 0) len_set.symm (kset hv)
theorem gq_7 (hv : MO.pure v = true) : gc S (.loc (S.length + j)) (S.set m v ++ L2) = gcR S.length (S.set m v) [] L2 j := by
  have := gq_5 (S := S) (L1 := []) (L2 := L2) (j := j) (m := m) hv
  rwa [List.append_nil] at this
theorem gq_8 (hv : MO.pure v = true) : gc S (.loc S.length) (S.set m v ++ L2) = gcR S.length (S.set m v) [] L2 0 := gq_7 (j := 0) hv
theorem gq_9 (hv : MO.pure w = true) : gc (S.set m v ++ L1) (.loc (S.length + j)) (S.set m w ++ L2) = gcR S.length (S.set m w) L1 L2 j := by
  have := gq_gen (A := S.set m v) (B := S.set m w) (L1 := L1) (L2 := L2) (j := j) (by rw [len_set, len_set]) (ksets hv)
  rwa [len_set] at this
theorem gq_10 (hv : MO.pure w = true) : gc (S.set m v ++ L1) (.loc S.length) (S.set m w ++ L2) = gcR S.length (S.set m w) L1 L2 0 := gq_9 (j := 0) hv
theorem gq_11 (hv : MO.pure w = true) : gc (S.set m v) (.loc (S.length + j)) (S.set m w ++ L2) = gcR S.length (S.set m w) [] L2 j := by
  have := gq_9 (S := S) (L1 := []) (L2 := L2) (j := j) (m := m) (v := v) hv
  rwa [List.append_nil] at this
theorem gq_12 (hv : MO.pure w = true) : gc (S.set m v) (.loc S.length) (S.set m w ++ L2) = gcR S.length (S.set m w) [] L2 0 := gq_11 (j := 0) hv
theorem gq_13 : gc (S.set m v ++ L1) (.loc (S.length + j)) (S.set m v ++ L2) = gcR S.length (S.set m v) L1 L2 j := by
  have := gq_gen (A := S.set m v) (B := S.set m v) (L1 := L1) (L2 := L2) (j := j) rfl (keepsOld_self _)
  rwa [len_set] at this
theorem gq_14 : gc (S.set m v ++ L1) (.loc S.length) (S.set m v ++ L2) = gcR S.length (S.set m v) L1 L2 0 := gq_13 (j := 0)
theorem gq_15 : gc (S.set m v) (.loc (S.length + j)) (S.set m v ++ L2) = gcR S.length (S.set m v) [] L2 j := by
  have := gq_13 (S := S) (L1 := []) (L2 := L2) (j := j) (m := m) (v := v)
  rwa [List.append_nil] at this
theorem gq_16 : gc (S.set m v) (.loc S.length) (S.set m v ++ L2) = gcR S.length (S.set m v) [] L2 0 := gq_15 (j := 0)
end
end Mi

end

section
/-! Mi18: rows of lists, more about stores. -/
namespace Mi
open PySem PySem.Spec
open L2 (atI ixN Key)
theorem set_lk_self {S : Store} {m : Nat} {v : MO} (h : lk S m = some v) : S.set m v = S := by
  unfold lk at h
  apply List.ext_getElem?
  intro i
  by_cases hi : m = i
  · subst hi
    rw [List.getElem?_set_self (List.getElem?_eq_some_iff.mp h).1, h]
  · rw [List.getElem?_set_ne hi]
section
variable {α : Type} {ok : Store → Bool} {g : D → Store → Option (StD × Store)} {c : StD → Store → Option (Bool × Store)} {e : StD → Store → Option (D × Store)} {X : Option (List D × Store)} {inj : α → D}
theorem lc_alloc (mk : α → MO) : ∀ {xs : List α} {acc : List D} {S : Store}, (∀ V, ok (S ++ V) = true) → acc.length + xs.length ≤ sizeLine → (∀ x ∈ xs, ∀ U V, U = S ++ V → lcS g c e (inj x) U = some (some (.loc U.length), U ++ [mk x])) →
    lcD ok g c e (xs.map inj) acc S = some (acc ++ (List.range' S.length xs.length).map D.loc, S ++ xs.map mk)
  | [], acc, S, hok, _, _ => by
    have := hok []
    rw [List.append_nil] at this
    simp [lcD, this]
  | x :: r, acc, S, hok, hl, h => by
    have h1 := h x (List.mem_cons_self ..) S [] (by rw [List.append_nil])
    have h0 := hok []
    rw [List.append_nil] at h0
    simp only [List.length_cons] at hl
    rw [List.map_cons, lcD, if_pos h0]
    unfold lcS at h1
    cases hg : g (inj x) S with
    | none => rw [hg] at h1; cases h1
    | some p =>
      obtain ⟨σ1, S1⟩ := p
      rw [hg, bnd_some] at h1
      dsimp only
      cases hc : c σ1 S1 with
      | none => rw [hc] at h1; cases h1
      | some q =>
        obtain ⟨t, S2⟩ := q
        rw [hc, bnd_some] at h1
        cases t with
        | false =>
          rw [ite_f] at h1
          injection h1 with h1
          injection h1 with h2 h3
          cases h2
        | true =>
          rw [ite_t] at h1
          dsimp only
          cases he : e σ1 S2 with
          | none => rw [he] at h1; cases h1
          | some z =>
            obtain ⟨y, S3⟩ := z
            rw [he, bnd_some] at h1
            injection h1 with h1
            injection h1 with h2 h3
            injection h2 with h2
            subst h3 h2
            dsimp only
            rw [if_pos (by omega), lc_alloc mk (xs := r) (fun V => by rw [List.append_assoc]; exact hok _) (by simp; omega) fun y hy U V hU => h y (List.mem_cons_of_mem _ hy) U ([mk x] ++ V) (by rw [hU]; simp)]
            simp [List.range'_succ]
end
def lpM (p : Int × Int) : MO := .lst [.int p.1, .int p.2]
theorem TwL_locs : ∀ {tw : Tws} {S W : Store}, TwL (S ++ tw.map lpM ++ W) ((List.range' S.length tw.length).map D.loc) tw
  | [], _, _ => trivial
  | p :: r, S, W => by
    have ih := TwL_locs (tw := r) (S := S ++ [lpM p]) (W := W)
    rw [List.length_cons, List.range'_succ, List.map_cons]
    refine ⟨?_, ?_⟩
    · rw [sq_lk]
      have : lk (S ++ lpM p :: List.map lpM r ++ W) S.length = some (lpM p) := by
        rw [List.append_assoc, lk_app0]; rfl
      rw [this]; rfl
    · have e : S ++ lpM p :: List.map lpM r ++ W = S ++ [lpM p] ++ List.map lpM r ++ W := by simp
      rw [e]
      have e2 : (S ++ [lpM p]).length = S.length + 1 := by simp
      rw [e2] at ih
      exact ih
theorem py_TwL {S : Store} {n : Nat} : ∀ {tw : Tws} {ds : List D}, TwL S ds tw → (∀ d ∈ ds, ∃ m, d = .loc m) → mapO (toPy S (n + 1)) ds = some (tw.map fun p => .list [.int p.1, .int p.2])
  | [], [], _, _ => rfl
  | p :: r, d :: ds, ⟨h1, h2⟩, h => by
    obtain ⟨m, rfl⟩ := h d (List.mem_cons_self ..)
    have ih := py_TwL (n := n) h2 fun d hd => h d (List.mem_cons_of_mem _ hd)
    rw [mapO]
    have e : toPy S (n + 1) (.loc m) = some (.list [.int p.1, .int p.2]) := by
      rw [toPy_lk]
      rw [sq_lk] at h1
      cases hm : lk S m with
      | none => rw [hm] at h1; cases h1
      | some mo =>
        rw [hm] at h1
        cases mo with
        | lst es =>
          injection h1 with h1
          subst h1
          dsimp only
          rw [mapO, toPy_int]
          dsimp only
          rw [mapO, toPy_int]; rfl
        | _ => cases h1
    rw [e]
    dsimp only
    rw [ih]; rfl
theorem eqS_TwL {S : Store} {tw : Tws} {ds es : List D} (h1 : TwL S ds tw) (h2 : TwL S es tw) (l1 : ∀ d ∈ ds, ∃ m, d = .loc m) (l2 : ∀ d ∈ es, ∃ m, d = .loc m) : eqS S ds es = some true := by
  unfold eqS
  rw [py_TwL (n := 118) h1 l1, py_TwL (n := 118) h2 l2]
  dsimp only
  congr 1
  refine eqvAll_of _ fun p hp => ?_
  obtain ⟨q, _, rfl⟩ := List.mem_map.mp hp
  simp [PyData.eqv, PyData.eqvAll]
/-- the greatest height, from 0 on -/
theorem foldl_max_eq : ∀ (l : List Int) (i : Int), l.foldl (fun a b => if b > a then b else a) i = greatest i l
  | [], i => rfl
  | j :: r, i => by
    rw [List.foldl_cons, foldl_max_eq r]
    show _ = greatest (max i j) r
    congr 1
    split <;> omega
theorem hiT_fold {tw : Tws} (h : Fine tw) : (tw.foldl (fun a p => if p.2 > a then p.2 else a) 0 : Int) = hiT tw := by
  have e : (tw.foldl (fun a p => if p.2 > a then p.2 else a) 0 : Int) = (tw.map (·.2)).foldl (fun a b => if b > a then b else a) 0 := by
    rw [List.foldl_map]
  rw [e, foldl_max_eq]
  cases tw with
  | nil => rfl
  | cons p r =>
    have := h.1
    show greatest (max 0 p.2) (r.map (·.2)) = greatest p.2 (r.map (·.2))
    congr 1
    omega
end Mi
namespace Mi
theorem py_mapi {α : Type} (S : Store) (f : α → Int) (xs : List α) : pyOk S (xs.map fun q => D.int (f q)) = true := py_map fun _ _ => py_int S 119 _
theorem pr_mapi {α : Type} (f : α → Int) (xs : List α) : D.pureL (xs.map fun q => D.int (f q)) = true := pureL_map xs fun _ _ => rfl
end Mi
namespace Mi
theorem keysAt_one {tw : Tws} (h : Fine tw) : keysAt tw 1 = tw.map (·.1) := by
  unfold keysAt
  rw [List.filter_eq_self.mpr]
  intro p hp
  simpa using h.pos p hp
end Mi
namespace Mi
theorem log_of_le {i : Int} (h1 : 0 < i) (h2 : i ≤ 2 ^ 64) : i.natAbs.log2 < 9000 := by
  have h3 : i.natAbs < 2 ^ 65 := by omega
  have := (Nat.log2_lt (n := i.natAbs) (k := 65) (by omega)).mpr h3
  omega
end Mi

end

section
/-! Mi19: places in towers, searches: plain facts. -/
namespace Mi
open PySem PySem.Spec
open L2 (atI ixN Key)
/-- the first place that is high enough, or the length -/
def fx (l : Int) : Tws → Nat
  | [] => 0
  | p :: r => if l ≤ p.2 then 0 else fx l r + 1
def nx (tw : Tws) (n : Nat) (l : Int) : Nat := n + fx l (tw.drop n)
theorem fx_le (l : Int) : ∀ tw : Tws, fx l tw ≤ tw.length
  | [] => Nat.le_refl _
  | p :: r => by
    rw [fx]; split
    · exact Nat.zero_le _
    · have := fx_le l r; simp; omega
theorem nx_ge (tw : Tws) (n : Nat) (l : Int) : n ≤ nx tw n l := Nat.le_add_right _ _
theorem nx_le {tw : Tws} {n : Nat} (h : n ≤ tw.length) (l : Int) : nx tw n l ≤ tw.length := by
  have := fx_le l (tw.drop n)
  rw [List.length_drop] at this
  unfold nx; omega
theorem nx_end {tw : Tws} {n : Nat} (h : tw.length ≤ n) (l : Int) : nx tw n l = n := by
  unfold nx; rw [List.drop_eq_nil_of_le h]; rfl
theorem nx_step {tw : Tws} {n : Nat} {p : Int × Int} (h : tw[n]? = some p) (l : Int) : nx tw n l = if l ≤ p.2 then n else nx tw (n + 1) l := by
  have hl := (List.getElem?_eq_some_iff.mp h).1
  have e : tw.drop n = p :: tw.drop (n + 1) := by
    rw [List.drop_eq_getElem_cons hl, (List.getElem?_eq_some_iff.mp h).2]
  unfold nx
  rw [e, fx]
  split
  · rfl
  · omega
theorem nx_one {tw : Tws} (hf : Fine tw) (n : Nat) : nx tw n 1 = n := by
  cases h : tw[n]? with
  | none => exact nx_end (List.getElem?_eq_none_iff.mp h) 1
  | some p => rw [nx_step h, if_pos (hf.pos p (List.mem_of_getElem? h))]
def keyAt (tw : Tws) (n : Nat) : Option Int := match n with
  | 0 => none
  | n + 1 => (tw[n]?).map (·.1)
theorem fx_head (l : Int) : ∀ tw : Tws, (keysAt tw l).head? = (tw[fx l tw]?).map (·.1)
  | [] => rfl
  | p :: r => by
    have ih := fx_head l r
    unfold keysAt at ih ⊢
    rw [List.filter_cons, fx]
    by_cases h : l ≤ p.2
    · simp [h]
    · simp only [h, decide_false, if_false, Bool.false_eq_true]
      rw [ih]; rfl
theorem nextK_at {tw : Tws} (hf : Fine tw) {n : Nat} (hn : n ≤ tw.length) (l : Int) : nextK tw (keyAt tw n) l = (tw[nx tw n l]?).map (·.1) := by
  have e : ∀ m, (tw[n + m]?) = (tw.drop n)[m]? := fun m => by rw [List.getElem?_drop]
  cases n with
  | zero => rw [keyAt, nextK_none, fx_head]; unfold nx; simp
  | succ n =>
    have hl : n < tw.length := hn
    have hd : tw = tw.take n ++ tw[n] :: tw.drop (n + 1) := by
      rw [← List.drop_eq_getElem_cons hl, List.take_append_drop]
    have hk : keyAt tw (n + 1) = some tw[n].1 := by rw [keyAt, List.getElem?_eq_getElem hl]; rfl
    rw [hk]
    unfold nx
    rw [e, ← fx_head]
    have := nextK_app (a := tw.take n) (r := tw.drop (n + 1)) (p := tw[n]) (l := l) (by rw [← hd]; exact hf)
    rwa [← hd] at this
/-- the last place below a key that is high enough, and 1 -/
def pbN (f l : Int) : Tws → Nat
  | [] => 0
  | p :: r => match pbN f l r with
    | 0 => if p.1 < f ∧ l ≤ p.2 then 1 else 0
    | m + 1 => m + 2
theorem pbN_le (f l : Int) : ∀ tw : Tws, pbN f l tw ≤ tw.length
  | [] => Nat.le_refl _
  | p :: r => by
    have := pbN_le f l r
    rw [pbN]
    cases h : pbN f l r with
    | zero => dsimp only; split <;> simp
    | succ m => rw [h] at this; simp; omega
def en (i : Int) : Tws → List (Int × (Int × Int))
  | [] => []
  | p :: r => (i, p) :: en (i + 1) r
def enD (q : Int × (Int × Int)) : D := .tup [.int q.1, prD q.2]
theorem enumD_prs : ∀ (tw : Tws) (i : Int), enumD i (tw.map prD) = (en i tw).map enD
  | [], i => rfl
  | p :: r, i => by rw [List.map_cons, enumD, en, List.map_cons, enumD_prs r]; rfl
theorem en_len : ∀ (tw : Tws) (i : Int), (en i tw).length = tw.length
  | [], _ => rfl
  | p :: r, i => by rw [en, List.length_cons, en_len r]; rfl
def belowB (f l : Int) (p : Int × Int) : Bool := decide (p.1 < f) && decide (l ≤ p.2)
theorem pbN_cons {f l : Int} {p : Int × Int} {r : Tws} : pbN f l (p :: r) = match pbN f l r with
    | 0 => if belowB f l p = true then 1 else 0
    | m + 1 => m + 2 := by
  rw [pbN]
  cases pbN f l r with
  | zero => simp [belowB]
  | succ m => rfl
theorem last_cons {α : Type} {a : α} {r : List α} : (a :: r).getLast? = match r.getLast? with | none => some a | some b => some b := by
  cases r with
  | nil => rfl
  | cons b q => rw [List.getLast?_cons_cons]; cases h : (b :: q).getLast? with
    | none => simp at h
    | some x => rfl
theorem pb_ixs (f l : Int) : ∀ (tw : Tws) (i : Int), (((en i tw).filter fun q => belowB f l q.2).map (·.1)).getLast? = match pbN f l tw with | 0 => none | m + 1 => some (i + m)
  | [], i => rfl
  | p :: r, i => by
    have ih := pb_ixs f l r (i + 1)
    rw [en, List.filter_cons, pbN_cons]
    cases hb : belowB f l p with
    | true =>
      simp only [if_true]
      rw [List.map_cons, last_cons, ih]
      cases pbN f l r with
      | zero => simp
      | succ m => simp; omega
    | false =>
      simp only [Bool.false_eq_true, if_false]
      rw [ih]
      cases pbN f l r with
      | zero => rfl
      | succ m => simp; omega
theorem pb_keys (f l : Int) : ∀ (tw : Tws), ((tw.filter (belowB f l)).map (·.1)).getLast? = keyAt tw (pbN f l tw)
  | [] => rfl
  | p :: r => by
    have ih := pb_keys f l r
    rw [List.filter_cons, pbN_cons]
    cases hb : belowB f l p with
    | true =>
      simp only [if_true]
      rw [List.map_cons, last_cons, ih]
      cases h : pbN f l r with
      | zero => simp [keyAt]
      | succ m =>
        have hl := pbN_le f l r
        rw [h] at hl
        simp [keyAt, List.getElem?_eq_getElem (show m < r.length by omega)]
    | false =>
      simp only [Bool.false_eq_true, if_false]
      rw [ih]
      cases h : pbN f l r with
      | zero => rfl
      | succ m => simp [keyAt]
/-! steps -/
inductive Stp where
  | right (l k : Int) | stop (l k : Int) | fin (l : Int) | look (k : Int) | up (l k : Int) | turn (l k : Int) | edge (l : Int) | same (l k : Int) | found (l k : Int)
def Stp.w : Stp → Str
  | .right .. => "right" | .stop .. => "stop" | .fin .. => "end" | .look .. => "look" | .up .. => "up" | .turn .. => "turn" | .edge .. => "edge" | .same .. => "same" | .found .. => "found"
def Stp.d : Stp → D
  | .right l k => .tup [.str "right", .int l, .int k]
  | .stop l k => .tup [.str "stop", .int l, .int k]
  | .fin l => .tup [.str "end", .int l]
  | .look k => .tup [.str "look", .int k]
  | .up l k => .tup [.str "up", .int l, .int k]
  | .turn l k => .tup [.str "turn", .int l, .int k]
  | .edge l => .tup [.str "edge", .int l]
  | .same l k => .tup [.str "same", .int l, .int k]
  | .found l k => .tup [.str "found", .int l, .int k]
/-- right as long as keys are less -/
def rr (tw : Tws) (key l : Int) (n : Nat) : List Stp × Nat :=
  match h : tw[nx tw n l]? with
  | some q => if q.1 < key then (.right l q.1 :: (rr tw key l (nx tw n l + 1)).1, (rr tw key l (nx tw n l + 1)).2) else ([], n)
  | none => ([], n)
termination_by tw.length - n
decreasing_by
  all_goals
    have h1 := (List.getElem?_eq_some_iff.mp h).1
    have h2 := nx_ge tw n l
    omega
theorem rr_right {tw : Tws} {key l : Int} {n : Nat} {q : Int × Int} (h : tw[nx tw n l]? = some q) (hq : q.1 < key) : rr tw key l n = (.right l q.1 :: (rr tw key l (nx tw n l + 1)).1, (rr tw key l (nx tw n l + 1)).2) := by
  rw [rr]
  split
  · rename_i q' h'
    rw [h] at h'; cases h'
    rw [if_pos hq]
  · rename_i h'; rw [h] at h'; cases h'
theorem rr_stay {tw : Tws} {key l : Int} {n : Nat} (h : ∀ q, tw[nx tw n l]? = some q → ¬ q.1 < key) : rr tw key l n = ([], n) := by
  rw [rr]
  split
  · rename_i q' h'
    rw [if_neg (h q' h')]
  · rfl
def seS (tw : Tws) (l : Int) (n : Nat) : Stp := match tw[nx tw n l]? with
  | some q => .stop l q.1
  | none => .fin l
def sr (tw : Tws) (key : Int) : Nat → Nat → List Stp × Nat
  | 0, n => ([], n)
  | l + 1, n => ((rr tw key (l + 1 : Nat) n).1 ++ seS tw (l + 1 : Nat) (rr tw key (l + 1 : Nat) n).2 :: (sr tw key l (rr tw key (l + 1 : Nat) n).2).1, (sr tw key l (rr tw key (l + 1 : Nat) n).2).2)
theorem sr_right {tw : Tws} {key : Int} {l n : Nat} {q : Int × Int} (h : tw[nx tw n (l + 1 : Nat)]? = some q) (hq : q.1 < key) :
    sr tw key (l + 1) n = (.right (l + 1 : Nat) q.1 :: (sr tw key (l + 1) (nx tw n (l + 1 : Nat) + 1)).1, (sr tw key (l + 1) (nx tw n (l + 1 : Nat) + 1)).2) := by
  rw [sr, sr, rr_right h hq]; rfl
theorem sr_down {tw : Tws} {key : Int} {l n : Nat} (h : ∀ q, tw[nx tw n (l + 1 : Nat)]? = some q → ¬ q.1 < key) :
    sr tw key (l + 1) n = (seS tw (l + 1 : Nat) n :: (sr tw key l n).1, (sr tw key l n).2) := by
  rw [sr, rr_stay h]; rfl
theorem rr_le {tw : Tws} {key l : Int} : ∀ (m n : Nat), tw.length - n = m → n ≤ tw.length → (rr tw key l n).2 ≤ tw.length ∧ n ≤ (rr tw key l n).2 := by
  intro m
  induction m using Nat.strongRecOn with
  | _ m ih =>
    intro n hm hn
    cases h : tw[nx tw n l]? with
    | none =>
      rw [rr_stay (fun q hq => by rw [h] at hq; cases hq)]
      exact ⟨hn, Nat.le_refl _⟩
    | some q =>
      by_cases hq : q.1 < key
      · have h1 := (List.getElem?_eq_some_iff.mp h).1
        have h2 := nx_ge tw n l
        rw [rr_right h hq]
        obtain ⟨i1, i2⟩ := ih (tw.length - (nx tw n l + 1)) (by omega) (nx tw n l + 1) rfl (by omega)
        exact ⟨i1, by dsimp only; omega⟩
      · rw [rr_stay (fun q' hq' => by rw [h] at hq'; cases hq'; exact hq)]
        exact ⟨hn, Nat.le_refl _⟩
def lookS (tw : Tws) (q : Nat) : List Stp := match tw[q]? with
  | some p => [.look p.1]
  | none => []
def srch (tw : Tws) (key : Int) (l n : Nat) : List Stp := (sr tw key l n).1 ++ lookS tw (sr tw key l n).2
theorem srch_right {tw : Tws} {key : Int} {l n : Nat} {q : Int × Int} (h : tw[nx tw n (l + 1 : Nat)]? = some q) (hq : q.1 < key) : srch tw key (l + 1) n = .right (l + 1 : Nat) q.1 :: srch tw key (l + 1) (nx tw n (l + 1 : Nat) + 1) := by
  unfold srch; rw [sr_right h hq]; rfl
theorem srch_down {tw : Tws} {key : Int} {l n : Nat} (h : ∀ q, tw[nx tw n (l + 1 : Nat)]? = some q → ¬ q.1 < key) : srch tw key (l + 1) n = seS tw (l + 1 : Nat) n :: srch tw key l n := by
  unfold srch; rw [sr_down h]; rfl
/-! a while by a measure -/
theorem whl_M {c : StD → Store → Option (Bool × Store)} {b : StD → Store → Option (Fl × Store)} (I : StD → Store → Prop) (μ : StD → Store → Nat) (Post : Option (Fl × Store) → Prop)
    (h : ∀ σ S, I σ S → ∃ r S1, c σ S = some (r, S1) ∧ (r = false → Post (some (.next σ, S1))) ∧ (r = true → stepOk (fun σ' S' => I σ' S' ∧ μ σ' S' < μ σ S) Post (b σ S1))) :
    ∀ (n : Nat) (σ : StD) (S : Store), I σ S → μ σ S < n → Post (whlD c b n σ S)
  | 0, σ, S, _, hm => absurd hm (Nat.not_lt_zero _)
  | n + 1, σ, S, hI, hm => by
    obtain ⟨r, S1, e, h0, h1⟩ := h σ S hI
    rw [whlD, e]
    cases r with
    | false => exact h0 rfl
    | true =>
      have h2 := h1 rfl
      dsimp only
      cases eb : b σ S1 with
      | none => rw [eb] at h2; exact h2.elim
      | some q =>
        obtain ⟨f, T⟩ := q
        rw [eb] at h2
        cases f with
        | next τ => exact whl_M I μ Post h n τ T h2.1 (by have := h2.2; omega)
        | cnt τ => exact whl_M I μ Post h n τ T h2.1 (by have := h2.2; omega)
        | brk τ => exact h2
        | ret d => exact h2
theorem whl_X {c : StD → Store → Option (Bool × Store)} {b : StD → Store → Option (Fl × Store)} {n : Nat} {σ : StD} {S : Store} {X : Option (Fl × Store)} (hX : whlD c b n σ S = X) (I : StD → Store → Prop) (μ : StD → Store → Nat) (Post : Option (Fl × Store) → Prop)
    (h0 : I σ S) (hm : μ σ S < n) (h : ∀ σ S, I σ S → ∃ r S1, c σ S = some (r, S1) ∧ (r = false → Post (some (.next σ, S1))) ∧ (r = true → stepOk (fun σ' S' => I σ' S' ∧ μ σ' S' < μ σ S) Post (b σ S1))) : Post X :=
  hX ▸ whl_M I μ Post h n σ S h0 hm
theorem pr_stp (s : Stp) : D.pure s.d = true := by cases s <;> rfl
theorem pr_stps (ss : List Stp) : D.pureL (ss.map Stp.d) = true := pureL_map ss fun s _ => pr_stp s
theorem prs_at {tw : Tws} {i : Nat} {p : Int × Int} (h : tw[i]? = some p) : atI (tw.map prD) (i : Nat) = some (prD p) := at_nat (by rw [List.getElem?_map, h]; rfl)
end Mi
namespace Mi
open PySem PySem.Spec
open L2 (atI ixN Key)
theorem at_last {α : Type} (xs : List α) : atI xs (-1) = xs.getLast? := by
  unfold atI ixN
  cases xs with
  | nil => rfl
  | cons a r =>
    have h1 : ¬ (0 : Int) ≤ -1 := by decide
    have h2 : -(((a :: r).length : Nat) : Int) ≤ -1 := by simp; omega
    rw [if_neg h1, if_pos h2]
    show (a :: r)[((-1 : Int) + ((a :: r).length : Nat)).toNat]? = _
    rw [List.getLast?_eq_getElem?]
    congr 1
    simp; omega
theorem rangeI_cons {m n : Nat} {q : Int} {r : List Int} (h : q :: r = rangeI m (n - m)) : m < n ∧ q = m ∧ r = rangeI ((m + 1 : Nat) : Int) (n - (m + 1)) := by
  cases e : n - m with
  | zero => rw [e] at h; cases h
  | succ j =>
    rw [e, rangeI] at h
    injection h with h1 h2
    refine ⟨by omega, h1, ?_⟩
    rw [h2]
    congr 1
    omega
theorem rangeI_nil {m n : Nat} (h : [] = rangeI m (n - m)) : n ≤ m := by
  cases e : n - m with
  | zero => omega
  | succ j => rw [e, rangeI] at h; cases h
theorem rr_len {tw : Tws} {key l : Int} : ∀ (m n : Nat), tw.length - n = m → (rr tw key l n).1.length + n ≤ (rr tw key l n).2 := by
  intro m
  induction m using Nat.strongRecOn with
  | _ m ih =>
    intro n hm
    cases h : tw[nx tw n l]? with
    | none => rw [rr_stay (fun q hq => by rw [h] at hq; cases hq)]; simp
    | some q =>
      by_cases hq : q.1 < key
      · have h1 := (List.getElem?_eq_some_iff.mp h).1
        have h2 := nx_ge tw n l
        rw [rr_right h hq]
        have := ih (tw.length - (nx tw n l + 1)) (by omega) (nx tw n l + 1) rfl
        simp only [List.length_cons]
        omega
      · rw [rr_stay (fun q' hq' => by rw [h] at hq'; cases hq'; exact hq)]; simp
theorem sr_len {tw : Tws} {key : Int} : ∀ (l n : Nat), n ≤ tw.length → (sr tw key l n).1.length + n ≤ l + (sr tw key l n).2 ∧ (sr tw key l n).2 ≤ tw.length
  | 0, n, h => ⟨by simp [sr], h⟩
  | l + 1, n, h => by
    have h1 := rr_len (tw := tw) (key := key) (l := (l + 1 : Nat)) _ n rfl
    have h2 := rr_le (tw := tw) (key := key) (l := (l + 1 : Nat)) _ n rfl h
    have h3 := sr_len l _ h2.1 (tw := tw) (key := key)
    rw [sr]
    simp only [List.length_append, List.length_cons]
    exact ⟨by omega, h3.2⟩
theorem srch_len {tw : Tws} {key : Int} {l n : Nat} (h : n ≤ tw.length) : (srch tw key l n).length ≤ l + tw.length + 1 := by
  have := sr_len l n h (tw := tw) (key := key)
  unfold srch lookS
  rw [List.length_append]
  split <;> simp <;> omega
/-! climbing -/
def crF (tw : Tws) (f key : Int) : Nat → Nat → List Stp × Nat × Nat
  | 0, l => ([], l, pbN f l tw)
  | j + 1, l => match tw[nx tw (pbN f l tw) l]? with
    | none => ([.edge l], l, pbN f l tw)
    | some q => if key ≤ q.1 then ([.turn l q.1], l, pbN f l tw) else (.up l q.1 :: (crF tw f key j (l + 1)).1, (crF tw f key j (l + 1)).2)
def clF (tw : Tws) (f key : Int) : Nat → Nat → List Stp × Nat × Nat
  | 0, l => ([], l - 1, 0)
  | j + 1, l => match keyAt tw (pbN f l tw) with
    | none => ([.edge l], l, pbN f l tw)
    | some k => if k < key then ([.turn l k], l, pbN f l tw) else (.up l k :: (clF tw f key j (l + 1)).1, (clF tw f key j (l + 1)).2)
def climb (tw : Tws) (f key : Int) : List Stp × Nat × Nat := if key > f then crF tw f key ((hiT tw).toNat - 1) 1 else clF tw f key (hiT tw).toNat 1
def sbS (tw : Tws) (f key : Int) : List Stp := if hiT tw = 0 then [] else (climb tw f key).1 ++ srch tw key (climb tw f key).2.1 (climb tw f key).2.2
def sbL (tw : Tws) (f key : Int) : Nat := if hiT tw = 0 then 0 else (climb tw f key).2.1
theorem crF_len {tw : Tws} {f key : Int} : ∀ (j l : Nat), (crF tw f key j l).1.length ≤ j ∧ l ≤ (crF tw f key j l).2.1 ∧ (crF tw f key j l).2.1 ≤ l + j ∧ (crF tw f key j l).2.2 ≤ tw.length
  | 0, l => ⟨Nat.zero_le _, Nat.le_refl _, Nat.le_refl _, pbN_le f l tw⟩
  | j + 1, l => by
    have ih := crF_len (tw := tw) (f := f) (key := key) j (l + 1)
    rw [crF]
    split
    · exact ⟨by simp, Nat.le_refl _, by dsimp only; omega, pbN_le f l tw⟩
    · split
      · exact ⟨by simp, Nat.le_refl _, by dsimp only; omega, pbN_le f l tw⟩
      · simp only [List.length_cons]; exact ⟨by omega, by omega, by omega, ih.2.2.2⟩
theorem clF_len {tw : Tws} {f key : Int} : ∀ (j l : Nat), 1 ≤ l → (clF tw f key j l).1.length ≤ j ∧ l - 1 ≤ (clF tw f key j l).2.1 ∧ (clF tw f key j l).2.1 ≤ l - 1 + j ∧ (clF tw f key j l).2.2 ≤ tw.length
  | 0, l, _ => ⟨Nat.zero_le _, Nat.le_refl _, Nat.le_refl _, Nat.zero_le _⟩
  | j + 1, l, h => by
    have ih := clF_len (tw := tw) (f := f) (key := key) j (l + 1) (by omega)
    rw [clF]
    split
    · exact ⟨by simp, by dsimp only; omega, by dsimp only; omega, pbN_le f l tw⟩
    · split
      · exact ⟨by simp, by dsimp only; omega, by dsimp only; omega, pbN_le f l tw⟩
      · simp only [List.length_cons]; exact ⟨by omega, by omega, by omega, ih.2.2.2⟩
end Mi
namespace Mi
theorem aug_add {a b : Int} : augD .Add (.int a) (.int b) = some (.int (a + b)) := rfl
theorem aug_sub {a b : Int} : augD .Sub (.int a) (.int b) = some (.int (a - b)) := rfl
theorem nat_pred (i : Nat) : ((i + 1 : Nat) : Int) - 1 = (i : Nat) := by omega
end Mi
namespace Mi
theorem nat_succ (i : Nat) : (i : Int) + 1 = ((i + 1 : Nat) : Int) := by omega
theorem pr_loc (n : Nat) : D.pure (.loc n) = false := nr rfl
theorem gt_np {S T : Store} {ds : List D} (h : D.pureL ds = false) : gc S (.tup ds) T = (.tup ds, T) := by
  have h2 : D.pure (.tup ds) = false := h
  unfold gc
  split
  · rw [h2]; rfl
  · rfl
/-- a list at a place of the end -/
theorem gl_at {S L : Store} {j : Nat} {mo : MO} (hm : lk L j = some mo) (hp : MO.pure mo = true) : gc S (.loc (S.length + j)) (S ++ L) = (.loc S.length, S ++ [mo]) := gl_j hm hp
end Mi
namespace Mi
theorem ko_app (L M : Store) : keepsOld L (L ++ M) = true := keepsOld_app L M
theorem take_left' (L M : Store) : (L ++ M).take L.length = L := List.take_left
end Mi

end

section
/-! Mi20: words and lanes of steps. -/
namespace Mi
open PySem PySem.Spec
open L2 (atI ixN Key)
theorem ix_stp {S : Store} (s : Stp) : ixD s.d (.int 0) S = some (.str s.w) := by cases s <;> rfl
def wD (s : Stp) : D := .str s.w
theorem flat_wD : ∀ ss : List Stp, mapO flatPy (ss.map wD) = some (ss.map fun s => PyData.str s.w)
  | [] => rfl
  | s :: r => by rw [List.map_cons, mapO, show flatPy (wD s) = some (PyData.str s.w) from rfl, flat_wD r]; rfl
def isW (x : Str) (s : Stp) : Bool := PyData.eqv (.str s.w) (.str x)
theorem cnt_wD {x : Str} {ss : List Stp} : cntSeq (.str x) (ss.map wD) = some (ss.countP (isW x)) := by
  unfold cntSeq
  rw [flat_wD]
  show some (List.countP _ (ss.map _)) = _
  rw [List.countP_map]; rfl
def isEE : Stp → Bool
  | .fin _ => true
  | .edge _ => true
  | _ => false
def laneOf : Stp → Option Int
  | .right l _ => some l
  | .stop l _ => some l
  | .fin l => some l
  | _ => none
theorem notin_EE {S : Store} (s : Stp) : cmpD .NotIn (wD s) (.tup [.str "end", .str "edge"]) S = some (!isEE s) := by
  cases s <;> kernel_rfl
theorem in_RSE {S : Store} (s : Stp) : cmpD .In (wD s) (.tup [.str "right", .str "stop", .str "end"]) S = some (laneOf s).isSome := by
  cases s <;> kernel_rfl
theorem isW_end (s : Stp) : isW "end" s = match s with | .fin _ => true | _ => false := by cases s <;> kernel_rfl
theorem isW_edge (s : Stp) : isW "edge" s = match s with | .edge _ => true | _ => false := by cases s <;> kernel_rfl
theorem count_EE : ∀ ss : List Stp, ((ss.countP (fun s => !isEE s) : Nat) : Int) = (ss.length : Int) - (ss.countP (isW "end") : Nat) - (ss.countP (isW "edge") : Nat)
  | [] => rfl
  | s :: r => by
    have ih := count_EE r
    rw [List.countP_cons, List.countP_cons, List.countP_cons, List.length_cons, isW_end, isW_edge]
    generalize List.countP (fun s => !isEE s) r = x at ih ⊢
    cases s <;> simp [isEE] <;> omega
theorem lane_ix {S : Store} {s : Stp} {l : Int} (h : laneOf s = some l) : ixD s.d (.int 1) S = some (.int l) := by
  cases s <;> first | (cases h; rfl) | cases h
theorem crF_lanes {tw : Tws} {f key : Int} : ∀ (j l : Nat), ∀ s ∈ (crF tw f key j l).1, laneOf s = none
  | 0, l, s, h => by cases h
  | j + 1, l, s, h => by
    have ih := crF_lanes (tw := tw) (f := f) (key := key) j (l + 1)
    rw [crF] at h
    split at h
    · have : s = .edge l := by simpa using h
      rw [this]; rfl
    · rename_i q _
      split at h
      · have : s = .turn l q.1 := by simpa using h
        rw [this]; rfl
      · rcases List.mem_cons.mp h with h | h
        · rw [h]; rfl
        · exact ih s h
theorem clF_lanes {tw : Tws} {f key : Int} : ∀ (j l : Nat), ∀ s ∈ (clF tw f key j l).1, laneOf s = none
  | 0, l, s, h => by cases h
  | j + 1, l, s, h => by
    have ih := clF_lanes (tw := tw) (f := f) (key := key) j (l + 1)
    rw [clF] at h
    split at h
    · have : s = .edge l := by simpa using h
      rw [this]; rfl
    · rename_i q _
      split at h
      · have : s = .turn l q := by simpa using h
        rw [this]; rfl
      · rcases List.mem_cons.mp h with h | h
        · rw [h]; rfl
        · exact ih s h
theorem clF_pos {tw : Tws} {f key : Int} : ∀ (j l : Nat), 1 ≤ l → 2 ≤ j + l → 1 ≤ (clF tw f key j l).2.1
  | 0, l, _, h => by rw [clF]; dsimp only; omega
  | j + 1, l, h1, h2 => by
    have ih := clF_pos (tw := tw) (f := f) (key := key) j (l + 1) (by omega) (by omega)
    rw [clF]
    split
    · exact h1
    · split
      · exact h1
      · exact ih
theorem rr_lanes {tw : Tws} {key l : Int} : ∀ (m n : Nat), tw.length - n = m → ∀ s ∈ (rr tw key l n).1, laneOf s = some l := by
  intro m
  induction m using Nat.strongRecOn with
  | _ m ih =>
    intro n hm s hs
    cases h : tw[nx tw n l]? with
    | none => rw [rr_stay (fun q hq => by rw [h] at hq; cases hq)] at hs; cases hs
    | some q =>
      by_cases hq : q.1 < key
      · have h1 := (List.getElem?_eq_some_iff.mp h).1
        have h2 := nx_ge tw n l
        rw [rr_right h hq] at hs
        rcases List.mem_cons.mp hs with hs | hs
        · rw [hs]; rfl
        · exact ih _ (by omega) (nx tw n l + 1) rfl s hs
      · rw [rr_stay (fun q' hq' => by rw [h] at hq'; cases hq'; exact hq)] at hs; cases hs
theorem seS_lane {tw : Tws} {l : Int} {n : Nat} : laneOf (seS tw l n) = some l := by
  unfold seS; split <;> rfl
theorem sr_lanes {tw : Tws} {key : Int} : ∀ (l n : Nat), ∀ s ∈ (sr tw key l n).1, ∃ i : Int, laneOf s = some i ∧ i ≤ l
  | 0, n, s, h => by cases h
  | l + 1, n, s, h => by
    rw [sr] at h
    rcases List.mem_append.mp h with h | h
    · exact ⟨_, rr_lanes _ n rfl s h, by omega⟩
    · rcases List.mem_cons.mp h with h | h
      · rw [h]; exact ⟨_, seS_lane, by omega⟩
      · obtain ⟨i, h1, h2⟩ := sr_lanes l _ s h
        exact ⟨i, h1, by omega⟩
def lanesOf (ss : List Stp) : List Int := ss.filterMap laneOf
theorem lanes_none {ss : List Stp} (h : ∀ s ∈ ss, laneOf s = none) : lanesOf ss = [] := by
  unfold lanesOf
  exact List.filterMap_eq_nil_iff.mpr h
theorem srch_lanes {tw : Tws} {key : Int} {l n : Nat} (hl : 1 ≤ l) : (∀ i ∈ lanesOf (srch tw key l n), i ≤ l) ∧ ((l : Int) ∈ lanesOf (srch tw key l n)) := by
  have hlk : lanesOf (lookS tw (sr tw key l n).2) = [] := lanes_none fun s hs => by
    unfold lookS at hs
    split at hs
    · rename_i p _
      have : s = .look p.1 := by simpa using hs
      rw [this]; rfl
    · cases hs
  have e : lanesOf (srch tw key l n) = lanesOf (sr tw key l n).1 := by
    unfold srch
    show List.filterMap laneOf _ = _
    rw [List.filterMap_append]
    show _ ++ lanesOf _ = _
    rw [hlk, List.append_nil]; rfl
  rw [e]
  refine ⟨fun i hi => ?_, ?_⟩
  · obtain ⟨s, h1, h2⟩ := List.mem_filterMap.mp hi
    obtain ⟨j, h3, h4⟩ := sr_lanes l n s h1
    rw [h2] at h3; cases h3; exact h4
  · cases l with
    | zero => omega
    | succ l =>
      refine List.mem_filterMap.mpr ⟨seS tw ((l + 1 : Nat) : Int) (rr tw key ((l + 1 : Nat) : Int) n).2, ?_, seS_lane⟩
      rw [sr]; simp
theorem greatest_eq {i m : Int} {r : List Int} (h1 : ∀ j ∈ i :: r, j ≤ m) (h2 : m ∈ i :: r) : greatest i r = m := by
  obtain ⟨g1, g2⟩ := greatest_in r i
  have := h1 _ g1; have := g2 _ h2; omega
theorem lanes_app (a b : List Stp) : lanesOf (a ++ b) = lanesOf a ++ lanesOf b := List.filterMap_append
theorem sb_lanes {tw : Tws} {f key : Int} (hf : Fine tw) : greatest 1 (lanesOf (sbS tw f key)) - 1 = if ((sbL tw f key : Nat) : Int) - 1 > 0 then ((sbL tw f key : Nat) : Int) - 1 else 0 := by
  have h0 := hiT_nn hf
  unfold sbS sbL
  by_cases hz : hiT tw = 0
  · rw [if_pos hz, if_pos hz]; rfl
  · rw [if_neg hz, if_neg hz]
    have hc : lanesOf (climb tw f key).1 = [] ∧ 1 ≤ (climb tw f key).2.1 := by
      unfold climb
      split
      · exact ⟨lanes_none (crF_lanes _ _), (crF_len _ _).2.1⟩
      · exact ⟨lanes_none (clF_lanes _ _), clF_pos _ _ (Nat.le_refl _) (by omega)⟩
    obtain ⟨g1, g2⟩ := srch_lanes (tw := tw) (key := key) (n := (climb tw f key).2.2) hc.2
    rw [lanes_app, hc.1, List.nil_append, greatest_eq (m := ((climb tw f key).2.1 : Nat)) (fun j hj => ?_) (List.mem_cons_of_mem _ g2)]
    · split <;> omega
    · rcases List.mem_cons.mp hj with h | h
      · rw [h]; omega
      · exact g1 j h
/-- what a search from a finger costs -/
def cstD (ss : List Stp) (lv : Nat) : List D := [.int (ss.countP (isW "up") : Nat), .int (ss.countP (isW "right") : Nat), .int (if ((lv : Nat) : Int) - 1 > 0 then ((lv : Nat) : Int) - 1 else 0), .int (ss.countP (fun s => !isEE s) : Nat)]
theorem len_filter {α : Type} {p : α → Bool} {f : α → D} {xs : List α} : ((xs.filter p).map f).length = xs.countP p := by rw [List.length_map, List.countP_eq_length_filter]
end Mi
namespace Mi
theorem ko_pre {L X Y : Store} : keepsOld (L ++ X) (L ++ Y) = keepsOld X Y := by rw [keepsOld_eq rfl, keepsOld_self, Bool.true_and]
theorem take_pre {L M : Store} {i : Nat} : (L ++ M).take (L.length + i) = L ++ M.take i := List.take_length_add_append i
end Mi

end

section
/-! Mi21: ranges down, lists times numbers. -/
namespace Mi
open PySem PySem.Spec
open L2 (atI ixN Key)
def desc : Nat → List Int
  | 0 => []
  | l + 1 => ((l + 1 : Nat) : Int) :: desc l
theorem stepD_desc : ∀ l : Nat, stepD (l : Int) (-1) l = (desc l).map D.int
  | 0 => rfl
  | l + 1 => by
    rw [stepD, desc, List.map_cons, ← stepD_desc l]
    congr 2
    omega
theorem rng_down {l : Nat} (h : l ≤ 100000) : rng3D (l : Int) 0 (-1) = some ⟨(desc l).map D.int, fun _ => true⟩ := by
  unfold rng3D
  rw [if_pos ⟨rfl, by omega, by omega, by omega, by omega⟩, show ((l : Int) - 0).toNat = l by omega, stepD_desc]
theorem desc_cons {i : Nat} {q : Int} {r : List Int} (h : q :: r = desc i) : ∃ j, i = j + 1 ∧ q = ((j + 1 : Nat) : Int) ∧ r = desc j := by
  cases i with
  | zero => cases h
  | succ j => rw [desc] at h; injection h with h1 h2; exact ⟨j, rfl, h1, h2⟩
theorem desc_nil {i : Nat} (h : [] = desc i) : i = 0 := by
  cases i with
  | zero => rfl
  | succ j => cases h
theorem mul_lk {S : Store} {m : Nat} {k : Nat} {x : List D} (h : lk S m = some (.lst x)) (hk : x.length * k ≤ 100000) (hk2 : k ≤ 100000) : opD .Mult (.loc m) (.int (k : Int)) S = some (.loc S.length, S ++ [.lst (List.replicate k x).flatten]) := by
  have e : opD .Mult (.loc m) (.int (k : Int)) S = (match lk S m with
    | some (.lst x) => @ite _ (-(2 ^ 63) ≤ (k : Int) ∧ (k : Int) < 2 ^ 63 ∧ x.length * (k : Int).toNat ≤ sizeLine) (Classical.propDecidable _) (some (.loc S.length, S ++ [.lst (List.replicate (k : Int).toNat x).flatten])) none
    | _ => none) := rfl
  rw [e, h]
  dsimp only
  rw [if_pos ⟨by omega, by omega, by rw [Int.toNat_natCast]; exact le_size hk⟩, Int.toNat_natCast]
theorem isnone_kD {S : Store} (o : Option Int) : cmpD .Is (kD o) .non S = some o.isNone := by cases o <;> rfl
theorem isnot_kD {S : Store} (o : Option Int) : cmpD .IsNot (kD o) .non S = some o.isSome := by cases o <;> rfl
theorem greatest0 {tw : Tws} (h : Fine tw) : greatest 0 (tw.map (·.2)) = hiT tw := by
  cases tw with
  | nil => rfl
  | cons p r =>
    have := h.1
    show greatest (max 0 p.2) (r.map (·.2)) = greatest p.2 (r.map (·.2))
    congr 1
    omega
theorem intsOf_mapi {α : Type} (f : α → Int) (xs : List α) : intsOf (xs.map fun x => D.int (f x)) = some (xs.map f) := intsOf_map f xs
theorem intsOf_cons {i : Int} {ds : List D} : intsOf (.int i :: ds) = (intsOf ds).map (i :: ·) := rfl
theorem intsOf_ints (xs : List Int) : intsOf (xs.map D.int) = some xs := by
  have := intsOf_map (fun i : Int => i) xs
  rwa [List.map_id'] at this
theorem belowB_swap {f l : Int} {p : Int × Int} : (decide (l ≤ p.2) && decide (p.1 < f)) = belowB f l p := by unfold belowB; rw [Bool.and_comm]
theorem last_kD {xs : List Int} (h : xs.isEmpty = false) : atI (xs.map D.int) (-1) = some (kD xs.getLast?) := by
  rw [at_last, List.getLast?_map]
  cases xs with
  | nil => cases h
  | cons a r =>
    rw [List.getLast?_cons]; rfl
theorem last_none {xs : List Int} (h : xs.isEmpty = true) : kD xs.getLast? = .non := by
  cases xs with
  | nil => rfl
  | cons i r => cases h
theorem fine_hi0 {tw : Tws} (h : Fine tw) (hz : hiT tw = 0) : tw = [] := by
  cases tw with
  | nil => rfl
  | cons p r => have := le_hiT (tw := p :: r) (List.mem_cons_self ..); have := h.1; omega
end Mi
namespace Mi
theorem len_aa {S : Store} {a b : Nat} : S.length + a + b = S.length + (a + b) := Nat.add_assoc ..
end Mi
namespace Mi
open PySem PySem.Spec
theorem py_stp {S : Store} (s : Stp) : (toPy S 119 s.d).isSome = true := by cases s <;> kernel_rfl
theorem py_stps (S : Store) (ss : List Stp) : pyOk S (ss.map Stp.d) = true := py_map fun s _ => py_stp s
theorem py_cst (S : Store) (ss : List Stp) (lv : Nat) : pyOk S (cstD ss lv) = true := by
  unfold cstD
  rw [py_cons, py_cons, py_cons, py_cons, py_nil, py_int, py_int, py_int, py_int]; rfl
theorem sb_len {tw : Tws} {f key : Int} (hf : Fine tw) (hl : tw.length ≤ 1000) (hh : ∀ p ∈ tw, p.2 ≤ 900) : (sbS tw f key).length ≤ 10000 := by
  have h0 := hiT_nn hf
  have h1 := hiT_le (n := 900) (by decide) hh
  unfold sbS
  split
  · simp
  · have hcl : (climb tw f key).1.length ≤ 900 ∧ (climb tw f key).2.1 ≤ 900 ∧ (climb tw f key).2.2 ≤ tw.length := by
      unfold climb
      split
      · have := crF_len (tw := tw) (f := f) (key := key) ((hiT tw).toNat - 1) 1
        omega
      · have := clF_len (tw := tw) (f := f) (key := key) (hiT tw).toNat 1 (Nat.le_refl _)
        omega
    have hb := srch_len (tw := tw) (key := key) (l := (climb tw f key).2.1) hcl.2.2
    rw [List.length_append]; omega
theorem cst_priced {tw : Tws} {f key : Int} (hf : Fine tw) : [D.int ((sbS tw f key).countP (isW "up") : Nat), D.int ((sbS tw f key).countP (isW "right") : Nat), D.int (greatest 1 (lanesOf (sbS tw f key)) - 1), D.int (((sbS tw f key).length : Int) - ((sbS tw f key).countP (isW "end") : Nat) - ((sbS tw f key).countP (isW "edge") : Nat))] = cstD (sbS tw f key) (sbL tw f key) := by
  unfold cstD
  rw [sb_lanes hf, count_EE]
end Mi

end

section
/-! Mi22: where searches end; plain walks from the head. -/
namespace Mi
open PySem PySem.Spec
open L2 (atI ixN Key)
def Below (tw : Tws) (key : Int) (n : Nat) : Prop := ∀ i q, i < n → tw[i]? = some q → q.1 < key
def Stop (tw : Tws) (key : Int) (n : Nat) : Prop := ∀ q, tw[n]? = some q → key ≤ q.1
theorem Fine.mono : ∀ {tw : Tws}, Fine tw → ∀ {i j : Nat} {p q : Int × Int}, i < j → tw[i]? = some p → tw[j]? = some q → p.1 < q.1
  | [], _, i, j, p, q, _, hp, _ => by simp at hp
  | a :: r, ⟨_, h2, h3⟩, 0, j + 1, p, q, _, hp, hq => by
    have : a = p := by simpa using hp
    subst this
    exact h2 q (List.mem_of_getElem? (by simpa using hq))
  | a :: r, ⟨_, h2, h3⟩, i + 1, j + 1, p, q, h, hp, hq => Fine.mono h3 (i := i) (j := j) (by omega) (by simpa using hp) (by simpa using hq)
  | a :: r, _, i, 0, p, q, h, _, _ => absurd h (Nat.not_lt_zero _)
theorem end_uniq {tw : Tws} {key : Int} {a b : Nat} (ha : a ≤ tw.length) (hb : b ≤ tw.length) (a1 : Below tw key a) (a2 : Stop tw key a) (b1 : Below tw key b) (b2 : Stop tw key b) : a = b := by
  rcases Nat.lt_trichotomy a b with h | h | h
  · have hp := List.getElem?_eq_getElem (show a < tw.length by omega)
    have h1 := b1 a _ h hp
    have h2 := a2 _ hp
    omega
  · exact h
  · have hp := List.getElem?_eq_getElem (show b < tw.length by omega)
    have h1 := a1 b _ h hp
    have h2 := b2 _ hp
    omega
theorem below_up {tw : Tws} {key : Int} (hf : Fine tw) {n : Nat} {q : Int × Int} (h : tw[n]? = some q) (hq : q.1 < key) : Below tw key (n + 1) := by
  intro i p hi hp
  rcases Nat.lt_or_ge i n with h1 | h1
  · have := hf.mono h1 hp h; omega
  · have : i = n := by omega
    subst this
    rw [h] at hp; cases hp; exact hq
theorem rr_end {tw : Tws} {key l : Int} (hf : Fine tw) : ∀ (m n : Nat), tw.length - n = m → Below tw key n → Below tw key (rr tw key l n).2 ∧ ∀ q, tw[nx tw (rr tw key l n).2 l]? = some q → ¬ q.1 < key := by
  intro m
  induction m using Nat.strongRecOn with
  | _ m ih =>
    intro n hm hb
    cases h : tw[nx tw n l]? with
    | none =>
      rw [rr_stay (fun q hq => by rw [h] at hq; cases hq)]
      exact ⟨hb, fun q hq => by rw [h] at hq; cases hq⟩
    | some q =>
      by_cases hq : q.1 < key
      · have h1 := (List.getElem?_eq_some_iff.mp h).1
        have h2 := nx_ge tw n l
        rw [rr_right h hq]
        exact ih (tw.length - (nx tw n l + 1)) (by omega) (nx tw n l + 1) rfl (below_up hf h hq)
      · have e := rr_stay (key := key) (fun q' hq' => by rw [h] at hq'; cases hq'; exact hq)
        rw [e]
        exact ⟨hb, fun q' hq' => by rw [h] at hq'; cases hq'; exact hq⟩
theorem sr_end {tw : Tws} {key : Int} (hf : Fine tw) : ∀ (l n : Nat), Below tw key n → Below tw key (sr tw key l n).2 ∧ (1 ≤ l → Stop tw key (sr tw key l n).2)
  | 0, n, h => ⟨h, fun z => absurd z (by omega)⟩
  | l + 1, n, h => by
    obtain ⟨h1, h2⟩ := rr_end (l := ((l + 1 : Nat) : Int)) hf _ n rfl h
    obtain ⟨h3, h4⟩ := sr_end hf l _ h1
    rw [sr]
    refine ⟨h3, fun _ => ?_⟩
    cases l with
    | zero =>
      intro q hq
      have h5 := h2 q (by rw [show ((0 + 1 : Nat) : Int) = 1 from rfl, nx_one hf]; exact hq)
      omega
    | succ l => exact h4 (by omega)
theorem pbN_key {f l : Int} : ∀ {tw : Tws} {m : Nat}, pbN f l tw = m + 1 → ∃ q, tw[m]? = some q ∧ q.1 < f
  | [], m, h => by cases h
  | p :: r, m, h => by
    rw [pbN_cons] at h
    cases h5 : pbN f l r with
    | zero =>
      rw [h5] at h
      dsimp only at h
      split at h
      · rename_i hb
        have : m = 0 := by omega
        subst this
        unfold belowB at hb
        simp only [Bool.and_eq_true, decide_eq_true_eq] at hb
        exact ⟨p, rfl, hb.1⟩
      · cases h
    | succ j =>
      rw [h5] at h
      have h' : j + 2 = m + 1 := h
      have : m = j + 1 := by omega
      subst this
      obtain ⟨q, h1, h2⟩ := pbN_key h5
      exact ⟨q, by simpa using h1, h2⟩
theorem below_pb {tw : Tws} {f l key : Int} (hf : Fine tw) (h : ∀ q, keyAt tw (pbN f l tw) = some q → q < key) : Below tw key (pbN f l tw) := by
  cases h5 : pbN f l tw with
  | zero => intro i q hi; omega
  | succ m =>
    obtain ⟨q, h1, h2⟩ := pbN_key h5
    refine below_up hf h1 (h q.1 ?_)
    rw [h5, keyAt, h1]; rfl
theorem crF_below {tw : Tws} {f key : Int} (hf : Fine tw) (hk : f < key) : ∀ (j l : Nat), Below tw key (crF tw f key j l).2.2 := by
  have base : ∀ l : Nat, Below tw key (pbN f l tw) := fun l => below_pb hf fun q hq => by
    cases h5 : pbN f l tw with
    | zero => rw [h5] at hq; cases hq
    | succ m =>
      obtain ⟨p, h1, h2⟩ := pbN_key h5
      rw [h5, keyAt, h1] at hq
      cases hq
      show p.1 < key
      omega
  intro j
  induction j with
  | zero => exact base
  | succ j ih =>
    intro l
    rw [crF]
    split
    · exact base l
    · split
      · exact base l
      · exact ih (l + 1)
theorem clF_below {tw : Tws} {f key : Int} (hf : Fine tw) : ∀ (j l : Nat), Below tw key (clF tw f key j l).2.2 := by
  intro j
  induction j with
  | zero => intro l i q hi; exact absurd hi (Nat.not_lt_zero _)
  | succ j ih =>
    intro l
    rw [clF]
    split
    · rename_i h5
      exact below_pb hf fun q hq => by rw [h5] at hq; cases hq
    · rename_i k h5
      split
      · rename_i hk
        exact below_pb hf fun q hq => by rw [h5] at hq; cases hq; exact hk
      · exact ih (l + 1)
def isLk : Stp → Bool
  | .look _ => true
  | _ => false
theorem lk_none {ss : List Stp} (h : ∀ s ∈ ss, isLk s = false) : ss.filter isLk = [] := by
  rw [List.filter_eq_nil_iff]
  intro s hs
  rw [h s hs]; decide
theorem lane_lk {s : Stp} {l : Int} (h : laneOf s = some l) : isLk s = false := by cases s <;> first | rfl | cases h
theorem crF_lk {tw : Tws} {f key : Int} : ∀ (j l : Nat), ∀ s ∈ (crF tw f key j l).1, isLk s = false
  | 0, l, s, h => by cases h
  | j + 1, l, s, h => by
    have ih := crF_lk (tw := tw) (f := f) (key := key) j (l + 1)
    rw [crF] at h
    split at h
    · have : s = .edge l := by simpa using h
      rw [this]; rfl
    · rename_i q _
      split at h
      · have : s = .turn l q.1 := by simpa using h
        rw [this]; rfl
      · rcases List.mem_cons.mp h with h | h
        · rw [h]; rfl
        · exact ih s h
theorem clF_lk {tw : Tws} {f key : Int} : ∀ (j l : Nat), ∀ s ∈ (clF tw f key j l).1, isLk s = false
  | 0, l, s, h => by cases h
  | j + 1, l, s, h => by
    have ih := clF_lk (tw := tw) (f := f) (key := key) j (l + 1)
    rw [clF] at h
    split at h
    · have : s = .edge l := by simpa using h
      rw [this]; rfl
    · rename_i q _
      split at h
      · have : s = .turn l q := by simpa using h
        rw [this]; rfl
      · rcases List.mem_cons.mp h with h | h
        · rw [h]; rfl
        · exact ih s h
theorem srch_lk {tw : Tws} {key : Int} {l n : Nat} : (srch tw key l n).filter isLk = lookS tw (sr tw key l n).2 := by
  unfold srch
  rw [List.filter_append, lk_none fun s hs => by obtain ⟨i, h1, _⟩ := sr_lanes l n s hs; exact lane_lk h1, List.nil_append]
  unfold lookS
  split <;> rfl
theorem looks_same {tw : Tws} {f key : Int} (hf : Fine tw) : (sbS tw f key).filter isLk = (srch tw key (hiT tw).toNat 0).filter isLk := by
  have h0 := hiT_nn hf
  by_cases hz : hiT tw = 0
  · have := fine_hi0 hf hz
    subst this; rfl
  · unfold sbS
    rw [if_neg hz, List.filter_append, srch_lk, srch_lk]
    have hc : (∀ s ∈ (climb tw f key).1, isLk s = false) ∧ 1 ≤ (climb tw f key).2.1 ∧ Below tw key (climb tw f key).2.2 ∧ (climb tw f key).2.2 ≤ tw.length := by
      unfold climb
      split
      · rename_i hk
        exact ⟨crF_lk _ _, (crF_len _ _).2.1, crF_below hf hk _ _, (crF_len _ _).2.2.2⟩
      · exact ⟨clF_lk _ _, clF_pos _ _ (Nat.le_refl _) (by omega), clF_below hf _ _, (clF_len _ _ (Nat.le_refl _)).2.2.2⟩
    rw [lk_none hc.1, List.nil_append]
    have e1 := sr_end hf (climb tw f key).2.1 _ hc.2.2.1
    have e2 := sr_end (key := key) hf (hiT tw).toNat 0 (fun i q hi => absurd hi (Nat.not_lt_zero _))
    rw [end_uniq (sr_len _ _ hc.2.2.2).2 (sr_len _ _ (Nat.zero_le _)).2 e1.1 (e1.2 hc.2.1) e2.1 (e2.2 (by omega))]
theorem eq_look {S : Store} (s : Stp) : cmpD .Eq (.str s.w) (.str "look") S = some (isLk s) := by cases s <;> kernel_rfl
theorem ty_str {x : Str} {S : Store} : tyD S (.str x) = some "str" := rfl
theorem isa_str : isaD "str" .str = true := by decide
theorem eqD_ik {S : Store} {p : Int} {b : Option Int} : eqD S (.int p) (kD b) = some (decide (b = some p)) := by
  cases b with
  | none =>
    show some (PyData.eqv (.int p) .none) = _
    simp [PyData.eqv]
  | some q =>
    rw [show kD (some q) = .int q from rfl, eqD_ii]
    congr 1
    by_cases h : p = q <;> simp [h, eq_comm]
def npO (tw : Tws) (n : Nat) (l : Int) : Option Int := if nx tw n l < tw.length then some ((nx tw n l : Nat) : Int) else none
end Mi
namespace Mi
theorem eqD_look {S : Store} (s : Stp) : eqD S (.str s.w) (.str "look") = some (isLk s) := eq_look s
end Mi

end

section
/-! Mi23: rows of numbers. -/
namespace Mi
open PySem PySem.Spec
open L2 (atI ixN Key)
def rwD (r : List Int) : D := .tup (r.map D.int)
theorem pr_rwD (r : List Int) : D.pure (rwD r) = true := by unfold rwD; rw [pr_tup, pr_ints]
theorem pr_rows (rs : List (List Int)) : D.pureL (rs.map rwD) = true := pureL_map rs fun r _ => pr_rwD r
theorem add_tt {x y : List D} {S : Store} : opD .Add (.tup x) (.tup y) S = if x.length + y.length ≤ sizeLine then some (.tup (x ++ y), S) else none := rfl
def enI (i : Int) : List Int → Tws
  | [] => []
  | h :: r => (i, h) :: enI (i + 1) r
theorem enumD_ints : ∀ (r : List Int) (i : Int), enumD i (r.map D.int) = (enI i r).map prD
  | [], i => rfl
  | h :: r, i => by rw [List.map_cons, enumD, enI, List.map_cons, enumD_ints r]; rfl
theorem enI_len : ∀ (r : List Int) (i : Int), (enI i r).length = r.length
  | [], _ => rfl
  | h :: r, i => by rw [enI, List.length_cons, enI_len r]; rfl
theorem enI_mem : ∀ {r : List Int} {i : Int} {q : Int × Int}, q ∈ enI i r → i ≤ q.1 ∧ q.2 ∈ r
  | [], i, q, h => by cases h
  | x :: r, i, q, h => by
    rw [enI] at h
    rcases List.mem_cons.mp h with rfl | h
    · exact ⟨Int.le_refl _, List.mem_cons_self ..⟩
    · obtain ⟨h1, h2⟩ := enI_mem h
      exact ⟨by omega, List.mem_cons_of_mem _ h2⟩
theorem fine_en {f : Int → Int} (hm : ∀ a b, a < b → f a < f b) : ∀ {r : List Int} {i : Int}, (∀ h ∈ r, 1 ≤ h) → Fine ((enI i r).map fun q => (f q.1, q.2))
  | [], i, _ => trivial
  | x :: r, i, h => by
    rw [enI, List.map_cons]
    refine ⟨h x (List.mem_cons_self ..), fun q hq => ?_, fine_en hm fun y hy => h y (List.mem_cons_of_mem _ hy)⟩
    obtain ⟨p, hp, rfl⟩ := List.mem_map.mp hq
    have := (enI_mem hp).1
    exact hm _ _ (by omega)
theorem rangeI_in : ∀ {n : Nat} {lo i : Int}, i ∈ rangeI lo n → lo ≤ i ∧ i < lo + n
  | 0, lo, i, h => by cases h
  | n + 1, lo, i, h => by
    rw [rangeI] at h
    rcases List.mem_cons.mp h with rfl | h
    · omega
    · have := rangeI_in h; omega
end Mi

end

section
/-! Mi24: searches in all manners. -/
namespace Mi
open PySem PySem.Spec
open L2 (atI ixN Key)
/-- the steps of a search: level, place and 1, what was looked at above -/
def wk (tw : Tws) (key : Int) (lean early : Bool) (l n : Nat) (b : Option Nat) : List Stp :=
  match l with
  | 0 => if early then [] else lookS tw n
  | l' + 1 => match h : tw[nx tw n ((l' + 1 : Nat) : Int)]? with
    | none => .fin ((l' + 1 : Nat) : Int) :: wk tw key lean early l' n none
    | some q =>
      if b = some (nx tw n ((l' + 1 : Nat) : Int)) ∧ lean = true then .same ((l' + 1 : Nat) : Int) q.1 :: wk tw key lean early l' n (some (nx tw n ((l' + 1 : Nat) : Int)))
      else if q.1 < key then .right ((l' + 1 : Nat) : Int) q.1 :: wk tw key lean early (l' + 1) (nx tw n ((l' + 1 : Nat) : Int) + 1) b
      else if q.1 = key ∧ early = true then [.found ((l' + 1 : Nat) : Int) key]
      else .stop ((l' + 1 : Nat) : Int) q.1 :: wk tw key lean early l' n (some (nx tw n ((l' + 1 : Nat) : Int)))
termination_by (l, tw.length - n)
decreasing_by
  all_goals first
    | exact Prod.Lex.left _ _ (Nat.lt_succ_self _)
    | exact Prod.Lex.right _ (by
        have h1 := (List.getElem?_eq_some_iff.mp h).1
        have h2 := nx_ge tw n ((l' + 1 : Nat) : Int)
        omega)
section
variable {tw : Tws} {key : Int} {lean early : Bool} {l n : Nat} {b : Option Nat} {q : Int × Int}
theorem wk_0 : wk tw key lean early 0 n b = if early then [] else lookS tw n := by rw [wk]
theorem wk_fin (h : tw[nx tw n ((l + 1 : Nat) : Int)]? = none) : wk tw key lean early (l + 1) n b = .fin ((l + 1 : Nat) : Int) :: wk tw key lean early l n none := by
  rw [wk]
  split
  · rfl
  · rename_i h'; rw [h] at h'; cases h'
theorem wk_same (h : tw[nx tw n ((l + 1 : Nat) : Int)]? = some q) (hb : b = some (nx tw n ((l + 1 : Nat) : Int)) ∧ lean = true) : wk tw key lean early (l + 1) n b = .same ((l + 1 : Nat) : Int) q.1 :: wk tw key lean early l n (some (nx tw n ((l + 1 : Nat) : Int))) := by
  rw [wk]
  split
  · rename_i h'; rw [h] at h'; cases h'
  · rename_i q' h'; rw [h] at h'; cases h'; rw [if_pos hb]
theorem wk_right (h : tw[nx tw n ((l + 1 : Nat) : Int)]? = some q) (hb : ¬ (b = some (nx tw n ((l + 1 : Nat) : Int)) ∧ lean = true)) (hq : q.1 < key) : wk tw key lean early (l + 1) n b = .right ((l + 1 : Nat) : Int) q.1 :: wk tw key lean early (l + 1) (nx tw n ((l + 1 : Nat) : Int) + 1) b := by
  rw [wk]
  split
  · rename_i h'; rw [h] at h'; cases h'
  · rename_i q' h'; rw [h] at h'; cases h'; rw [if_neg hb, if_pos hq]
theorem wk_found (h : tw[nx tw n ((l + 1 : Nat) : Int)]? = some q) (hb : ¬ (b = some (nx tw n ((l + 1 : Nat) : Int)) ∧ lean = true)) (hq : ¬ q.1 < key) (he : q.1 = key ∧ early = true) : wk tw key lean early (l + 1) n b = [.found ((l + 1 : Nat) : Int) key] := by
  rw [wk]
  split
  · rename_i h'; rw [h] at h'; cases h'
  · rename_i q' h'; rw [h] at h'; cases h'; rw [if_neg hb, if_neg hq, if_pos he]
theorem wk_stop (h : tw[nx tw n ((l + 1 : Nat) : Int)]? = some q) (hb : ¬ (b = some (nx tw n ((l + 1 : Nat) : Int)) ∧ lean = true)) (hq : ¬ q.1 < key) (he : ¬ (q.1 = key ∧ early = true)) : wk tw key lean early (l + 1) n b = .stop ((l + 1 : Nat) : Int) q.1 :: wk tw key lean early l n (some (nx tw n ((l + 1 : Nat) : Int))) := by
  rw [wk]
  split
  · rename_i h'; rw [h] at h'; cases h'
  · rename_i q' h'; rw [h] at h'; cases h'; rw [if_neg hb, if_neg hq, if_neg he]
end
theorem wk_len {tw : Tws} {key : Int} {lean early : Bool} : ∀ (l m n : Nat) (b : Option Nat), tw.length - n = m → n ≤ tw.length → (wk tw key lean early l n b).length ≤ l + (tw.length - n) + 1 := by
  intro l
  induction l with
  | zero =>
    intro m n b _ _
    rw [wk_0]
    split
    · simp
    · unfold lookS; split <;> simp
  | succ l ihl =>
    intro m
    induction m using Nat.strongRecOn with
    | _ m ih =>
      intro n b hm hn
      have hng := nx_ge tw n ((l + 1 : Nat) : Int)
      cases h : tw[nx tw n ((l + 1 : Nat) : Int)]? with
      | none => rw [wk_fin h]; have := ihl _ n none rfl hn; simp only [List.length_cons]; omega
      | some q =>
        have h1 := (List.getElem?_eq_some_iff.mp h).1
        by_cases hb : b = some (nx tw n ((l + 1 : Nat) : Int)) ∧ lean = true
        · rw [wk_same h hb]; have := ihl _ n (some (nx tw n ((l + 1 : Nat) : Int))) rfl hn; simp only [List.length_cons]; omega
        · by_cases hq : q.1 < key
          · rw [wk_right h hb hq]
            have := ih (tw.length - (nx tw n ((l + 1 : Nat) : Int) + 1)) (by omega) (nx tw n ((l + 1 : Nat) : Int) + 1) b rfl (by omega)
            simp only [List.length_cons]; omega
          · by_cases he : q.1 = key ∧ early = true
            · rw [wk_found h hb hq he]; simp
            · rw [wk_stop h hb hq he]; have := ihl _ n (some (nx tw n ((l + 1 : Nat) : Int))) rfl hn; simp only [List.length_cons]; omega
/-- the four manners -/
inductive Mn where
  | plain | lean | early | sharp
def Mn.s : Mn → Str
  | .plain => "plain" | .lean => "lean" | .early => "early" | .sharp => "sharp"
def Mn.ln : Mn → Bool
  | .lean => true | .sharp => true | _ => false
def Mn.ea : Mn → Bool
  | .early => true | .sharp => true | _ => false
theorem in_ln {S : Store} (m : Mn) : cmpD .In (.str m.s) (.tup [.str "lean", .str "sharp"]) S = some m.ln := by cases m <;> kernel_rfl
theorem in_ea {S : Store} (m : Mn) : cmpD .In (.str m.s) (.tup [.str "early", .str "sharp"]) S = some m.ea := by cases m <;> kernel_rfl
theorem nin_mn {S : Store} (m : Mn) : cmpD .NotIn (.str m.s) (.tup [.str "plain", .str "lean", .str "early", .str "sharp"]) S = some false := by cases m <;> kernel_rfl
end Mi
namespace Mi
def bI (b : Option Nat) : Option Int := b.map fun n => (n : Int)
theorem bI_eq {b : Option Nat} {p : Nat} : (bI b = some ((p : Nat) : Int)) = (b = some p) := by
  cases b with
  | none => simp [bI]
  | some n => simp [bI]; omega
theorem bI_s {p : Nat} : kD (bI (some p)) = .int (p : Int) := rfl
theorem bI_n : kD (bI none) = .non := rfl
end Mi
namespace Mi
open PySem PySem.Spec
open L2 (atI ixN Key)
def isFd : Stp → Bool
  | .found .. => true
  | _ => false
def isCp : Stp → Bool
  | .right .. => true | .stop .. => true | .look .. => true | .found .. => true
  | _ => false
theorem eqD_found {S : Store} (s : Stp) : eqD S (.str s.w) (.str "found") = some (isFd s) := by cases s <;> kernel_rfl
theorem in_Cp {S : Store} (s : Stp) : cmpD .In (wD s) (.tup [.str "right", .str "stop", .str "look", .str "found"]) S = some (isCp s) := by cases s <;> kernel_rfl
theorem py_w {S : Store} (s : Stp) : (toPy S 119 (wD s)).isSome = true := by cases s <;> kernel_rfl
theorem py_ws (S : Store) (ss : List Stp) : pyOk S (ss.map wD) = true := py_map fun s _ => py_w s
theorem pr_ws (ss : List Stp) : D.pureL (ss.map wD) = true := pureL_map ss fun _ _ => rfl
/-- the lane of the last step -/
def lastL (ss : List Stp) (begin_ : Int) : Int := match ss.getLast? with
  | some (.found l _) => l
  | _ => if 1 < begin_ then 1 else begin_
def cwD (ss : List Stp) (begin_ : Int) : List D := [.int (ss.countP (isW "right") : Nat), .int (begin_ - lastL ss begin_), .int (ss.countP isCp : Nat)]
theorem py_cw (S : Store) (ss : List Stp) (b : Int) : pyOk S (cwD ss b) = true := by
  unfold cwD
  rw [py_cons, py_cons, py_cons, py_nil, py_int, py_int, py_int]; rfl
theorem pr_cw (ss : List Stp) (b : Int) : D.pureL (cwD ss b) = true := rfl
end Mi
namespace Mi
theorem cnt_nil {x : PySem.Str} : cntSeq (.str x) [] = some 0 := rfl
end Mi

end

section
/-! Mi25: what lies to the left changes nothing. -/
namespace Mi
open PySem PySem.Spec
open L2 (atI ixN Key)
section
variable {A R : Tws} {f key : Int}
theorem at_app {n : Nat} : (A ++ R)[A.length + n]? = R[n]? := by
  rw [List.getElem?_append_right (by omega)]; congr 1; omega
theorem nx_app {n : Nat} {l : Int} : nx (A ++ R) (A.length + n) l = A.length + nx R n l := by
  unfold nx
  have : (A ++ R).drop (A.length + n) = R.drop n := by
    rw [List.drop_append]
    simp
  rw [this]; omega
theorem pbN_app {l : Int} : ∀ {A : Tws}, pbN f l (A ++ R) = match pbN f l R with | 0 => pbN f l A | m + 1 => A.length + (m + 1)
  | [] => by
    rw [List.nil_append]
    cases pbN f l R with
    | zero => rfl
    | succ m => simp
  | p :: A => by
    rw [List.cons_append, pbN_cons, pbN_app (A := A)]
    cases h : pbN f l R with
    | zero => dsimp only; rw [pbN_cons]
    | succ m =>
      show (A.length + m) + 2 = (p :: A).length + (m + 1)
      simp; omega
theorem rr_app {l : Int} : ∀ (m n : Nat), R.length - n = m → rr (A ++ R) key l (A.length + n) = ((rr R key l n).1, A.length + (rr R key l n).2) := by
  intro m
  induction m using Nat.strongRecOn with
  | _ m ih =>
    intro n hm
    cases h : R[nx R n l]? with
    | none =>
      rw [rr_stay (tw := R) (fun q hq => by rw [h] at hq; cases hq), rr_stay (fun q hq => by rw [nx_app, at_app, h] at hq; cases hq)]
    | some q =>
      by_cases hq : q.1 < key
      · have h1 := (List.getElem?_eq_some_iff.mp h).1
        have h2 := nx_ge R n l
        rw [rr_right h hq, rr_right (q := q) (by rw [nx_app, at_app, h]) hq, nx_app]
        have := ih (R.length - (nx R n l + 1)) (by omega) (nx R n l + 1) rfl
        rw [show A.length + nx R n l + 1 = A.length + (nx R n l + 1) by omega, this]
      · rw [rr_stay (tw := R) (fun q' hq' => by rw [h] at hq'; cases hq'; exact hq), rr_stay (fun q' hq' => by rw [nx_app, at_app, h] at hq'; cases hq'; exact hq)]
theorem seS_app {l : Int} {n : Nat} : seS (A ++ R) l (A.length + n) = seS R l n := by
  unfold seS; rw [nx_app, at_app]
theorem sr_app : ∀ (l n : Nat), sr (A ++ R) key l (A.length + n) = ((sr R key l n).1, A.length + (sr R key l n).2)
  | 0, n => rfl
  | l + 1, n => by
    rw [sr, sr, rr_app _ n rfl]
    dsimp only
    rw [seS_app, sr_app l _]
theorem srch_app {l n : Nat} : srch (A ++ R) key l (A.length + n) = srch R key l n := by
  unfold srch
  rw [sr_app]
  dsimp only
  congr 1
  unfold lookS
  rw [at_app]
/-- a climb to the right, by what the whole row does -/
theorem crF_appA : ∀ (j l : Nat), (∀ i : Nat, l ≤ i → i ≤ (crF (A ++ R) f key j l).2.1 → 0 < pbN f i R) → crF (A ++ R) f key j l = ((crF R f key j l).1, (crF R f key j l).2.1, A.length + (crF R f key j l).2.2)
  | 0, l, h => by
    have h0 := h l (Nat.le_refl _) (Nat.le_refl _)
    rw [crF, crF, pbN_app]
    cases hp : pbN f l R with
    | zero => omega
    | succ m => rfl
  | j + 1, l, h => by
    have hl := crF_len (tw := A ++ R) (f := f) (key := key) (j + 1) l
    have h0 := h l (Nat.le_refl _) hl.2.1
    have ep : pbN f l (A ++ R) = A.length + pbN f l R := by
      rw [pbN_app]
      cases hp : pbN f l R with
      | zero => omega
      | succ m => rfl
    rw [crF] at h
    rw [crF, crF]
    rw [ep, nx_app, at_app] at h ⊢
    cases h5 : R[nx R (pbN f l R) l]? with
    | none => rfl
    | some q =>
      rw [h5] at h
      dsimp only at h ⊢
      by_cases hq : key ≤ q.1
      · rw [if_pos hq, if_pos hq]
      · rw [if_neg hq] at h
        rw [if_neg hq, if_neg hq, crF_appA j (l + 1) (fun i h1 h2 => h i (by omega) h2)]
theorem crF_appR : ∀ (j l : Nat), (∀ i : Nat, l ≤ i → i ≤ (crF R f key j l).2.1 → 0 < pbN f i R) → crF (A ++ R) f key j l = ((crF R f key j l).1, (crF R f key j l).2.1, A.length + (crF R f key j l).2.2)
  | 0, l, h => by
    have h0 := h l (Nat.le_refl _) (Nat.le_refl _)
    rw [crF, crF, pbN_app]
    cases hp : pbN f l R with
    | zero => omega
    | succ m => rfl
  | j + 1, l, h => by
    have hl := crF_len (tw := R) (f := f) (key := key) (j + 1) l
    have h0 := h l (Nat.le_refl _) hl.2.1
    have ep : pbN f l (A ++ R) = A.length + pbN f l R := by
      rw [pbN_app]
      cases hp : pbN f l R with
      | zero => omega
      | succ m => rfl
    rw [crF] at h
    rw [crF, crF]
    rw [ep, nx_app, at_app]
    cases h5 : R[nx R (pbN f l R) l]? with
    | none => rfl
    | some q =>
      rw [h5] at h
      dsimp only at h ⊢
      by_cases hq : key ≤ q.1
      · rw [if_pos hq, if_pos hq]
      · rw [if_neg hq] at h
        rw [if_neg hq, if_neg hq, crF_appR j (l + 1) (fun i h1 h2 => h i (by omega) h2)]
end
end Mi
namespace Mi
open PySem PySem.Spec
section
variable {A R : Tws} {f key : Int}
theorem sb_appA (hk : key > f) (hH : hiT (A ++ R) = hiT R) (hc : ∀ i : Nat, 1 ≤ i → i ≤ sbL (A ++ R) f key → 0 < pbN f i R) : sbS (A ++ R) f key = sbS R f key ∧ sbL (A ++ R) f key = sbL R f key := by
  unfold sbS sbL at *
  rw [hH] at hc ⊢
  by_cases hz : hiT R = 0
  · rw [if_pos hz, if_pos hz, if_pos hz, if_pos hz]; exact ⟨rfl, rfl⟩
  · rw [if_neg hz] at hc
    rw [if_neg hz, if_neg hz, if_neg hz, if_neg hz]
    unfold climb at *
    rw [if_pos hk, hH] at hc
    rw [if_pos hk, if_pos hk, hH, crF_appA _ _ hc]
    dsimp only
    rw [srch_app]
    exact ⟨rfl, rfl⟩
theorem sb_appR (hk : key > f) (hH : hiT (A ++ R) = hiT R) (hc : ∀ i : Nat, 1 ≤ i → i ≤ sbL R f key → 0 < pbN f i R) : sbS (A ++ R) f key = sbS R f key ∧ sbL (A ++ R) f key = sbL R f key := by
  unfold sbS sbL at *
  rw [hH]
  by_cases hz : hiT R = 0
  · rw [if_pos hz, if_pos hz, if_pos hz, if_pos hz]; exact ⟨rfl, rfl⟩
  · rw [if_neg hz] at hc
    rw [if_neg hz, if_neg hz, if_neg hz, if_neg hz]
    unfold climb at *
    rw [if_pos hk] at hc
    rw [if_pos hk, if_pos hk, hH, crF_appR _ _ hc]
    dsimp only
    rw [srch_app]
    exact ⟨rfl, rfl⟩
end
theorem pb_pos {f : Int} {p : Int × Int} {r : Tws} {i : Int} (h1 : p.1 < f) (h2 : i ≤ p.2) : 0 < pbN f i (p :: r) := by
  rw [pbN_cons]
  cases pbN f i r with
  | zero =>
    have : belowB f i p = true := by unfold belowB; simp [h1, h2]
    show 0 < if belowB f i p = true then 1 else 0
    rw [if_pos this]; decide
  | succ m => exact Nat.succ_pos _
def isUp : Stp → Bool
  | .up .. => true
  | _ => false
theorem lane_up {s : Stp} {l : Int} (h : laneOf s = some l) : isUp s = false := by cases s <;> first | rfl | cases h
theorem crF_ups {tw : Tws} {f key : Int} : ∀ (j l : Nat), (crF tw f key j l).2.1 = l + (crF tw f key j l).1.countP isUp
  | 0, l => rfl
  | j + 1, l => by
    rw [crF]
    split
    · rfl
    · split
      · rfl
      · dsimp only
        rw [List.countP_cons, crF_ups j (l + 1)]
        simp [isUp]; omega
theorem srch_ups {tw : Tws} {key : Int} {l n : Nat} : (srch tw key l n).countP isUp = 0 := by
  rw [List.countP_eq_zero]
  intro s hs
  unfold srch at hs
  rcases List.mem_append.mp hs with hs | hs
  · obtain ⟨i, h1, _⟩ := sr_lanes l n s hs
    rw [lane_up h1]; decide
  · unfold lookS at hs
    split at hs
    · rename_i p _
      have : s = .look p.1 := by simpa using hs
      rw [this]; simp [isUp]
    · cases hs
theorem sb_ups {tw : Tws} {f key : Int} (hk : key > f) (hz : hiT tw ≠ 0) : sbL tw f key = 1 + (sbS tw f key).countP isUp := by
  unfold sbS sbL
  rw [if_neg hz, if_neg hz, List.countP_append, srch_ups]
  unfold climb
  rw [if_pos hk, crF_ups]; omega
theorem eqD_up {S : Store} (s : Stp) : eqD S (.str s.w) (.str "up") = some (isUp s) := by cases s <;> kernel_rfl
/-- from behind all: up in each lane, then as from the head -/
theorem pbN_last {f i : Int} {p : Int × Int} (h1 : p.1 < f) (h2 : i ≤ p.2) : ∀ A : Tws, pbN f i (A ++ [p]) = A.length + 1 := fun A => by
  rw [pbN_app]
  have : pbN f i [p] = 1 := by
    rw [pbN_cons, show pbN f i [] = 0 from rfl]
    have : belowB f i p = true := by unfold belowB; simp [h1, h2]
    dsimp only
    rw [if_pos this]
  rw [this]
theorem clF_all {A : Tws} {p : Int × Int} {f key : Int} (h1 : p.1 < f) (hk : key ≤ p.1) : ∀ (j l : Nat), ((l + j : Nat) : Int) ≤ p.2 + 1 → clF (A ++ [p]) f key j l = ((rangeI l j).map (fun i => .up i p.1), l + j - 1, 0)
  | 0, l, _ => rfl
  | j + 1, l, h => by
    rw [clF, pbN_last h1 (by omega)]
    have ek : keyAt (A ++ [p]) (A.length + 1) = some p.1 := by
      rw [keyAt, List.getElem?_append_right (Nat.le_refl _), Nat.sub_self]; rfl
    rw [ek]
    dsimp only
    rw [if_neg (by omega), clF_all h1 hk j (l + 1) (by omega), rangeI, List.map_cons]
    dsimp only
    rw [show ((l + 1 : Nat) : Int) = (l : Int) + 1 by omega, show l + 1 + j - 1 = l + (j + 1) - 1 by omega]
end Mi
namespace Mi
open PySem PySem.Spec
open L2 (atI ixN Key)
theorem enI_lt : ∀ {r : List Int} {i : Int} {q : Int × Int}, q ∈ enI i r → i ≤ q.1 ∧ q.1 < i + r.length ∧ r[(q.1 - i).toNat]? = some q.2
  | [], i, q, h => by cases h
  | x :: r, i, q, h => by
    rw [enI] at h
    rcases List.mem_cons.mp h with rfl | h
    · refine ⟨Int.le_refl _, by simp; omega, ?_⟩
      simp
    · obtain ⟨h1, h2, h3⟩ := enI_lt h
      refine ⟨by omega, by simp; omega, ?_⟩
      rw [show (q.1 - i).toNat = (q.1 - (i + 1)).toNat + 1 by omega]
      simpa using h3
/-- the finger of a walk: the key ahead -/
def fk (ks : List Int) (i : Int) : Int := (ks[(i - 1).toNat]?).getD 0
theorem fk_at {ks : List Int} {i : Int} (h0 : 0 ≤ i) (h1 : i < ks.length) : atI (ks.map D.int) (if i - 1 > 0 then i - 1 else 0) = some (.int (fk ks i)) := by
  have hl : (i - 1).toNat < ks.length := by omega
  have e : (if i - 1 > 0 then i - 1 else 0) = (((i - 1).toNat : Nat) : Int) := by split <;> omega
  rw [e]
  refine at_nat ?_
  unfold fk
  rw [List.getElem?_map, List.getElem?_eq_getElem hl]; rfl
def wkL (tw : Tws) (ks : List Int) : List D := (enI 0 ks).map fun q => .tup (cstD (sbS tw (fk ks q.1) q.2) (sbL tw (fk ks q.1) q.2))
theorem pr_cst (ss : List Stp) (lv : Nat) : D.pure (.tup (cstD ss lv)) = true := rfl
theorem pr_wkL (tw : Tws) (ks : List Int) : D.pureL (wkL tw ks) = true := pureL_map _ fun _ _ => rfl
theorem py_wkL (S : Store) (tw : Tws) (ks : List Int) : pyOk S (wkL tw ks) = true := py_all2 fun d h => by
  obtain ⟨q, _, rfl⟩ := List.mem_map.mp h
  rfl
end Mi
namespace Mi
theorem split_at {tw : Tws} {f u P : Int} (hf : Fine tw) (h : ((tw.filter fun p => decide (p.1 < f) && decide (u < p.2)).map (·.1)).getLast? = some P) :
    ∃ (A : Tws) (p : Int × Int) (R : Tws), tw = A ++ p :: R ∧ p.1 = P ∧ p.1 < f ∧ u < p.2 ∧ (tw.filter fun q => decide (P ≤ q.1)) = p :: R := by
  have hm := List.mem_of_getLast? h
  obtain ⟨p, hp, rfl⟩ := List.mem_map.mp hm
  obtain ⟨hp1, hp2⟩ := List.mem_filter.mp hp
  simp only [Bool.and_eq_true, decide_eq_true_eq] at hp2
  obtain ⟨A, R, e⟩ := List.append_of_mem hp1
  refine ⟨A, p, R, e, rfl, hp2.1, hp2.2, ?_⟩
  subst e
  obtain ⟨h1, ⟨h2, h3, h4⟩, h5⟩ := hf.app
  have e1 : A.filter (fun q => decide (p.1 ≤ q.1)) = [] := by
    rw [List.filter_eq_nil_iff]
    intro q hq
    have := h5 q hq p (List.mem_cons_self ..)
    simp; omega
  have e2 : R.filter (fun q => decide (p.1 ≤ q.1)) = R := by
    rw [List.filter_eq_self]
    intro q hq
    have := h3 q hq
    simp; omega
  rw [List.filter_append, e1, List.nil_append, List.filter_cons, e2]
  simp
theorem Fine.join {A B : Tws} (ha : Fine A) (hb : Fine B) (h : ∀ p ∈ A, ∀ q ∈ B, p.1 < q.1) : Fine (A ++ B) := by
  induction A with
  | nil => exact hb
  | cons a r ih =>
    obtain ⟨h1, h2, h3⟩ := ha
    refine ⟨h1, fun q hq => ?_, ih h3 fun p hp => h p (List.mem_cons_of_mem _ hp)⟩
    rcases List.mem_append.mp hq with hq | hq
    · exact h2 q hq
    · exact h a (List.mem_cons_self ..) q hq
theorem hiT_eq {tw : Tws} {m : Int} (h1 : ∀ p ∈ tw, p.2 ≤ m) {p : Int × Int} (h2 : p ∈ tw) (h3 : p.2 = m) (h0 : 0 ≤ m) : hiT tw = m := by
  have := hiT_le h0 h1
  have := le_hiT h2
  omega
end Mi

end

section
/-! Mi26: tables of links; what the law of single steps asks. -/
namespace Mi
open PySem PySem.Spec
open L2 (atI ixN Key)
/-- the next key of a lane -/
def nk (tw : Tws) (n : Nat) (l : Int) : Option Int := (tw[nx tw n l]?).map (·.1)
/-- the head, or a place behind a tower that is so high -/
def vld (tw : Tws) (n : Nat) (l : Int) : Prop := n = 0 ∨ ∃ m p, n = m + 1 ∧ tw[m]? = some p ∧ l ≤ p.2
def oK : Option Int → NestedKey
  | none => .none
  | some i => .num i
def tk (o : Option Int) (l : Int) : NestedKey := .tup [oK o, .num l]
theorem keyT_tk (o : Option Int) (l : Int) : keyT [kD o, .int l] = some (tk o l) := by cases o <;> rfl
theorem tk_inj {o o' : Option Int} {l l' : Int} (h : tk o l = tk o' l') : o = o' ∧ l = l' := by
  unfold tk at h
  injection h with h
  injection h with h1 h2
  injection h2 with h2 _
  injection h2 with h2
  refine ⟨?_, h2⟩
  cases o <;> cases o' <;> simp [oK] at h1 ⊢
  exact h1
theorem keyAt_inj {tw : Tws} (hf : Fine tw) {n n' : Nat} (h : n ≤ tw.length) (h' : n' ≤ tw.length) (e : keyAt tw n = keyAt tw n') : n = n' := by
  have key : ∀ {i j : Nat}, i < tw.length → j < tw.length → (tw[i]?).map (·.1) = (tw[j]?).map (·.1) → i = j := fun {i j} hi hj e => by
    rw [List.getElem?_eq_getElem hi, List.getElem?_eq_getElem hj] at e
    simp only [Option.map_some, Option.some.injEq] at e
    rcases Nat.lt_trichotomy i j with hl | hl | hl
    · have := hf.mono hl (List.getElem?_eq_getElem hi) (List.getElem?_eq_getElem hj); omega
    · exact hl
    · have := hf.mono hl (List.getElem?_eq_getElem hj) (List.getElem?_eq_getElem hi); omega
  cases n with
  | zero =>
    cases n' with
    | zero => rfl
    | succ m =>
      have e' : (none : Option Int) = (tw[m]?).map (·.1) := e
      rw [List.getElem?_eq_getElem (by omega)] at e'; cases e'
  | succ m =>
    cases n' with
    | zero =>
      have e' : (tw[m]?).map (·.1) = (none : Option Int) := e
      rw [List.getElem?_eq_getElem (by omega)] at e'; cases e'
    | succ m' => rw [key (by omega) (by omega) (show (tw[m]?).map (·.1) = (tw[m']?).map (·.1) from e)]
/-- nothing between is high enough -/
theorem nx_lt {tw : Tws} {l : Int} : ∀ {d n m : Nat} {p : Int × Int}, m = n + d → tw[m]? = some p → l ≤ p.2 → nx tw n l ≤ m := by
  intro d
  induction d with
  | zero =>
    intro n m p hm h hl
    rw [Nat.add_zero] at hm
    subst hm
    rw [nx_step h, if_pos hl]; exact Nat.le_refl _
  | succ d ih =>
    intro n m p hm h hl
    have hml := (List.getElem?_eq_some_iff.mp h).1
    have hn : tw[n]? = some tw[n] := List.getElem?_eq_getElem (by omega)
    rw [nx_step hn]
    split
    · omega
    · exact ih (by omega) h hl
theorem nx_high {tw : Tws} {l : Int} {n : Nat} {p : Int × Int} (h : tw[nx tw n l]? = some p) : l ≤ p.2 := by
  unfold nx at h
  have key : ∀ {r : Tws} {p : Int × Int}, r[fx l r]? = some p → l ≤ p.2 := by
    intro r
    induction r with
    | nil => intro p h; cases h
    | cons q r ih =>
      intro p h
      rw [fx] at h
      split at h
      · have e : q = p := Option.some.inj h
        rw [← e]; assumption
      · exact ih h
  refine key (r := tw.drop n) ?_
  rw [List.getElem?_drop]; exact h
theorem vld_uniq {tw : Tws} {l : Int} {n n' : Nat} (h : vld tw n l) (h' : vld tw n' l) (e : nx tw n l = nx tw n' l) : n = n' := by
  have key : ∀ {a b : Nat}, a < b → vld tw b l → nx tw a l = nx tw b l → False := fun {a b} hab hb e => by
    rcases hb with rfl | ⟨m, p, rfl, hp, hl⟩
    · omega
    · have h1 := nx_lt (n := a) (d := m - a) (by omega) hp hl
      have h2 := nx_ge tw (m + 1) l
      omega
  rcases Nat.lt_trichotomy n n' with hl | hl | hl
  · exact (key hl h' e).elim
  · exact hl
  · exact (key hl h e.symm).elim
theorem vld_down {tw : Tws} {l l' : Int} {n : Nat} (h : vld tw n l) (hl : l' ≤ l) : vld tw n l' := by
  rcases h with h | ⟨m, p, h1, h2, h3⟩
  · exact .inl h
  · exact .inr ⟨m, p, h1, h2, by omega⟩
/-- the table's entries up to a lane -/
def TabK (tw : Tws) (h : Nat) (kvs : List (NestedKey × D)) : Prop :=
  (∀ (n l : Nat), n ≤ tw.length → 1 ≤ l → l ≤ h → vld tw n l → getG kvs (tk (keyAt tw n) l) = some (kD (nk tw n l))) ∧ ∀ (o : Option Int) (l : Nat), h < l → getG kvs (tk o l) = none
/-- .. and within a lane, up to a place -/
def TabI (tw : Tws) (h i n : Nat) (kvs : List (NestedKey × D)) : Prop :=
  (∀ (n l : Nat), n ≤ tw.length → 1 ≤ l → l ≤ h → vld tw n l → getG kvs (tk (keyAt tw n) l) = some (kD (nk tw n l))) ∧ (∀ (o : Option Int) (l : Nat), h + 1 < l → getG kvs (tk o l) = none) ∧
  (∀ n' : Nat, n' ≤ tw.length → vld tw n' ((h + 1 : Nat) : Int) → nx tw n' ((h + 1 : Nat) : Int) < i → getG kvs (tk (keyAt tw n') ((h + 1 : Nat) : Int)) = some (kD (nk tw n' ((h + 1 : Nat) : Int)))) ∧
  n ≤ i ∧ vld tw n ((h + 1 : Nat) : Int) ∧ nx tw n ((h + 1 : Nat) : Int) = nx tw i ((h + 1 : Nat) : Int)
section
variable {tw : Tws} {h i n : Nat} {kvs : List (NestedKey × D)} {p : Int × Int}
theorem TabK.start (t : TabK tw h kvs) : TabI tw h 0 0 kvs :=
  ⟨t.1, fun o l hl => t.2 o l (by omega), fun n' _ _ z => absurd z (Nat.not_lt_zero _), Nat.le_refl _, .inl rfl, rfl⟩
theorem TabI.skip (t : TabI tw h i n kvs) (hp : tw[i]? = some p) (hl : ¬ ((h + 1 : Nat) : Int) ≤ p.2) : TabI tw h (i + 1) n kvs := by
  obtain ⟨t1, t2, t3, t4, t5, t6⟩ := t
  refine ⟨t1, t2, fun n' h1 h2 h3 => ?_, by omega, t5, ?_⟩
  · refine t3 n' h1 h2 ?_
    rcases Nat.lt_or_ge (nx tw n' ((h + 1 : Nat) : Int)) i with z | z
    · exact z
    · have e : nx tw n' ((h + 1 : Nat) : Int) = i := by omega
      exact absurd (nx_high (n := n') (by rw [e]; exact hp)) hl
  · rw [t6, nx_step hp, if_neg hl]
theorem TabI.put (hf : Fine tw) (t : TabI tw h i n kvs) (hp : tw[i]? = some p) (hl : ((h + 1 : Nat) : Int) ≤ p.2) : TabI tw h (i + 1) (i + 1) (putG kvs (tk (keyAt tw n) ((h + 1 : Nat) : Int)) (.int p.1)) := by
  obtain ⟨t1, t2, t3, t4, t5, t6⟩ := t
  have hil := (List.getElem?_eq_some_iff.mp hp).1
  have ei : nx tw i ((h + 1 : Nat) : Int) = i := by rw [nx_step hp, if_pos hl]
  refine ⟨fun n' l h1 h2 h3 h4 => ?_, fun o l h1 => ?_, fun n' h1 h2 h3 => ?_, Nat.le_refl _, .inr ⟨i, p, rfl, hp, hl⟩, rfl⟩
  · rw [getG_put, if_neg fun z => by have := (tk_inj z).2; omega]; exact t1 n' l h1 h2 h3 h4
  · rw [getG_put, if_neg fun z => by have := (tk_inj z).2; omega]; exact t2 o l h1
  · rw [getG_put]
    by_cases hn : n' = n
    · subst hn
      rw [if_pos rfl]
      unfold nk
      rw [t6, ei, hp]; rfl
    · rw [if_neg fun z => hn (keyAt_inj hf h1 (by omega) (tk_inj z).1)]
      refine t3 n' h1 h2 ?_
      rcases Nat.lt_or_ge (nx tw n' ((h + 1 : Nat) : Int)) i with z | z
      · exact z
      · exact absurd (vld_uniq h2 t5 (by omega)) hn
theorem TabI.last (hf : Fine tw) (t : TabI tw h tw.length n kvs) : TabK tw (h + 1) (putG kvs (tk (keyAt tw n) ((h + 1 : Nat) : Int)) .non) := by
  obtain ⟨t1, t2, t3, t4, t5, t6⟩ := t
  have ei : nx tw tw.length ((h + 1 : Nat) : Int) = tw.length := nx_end (Nat.le_refl _) _
  refine ⟨fun n' l h1 h2 h3 h4 => ?_, fun o l h1 => ?_⟩
  · by_cases hl : l = h + 1
    · subst hl
      rw [getG_put]
      by_cases hn : n' = n
      · subst hn
        rw [if_pos rfl]
        unfold nk
        rw [t6, ei, List.getElem?_eq_none (Nat.le_refl _)]; rfl
      · rw [if_neg fun z => hn (keyAt_inj hf h1 t4 (tk_inj z).1)]
        refine t3 n' h1 h4 ?_
        have := nx_le h1 ((h + 1 : Nat) : Int)
        rcases Nat.lt_or_ge (nx tw n' ((h + 1 : Nat) : Int)) tw.length with z | z
        · exact z
        · exact absurd (vld_uniq h4 t5 (by omega)) hn
    · rw [getG_put, if_neg fun z => by have := (tk_inj z).2; omega]
      exact t1 n' l h1 h2 (by omega) h4
  · rw [getG_put, if_neg fun z => by have := (tk_inj z).2; omega]
    exact t2 o l h1
end
/-- what a table of links answers -/
def TabM (tw : Tws) (mo : MO) : Prop := ∀ (S : Store) (m : Nat), lk S m = some mo → recvD .get (.loc m) S = true ∧ ∀ (n : Nat) (l : Int), n ≤ tw.length → 1 ≤ l → vld tw n l →
  mtD .get (.loc m) [.tup [kD (keyAt tw n), .int l]] S = some (kD (nk tw n l), S) ∧ ∀ q, nk tw n l = some q → ixD (.loc m) (.tup [kD (keyAt tw n), .int l]) S = some (.int q)
theorem nk_high {tw : Tws} {n : Nat} {l : Int} (hh : ∀ p ∈ tw, p.2 < l) : nk tw n l = none := by
  unfold nk
  cases h : tw[nx tw n l]? with
  | none => rfl
  | some p =>
    have h1 := nx_high h
    have h2 := hh p (List.mem_of_getElem? h)
    omega
theorem tabM_dit {tw : Tws} {h : Nat} {kvs : List (NestedKey × D)} (hh : ∀ p ∈ tw, p.2 ≤ h) (t : TabK tw h kvs) : TabM tw (.dit kvs) := by
  intro S m hm
  refine ⟨by rw [recv_lk, hm]; rfl, fun n l h1 h2 h3 => ?_⟩
  obtain ⟨l', rfl⟩ : ∃ l' : Nat, l = (l' : Int) := ⟨l.toNat, by omega⟩
  by_cases hl : l' ≤ h
  · have e := t.1 n l' h1 (by omega) hl h3
    refine ⟨?_, fun q hq => ?_⟩
    · rw [get1_dit hm, keyT_tk, Option.map_some, e]; rfl
    · rw [ix_dit, hm, keyT_tk]
      dsimp only
      rw [e, hq]; rfl
  · have e := t.2 (keyAt tw n) l' (by omega)
    have e2 : nk tw n l' = none := nk_high fun p hp => by have := hh p hp; omega
    refine ⟨?_, fun q hq => by rw [e2] at hq; cases hq⟩
    rw [get1_dit hm, keyT_tk, Option.map_some, e, e2]; rfl
theorem tabM_nil : TabM [] (.dic []) := by
  intro S m hm
  refine ⟨by rw [recv_lk, hm]; rfl, fun n l h1 h2 h3 => ⟨?_, fun q hq => ?_⟩⟩
  · rw [get1_dic0 hm, keyT_tk]; rfl
  · have : nk [] n l = none := nk_high fun p hp => by cases hp
    rw [this] at hq; cases hq
/-- a dict in the store -/
def repM (kvs : List (NestedKey × D)) (mo : MO) : Prop := mo = .dit kvs ∨ (kvs = [] ∧ mo = .dic [])
theorem set_rep {S : Store} {m : Nat} {mo : MO} {kvs : List (NestedKey × D)} {o : Option Int} {l : Int} {v : D} (hm : lk S m = some mo) (hr : repM kvs mo) (hl : kvs.length < sizeLine) : setD (.loc m) (.tup [kD o, .int l]) v S = some (S.set m (.dit (putG kvs (tk o l) v))) := by
  rw [set_dit, keyT_tk]
  dsimp only
  rw [hm]
  rcases hr with rfl | ⟨rfl, rfl⟩
  · dsimp only; rw [if_pos hl]
  · rfl
def PureK (kvs : List (NestedKey × D)) : Prop := ∀ kv ∈ kvs, D.pure kv.2 = true
theorem PureK.put {kvs : List (NestedKey × D)} (h : PureK kvs) {k : NestedKey} {v : D} (hv : D.pure v = true) : PureK (putG kvs k v) := by
  intro kv hk
  unfold putG at hk
  split at hk
  · obtain ⟨x, hx, rfl⟩ := List.mem_map.mp hk
    split
    · exact hv
    · exact h x hx
  · rcases List.mem_append.mp hk with hk | hk
    · exact h kv hk
    · have e : kv = (k, v) := by simpa using hk
      rw [e]; exact hv
theorem pureL_all : ∀ {ds : List D}, (∀ d ∈ ds, D.pure d = true) → D.pureL ds = true
  | [], _ => rfl
  | d :: r, h => by rw [pr_cons, h d (List.mem_cons_self ..), pureL_all fun x hx => h x (List.mem_cons_of_mem _ hx)]; rfl
theorem PureK.mo {kvs : List (NestedKey × D)} (h : PureK kvs) {mo : MO} (hr : repM kvs mo) : MO.pure mo = true := by
  rcases hr with rfl | ⟨rfl, rfl⟩
  · exact pureL_all fun d hd => by
      obtain ⟨x, hx, rfl⟩ := List.mem_map.mp hd
      exact h x hx
  · rfl
theorem tabK_0 {tw : Tws} : TabK tw 0 [] := ⟨fun n l _ h1 h2 => by omega, fun _ _ _ => rfl⟩
theorem tabM_rep {tw : Tws} {h : Nat} {kvs : List (NestedKey × D)} {mo : MO} (hf : Fine tw) (hh : ∀ p ∈ tw, p.2 ≤ h) (t : TabK tw h kvs) (hr : repM kvs mo) (h0 : h = 0 ∨ mo = .dit kvs) : TabM tw mo := by
  rcases h0 with rfl | rfl
  · have : tw = [] := by
      cases tw with
      | nil => rfl
      | cons p r =>
        have h1 := hf.pos p (List.mem_cons_self ..)
        have h2 := hh p (List.mem_cons_self ..)
        omega
    subst this
    rcases hr with rfl | ⟨rfl, rfl⟩
    · exact tabM_dit hh t
    · exact tabM_nil
  · exact tabM_dit hh t
theorem in_pl {S : Store} (m : Mn) : cmpD .In (.str m.s) (.tup [.str "plain", .str "lean"]) S = some (!m.ea) := by cases m <;> kernel_rfl
/-! costs -/
theorem eqD_right {S : Store} (s : Stp) : eqD S (.str s.w) (.str "right") = some (isW "right" s) := by cases s <;> kernel_rfl
def fdLast (key : Int) (ss : List Stp) : Prop := ∃ pre, (∀ s ∈ pre, isFd s = false) ∧ (ss = pre ∨ ∃ l, ss = pre ++ [.found l key])
theorem fdLast.cons {key : Int} {ss : List Stp} {s : Stp} (hs : isFd s = false) (h : fdLast key ss) : fdLast key (s :: ss) := by
  obtain ⟨pre, h1, h2⟩ := h
  refine ⟨s :: pre, fun x hx => ?_, ?_⟩
  · rcases List.mem_cons.mp hx with rfl | hx
    · exact hs
    · exact h1 x hx
  · rcases h2 with rfl | ⟨l, rfl⟩
    · exact .inl rfl
    · exact .inr ⟨l, rfl⟩
theorem wk_fd {tw : Tws} {key : Int} {lean early : Bool} : ∀ (l m n : Nat) (b : Option Nat), tw.length - n = m → fdLast key (wk tw key lean early l n b) := by
  intro l
  induction l with
  | zero =>
    intro m n b _
    rw [wk_0]
    refine ⟨_, fun s hs => ?_, .inl rfl⟩
    split at hs
    · cases hs
    · unfold lookS at hs
      split at hs
      · rcases List.mem_cons.mp hs with rfl | hs
        · rfl
        · cases hs
      · cases hs
  | succ l ihl =>
    intro m
    induction m using Nat.strongRecOn with
    | _ m ih =>
      intro n b hm
      have hng := nx_ge tw n ((l + 1 : Nat) : Int)
      cases h : tw[nx tw n ((l + 1 : Nat) : Int)]? with
      | none => rw [wk_fin h]; exact (ihl _ n none rfl).cons rfl
      | some q =>
        have h1 := (List.getElem?_eq_some_iff.mp h).1
        by_cases hb : b = some (nx tw n ((l + 1 : Nat) : Int)) ∧ lean = true
        · rw [wk_same h hb]; exact (ihl _ n _ rfl).cons rfl
        · by_cases hq : q.1 < key
          · rw [wk_right h hb hq]
            exact (ih (tw.length - (nx tw n ((l + 1 : Nat) : Int) + 1)) (by omega) (nx tw n ((l + 1 : Nat) : Int) + 1) b rfl).cons rfl
          · by_cases he : q.1 = key ∧ early = true
            · rw [wk_found h hb hq he]; exact ⟨[], (fun s hs => by cases hs), .inr ⟨_, rfl⟩⟩
            · rw [wk_stop h hb hq he]; exact (ihl _ n _ rfl).cons rfl
/-- the downs, step by step -/
def dwF (start d : Int) : List Stp → Int
  | [] => d
  | .found l _ :: r => dwF start (start - l) r
  | _ :: r => dwF start d r
theorem dwF_pre {start d : Int} : ∀ {ss : List Stp}, (∀ s ∈ ss, isFd s = false) → ∀ r, dwF start d (ss ++ r) = dwF start d r
  | [], _, r => rfl
  | s :: ss, h, r => by
    have h1 := h s (List.mem_cons_self ..)
    have ih := dwF_pre (start := start) (d := d) (ss := ss) (fun x hx => h x (List.mem_cons_of_mem _ hx)) r
    cases s <;> first | exact ih | cases h1
theorem dwF_last {start : Int} {key : Int} {ss : List Stp} (h : fdLast key ss) : dwF start (if start - 1 > 0 then start - 1 else 0) ss = start - lastL ss start := by
  obtain ⟨pre, h1, h2⟩ := h
  rcases h2 with rfl | ⟨l, rfl⟩
  · have e := dwF_pre (start := start) (d := if start - 1 > 0 then start - 1 else 0) h1 []
    rw [List.append_nil] at e
    rw [e]
    have : lastL ss start = if 1 < start then 1 else start := by
      unfold lastL
      cases hl : ss.getLast? with
      | none => rfl
      | some s =>
        have := h1 s (List.mem_of_getLast? hl)
        cases s <;> first | rfl | cases this
    rw [this]
    show (if start - 1 > 0 then start - 1 else 0) = _
    split <;> split <;> omega
  · rw [dwF_pre h1]
    have : lastL (pre ++ [.found l key]) start = l := by unfold lastL; rw [List.getLast?_append]; rfl
    rw [this]; rfl
/-! the greatest lesser keys -/
def befK (tw : Tws) (key l : Int) : Option Int := ((tw.filter fun p => decide (p.1 < key) && decide (l ≤ p.2)).map (·.1)).getLast?
theorem befK_snoc {tw : Tws} {key l : Int} {p : Int × Int} : befK (tw ++ [p]) key l = if p.1 < key ∧ l ≤ p.2 then some p.1 else befK tw key l := by
  unfold befK
  rw [List.filter_append, List.map_append]
  by_cases h : p.1 < key ∧ l ≤ p.2
  · rw [if_pos h]; simp [h.1, h.2]
  · rw [if_neg h]
    have : (decide (p.1 < key) && decide (l ≤ p.2)) = false := by
      rw [Bool.and_eq_false_iff]
      by_cases h1 : p.1 < key
      · right; simpa using fun h2 => h ⟨h1, h2⟩
      · left; simpa using h1
    simp [this]
end Mi

end

section
set_option maxHeartbeats 1000000
/-! Mi27: what a search from a finger costs, by records of the heights. -/
namespace Mi
open PySem PySem.Spec
open L2 (atI ixN Key)
def blw (key : Int) (tw : Tws) : Tws := tw.filter fun p => decide (p.1 < key)
def frm (key : Int) (tw : Tws) : Tws := tw.filter fun p => decide (key ≤ p.1)
theorem parts {key : Int} : ∀ {tw : Tws}, Fine tw → tw = blw key tw ++ frm key tw
  | [], _ => rfl
  | p :: r, ⟨h1, h2, h3⟩ => by
    unfold blw frm
    by_cases h : p.1 < key
    · have ih := parts (key := key) h3
      rw [List.filter_cons_of_pos (by simpa using h), List.filter_cons_of_neg (by simp; omega), List.cons_append]
      exact congrArg (p :: ·) ih
    · have e1 : List.filter (fun p : Int × Int => decide (p.1 < key)) r = [] := List.filter_eq_nil_iff.mpr fun q hq => by have := h2 q hq; simp; omega
      have e2 : List.filter (fun p : Int × Int => decide (key ≤ p.1)) r = r := List.filter_eq_self.mpr fun q hq => by have := h2 q hq; simp; omega
      rw [List.filter_cons_of_neg (by simpa using h), List.filter_cons_of_pos (by simp; omega), e1, e2]; rfl
theorem hi_iff {tw : Tws} (hf : Fine tw) {l : Int} (h1 : 1 ≤ l) : l ≤ hiT tw ↔ ∃ p ∈ tw, l ≤ p.2 := by
  constructor
  · intro h
    induction tw with
    | nil => unfold hiT at h; simp at h; omega
    | cons p r ih =>
      by_cases hp : l ≤ p.2
      · exact ⟨p, List.mem_cons_self .., hp⟩
      · have h2 : l ≤ hiT r := by
          have h0 := hiT_nn hf.2.2
          false_or_by_contra
          have : hiT (p :: r) ≤ l - 1 := hiT_le (n := l - 1) (by omega) fun q hq => by
            rcases List.mem_cons.mp hq with rfl | hq
            · omega
            · have := le_hiT hq; omega
          omega
        obtain ⟨q, hq, h3⟩ := ih hf.2.2 h2
        exact ⟨q, List.mem_cons_of_mem _ hq, h3⟩
  · rintro ⟨p, hp, h⟩
    have := le_hiT hp
    omega
theorem Fine.filter {p : Int × Int → Bool} : ∀ {tw : Tws}, Fine tw → Fine (tw.filter p)
  | [], _ => trivial
  | q :: r, ⟨h1, h2, h3⟩ => by
    rw [List.filter_cons]
    split
    · exact ⟨h1, fun x hx => h2 x (List.mem_filter.mp hx).1, Fine.filter h3⟩
    · exact Fine.filter h3
/-! ### records -/
/-- the weak records of the heights, from the end to the front -/
def recW : List Int → List Int
  | [] => []
  | h :: r => recW r ++ if r.all (fun x => decide (x ≤ h)) then [h] else []
def weakF (acc : List Int) : List Int → List Int
  | [] => acc
  | h :: r => weakF (if acc.isEmpty || decide (h ≥ (acc.getLast?).getD 0) then acc ++ [h] else acc) r
theorem weakF_app : ∀ (acc a b : List Int), weakF acc (a ++ b) = weakF (weakF acc a) b
  | _, [], _ => rfl
  | acc, h :: r, b => by rw [List.cons_append, weakF, weakF, weakF_app _ r b]
theorem recW_last : ∀ {A : List Int}, (recW A).isEmpty = A.isEmpty ∧ ∀ m, (recW A).getLast? = some m → m ∈ A ∧ ∀ x ∈ A, x ≤ m
  | [] => ⟨rfl, fun m h => by cases h⟩
  | h :: r => by
    obtain ⟨i1, i2⟩ := recW_last (A := r)
    rw [recW]
    by_cases hr : r.all (fun x => decide (x ≤ h)) = true
    · rw [if_pos hr]
      refine ⟨by simp, fun m hm => ?_⟩
      rw [List.getLast?_append] at hm
      simp at hm
      subst hm
      exact ⟨List.mem_cons_self .., fun x hx => by
        rcases List.mem_cons.mp hx with rfl | hx
        · exact Int.le_refl _
        · simpa using List.all_eq_true.mp hr x hx⟩
    · rw [if_neg hr, List.append_nil]
      have hne : r ≠ [] := by rintro rfl; exact hr rfl
      refine ⟨?_, fun m hm => ?_⟩
      · rw [i1]; cases r with
        | nil => exact absurd rfl hne
        | cons _ _ => rfl
      · obtain ⟨j1, j2⟩ := i2 m hm
        refine ⟨List.mem_cons_of_mem _ j1, fun x hx => ?_⟩
        rcases List.mem_cons.mp hx with rfl | hx
        · false_or_by_contra
          rename_i hc
          refine hr (List.all_eq_true.mpr fun y hy => ?_)
          have := j2 y hy
          simp; omega
        · exact j2 x hx
theorem weak_rec : ∀ A : List Int, weakF [] A.reverse = recW A
  | [] => rfl
  | h :: r => by
    rw [List.reverse_cons, weakF_app, weak_rec r, weakF, weakF, recW]
    obtain ⟨i1, i2⟩ := recW_last (A := r)
    cases e : (recW r).getLast? with
    | none =>
      have e0 : recW r = [] := List.getLast?_eq_none_iff.mp e
      have : r = [] := by rw [e0] at i1; cases r with
        | nil => rfl
        | cons _ _ => cases i1
      subst this
      rfl
    | some m =>
      obtain ⟨j1, j2⟩ := i2 m e
      have ne : (recW r).isEmpty = false := by cases h2 : recW r with
        | nil => rw [h2] at e; cases e
        | cons _ _ => rfl
      rw [ne, Bool.false_or]
      have : (decide (h ≥ ((some m : Option Int)).getD 0)) = r.all (fun x => decide (x ≤ h)) := by
        rw [Bool.eq_iff_iff, List.all_eq_true]
        simp only [Option.getD_some, decide_eq_true_eq]
        exact ⟨fun hm x hx => by have := j2 x hx; omega, fun ha => ha m j1⟩
      rw [this]
      split <;> simp
theorem rec_app {l : Int} {X : List Int} : ∀ {Y : List Int}, (∀ y, Y.getLast? = some y → l ≤ y) → (recW (Y ++ X)).countP (fun x => decide (x < l)) = (recW X).countP fun x => decide (x < l)
  | [], _ => rfl
  | [h], hy => by
    have := hy h rfl
    rw [List.cons_append, List.nil_append, recW, List.countP_append]
    split
    · simp; omega
    · simp
  | h :: g :: r, hy => by
    have ih := rec_app (l := l) (X := X) (Y := g :: r) fun y e => hy y (by rw [List.getLast?_cons_cons]; exact e)
    rw [List.cons_append, recW, List.countP_append, ih]
    split
    · rename_i ha
      have : ¬ h < l := by
        have hl := hy ((g :: r).getLast (by simp)) (by rw [List.getLast?_cons_cons, List.getLast?_eq_some_getLast (by simp)])
        have := List.all_eq_true.mp ha ((g :: r).getLast (by simp)) (List.mem_append_left _ (List.getLast_mem _))
        simp at this
        omega
      simp [this]
    · simp
theorem rec_top {l : Int} : ∀ {X : List Int}, (∀ x ∈ X, x ≤ l) → (recW X).countP (fun x => decide (x < l + 1)) = X.countP (fun x => decide (l ≤ x)) + (recW X).countP fun x => decide (x < l)
  | [], _ => rfl
  | h :: r, hx => by
    have ih := rec_top (X := r) fun x hx' => hx x (List.mem_cons_of_mem _ hx')
    have h1 := hx h (List.mem_cons_self ..)
    rw [recW, List.countP_append, List.countP_append, List.countP_cons, ih]
    by_cases e : h = l
    · have : r.all (fun x => decide (x ≤ h)) = true := List.all_eq_true.mpr fun x hx' => by have := hx x (List.mem_cons_of_mem _ hx'); simp; omega
      rw [if_pos this]
      have a1 : List.countP (fun x => decide (x < l + 1)) [h] = 1 := by simp; omega
      have a2 : List.countP (fun x => decide (x < l)) [h] = 0 := by simp; omega
      rw [a1, a2, if_pos (by simp; omega)]; omega
    · split
      · have a1 : List.countP (fun x => decide (x < l + 1)) [h] = 1 := by simp; omega
        have a2 : List.countP (fun x => decide (x < l)) [h] = 1 := by simp; omega
        rw [a1, a2, if_neg (by simp; omega)]; omega
      · rw [if_neg (by simp; omega)]; simp
theorem recW_mem : ∀ {A : List Int} {x : Int}, x ∈ recW A → x ∈ A
  | [], x, h => by cases h
  | a :: r, x, h => by
    rw [recW] at h
    rcases List.mem_append.mp h with h | h
    · exact List.mem_cons_of_mem _ (recW_mem h)
    · split at h
      · rcases List.mem_cons.mp h with rfl | h
        · exact List.mem_cons_self ..
        · cases h
      · cases h
end Mi

end

section
set_option maxHeartbeats 1000000
/-! Mi28: the counts of a search from a finger. -/
namespace Mi
open PySem PySem.Spec
open L2 (atI ixN Key)
theorem pb_cons {f l : Int} {p : Int × Int} {r : Tws} : pbN f l (p :: r) = match pbN f l r with | 0 => if p.1 < f ∧ l ≤ p.2 then 1 else 0 | m + 1 => m + 2 := by
  rw [pbN]
  all_goals (cases pbN f l r <;> rfl)
theorem nx_cons0 {p : Int × Int} {r : Tws} {l : Int} : nx (p :: r) 0 l = if l ≤ p.2 then 0 else nx r 0 l + 1 := by
  rw [nx_step (tw := p :: r) (n := 0) rfl]
  split
  · rfl
  · have := nx_app (A := [p]) (R := r) (n := 0) (l := l)
    rw [List.length_singleton, List.singleton_append] at this
    rw [show (0 : Nat) + 1 = 1 + 0 from rfl, this]; omega
theorem rr_cons {p : Int × Int} {r : Tws} {key l : Int} {n : Nat} : rr (p :: r) key l (1 + n) = ((rr r key l n).1, 1 + (rr r key l n).2) := rr_app (A := [p]) (R := r) _ n rfl
theorem rr_X {B : Tws} {key l : Int} (hB : ∀ p ∈ B, key ≤ p.1) : ∀ {X : Tws}, (∀ p ∈ X, p.1 < key) → rr (X ++ B) key l 0 = ((X.filter fun p => decide (l ≤ p.2)).map (fun p => .right l p.1), pbN key l X)
  | [], _ => rr_stay fun q hq => by
    have := hB q (List.mem_of_getElem? hq)
    omega
  | p :: r, hX => by
    have hp := hX p (List.mem_cons_self ..)
    have ih := rr_X (l := l) hB (X := r) fun q hq => hX q (List.mem_cons_of_mem _ hq)
    rw [List.cons_append]
    by_cases h : l ≤ p.2
    · have h0 : nx (p :: (r ++ B)) 0 l = 0 := by rw [nx_cons0, if_pos h]
      rw [rr_right (q := p) (by rw [h0]; rfl) hp, h0, show (0 : Nat) + 1 = 1 + 0 from rfl, rr_cons, ih, List.filter_cons_of_pos (by simpa using h), pb_cons]
      refine Prod.ext rfl ?_
      dsimp only
      cases pbN key l r with
      | zero => dsimp only; rw [if_pos ⟨hp, h⟩]
      | succ m => exact Nat.add_comm 1 (m + 1)
    · have h0 : nx (p :: (r ++ B)) 0 l = nx (r ++ B) 0 l + 1 := by rw [nx_cons0, if_neg h]
      rw [List.filter_cons_of_neg (by simpa using h), pb_cons]
      cases e : (r ++ B)[nx (r ++ B) 0 l]? with
      | none =>
        rw [rr_stay (fun q hq => by rw [e] at hq; cases hq)] at ih
        obtain ⟨i1, i2⟩ := Prod.mk.inj ih
        rw [rr_stay (fun q hq => by rw [h0, List.getElem?_cons_succ, e] at hq; cases hq), ← i1, ← i2]
        dsimp only
        rw [if_neg fun z => h z.2]
      | some q =>
        by_cases hq : q.1 < key
        · rw [rr_right e hq] at ih
          obtain ⟨i1, i2⟩ := Prod.mk.inj ih
          have hb := rr_le (tw := r ++ B) (key := key) (l := l) _ (nx (r ++ B) 0 l + 1) rfl (List.getElem?_eq_some_iff.mp e).1
          rw [rr_right (q := q) (by rw [h0, List.getElem?_cons_succ]; exact e) hq, h0, show nx (r ++ B) 0 l + 1 + 1 = 1 + (nx (r ++ B) 0 l + 1) by omega, rr_cons, ← i1, ← i2]
          refine Prod.ext rfl ?_
          dsimp only
          cases e2 : (rr (r ++ B) key l (nx (r ++ B) 0 l + 1)).2 with
          | zero => rw [e2] at hb; omega
          | succ m => exact Nat.add_comm 1 (m + 1)
        · rw [rr_stay (fun q' hq' => by rw [e] at hq'; cases hq'; exact hq)] at ih
          obtain ⟨i1, i2⟩ := Prod.mk.inj ih
          rw [rr_stay (fun q' hq' => by rw [h0, List.getElem?_cons_succ, e] at hq'; cases hq'; exact hq), ← i1, ← i2]
          dsimp only
          rw [if_neg fun z => h z.2]
/-- what lies behind the last that is high enough -/
theorem pb_split {key l : Int} : ∀ {X : Tws}, (∀ p ∈ X, p.1 < key) → (∀ p ∈ X.drop (pbN key l X), p.2 < l) ∧ ∀ y, ((X.take (pbN key l X)).map (·.2)).getLast? = some y → l ≤ y
  | [], _ => ⟨fun p h => by simp at h, fun y h => by simp at h⟩
  | p :: r, hX => by
    have hp := hX p (List.mem_cons_self ..)
    obtain ⟨i1, i2⟩ := pb_split (l := l) (X := r) fun q hq => hX q (List.mem_cons_of_mem _ hq)
    rw [pb_cons]
    cases e : pbN key l r with
    | zero =>
      rw [e] at i1 i2
      dsimp only
      by_cases h : p.1 < key ∧ l ≤ p.2
      · rw [if_pos h]
        exact ⟨i1, fun y hy => by simp at hy; rw [← hy]; exact h.2⟩
      · rw [if_neg h]
        refine ⟨fun q hq => ?_, fun y hy => by simp at hy⟩
        rcases List.mem_cons.mp hq with rfl | hq
        · have : ¬ l ≤ q.2 := fun z => h ⟨hp, z⟩
          omega
        · exact i1 q hq
    | succ m =>
      rw [e] at i1 i2
      dsimp only
      refine ⟨i1, fun y hy => i2 y ?_⟩
      rw [List.take_succ_cons, List.map_cons] at hy
      have hne : ((r.take (m + 1)).map (·.2)) ≠ [] := by
        have := pbN_le key l r
        cases r with
        | nil => rw [e] at this; simp at this
        | cons _ _ => simp
      rw [List.getLast?_cons, List.getLast?_eq_some_getLast hne] at hy
      rw [List.getLast?_eq_some_getLast hne]
      simpa using hy
theorem nx_skip {B : Tws} {l : Int} : ∀ {X : Tws}, (∀ p ∈ X, p.2 < l) → nx (X ++ B) 0 l = X.length + nx B 0 l
  | [], _ => by simp
  | p :: r, h => by
    have := h p (List.mem_cons_self ..)
    rw [List.cons_append, nx_cons0, if_neg (by omega), nx_skip fun q hq => h q (List.mem_cons_of_mem _ hq), List.length_cons]; omega
theorem nx_some {B : Tws} {l : Int} : (B[nx B 0 l]?).isSome = true ↔ ∃ p ∈ B, l ≤ p.2 := by
  constructor
  · intro h
    obtain ⟨q, hq⟩ := Option.isSome_iff_exists.mp h
    exact ⟨q, List.mem_of_getElem? hq, nx_high hq⟩
  · rintro ⟨p, hp, hl⟩
    obtain ⟨i, hi⟩ := List.getElem?_of_mem hp
    have h1 := nx_lt (tw := B) (l := l) (d := i) (n := 0) (m := i) (by omega) hi hl
    have h2 := (List.getElem?_eq_some_iff.mp hi).1
    rw [List.getElem?_eq_getElem (by omega)]; rfl
theorem seS_EE {B X : Tws} {l : Int} (h : ∀ p ∈ X, p.2 < l) (hf : Fine B) (h1 : 1 ≤ l) : isEE (seS (X ++ B) l 0) = !decide (l ≤ hiT B) ∧ isW "right" (seS (X ++ B) l 0) = false := by
  unfold seS
  rw [nx_skip h]
  have e : (X ++ B)[X.length + nx B 0 l]? = B[nx B 0 l]? := by
    rw [List.getElem?_append_right (by omega)]; congr 1; omega
  rw [e]
  have := nx_some (B := B) (l := l)
  rw [← hi_iff hf h1] at this
  cases e2 : B[nx B 0 l]? with
  | none =>
    rw [e2] at this
    have h3 : ¬ l ≤ hiT B := fun z => by cases this.mpr z
    exact ⟨by simp [isEE, h3], by kernel_rfl⟩
  | some q =>
    rw [e2] at this
    have h3 : l ≤ hiT B := this.mp rfl
    exact ⟨by simp [isEE, h3], by kernel_rfl⟩
theorem isW_rr (l k : Int) : isW "right" (.right l k) = true := by kernel_rfl
theorem cnt_rr {l : Int} (X : Tws) : ((X.map fun p => Stp.right l p.1).countP (isW "right") = X.length) ∧ ((X.map fun p => Stp.right l p.1).countP (fun s => !isEE s) = X.length) := by
  constructor
  · rw [List.countP_map]
    exact List.countP_eq_length.mpr fun p _ => isW_rr l p.1
  · rw [List.countP_map]
    exact List.countP_eq_length.mpr fun p _ => rfl
def cR (X : Tws) (l : Nat) : Nat := X.countP (fun p => decide ((l : Int) ≤ p.2)) + (recW (X.map (·.2))).countP fun x => decide (x < (l : Int))
theorem sr_X {B : Tws} {key : Int} (hB : ∀ p ∈ B, key ≤ p.1) (hf : Fine B) : ∀ (l : Nat) {X : Tws}, (∀ p ∈ X, p.1 < key ∧ 1 ≤ p.2) → 1 ≤ l →
    (sr (X ++ B) key l 0).1.countP (isW "right") = cR X l ∧ (sr (X ++ B) key l 0).1.countP (fun s => !isEE s) = cR X l + min l (hiT B).toNat ∧ (sr (X ++ B) key l 0).2 = X.length
  | 0, X, _, h => absurd h (by decide)
  | l + 1, X, hX, _ => by
    obtain ⟨m, hm⟩ : ∃ m, m = pbN key ((l + 1 : Nat) : Int) X := ⟨_, rfl⟩
    have hml : m ≤ X.length := by rw [hm]; exact pbN_le _ _ _
    obtain ⟨p1, p2⟩ := pb_split (l := ((l + 1 : Nat) : Int)) (X := X) fun p hp => (hX p hp).1
    rw [← hm] at p1 p2
    have e0 := rr_X (l := ((l + 1 : Nat) : Int)) hB (X := X) fun p hp => (hX p hp).1
    rw [← hm] at e0
    have hXm : X ++ B = X.take m ++ (X.drop m ++ B) := by rw [← List.append_assoc, List.take_append_drop]
    have hlen : (X.take m).length = m := by rw [List.length_take]; omega
    have es : ∀ q, seS (X ++ B) q m = seS (X.drop m ++ B) q 0 := fun q => by
      have := seS_app (A := X.take m) (R := X.drop m ++ B) (l := q) (n := 0)
      rw [hlen, Nat.add_zero, ← hXm] at this
      exact this
    have er : sr (X ++ B) key l m = ((sr (X.drop m ++ B) key l 0).1, m + (sr (X.drop m ++ B) key l 0).2) := by
      have := sr_app (A := X.take m) (R := X.drop m ++ B) (key := key) l 0
      rw [hlen, Nat.add_zero, ← hXm] at this
      exact this
    obtain ⟨s1, s2⟩ := seS_EE (B := B) (X := X.drop m) (l := ((l + 1 : Nat) : Int)) p1 hf (by omega)
    obtain ⟨c1, c2⟩ := cnt_rr (l := ((l + 1 : Nat) : Int)) (X.filter fun p => decide (((l + 1 : Nat) : Int) ≤ p.2))
    have hT := hiT_nn hf
    have hrec : (recW (X.map (·.2))).countP (fun x => decide (x < ((l + 1 : Nat) : Int))) = (recW ((X.drop m).map (·.2))).countP fun x => decide (x < ((l + 1 : Nat) : Int)) := by
      have := rec_app (l := ((l + 1 : Nat) : Int)) (X := (X.drop m).map (·.2)) (Y := (X.take m).map (·.2)) p2
      rw [← List.map_append, List.take_append_drop] at this
      exact this
    rw [sr, e0]
    dsimp only
    rw [er, es]
    simp only [List.countP_append, List.countP_cons, c1, c2, s1, s2, Bool.not_not, ← List.countP_eq_length_filter]
    unfold cR
    rw [hrec]
    cases l with
    | zero =>
      have hd : X.drop m = [] := by
        cases e : X.drop m with
        | nil => rfl
        | cons p r =>
          have h1 := p1 p (by rw [e]; exact List.mem_cons_self ..)
          have h2 := (hX p (List.mem_of_mem_drop (i := m) (by rw [e]; exact List.mem_cons_self ..))).2
          simp at h1; omega
      rw [hd]
      have hl : X.length - m = 0 := by rw [← List.length_drop, hd]; rfl
      refine ⟨by simp [sr, recW], ?_, by simp [sr]; omega⟩
      simp only [sr, recW, List.map_nil, List.countP_nil, decide_eq_true_eq]
      split <;> omega
    | succ l =>
      obtain ⟨i1, i2, i3⟩ := sr_X hB hf (l + 1) (X := X.drop m) (fun p hp => hX p (List.mem_of_mem_drop hp)) (by omega)
      have ht := rec_top (l := ((l + 1 : Nat) : Int)) (X := (X.drop m).map (·.2)) fun x hx => by
        obtain ⟨p, hp, rfl⟩ := List.mem_map.mp hx
        have := p1 p hp
        simp at this ⊢; omega
      rw [List.countP_map] at ht
      have ht2 : (recW ((X.drop m).map (·.2))).countP (fun x => decide (x < ((l + 1 + 1 : Nat) : Int))) = cR (X.drop m) (l + 1) := ht
      rw [i1, i2, i3, ht2]
      refine ⟨by simp, ?_, by rw [List.length_drop]; omega⟩
      simp only [decide_eq_true_eq]
      split <;> omega
end Mi

end

section
set_option maxHeartbeats 1000000
/-! Mi29: the counts of a search from a finger: the climb, and all of it. -/
namespace Mi
open PySem PySem.Spec
open L2 (atI ixN Key)
theorem srch_X {A B : Tws} {key : Int} (hB : ∀ p ∈ B, key ≤ p.1) (hf : Fine B) {l n : Nat} (hA : ∀ p ∈ A, p.1 < key ∧ 1 ≤ p.2) (h1 : 1 ≤ l) (hn : n ≤ A.length) :
    (srch (A ++ B) key l n).countP (isW "right") = cR (A.drop n) l ∧ (srch (A ++ B) key l n).countP (fun s => !isEE s) = cR (A.drop n) l + min l (hiT B).toNat + (if B.isEmpty then 0 else 1) := by
  have hAn : A ++ B = A.take n ++ (A.drop n ++ B) := by rw [← List.append_assoc, List.take_append_drop]
  have hlen : (A.take n).length = n := by rw [List.length_take]; omega
  have es : srch (A ++ B) key l n = srch (A.drop n ++ B) key l 0 := by
    have := srch_app (A := A.take n) (R := A.drop n ++ B) (key := key) (l := l) (n := 0)
    rw [hlen, Nat.add_zero, ← hAn] at this
    exact this
  obtain ⟨i1, i2, i3⟩ := sr_X hB hf l (X := A.drop n) (fun p hp => hA p (List.mem_of_mem_drop hp)) h1
  rw [es]
  unfold srch
  rw [List.countP_append, List.countP_append, i1, i2, i3]
  unfold lookS
  have e : (A.drop n ++ B)[(A.drop n).length]? = B[0]? := by
    rw [List.getElem?_append_right (by omega)]; congr 1; omega
  rw [e]
  cases B with
  | nil => exact ⟨rfl, rfl⟩
  | cons b r => exact ⟨rfl, rfl⟩
theorem pbN_irr {f g l : Int} : ∀ {X : Tws}, (∀ p ∈ X, p.1 < f ∧ p.1 < g) → pbN f l X = pbN g l X
  | [], _ => rfl
  | p :: r, h => by
    have hp := h p (List.mem_cons_self ..)
    rw [pb_cons, pb_cons, pbN_irr fun q hq => h q (List.mem_cons_of_mem _ hq)]
    have : (p.1 < f ∧ l ≤ p.2) = (p.1 < g ∧ l ≤ p.2) := by simp [hp.1, hp.2]
    simp only [this]
theorem pbN_hi {f l : Int} : ∀ {X : Tws}, (∀ p ∈ X, f ≤ p.1) → pbN f l X = 0
  | [], _ => rfl
  | p :: r, h => by
    have hp := h p (List.mem_cons_self ..)
    rw [pb_cons, pbN_hi fun q hq => h q (List.mem_cons_of_mem _ hq)]
    exact if_neg fun z => by have := z.1; omega
theorem mem_blw {key : Int} {tw : Tws} {p : Int × Int} (h : p ∈ blw key tw) : p ∈ tw ∧ p.1 < key := by
  obtain ⟨h1, h2⟩ := List.mem_filter.mp h
  exact ⟨h1, by simpa using h2⟩
theorem mem_frm {key : Int} {tw : Tws} {p : Int × Int} (h : p ∈ frm key tw) : p ∈ tw ∧ key ≤ p.1 := by
  obtain ⟨h1, h2⟩ := List.mem_filter.mp h
  exact ⟨h1, by simpa using h2⟩
theorem pb_blw {tw : Tws} (hf : Fine tw) {f l : Int} : pbN f l tw = pbN f l (blw f tw) := by
  conv => lhs; rw [parts (key := f) hf]
  rw [pbN_app, pbN_hi fun p hp => (mem_frm hp).2]
/-- the keys from one to another -/
def wth (a b : Int) (tw : Tws) : Tws := tw.filter fun p => decide (a ≤ p.1) && decide (p.1 < b)
theorem blw_split {tw : Tws} (hf : Fine tw) {a b : Int} (h : a ≤ b) : blw b tw = blw a tw ++ wth a b tw := by
  have e := parts (key := a) (hf.filter (p := fun p => decide (p.1 < b)))
  have e1 : blw a (tw.filter fun p => decide (p.1 < b)) = blw a tw := by
    unfold blw
    rw [List.filter_filter]
    refine List.filter_congr fun p _ => ?_
    by_cases h1 : p.1 < a
    · have : p.1 < b := by omega
      simp [h1, this]
    · simp [h1]
  have e2 : frm a (tw.filter fun p => decide (p.1 < b)) = wth a b tw := by
    unfold frm wth
    rw [List.filter_filter]
  rw [e1, e2] at e
  exact e
theorem frm_split {tw : Tws} (hf : Fine tw) {a b : Int} (h : a ≤ b) : frm a tw = wth a b tw ++ frm b tw := by
  have e := parts (key := b) (hf.filter (p := fun p => decide (a ≤ p.1)))
  have e1 : frm b (tw.filter fun p => decide (a ≤ p.1)) = frm b tw := by
    unfold frm
    rw [List.filter_filter]
    refine List.filter_congr fun p _ => ?_
    by_cases h1 : b ≤ p.1
    · have : a ≤ p.1 := by omega
      simp [h1, this]
    · simp [h1]
  have e2 : blw b (tw.filter fun p => decide (a ≤ p.1)) = wth a b tw := by
    unfold blw wth
    rw [List.filter_filter]
    refine List.filter_congr fun p _ => ?_
    rw [Bool.and_comm]
  rw [e1, e2] at e
  exact e
theorem mem_wth {a b : Int} {tw : Tws} {p : Int × Int} (h : p ∈ wth a b tw) : p ∈ tw ∧ a ≤ p.1 ∧ p.1 < b := by
  obtain ⟨h1, h2⟩ := List.mem_filter.mp h
  simp at h2
  exact ⟨h1, h2⟩
theorem nx_pb {tw : Tws} (hf : Fine tw) {f l : Int} : tw[nx tw (pbN f l tw) l]? = (frm f tw)[nx (frm f tw) 0 l]? := by
  obtain ⟨m, hm⟩ : ∃ m, m = pbN f l (blw f tw) := ⟨_, rfl⟩
  have hml : m ≤ (blw f tw).length := by rw [hm]; exact pbN_le _ _ _
  obtain ⟨p1, -⟩ := pb_split (l := l) (X := blw f tw) fun p hp => (mem_blw hp).2
  rw [← hm] at p1
  rw [pb_blw hf, ← hm]
  have hlen : ((blw f tw).take m).length = m := by rw [List.length_take]; omega
  have e : tw = (blw f tw).take m ++ ((blw f tw).drop m ++ frm f tw) := by rw [← List.append_assoc, List.take_append_drop]; exact parts hf
  have e1 : nx tw m l = m + ((blw f tw).drop m).length + nx (frm f tw) 0 l := by
    have := nx_app (A := (blw f tw).take m) (R := (blw f tw).drop m ++ frm f tw) (n := 0) (l := l)
    rw [hlen, Nat.add_zero, ← e, nx_skip p1] at this
    omega
  rw [e1, List.length_drop]
  have e2 : ∀ i : Nat, tw[i]? = (blw f tw ++ frm f tw)[i]? := fun i => by rw [← parts hf]
  rw [e2, List.getElem?_append_right (by omega)]
  congr 1
  omega
theorem isW_up (s : Stp) : isW "up" s = isUp s := by cases s <;> kernel_rfl
def mxN (tw : Tws) : Nat := (hiT tw).toNat
theorem mx_iff {tw : Tws} (hf : Fine tw) {l : Nat} (h : 1 ≤ l) : l ≤ mxN tw ↔ ∃ p ∈ tw, (l : Int) ≤ p.2 := by
  rw [← hi_iff hf (by omega)]
  have := hiT_nn hf
  unfold mxN
  omega
theorem crF_X {tw : Tws} (hf : Fine tw) {f key : Int} (hk : f < key) : ∀ (j l : Nat), 1 ≤ l → l ≤ mxN (wth f key tw) + 1 →
    (crF tw f key j l).2 = (min (mxN (wth f key tw) + 1) (l + j), pbN f (min (mxN (wth f key tw) + 1) (l + j) : Nat) tw) ∧
    (crF tw f key j l).1.countP (isW "right") = 0 ∧ (crF tw f key j l).1.countP (isW "up") + l = min (mxN (wth f key tw) + 1) (l + j) ∧
    (crF tw f key j l).1.countP (fun s => !isEE s) + l = min (mxN (wth f key tw) + 1) (l + j) + (if mxN (wth f key tw) + 1 < l + j ∧ mxN (wth f key tw) + 1 ≤ mxN (frm key tw) then 1 else 0)
  | 0, l, h1, h2 => by
    rw [crF]
    have e : min (mxN (wth f key tw) + 1) (l + 0) = l := by omega
    rw [e, if_neg (by omega)]
    exact ⟨rfl, rfl, Nat.zero_add l, by simp⟩
  | j + 1, l, h1, h2 => by
    have hfw : Fine (wth f key tw) := hf.filter
    have hfb : Fine (frm key tw) := hf.filter
    have hn := nx_pb hf (f := f) (l := (l : Int))
    rw [frm_split hf (Int.le_of_lt hk)] at hn
    rw [crF, hn]
    by_cases hl : l ≤ mxN (wth f key tw)
    · obtain ⟨p, hp, hpl⟩ := (mx_iff hfw h1).mp hl
      obtain ⟨i, hi⟩ := List.getElem?_of_mem hp
      have hil := (List.getElem?_eq_some_iff.mp hi).1
      have hle := nx_lt (tw := wth f key tw ++ frm key tw) (l := (l : Int)) (d := i) (n := 0) (m := i) (by omega) (by rw [List.getElem?_append_left hil]; exact hi) hpl
      have hlt : nx (wth f key tw ++ frm key tw) 0 (l : Int) < (wth f key tw).length := by omega
      rw [List.getElem?_append_left hlt, List.getElem?_eq_getElem hlt]
      dsimp only
      have hq := mem_wth (List.getElem_mem hlt)
      rw [if_neg (by omega)]
      obtain ⟨i1, i2, i3, i4⟩ := crF_X hf hk j (l + 1) (by omega) (by omega)
      have e : l + 1 + j = l + (j + 1) := by omega
      rw [e] at i1 i3 i4
      refine ⟨i1, ?_, ?_, ?_⟩
      · rw [List.countP_cons, i2]; simp; kernel_rfl
      · rw [List.countP_cons, isW_up]
        show _ + 1 + l = _
        omega
      · rw [List.countP_cons]
        show _ + 1 + l = _
        omega
    · have hw : ∀ p ∈ wth f key tw, p.2 < (l : Int) := fun p hp => by
        have : ¬ ∃ p ∈ wth f key tw, (l : Int) ≤ p.2 := fun z => hl ((mx_iff hfw h1).mpr z)
        false_or_by_contra
        rename_i hc
        exact this ⟨p, hp, by omega⟩
      rw [nx_skip hw, List.getElem?_append_right (by omega), Nat.add_sub_cancel_left]
      have hB := nx_some (B := frm key tw) (l := (l : Int))
      rw [← mx_iff hfb h1] at hB
      have e : min (mxN (wth f key tw) + 1) (l + (j + 1)) = l := by omega
      have e2 : mxN (wth f key tw) + 1 = l := by omega
      rw [e, e2]
      cases eb : (frm key tw)[nx (frm key tw) 0 (l : Int)]? with
      | none =>
        rw [eb] at hB
        have h3 : ¬ l ≤ mxN (frm key tw) := fun z => by cases hB.mpr z
        rw [if_neg fun z => h3 z.2]
        exact ⟨rfl, by kernel_rfl, by show 0 + l = l; omega, by show 0 + l = l + 0; omega⟩
      | some q =>
        rw [eb] at hB
        have h3 : l ≤ mxN (frm key tw) := hB.mp rfl
        have hq := mem_frm (List.mem_of_getElem? eb)
        dsimp only
        rw [if_pos hq.2, if_pos ⟨by omega, h3⟩]
        exact ⟨rfl, by kernel_rfl, by show 0 + l = l; omega, by show 1 + l = l + 1; omega⟩
theorem pb_none {f l : Int} {X : Tws} (h : ∀ p ∈ X, p.1 < f) : pbN f l X = 0 ↔ ∀ p ∈ X, p.2 < l := by
  obtain ⟨p1, p2⟩ := pb_split (l := l) h
  constructor
  · intro e
    rw [e] at p1
    exact p1
  · intro ha
    cases e : pbN f l X with
    | zero => rfl
    | succ m =>
      rw [e] at p2
      have hle := pbN_le f l X
      rw [e] at hle
      have hne : ((X.take (m + 1)).map (·.2)) ≠ [] := by
        cases X with
        | nil => simp at hle
        | cons _ _ => simp
      have hy := p2 _ (List.getLast?_eq_some_getLast hne)
      obtain ⟨p, hp, e3⟩ := List.mem_map.mp (List.getLast_mem hne)
      have := ha p (List.mem_of_mem_take hp)
      omega
theorem keyAt_app {A R : Tws} {m : Nat} : keyAt (A ++ R) (A.length + (m + 1)) = keyAt R (m + 1) := by
  show ((A ++ R)[A.length + m]?).map (·.1) = (R[m]?).map (·.1)
  rw [at_app]
theorem keyAt_left {A R : Tws} {m : Nat} (h : m ≤ A.length) : keyAt (A ++ R) m = keyAt A m := by
  cases m with
  | zero => rfl
  | succ m =>
    show ((A ++ R)[m]?).map (·.1) = (A[m]?).map (·.1)
    rw [List.getElem?_append_left (by omega)]
theorem clF_X {tw : Tws} (hf : Fine tw) {f key : Int} (hk : key ≤ f) : ∀ (j l : Nat), 1 ≤ l → l ≤ mxN (wth key f tw) + 1 →
    (clF tw f key j l).1.countP (isW "right") = 0 ∧
    (l + j ≤ mxN (wth key f tw) + 1 → (clF tw f key j l).2 = (l + j - 1, 0) ∧ (clF tw f key j l).1.countP (isW "up") = j ∧ (clF tw f key j l).1.countP (fun s => !isEE s) = j) ∧
    (¬ l + j ≤ mxN (wth key f tw) + 1 → (clF tw f key j l).2 = (mxN (wth key f tw) + 1, pbN key (mxN (wth key f tw) + 1 : Nat) (blw key tw)) ∧ (clF tw f key j l).1.countP (isW "up") + l = mxN (wth key f tw) + 1 ∧
      (clF tw f key j l).1.countP (fun s => !isEE s) + l = mxN (wth key f tw) + 1 + (if pbN key (mxN (wth key f tw) + 1 : Nat) (blw key tw) = 0 then 0 else 1))
  | 0, l, h1, h2 => by
    rw [clF]
    exact ⟨rfl, fun _ => ⟨rfl, rfl, rfl⟩, fun z => absurd h2 z⟩
  | j + 1, l, h1, h2 => by
    have hfw : Fine (wth key f tw) := hf.filter
    obtain ⟨A, hA⟩ : ∃ A, A = blw key tw := ⟨_, rfl⟩
    obtain ⟨W, hW⟩ : ∃ W, W = wth key f tw := ⟨_, rfl⟩
    have hAk : ∀ p ∈ A, p.1 < key := fun p hp => (mem_blw (hA ▸ hp)).2
    have hWk : ∀ p ∈ W, key ≤ p.1 ∧ p.1 < f := fun p hp => (mem_wth (hW ▸ hp)).2
    have ht : tw = (A ++ W) ++ frm f tw := by rw [hA, hW, ← blw_split hf hk]; exact parts hf
    have hpb : pbN f (l : Int) tw = match pbN f (l : Int) W with | 0 => pbN f (l : Int) A | m + 1 => A.length + (m + 1) := by
      rw [pb_blw hf, blw_split hf hk, ← hA, ← hW, pbN_app]
      all_goals (cases pbN f (l : Int) W <;> rfl)
    have ih := clF_X hf hk j (l + 1) (by omega)
    rw [← hW] at hfw h2 ih ⊢
    rw [← hA] at ih ⊢
    rw [clF, hpb]
    have hnone := pb_none (f := f) (l := (l : Int)) (X := W) fun p hp => (hWk p hp).2
    by_cases hl : l ≤ mxN W
    · obtain ⟨p, hp, hpl⟩ := (mx_iff hfw h1).mp hl
      cases e : pbN f (l : Int) W with
      | zero =>
        have := hnone.mp e p hp
        omega
      | succ m =>
        have hml := pbN_le f (l : Int) W
        rw [e] at hml
        dsimp only
        have hk2 : keyAt tw (A.length + (m + 1)) = some (W[m]'(by omega)).1 := by
          rw [ht, List.append_assoc, keyAt_app]
          show ((W ++ frm f tw)[m]?).map (·.1) = _
          rw [List.getElem?_append_left (by omega), List.getElem?_eq_getElem (by omega)]; rfl
        rw [hk2]
        have hq := hWk _ (List.getElem_mem (l := W) (n := m) (by omega))
        dsimp only
        rw [if_neg (by omega)]
        obtain ⟨i1, i2, i3⟩ := ih (by omega)
        have e2 : l + 1 + j = l + (j + 1) := by omega
        rw [e2] at i2 i3
        have u1 : ∀ a b, isW "up" (.up a b) = true := fun a b => isW_up _
        have u2 : ∀ a b, (!isEE (.up a b)) = true := fun a b => rfl
        refine ⟨?_, fun z => ?_, fun z => ?_⟩
        · rw [List.countP_cons, i1]; simp; kernel_rfl
        · obtain ⟨a1, a2, a3⟩ := i2 z
          simp only [List.countP_cons, u1, u2, if_true]
          exact ⟨a1, by omega, by omega⟩
        · obtain ⟨a1, a2, a3⟩ := i3 z
          simp only [List.countP_cons, u1, u2, if_true]
          exact ⟨a1, by omega, by omega⟩
    · have e2 : mxN W + 1 = l := by omega
      have e : pbN f (l : Int) W = 0 := hnone.mpr fun p hp => by
        have : ¬ ∃ p ∈ W, (l : Int) ≤ p.2 := fun z => hl ((mx_iff hfw h1).mpr z)
        false_or_by_contra
        rename_i hc
        exact this ⟨p, hp, by omega⟩
      rw [e, e2]
      dsimp only
      have hir : pbN f (l : Int) A = pbN key (l : Int) A := pbN_irr fun p hp => by have := hAk p hp; exact ⟨by omega, this⟩
      rw [hir, ht, List.append_assoc, keyAt_left (pbN_le _ _ _)]
      have hle := pbN_le key (l : Int) A
      cases e3 : pbN key (l : Int) A with
      | zero =>
        exact ⟨by kernel_rfl, fun z => by omega, fun z => ⟨rfl, by show 0 + l = l; omega, by show 0 + l = l + 0; omega⟩⟩
      | succ m =>
        rw [e3] at hle
        have hk2 : keyAt A (m + 1) = some (A[m]'(by omega)).1 := by
          show (A[m]?).map (·.1) = _
          rw [List.getElem?_eq_getElem (by omega)]; rfl
        rw [hk2]
        have hq := hAk _ (List.getElem_mem (l := A) (n := m) (by omega))
        dsimp only
        rw [if_pos hq]
        exact ⟨by kernel_rfl, fun z => by omega, fun z => ⟨rfl, by show 0 + l = l; omega, by show 1 + l = l + 1; omega⟩⟩
end Mi

end

section
set_option maxHeartbeats 1000000
/-! Mi30: a search from a finger, by records: both ways. -/
namespace Mi
open PySem PySem.Spec
open L2 (atI ixN Key)
theorem hiT_zero {tw : Tws} (hf : Fine tw) (h : hiT tw = 0) : tw = [] := by
  cases tw with
  | nil => rfl
  | cons p r =>
    have := le_hiT (List.mem_cons_self (a := p) (l := r))
    have := hf.1
    omega
theorem srch_up0 {tw : Tws} {key : Int} {l n : Nat} : (srch tw key l n).countP (isW "up") = 0 := by
  rw [show isW "up" = isUp from funext isW_up]; exact srch_ups
theorem mx_le {a b : Tws} (ha : Fine a) (hb : Fine b) (h : ∀ p ∈ a, p ∈ b) : mxN a ≤ mxN b := by
  by_cases h0 : 1 ≤ mxN a
  · obtain ⟨p, hp, hl⟩ := (mx_iff ha h0).mp (Nat.le_refl _)
    exact (mx_iff hb h0).mpr ⟨p, h p hp, hl⟩
  · omega
theorem cR_of {A : Tws} {n l : Nat} (h : ∀ y, ((A.take n).map (·.2)).getLast? = some y → (l : Int) ≤ y) : cR (A.drop n) l = (A.drop n).countP (fun p => decide ((l : Int) ≤ p.2)) + (recW (A.map (·.2))).countP fun x => decide (x < (l : Int)) := by
  unfold cR
  have := rec_app (l := (l : Int)) (X := (A.drop n).map (·.2)) (Y := (A.take n).map (·.2)) h
  rw [← List.map_append, List.take_append_drop] at this
  rw [this]
theorem lt_le_cnt {xs : List Int} {u : Nat} : xs.countP (fun x => decide (x < ((u + 1 : Nat) : Int))) = xs.countP fun x => decide (x ≤ (u : Int)) := by
  congr 1
  funext x
  rw [Bool.eq_iff_iff]
  simp
  omega
def rR (tw : Tws) (f key : Int) (u : Nat) : Nat := (recW ((blw key tw).map (·.2))).countP (fun x => decide (x ≤ (u : Int))) + (if u + 1 = mxN tw then (wth f key tw).countP (fun p => decide (p.2 = hiT tw)) else 0)
def kR (tw : Tws) (f key : Int) (u : Nat) : Nat := u + (if u + 1 < mxN tw ∧ u < mxN (frm key tw) then 1 else 0) + rR tw f key u + min (u + 1) (mxN (frm key tw)) + (if (frm key tw).isEmpty then 0 else 1)
theorem sb_right {tw : Tws} (hf : Fine tw) {f key : Int} (hk : f < key) {u : Nat} (hu : u = min (mxN (wth f key tw)) (mxN tw - 1)) :
    cstD (sbS tw f key) (sbL tw f key) = [.int (u : Nat), .int (rR tw f key u : Nat), .int (u : Nat), .int (kR tw f key u : Nat)] := by
  by_cases h0 : hiT tw = 0
  · have := hiT_zero hf h0
    subst this
    have : u = 0 := by rw [hu]; exact Nat.min_eq_right (Nat.zero_le _) |>.trans rfl
    subst this
    unfold sbS sbL
    rw [if_pos h0, if_pos h0]
    rfl
  · have hT := hiT_nn hf
    have hW : Fine (wth f key tw) := hf.filter
    have hB : Fine (frm key tw) := hf.filter
    have hM : mxN (wth f key tw) ≤ mxN tw := mx_le hW hf fun p hp => (mem_wth hp).1
    have h1 : 1 ≤ mxN tw := by unfold mxN; omega
    obtain ⟨c1, c2, c3, c4⟩ := crF_X hf hk (mxN tw - 1) 1 (Nat.le_refl _) (by omega)
    have hL : min (mxN (wth f key tw) + 1) (1 + (mxN tw - 1)) = u + 1 := by omega
    rw [hL] at c1 c3 c4
    have ec : climb tw f key = crF tw f key (mxN tw - 1) 1 := by unfold climb; rw [if_pos hk]; rfl
    obtain ⟨n, hn⟩ : ∃ n, n = pbN f ((u + 1 : Nat) : Int) tw := ⟨_, rfl⟩
    rw [← hn] at c1
    have hn2 : n = pbN f ((u + 1 : Nat) : Int) (blw f tw) := hn.trans (pb_blw hf)
    have hnl : n ≤ (blw f tw).length := by rw [hn2]; exact pbN_le _ _ _
    obtain ⟨p1, p2⟩ := pb_split (l := ((u + 1 : Nat) : Int)) (X := blw f tw) fun p hp => (mem_blw hp).2
    rw [← hn2] at p1 p2
    have hA := blw_split hf (Int.le_of_lt hk)
    obtain ⟨s1, s2⟩ := srch_X (A := blw key tw) (B := frm key tw) (key := key) (l := u + 1) (n := n) (fun p hp => (mem_frm hp).2) hB (fun p hp => ⟨(mem_blw hp).2, hf.pos p (mem_blw hp).1⟩) (by omega) (by rw [hA, List.length_append]; omega)
    rw [← parts hf] at s1 s2
    have hcR : cR ((blw key tw).drop n) (u + 1) = rR tw f key u := by
      rw [cR_of (by rw [hA, List.take_append_of_le_length hnl]; exact p2), lt_le_cnt]
      unfold rR
      rw [Nat.add_comm]
      congr 1
      rw [hA, List.drop_append_of_le_length hnl, List.countP_append, List.countP_eq_zero.mpr fun p hp => by have := p1 p hp; simp; omega, Nat.zero_add]
      by_cases hu2 : u + 1 = mxN tw
      · rw [if_pos hu2]
        refine List.countP_congr fun p hp => ?_
        have := le_hiT (mem_wth hp).1
        have e : ((u + 1 : Nat) : Int) = hiT tw := by rw [hu2]; unfold mxN; omega
        rw [e]
        simp
        omega
      · rw [if_neg hu2]
        refine List.countP_eq_zero.mpr fun p hp => ?_
        have h3 : ¬ u + 1 ≤ mxN (wth f key tw) := by omega
        rw [mx_iff hW (by omega)] at h3
        simp only [decide_eq_true_eq]
        exact fun z => h3 ⟨p, hp, z⟩
    rw [hcR] at s1 s2
    unfold sbS sbL
    rw [if_neg h0, if_neg h0, ec, c1]
    dsimp only
    unfold cstD
    rw [List.countP_append, List.countP_append, List.countP_append, c2, s1, s2, srch_up0]
    have e1 : List.countP (isW "up") (crF tw f key (mxN tw - 1) 1).1 + 0 = u := by omega
    have e2 : (if ((u + 1 : Nat) : Int) - 1 > 0 then ((u + 1 : Nat) : Int) - 1 else 0) = (u : Int) := by split <;> omega
    have e3 : List.countP (fun s => !isEE s) (crF tw f key (mxN tw - 1) 1).1 + (rR tw f key u + min (u + 1) (hiT (frm key tw)).toNat + if (frm key tw).isEmpty = true then 0 else 1) = kR tw f key u := by
      unfold kR
      have e4 : (if mxN (wth f key tw) + 1 < 1 + (mxN tw - 1) ∧ mxN (wth f key tw) + 1 ≤ mxN (frm key tw) then 1 else 0) = (if u + 1 < mxN tw ∧ u < mxN (frm key tw) then 1 else 0) := by
        by_cases hc : mxN (wth f key tw) + 1 < mxN tw
        · have : u = mxN (wth f key tw) := by omega
          rw [this]
          congr 1
          rw [eq_iff_iff]; omega
        · rw [if_neg (by omega), if_neg (by omega)]
      rw [e4] at c4
      show _ + (_ + min (u + 1) (mxN (frm key tw)) + _) = _
      omega
    rw [e1, e2, e3, Nat.zero_add]
def rL (tw : Tws) (key : Int) (u : Nat) : Nat := (recW ((blw key tw).map (·.2))).countP (fun x => decide (x ≤ (u : Int)))
theorem sb_left {tw : Tws} (hf : Fine tw) {f key : Int} (hk : key ≤ f) {u : Nat} (hu : u = mxN (wth key f tw)) :
    (u = mxN tw → cstD (sbS tw f key) (sbL tw f key) = [.int (u : Nat), .int ((recW ((blw key tw).map (·.2))).length : Nat), .int (mxN tw - 1 : Nat), .int (u + (recW ((blw key tw).map (·.2))).length + mxN (frm key tw) + (if (frm key tw).isEmpty then 0 else 1) : Nat)]) ∧
    (u ≠ mxN tw → cstD (sbS tw f key) (sbL tw f key) = [.int (u : Nat), .int (rL tw key u : Nat), .int (u : Nat), .int (u + (if u < mxN (blw key tw) then 1 else 0) + rL tw key u + min (u + 1) (mxN (frm key tw)) + (if (frm key tw).isEmpty then 0 else 1) : Nat)]) := by
  have hW : Fine (wth key f tw) := hf.filter
  have hB : Fine (frm key tw) := hf.filter
  have hA : Fine (blw key tw) := hf.filter
  have hM : u ≤ mxN tw := by rw [hu]; exact mx_le hW hf fun p hp => (mem_wth hp).1
  have hBM : mxN (frm key tw) ≤ mxN tw := mx_le hB hf fun p hp => (mem_frm hp).1
  by_cases h0 : hiT tw = 0
  · have := hiT_zero hf h0
    subst this
    have : u = 0 := by rw [hu]; rfl
    subst this
    refine ⟨fun _ => ?_, fun z => absurd rfl z⟩
    unfold sbS sbL
    rw [if_pos h0, if_pos h0]
    rfl
  · have hT := hiT_nn hf
    have h1 : 1 ≤ mxN tw := by unfold mxN; omega
    obtain ⟨c1, c2, c3⟩ := clF_X hf hk (mxN tw) 1 (Nat.le_refl _) (by omega)
    rw [← hu] at c2 c3
    have ec : climb tw f key = clF tw f key (mxN tw) 1 := by unfold climb; rw [if_neg (by omega)]; rfl
    have hpos : ∀ p ∈ blw key tw, p.1 < key ∧ 1 ≤ p.2 := fun p hp => ⟨(mem_blw hp).2, hf.pos p (mem_blw hp).1⟩
    have hAle : ∀ x ∈ (blw key tw).map (·.2), x ≤ ((mxN tw : Nat) : Int) := fun x hx => by
      obtain ⟨p, hp, rfl⟩ := List.mem_map.mp hx
      have := le_hiT (mem_blw hp).1
      unfold mxN; omega
    refine ⟨fun hue => ?_, fun hue => ?_⟩
    · obtain ⟨a1, a2, a3⟩ := c2 (by omega)
      obtain ⟨s1, s2⟩ := srch_X (A := blw key tw) (B := frm key tw) (key := key) (l := mxN tw) (n := 0) (fun p hp => (mem_frm hp).2) hB hpos h1 (Nat.zero_le _)
      rw [← parts hf, List.drop_zero] at s1 s2
      have hcR : cR (blw key tw) (mxN tw) = (recW ((blw key tw).map (·.2))).length := by
        have := rec_top hAle
        unfold cR
        rw [List.countP_map] at this
        refine (this.symm.trans ?_)
        exact List.countP_eq_length.mpr fun x hx => by have := hAle x (recW_mem hx); simp; omega
      rw [hcR] at s1 s2
      unfold sbS sbL
      rw [if_neg h0, if_neg h0, ec, a1]
      dsimp only
      have e0 : 1 + mxN tw - 1 = mxN tw := by omega
      rw [e0]
      unfold cstD
      rw [List.countP_append, List.countP_append, List.countP_append, c1, a2, a3, s1, s2, srch_up0]
      have e2 : (if ((mxN tw : Nat) : Int) - 1 > 0 then ((mxN tw : Nat) : Int) - 1 else 0) = ((mxN tw - 1 : Nat) : Int) := by split <;> omega
      have e3 : mxN tw + ((recW ((blw key tw).map (·.2))).length + min (mxN tw) (hiT (frm key tw)).toNat + if (frm key tw).isEmpty = true then 0 else 1) = u + (recW ((blw key tw).map (·.2))).length + mxN (frm key tw) + (if (frm key tw).isEmpty then 0 else 1) := by
        show mxN tw + (_ + min (mxN tw) (mxN (frm key tw)) + _) = _
        omega
      rw [e2, e3, Nat.zero_add, Nat.add_zero, hue]
    · obtain ⟨a1, a2, a3⟩ := c3 (by omega)
      obtain ⟨n, hn⟩ : ∃ n, n = pbN key ((u + 1 : Nat) : Int) (blw key tw) := ⟨_, rfl⟩
      rw [← hn] at a1 a3
      have hnl : n ≤ (blw key tw).length := by rw [hn]; exact pbN_le _ _ _
      obtain ⟨p1, p2⟩ := pb_split (l := ((u + 1 : Nat) : Int)) (X := blw key tw) fun p hp => (mem_blw hp).2
      rw [← hn] at p1 p2
      obtain ⟨s1, s2⟩ := srch_X (A := blw key tw) (B := frm key tw) (key := key) (l := u + 1) (n := n) (fun p hp => (mem_frm hp).2) hB hpos (by omega) hnl
      rw [← parts hf] at s1 s2
      have hcR : cR ((blw key tw).drop n) (u + 1) = rL tw key u := by
        rw [cR_of p2, lt_le_cnt, List.countP_eq_zero.mpr fun p hp => by have := p1 p hp; simp; omega, Nat.zero_add]
        rfl
      rw [hcR] at s1 s2
      have hturn : (if n = 0 then 0 else 1) = (if u < mxN (blw key tw) then 1 else 0) := by
        have h3 := pb_none (f := key) (l := ((u + 1 : Nat) : Int)) (X := blw key tw) fun p hp => (mem_blw hp).2
        rw [← hn] at h3
        have h4 := mx_iff hA (l := u + 1) (by omega)
        by_cases hz : n = 0
        · rw [if_pos hz, if_neg fun z => ?_]
          obtain ⟨p, hp, hl⟩ := h4.mp z
          have := h3.mp hz p hp
          omega
        · rw [if_neg hz, if_pos]
          false_or_by_contra
          rename_i hc
          refine hz (h3.mpr fun p hp => ?_)
          have : ¬ ∃ p ∈ blw key tw, ((u + 1 : Nat) : Int) ≤ p.2 := fun z => hc (h4.mpr z)
          false_or_by_contra
          rename_i hd
          exact this ⟨p, hp, by omega⟩
      rw [hturn] at a3
      unfold sbS sbL
      rw [if_neg h0, if_neg h0, ec, a1]
      dsimp only
      unfold cstD
      rw [List.countP_append, List.countP_append, List.countP_append, c1, s1, s2, srch_up0]
      have e1 : List.countP (isW "up") (clF tw f key (mxN tw) 1).1 + 0 = u := by omega
      have e2 : (if ((u + 1 : Nat) : Int) - 1 > 0 then ((u + 1 : Nat) : Int) - 1 else 0) = (u : Int) := by split <;> omega
      have e3 : List.countP (fun s => !isEE s) (clF tw f key (mxN tw) 1).1 + (rL tw key u + min (u + 1) (hiT (frm key tw)).toNat + if (frm key tw).isEmpty = true then 0 else 1) = u + (if u < mxN (blw key tw) then 1 else 0) + rL tw key u + min (u + 1) (mxN (frm key tw)) + (if (frm key tw).isEmpty then 0 else 1) := by
        show _ + (_ + min (u + 1) (mxN (frm key tw)) + _) = _
        omega
      rw [e1, e2, e3, Nat.zero_add]
end Mi

end

section
/-! Mi31: trees of towers, the highest key at the root. -/
namespace Mi
open PySem PySem.Spec
open L2 (atI ixN Key)
inductive Tr where
  | nil
  | node (k h : Int) (l r : Tr)
def trD : Tr → D
  | .nil => .non
  | .node k h l r => .tup [.int k, .int h, trD l, trD r]
def shD : Tr → D
  | .nil => .non
  | .node k _ l r => .tup [.int k, shD l, shD r]
def Tr.top : Tr → Int
  | .nil => 0
  | .node _ h _ _ => h
def Tr.dep : Tr → Nat
  | .nil => 0
  | .node _ _ l r => max l.dep r.dep + 1
def Tr.sz : Tr → Nat
  | .nil => 1
  | .node _ _ l r => l.sz + r.sz + 1
theorem Tr.sz_pos (t : Tr) : 0 < t.sz := by cases t <;> simp [Tr.sz]
/-- the tree of a row, the highest key first -/
inductive Cart : Tws → Tr → Prop where
  | nil : Cart [] .nil
  | node {A B : Tws} {k h : Int} {l r : Tr} : (∀ a ∈ A, a.2 < h) → (∀ b ∈ B, b.2 ≤ h) → Cart A l → Cart B r → Cart (A ++ (k, h) :: B) (.node k h l r)
theorem first_max : ∀ {A A' B B' : Tws} {p p' : Int × Int}, A ++ p :: B = A' ++ p' :: B' → (∀ a ∈ A, a.2 < p.2) → (∀ b ∈ B, b.2 ≤ p.2) → (∀ a ∈ A', a.2 < p'.2) → (∀ b ∈ B', b.2 ≤ p'.2) → A = A' ∧ p = p' ∧ B = B'
  | [], [], _, _, _, _, e, _, _, _, _ => by
    rw [List.nil_append, List.nil_append] at e
    injection e with e1 e2
    exact ⟨rfl, e1, e2⟩
  | [], x :: A', B, B', p, p', e, _, h2, h3, _ => by
    rw [List.nil_append, List.cons_append] at e
    injection e with e1 e2
    have g1 := h2 p' (by rw [e2]; simp)
    have g2 := h3 x (List.mem_cons_self ..)
    rw [← e1] at g2
    omega
  | x :: A, [], B, B', p, p', e, h1, _, _, h4 => by
    rw [List.nil_append, List.cons_append] at e
    injection e with e1 e2
    have g1 := h4 p (by rw [← e2]; simp)
    have g2 := h1 x (List.mem_cons_self ..)
    rw [e1] at g2
    omega
  | x :: A, y :: A', B, B', p, p', e, h1, h2, h3, h4 => by
    rw [List.cons_append, List.cons_append] at e
    injection e with e1 e2
    obtain ⟨g1, g2, g3⟩ := first_max e2 (fun a ha => h1 a (List.mem_cons_of_mem _ ha)) h2 (fun a ha => h3 a (List.mem_cons_of_mem _ ha)) h4
    exact ⟨by rw [e1, g1], g2, g3⟩
theorem Cart.uniq {tw : Tws} {t : Tr} (h : Cart tw t) : ∀ {t' : Tr}, Cart tw t' → t = t' := by
  induction h with
  | nil =>
    intro t' h'
    generalize e : ([] : Tws) = tw at h'
    cases h' with
    | nil => rfl
    | node _ _ _ _ => exact absurd e (by simp)
  | @node A B k h l r h1 h2 _ _ i1 i2 =>
    intro t' h'
    generalize e : A ++ (k, h) :: B = tw at h'
    cases h' with
    | nil => exact absurd e (by simp)
    | @node A' B' k' h' l' r' g1 g2 c1 c2 =>
      obtain ⟨e1, e2, e3⟩ := first_max e h1 h2 g1 g2
      subst e1 e3
      injection e2 with e4 e5
      subst e4 e5
      rw [i1 c1, i2 c2]
theorem Cart.dep {tw : Tws} {t : Tr} (h : Cart tw t) : t.dep ≤ tw.length := by
  induction h with
  | nil => simp [Tr.dep]
  | node _ _ _ _ i1 i2 =>
    rw [Tr.dep, List.length_append, List.length_cons]
    omega
theorem Cart.sz {tw : Tws} {t : Tr} (h : Cart tw t) : t.sz = 2 * tw.length + 1 := by
  induction h with
  | nil => rfl
  | node _ _ _ _ i1 i2 =>
    rw [Tr.sz, List.length_append, List.length_cons]
    omega
theorem Cart.top {tw : Tws} {t : Tr} (h : Cart tw t) : t.top = 0 ∨ ∃ p ∈ tw, t.top = p.2 := by
  cases h with
  | nil => exact .inl rfl
  | @node A B k h l r _ _ _ _ => exact .inr ⟨(k, h), by simp, rfl⟩
/-- out of order nowhere -/
def Tr.heap : Tr → Prop
  | .nil => True
  | .node _ h l r => l.top < h ∧ r.top ≤ h ∧ l.heap ∧ r.heap
theorem Cart.heap {tw : Tws} {t : Tr} (h : Cart tw t) : Fine tw → t.heap := by
  induction h with
  | nil => intro _; trivial
  | @node A B k h l r h1 h2 c1 c2 i1 i2 =>
    intro hf
    obtain ⟨f1, f2, f3⟩ := Fine.app hf
    have hp : 1 ≤ h := f2.1
    refine ⟨?_, ?_, i1 f1, i2 f2.2.2⟩
    · rcases c1.top with e | ⟨p, hp, e⟩
      · omega
      · rw [e]; exact h1 p hp
    · rcases c2.top with e | ⟨p, hp, e⟩
      · omega
      · rw [e]; exact h2 p hp
/-- what look_tree asks -/
def Tr.ok : Option Int → Option Int → Option Int → Tr → Prop
  | _, _, _, .nil => True
  | lo, hi, mo, .node k h l r => (∀ x, lo = some x → x < k) ∧ (∀ x, hi = some x → k < x) ∧ 1 ≤ h ∧ (∀ x, mo = some x → h ≤ x) ∧ l.ok lo (some k) (some (h - 1)) ∧ r.ok (some k) hi (some h)
theorem Cart.ok {tw : Tws} {t : Tr} (h : Cart tw t) : ∀ {lo hi mo : Option Int}, Fine tw → (∀ x, lo = some x → ∀ p ∈ tw, x < p.1) → (∀ x, hi = some x → ∀ p ∈ tw, p.1 < x) → (∀ x, mo = some x → ∀ p ∈ tw, p.2 ≤ x) → t.ok lo hi mo := by
  induction h with
  | nil => intros; trivial
  | @node A B k h l r h1 h2 c1 c2 i1 i2 =>
    intro lo hi mo hf g1 g2 g3
    obtain ⟨f1, f2, f3⟩ := Fine.app hf
    refine ⟨fun x e => g1 x e (k, h) (by simp), fun x e => g2 x e (k, h) (by simp), f2.1, fun x e => g3 x e (k, h) (by simp), i1 f1 ?_ ?_ ?_, i2 f2.2.2 ?_ ?_ ?_⟩
    · exact fun x e p hp => g1 x e p (List.mem_append_left _ hp)
    · intro x e p hp
      cases e
      exact f3 p hp (k, h) (List.mem_cons_self ..)
    · intro x e p hp
      cases e
      have := h1 p hp
      omega
    · intro x e p hp
      cases e
      exact f2.2.1 p hp
    · exact fun x e p hp => g2 x e p (List.mem_append_right _ (List.mem_cons_of_mem _ hp))
    · intro x e p hp
      cases e
      exact h2 p hp
/-- the right edge -/
def hung : List ((Int × Int) × Tr) → Tr
  | [] => .nil
  | (p, l) :: es => .node p.1 p.2 l (hung es)
inductive Ed : Tws → List ((Int × Int) × Tr) → Prop where
  | nil : Ed [] []
  | cons {A B : Tws} {p : Int × Int} {l : Tr} {es : List ((Int × Int) × Tr)} : (∀ a ∈ A, a.2 < p.2) → (∀ b ∈ B, b.2 ≤ p.2) → Cart A l → Ed B es → Ed (A ++ p :: B) ((p, l) :: es)
theorem Ed.cart {tw : Tws} {es : List ((Int × Int) × Tr)} (h : Ed tw es) : Cart tw (hung es) := by
  induction h with
  | nil => exact .nil
  | cons h1 h2 c _ ih => exact .node h1 h2 c ih
theorem Ed.mem {tw : Tws} {es : List ((Int × Int) × Tr)} (h : Ed tw es) : ∀ e ∈ es, e.1 ∈ tw := by
  induction h with
  | nil => intro e he; cases he
  | @cons A B p l es _ _ _ _ ih =>
    intro e he
    rcases List.mem_cons.mp he with rfl | he
    · simp
    · exact List.mem_append_right _ (List.mem_cons_of_mem _ (ih e he))
theorem Ed.len {tw : Tws} {es : List ((Int × Int) × Tr)} (h : Ed tw es) : es.length ≤ tw.length := by
  induction h with
  | nil => simp
  | cons _ _ _ _ ih => rw [List.length_append, List.length_cons, List.length_cons]; omega
theorem Ed.step {tw : Tws} {es : List ((Int × Int) × Tr)} (h : Ed tw es) (q : Int × Int) : Ed (tw ++ [q]) (es.filter (fun e => decide (q.2 ≤ e.1.2)) ++ [(q, hung (es.filter fun e => decide (e.1.2 < q.2)))]) := by
  induction h with
  | nil => exact .cons (A := []) (B := []) (fun _ z => by cases z) (fun _ z => by cases z) .nil .nil
  | @cons A B p l es h1 h2 c hE ih =>
    by_cases hp : p.2 < q.2
    · have e1 : ((p, l) :: es).filter (fun e => decide (q.2 ≤ e.1.2)) = [] := by
        rw [List.filter_eq_nil_iff]
        intro e he
        rcases List.mem_cons.mp he with rfl | he
        · simp; exact hp
        · have := h2 _ (hE.mem e he)
          simp; omega
      have e2 : ((p, l) :: es).filter (fun e => decide (e.1.2 < q.2)) = (p, l) :: es := by
        rw [List.filter_eq_self]
        intro e he
        rcases List.mem_cons.mp he with rfl | he
        · simp; exact hp
        · have := h2 _ (hE.mem e he)
          simp; omega
      rw [e1, e2]
      refine .cons (A := A ++ p :: B) (B := []) (fun a ha => ?_) (fun _ z => by cases z) (Ed.cons h1 h2 c hE).cart .nil
      rcases List.mem_append.mp ha with ha | ha
      · have := h1 a ha; omega
      · rcases List.mem_cons.mp ha with rfl | ha
        · exact hp
        · have := h2 a ha; omega
    · have e1 : ((p, l) :: es).filter (fun e => decide (q.2 ≤ e.1.2)) = (p, l) :: es.filter (fun e => decide (q.2 ≤ e.1.2)) := by
        rw [List.filter_cons, if_pos (by simp; omega)]
      have e2 : ((p, l) :: es).filter (fun e => decide (e.1.2 < q.2)) = es.filter (fun e => decide (e.1.2 < q.2)) := by
        rw [List.filter_cons, if_neg (by simp; omega)]
      rw [e1, e2, List.append_assoc, List.cons_append, List.cons_append]
      refine .cons h1 (fun b hb => ?_) c ih
      rcases List.mem_append.mp hb with hb | hb
      · exact h2 b hb
      · have : b = q := by simpa using hb
        rw [this]; omega
/-- a tree in the store, of tuples or lists -/
def RepT (S : Store) : D → Tr → Prop
  | d, .nil => d = .non
  | d, .node k h l r => ∃ dl dr, seqOf S d = some [.int k, .int h, dl, dr] ∧ RepT S dl l ∧ RepT S dr r
theorem RepT.trD {S : Store} : ∀ t : Tr, RepT S (trD t) t
  | .nil => rfl
  | .node k h l r => ⟨_, _, rfl, RepT.trD l, RepT.trD r⟩
theorem seqOf_app {S L : Store} {d : D} {ds : List D} (h : seqOf S d = some ds) : seqOf (S ++ L) d = some ds := by
  cases d with
  | loc m =>
    rw [sq_lk] at h ⊢
    cases e : lk S m with
    | none => rw [e] at h; cases h
    | some mo => rw [lk_old e]; rw [e] at h; exact h
  | _ => exact h
theorem RepT.app {S L : Store} : ∀ {t : Tr} {d : D}, RepT S d t → RepT (S ++ L) d t
  | .nil, _, h => h
  | .node k h l r, d, ⟨dl, dr, e, h1, h2⟩ => ⟨dl, dr, seqOf_app e, h1.app, h2.app⟩
theorem pr_trD : ∀ t : Tr, D.pure (trD t) = true
  | .nil => rfl
  | .node k h l r => by
    rw [trD, pr_tup, pr_cons, pr_cons, pr_cons, pr_cons, pr_trD l, pr_trD r]; rfl
theorem pr_shD : ∀ t : Tr, D.pure (shD t) = true
  | .nil => rfl
  | .node k h l r => by
    rw [shD, pr_tup, pr_cons, pr_cons, pr_cons, pr_shD l, pr_shD r]; rfl
theorem py_trD {S : Store} : ∀ (t : Tr) (n : Nat), t.dep ≤ n → (toPy S n (trD t)).isSome = true
  | .nil, n, _ => py_non S n
  | .node k h l r, 0, e => by rw [Tr.dep] at e; omega
  | .node k h l r, n + 1, e => by
    rw [Tr.dep] at e
    have h1 := py_trD (S := S) l n (by omega)
    have h2 := py_trD (S := S) r n (by omega)
    have i1 := toPy_int (S := S) (n := n) (i := k)
    have i2 := toPy_int (S := S) (n := n) (i := h)
    rw [trD, toPy]
    obtain ⟨p1, e1⟩ := Option.isSome_iff_exists.mp h1
    obtain ⟨p2, e2⟩ := Option.isSome_iff_exists.mp h2
    simp only [mapO, i1, i2, e1, e2]; rfl
theorem py_shD {S : Store} : ∀ (t : Tr) (n : Nat), t.dep ≤ n → (toPy S n (shD t)).isSome = true
  | .nil, n, _ => py_non S n
  | .node k h l r, 0, e => by rw [Tr.dep] at e; omega
  | .node k h l r, n + 1, e => by
    rw [Tr.dep] at e
    have h1 := py_shD (S := S) l n (by omega)
    have h2 := py_shD (S := S) r n (by omega)
    have i1 := toPy_int (S := S) (n := n) (i := k)
    rw [shD, toPy]
    obtain ⟨p1, e1⟩ := Option.isSome_iff_exists.mp h1
    obtain ⟨p2, e2⟩ := Option.isSome_iff_exists.mp h2
    simp only [mapO, i1, e1, e2]; rfl
theorem eqD_of {S : Store} {d : D} (h : (toPy S 120 d).isSome = true) : eqD S d d = some true := by
  obtain ⟨p, e⟩ := Option.isSome_iff_exists.mp h
  exact eqD_same e e
theorem eq_trD {S : Store} {t : Tr} (h : t.dep ≤ 120) : eqD S (trD t) (trD t) = some true := eqD_of (py_trD t 120 h)
theorem eq_shD {S : Store} {t : Tr} (h : t.dep ≤ 120) : eqD S (shD t) (shD t) = some true := eqD_of (py_shD t 120 h)
end Mi
namespace Mi
open PySem PySem.Spec
open L2 (atI ixN Key)
theorem gc_len {S T : Store} {d : D} (h : T.length = S.length) : gc S d T = (d, T) := by
  have ht : T.take S.length = T := by rw [← h]; exact List.take_length
  unfold gc
  split
  · split
    · rw [ht]
    · split
      · split
        · rw [ht]
        · rename_i m hp hm
          have : T[m]? = none := List.getElem?_eq_none (by omega)
          rw [this]
      · rfl
  · rfl
theorem whl_G {γ : Type} {c : StD → Store → Option (Bool × Store)} {b : StD → Store → Option (Fl × Store)} (I : γ → StD → Store → Prop) (μ : γ → Nat) (Post : Option (Fl × Store) → Prop)
    (h : ∀ g σ S, I g σ S → ∃ r S1, c σ S = some (r, S1) ∧ (r = false → Post (some (.next σ, S1))) ∧ (r = true → stepOk (fun σ' S' => ∃ g', I g' σ' S' ∧ μ g' < μ g) Post (b σ S1))) :
    ∀ (n : Nat) (g : γ) (σ : StD) (S : Store), I g σ S → μ g < n → Post (whlD c b n σ S)
  | 0, _, _, _, _, hm => by omega
  | n + 1, g, σ, S, hi, hm => by
    obtain ⟨r, S1, e, h1, h2⟩ := h g σ S hi
    rw [whlD, e]
    cases r with
    | false => exact h1 rfl
    | true =>
      have h3 := h2 rfl
      dsimp only
      cases hb : b σ S1 with
      | none => rw [hb] at h3; exact h3.elim
      | some p =>
        obtain ⟨f, T⟩ := p
        rw [hb] at h3
        cases f with
        | next τ => obtain ⟨g', i', m'⟩ := h3; exact whl_G I μ Post h n g' τ T i' (by omega)
        | cnt τ => obtain ⟨g', i', m'⟩ := h3; exact whl_G I μ Post h n g' τ T i' (by omega)
        | brk τ => exact h3
        | ret d => exact h3
theorem py_rep {S : Store} : ∀ (t : Tr) (n : Nat) (d : D), RepT S d t → t.dep ≤ n → (toPy S n d).isSome = true
  | .nil, n, d, h, _ => by cases h; exact py_non S n
  | .node k h l r, 0, d, _, e => by rw [Tr.dep] at e; omega
  | .node k h l r, n + 1, d, ⟨dl, dr, e, r1, r2⟩, g => by
    rw [Tr.dep] at g
    have h1 := py_rep (S := S) l n dl r1 (by omega)
    have h2 := py_rep (S := S) r n dr r2 (by omega)
    have i1 := toPy_int (S := S) (n := n) (i := k)
    have i2 := toPy_int (S := S) (n := n) (i := h)
    obtain ⟨p1, e1⟩ := Option.isSome_iff_exists.mp h1
    obtain ⟨p2, e2⟩ := Option.isSome_iff_exists.mp h2
    rcases sq_cases e with rfl | rfl | ⟨m, rfl, e3⟩
    · rw [toPy]; simp only [mapO, i1, i2, e1, e2]; rfl
    · rw [toPy]; simp only [mapO, i1, i2, e1, e2]; rfl
    · rw [toPy, e3]; simp only [mapO, i1, i2, e1, e2]; rfl
theorem Cart.len0 {tw : Tws} {t : Tr} (h : Cart tw t) (e : t = .nil) : tw = [] := by cases h <;> first | rfl | cases e
end Mi
namespace Mi
open PySem PySem.Spec
open L2 (atI ixN Key)
def Tr.rows : Tr → Tws
  | .nil => []
  | .node k h l r => l.rows ++ (k, h) :: r.rows
theorem Cart.rows {tw : Tws} {t : Tr} (h : Cart tw t) : t.rows = tw := by
  induction h with
  | nil => rfl
  | node _ _ _ _ i1 i2 => rw [Tr.rows, i1, i2]
theorem is_sqn {S T : Store} {d : D} {ds : List D} (h : seqOf S d = some ds) : cmpD .Is d .non T = some false := by
  cases d <;> first | rfl | cases h
theorem seqOf_pure {S T : Store} {d : D} (h : D.pure d = true) : seqOf S d = seqOf T d := by
  cases d <;> first | rfl | cases h
theorem RepT.pure {S T : Store} : ∀ {t : Tr} {d : D}, D.pure d = true → RepT S d t → RepT T d t
  | .nil, _, _, h => h
  | .node k h l r, d, hp, ⟨dl, dr, e, h1, h2⟩ => by
    have hq : D.pureL [.int k, .int h, dl, dr] = true := by
      cases d with
      | tup ds => cases e; exact hp
      | ro ds => cases e; exact hp
      | loc m => cases hp
      | _ => cases e
    exact ⟨dl, dr, (seqOf_pure hp).symm.trans e, RepT.pure (pureL_mem hq (by simp)) h1, RepT.pure (pureL_mem hq (by simp)) h2⟩
theorem gc_rep {S L : Store} {j : Nat} {t : Tr} (hj : ∃ ds, lk L j = some (.lst ds)) (h : RepT (S ++ L) (.loc (S.length + j)) t) :
    ∃ d' L', gc S (.loc (S.length + j)) (S ++ L) = (d', S ++ L') ∧ RepT (S ++ L') d' t ∧ gc S d' (S ++ L') = (d', S ++ L') := by
  obtain ⟨ds, hj⟩ := hj
  have hk : keepsOld S (S ++ L) = true := by
    have := keepsOld_two (A := S) (B := S) (L1 := []) (L2 := L) rfl (keepsOld_self S) ko_n
    rwa [List.append_nil] at this
  cases hp : MO.pure (.lst ds) with
  | true =>
    refine ⟨_, _, gl_j hj hp, ?_, gl_0 hp⟩
    cases t with
    | nil => cases h
    | node k h' l r =>
      obtain ⟨dl, dr, e, h1, h2⟩ := h
      rw [sq_lk, lk_app, hj] at e
      cases e
      have hq : D.pureL [.int k, .int h', dl, dr] = true := hp
      exact ⟨dl, dr, by rw [sq_lk, lk_app0]; rfl, RepT.pure (pureL_mem hq (by simp)) h1, RepT.pure (pureL_mem hq (by simp)) h2⟩
  | false =>
    have e : gc S (.loc (S.length + j)) (S ++ L) = (.loc (S.length + j), S ++ L) := by
      unfold gc
      rw [if_pos hk, if_neg (by simp [D.pure])]
      dsimp only
      rw [if_neg (by omega), show (S ++ L)[S.length + j]? = some (.lst ds) from lk_app.trans hj]
      dsimp only
      rw [hp]
      rfl
    exact ⟨_, _, e, h, e⟩
def edD (e : (Int × Int) × Tr) : D := .tup [.int e.1.1, .int e.1.2, trD e.2]
theorem pr_edD (es : List ((Int × Int) × Tr)) : D.pureL (es.map edD) = true := pureL_map es fun e _ => by
  rw [edD, pr_tup, pr_cons, pr_cons, pr_cons, pr_trD]; rfl
abbrev Itm := D × Tr × Option Int × Option Int × Option Int
def itD (x : Itm) : D := .tup [x.1, kD x.2.2.1, kD x.2.2.2.1, kD x.2.2.2.2]
def szs (xs : List Itm) : Nat := (xs.map fun x => x.2.1.sz).sum
theorem szs_app (a b : List Itm) : szs (a ++ b) = szs a + szs b := by simp [szs]
theorem szs_len : ∀ (a : List Itm), a.length ≤ szs a
  | [] => by simp
  | x :: a => by
    have h1 := szs_len a
    have h2 := x.2.1.sz_pos
    have h3 : szs (x :: a) = x.2.1.sz + szs a := by simp [szs]
    rw [h3, List.length_cons]; omega
theorem py_itD {S L : Store} {stk : List Itm} (h : ∀ x ∈ stk, RepT S x.1 x.2.1 ∧ x.2.1.dep ≤ 110) : pyOk (S ++ L) (stk.map itD) = true := py_map fun x hx => by
  obtain ⟨h1, h2⟩ := h x hx
  have e1 := py_rep (S := S ++ L) x.2.1 118 x.1 h1.app (by omega)
  have e2 := py_kD (S ++ L) 118 x.2.2.1
  have e3 := py_kD (S ++ L) 118 x.2.2.2.1
  have e4 := py_kD (S ++ L) 118 x.2.2.2.2
  obtain ⟨p1, e1⟩ := Option.isSome_iff_exists.mp e1
  obtain ⟨p2, e2⟩ := Option.isSome_iff_exists.mp e2
  obtain ⟨p3, e3⟩ := Option.isSome_iff_exists.mp e3
  obtain ⟨p4, e4⟩ := Option.isSome_iff_exists.mp e4
  rw [itD, toPy]
  simp only [mapO, e1, e2, e3, e4]; rfl
theorem stk_last {stk : List Itm} (h : stk ≠ []) : ∃ ini x, stk = ini ++ [x] ∧ (stk.map itD)[(stk.map itD).length - 1]? = some (itD x) ∧ (stk.map itD).dropLast = ini.map itD := by
  obtain ⟨ini, x, e⟩ : ∃ ini x, stk = ini ++ [x] := ⟨_, _, (List.dropLast_concat_getLast h).symm⟩
  refine ⟨ini, x, e, ?_, ?_⟩
  · subst e; simp
  · subst e; simp
end Mi
namespace Mi
open PySem PySem.Spec
open L2 (atI ixN Key)
theorem add_rl {ds : List D} {n : Nat} {S : Store} : opD .Add (.ro ds) (.loc n) S = match lk S n with
    | some (.lst y) => if ds.length + y.length ≤ sizeLine then some (.loc S.length, S ++ [.lst (ds ++ y)]) else none
    | _ => none := rfl
theorem enI_ge : ∀ {xs : List Int} {i : Int} {p : Int × Int}, p ∈ enI i xs → i ≤ p.1 ∧ p.2 ∈ xs
  | x :: xs, i, p, h => by
    rw [enI] at h
    rcases List.mem_cons.mp h with rfl | h
    · exact ⟨Int.le_refl _, List.mem_cons_self ..⟩
    · have := enI_ge h
      exact ⟨by omega, List.mem_cons_of_mem _ this.2⟩
theorem fine_enI {a b : Int} (ha : 0 < a) : ∀ {xs : List Int} {i : Int}, (∀ h ∈ xs, 1 ≤ h) → Fine ((enI i xs).map fun p => (a * p.1 + b, p.2))
  | [], _, _ => trivial
  | x :: xs, i, h => by
    rw [enI, List.map_cons]
    refine ⟨h x (List.mem_cons_self ..), fun q hq => ?_, fine_enI ha fun y hy => h y (List.mem_cons_of_mem _ hy)⟩
    obtain ⟨p, hp, rfl⟩ := List.mem_map.mp hq
    have h1 := (enI_ge hp).1
    have h2 : a * (i + 1) ≤ a * p.1 := Int.mul_le_mul_of_nonneg_left h1 (by omega)
    rw [Int.mul_add] at h2
    show a * i + b < a * p.1 + b
    omega
end Mi

end

section
set_option maxHeartbeats 0
namespace K72
open PySem PySem.Spec PyProof.Rows L2 Mi
def top (i : Nat) : Stmt := PySem.Challenge.pw_tosslanes_k72_whole_towers_and_trees.main.body.getD i (.Pass ⟨0, 0, 0, 0⟩)
def b_is_integer : Ts := (.cons (.ret (.bop .And (.cons (.isi (.var 0 "value" ⟨13, 22, 13, 27⟩) .int ⟨13, 11, 13, 21⟩ ⟨13, 29, 13, 32⟩ ⟨13, 11, 13, 33⟩) (.cons (.not (.isi (.var 0 "value" ⟨13, 54, 13, 59⟩) .bool ⟨13, 43, 13, 53⟩ ⟨13, 61, 13, 65⟩ ⟨13, 43, 13, 66⟩) ⟨13, 39, 13, 66⟩) .nil)) ⟨13, 11, 13, 67⟩) ⟨13, 4, 13, 67⟩) .nil)
def b_is_row : Ts := (.cons (.ret (.isl (.var 0 "value" ⟨15, 22, 15, 27⟩) 0 ⟨15, 11, 15, 21⟩ ⟨15, 30, 15, 34⟩ ⟨15, 36, 15, 41⟩ ⟨15, 29, 15, 42⟩ ⟨15, 11, 15, 43⟩) ⟨15, 4, 15, 43⟩) .nil)
def b_is_pair : Ts := (.cons (.ret (.bop .And (.cons (.call "is_row" 1 (.cons (.var 0 "value" ⟨17, 18, 17, 23⟩) .nil) ⟨17, 11, 17, 17⟩ ⟨17, 11, 17, 24⟩) (.cons (.cmp .Eq (.bi .len (.cons (.var 0 "value" ⟨17, 33, 17, 38⟩) .nil) ⟨17, 29, 17, 32⟩ ⟨17, 29, 17, 39⟩) (.con (.int 2) 0 ⟨17, 43, 17, 44⟩) ⟨17, 29, 17, 44⟩) (.cons (.call "is_integer" 0 (.cons (.ix (.var 0 "value" ⟨17, 60, 17, 65⟩) (.con (.int 0) 0 ⟨17, 66, 17, 67⟩) ⟨17, 60, 17, 68⟩) .nil) ⟨17, 49, 17, 59⟩ ⟨17, 49, 17, 69⟩) (.cons (.call "is_integer" 0 (.cons (.ix (.var 0 "value" ⟨17, 85, 17, 90⟩) (.con (.int 1) 0 ⟨17, 91, 17, 92⟩) ⟨17, 85, 17, 93⟩) .nil) ⟨17, 74, 17, 84⟩ ⟨17, 74, 17, 94⟩) (.cons (.cmp .GtE (.ix (.var 0 "value" ⟨17, 100, 17, 105⟩) (.con (.int 1) 0 ⟨17, 106, 17, 107⟩) ⟨17, 100, 17, 108⟩) (.con (.int 1) 0 ⟨17, 112, 17, 113⟩) ⟨17, 100, 17, 113⟩) .nil))))) ⟨17, 11, 17, 114⟩) ⟨17, 4, 17, 114⟩) .nil)
def b_wrong_at : Ts := (.cons (.iff (.not (.call "is_row" 1 (.cons (.var 0 "thing" ⟨19, 18, 19, 23⟩) .nil) ⟨19, 11, 19, 17⟩ ⟨19, 11, 19, 24⟩) ⟨19, 7, 19, 24⟩) (.cons (.ret (.neg (.con (.int 1) 0 ⟨20, 16, 20, 17⟩) ⟨20, 15, 20, 17⟩) ⟨20, 8, 20, 17⟩) .nil) .nil ⟨19, 4, 20, 17⟩) (.cons (.fr (.tp (.cons (.nm 1 "index" ⟨21, 8, 21, 13⟩) (.cons (.nm 2 "one" ⟨21, 15, 21, 18⟩) .nil)) 0 ⟨21, 8, 21, 18⟩) (.enm (.var 0 "thing" ⟨21, 32, 21, 37⟩) ⟨21, 22, 21, 31⟩ ⟨21, 22, 21, 38⟩) (.cons (.iff (.bop .Or (.cons (.not (.call "is_pair" 2 (.cons (.var 2 "one" ⟨22, 23, 22, 26⟩) .nil) ⟨22, 15, 22, 22⟩ ⟨22, 15, 22, 27⟩) ⟨22, 11, 22, 27⟩) (.cons (.bop .And (.cons (.cmp .Gt (.var 1 "index" ⟨22, 32, 22, 37⟩) (.con (.int 0) 0 ⟨22, 40, 22, 41⟩) ⟨22, 32, 22, 41⟩) (.cons (.cmp .GtE (.ix (.ix (.var 0 "thing" ⟨22, 46, 22, 51⟩) (.op .Sub (.var 1 "index" ⟨22, 52, 22, 57⟩) (.con (.int 1) 0 ⟨22, 60, 22, 61⟩) ⟨22, 52, 22, 61⟩) ⟨22, 46, 22, 62⟩) (.con (.int 0) 0 ⟨22, 63, 22, 64⟩) ⟨22, 46, 22, 65⟩) (.ix (.var 2 "one" ⟨22, 69, 22, 72⟩) (.con (.int 0) 0 ⟨22, 73, 22, 74⟩) ⟨22, 69, 22, 75⟩) ⟨22, 46, 22, 75⟩) .nil)) ⟨22, 32, 22, 75⟩) .nil)) ⟨22, 11, 22, 76⟩) (.cons (.ret (.var 1 "index" ⟨23, 19, 23, 24⟩) ⟨23, 12, 23, 24⟩) .nil) .nil ⟨22, 8, 23, 24⟩) .nil) ⟨21, 4, 23, 24⟩) (.cons (.ret (.con .none 0 ⟨24, 11, 24, 15⟩) ⟨24, 4, 24, 15⟩) .nil)))
def b_checked : Ts := (.cons (.asg (.nm 1 "index" ⟨26, 4, 26, 9⟩) (.call "wrong_at" 3 (.cons (.var 0 "towers" ⟨26, 21, 26, 27⟩) .nil) ⟨26, 12, 26, 20⟩ ⟨26, 12, 26, 28⟩) ⟨26, 4, 26, 28⟩) (.cons (.iff (.cmp .IsNot (.var 1 "index" ⟨27, 7, 27, 12⟩) (.con .none 0 ⟨27, 20, 27, 24⟩) ⟨27, 7, 27, 24⟩) (.cons (.nev (.Raise (some (.Call (.Name "NoTowers" ⟨28, 14, 28, 22⟩) [(.Name "index" ⟨28, 23, 28, 28⟩)] [] ⟨28, 14, 28, 29⟩)) none ⟨28, 8, 28, 29⟩)) .nil) .nil ⟨27, 4, 28, 29⟩) (.cons (.ret (.bi .tuple (.cons (.lc (.tup (.cons (.var 2 "key" ⟨29, 19, 29, 22⟩) (.cons (.var 3 "height" ⟨29, 24, 29, 30⟩) .nil)) 0 ⟨29, 18, 29, 31⟩) (.tp (.cons (.nm 2 "key" ⟨29, 36, 29, 39⟩) (.cons (.nm 3 "height" ⟨29, 41, 29, 47⟩) .nil)) 0 ⟨29, 36, 29, 47⟩) (.ex (.var 0 "towers" ⟨29, 51, 29, 57⟩)) .none [("key", 2), ("height", 3)] ⟨.function, [(".0", .local), ("key", .local), ("height", .local)], false, false, []⟩ ⟨29, 17, 29, 58⟩) .nil) ⟨29, 11, 29, 16⟩ ⟨29, 11, 29, 59⟩) ⟨29, 4, 29, 59⟩) .nil)))
def b_is_between : Ts := (.cons (.ret (.bop .And (.cons (.call "is_integer" 0 (.cons (.var 0 "key" ⟨32, 22, 32, 25⟩) .nil) ⟨32, 11, 32, 21⟩ ⟨32, 11, 32, 26⟩) (.cons (.bop .Or (.cons (.cmp .Is (.var 1 "low" ⟨32, 32, 32, 35⟩) (.con .none 0 ⟨32, 39, 32, 43⟩) ⟨32, 32, 32, 43⟩) (.cons (.cmp .Gt (.var 0 "key" ⟨32, 47, 32, 50⟩) (.var 1 "low" ⟨32, 53, 32, 56⟩) ⟨32, 47, 32, 56⟩) .nil)) ⟨32, 32, 32, 56⟩) (.cons (.bop .Or (.cons (.cmp .Is (.var 2 "high" ⟨32, 63, 32, 67⟩) (.con .none 0 ⟨32, 71, 32, 75⟩) ⟨32, 63, 32, 75⟩) (.cons (.cmp .Lt (.var 0 "key" ⟨32, 79, 32, 82⟩) (.var 2 "high" ⟨32, 85, 32, 89⟩) ⟨32, 79, 32, 89⟩) .nil)) ⟨32, 63, 32, 89⟩) .nil))) ⟨32, 11, 32, 90⟩) ⟨32, 4, 32, 90⟩) .nil)
def b_look_tree : Ts := (.cons (.asg (.nm 1 "waiting" ⟨34, 4, 34, 11⟩) (.lst (.cons (.tup (.cons (.var 0 "tree" ⟨34, 16, 34, 20⟩) (.cons (.con .none 0 ⟨34, 22, 34, 26⟩) (.cons (.con .none 0 ⟨34, 28, 34, 32⟩) (.cons (.con .none 0 ⟨34, 34, 34, 38⟩) .nil)))) 0 ⟨34, 15, 34, 39⟩) .nil) ⟨34, 14, 34, 40⟩) ⟨34, 4, 34, 40⟩) (.cons (.whl (.cmp .NotEq (.var 1 "waiting" ⟨35, 10, 35, 17⟩) (.lst .nil ⟨35, 21, 35, 23⟩) ⟨35, 10, 35, 23⟩) (.cons (.asg (.tp (.cons (.nm 2 "node" ⟨36, 8, 36, 12⟩) (.cons (.nm 3 "low" ⟨36, 14, 36, 17⟩) (.cons (.nm 4 "high" ⟨36, 19, 36, 23⟩) (.cons (.nm 5 "most" ⟨36, 25, 36, 29⟩) .nil)))) 0 ⟨36, 8, 36, 29⟩) (.mt (.var 1 "waiting" ⟨36, 32, 36, 39⟩) .pop .nil ⟨36, 32, 36, 43⟩ ⟨36, 32, 36, 45⟩) ⟨36, 8, 36, 45⟩) (.cons (.iff (.cmp .Is (.var 2 "node" ⟨37, 11, 37, 15⟩) (.con .none 0 ⟨37, 19, 37, 23⟩) ⟨37, 11, 37, 23⟩) (.cons (.cnt ⟨38, 12, 38, 20⟩) .nil) .nil ⟨37, 8, 38, 20⟩) (.cons (.iff (.bop .Or (.cons (.not (.call "is_row" 1 (.cons (.var 2 "node" ⟨39, 22, 39, 26⟩) .nil) ⟨39, 15, 39, 21⟩ ⟨39, 15, 39, 27⟩) ⟨39, 11, 39, 27⟩) (.cons (.cmp .NotEq (.bi .len (.cons (.var 2 "node" ⟨39, 35, 39, 39⟩) .nil) ⟨39, 31, 39, 34⟩ ⟨39, 31, 39, 40⟩) (.con (.int 4) 0 ⟨39, 44, 39, 45⟩) ⟨39, 31, 39, 45⟩) (.cons (.not (.call "is_between" 5 (.cons (.ix (.var 2 "node" ⟨39, 65, 39, 69⟩) (.con (.int 0) 0 ⟨39, 70, 39, 71⟩) ⟨39, 65, 39, 72⟩) (.cons (.var 3 "low" ⟨39, 74, 39, 77⟩) (.cons (.var 4 "high" ⟨39, 79, 39, 83⟩) .nil))) ⟨39, 54, 39, 64⟩ ⟨39, 54, 39, 84⟩) ⟨39, 50, 39, 84⟩) .nil))) ⟨39, 11, 39, 85⟩) (.cons (.nev (.Raise (some (.Call (.Name "NoTree" ⟨40, 18, 40, 24⟩) [] [] ⟨40, 18, 40, 26⟩)) none ⟨40, 12, 40, 26⟩)) .nil) .nil ⟨39, 8, 40, 26⟩) (.cons (.asg (.tp (.cons (.nm 6 "key" ⟨41, 8, 41, 11⟩) (.cons (.nm 7 "height" ⟨41, 13, 41, 19⟩) (.cons (.nm 8 "left" ⟨41, 21, 41, 25⟩) (.cons (.nm 9 "right" ⟨41, 27, 41, 32⟩) .nil)))) 0 ⟨41, 8, 41, 32⟩) (.var 2 "node" ⟨41, 35, 41, 39⟩) ⟨41, 8, 41, 39⟩) (.cons (.iff (.bop .Or (.cons (.not (.call "is_integer" 0 (.cons (.var 7 "height" ⟨42, 26, 42, 32⟩) .nil) ⟨42, 15, 42, 25⟩ ⟨42, 15, 42, 33⟩) ⟨42, 11, 42, 33⟩) (.cons (.cmp .Lt (.var 7 "height" ⟨42, 37, 42, 43⟩) (.con (.int 1) 0 ⟨42, 46, 42, 47⟩) ⟨42, 37, 42, 47⟩) (.cons (.bop .And (.cons (.cmp .IsNot (.var 5 "most" ⟨42, 52, 42, 56⟩) (.con .none 0 ⟨42, 64, 42, 68⟩) ⟨42, 52, 42, 68⟩) (.cons (.cmp .Gt (.var 7 "height" ⟨42, 73, 42, 79⟩) (.var 5 "most" ⟨42, 82, 42, 86⟩) ⟨42, 73, 42, 86⟩) .nil)) ⟨42, 52, 42, 86⟩) .nil))) ⟨42, 11, 42, 87⟩) (.cons (.nev (.Raise (some (.Call (.Name "NoTree" ⟨43, 18, 43, 24⟩) [] [] ⟨43, 18, 43, 26⟩)) none ⟨43, 12, 43, 26⟩)) .nil) .nil ⟨42, 8, 43, 26⟩) (.cons (.ex (.mt (.var 1 "waiting" ⟨44, 8, 44, 15⟩) .append (.cons (.tup (.cons (.var 8 "left" ⟨44, 24, 44, 28⟩) (.cons (.var 3 "low" ⟨44, 30, 44, 33⟩) (.cons (.var 6 "key" ⟨44, 35, 44, 38⟩) (.cons (.op .Sub (.var 7 "height" ⟨44, 40, 44, 46⟩) (.con (.int 1) 0 ⟨44, 49, 44, 50⟩) ⟨44, 40, 44, 50⟩) .nil)))) 0 ⟨44, 23, 44, 51⟩) .nil) ⟨44, 8, 44, 22⟩ ⟨44, 8, 44, 52⟩) ⟨44, 8, 44, 52⟩) (.cons (.ex (.mt (.var 1 "waiting" ⟨45, 8, 45, 15⟩) .append (.cons (.tup (.cons (.var 9 "right" ⟨45, 24, 45, 29⟩) (.cons (.var 6 "key" ⟨45, 31, 45, 34⟩) (.cons (.var 4 "high" ⟨45, 36, 45, 40⟩) (.cons (.var 7 "height" ⟨45, 42, 45, 48⟩) .nil)))) 0 ⟨45, 23, 45, 49⟩) .nil) ⟨45, 8, 45, 22⟩ ⟨45, 8, 45, 50⟩) ⟨45, 8, 45, 50⟩) .nil))))))) ⟨35, 4, 45, 50⟩) .nil))
def b_grown : Ts := (.cons (.iff (.cmp .Eq (.var 0 "known" ⟨47, 7, 47, 12⟩) (.tup .nil 0 ⟨47, 16, 47, 18⟩) ⟨47, 7, 47, 18⟩) (.cons (.ret (.con .none 0 ⟨48, 15, 48, 19⟩) ⟨48, 8, 48, 19⟩) .nil) .nil ⟨47, 4, 48, 19⟩) (.cons (.asg (.tp (.cons (.nm 1 "place" ⟨49, 4, 49, 9⟩) (.cons (.nm 2 "key" ⟨49, 11, 49, 14⟩) (.cons (.nm 3 "height" ⟨49, 16, 49, 22⟩) .nil))) 0 ⟨49, 4, 49, 22⟩) (.tup (.cons (.con (.int 0) 0 ⟨49, 26, 49, 27⟩) (.cons (.ix (.ix (.var 0 "known" ⟨49, 29, 49, 34⟩) (.con (.int 0) 0 ⟨49, 35, 49, 36⟩) ⟨49, 29, 49, 37⟩) (.con (.int 0) 0 ⟨49, 38, 49, 39⟩) ⟨49, 29, 49, 40⟩) (.cons (.ix (.ix (.var 0 "known" ⟨49, 42, 49, 47⟩) (.con (.int 0) 0 ⟨49, 48, 49, 49⟩) ⟨49, 42, 49, 50⟩) (.con (.int 1) 0 ⟨49, 51, 49, 52⟩) ⟨49, 42, 49, 53⟩) .nil))) 0 ⟨49, 25, 49, 54⟩) ⟨49, 4, 49, 54⟩) (.cons (.fr (.tp (.cons (.nm 4 "index" ⟨50, 8, 50, 13⟩) (.cons (.tp (.cons (.nm 5 "one" ⟨50, 16, 50, 19⟩) (.cons (.nm 6 "high" ⟨50, 21, 50, 25⟩) .nil)) 0 ⟨50, 15, 50, 26⟩) .nil)) 0 ⟨50, 8, 50, 26⟩) (.enm (.var 0 "known" ⟨50, 40, 50, 45⟩) ⟨50, 30, 50, 39⟩ ⟨50, 30, 50, 46⟩) (.cons (.iff (.cmp .Gt (.var 6 "high" ⟨51, 11, 51, 15⟩) (.var 3 "height" ⟨51, 18, 51, 24⟩) ⟨51, 11, 51, 24⟩) (.cons (.asg (.tp (.cons (.nm 1 "place" ⟨52, 12, 52, 17⟩) (.cons (.nm 2 "key" ⟨52, 19, 52, 22⟩) (.cons (.nm 3 "height" ⟨52, 24, 52, 30⟩) .nil))) 0 ⟨52, 12, 52, 30⟩) (.tup (.cons (.var 4 "index" ⟨52, 34, 52, 39⟩) (.cons (.var 5 "one" ⟨52, 41, 52, 44⟩) (.cons (.var 6 "high" ⟨52, 46, 52, 50⟩) .nil))) 0 ⟨52, 33, 52, 51⟩) ⟨52, 12, 52, 51⟩) .nil) .nil ⟨51, 8, 52, 51⟩) .nil) ⟨50, 4, 52, 51⟩) (.cons (.ret (.tup (.cons (.var 2 "key" ⟨53, 12, 53, 15⟩) (.cons (.var 3 "height" ⟨53, 17, 53, 23⟩) (.cons (.call "grown" 7 (.cons (.sl (.var 0 "known" ⟨53, 31, 53, 36⟩) .none (.some (.var 1 "place" ⟨53, 38, 53, 43⟩)) ⟨53, 37, 53, 43⟩ ⟨53, 31, 53, 44⟩) .nil) ⟨53, 25, 53, 30⟩ ⟨53, 25, 53, 45⟩) (.cons (.call "grown" 7 (.cons (.sl (.var 0 "known" ⟨53, 53, 53, 58⟩) (.some (.op .Add (.var 1 "place" ⟨53, 59, 53, 64⟩) (.con (.int 1) 0 ⟨53, 67, 53, 68⟩) ⟨53, 59, 53, 68⟩)) .none ⟨53, 59, 53, 69⟩ ⟨53, 53, 53, 70⟩) .nil) ⟨53, 47, 53, 52⟩ ⟨53, 47, 53, 71⟩) .nil)))) 0 ⟨53, 11, 53, 72⟩) ⟨53, 4, 53, 72⟩) .nil))))
def b_tree_of : Ts := (.cons (.ret (.call "grown" 7 (.cons (.call "checked" 4 (.cons (.var 0 "towers" ⟨55, 25, 55, 31⟩) .nil) ⟨55, 17, 55, 24⟩ ⟨55, 17, 55, 32⟩) .nil) ⟨55, 11, 55, 16⟩ ⟨55, 11, 55, 33⟩) ⟨55, 4, 55, 33⟩) .nil)
def b_listed : Ts := (.cons (.iff (.cmp .Is (.var 0 "tree" ⟨57, 7, 57, 11⟩) (.con .none 0 ⟨57, 15, 57, 19⟩) ⟨57, 7, 57, 19⟩) (.cons (.ret (.tup .nil 0 ⟨58, 15, 58, 17⟩) ⟨58, 8, 58, 17⟩) .nil) .nil ⟨57, 4, 58, 17⟩) (.cons (.ret (.op .Add (.op .Add (.call "listed" 9 (.cons (.ix (.var 0 "tree" ⟨59, 18, 59, 22⟩) (.con (.int 2) 0 ⟨59, 23, 59, 24⟩) ⟨59, 18, 59, 25⟩) .nil) ⟨59, 11, 59, 17⟩ ⟨59, 11, 59, 26⟩) (.tup (.cons (.tup (.cons (.ix (.var 0 "tree" ⟨59, 31, 59, 35⟩) (.con (.int 0) 0 ⟨59, 36, 59, 37⟩) ⟨59, 31, 59, 38⟩) (.cons (.ix (.var 0 "tree" ⟨59, 40, 59, 44⟩) (.con (.int 1) 0 ⟨59, 45, 59, 46⟩) ⟨59, 40, 59, 47⟩) .nil)) 0 ⟨59, 30, 59, 48⟩) .nil) 0 ⟨59, 29, 59, 50⟩) ⟨59, 11, 59, 50⟩) (.call "listed" 9 (.cons (.ix (.var 0 "tree" ⟨59, 60, 59, 64⟩) (.con (.int 3) 0 ⟨59, 65, 59, 66⟩) ⟨59, 60, 59, 67⟩) .nil) ⟨59, 53, 59, 59⟩ ⟨59, 53, 59, 68⟩) ⟨59, 11, 59, 68⟩) ⟨59, 4, 59, 68⟩) .nil))
def b_towers_of : Ts := (.cons (.ex (.call "look_tree" 6 (.cons (.var 0 "tree" ⟨61, 14, 61, 18⟩) .nil) ⟨61, 4, 61, 13⟩ ⟨61, 4, 61, 19⟩) ⟨61, 4, 61, 19⟩) (.cons (.ret (.call "listed" 9 (.cons (.var 0 "tree" ⟨62, 18, 62, 22⟩) .nil) ⟨62, 11, 62, 17⟩ ⟨62, 11, 62, 23⟩) ⟨62, 4, 62, 23⟩) .nil))
def b_shaped : Ts := (.cons (.ret (.ifx (.cmp .Is (.var 0 "tree" ⟨64, 19, 64, 23⟩) (.con .none 0 ⟨64, 27, 64, 31⟩) ⟨64, 19, 64, 31⟩) (.con .none 0 ⟨64, 11, 64, 15⟩) (.tup (.cons (.ix (.var 0 "tree" ⟨64, 38, 64, 42⟩) (.con (.int 0) 0 ⟨64, 43, 64, 44⟩) ⟨64, 38, 64, 45⟩) (.cons (.call "shaped" 11 (.cons (.ix (.var 0 "tree" ⟨64, 54, 64, 58⟩) (.con (.int 2) 0 ⟨64, 59, 64, 60⟩) ⟨64, 54, 64, 61⟩) .nil) ⟨64, 47, 64, 53⟩ ⟨64, 47, 64, 62⟩) (.cons (.call "shaped" 11 (.cons (.ix (.var 0 "tree" ⟨64, 71, 64, 75⟩) (.con (.int 3) 0 ⟨64, 76, 64, 77⟩) ⟨64, 71, 64, 78⟩) .nil) ⟨64, 64, 64, 70⟩ ⟨64, 64, 64, 79⟩) .nil))) 0 ⟨64, 37, 64, 80⟩) ⟨64, 11, 64, 80⟩) ⟨64, 4, 64, 80⟩) .nil)
def b_shape : Ts := (.cons (.ex (.call "look_tree" 6 (.cons (.var 0 "tree" ⟨66, 14, 66, 18⟩) .nil) ⟨66, 4, 66, 13⟩ ⟨66, 4, 66, 19⟩) ⟨66, 4, 66, 19⟩) (.cons (.ret (.call "shaped" 11 (.cons (.var 0 "tree" ⟨67, 18, 67, 22⟩) .nil) ⟨67, 11, 67, 17⟩ ⟨67, 11, 67, 23⟩) ⟨67, 4, 67, 23⟩) .nil))
def b__law_source : Ts := (.cons (.asg (.nm 0 "_law_cell" ⟨70, 4, 70, 13⟩) (.ifx (.cmp .GtE (.var 0 "_law_cell" ⟨70, 29, 70, 38⟩) (.con (.int 0) 0 ⟨70, 42, 70, 43⟩) ⟨70, 29, 70, 43⟩) (.var 0 "_law_cell" ⟨70, 16, 70, 25⟩) (.op .Sub (.op .Sub (.con (.int 0) 0 ⟨70, 49, 70, 50⟩) (.op .Mult (.con (.int 3) 0 ⟨70, 53, 70, 54⟩) (.var 0 "_law_cell" ⟨70, 57, 70, 66⟩) ⟨70, 53, 70, 66⟩) ⟨70, 49, 70, 66⟩) (.con (.int 1) 0 ⟨70, 69, 70, 70⟩) ⟨70, 49, 70, 70⟩) ⟨70, 16, 70, 70⟩) ⟨70, 4, 70, 70⟩) (.cons (.ret (.lst (.cons (.op .Mult (.var 0 "_law_cell" ⟨71, 12, 71, 21⟩) (.bi .int (.cons (.cmp .GtE (.var 0 "_law_cell" ⟨71, 28, 71, 37⟩) (.op .Pow (.con (.int 10) 0 ⟨71, 41, 71, 43⟩) (.con (.int 18) 0 ⟨71, 47, 71, 49⟩) ⟨71, 41, 71, 49⟩) ⟨71, 28, 71, 49⟩) .nil) ⟨71, 24, 71, 27⟩ ⟨71, 24, 71, 50⟩) ⟨71, 12, 71, 50⟩) (.cons (.op .Mod (.bi .int (.cons (.var 0 "_law_cell" ⟨71, 56, 71, 65⟩) .nil) ⟨71, 52, 71, 55⟩ ⟨71, 52, 71, 66⟩) (.con (.int 2147483647) 0 ⟨71, 69, 71, 79⟩) ⟨71, 52, 71, 79⟩) (.cons (.con (.int 0) 0 ⟨71, 81, 71, 82⟩) .nil))) ⟨71, 11, 71, 83⟩) ⟨71, 4, 71, 83⟩) .nil))
def b__law_next : Ts := (.cons (.iff (.cmp .Gt (.ix (.var 0 "_law_source_here" ⟨73, 7, 73, 23⟩) (.con (.int 0) 0 ⟨73, 24, 73, 25⟩) ⟨73, 7, 73, 26⟩) (.con (.int 0) 0 ⟨73, 29, 73, 30⟩) ⟨73, 7, 73, 30⟩) (.cons (.asg (.nm 2 "_law_found" ⟨74, 8, 74, 18⟩) (.op .Mod (.bi .int (.cons (.ix (.var 0 "_law_source_here" ⟨74, 25, 74, 41⟩) (.con (.int 0) 0 ⟨74, 42, 74, 43⟩) ⟨74, 25, 74, 44⟩) .nil) ⟨74, 21, 74, 24⟩ ⟨74, 21, 74, 45⟩) (.var 1 "_law_many" ⟨74, 48, 74, 57⟩) ⟨74, 21, 74, 57⟩) ⟨74, 8, 74, 57⟩) (.cons (.asg (.sb (.var 0 "_law_source_here" ⟨75, 8, 75, 24⟩) (.con (.int 0) 0 ⟨75, 25, 75, 26⟩) ⟨75, 8, 75, 27⟩) (.op .FloorDiv (.ix (.var 0 "_law_source_here" ⟨75, 30, 75, 46⟩) (.con (.int 0) 0 ⟨75, 47, 75, 48⟩) ⟨75, 30, 75, 49⟩) (.var 1 "_law_many" ⟨75, 53, 75, 62⟩) ⟨75, 30, 75, 62⟩) ⟨75, 8, 75, 62⟩) (.cons (.ret (.var 2 "_law_found" ⟨76, 15, 76, 25⟩) ⟨76, 8, 76, 25⟩) .nil))) .nil ⟨73, 4, 76, 25⟩) (.cons (.asg (.sb (.var 0 "_law_source_here" ⟨77, 4, 77, 20⟩) (.con (.int 2) 0 ⟨77, 21, 77, 22⟩) ⟨77, 4, 77, 23⟩) (.op .Add (.ix (.var 0 "_law_source_here" ⟨77, 26, 77, 42⟩) (.con (.int 2) 0 ⟨77, 43, 77, 44⟩) ⟨77, 26, 77, 45⟩) (.con (.int 1) 0 ⟨77, 48, 77, 49⟩) ⟨77, 26, 77, 49⟩) ⟨77, 4, 77, 49⟩) (.cons (.asg (.nm 3 "_law_number" ⟨78, 4, 78, 15⟩) (.op .Mod (.bi .int (.cons (.op .Add (.op .Add (.ix (.var 0 "_law_source_here" ⟨78, 22, 78, 38⟩) (.con (.int 1) 0 ⟨78, 39, 78, 40⟩) ⟨78, 22, 78, 41⟩) (.op .Mult (.con (.int 104729) 0 ⟨78, 44, 78, 50⟩) (.ix (.var 0 "_law_source_here" ⟨78, 53, 78, 69⟩) (.con (.int 2) 0 ⟨78, 70, 78, 71⟩) ⟨78, 53, 78, 72⟩) ⟨78, 44, 78, 72⟩) ⟨78, 22, 78, 72⟩) (.con (.int 7919) 0 ⟨78, 75, 78, 79⟩) ⟨78, 22, 78, 79⟩) .nil) ⟨78, 18, 78, 21⟩ ⟨78, 18, 78, 80⟩) (.con (.int 2147483647) 0 ⟨78, 83, 78, 93⟩) ⟨78, 18, 78, 93⟩) ⟨78, 4, 78, 93⟩) (.cons (.asg (.nm 3 "_law_number" ⟨79, 4, 79, 15⟩) (.op .Mod (.bi .int (.cons (.op .Mult (.var 3 "_law_number" ⟨79, 22, 79, 33⟩) (.con (.int 48271) 0 ⟨79, 36, 79, 41⟩) ⟨79, 22, 79, 41⟩) .nil) ⟨79, 18, 79, 21⟩ ⟨79, 18, 79, 42⟩) (.con (.int 2147483647) 0 ⟨79, 45, 79, 55⟩) ⟨79, 18, 79, 55⟩) ⟨79, 4, 79, 55⟩) (.cons (.asg (.nm 3 "_law_number" ⟨80, 4, 80, 15⟩) (.op .Mod (.bi .int (.cons (.op .Mult (.var 3 "_law_number" ⟨80, 22, 80, 33⟩) (.op .Add (.op .FloorDiv (.var 3 "_law_number" ⟨80, 37, 80, 48⟩) (.con (.int 1009) 0 ⟨80, 52, 80, 56⟩) ⟨80, 37, 80, 56⟩) (.con (.int 69621) 0 ⟨80, 59, 80, 64⟩) ⟨80, 37, 80, 64⟩) ⟨80, 22, 80, 65⟩) .nil) ⟨80, 18, 80, 21⟩ ⟨80, 18, 80, 66⟩) (.con (.int 2147483647) 0 ⟨80, 69, 80, 79⟩) ⟨80, 18, 80, 79⟩) ⟨80, 4, 80, 79⟩) (.cons (.asg (.nm 3 "_law_number" ⟨81, 4, 81, 15⟩) (.op .Mod (.bi .int (.cons (.op .Mult (.var 3 "_law_number" ⟨81, 22, 81, 33⟩) (.op .Add (.op .FloorDiv (.var 3 "_law_number" ⟨81, 37, 81, 48⟩) (.con (.int 2003) 0 ⟨81, 52, 81, 56⟩) ⟨81, 37, 81, 56⟩) (.con (.int 40692) 0 ⟨81, 59, 81, 64⟩) ⟨81, 37, 81, 64⟩) ⟨81, 22, 81, 65⟩) .nil) ⟨81, 18, 81, 21⟩ ⟨81, 18, 81, 66⟩) (.con (.int 2147483399) 0 ⟨81, 69, 81, 79⟩) ⟨81, 18, 81, 79⟩) ⟨81, 4, 81, 79⟩) (.cons (.ret (.op .Mod (.bi .int (.cons (.op .FloorDiv (.var 3 "_law_number" ⟨82, 15, 82, 26⟩) (.con (.int 7) 0 ⟨82, 30, 82, 31⟩) ⟨82, 15, 82, 31⟩) .nil) ⟨82, 11, 82, 14⟩ ⟨82, 11, 82, 32⟩) (.var 1 "_law_many" ⟨82, 35, 82, 44⟩) ⟨82, 11, 82, 44⟩) ⟨82, 4, 82, 44⟩) .nil)))))))
def b__law_longer : Ts := (.cons (.asg (.nm 2 "_law_found" ⟨84, 4, 84, 14⟩) (.lst .nil ⟨84, 17, 84, 19⟩) ⟨84, 4, 84, 19⟩) (.cons (.fr (.nm 3 "_law_row" ⟨85, 8, 85, 16⟩) (.ex (.var 0 "_law_rows" ⟨85, 20, 85, 29⟩)) (.cons (.ex (.mt (.var 2 "_law_found" ⟨86, 8, 86, 18⟩) .extend (.cons (.lc (.op .Add (.var 3 "_law_row" ⟨86, 27, 86, 35⟩) (.tup (.cons (.var 4 "_law_high" ⟨86, 39, 86, 48⟩) .nil) 0 ⟨86, 38, 86, 50⟩) ⟨86, 27, 86, 50⟩) (.nm 4 "_law_high" ⟨86, 55, 86, 64⟩) (.rng2 (.con (.int 1) 0 ⟨86, 74, 86, 75⟩) (.op .Add (.var 1 "_law_cap" ⟨86, 77, 86, 85⟩) (.con (.int 1) 0 ⟨86, 88, 86, 89⟩) ⟨86, 77, 86, 89⟩) ⟨86, 68, 86, 73⟩ ⟨86, 68, 86, 90⟩) .none [("_law_high", 4)] ⟨.function, [(".0", .local), ("_law_high", .local), ("_law_row", .free)], false, false, []⟩ ⟨86, 26, 86, 91⟩) .nil) ⟨86, 8, 86, 25⟩ ⟨86, 8, 86, 92⟩) ⟨86, 8, 86, 92⟩) .nil) ⟨85, 4, 86, 92⟩) (.cons (.ret (.var 2 "_law_found" ⟨87, 11, 87, 21⟩) ⟨87, 4, 87, 21⟩) .nil)))
def b__law_hung : Ts := (.cons (.asg (.nm 1 "_law_found" ⟨89, 4, 89, 14⟩) (.con .none 0 ⟨89, 17, 89, 21⟩) ⟨89, 4, 89, 21⟩) (.cons (.fr (.tp (.cons (.nm 2 "_law_key" ⟨90, 8, 90, 16⟩) (.cons (.nm 3 "_law_high" ⟨90, 18, 90, 27⟩) (.cons (.nm 4 "_law_front" ⟨90, 29, 90, 39⟩) .nil))) 0 ⟨90, 8, 90, 39⟩) (.ex (.rev (.var 0 "_law_edge" ⟨90, 43, 90, 52⟩) 0 ⟨90, 56, 90, 57⟩ ⟨90, 55, 90, 57⟩ ⟨90, 53, 90, 57⟩ ⟨90, 43, 90, 58⟩)) (.cons (.asg (.nm 1 "_law_found" ⟨91, 8, 91, 18⟩) (.tup (.cons (.var 2 "_law_key" ⟨91, 22, 91, 30⟩) (.cons (.var 3 "_law_high" ⟨91, 32, 91, 41⟩) (.cons (.var 4 "_law_front" ⟨91, 43, 91, 53⟩) (.cons (.var 1 "_law_found" ⟨91, 55, 91, 65⟩) .nil)))) 0 ⟨91, 21, 91, 66⟩) ⟨91, 8, 91, 66⟩) .nil) ⟨90, 4, 91, 66⟩) (.cons (.ret (.var 1 "_law_found" ⟨92, 11, 92, 21⟩) ⟨92, 4, 92, 21⟩) .nil)))
def b__law_tree : Ts := (.cons (.asg (.nm 1 "_law_edge" ⟨94, 4, 94, 13⟩) (.lst .nil ⟨94, 16, 94, 18⟩) ⟨94, 4, 94, 18⟩) (.cons (.fr (.tp (.cons (.nm 2 "_law_key" ⟨95, 8, 95, 16⟩) (.cons (.nm 3 "_law_high" ⟨95, 18, 95, 27⟩) .nil)) 0 ⟨95, 8, 95, 27⟩) (.ex (.var 0 "_law_rows" ⟨95, 31, 95, 40⟩)) (.cons (.asg (.nm 4 "_law_below" ⟨96, 8, 96, 18⟩) (.lc (.var 5 "_law_node" ⟨96, 22, 96, 31⟩) (.nm 5 "_law_node" ⟨96, 36, 96, 45⟩) (.ex (.var 1 "_law_edge" ⟨96, 49, 96, 58⟩)) (.some (.cmp .Lt (.ix (.var 5 "_law_node" ⟨96, 62, 96, 71⟩) (.con (.int 1) 0 ⟨96, 72, 96, 73⟩) ⟨96, 62, 96, 74⟩) (.var 3 "_law_high" ⟨96, 77, 96, 86⟩) ⟨96, 62, 96, 86⟩)) [("_law_node", 5)] ⟨.function, [(".0", .local), ("_law_node", .local), ("_law_high", .free)], false, false, []⟩ ⟨96, 21, 96, 87⟩) ⟨96, 8, 96, 87⟩) (.cons (.asg (.nm 1 "_law_edge" ⟨97, 8, 97, 17⟩) (.op .Add (.lc (.var 5 "_law_node" ⟨97, 21, 97, 30⟩) (.nm 5 "_law_node" ⟨97, 35, 97, 44⟩) (.ex (.var 1 "_law_edge" ⟨97, 48, 97, 57⟩)) (.some (.cmp .GtE (.ix (.var 5 "_law_node" ⟨97, 61, 97, 70⟩) (.con (.int 1) 0 ⟨97, 71, 97, 72⟩) ⟨97, 61, 97, 73⟩) (.var 3 "_law_high" ⟨97, 77, 97, 86⟩) ⟨97, 61, 97, 86⟩)) [("_law_node", 5)] ⟨.function, [(".0", .local), ("_law_node", .local), ("_law_high", .free)], false, false, []⟩ ⟨97, 20, 97, 87⟩) (.lst (.cons (.tup (.cons (.var 2 "_law_key" ⟨97, 92, 97, 100⟩) (.cons (.var 3 "_law_high" ⟨97, 102, 97, 111⟩) (.cons (.call "_law_hung" 16 (.cons (.var 4 "_law_below" ⟨97, 123, 97, 133⟩) .nil) ⟨97, 113, 97, 122⟩ ⟨97, 113, 97, 134⟩) .nil))) 0 ⟨97, 91, 97, 135⟩) .nil) ⟨97, 90, 97, 136⟩) ⟨97, 20, 97, 136⟩) ⟨97, 8, 97, 136⟩) .nil)) ⟨95, 4, 97, 136⟩) (.cons (.ret (.call "_law_hung" 16 (.cons (.var 1 "_law_edge" ⟨98, 21, 98, 30⟩) .nil) ⟨98, 11, 98, 20⟩ ⟨98, 11, 98, 31⟩) ⟨98, 4, 98, 31⟩) .nil)))
def b__law_shape : Ts := (.cons (.iff (.cmp .Is (.var 0 "_law_tree_here" ⟨100, 7, 100, 21⟩) (.con .none 0 ⟨100, 25, 100, 29⟩) ⟨100, 7, 100, 29⟩) (.cons (.ret (.con .none 0 ⟨101, 15, 101, 19⟩) ⟨101, 8, 101, 19⟩) .nil) .nil ⟨100, 4, 101, 19⟩) (.cons (.ret (.tup (.cons (.ix (.var 0 "_law_tree_here" ⟨102, 12, 102, 26⟩) (.con (.int 0) 0 ⟨102, 27, 102, 28⟩) ⟨102, 12, 102, 29⟩) (.cons (.call "_law_shape" 18 (.cons (.ix (.var 0 "_law_tree_here" ⟨102, 42, 102, 56⟩) (.con (.int 2) 0 ⟨102, 57, 102, 58⟩) ⟨102, 42, 102, 59⟩) .nil) ⟨102, 31, 102, 41⟩ ⟨102, 31, 102, 60⟩) (.cons (.call "_law_shape" 18 (.cons (.ix (.var 0 "_law_tree_here" ⟨102, 73, 102, 87⟩) (.con (.int 3) 0 ⟨102, 88, 102, 89⟩) ⟨102, 73, 102, 90⟩) .nil) ⟨102, 62, 102, 72⟩ ⟨102, 62, 102, 91⟩) .nil))) 0 ⟨102, 11, 102, 92⟩) ⟨102, 4, 102, 92⟩) .nil))
def b__law_listed : Ts := (.cons (.iff (.cmp .Is (.var 0 "_law_tree_here" ⟨104, 7, 104, 21⟩) (.con .none 0 ⟨104, 25, 104, 29⟩) ⟨104, 7, 104, 29⟩) (.cons (.ret (.con .none 0 ⟨105, 15, 105, 19⟩) ⟨105, 8, 105, 19⟩) .nil) .nil ⟨104, 4, 105, 19⟩) (.cons (.ret (.lst (.cons (.ix (.var 0 "_law_tree_here" ⟨106, 12, 106, 26⟩) (.con (.int 0) 0 ⟨106, 27, 106, 28⟩) ⟨106, 12, 106, 29⟩) (.cons (.ix (.var 0 "_law_tree_here" ⟨106, 31, 106, 45⟩) (.con (.int 1) 0 ⟨106, 46, 106, 47⟩) ⟨106, 31, 106, 48⟩) (.cons (.call "_law_listed" 19 (.cons (.ix (.var 0 "_law_tree_here" ⟨106, 62, 106, 76⟩) (.con (.int 2) 0 ⟨106, 77, 106, 78⟩) ⟨106, 62, 106, 79⟩) .nil) ⟨106, 50, 106, 61⟩ ⟨106, 50, 106, 80⟩) (.cons (.call "_law_listed" 19 (.cons (.ix (.var 0 "_law_tree_here" ⟨106, 94, 106, 108⟩) (.con (.int 3) 0 ⟨106, 109, 106, 110⟩) ⟨106, 94, 106, 111⟩) .nil) ⟨106, 82, 106, 93⟩ ⟨106, 82, 106, 112⟩) .nil)))) ⟨106, 11, 106, 113⟩) ⟨106, 4, 106, 113⟩) .nil))
def b__law_highest : Ts := (.cons (.iff (.cmp .Is (.var 0 "_law_tree_here" ⟨108, 7, 108, 21⟩) (.con .none 0 ⟨108, 25, 108, 29⟩) ⟨108, 7, 108, 29⟩) (.cons (.ret (.con (.int 0) 0 ⟨109, 15, 109, 16⟩) ⟨109, 8, 109, 16⟩) .nil) .nil ⟨108, 4, 109, 16⟩) (.cons (.asg (.tp (.cons (.nm 1 "_law_front" ⟨110, 4, 110, 14⟩) (.cons (.nm 2 "_law_right" ⟨110, 16, 110, 26⟩) .nil)) 0 ⟨110, 4, 110, 26⟩) (.tup (.cons (.call "_law_highest" 20 (.cons (.ix (.var 0 "_law_tree_here" ⟨110, 43, 110, 57⟩) (.con (.int 2) 0 ⟨110, 58, 110, 59⟩) ⟨110, 43, 110, 60⟩) .nil) ⟨110, 30, 110, 42⟩ ⟨110, 30, 110, 61⟩) (.cons (.call "_law_highest" 20 (.cons (.ix (.var 0 "_law_tree_here" ⟨110, 76, 110, 90⟩) (.con (.int 3) 0 ⟨110, 91, 110, 92⟩) ⟨110, 76, 110, 93⟩) .nil) ⟨110, 63, 110, 75⟩ ⟨110, 63, 110, 94⟩) .nil)) 0 ⟨110, 29, 110, 95⟩) ⟨110, 4, 110, 95⟩) (.cons (.iff (.bop .Or (.cons (.cmp .Is (.var 1 "_law_front" ⟨111, 7, 111, 17⟩) (.con .none 0 ⟨111, 21, 111, 25⟩) ⟨111, 7, 111, 25⟩) (.cons (.cmp .Is (.var 2 "_law_right" ⟨111, 29, 111, 39⟩) (.con .none 0 ⟨111, 43, 111, 47⟩) ⟨111, 29, 111, 47⟩) (.cons (.cmp .GtE (.var 1 "_law_front" ⟨111, 51, 111, 61⟩) (.ix (.var 0 "_law_tree_here" ⟨111, 65, 111, 79⟩) (.con (.int 1) 0 ⟨111, 80, 111, 81⟩) ⟨111, 65, 111, 82⟩) ⟨111, 51, 111, 82⟩) (.cons (.cmp .Gt (.var 2 "_law_right" ⟨111, 87, 111, 97⟩) (.ix (.var 0 "_law_tree_here" ⟨111, 100, 111, 114⟩) (.con (.int 1) 0 ⟨111, 115, 111, 116⟩) ⟨111, 100, 111, 117⟩) ⟨111, 87, 111, 117⟩) .nil)))) ⟨111, 7, 111, 118⟩) (.cons (.ret (.con .none 0 ⟨112, 15, 112, 19⟩) ⟨112, 8, 112, 19⟩) .nil) .nil ⟨111, 4, 112, 19⟩) (.cons (.ret (.ix (.var 0 "_law_tree_here" ⟨113, 11, 113, 25⟩) (.con (.int 1) 0 ⟨113, 26, 113, 27⟩) ⟨113, 11, 113, 28⟩) ⟨113, 4, 113, 28⟩) .nil))))
def b__law_is_right : Ts := (.cons (.asg (.nm 1 "_law_due" ⟨115, 4, 115, 12⟩) (.call "_law_tree" 17 (.cons (.var 0 "_law_rows" ⟨115, 25, 115, 34⟩) .nil) ⟨115, 15, 115, 24⟩ ⟨115, 15, 115, 35⟩) ⟨115, 4, 115, 35⟩) (.cons (.asg (.nm 2 "_law_heard" ⟨116, 4, 116, 14⟩) (.call "tree_of" 8 (.cons (.bi .tuple (.cons (.var 0 "_law_rows" ⟨116, 31, 116, 40⟩) .nil) ⟨116, 25, 116, 30⟩ ⟨116, 25, 116, 41⟩) .nil) ⟨116, 17, 116, 24⟩ ⟨116, 17, 116, 42⟩) ⟨116, 4, 116, 42⟩) (.cons (.iff (.bop .Or (.cons (.cmp .NotEq (.var 2 "_law_heard" ⟨117, 7, 117, 17⟩) (.var 1 "_law_due" ⟨117, 21, 117, 29⟩) ⟨117, 7, 117, 29⟩) (.cons (.cmp .NotEq (.call "tree_of" 8 (.cons (.lc (.bi .list (.cons (.var 3 "_law_row" ⟨117, 47, 117, 55⟩) .nil) ⟨117, 42, 117, 46⟩ ⟨117, 42, 117, 56⟩) (.nm 3 "_law_row" ⟨117, 61, 117, 69⟩) (.ex (.var 0 "_law_rows" ⟨117, 73, 117, 82⟩)) .none [("_law_row", 3)] ⟨.function, [(".0", .local), ("_law_row", .local), ("list", .globalImplicit)], false, false, []⟩ ⟨117, 41, 117, 83⟩) .nil) ⟨117, 33, 117, 40⟩ ⟨117, 33, 117, 84⟩) (.var 1 "_law_due" ⟨117, 88, 117, 96⟩) ⟨117, 33, 117, 96⟩) (.cons (.cmp .Is (.call "_law_highest" 20 (.cons (.var 2 "_law_heard" ⟨117, 113, 117, 123⟩) .nil) ⟨117, 100, 117, 112⟩ ⟨117, 100, 117, 124⟩) (.con .none 0 ⟨117, 128, 117, 132⟩) ⟨117, 100, 117, 132⟩) .nil))) ⟨117, 7, 117, 132⟩) (.cons (.ret (.con (.bool false) 0 ⟨118, 15, 118, 20⟩) ⟨118, 8, 118, 20⟩) .nil) .nil ⟨117, 4, 118, 20⟩) (.cons (.iff (.bop .Or (.cons (.cmp .NotEq (.call "towers_of" 10 (.cons (.var 1 "_law_due" ⟨119, 17, 119, 25⟩) .nil) ⟨119, 7, 119, 16⟩ ⟨119, 7, 119, 26⟩) (.bi .tuple (.cons (.var 0 "_law_rows" ⟨119, 36, 119, 45⟩) .nil) ⟨119, 30, 119, 35⟩ ⟨119, 30, 119, 46⟩) ⟨119, 7, 119, 46⟩) (.cons (.cmp .NotEq (.call "towers_of" 10 (.cons (.call "_law_listed" 19 (.cons (.var 1 "_law_due" ⟨119, 72, 119, 80⟩) .nil) ⟨119, 60, 119, 71⟩ ⟨119, 60, 119, 81⟩) .nil) ⟨119, 50, 119, 59⟩ ⟨119, 50, 119, 82⟩) (.bi .tuple (.cons (.var 0 "_law_rows" ⟨119, 92, 119, 101⟩) .nil) ⟨119, 86, 119, 91⟩ ⟨119, 86, 119, 102⟩) ⟨119, 50, 119, 102⟩) .nil)) ⟨119, 7, 119, 102⟩) (.cons (.ret (.con (.bool false) 0 ⟨120, 15, 120, 20⟩) ⟨120, 8, 120, 20⟩) .nil) .nil ⟨119, 4, 120, 20⟩) (.cons (.ret (.bop .And (.cons (.cmp .Eq (.call "shape" 12 (.cons (.var 1 "_law_due" ⟨121, 17, 121, 25⟩) .nil) ⟨121, 11, 121, 16⟩ ⟨121, 11, 121, 26⟩) (.call "_law_shape" 18 (.cons (.var 1 "_law_due" ⟨121, 41, 121, 49⟩) .nil) ⟨121, 30, 121, 40⟩ ⟨121, 30, 121, 50⟩) ⟨121, 11, 121, 50⟩) (.cons (.cmp .Eq (.call "shape" 12 (.cons (.call "_law_listed" 19 (.cons (.var 1 "_law_due" ⟨121, 73, 121, 81⟩) .nil) ⟨121, 61, 121, 72⟩ ⟨121, 61, 121, 82⟩) .nil) ⟨121, 55, 121, 60⟩ ⟨121, 55, 121, 83⟩) (.call "_law_shape" 18 (.cons (.var 1 "_law_due" ⟨121, 98, 121, 106⟩) .nil) ⟨121, 87, 121, 97⟩ ⟨121, 87, 121, 107⟩) ⟨121, 55, 121, 107⟩) .nil)) ⟨121, 11, 121, 107⟩) ⟨121, 4, 121, 107⟩) .nil)))))
def b_law : Ts := (.cons (.asg (.nm 1 "_law_waiting" ⟨123, 4, 123, 16⟩) (.lst (.cons (.tup .nil 0 ⟨123, 20, 123, 22⟩) .nil) ⟨123, 19, 123, 23⟩) ⟨123, 4, 123, 23⟩) (.cons (.fr (.nm 2 "_law_many" ⟨124, 8, 124, 17⟩) (.rng1 (.con (.int 6) 0 ⟨124, 27, 124, 28⟩) ⟨124, 21, 124, 26⟩ ⟨124, 21, 124, 29⟩) (.cons (.fr (.nm 3 "_law_highs" ⟨125, 12, 125, 22⟩) (.ex (.var 1 "_law_waiting" ⟨125, 26, 125, 38⟩)) (.cons (.iff (.not (.call "_law_is_right" 21 (.cons (.lc (.tup (.cons (.op .Sub (.op .Mult (.con (.int 7) 0 ⟨126, 35, 126, 36⟩) (.var 11 "_law_place" ⟨126, 39, 126, 49⟩) ⟨126, 35, 126, 49⟩) (.con (.int 10) 0 ⟨126, 52, 126, 54⟩) ⟨126, 35, 126, 54⟩) (.cons (.var 12 "_law_high" ⟨126, 56, 126, 65⟩) .nil)) 0 ⟨126, 34, 126, 66⟩) (.tp (.cons (.nm 11 "_law_place" ⟨126, 71, 126, 81⟩) (.cons (.nm 12 "_law_high" ⟨126, 83, 126, 92⟩) .nil)) 0 ⟨126, 71, 126, 92⟩) (.enm (.var 3 "_law_highs" ⟨126, 106, 126, 116⟩) ⟨126, 96, 126, 105⟩ ⟨126, 96, 126, 117⟩) .none [("_law_place", 11), ("_law_high", 12)] ⟨.function, [(".0", .local), ("_law_place", .local), ("_law_high", .local)], false, false, []⟩ ⟨126, 33, 126, 118⟩) .nil) ⟨126, 19, 126, 32⟩ ⟨126, 19, 126, 119⟩) ⟨126, 15, 126, 119⟩) (.cons (.ret (.con (.bool false) 0 ⟨127, 23, 127, 28⟩) ⟨127, 16, 127, 28⟩) .nil) .nil ⟨126, 12, 127, 28⟩) .nil) ⟨125, 8, 127, 28⟩) (.cons (.asg (.nm 1 "_law_waiting" ⟨128, 8, 128, 20⟩) (.call "_law_longer" 15 (.cons (.var 1 "_law_waiting" ⟨128, 35, 128, 47⟩) (.cons (.con (.int 3) 0 ⟨128, 49, 128, 50⟩) .nil)) ⟨128, 23, 128, 34⟩ ⟨128, 23, 128, 51⟩) ⟨128, 8, 128, 51⟩) .nil)) ⟨124, 4, 128, 51⟩) (.cons (.asg (.nm 4 "_law_rising" ⟨129, 4, 129, 15⟩) (.lc (.bi .min (.cons (.con (.int 64) 0 ⟨129, 23, 129, 25⟩) (.cons (.op .Add (.var 11 "_law_place" ⟨129, 27, 129, 37⟩) (.con (.int 1) 0 ⟨129, 40, 129, 41⟩) ⟨129, 27, 129, 41⟩) .nil)) ⟨129, 19, 129, 22⟩ ⟨129, 19, 129, 42⟩) (.nm 11 "_law_place" ⟨129, 47, 129, 57⟩) (.rng1 (.con (.int 100) 0 ⟨129, 67, 129, 70⟩) ⟨129, 61, 129, 66⟩ ⟨129, 61, 129, 71⟩) .none [("_law_place", 11)] ⟨.function, [(".0", .local), ("_law_place", .local), ("min", .globalImplicit)], false, false, []⟩ ⟨129, 18, 129, 72⟩) ⟨129, 4, 129, 72⟩) (.cons (.fr (.nm 3 "_law_highs" ⟨130, 8, 130, 18⟩) (.ex (.tup (.cons (.op .Mult (.lst (.cons (.con (.int 1) 0 ⟨130, 24, 130, 25⟩) .nil) ⟨130, 23, 130, 26⟩) (.con (.int 100) 0 ⟨130, 29, 130, 32⟩) ⟨130, 23, 130, 32⟩) (.cons (.var 4 "_law_rising" ⟨130, 34, 130, 45⟩) (.cons (.rev (.var 4 "_law_rising" ⟨130, 47, 130, 58⟩) 0 ⟨130, 62, 130, 63⟩ ⟨130, 61, 130, 63⟩ ⟨130, 59, 130, 63⟩ ⟨130, 47, 130, 64⟩) .nil))) 0 ⟨130, 22, 130, 65⟩)) (.cons (.iff (.not (.call "_law_is_right" 21 (.cons (.lc (.tup (.cons (.op .Mult (.con (.int 3) 0 ⟨131, 31, 131, 32⟩) (.var 11 "_law_place" ⟨131, 35, 131, 45⟩) ⟨131, 31, 131, 45⟩) (.cons (.var 12 "_law_high" ⟨131, 47, 131, 56⟩) .nil)) 0 ⟨131, 30, 131, 57⟩) (.tp (.cons (.nm 11 "_law_place" ⟨131, 62, 131, 72⟩) (.cons (.nm 12 "_law_high" ⟨131, 74, 131, 83⟩) .nil)) 0 ⟨131, 62, 131, 83⟩) (.enm (.var 3 "_law_highs" ⟨131, 97, 131, 107⟩) ⟨131, 87, 131, 96⟩ ⟨131, 87, 131, 108⟩) .none [("_law_place", 11), ("_law_high", 12)] ⟨.function, [(".0", .local), ("_law_place", .local), ("_law_high", .local)], false, false, []⟩ ⟨131, 29, 131, 109⟩) .nil) ⟨131, 15, 131, 28⟩ ⟨131, 15, 131, 110⟩) ⟨131, 11, 131, 110⟩) (.cons (.ret (.con (.bool false) 0 ⟨132, 19, 132, 24⟩) ⟨132, 12, 132, 24⟩) .nil) .nil ⟨131, 8, 132, 24⟩) .nil) ⟨130, 4, 132, 24⟩) (.cons (.fr (.nm 5 "_law_cell" ⟨133, 8, 133, 17⟩) (.ex (.sl (.op .Add (.var 0 "_law_script" ⟨133, 22, 133, 33⟩) (.lst (.cons (.con (.int 0) 0 ⟨133, 37, 133, 38⟩) .nil) ⟨133, 36, 133, 39⟩) ⟨133, 22, 133, 39⟩) .none (.some (.con (.int 5) 0 ⟨133, 42, 133, 43⟩)) ⟨133, 41, 133, 43⟩ ⟨133, 21, 133, 44⟩)) (.cons (.asg (.nm 6 "_law_source_here" ⟨134, 8, 134, 24⟩) (.call "_law_source" 13 (.cons (.var 5 "_law_cell" ⟨134, 39, 134, 48⟩) .nil) ⟨134, 27, 134, 38⟩ ⟨134, 27, 134, 49⟩) ⟨134, 8, 134, 49⟩) (.cons (.asg (.tp (.cons (.nm 7 "_law_utmost" ⟨135, 8, 135, 19⟩) (.cons (.nm 8 "_law_start" ⟨135, 21, 135, 31⟩) .nil)) 0 ⟨135, 8, 135, 31⟩) (.tup (.cons (.ix (.lst (.cons (.con (.int 1) 0 ⟨135, 36, 135, 37⟩) (.cons (.con (.int 2) 0 ⟨135, 39, 135, 40⟩) (.cons (.con (.int 4) 0 ⟨135, 42, 135, 43⟩) (.cons (.con (.int 9) 0 ⟨135, 45, 135, 46⟩) (.cons (.con (.int 64) 0 ⟨135, 48, 135, 50⟩) .nil))))) ⟨135, 35, 135, 51⟩) (.call "_law_next" 14 (.cons (.var 6 "_law_source_here" ⟨135, 62, 135, 78⟩) (.cons (.con (.int 5) 0 ⟨135, 80, 135, 81⟩) .nil)) ⟨135, 52, 135, 61⟩ ⟨135, 52, 135, 82⟩) ⟨135, 35, 135, 83⟩) (.cons (.op .Sub (.call "_law_next" 14 (.cons (.var 6 "_law_source_here" ⟨135, 95, 135, 111⟩) (.cons (.op .Pow (.con (.int 10) 0 ⟨135, 113, 135, 115⟩) (.con (.int 29) 0 ⟨135, 119, 135, 121⟩) ⟨135, 113, 135, 121⟩) .nil)) ⟨135, 85, 135, 94⟩ ⟨135, 85, 135, 122⟩) (.op .Pow (.con (.int 10) 0 ⟨135, 125, 135, 127⟩) (.con (.int 28) 0 ⟨135, 131, 135, 133⟩) ⟨135, 125, 135, 133⟩) ⟨135, 85, 135, 133⟩) .nil)) 0 ⟨135, 34, 135, 134⟩) ⟨135, 8, 135, 134⟩) (.cons (.asg (.nm 9 "_law_rows" ⟨136, 8, 136, 17⟩) (.lst .nil ⟨136, 20, 136, 22⟩) ⟨136, 8, 136, 22⟩) (.cons (.fr (.nm 10 "_law_turn" ⟨137, 12, 137, 21⟩) (.rng1 (.call "_law_next" 14 (.cons (.var 6 "_law_source_here" ⟨137, 41, 137, 57⟩) (.cons (.con (.int 61) 0 ⟨137, 59, 137, 61⟩) .nil)) ⟨137, 31, 137, 40⟩ ⟨137, 31, 137, 62⟩) ⟨137, 25, 137, 30⟩ ⟨137, 25, 137, 63⟩) (.cons (.asg (.nm 8 "_law_start" ⟨138, 12, 138, 22⟩) (.op .Add (.op .Add (.var 8 "_law_start" ⟨138, 25, 138, 35⟩) (.con (.int 1) 0 ⟨138, 38, 138, 39⟩) ⟨138, 25, 138, 39⟩) (.call "_law_next" 14 (.cons (.var 6 "_law_source_here" ⟨138, 52, 138, 68⟩) (.cons (.con (.int 3) 0 ⟨138, 70, 138, 71⟩) .nil)) ⟨138, 42, 138, 51⟩ ⟨138, 42, 138, 72⟩) ⟨138, 25, 138, 72⟩) ⟨138, 12, 138, 72⟩) (.cons (.ex (.mt (.var 9 "_law_rows" ⟨139, 12, 139, 21⟩) .append (.cons (.tup (.cons (.var 8 "_law_start" ⟨139, 30, 139, 40⟩) (.cons (.op .Add (.con (.int 1) 0 ⟨139, 42, 139, 43⟩) (.call "_law_next" 14 (.cons (.var 6 "_law_source_here" ⟨139, 56, 139, 72⟩) (.cons (.var 7 "_law_utmost" ⟨139, 74, 139, 85⟩) .nil)) ⟨139, 46, 139, 55⟩ ⟨139, 46, 139, 86⟩) ⟨139, 42, 139, 86⟩) .nil)) 0 ⟨139, 29, 139, 87⟩) .nil) ⟨139, 12, 139, 28⟩ ⟨139, 12, 139, 88⟩) ⟨139, 12, 139, 88⟩) .nil)) ⟨137, 8, 139, 88⟩) (.cons (.iff (.not (.call "_law_is_right" 21 (.cons (.var 9 "_law_rows" ⟨140, 29, 140, 38⟩) .nil) ⟨140, 15, 140, 28⟩ ⟨140, 15, 140, 39⟩) ⟨140, 11, 140, 39⟩) (.cons (.ret (.con (.bool false) 0 ⟨141, 19, 141, 24⟩) ⟨141, 12, 141, 24⟩) .nil) .nil ⟨140, 8, 141, 24⟩) .nil))))) ⟨133, 4, 141, 24⟩) (.cons (.ret (.con (.bool true) 0 ⟨142, 11, 142, 15⟩) ⟨142, 4, 142, 15⟩) .nil))))))
def d_is_integer : Def := ⟨"is_integer", ["value"], [], ["value"], defScope (top 5), b_is_integer, []⟩
def h_is_integer : He.DefD := ⟨("is_integer", none), "is_integer", "is_integer", defArgs (top 5), defBody (top 5), defScope (top 5), [], []⟩
def d_is_row : Def := ⟨"is_row", ["value"], [], ["value"], defScope (top 6), b_is_row, []⟩
def h_is_row : He.DefD := ⟨("is_row", none), "is_row", "is_row", defArgs (top 6), defBody (top 6), defScope (top 6), [], []⟩
def d_is_pair : Def := ⟨"is_pair", ["value"], [], ["value"], defScope (top 7), b_is_pair, []⟩
def h_is_pair : He.DefD := ⟨("is_pair", none), "is_pair", "is_pair", defArgs (top 7), defBody (top 7), defScope (top 7), [], []⟩
def d_wrong_at : Def := ⟨"wrong_at", ["thing"], [], ["thing", "index", "one"], defScope (top 8), b_wrong_at, []⟩
def h_wrong_at : He.DefD := ⟨("wrong_at", none), "wrong_at", "wrong_at", defArgs (top 8), defBody (top 8), defScope (top 8), [], []⟩
def d_checked : Def := ⟨"checked", ["towers"], [], ["towers", "index", "key", "height"], defScope (top 9), b_checked, []⟩
def h_checked : He.DefD := ⟨("checked", none), "checked", "checked", defArgs (top 9), defBody (top 9), defScope (top 9), [], []⟩
def d_is_between : Def := ⟨"is_between", ["key", "low", "high"], [], ["key", "low", "high"], defScope (top 11), b_is_between, []⟩
def h_is_between : He.DefD := ⟨("is_between", none), "is_between", "is_between", defArgs (top 11), defBody (top 11), defScope (top 11), [], []⟩
def d_look_tree : Def := ⟨"look_tree", ["tree"], [], ["tree", "waiting", "node", "low", "high", "most", "key", "height", "left", "right"], defScope (top 12), b_look_tree, []⟩
def h_look_tree : He.DefD := ⟨("look_tree", none), "look_tree", "look_tree", defArgs (top 12), defBody (top 12), defScope (top 12), [], []⟩
def d_grown : Def := ⟨"grown", ["known"], [], ["known", "place", "key", "height", "index", "one", "high"], defScope (top 13), b_grown, []⟩
def h_grown : He.DefD := ⟨("grown", none), "grown", "grown", defArgs (top 13), defBody (top 13), defScope (top 13), [], []⟩
def d_tree_of : Def := ⟨"tree_of", ["towers"], [], ["towers"], defScope (top 14), b_tree_of, []⟩
def h_tree_of : He.DefD := ⟨("tree_of", none), "tree_of", "tree_of", defArgs (top 14), defBody (top 14), defScope (top 14), [], []⟩
def d_listed : Def := ⟨"listed", ["tree"], [], ["tree"], defScope (top 15), b_listed, []⟩
def h_listed : He.DefD := ⟨("listed", none), "listed", "listed", defArgs (top 15), defBody (top 15), defScope (top 15), [], []⟩
def d_towers_of : Def := ⟨"towers_of", ["tree"], [], ["tree"], defScope (top 16), b_towers_of, []⟩
def h_towers_of : He.DefD := ⟨("towers_of", none), "towers_of", "towers_of", defArgs (top 16), defBody (top 16), defScope (top 16), [], []⟩
def d_shaped : Def := ⟨"shaped", ["tree"], [], ["tree"], defScope (top 17), b_shaped, []⟩
def h_shaped : He.DefD := ⟨("shaped", none), "shaped", "shaped", defArgs (top 17), defBody (top 17), defScope (top 17), [], []⟩
def d_shape : Def := ⟨"shape", ["tree"], [], ["tree"], defScope (top 18), b_shape, []⟩
def h_shape : He.DefD := ⟨("shape", none), "shape", "shape", defArgs (top 18), defBody (top 18), defScope (top 18), [], []⟩
def d__law_source : Def := ⟨"_law_source", ["_law_cell"], [], ["_law_cell"], defScope (top 20), b__law_source, []⟩
def h__law_source : He.DefD := ⟨("_law_source", none), "_law_source", "_law_source", defArgs (top 20), defBody (top 20), defScope (top 20), [], []⟩
def d__law_next : Def := ⟨"_law_next", ["_law_source_here", "_law_many"], [], ["_law_source_here", "_law_many", "_law_found", "_law_number"], defScope (top 21), b__law_next, []⟩
def h__law_next : He.DefD := ⟨("_law_next", none), "_law_next", "_law_next", defArgs (top 21), defBody (top 21), defScope (top 21), [], []⟩
def d__law_longer : Def := ⟨"_law_longer", ["_law_rows", "_law_cap"], [], ["_law_rows", "_law_cap", "_law_found", "_law_row", "_law_high"], defScope (top 22), b__law_longer, []⟩
def h__law_longer : He.DefD := ⟨("_law_longer", none), "_law_longer", "_law_longer", defArgs (top 22), defBody (top 22), defScope (top 22), [], []⟩
def d__law_hung : Def := ⟨"_law_hung", ["_law_edge"], [], ["_law_edge", "_law_found", "_law_key", "_law_high", "_law_front"], defScope (top 23), b__law_hung, []⟩
def h__law_hung : He.DefD := ⟨("_law_hung", none), "_law_hung", "_law_hung", defArgs (top 23), defBody (top 23), defScope (top 23), [], []⟩
def d__law_tree : Def := ⟨"_law_tree", ["_law_rows"], [], ["_law_rows", "_law_edge", "_law_key", "_law_high", "_law_below", "_law_node"], defScope (top 24), b__law_tree, []⟩
def h__law_tree : He.DefD := ⟨("_law_tree", none), "_law_tree", "_law_tree", defArgs (top 24), defBody (top 24), defScope (top 24), [], []⟩
def d__law_shape : Def := ⟨"_law_shape", ["_law_tree_here"], [], ["_law_tree_here"], defScope (top 25), b__law_shape, []⟩
def h__law_shape : He.DefD := ⟨("_law_shape", none), "_law_shape", "_law_shape", defArgs (top 25), defBody (top 25), defScope (top 25), [], []⟩
def d__law_listed : Def := ⟨"_law_listed", ["_law_tree_here"], [], ["_law_tree_here"], defScope (top 26), b__law_listed, []⟩
def h__law_listed : He.DefD := ⟨("_law_listed", none), "_law_listed", "_law_listed", defArgs (top 26), defBody (top 26), defScope (top 26), [], []⟩
def d__law_highest : Def := ⟨"_law_highest", ["_law_tree_here"], [], ["_law_tree_here", "_law_front", "_law_right"], defScope (top 27), b__law_highest, []⟩
def h__law_highest : He.DefD := ⟨("_law_highest", none), "_law_highest", "_law_highest", defArgs (top 27), defBody (top 27), defScope (top 27), [], []⟩
def d__law_is_right : Def := ⟨"_law_is_right", ["_law_rows"], [], ["_law_rows", "_law_due", "_law_heard", "_law_row"], defScope (top 28), b__law_is_right, []⟩
def h__law_is_right : He.DefD := ⟨("_law_is_right", none), "_law_is_right", "_law_is_right", defArgs (top 28), defBody (top 28), defScope (top 28), [], []⟩
def d_law : Def := ⟨"law", ["_law_script"], [], ["_law_script", "_law_waiting", "_law_many", "_law_highs", "_law_rising", "_law_cell", "_law_source_here", "_law_utmost", "_law_start", "_law_rows", "_law_turn", "_law_place", "_law_high"], defScope (top 29), b_law, []⟩
def h_law : He.DefD := ⟨("law", none), "law", "law", defArgs (top 29), defBody (top 29), defScope (top 29), [], []⟩
def defs : List Def := [d_is_integer, d_is_row, d_is_pair, d_wrong_at, d_checked, d_is_between, d_look_tree, d_grown, d_tree_of, d_listed, d_towers_of, d_shaped, d_shape, d__law_source, d__law_next, d__law_longer, d__law_hung, d__law_tree, d__law_shape, d__law_listed, d__law_highest, d__law_is_right, d_law]
def fn : List He.DefD := [h_is_integer, h_is_row, h_is_pair, h_wrong_at, h_checked, h_is_between, h_look_tree, h_grown, h_tree_of, h_listed, h_towers_of, h_shaped, h_shape, h__law_source, h__law_next, h__law_longer, h__law_hung, h__law_tree, h__law_shape, h__law_listed, h__law_highest, h__law_is_right, h_law]
def gl : List (Str × Int) := []
def tp : List (Str × List D) := []
def fa : List He.Fa := [.glo "is_integer", .glo "is_row", .glo "is_pair", .glo "wrong_at", .glo "checked", .glo "is_between", .glo "look_tree", .glo "grown", .glo "tree_of", .glo "listed", .glo "towers_of", .glo "shaped", .glo "shape", .glo "_law_source", .glo "_law_next", .glo "_law_longer", .glo "_law_hung", .glo "_law_tree", .glo "_law_shape", .glo "_law_listed", .glo "_law_highest", .glo "_law_is_right", .glo "law"] ++ bltNames.map .free
def loose : List Str := (["LaneError", "NoTowers", "NoTree", "is_integer", "is_row", "is_pair", "wrong_at", "checked", "is_between", "look_tree", "grown", "tree_of", "listed", "towers_of", "shaped", "shape", "_law_source", "_law_next", "_law_longer", "_law_hung", "_law_tree", "_law_shape", "_law_listed", "_law_highest", "_law_is_right"] : List Str)
def lawAt : Nat := 29
section
variable {K : PySem.W.Frag} {h : Heap} {mg : Str → Option Value}
theorem s_is_integer : FnScope d_is_integer.N d_is_integer.ps d_is_integer.sc := ⟨rfl, rfl, rfl, by decide +kernel, rfl, by decide +kernel, by decide +kernel⟩
theorem ok_is_integer (X : K.In h) (G : h.Ns mainGlobals mg) (c : He.SaysD fa fn K) : DefOk K mg d_is_integer := by
  obtain ⟨fd, F⟩ := c.def_ 0 (d := h_is_integer) rfl
  have g := He.glo_ok X G (c.fact 0 (f := .glo "is_integer") rfl)
  refine ⟨_, _, fd, _, _, g, F, s_is_integer, fun H ρ => rfl, fun m h1 h2 => ?_, (fun m ks pm h => nomatch h), rfl⟩
  · exact ⟨[], vals_drop0, F.bindsN fun _ _ _ _ _ _ us hl => match us, hl with | [_], _ => rfl⟩
theorem s_is_row : FnScope d_is_row.N d_is_row.ps d_is_row.sc := ⟨rfl, rfl, rfl, by decide +kernel, rfl, by decide +kernel, by decide +kernel⟩
theorem ok_is_row (X : K.In h) (G : h.Ns mainGlobals mg) (c : He.SaysD fa fn K) : DefOk K mg d_is_row := by
  obtain ⟨fd, F⟩ := c.def_ 1 (d := h_is_row) rfl
  have g := He.glo_ok X G (c.fact 1 (f := .glo "is_row") rfl)
  refine ⟨_, _, fd, _, _, g, F, s_is_row, fun H ρ => rfl, fun m h1 h2 => ?_, (fun m ks pm h => nomatch h), rfl⟩
  · exact ⟨[], vals_drop0, F.bindsN fun _ _ _ _ _ _ us hl => match us, hl with | [_], _ => rfl⟩
theorem s_is_pair : FnScope d_is_pair.N d_is_pair.ps d_is_pair.sc := ⟨rfl, rfl, rfl, by decide +kernel, rfl, by decide +kernel, by decide +kernel⟩
theorem ok_is_pair (X : K.In h) (G : h.Ns mainGlobals mg) (c : He.SaysD fa fn K) : DefOk K mg d_is_pair := by
  obtain ⟨fd, F⟩ := c.def_ 2 (d := h_is_pair) rfl
  have g := He.glo_ok X G (c.fact 2 (f := .glo "is_pair") rfl)
  refine ⟨_, _, fd, _, _, g, F, s_is_pair, fun H ρ => rfl, fun m h1 h2 => ?_, (fun m ks pm h => nomatch h), rfl⟩
  · exact ⟨[], vals_drop0, F.bindsN fun _ _ _ _ _ _ us hl => match us, hl with | [_], _ => rfl⟩
theorem s_wrong_at : FnScope d_wrong_at.N d_wrong_at.ps d_wrong_at.sc := ⟨rfl, rfl, rfl, by decide +kernel, rfl, by decide +kernel, by decide +kernel⟩
theorem ok_wrong_at (X : K.In h) (G : h.Ns mainGlobals mg) (c : He.SaysD fa fn K) : DefOk K mg d_wrong_at := by
  obtain ⟨fd, F⟩ := c.def_ 3 (d := h_wrong_at) rfl
  have g := He.glo_ok X G (c.fact 3 (f := .glo "wrong_at") rfl)
  refine ⟨_, _, fd, _, _, g, F, s_wrong_at, fun H ρ => rfl, fun m h1 h2 => ?_, (fun m ks pm h => nomatch h), rfl⟩
  · exact ⟨[], vals_drop0, F.bindsN fun _ _ _ _ _ _ us hl => match us, hl with | [_], _ => rfl⟩
theorem s_checked : FnScope d_checked.N d_checked.ps d_checked.sc := ⟨rfl, rfl, rfl, by decide +kernel, rfl, by decide +kernel, by decide +kernel⟩
theorem ok_checked (X : K.In h) (G : h.Ns mainGlobals mg) (c : He.SaysD fa fn K) : DefOk K mg d_checked := by
  obtain ⟨fd, F⟩ := c.def_ 4 (d := h_checked) rfl
  have g := He.glo_ok X G (c.fact 4 (f := .glo "checked") rfl)
  refine ⟨_, _, fd, _, _, g, F, s_checked, fun H ρ => rfl, fun m h1 h2 => ?_, (fun m ks pm h => nomatch h), rfl⟩
  · exact ⟨[], vals_drop0, F.bindsN fun _ _ _ _ _ _ us hl => match us, hl with | [_], _ => rfl⟩
theorem s_is_between : FnScope d_is_between.N d_is_between.ps d_is_between.sc := ⟨rfl, rfl, rfl, by decide +kernel, rfl, by decide +kernel, by decide +kernel⟩
theorem ok_is_between (X : K.In h) (G : h.Ns mainGlobals mg) (c : He.SaysD fa fn K) : DefOk K mg d_is_between := by
  obtain ⟨fd, F⟩ := c.def_ 5 (d := h_is_between) rfl
  have g := He.glo_ok X G (c.fact 5 (f := .glo "is_between") rfl)
  refine ⟨_, _, fd, _, _, g, F, s_is_between, fun H ρ => rfl, fun m h1 h2 => ?_, (fun m ks pm h => nomatch h), rfl⟩
  · exact ⟨[], vals_drop0, F.bindsN fun _ _ _ _ _ _ us hl => match us, hl with | [_, _, _], _ => rfl⟩
theorem s_look_tree : FnScope d_look_tree.N d_look_tree.ps d_look_tree.sc := ⟨rfl, rfl, rfl, by decide +kernel, rfl, by decide +kernel, by decide +kernel⟩
theorem ok_look_tree (X : K.In h) (G : h.Ns mainGlobals mg) (c : He.SaysD fa fn K) : DefOk K mg d_look_tree := by
  obtain ⟨fd, F⟩ := c.def_ 6 (d := h_look_tree) rfl
  have g := He.glo_ok X G (c.fact 6 (f := .glo "look_tree") rfl)
  refine ⟨_, _, fd, _, _, g, F, s_look_tree, fun H ρ => rfl, fun m h1 h2 => ?_, (fun m ks pm h => nomatch h), rfl⟩
  · exact ⟨[], vals_drop0, F.bindsN fun _ _ _ _ _ _ us hl => match us, hl with | [_], _ => rfl⟩
theorem s_grown : FnScope d_grown.N d_grown.ps d_grown.sc := ⟨rfl, rfl, rfl, by decide +kernel, rfl, by decide +kernel, by decide +kernel⟩
theorem ok_grown (X : K.In h) (G : h.Ns mainGlobals mg) (c : He.SaysD fa fn K) : DefOk K mg d_grown := by
  obtain ⟨fd, F⟩ := c.def_ 7 (d := h_grown) rfl
  have g := He.glo_ok X G (c.fact 7 (f := .glo "grown") rfl)
  refine ⟨_, _, fd, _, _, g, F, s_grown, fun H ρ => rfl, fun m h1 h2 => ?_, (fun m ks pm h => nomatch h), rfl⟩
  · exact ⟨[], vals_drop0, F.bindsN fun _ _ _ _ _ _ us hl => match us, hl with | [_], _ => rfl⟩
theorem s_tree_of : FnScope d_tree_of.N d_tree_of.ps d_tree_of.sc := ⟨rfl, rfl, rfl, by decide +kernel, rfl, by decide +kernel, by decide +kernel⟩
theorem ok_tree_of (X : K.In h) (G : h.Ns mainGlobals mg) (c : He.SaysD fa fn K) : DefOk K mg d_tree_of := by
  obtain ⟨fd, F⟩ := c.def_ 8 (d := h_tree_of) rfl
  have g := He.glo_ok X G (c.fact 8 (f := .glo "tree_of") rfl)
  refine ⟨_, _, fd, _, _, g, F, s_tree_of, fun H ρ => rfl, fun m h1 h2 => ?_, (fun m ks pm h => nomatch h), rfl⟩
  · exact ⟨[], vals_drop0, F.bindsN fun _ _ _ _ _ _ us hl => match us, hl with | [_], _ => rfl⟩
theorem s_listed : FnScope d_listed.N d_listed.ps d_listed.sc := ⟨rfl, rfl, rfl, by decide +kernel, rfl, by decide +kernel, by decide +kernel⟩
theorem ok_listed (X : K.In h) (G : h.Ns mainGlobals mg) (c : He.SaysD fa fn K) : DefOk K mg d_listed := by
  obtain ⟨fd, F⟩ := c.def_ 9 (d := h_listed) rfl
  have g := He.glo_ok X G (c.fact 9 (f := .glo "listed") rfl)
  refine ⟨_, _, fd, _, _, g, F, s_listed, fun H ρ => rfl, fun m h1 h2 => ?_, (fun m ks pm h => nomatch h), rfl⟩
  · exact ⟨[], vals_drop0, F.bindsN fun _ _ _ _ _ _ us hl => match us, hl with | [_], _ => rfl⟩
theorem s_towers_of : FnScope d_towers_of.N d_towers_of.ps d_towers_of.sc := ⟨rfl, rfl, rfl, by decide +kernel, rfl, by decide +kernel, by decide +kernel⟩
theorem ok_towers_of (X : K.In h) (G : h.Ns mainGlobals mg) (c : He.SaysD fa fn K) : DefOk K mg d_towers_of := by
  obtain ⟨fd, F⟩ := c.def_ 10 (d := h_towers_of) rfl
  have g := He.glo_ok X G (c.fact 10 (f := .glo "towers_of") rfl)
  refine ⟨_, _, fd, _, _, g, F, s_towers_of, fun H ρ => rfl, fun m h1 h2 => ?_, (fun m ks pm h => nomatch h), rfl⟩
  · exact ⟨[], vals_drop0, F.bindsN fun _ _ _ _ _ _ us hl => match us, hl with | [_], _ => rfl⟩
theorem s_shaped : FnScope d_shaped.N d_shaped.ps d_shaped.sc := ⟨rfl, rfl, rfl, by decide +kernel, rfl, by decide +kernel, by decide +kernel⟩
theorem ok_shaped (X : K.In h) (G : h.Ns mainGlobals mg) (c : He.SaysD fa fn K) : DefOk K mg d_shaped := by
  obtain ⟨fd, F⟩ := c.def_ 11 (d := h_shaped) rfl
  have g := He.glo_ok X G (c.fact 11 (f := .glo "shaped") rfl)
  refine ⟨_, _, fd, _, _, g, F, s_shaped, fun H ρ => rfl, fun m h1 h2 => ?_, (fun m ks pm h => nomatch h), rfl⟩
  · exact ⟨[], vals_drop0, F.bindsN fun _ _ _ _ _ _ us hl => match us, hl with | [_], _ => rfl⟩
theorem s_shape : FnScope d_shape.N d_shape.ps d_shape.sc := ⟨rfl, rfl, rfl, by decide +kernel, rfl, by decide +kernel, by decide +kernel⟩
theorem ok_shape (X : K.In h) (G : h.Ns mainGlobals mg) (c : He.SaysD fa fn K) : DefOk K mg d_shape := by
  obtain ⟨fd, F⟩ := c.def_ 12 (d := h_shape) rfl
  have g := He.glo_ok X G (c.fact 12 (f := .glo "shape") rfl)
  refine ⟨_, _, fd, _, _, g, F, s_shape, fun H ρ => rfl, fun m h1 h2 => ?_, (fun m ks pm h => nomatch h), rfl⟩
  · exact ⟨[], vals_drop0, F.bindsN fun _ _ _ _ _ _ us hl => match us, hl with | [_], _ => rfl⟩
theorem s__law_source : FnScope d__law_source.N d__law_source.ps d__law_source.sc := ⟨rfl, rfl, rfl, by decide +kernel, rfl, by decide +kernel, by decide +kernel⟩
theorem ok__law_source (X : K.In h) (G : h.Ns mainGlobals mg) (c : He.SaysD fa fn K) : DefOk K mg d__law_source := by
  obtain ⟨fd, F⟩ := c.def_ 13 (d := h__law_source) rfl
  have g := He.glo_ok X G (c.fact 13 (f := .glo "_law_source") rfl)
  refine ⟨_, _, fd, _, _, g, F, s__law_source, fun H ρ => rfl, fun m h1 h2 => ?_, (fun m ks pm h => nomatch h), rfl⟩
  · exact ⟨[], vals_drop0, F.bindsN fun _ _ _ _ _ _ us hl => match us, hl with | [_], _ => rfl⟩
theorem s__law_next : FnScope d__law_next.N d__law_next.ps d__law_next.sc := ⟨rfl, rfl, rfl, by decide +kernel, rfl, by decide +kernel, by decide +kernel⟩
theorem ok__law_next (X : K.In h) (G : h.Ns mainGlobals mg) (c : He.SaysD fa fn K) : DefOk K mg d__law_next := by
  obtain ⟨fd, F⟩ := c.def_ 14 (d := h__law_next) rfl
  have g := He.glo_ok X G (c.fact 14 (f := .glo "_law_next") rfl)
  refine ⟨_, _, fd, _, _, g, F, s__law_next, fun H ρ => rfl, fun m h1 h2 => ?_, (fun m ks pm h => nomatch h), rfl⟩
  · exact ⟨[], vals_drop0, F.bindsN fun _ _ _ _ _ _ us hl => match us, hl with | [_, _], _ => rfl⟩
theorem s__law_longer : FnScope d__law_longer.N d__law_longer.ps d__law_longer.sc := ⟨rfl, rfl, rfl, by decide +kernel, rfl, by decide +kernel, by decide +kernel⟩
theorem ok__law_longer (X : K.In h) (G : h.Ns mainGlobals mg) (c : He.SaysD fa fn K) : DefOk K mg d__law_longer := by
  obtain ⟨fd, F⟩ := c.def_ 15 (d := h__law_longer) rfl
  have g := He.glo_ok X G (c.fact 15 (f := .glo "_law_longer") rfl)
  refine ⟨_, _, fd, _, _, g, F, s__law_longer, fun H ρ => rfl, fun m h1 h2 => ?_, (fun m ks pm h => nomatch h), rfl⟩
  · exact ⟨[], vals_drop0, F.bindsN fun _ _ _ _ _ _ us hl => match us, hl with | [_, _], _ => rfl⟩
theorem s__law_hung : FnScope d__law_hung.N d__law_hung.ps d__law_hung.sc := ⟨rfl, rfl, rfl, by decide +kernel, rfl, by decide +kernel, by decide +kernel⟩
theorem ok__law_hung (X : K.In h) (G : h.Ns mainGlobals mg) (c : He.SaysD fa fn K) : DefOk K mg d__law_hung := by
  obtain ⟨fd, F⟩ := c.def_ 16 (d := h__law_hung) rfl
  have g := He.glo_ok X G (c.fact 16 (f := .glo "_law_hung") rfl)
  refine ⟨_, _, fd, _, _, g, F, s__law_hung, fun H ρ => rfl, fun m h1 h2 => ?_, (fun m ks pm h => nomatch h), rfl⟩
  · exact ⟨[], vals_drop0, F.bindsN fun _ _ _ _ _ _ us hl => match us, hl with | [_], _ => rfl⟩
theorem s__law_tree : FnScope d__law_tree.N d__law_tree.ps d__law_tree.sc := ⟨rfl, rfl, rfl, by decide +kernel, rfl, by decide +kernel, by decide +kernel⟩
theorem ok__law_tree (X : K.In h) (G : h.Ns mainGlobals mg) (c : He.SaysD fa fn K) : DefOk K mg d__law_tree := by
  obtain ⟨fd, F⟩ := c.def_ 17 (d := h__law_tree) rfl
  have g := He.glo_ok X G (c.fact 17 (f := .glo "_law_tree") rfl)
  refine ⟨_, _, fd, _, _, g, F, s__law_tree, fun H ρ => rfl, fun m h1 h2 => ?_, (fun m ks pm h => nomatch h), rfl⟩
  · exact ⟨[], vals_drop0, F.bindsN fun _ _ _ _ _ _ us hl => match us, hl with | [_], _ => rfl⟩
theorem s__law_shape : FnScope d__law_shape.N d__law_shape.ps d__law_shape.sc := ⟨rfl, rfl, rfl, by decide +kernel, rfl, by decide +kernel, by decide +kernel⟩
theorem ok__law_shape (X : K.In h) (G : h.Ns mainGlobals mg) (c : He.SaysD fa fn K) : DefOk K mg d__law_shape := by
  obtain ⟨fd, F⟩ := c.def_ 18 (d := h__law_shape) rfl
  have g := He.glo_ok X G (c.fact 18 (f := .glo "_law_shape") rfl)
  refine ⟨_, _, fd, _, _, g, F, s__law_shape, fun H ρ => rfl, fun m h1 h2 => ?_, (fun m ks pm h => nomatch h), rfl⟩
  · exact ⟨[], vals_drop0, F.bindsN fun _ _ _ _ _ _ us hl => match us, hl with | [_], _ => rfl⟩
theorem s__law_listed : FnScope d__law_listed.N d__law_listed.ps d__law_listed.sc := ⟨rfl, rfl, rfl, by decide +kernel, rfl, by decide +kernel, by decide +kernel⟩
theorem ok__law_listed (X : K.In h) (G : h.Ns mainGlobals mg) (c : He.SaysD fa fn K) : DefOk K mg d__law_listed := by
  obtain ⟨fd, F⟩ := c.def_ 19 (d := h__law_listed) rfl
  have g := He.glo_ok X G (c.fact 19 (f := .glo "_law_listed") rfl)
  refine ⟨_, _, fd, _, _, g, F, s__law_listed, fun H ρ => rfl, fun m h1 h2 => ?_, (fun m ks pm h => nomatch h), rfl⟩
  · exact ⟨[], vals_drop0, F.bindsN fun _ _ _ _ _ _ us hl => match us, hl with | [_], _ => rfl⟩
theorem s__law_highest : FnScope d__law_highest.N d__law_highest.ps d__law_highest.sc := ⟨rfl, rfl, rfl, by decide +kernel, rfl, by decide +kernel, by decide +kernel⟩
theorem ok__law_highest (X : K.In h) (G : h.Ns mainGlobals mg) (c : He.SaysD fa fn K) : DefOk K mg d__law_highest := by
  obtain ⟨fd, F⟩ := c.def_ 20 (d := h__law_highest) rfl
  have g := He.glo_ok X G (c.fact 20 (f := .glo "_law_highest") rfl)
  refine ⟨_, _, fd, _, _, g, F, s__law_highest, fun H ρ => rfl, fun m h1 h2 => ?_, (fun m ks pm h => nomatch h), rfl⟩
  · exact ⟨[], vals_drop0, F.bindsN fun _ _ _ _ _ _ us hl => match us, hl with | [_], _ => rfl⟩
theorem s__law_is_right : FnScope d__law_is_right.N d__law_is_right.ps d__law_is_right.sc := ⟨rfl, rfl, rfl, by decide +kernel, rfl, by decide +kernel, by decide +kernel⟩
theorem ok__law_is_right (X : K.In h) (G : h.Ns mainGlobals mg) (c : He.SaysD fa fn K) : DefOk K mg d__law_is_right := by
  obtain ⟨fd, F⟩ := c.def_ 21 (d := h__law_is_right) rfl
  have g := He.glo_ok X G (c.fact 21 (f := .glo "_law_is_right") rfl)
  refine ⟨_, _, fd, _, _, g, F, s__law_is_right, fun H ρ => rfl, fun m h1 h2 => ?_, (fun m ks pm h => nomatch h), rfl⟩
  · exact ⟨[], vals_drop0, F.bindsN fun _ _ _ _ _ _ us hl => match us, hl with | [_], _ => rfl⟩
theorem s_law : FnScope d_law.N d_law.ps d_law.sc := ⟨rfl, rfl, rfl, by decide +kernel, rfl, by decide +kernel, by decide +kernel⟩
theorem ok_law (X : K.In h) (G : h.Ns mainGlobals mg) (c : He.SaysD fa fn K) : DefOk K mg d_law := by
  obtain ⟨fd, F⟩ := c.def_ 22 (d := h_law) rfl
  have g := He.glo_ok X G (c.fact 22 (f := .glo "law") rfl)
  refine ⟨_, _, fd, _, _, g, F, s_law, fun H ρ => rfl, fun m h1 h2 => ?_, (fun m ks pm h => nomatch h), rfl⟩
  · exact ⟨[], vals_drop0, F.bindsN fun _ _ _ _ _ _ us hl => match us, hl with | [_], _ => rfl⟩
end
theorem all_ok {K : PySem.W.Frag} {h : Heap} {mg : Str → Option Value} (X : K.In h) (G : h.Ns mainGlobals mg) (c : He.SaysD fa fn K) : ∀ d ∈ defs, DefOk K mg d := by
  intro d hd
  simp only [defs, List.mem_cons, List.not_mem_nil, or_false] at hd
  rcases hd with rfl | rfl | rfl | rfl | rfl | rfl | rfl | rfl | rfl | rfl | rfl | rfl | rfl | rfl | rfl | rfl | rfl | rfl | rfl | rfl | rfl | rfl | rfl
  · exact ok_is_integer X G c
  · exact ok_is_row X G c
  · exact ok_is_pair X G c
  · exact ok_wrong_at X G c
  · exact ok_checked X G c
  · exact ok_is_between X G c
  · exact ok_look_tree X G c
  · exact ok_grown X G c
  · exact ok_tree_of X G c
  · exact ok_listed X G c
  · exact ok_towers_of X G c
  · exact ok_shaped X G c
  · exact ok_shape X G c
  · exact ok__law_source X G c
  · exact ok__law_next X G c
  · exact ok__law_longer X G c
  · exact ok__law_hung X G c
  · exact ok__law_tree X G c
  · exact ok__law_shape X G c
  · exact ok__law_listed X G c
  · exact ok__law_highest X G c
  · exact ok__law_is_right X G c
  · exact ok_law X G c
theorem gl_fa : ∀ p ∈ gl, He.Fa.int p.1 p.2 ∈ fa := by
  intro p hp
  simp only [gl, List.mem_cons, List.not_mem_nil, or_false] at hp
theorem all_wf : ∀ d ∈ defs, wfTs (tabOf defs gl tp) d.N d.sc d.body = true := by
  have : (defs.all fun d => wfTs (tabOf defs gl tp) d.N d.sc d.body) = true := by kernel_rfl
  exact fun d hd => List.all_eq_true.mp this d hd
end K72

end

section
set_option maxHeartbeats 1000000
namespace K72
open PySem PySem.Spec Mi
open L2 (atI ixN Key)
theorem is_integer_int (k : Nat) (i : Int) (S : Store) : orc defs (k + 1) 0 [.int i] S = some (.bl true, S) := by
  rw [orc_at (d := d_is_integer) rfl]
  simp only [d_is_integer, b_is_integer, bnd_some, bnd_none, opt_some, opt_none, seqF_next, seqF_brk, seqF_cnt, seqF_ret, ts_nil, ts_cons, out_ret, out_next, ite_t, ite_f, bop_and_t, bop_and_f, bop_or_t, bop_or_f, bb_and_t, bb_and_f, bb_or_t, bb_or_f, slot_0, slot_s, e_con, b_con, e_var, b_var, e_glo, b_glo, e_tup, b_tup, e_lst, b_lst, e_dct, b_dct, e_op, b_op, e_neg, b_neg, e_not, b_not, e_bop, b_bop, e_cmp, b_cmp, e_chn, b_chn, e_ifx, b_ifx, e_ix, b_ix, e_sl, b_sl, e_call, b_call, e_callK, e_fnv, e_callL, fnIx_fn, e_bi, b_bi, e_mxd, b_mxd, e_isi, b_isi, e_isl, b_isl, e_lrg, b_lrg, e_mt, b_mt, e_lc, b_lc, e_rev, b_rev, e_gtp, e_lrg1, i_rng3, bop_1, bop_2, bb_1, bb_2, es_nil, es_cons, eo_none, eo_some, if_none, if_some, i_ex, i_rng1, i_rng2, i_enm, q_nm, q_tp, q_sb, setK_some, qs_nil, qs_cons, t_asg, t_aug, t_ex, t_ret, t_retN, t_iff, t_fr, t_whl, t_brk, t_cnt, t_pas, con_none, con_bool, con_int, con_str, neg_int, not_bl, int_int, add_int, sub_int, lt_int, le_int, gt_int, ge_int, eq_int, ne_int, is_nn, is_in, is_bb, isn_nn, isn_in, isn_bb, tr_non, tr_bl, tr_int, ty_non, ty_bl, ty_int, ty_tup, ty_ro, isa_int_int, isa_int_bool, isa_int_list, isa_int_tuple, isa_list_list, isa_list_tuple, isa_tuple_list, isa_tuple_tuple, sq_tup, sq_ro, bi_int_int, bi_int_bl, bi_tuple_tup, bi_min, bi_max, bi_len_tup, bi_len_ro, ix_tup, ix_ro, sl_tup, sl_ro, stays_tup, stays_ro, at_0, at_1, gc_ai, gc_aai, gc_aaai, gc_ab, gc_aab, gc_aaab, gc_an, gc_aan, gc_aaan, gc_same, wipe_nil, wipe_cons, sz_0, sz_1, sz_2, sz_3, sz_4, sz_5, sz_6, sz_7, sz_8, sz_9, sz_10, runDef, runFull, Def.full, startD, List.length_cons, List.length_nil, List.map_cons, List.map_nil, List.append_nil, List.nil_append, List.cons_append, List.drop_nil, List.drop_zero, List.drop_succ_cons, List.set_cons_zero, List.set_cons_succ, List.replicate, if_true, if_false, Bool.not_true, Bool.not_false, Bool.true_or, Bool.false_or, Option.map_some, Option.map_none, Nat.zero_add, Nat.add_zero, Nat.sub_self, Nat.reduceAdd, Nat.reduceSub, ↓reduceIte, Bool.and_true, Bool.true_and, Bool.false_and, Bool.and_false, Int.cast_ofNat_Int, decide_true, decide_false, Int.reduceEq, Int.reduceLT, Int.reduceLE, Bool.false_eq_true]
theorem is_row_of (k : Nat) {d : D} {ds : List D} (S : Store) (h : seqOf S d = some ds) : orc defs (k + 1) 1 [d] S = some (.bl true, S) := by
  rw [orc_at (d := d_is_row) rfl]
  rcases ty_sq h with e | e
  · simp only [d_is_row, b_is_row, e, bnd_some, bnd_none, opt_some, opt_none, seqF_next, seqF_brk, seqF_cnt, seqF_ret, ts_nil, ts_cons, out_ret, out_next, ite_t, ite_f, bop_and_t, bop_and_f, bop_or_t, bop_or_f, bb_and_t, bb_and_f, bb_or_t, bb_or_f, slot_0, slot_s, e_con, b_con, e_var, b_var, e_glo, b_glo, e_tup, b_tup, e_lst, b_lst, e_dct, b_dct, e_op, b_op, e_neg, b_neg, e_not, b_not, e_bop, b_bop, e_cmp, b_cmp, e_chn, b_chn, e_ifx, b_ifx, e_ix, b_ix, e_sl, b_sl, e_call, b_call, e_callK, e_fnv, e_callL, fnIx_fn, e_bi, b_bi, e_mxd, b_mxd, e_isi, b_isi, e_isl, b_isl, e_lrg, b_lrg, e_mt, b_mt, e_lc, b_lc, e_rev, b_rev, e_gtp, e_lrg1, i_rng3, bop_1, bop_2, bb_1, bb_2, es_nil, es_cons, eo_none, eo_some, if_none, if_some, i_ex, i_rng1, i_rng2, i_enm, q_nm, q_tp, q_sb, setK_some, qs_nil, qs_cons, t_asg, t_aug, t_ex, t_ret, t_retN, t_iff, t_fr, t_whl, t_brk, t_cnt, t_pas, con_none, con_bool, con_int, con_str, neg_int, not_bl, int_int, add_int, sub_int, lt_int, le_int, gt_int, ge_int, eq_int, ne_int, is_nn, is_in, is_bb, isn_nn, isn_in, isn_bb, tr_non, tr_bl, tr_int, ty_non, ty_bl, ty_int, ty_tup, ty_ro, isa_int_int, isa_int_bool, isa_int_list, isa_int_tuple, isa_list_list, isa_list_tuple, isa_tuple_list, isa_tuple_tuple, sq_tup, sq_ro, bi_int_int, bi_int_bl, bi_tuple_tup, bi_min, bi_max, bi_len_tup, bi_len_ro, ix_tup, ix_ro, sl_tup, sl_ro, stays_tup, stays_ro, at_0, at_1, gc_ai, gc_aai, gc_aaai, gc_ab, gc_aab, gc_aaab, gc_an, gc_aan, gc_aaan, gc_same, wipe_nil, wipe_cons, sz_0, sz_1, sz_2, sz_3, sz_4, sz_5, sz_6, sz_7, sz_8, sz_9, sz_10, runDef, runFull, Def.full, startD, List.length_cons, List.length_nil, List.map_cons, List.map_nil, List.append_nil, List.nil_append, List.cons_append, List.drop_nil, List.drop_zero, List.drop_succ_cons, List.set_cons_zero, List.set_cons_succ, List.replicate, if_true, if_false, Bool.not_true, Bool.not_false, Bool.true_or, Bool.false_or, Option.map_some, Option.map_none, Nat.zero_add, Nat.add_zero, Nat.sub_self, Nat.reduceAdd, Nat.reduceSub, ↓reduceIte, Bool.and_true, Bool.true_and, Bool.false_and, Bool.and_false, Int.cast_ofNat_Int, decide_true, decide_false, Int.reduceEq, Int.reduceLT, Int.reduceLE, Bool.false_eq_true]
  · simp only [d_is_row, b_is_row, e, bnd_some, bnd_none, opt_some, opt_none, seqF_next, seqF_brk, seqF_cnt, seqF_ret, ts_nil, ts_cons, out_ret, out_next, ite_t, ite_f, bop_and_t, bop_and_f, bop_or_t, bop_or_f, bb_and_t, bb_and_f, bb_or_t, bb_or_f, slot_0, slot_s, e_con, b_con, e_var, b_var, e_glo, b_glo, e_tup, b_tup, e_lst, b_lst, e_dct, b_dct, e_op, b_op, e_neg, b_neg, e_not, b_not, e_bop, b_bop, e_cmp, b_cmp, e_chn, b_chn, e_ifx, b_ifx, e_ix, b_ix, e_sl, b_sl, e_call, b_call, e_callK, e_fnv, e_callL, fnIx_fn, e_bi, b_bi, e_mxd, b_mxd, e_isi, b_isi, e_isl, b_isl, e_lrg, b_lrg, e_mt, b_mt, e_lc, b_lc, e_rev, b_rev, e_gtp, e_lrg1, i_rng3, bop_1, bop_2, bb_1, bb_2, es_nil, es_cons, eo_none, eo_some, if_none, if_some, i_ex, i_rng1, i_rng2, i_enm, q_nm, q_tp, q_sb, setK_some, qs_nil, qs_cons, t_asg, t_aug, t_ex, t_ret, t_retN, t_iff, t_fr, t_whl, t_brk, t_cnt, t_pas, con_none, con_bool, con_int, con_str, neg_int, not_bl, int_int, add_int, sub_int, lt_int, le_int, gt_int, ge_int, eq_int, ne_int, is_nn, is_in, is_bb, isn_nn, isn_in, isn_bb, tr_non, tr_bl, tr_int, ty_non, ty_bl, ty_int, ty_tup, ty_ro, isa_int_int, isa_int_bool, isa_int_list, isa_int_tuple, isa_list_list, isa_list_tuple, isa_tuple_list, isa_tuple_tuple, sq_tup, sq_ro, bi_int_int, bi_int_bl, bi_tuple_tup, bi_min, bi_max, bi_len_tup, bi_len_ro, ix_tup, ix_ro, sl_tup, sl_ro, stays_tup, stays_ro, at_0, at_1, gc_ai, gc_aai, gc_aaai, gc_ab, gc_aab, gc_aaab, gc_an, gc_aan, gc_aaan, gc_same, wipe_nil, wipe_cons, sz_0, sz_1, sz_2, sz_3, sz_4, sz_5, sz_6, sz_7, sz_8, sz_9, sz_10, runDef, runFull, Def.full, startD, List.length_cons, List.length_nil, List.map_cons, List.map_nil, List.append_nil, List.nil_append, List.cons_append, List.drop_nil, List.drop_zero, List.drop_succ_cons, List.set_cons_zero, List.set_cons_succ, List.replicate, if_true, if_false, Bool.not_true, Bool.not_false, Bool.true_or, Bool.false_or, Option.map_some, Option.map_none, Nat.zero_add, Nat.add_zero, Nat.sub_self, Nat.reduceAdd, Nat.reduceSub, ↓reduceIte, Bool.and_true, Bool.true_and, Bool.false_and, Bool.and_false, Int.cast_ofNat_Int, decide_true, decide_false, Int.reduceEq, Int.reduceLT, Int.reduceLE, Bool.false_eq_true]
theorem is_pair_of (k : Nat) {d : D} {i j : Int} (S : Store) (h : seqOf S d = some [.int i, .int j]) (hj : 1 ≤ j) : orc defs (k + 2) 2 [d] S = some (.bl true, S) := by
  rw [orc_at (d := d_is_pair) rfl]
  simp only [d_is_pair, b_is_pair, bnd_some, bnd_none, opt_some, opt_none, seqF_next, seqF_brk, seqF_cnt, seqF_ret, ts_nil, ts_cons, out_ret, out_next, ite_t, ite_f, bop_and_t, bop_and_f, bop_or_t, bop_or_f, bb_and_t, bb_and_f, bb_or_t, bb_or_f, slot_0, slot_s, e_con, b_con, e_var, b_var, e_glo, b_glo, e_tup, b_tup, e_lst, b_lst, e_dct, b_dct, e_op, b_op, e_neg, b_neg, e_not, b_not, e_bop, b_bop, e_cmp, b_cmp, e_chn, b_chn, e_ifx, b_ifx, e_ix, b_ix, e_sl, b_sl, e_call, b_call, e_callK, e_fnv, e_callL, fnIx_fn, e_bi, b_bi, e_mxd, b_mxd, e_isi, b_isi, e_isl, b_isl, e_lrg, b_lrg, e_mt, b_mt, e_lc, b_lc, e_rev, b_rev, e_gtp, e_lrg1, i_rng3, bop_1, bop_2, bb_1, bb_2, es_nil, es_cons, eo_none, eo_some, if_none, if_some, i_ex, i_rng1, i_rng2, i_enm, q_nm, q_tp, q_sb, setK_some, qs_nil, qs_cons, t_asg, t_aug, t_ex, t_ret, t_retN, t_iff, t_fr, t_whl, t_brk, t_cnt, t_pas, con_none, con_bool, con_int, con_str, neg_int, not_bl, int_int, add_int, sub_int, lt_int, le_int, gt_int, ge_int, eq_int, ne_int, is_nn, is_in, is_bb, isn_nn, isn_in, isn_bb, tr_non, tr_bl, tr_int, ty_non, ty_bl, ty_int, ty_tup, ty_ro, isa_int_int, isa_int_bool, isa_int_list, isa_int_tuple, isa_list_list, isa_list_tuple, isa_tuple_list, isa_tuple_tuple, sq_tup, sq_ro, bi_int_int, bi_int_bl, bi_tuple_tup, bi_min, bi_max, bi_len_tup, bi_len_ro, ix_tup, ix_ro, sl_tup, sl_ro, stays_tup, stays_ro, at_0, at_1, gc_ai, gc_aai, gc_aaai, gc_ab, gc_aab, gc_aaab, gc_an, gc_aan, gc_aaan, gc_same, wipe_nil, wipe_cons, sz_0, sz_1, sz_2, sz_3, sz_4, sz_5, sz_6, sz_7, sz_8, sz_9, sz_10, runDef, runFull, Def.full, startD, List.length_cons, List.length_nil, List.map_cons, List.map_nil, List.append_nil, List.nil_append, List.cons_append, List.drop_nil, List.drop_zero, List.drop_succ_cons, List.set_cons_zero, List.set_cons_succ, List.replicate, if_true, if_false, Bool.not_true, Bool.not_false, Bool.true_or, Bool.false_or, Option.map_some, Option.map_none, Nat.zero_add, Nat.add_zero, Nat.sub_self, Nat.reduceAdd, Nat.reduceSub, ↓reduceIte, Bool.and_true, Bool.true_and, Bool.false_and, Bool.and_false, Int.cast_ofNat_Int, decide_true, decide_false, Int.reduceEq, Int.reduceLT, Int.reduceLE, Bool.false_eq_true, is_row_of k S h, len_sq h, ix_sq h, is_integer_int, decide_eq_true hj]
/-- the walk of wrong_at: what stands ahead of the rest -/
def Last (S : Store) (ds : List D) (i : Nat) (tw : List (Int × Int)) : Prop := 0 < i → ∃ d p, ds[i - 1]? = some d ∧ seqOf S d = some [.int p.1, .int p.2] ∧ ∀ q ∈ tw, (p : Int × Int).1 < q.1
theorem wrong_at_of (k : Nat) {v : D} {tw : List (Int × Int)} {S : Store} (hv : IsTw S v tw) : orc defs (k + 3) 3 [v] S = some (.non, S) := by
  obtain ⟨⟨ds, h, ht⟩, hf, -⟩ := hv
  rw [orc_at (d := d_wrong_at) rfl]
  simp only [d_wrong_at, b_wrong_at, bnd_some, bnd_none, opt_some, opt_none, seqF_next, seqF_brk, seqF_cnt, seqF_ret, ts_nil, ts_cons, out_ret, out_next, ite_t, ite_f, bop_and_t, bop_and_f, bop_or_t, bop_or_f, bb_and_t, bb_and_f, bb_or_t, bb_or_f, slot_0, slot_s, e_con, b_con, e_var, b_var, e_glo, b_glo, e_tup, b_tup, e_lst, b_lst, e_dct, b_dct, e_op, b_op, e_neg, b_neg, e_not, b_not, e_bop, b_bop, e_cmp, b_cmp, e_chn, b_chn, e_ifx, b_ifx, e_ix, b_ix, e_sl, b_sl, e_call, b_call, e_callK, e_fnv, e_callL, fnIx_fn, e_bi, b_bi, e_mxd, b_mxd, e_isi, b_isi, e_isl, b_isl, e_lrg, b_lrg, e_mt, b_mt, e_lc, b_lc, e_rev, b_rev, e_gtp, e_lrg1, i_rng3, bop_1, bop_2, bb_1, bb_2, es_nil, es_cons, eo_none, eo_some, if_none, if_some, i_ex, i_rng1, i_rng2, i_enm, q_nm, q_tp, q_sb, setK_some, qs_nil, qs_cons, t_asg, t_aug, t_ex, t_ret, t_retN, t_iff, t_fr, t_whl, t_brk, t_cnt, t_pas, con_none, con_bool, con_int, con_str, neg_int, not_bl, int_int, add_int, sub_int, lt_int, le_int, gt_int, ge_int, eq_int, ne_int, is_nn, is_in, is_bb, isn_nn, isn_in, isn_bb, tr_non, tr_bl, tr_int, ty_non, ty_bl, ty_int, ty_tup, ty_ro, isa_int_int, isa_int_bool, isa_int_list, isa_int_tuple, isa_list_list, isa_list_tuple, isa_tuple_list, isa_tuple_tuple, sq_tup, sq_ro, bi_int_int, bi_int_bl, bi_tuple_tup, bi_min, bi_max, bi_len_tup, bi_len_ro, ix_tup, ix_ro, sl_tup, sl_ro, stays_tup, stays_ro, at_0, at_1, gc_ai, gc_aai, gc_aaai, gc_ab, gc_aab, gc_aaab, gc_an, gc_aan, gc_aaan, gc_same, wipe_nil, wipe_cons, sz_0, sz_1, sz_2, sz_3, sz_4, sz_5, sz_6, sz_7, sz_8, sz_9, sz_10, runDef, runFull, Def.full, startD, List.length_cons, List.length_nil, List.map_cons, List.map_nil, List.append_nil, List.nil_append, List.cons_append, List.drop_nil, List.drop_zero, List.drop_succ_cons, List.set_cons_zero, List.set_cons_succ, List.replicate, if_true, if_false, Bool.not_true, Bool.not_false, Bool.true_or, Bool.false_or, Option.map_some, Option.map_none, Nat.zero_add, Nat.add_zero, Nat.sub_self, Nat.reduceAdd, Nat.reduceSub, ↓reduceIte, Bool.and_true, Bool.true_and, Bool.false_and, Bool.and_false, Int.cast_ofNat_Int, decide_true, decide_false, Int.reduceEq, Int.reduceLT, Int.reduceLE, Bool.false_eq_true, is_row_of (k + 1) S h, h]
  generalize hX : forD _ _ _ _ _ _ = X
  have key := for_X hX (fun its σ S' => S' = S ∧ (∃ a b, σ = [some v, a, b]) ∧ ∃ (i : Nat) (rest : List D) (tr : List (Int × Int)), its = enumD i rest ∧ rest = ds.drop i ∧ TwL S rest tr ∧ Fine tr ∧ Last S ds i tr)
    (fun X => ∃ σ, X = some (.next σ, S)) ⟨rfl, ⟨none, none, rfl⟩, 0, ds, tw, rfl, by simp, ht, hf, fun z => absurd z (by simp)⟩ (fun σ S' ⟨e, _⟩ => by subst e; exact ⟨stays_sq h, σ, rfl⟩) ?_
  · obtain ⟨σ, rfl⟩ := key
    simp only [bnd_some, bnd_none, opt_some, opt_none, seqF_next, seqF_brk, seqF_cnt, seqF_ret, ts_nil, ts_cons, out_ret, out_next, ite_t, ite_f, bop_and_t, bop_and_f, bop_or_t, bop_or_f, bb_and_t, bb_and_f, bb_or_t, bb_or_f, slot_0, slot_s, e_con, b_con, e_var, b_var, e_glo, b_glo, e_tup, b_tup, e_lst, b_lst, e_dct, b_dct, e_op, b_op, e_neg, b_neg, e_not, b_not, e_bop, b_bop, e_cmp, b_cmp, e_chn, b_chn, e_ifx, b_ifx, e_ix, b_ix, e_sl, b_sl, e_call, b_call, e_callK, e_fnv, e_callL, fnIx_fn, e_bi, b_bi, e_mxd, b_mxd, e_isi, b_isi, e_isl, b_isl, e_lrg, b_lrg, e_mt, b_mt, e_lc, b_lc, e_rev, b_rev, e_gtp, e_lrg1, i_rng3, bop_1, bop_2, bb_1, bb_2, es_nil, es_cons, eo_none, eo_some, if_none, if_some, i_ex, i_rng1, i_rng2, i_enm, q_nm, q_tp, q_sb, setK_some, qs_nil, qs_cons, t_asg, t_aug, t_ex, t_ret, t_retN, t_iff, t_fr, t_whl, t_brk, t_cnt, t_pas, con_none, con_bool, con_int, con_str, neg_int, not_bl, int_int, add_int, sub_int, lt_int, le_int, gt_int, ge_int, eq_int, ne_int, is_nn, is_in, is_bb, isn_nn, isn_in, isn_bb, tr_non, tr_bl, tr_int, ty_non, ty_bl, ty_int, ty_tup, ty_ro, isa_int_int, isa_int_bool, isa_int_list, isa_int_tuple, isa_list_list, isa_list_tuple, isa_tuple_list, isa_tuple_tuple, sq_tup, sq_ro, bi_int_int, bi_int_bl, bi_tuple_tup, bi_min, bi_max, bi_len_tup, bi_len_ro, ix_tup, ix_ro, sl_tup, sl_ro, stays_tup, stays_ro, at_0, at_1, gc_ai, gc_aai, gc_aaai, gc_ab, gc_aab, gc_aaab, gc_an, gc_aan, gc_aaan, gc_same, wipe_nil, wipe_cons, sz_0, sz_1, sz_2, sz_3, sz_4, sz_5, sz_6, sz_7, sz_8, sz_9, sz_10, runDef, runFull, Def.full, startD, List.length_cons, List.length_nil, List.map_cons, List.map_nil, List.append_nil, List.nil_append, List.cons_append, List.drop_nil, List.drop_zero, List.drop_succ_cons, List.set_cons_zero, List.set_cons_succ, List.replicate, if_true, if_false, Bool.not_true, Bool.not_false, Bool.true_or, Bool.false_or, Option.map_some, Option.map_none, Nat.zero_add, Nat.add_zero, Nat.sub_self, Nat.reduceAdd, Nat.reduceSub, ↓reduceIte, Bool.and_true, Bool.true_and, Bool.false_and, Bool.and_false, Int.cast_ofNat_Int, decide_true, decide_false, Int.reduceEq, Int.reduceLT, Int.reduceLE, Bool.false_eq_true]
  · clear hX X
    rintro x r σ S' ⟨rfl, ⟨a, b, rfl⟩, i, rest, tr, e1, e2, h3, h4, h5⟩
    refine ⟨stays_sq h, ?_⟩
    cases rest with
    | nil => simp [enumD] at e1
    | cons d rest =>
      cases tr with
      | nil => exact h3.elim
      | cons p tr =>
        obtain ⟨g1, g2⟩ := h3
        obtain ⟨f1, f2, f3⟩ := h4
        rw [enumD] at e1
        injection e1 with e3 e4
        subst e3 e4
        have nxt : ∀ {X : Option (Fl × Store)}, X = some (.next [some v, some (.int i), some d], S') → stepOk (fun σ T => T = S' ∧ (∃ a b, σ = [some v, a, b]) ∧ ∃ (j : Nat) (rest' : List D) (tr : List (Int × Int)), enumD (↑i + 1) rest = enumD j rest' ∧ rest' = ds.drop j ∧ TwL S' rest' tr ∧ Fine tr ∧ Last S' ds j tr) (fun X => ∃ σ, X = some (.next σ, S')) X := by
          rintro X rfl
          refine ⟨rfl, ⟨_, _, rfl⟩, i + 1, rest, tr, by simp, ?_, g2, f3, fun _ => ⟨d, p, ?_, g1, f2⟩⟩
          · rw [← List.drop_drop, ← e2]; rfl
          · have : (ds.drop i)[0]? = some d := by rw [← e2]; rfl
            simpa using this
        cases i with
        | zero =>
          refine nxt ?_
          simp only [bnd_some, bnd_none, opt_some, opt_none, seqF_next, seqF_brk, seqF_cnt, seqF_ret, ts_nil, ts_cons, out_ret, out_next, ite_t, ite_f, bop_and_t, bop_and_f, bop_or_t, bop_or_f, bb_and_t, bb_and_f, bb_or_t, bb_or_f, slot_0, slot_s, e_con, b_con, e_var, b_var, e_glo, b_glo, e_tup, b_tup, e_lst, b_lst, e_dct, b_dct, e_op, b_op, e_neg, b_neg, e_not, b_not, e_bop, b_bop, e_cmp, b_cmp, e_chn, b_chn, e_ifx, b_ifx, e_ix, b_ix, e_sl, b_sl, e_call, b_call, e_callK, e_fnv, e_callL, fnIx_fn, e_bi, b_bi, e_mxd, b_mxd, e_isi, b_isi, e_isl, b_isl, e_lrg, b_lrg, e_mt, b_mt, e_lc, b_lc, e_rev, b_rev, e_gtp, e_lrg1, i_rng3, bop_1, bop_2, bb_1, bb_2, es_nil, es_cons, eo_none, eo_some, if_none, if_some, i_ex, i_rng1, i_rng2, i_enm, q_nm, q_tp, q_sb, setK_some, qs_nil, qs_cons, t_asg, t_aug, t_ex, t_ret, t_retN, t_iff, t_fr, t_whl, t_brk, t_cnt, t_pas, con_none, con_bool, con_int, con_str, neg_int, not_bl, int_int, add_int, sub_int, lt_int, le_int, gt_int, ge_int, eq_int, ne_int, is_nn, is_in, is_bb, isn_nn, isn_in, isn_bb, tr_non, tr_bl, tr_int, ty_non, ty_bl, ty_int, ty_tup, ty_ro, isa_int_int, isa_int_bool, isa_int_list, isa_int_tuple, isa_list_list, isa_list_tuple, isa_tuple_list, isa_tuple_tuple, sq_tup, sq_ro, bi_int_int, bi_int_bl, bi_tuple_tup, bi_min, bi_max, bi_len_tup, bi_len_ro, ix_tup, ix_ro, sl_tup, sl_ro, stays_tup, stays_ro, at_0, at_1, gc_ai, gc_aai, gc_aaai, gc_ab, gc_aab, gc_aaab, gc_an, gc_aan, gc_aaan, gc_same, wipe_nil, wipe_cons, sz_0, sz_1, sz_2, sz_3, sz_4, sz_5, sz_6, sz_7, sz_8, sz_9, sz_10, runDef, runFull, Def.full, startD, List.length_cons, List.length_nil, List.map_cons, List.map_nil, List.append_nil, List.nil_append, List.cons_append, List.drop_nil, List.drop_zero, List.drop_succ_cons, List.set_cons_zero, List.set_cons_succ, List.replicate, if_true, if_false, Bool.not_true, Bool.not_false, Bool.true_or, Bool.false_or, Option.map_some, Option.map_none, Nat.zero_add, Nat.add_zero, Nat.sub_self, Nat.reduceAdd, Nat.reduceSub, ↓reduceIte, Bool.and_true, Bool.true_and, Bool.false_and, Bool.and_false, Int.cast_ofNat_Int, decide_true, decide_false, Int.reduceEq, Int.reduceLT, Int.reduceLE, Bool.false_eq_true, is_pair_of k S' g1 f1, Int.natCast_zero]
        | succ i =>
          obtain ⟨d', q, q1, q2, q3⟩ := h5 (by omega)
          have e5 : ((i + 1 : Nat) : Int) - 1 = (i : Nat) := by omega
          have e6 : atI ds (i : Nat) = some d' := at_nat (by simpa using q1)
          have e7 : decide ((0 : Int) < ((i + 1 : Nat) : Int)) = true := decide_eq_true (by omega)
          have e8 : decide (p.1 ≤ q.1) = false := decide_eq_false (by have := q3 p (List.mem_cons_self ..); omega)
          refine nxt ?_
          simp only [bnd_some, bnd_none, opt_some, opt_none, seqF_next, seqF_brk, seqF_cnt, seqF_ret, ts_nil, ts_cons, out_ret, out_next, ite_t, ite_f, bop_and_t, bop_and_f, bop_or_t, bop_or_f, bb_and_t, bb_and_f, bb_or_t, bb_or_f, slot_0, slot_s, e_con, b_con, e_var, b_var, e_glo, b_glo, e_tup, b_tup, e_lst, b_lst, e_dct, b_dct, e_op, b_op, e_neg, b_neg, e_not, b_not, e_bop, b_bop, e_cmp, b_cmp, e_chn, b_chn, e_ifx, b_ifx, e_ix, b_ix, e_sl, b_sl, e_call, b_call, e_callK, e_fnv, e_callL, fnIx_fn, e_bi, b_bi, e_mxd, b_mxd, e_isi, b_isi, e_isl, b_isl, e_lrg, b_lrg, e_mt, b_mt, e_lc, b_lc, e_rev, b_rev, e_gtp, e_lrg1, i_rng3, bop_1, bop_2, bb_1, bb_2, es_nil, es_cons, eo_none, eo_some, if_none, if_some, i_ex, i_rng1, i_rng2, i_enm, q_nm, q_tp, q_sb, setK_some, qs_nil, qs_cons, t_asg, t_aug, t_ex, t_ret, t_retN, t_iff, t_fr, t_whl, t_brk, t_cnt, t_pas, con_none, con_bool, con_int, con_str, neg_int, not_bl, int_int, add_int, sub_int, lt_int, le_int, gt_int, ge_int, eq_int, ne_int, is_nn, is_in, is_bb, isn_nn, isn_in, isn_bb, tr_non, tr_bl, tr_int, ty_non, ty_bl, ty_int, ty_tup, ty_ro, isa_int_int, isa_int_bool, isa_int_list, isa_int_tuple, isa_list_list, isa_list_tuple, isa_tuple_list, isa_tuple_tuple, sq_tup, sq_ro, bi_int_int, bi_int_bl, bi_tuple_tup, bi_min, bi_max, bi_len_tup, bi_len_ro, ix_tup, ix_ro, sl_tup, sl_ro, stays_tup, stays_ro, at_0, at_1, gc_ai, gc_aai, gc_aaai, gc_ab, gc_aab, gc_aaab, gc_an, gc_aan, gc_aaan, gc_same, wipe_nil, wipe_cons, sz_0, sz_1, sz_2, sz_3, sz_4, sz_5, sz_6, sz_7, sz_8, sz_9, sz_10, runDef, runFull, Def.full, startD, List.length_cons, List.length_nil, List.map_cons, List.map_nil, List.append_nil, List.nil_append, List.cons_append, List.drop_nil, List.drop_zero, List.drop_succ_cons, List.set_cons_zero, List.set_cons_succ, List.replicate, if_true, if_false, Bool.not_true, Bool.not_false, Bool.true_or, Bool.false_or, Option.map_some, Option.map_none, Nat.zero_add, Nat.add_zero, Nat.sub_self, Nat.reduceAdd, Nat.reduceSub, ↓reduceIte, Bool.and_true, Bool.true_and, Bool.false_and, Bool.and_false, Int.cast_ofNat_Int, decide_true, decide_false, Int.reduceEq, Int.reduceLT, Int.reduceLE, Bool.false_eq_true, is_pair_of k S' g1 f1, e5, e6, e7, e8, ix_sq h, ix_sq q2, ix_sq g1]
theorem checked_of (k : Nat) {v : D} {tw : List (Int × Int)} {S : Store} (hv : IsTw S v tw) : orc defs (k + 4) 4 [v] S = some (.tup (tw.map prD), S) := by
  rw [orc_at (d := d_checked) rfl]
  have hw := wrong_at_of k hv
  obtain ⟨⟨ds, h, ht⟩, hf, hl⟩ := hv
  simp only [d_checked, b_checked, bnd_some, bnd_none, opt_some, opt_none, seqF_next, seqF_brk, seqF_cnt, seqF_ret, ts_nil, ts_cons, out_ret, out_next, ite_t, ite_f, bop_and_t, bop_and_f, bop_or_t, bop_or_f, bb_and_t, bb_and_f, bb_or_t, bb_or_f, slot_0, slot_s, e_con, b_con, e_var, b_var, e_glo, b_glo, e_tup, b_tup, e_lst, b_lst, e_dct, b_dct, e_op, b_op, e_neg, b_neg, e_not, b_not, e_bop, b_bop, e_cmp, b_cmp, e_chn, b_chn, e_ifx, b_ifx, e_ix, b_ix, e_sl, b_sl, e_call, b_call, e_callK, e_fnv, e_callL, fnIx_fn, e_bi, b_bi, e_mxd, b_mxd, e_isi, b_isi, e_isl, b_isl, e_lrg, b_lrg, e_mt, b_mt, e_lc, b_lc, e_rev, b_rev, e_gtp, e_lrg1, i_rng3, bop_1, bop_2, bb_1, bb_2, es_nil, es_cons, eo_none, eo_some, if_none, if_some, i_ex, i_rng1, i_rng2, i_enm, q_nm, q_tp, q_sb, setK_some, qs_nil, qs_cons, t_asg, t_aug, t_ex, t_ret, t_retN, t_iff, t_fr, t_whl, t_brk, t_cnt, t_pas, con_none, con_bool, con_int, con_str, neg_int, not_bl, int_int, add_int, sub_int, lt_int, le_int, gt_int, ge_int, eq_int, ne_int, is_nn, is_in, is_bb, isn_nn, isn_in, isn_bb, tr_non, tr_bl, tr_int, ty_non, ty_bl, ty_int, ty_tup, ty_ro, isa_int_int, isa_int_bool, isa_int_list, isa_int_tuple, isa_list_list, isa_list_tuple, isa_tuple_list, isa_tuple_tuple, sq_tup, sq_ro, bi_int_int, bi_int_bl, bi_tuple_tup, bi_min, bi_max, bi_len_tup, bi_len_ro, ix_tup, ix_ro, sl_tup, sl_ro, stays_tup, stays_ro, at_0, at_1, gc_ai, gc_aai, gc_aaai, gc_ab, gc_aab, gc_aaab, gc_an, gc_aan, gc_aaan, gc_same, wipe_nil, wipe_cons, sz_0, sz_1, sz_2, sz_3, sz_4, sz_5, sz_6, sz_7, sz_8, sz_9, sz_10, runDef, runFull, Def.full, startD, List.length_cons, List.length_nil, List.map_cons, List.map_nil, List.append_nil, List.nil_append, List.cons_append, List.drop_nil, List.drop_zero, List.drop_succ_cons, List.set_cons_zero, List.set_cons_succ, List.replicate, if_true, if_false, Bool.not_true, Bool.not_false, Bool.true_or, Bool.false_or, Option.map_some, Option.map_none, Nat.zero_add, Nat.add_zero, Nat.sub_self, Nat.reduceAdd, Nat.reduceSub, ↓reduceIte, Bool.and_true, Bool.true_and, Bool.false_and, Bool.and_false, Int.cast_ofNat_Int, decide_true, decide_false, Int.reduceEq, Int.reduceLT, Int.reduceLE, Bool.false_eq_true, hw, h]
  generalize hX : lcD _ _ _ _ _ _ _ = X
  have e := hX.symm.trans (lcD_tw0 prD (stays_sq h) ht (fun d q hq hd => ⟨[some v, some .non, some (.int q.1), some (.int q.2)], by simp only [bnd_some, bnd_none, opt_some, opt_none, seqF_next, seqF_brk, seqF_cnt, seqF_ret, ts_nil, ts_cons, out_ret, out_next, ite_t, ite_f, bop_and_t, bop_and_f, bop_or_t, bop_or_f, bb_and_t, bb_and_f, bb_or_t, bb_or_f, slot_0, slot_s, e_con, b_con, e_var, b_var, e_glo, b_glo, e_tup, b_tup, e_lst, b_lst, e_dct, b_dct, e_op, b_op, e_neg, b_neg, e_not, b_not, e_bop, b_bop, e_cmp, b_cmp, e_chn, b_chn, e_ifx, b_ifx, e_ix, b_ix, e_sl, b_sl, e_call, b_call, e_callK, e_fnv, e_callL, fnIx_fn, e_bi, b_bi, e_mxd, b_mxd, e_isi, b_isi, e_isl, b_isl, e_lrg, b_lrg, e_mt, b_mt, e_lc, b_lc, e_rev, b_rev, e_gtp, e_lrg1, i_rng3, bop_1, bop_2, bb_1, bb_2, es_nil, es_cons, eo_none, eo_some, if_none, if_some, i_ex, i_rng1, i_rng2, i_enm, q_nm, q_tp, q_sb, setK_some, qs_nil, qs_cons, t_asg, t_aug, t_ex, t_ret, t_retN, t_iff, t_fr, t_whl, t_brk, t_cnt, t_pas, con_none, con_bool, con_int, con_str, neg_int, not_bl, int_int, add_int, sub_int, lt_int, le_int, gt_int, ge_int, eq_int, ne_int, is_nn, is_in, is_bb, isn_nn, isn_in, isn_bb, tr_non, tr_bl, tr_int, ty_non, ty_bl, ty_int, ty_tup, ty_ro, isa_int_int, isa_int_bool, isa_int_list, isa_int_tuple, isa_list_list, isa_list_tuple, isa_tuple_list, isa_tuple_tuple, sq_tup, sq_ro, bi_int_int, bi_int_bl, bi_tuple_tup, bi_min, bi_max, bi_len_tup, bi_len_ro, ix_tup, ix_ro, sl_tup, sl_ro, stays_tup, stays_ro, at_0, at_1, gc_ai, gc_aai, gc_aaai, gc_ab, gc_aab, gc_aaab, gc_an, gc_aan, gc_aaan, gc_same, wipe_nil, wipe_cons, sz_0, sz_1, sz_2, sz_3, sz_4, sz_5, sz_6, sz_7, sz_8, sz_9, sz_10, runDef, runFull, Def.full, startD, List.length_cons, List.length_nil, List.map_cons, List.map_nil, List.append_nil, List.nil_append, List.cons_append, List.drop_nil, List.drop_zero, List.drop_succ_cons, List.set_cons_zero, List.set_cons_succ, List.replicate, if_true, if_false, Bool.not_true, Bool.not_false, Bool.true_or, Bool.false_or, Option.map_some, Option.map_none, Nat.zero_add, Nat.add_zero, Nat.sub_self, Nat.reduceAdd, Nat.reduceSub, ↓reduceIte, Bool.and_true, Bool.true_and, Bool.false_and, Bool.and_false, Int.cast_ofNat_Int, decide_true, decide_false, Int.reduceEq, Int.reduceLT, Int.reduceLE, Bool.false_eq_true, hd], by simp only [bnd_some, bnd_none, opt_some, opt_none, seqF_next, seqF_brk, seqF_cnt, seqF_ret, ts_nil, ts_cons, out_ret, out_next, ite_t, ite_f, bop_and_t, bop_and_f, bop_or_t, bop_or_f, bb_and_t, bb_and_f, bb_or_t, bb_or_f, slot_0, slot_s, e_con, b_con, e_var, b_var, e_glo, b_glo, e_tup, b_tup, e_lst, b_lst, e_dct, b_dct, e_op, b_op, e_neg, b_neg, e_not, b_not, e_bop, b_bop, e_cmp, b_cmp, e_chn, b_chn, e_ifx, b_ifx, e_ix, b_ix, e_sl, b_sl, e_call, b_call, e_callK, e_fnv, e_callL, fnIx_fn, e_bi, b_bi, e_mxd, b_mxd, e_isi, b_isi, e_isl, b_isl, e_lrg, b_lrg, e_mt, b_mt, e_lc, b_lc, e_rev, b_rev, e_gtp, e_lrg1, i_rng3, bop_1, bop_2, bb_1, bb_2, es_nil, es_cons, eo_none, eo_some, if_none, if_some, i_ex, i_rng1, i_rng2, i_enm, q_nm, q_tp, q_sb, setK_some, qs_nil, qs_cons, t_asg, t_aug, t_ex, t_ret, t_retN, t_iff, t_fr, t_whl, t_brk, t_cnt, t_pas, con_none, con_bool, con_int, con_str, neg_int, not_bl, int_int, add_int, sub_int, lt_int, le_int, gt_int, ge_int, eq_int, ne_int, is_nn, is_in, is_bb, isn_nn, isn_in, isn_bb, tr_non, tr_bl, tr_int, ty_non, ty_bl, ty_int, ty_tup, ty_ro, isa_int_int, isa_int_bool, isa_int_list, isa_int_tuple, isa_list_list, isa_list_tuple, isa_tuple_list, isa_tuple_tuple, sq_tup, sq_ro, bi_int_int, bi_int_bl, bi_tuple_tup, bi_min, bi_max, bi_len_tup, bi_len_ro, ix_tup, ix_ro, sl_tup, sl_ro, stays_tup, stays_ro, at_0, at_1, gc_ai, gc_aai, gc_aaai, gc_ab, gc_aab, gc_aaab, gc_an, gc_aan, gc_aaan, gc_same, wipe_nil, wipe_cons, sz_0, sz_1, sz_2, sz_3, sz_4, sz_5, sz_6, sz_7, sz_8, sz_9, sz_10, runDef, runFull, Def.full, startD, List.length_cons, List.length_nil, List.map_cons, List.map_nil, List.append_nil, List.nil_append, List.cons_append, List.drop_nil, List.drop_zero, List.drop_succ_cons, List.set_cons_zero, List.set_cons_succ, List.replicate, if_true, if_false, Bool.not_true, Bool.not_false, Bool.true_or, Bool.false_or, Option.map_some, Option.map_none, Nat.zero_add, Nat.add_zero, Nat.sub_self, Nat.reduceAdd, Nat.reduceSub, ↓reduceIte, Bool.and_true, Bool.true_and, Bool.false_and, Bool.and_false, Int.cast_ofNat_Int, decide_true, decide_false, Int.reduceEq, Int.reduceLT, Int.reduceLE, Bool.false_eq_true], by simp only [bnd_some, bnd_none, opt_some, opt_none, seqF_next, seqF_brk, seqF_cnt, seqF_ret, ts_nil, ts_cons, out_ret, out_next, ite_t, ite_f, bop_and_t, bop_and_f, bop_or_t, bop_or_f, bb_and_t, bb_and_f, bb_or_t, bb_or_f, slot_0, slot_s, e_con, b_con, e_var, b_var, e_glo, b_glo, e_tup, b_tup, e_lst, b_lst, e_dct, b_dct, e_op, b_op, e_neg, b_neg, e_not, b_not, e_bop, b_bop, e_cmp, b_cmp, e_chn, b_chn, e_ifx, b_ifx, e_ix, b_ix, e_sl, b_sl, e_call, b_call, e_callK, e_fnv, e_callL, fnIx_fn, e_bi, b_bi, e_mxd, b_mxd, e_isi, b_isi, e_isl, b_isl, e_lrg, b_lrg, e_mt, b_mt, e_lc, b_lc, e_rev, b_rev, e_gtp, e_lrg1, i_rng3, bop_1, bop_2, bb_1, bb_2, es_nil, es_cons, eo_none, eo_some, if_none, if_some, i_ex, i_rng1, i_rng2, i_enm, q_nm, q_tp, q_sb, setK_some, qs_nil, qs_cons, t_asg, t_aug, t_ex, t_ret, t_retN, t_iff, t_fr, t_whl, t_brk, t_cnt, t_pas, con_none, con_bool, con_int, con_str, neg_int, not_bl, int_int, add_int, sub_int, lt_int, le_int, gt_int, ge_int, eq_int, ne_int, is_nn, is_in, is_bb, isn_nn, isn_in, isn_bb, tr_non, tr_bl, tr_int, ty_non, ty_bl, ty_int, ty_tup, ty_ro, isa_int_int, isa_int_bool, isa_int_list, isa_int_tuple, isa_list_list, isa_list_tuple, isa_tuple_list, isa_tuple_tuple, sq_tup, sq_ro, bi_int_int, bi_int_bl, bi_tuple_tup, bi_min, bi_max, bi_len_tup, bi_len_ro, ix_tup, ix_ro, sl_tup, sl_ro, stays_tup, stays_ro, at_0, at_1, gc_ai, gc_aai, gc_aaai, gc_ab, gc_aab, gc_aaab, gc_an, gc_aan, gc_aaan, gc_same, wipe_nil, wipe_cons, sz_0, sz_1, sz_2, sz_3, sz_4, sz_5, sz_6, sz_7, sz_8, sz_9, sz_10, runDef, runFull, Def.full, startD, List.length_cons, List.length_nil, List.map_cons, List.map_nil, List.append_nil, List.nil_append, List.cons_append, List.drop_nil, List.drop_zero, List.drop_succ_cons, List.set_cons_zero, List.set_cons_succ, List.replicate, if_true, if_false, Bool.not_true, Bool.not_false, Bool.true_or, Bool.false_or, Option.map_some, Option.map_none, Nat.zero_add, Nat.add_zero, Nat.sub_self, Nat.reduceAdd, Nat.reduceSub, ↓reduceIte, Bool.and_true, Bool.true_and, Bool.false_and, Bool.and_false, Int.cast_ofNat_Int, decide_true, decide_false, Int.reduceEq, Int.reduceLT, Int.reduceLE, Bool.false_eq_true]; rfl⟩) (small hl))
  subst e
  simp only [bnd_some, bnd_none, opt_some, opt_none, seqF_next, seqF_brk, seqF_cnt, seqF_ret, ts_nil, ts_cons, out_ret, out_next, ite_t, ite_f, bop_and_t, bop_and_f, bop_or_t, bop_or_f, bb_and_t, bb_and_f, bb_or_t, bb_or_f, slot_0, slot_s, e_con, b_con, e_var, b_var, e_glo, b_glo, e_tup, b_tup, e_lst, b_lst, e_dct, b_dct, e_op, b_op, e_neg, b_neg, e_not, b_not, e_bop, b_bop, e_cmp, b_cmp, e_chn, b_chn, e_ifx, b_ifx, e_ix, b_ix, e_sl, b_sl, e_call, b_call, e_callK, e_fnv, e_callL, fnIx_fn, e_bi, b_bi, e_mxd, b_mxd, e_isi, b_isi, e_isl, b_isl, e_lrg, b_lrg, e_mt, b_mt, e_lc, b_lc, e_rev, b_rev, e_gtp, e_lrg1, i_rng3, bop_1, bop_2, bb_1, bb_2, es_nil, es_cons, eo_none, eo_some, if_none, if_some, i_ex, i_rng1, i_rng2, i_enm, q_nm, q_tp, q_sb, setK_some, qs_nil, qs_cons, t_asg, t_aug, t_ex, t_ret, t_retN, t_iff, t_fr, t_whl, t_brk, t_cnt, t_pas, con_none, con_bool, con_int, con_str, neg_int, not_bl, int_int, add_int, sub_int, lt_int, le_int, gt_int, ge_int, eq_int, ne_int, is_nn, is_in, is_bb, isn_nn, isn_in, isn_bb, tr_non, tr_bl, tr_int, ty_non, ty_bl, ty_int, ty_tup, ty_ro, isa_int_int, isa_int_bool, isa_int_list, isa_int_tuple, isa_list_list, isa_list_tuple, isa_tuple_list, isa_tuple_tuple, sq_tup, sq_ro, bi_int_int, bi_int_bl, bi_tuple_tup, bi_min, bi_max, bi_len_tup, bi_len_ro, ix_tup, ix_ro, sl_tup, sl_ro, stays_tup, stays_ro, at_0, at_1, gc_ai, gc_aai, gc_aaai, gc_ab, gc_aab, gc_aaab, gc_an, gc_aan, gc_aaan, gc_same, wipe_nil, wipe_cons, sz_0, sz_1, sz_2, sz_3, sz_4, sz_5, sz_6, sz_7, sz_8, sz_9, sz_10, runDef, runFull, Def.full, startD, List.length_cons, List.length_nil, List.map_cons, List.map_nil, List.append_nil, List.nil_append, List.cons_append, List.drop_nil, List.drop_zero, List.drop_succ_cons, List.set_cons_zero, List.set_cons_succ, List.replicate, if_true, if_false, Bool.not_true, Bool.not_false, Bool.true_or, Bool.false_or, Option.map_some, Option.map_none, Nat.zero_add, Nat.add_zero, Nat.sub_self, Nat.reduceAdd, Nat.reduceSub, ↓reduceIte, Bool.and_true, Bool.true_and, Bool.false_and, Bool.and_false, Int.cast_ofNat_Int, decide_true, decide_false, Int.reduceEq, Int.reduceLT, Int.reduceLE, Bool.false_eq_true, tuple_loc look_new, gc_tupa (prs_pure tw)]
theorem gc_kDa {S T : Store} {o : Option Int} : gc S (kD o) (S ++ T) = (kD o, S) := gc_app (pure_kD o)

abbrev src (a b c : Int) : MO := .lst [.int a, .int b, .int c]
theorem next_of (k : Nat) {m : Nat} {S : Store} {a b c many : Int} (hs : lk S m = some (src a b c)) (h1 : 0 < many) (h2 : many.natAbs.log2 < 9000) :
    ∃ r a' c', orc defs (k + 1) 14 [.loc m, .int many] S = some (.int r, S.set m (src a' b c')) ∧ 0 ≤ r ∧ r < many := by
  rw [orc_at (d := d__law_next) rfl]
  have hm := Int.emod_nonneg
  by_cases h : 0 < a
  · refine ⟨a % many, a / many, c, ?_, Int.emod_nonneg _ (by omega), Int.emod_lt_of_pos _ h1⟩
    simp only [d__law_next, b__law_next, bnd_some, bnd_none, opt_some, opt_none, seqF_next, seqF_brk, seqF_cnt, seqF_ret, ts_nil, ts_cons, out_ret, out_next, ite_t, ite_f, bop_and_t, bop_and_f, bop_or_t, bop_or_f, bb_and_t, bb_and_f, bb_or_t, bb_or_f, slot_0, slot_s, e_con, b_con, e_var, b_var, e_glo, b_glo, e_tup, b_tup, e_lst, b_lst, e_dct, b_dct, e_op, b_op, e_neg, b_neg, e_not, b_not, e_bop, b_bop, e_cmp, b_cmp, e_chn, b_chn, e_ifx, b_ifx, e_ix, b_ix, e_sl, b_sl, e_call, b_call, e_callK, e_fnv, e_callL, fnIx_fn, e_bi, b_bi, e_mxd, b_mxd, e_isi, b_isi, e_isl, b_isl, e_lrg, b_lrg, e_mt, b_mt, e_lc, b_lc, e_rev, b_rev, e_gtp, e_lrg1, i_rng3, bop_1, bop_2, bb_1, bb_2, es_nil, es_cons, eo_none, eo_some, if_none, if_some, i_ex, i_rng1, i_rng2, i_enm, q_nm, q_tp, q_sb, setK_some, qs_nil, qs_cons, t_asg, t_aug, t_ex, t_ret, t_retN, t_iff, t_fr, t_whl, t_brk, t_cnt, t_pas, con_none, con_bool, con_int, con_str, neg_int, not_bl, int_int, add_int, sub_int, lt_int, le_int, gt_int, ge_int, eq_int, ne_int, is_nn, is_in, is_bb, isn_nn, isn_in, isn_bb, tr_non, tr_bl, tr_int, ty_non, ty_bl, ty_int, ty_tup, ty_ro, isa_int_int, isa_int_bool, isa_int_list, isa_int_tuple, isa_list_list, isa_list_tuple, isa_tuple_list, isa_tuple_tuple, sq_tup, sq_ro, bi_int_int, bi_int_bl, bi_tuple_tup, bi_min, bi_max, bi_len_tup, bi_len_ro, ix_tup, ix_ro, sl_tup, sl_ro, stays_tup, stays_ro, at_0, at_1, gc_ai, gc_aai, gc_aaai, gc_ab, gc_aab, gc_aaab, gc_an, gc_aan, gc_aaan, gc_same, wipe_nil, wipe_cons, sz_0, sz_1, sz_2, sz_3, sz_4, sz_5, sz_6, sz_7, sz_8, sz_9, sz_10, runDef, runFull, Def.full, startD, List.length_cons, List.length_nil, List.map_cons, List.map_nil, List.append_nil, List.nil_append, List.cons_append, List.drop_nil, List.drop_zero, List.drop_succ_cons, List.set_cons_zero, List.set_cons_succ, List.replicate, if_true, if_false, Bool.not_true, Bool.not_false, Bool.true_or, Bool.false_or, Option.map_some, Option.map_none, Nat.zero_add, Nat.add_zero, Nat.sub_self, Nat.reduceAdd, Nat.reduceSub, ↓reduceIte, Bool.and_true, Bool.true_and, Bool.false_and, Bool.and_false, Int.cast_ofNat_Int, decide_true, decide_false, Int.reduceEq, Int.reduceLT, Int.reduceLE, Bool.false_eq_true, List.append_assoc, List.length_append, lk_app, lk_app0, lk_sapp, lk_sapp0, lk_z, lk_s, st_app, st_app0, st_sapp, st_sapp0, len_set, set_set, sq_lk, ix_lk, sl_lk, len_lk, tuple_lk, list_lk, list_tup, ty_lk, stays_lk, set_lk, add_lk, app_lk, ext_lk, clear_lk, recv_lk, get2_lk, tr_lk, gp_0, gp_1, gp_2, gp_3, gp_4, gp_5, gp_6, gp_7, gp_8, ko_n, ko_s, ko_p, gq_1, gq_2, gq_3, gq_4, gq_5, gq_6, gq_7, gq_8, gq_9, gq_10, gq_11, gq_12, gq_13, gq_14, gq_15, gq_16, gcR, Nat.lt_irrefl, Nat.not_lt_zero, List.take_succ_cons, List.take_zero, List.take_nil, D.beqL_self, at_2, at_3, ixN, Nat.reduceLT, Nat.reduceLeDiff, Int.reduceToNat, Int.reduceNeg, Int.reduceSub, Int.reduceAdd, Int.reduceMul, sz_lt, Int.zero_add, mod_int, pr_int, pr_bl, pr_non, pr_str, pr_tup, pr_nil, pr_cons, pr_lst, pr_ints, pr_prs, pr_app, pr_kD, mt_1, mt_2, mt_3, mt_4, mt_5, mt_6, mt_7, rev_lk, max_lk, min_lk, sum_lk, any_lk, all_lk, count_lk, index_lk, pop_lk, eq_D, ne_D, eqD_ll, eqD_tt, eqL_ll, eqS_same, eqS_nil, eqS_ints, eqD_ii, eqD_kk, py_app, py_nil, py_cons, py_ints, py_int, py_bl, py_non, py_kD, py_links, py_prs, py_mapi, pr_mapi, pr_linksT, gt_np, pr_loc, pr_stps, pr_stp, aug_add, aug_sub, ko_app, take_left', len_aa, h, hs, lk_set hs, div_int h1 h2, mod_int h1]
  · have e1 : ∀ x : Int, (x % 2147483647).natAbs < 2 ^ 64 := fun x => natAbs_lt (n := 2147483647) (Int.emod_nonneg _ (by decide)) (Int.emod_lt_of_pos _ (by decide)) (by decide)
    have ⟨x, hx⟩ : ∃ x : Int, runDef (orc defs k) d__law_next [.loc m, .int many] S = some (.int (x % many), S.set m (src a b (c + 1))) := ⟨_, by
      simp only [d__law_next, b__law_next, bnd_some, bnd_none, opt_some, opt_none, seqF_next, seqF_brk, seqF_cnt, seqF_ret, ts_nil, ts_cons, out_ret, out_next, ite_t, ite_f, bop_and_t, bop_and_f, bop_or_t, bop_or_f, bb_and_t, bb_and_f, bb_or_t, bb_or_f, slot_0, slot_s, e_con, b_con, e_var, b_var, e_glo, b_glo, e_tup, b_tup, e_lst, b_lst, e_dct, b_dct, e_op, b_op, e_neg, b_neg, e_not, b_not, e_bop, b_bop, e_cmp, b_cmp, e_chn, b_chn, e_ifx, b_ifx, e_ix, b_ix, e_sl, b_sl, e_call, b_call, e_callK, e_fnv, e_callL, fnIx_fn, e_bi, b_bi, e_mxd, b_mxd, e_isi, b_isi, e_isl, b_isl, e_lrg, b_lrg, e_mt, b_mt, e_lc, b_lc, e_rev, b_rev, e_gtp, e_lrg1, i_rng3, bop_1, bop_2, bb_1, bb_2, es_nil, es_cons, eo_none, eo_some, if_none, if_some, i_ex, i_rng1, i_rng2, i_enm, q_nm, q_tp, q_sb, setK_some, qs_nil, qs_cons, t_asg, t_aug, t_ex, t_ret, t_retN, t_iff, t_fr, t_whl, t_brk, t_cnt, t_pas, con_none, con_bool, con_int, con_str, neg_int, not_bl, int_int, add_int, sub_int, lt_int, le_int, gt_int, ge_int, eq_int, ne_int, is_nn, is_in, is_bb, isn_nn, isn_in, isn_bb, tr_non, tr_bl, tr_int, ty_non, ty_bl, ty_int, ty_tup, ty_ro, isa_int_int, isa_int_bool, isa_int_list, isa_int_tuple, isa_list_list, isa_list_tuple, isa_tuple_list, isa_tuple_tuple, sq_tup, sq_ro, bi_int_int, bi_int_bl, bi_tuple_tup, bi_min, bi_max, bi_len_tup, bi_len_ro, ix_tup, ix_ro, sl_tup, sl_ro, stays_tup, stays_ro, at_0, at_1, gc_ai, gc_aai, gc_aaai, gc_ab, gc_aab, gc_aaab, gc_an, gc_aan, gc_aaan, gc_same, wipe_nil, wipe_cons, sz_0, sz_1, sz_2, sz_3, sz_4, sz_5, sz_6, sz_7, sz_8, sz_9, sz_10, runDef, runFull, Def.full, startD, List.length_cons, List.length_nil, List.map_cons, List.map_nil, List.append_nil, List.nil_append, List.cons_append, List.drop_nil, List.drop_zero, List.drop_succ_cons, List.set_cons_zero, List.set_cons_succ, List.replicate, if_true, if_false, Bool.not_true, Bool.not_false, Bool.true_or, Bool.false_or, Option.map_some, Option.map_none, Nat.zero_add, Nat.add_zero, Nat.sub_self, Nat.reduceAdd, Nat.reduceSub, ↓reduceIte, Bool.and_true, Bool.true_and, Bool.false_and, Bool.and_false, Int.cast_ofNat_Int, decide_true, decide_false, Int.reduceEq, Int.reduceLT, Int.reduceLE, Bool.false_eq_true, List.append_assoc, List.length_append, lk_app, lk_app0, lk_sapp, lk_sapp0, lk_z, lk_s, st_app, st_app0, st_sapp, st_sapp0, len_set, set_set, sq_lk, ix_lk, sl_lk, len_lk, tuple_lk, list_lk, list_tup, ty_lk, stays_lk, set_lk, add_lk, app_lk, ext_lk, clear_lk, recv_lk, get2_lk, tr_lk, gp_0, gp_1, gp_2, gp_3, gp_4, gp_5, gp_6, gp_7, gp_8, ko_n, ko_s, ko_p, gq_1, gq_2, gq_3, gq_4, gq_5, gq_6, gq_7, gq_8, gq_9, gq_10, gq_11, gq_12, gq_13, gq_14, gq_15, gq_16, gcR, Nat.lt_irrefl, Nat.not_lt_zero, List.take_succ_cons, List.take_zero, List.take_nil, D.beqL_self, at_2, at_3, ixN, Nat.reduceLT, Nat.reduceLeDiff, Int.reduceToNat, Int.reduceNeg, Int.reduceSub, Int.reduceAdd, Int.reduceMul, sz_lt, Int.zero_add, mod_int, pr_int, pr_bl, pr_non, pr_str, pr_tup, pr_nil, pr_cons, pr_lst, pr_ints, pr_prs, pr_app, pr_kD, mt_1, mt_2, mt_3, mt_4, mt_5, mt_6, mt_7, rev_lk, max_lk, min_lk, sum_lk, any_lk, all_lk, count_lk, index_lk, pop_lk, eq_D, ne_D, eqD_ll, eqD_tt, eqL_ll, eqS_same, eqS_nil, eqS_ints, eqD_ii, eqD_kk, py_app, py_nil, py_cons, py_ints, py_int, py_bl, py_non, py_kD, py_links, py_prs, py_mapi, pr_mapi, pr_linksT, gt_np, pr_loc, pr_stps, pr_stp, aug_add, aug_sub, ko_app, take_left', len_aa, h, hs, lk_set hs, mod_int h1, mul_l (show (104729 : Int).natAbs < 2 ^ 64 by decide), mul_r (show (48271 : Int).natAbs < 2 ^ 64 by decide), mul_l (e1 _), div_int (show (0 : Int) < 1009 by decide) (by decide), div_int (show (0 : Int) < 2003 by decide) (by decide), div_int (show (0 : Int) < 7 by decide) (by decide)]
      rfl⟩
    exact ⟨_, _, _, hx, Int.emod_nonneg _ (by omega), Int.emod_lt_of_pos _ h1⟩
theorem next_s (k : Nat) {m : Nat} {S L : Store} {mo : MO} {a b c many : Int} (hs : lk S m = some mo) (h1 : 0 < many) (h2 : many.natAbs.log2 < 9000) :
    ∃ r a' c', orc defs (k + 1) 14 [.loc m, .int many] (S.set m (src a b c) ++ L) = some (.int r, S.set m (src a' b c') ++ L) ∧ 0 ≤ r ∧ r < many := by
  obtain ⟨r, a', c', e, h⟩ := next_of k (many := many) (S := S.set m (src a b c) ++ L) (lk_seta hs) h1 h2
  rw [st_olds hs] at e
  exact ⟨r, a', c', e, h⟩

theorem source_of (k : Nat) (i : Int) (S : Store) : ∃ a b : Int, orc defs (k + 1) 13 [.int i] S = some (.loc S.length, S ++ [.lst [.int a, .int b, .int 0]]) := by
  rw [orc_at (d := d__law_source) rfl]
  have p18 : opD .Pow (.int 10) (.int 18) S = some (.int (10 ^ 18), S) := pow_int (n := 18) (by decide) (by decide)
  by_cases h : 0 ≤ i
  · exact ⟨_, _, by simp only [d__law_source, b__law_source, bnd_some, bnd_none, opt_some, opt_none, seqF_next, seqF_brk, seqF_cnt, seqF_ret, ts_nil, ts_cons, out_ret, out_next, ite_t, ite_f, bop_and_t, bop_and_f, bop_or_t, bop_or_f, bb_and_t, bb_and_f, bb_or_t, bb_or_f, slot_0, slot_s, e_con, b_con, e_var, b_var, e_glo, b_glo, e_tup, b_tup, e_lst, b_lst, e_dct, b_dct, e_op, b_op, e_neg, b_neg, e_not, b_not, e_bop, b_bop, e_cmp, b_cmp, e_chn, b_chn, e_ifx, b_ifx, e_ix, b_ix, e_sl, b_sl, e_call, b_call, e_callK, e_fnv, e_callL, fnIx_fn, e_bi, b_bi, e_mxd, b_mxd, e_isi, b_isi, e_isl, b_isl, e_lrg, b_lrg, e_mt, b_mt, e_lc, b_lc, e_rev, b_rev, e_gtp, e_lrg1, i_rng3, bop_1, bop_2, bb_1, bb_2, es_nil, es_cons, eo_none, eo_some, if_none, if_some, i_ex, i_rng1, i_rng2, i_enm, q_nm, q_tp, q_sb, setK_some, qs_nil, qs_cons, t_asg, t_aug, t_ex, t_ret, t_retN, t_iff, t_fr, t_whl, t_brk, t_cnt, t_pas, con_none, con_bool, con_int, con_str, neg_int, not_bl, int_int, add_int, sub_int, lt_int, le_int, gt_int, ge_int, eq_int, ne_int, is_nn, is_in, is_bb, isn_nn, isn_in, isn_bb, tr_non, tr_bl, tr_int, ty_non, ty_bl, ty_int, ty_tup, ty_ro, isa_int_int, isa_int_bool, isa_int_list, isa_int_tuple, isa_list_list, isa_list_tuple, isa_tuple_list, isa_tuple_tuple, sq_tup, sq_ro, bi_int_int, bi_int_bl, bi_tuple_tup, bi_min, bi_max, bi_len_tup, bi_len_ro, ix_tup, ix_ro, sl_tup, sl_ro, stays_tup, stays_ro, at_0, at_1, gc_ai, gc_aai, gc_aaai, gc_ab, gc_aab, gc_aaab, gc_an, gc_aan, gc_aaan, gc_same, wipe_nil, wipe_cons, sz_0, sz_1, sz_2, sz_3, sz_4, sz_5, sz_6, sz_7, sz_8, sz_9, sz_10, runDef, runFull, Def.full, startD, List.length_cons, List.length_nil, List.map_cons, List.map_nil, List.append_nil, List.nil_append, List.cons_append, List.drop_nil, List.drop_zero, List.drop_succ_cons, List.set_cons_zero, List.set_cons_succ, List.replicate, if_true, if_false, Bool.not_true, Bool.not_false, Bool.true_or, Bool.false_or, Option.map_some, Option.map_none, Nat.zero_add, Nat.add_zero, Nat.sub_self, Nat.reduceAdd, Nat.reduceSub, ↓reduceIte, Bool.and_true, Bool.true_and, Bool.false_and, Bool.and_false, Int.cast_ofNat_Int, decide_true, decide_false, Int.reduceEq, Int.reduceLT, Int.reduceLE, Bool.false_eq_true, List.append_assoc, List.length_append, lk_app, lk_app0, lk_sapp, lk_sapp0, lk_z, lk_s, st_app, st_app0, st_sapp, st_sapp0, len_set, set_set, sq_lk, ix_lk, sl_lk, len_lk, tuple_lk, list_lk, list_tup, ty_lk, stays_lk, set_lk, add_lk, app_lk, ext_lk, clear_lk, recv_lk, get2_lk, tr_lk, gp_0, gp_1, gp_2, gp_3, gp_4, gp_5, gp_6, gp_7, gp_8, ko_n, ko_s, ko_p, gq_1, gq_2, gq_3, gq_4, gq_5, gq_6, gq_7, gq_8, gq_9, gq_10, gq_11, gq_12, gq_13, gq_14, gq_15, gq_16, gcR, Nat.lt_irrefl, Nat.not_lt_zero, List.take_succ_cons, List.take_zero, List.take_nil, D.beqL_self, at_2, at_3, ixN, Nat.reduceLT, Nat.reduceLeDiff, Int.reduceToNat, Int.reduceNeg, Int.reduceSub, Int.reduceAdd, Int.reduceMul, sz_lt, Int.zero_add, mod_int, pr_int, pr_bl, pr_non, pr_str, pr_tup, pr_nil, pr_cons, pr_lst, pr_ints, pr_prs, pr_app, pr_kD, mt_1, mt_2, mt_3, mt_4, mt_5, mt_6, mt_7, rev_lk, max_lk, min_lk, sum_lk, any_lk, all_lk, count_lk, index_lk, pop_lk, eq_D, ne_D, eqD_ll, eqD_tt, eqL_ll, eqS_same, eqS_nil, eqS_ints, eqD_ii, eqD_kk, py_app, py_nil, py_cons, py_ints, py_int, py_bl, py_non, py_kD, py_links, py_prs, py_mapi, pr_mapi, pr_linksT, gt_np, pr_loc, pr_stps, pr_stp, aug_add, aug_sub, ko_app, take_left', len_aa, h, p18, mul_r (natAbs_01 _)]; rfl⟩
  · exact ⟨_, _, by simp only [d__law_source, b__law_source, bnd_some, bnd_none, opt_some, opt_none, seqF_next, seqF_brk, seqF_cnt, seqF_ret, ts_nil, ts_cons, out_ret, out_next, ite_t, ite_f, bop_and_t, bop_and_f, bop_or_t, bop_or_f, bb_and_t, bb_and_f, bb_or_t, bb_or_f, slot_0, slot_s, e_con, b_con, e_var, b_var, e_glo, b_glo, e_tup, b_tup, e_lst, b_lst, e_dct, b_dct, e_op, b_op, e_neg, b_neg, e_not, b_not, e_bop, b_bop, e_cmp, b_cmp, e_chn, b_chn, e_ifx, b_ifx, e_ix, b_ix, e_sl, b_sl, e_call, b_call, e_callK, e_fnv, e_callL, fnIx_fn, e_bi, b_bi, e_mxd, b_mxd, e_isi, b_isi, e_isl, b_isl, e_lrg, b_lrg, e_mt, b_mt, e_lc, b_lc, e_rev, b_rev, e_gtp, e_lrg1, i_rng3, bop_1, bop_2, bb_1, bb_2, es_nil, es_cons, eo_none, eo_some, if_none, if_some, i_ex, i_rng1, i_rng2, i_enm, q_nm, q_tp, q_sb, setK_some, qs_nil, qs_cons, t_asg, t_aug, t_ex, t_ret, t_retN, t_iff, t_fr, t_whl, t_brk, t_cnt, t_pas, con_none, con_bool, con_int, con_str, neg_int, not_bl, int_int, add_int, sub_int, lt_int, le_int, gt_int, ge_int, eq_int, ne_int, is_nn, is_in, is_bb, isn_nn, isn_in, isn_bb, tr_non, tr_bl, tr_int, ty_non, ty_bl, ty_int, ty_tup, ty_ro, isa_int_int, isa_int_bool, isa_int_list, isa_int_tuple, isa_list_list, isa_list_tuple, isa_tuple_list, isa_tuple_tuple, sq_tup, sq_ro, bi_int_int, bi_int_bl, bi_tuple_tup, bi_min, bi_max, bi_len_tup, bi_len_ro, ix_tup, ix_ro, sl_tup, sl_ro, stays_tup, stays_ro, at_0, at_1, gc_ai, gc_aai, gc_aaai, gc_ab, gc_aab, gc_aaab, gc_an, gc_aan, gc_aaan, gc_same, wipe_nil, wipe_cons, sz_0, sz_1, sz_2, sz_3, sz_4, sz_5, sz_6, sz_7, sz_8, sz_9, sz_10, runDef, runFull, Def.full, startD, List.length_cons, List.length_nil, List.map_cons, List.map_nil, List.append_nil, List.nil_append, List.cons_append, List.drop_nil, List.drop_zero, List.drop_succ_cons, List.set_cons_zero, List.set_cons_succ, List.replicate, if_true, if_false, Bool.not_true, Bool.not_false, Bool.true_or, Bool.false_or, Option.map_some, Option.map_none, Nat.zero_add, Nat.add_zero, Nat.sub_self, Nat.reduceAdd, Nat.reduceSub, ↓reduceIte, Bool.and_true, Bool.true_and, Bool.false_and, Bool.and_false, Int.cast_ofNat_Int, decide_true, decide_false, Int.reduceEq, Int.reduceLT, Int.reduceLE, Bool.false_eq_true, List.append_assoc, List.length_append, lk_app, lk_app0, lk_sapp, lk_sapp0, lk_z, lk_s, st_app, st_app0, st_sapp, st_sapp0, len_set, set_set, sq_lk, ix_lk, sl_lk, len_lk, tuple_lk, list_lk, list_tup, ty_lk, stays_lk, set_lk, add_lk, app_lk, ext_lk, clear_lk, recv_lk, get2_lk, tr_lk, gp_0, gp_1, gp_2, gp_3, gp_4, gp_5, gp_6, gp_7, gp_8, ko_n, ko_s, ko_p, gq_1, gq_2, gq_3, gq_4, gq_5, gq_6, gq_7, gq_8, gq_9, gq_10, gq_11, gq_12, gq_13, gq_14, gq_15, gq_16, gcR, Nat.lt_irrefl, Nat.not_lt_zero, List.take_succ_cons, List.take_zero, List.take_nil, D.beqL_self, at_2, at_3, ixN, Nat.reduceLT, Nat.reduceLeDiff, Int.reduceToNat, Int.reduceNeg, Int.reduceSub, Int.reduceAdd, Int.reduceMul, sz_lt, Int.zero_add, mod_int, pr_int, pr_bl, pr_non, pr_str, pr_tup, pr_nil, pr_cons, pr_lst, pr_ints, pr_prs, pr_app, pr_kD, mt_1, mt_2, mt_3, mt_4, mt_5, mt_6, mt_7, rev_lk, max_lk, min_lk, sum_lk, any_lk, all_lk, count_lk, index_lk, pop_lk, eq_D, ne_D, eqD_ll, eqD_tt, eqL_ll, eqS_same, eqS_nil, eqS_ints, eqD_ii, eqD_kk, py_app, py_nil, py_cons, py_ints, py_int, py_bl, py_non, py_kD, py_links, py_prs, py_mapi, pr_mapi, pr_linksT, gt_np, pr_loc, pr_stps, pr_stp, aug_add, aug_sub, ko_app, take_left', len_aa, h, p18, mul_r (natAbs_01 _), mul_l (show (3 : Int).natAbs < 2 ^ 64 by decide)]; rfl⟩
theorem grown_of : ∀ (n k : Nat) (tw : Tws) (S : Store), tw.length ≤ n → ∃ t, Cart tw t ∧ orc defs (k + n + 1) 7 [.tup (tw.map prD)] S = some (trD t, S) := by
  intro n
  induction n with
  | zero =>
    intro k tw S hl
    have : tw = [] := List.length_eq_zero_iff.mp (by omega)
    subst this
    refine ⟨.nil, .nil, ?_⟩
    rw [orc_at (d := d_grown) rfl]
    simp only [d_grown, b_grown, bnd_some, bnd_none, opt_some, opt_none, seqF_next, seqF_brk, seqF_cnt, seqF_ret, ts_nil, ts_cons, out_ret, out_next, ite_t, ite_f, bop_and_t, bop_and_f, bop_or_t, bop_or_f, bb_and_t, bb_and_f, bb_or_t, bb_or_f, slot_0, slot_s, e_con, b_con, e_var, b_var, e_glo, b_glo, e_tup, b_tup, e_lst, b_lst, e_dct, b_dct, e_op, b_op, e_neg, b_neg, e_not, b_not, e_bop, b_bop, e_cmp, b_cmp, e_chn, b_chn, e_ifx, b_ifx, e_ix, b_ix, e_sl, b_sl, e_call, b_call, e_callK, e_fnv, e_callL, fnIx_fn, e_bi, b_bi, e_mxd, b_mxd, e_isi, b_isi, e_isl, b_isl, e_lrg, b_lrg, e_mt, b_mt, e_lc, b_lc, e_rev, b_rev, e_gtp, e_lrg1, i_rng3, bop_1, bop_2, bb_1, bb_2, es_nil, es_cons, eo_none, eo_some, if_none, if_some, i_ex, i_rng1, i_rng2, i_enm, q_nm, q_tp, q_sb, setK_some, qs_nil, qs_cons, t_asg, t_aug, t_ex, t_ret, t_retN, t_iff, t_fr, t_whl, t_brk, t_cnt, t_pas, con_none, con_bool, con_int, con_str, neg_int, not_bl, int_int, add_int, sub_int, lt_int, le_int, gt_int, ge_int, eq_int, ne_int, is_nn, is_in, is_bb, isn_nn, isn_in, isn_bb, tr_non, tr_bl, tr_int, ty_non, ty_bl, ty_int, ty_tup, ty_ro, isa_int_int, isa_int_bool, isa_int_list, isa_int_tuple, isa_list_list, isa_list_tuple, isa_tuple_list, isa_tuple_tuple, sq_tup, sq_ro, bi_int_int, bi_int_bl, bi_tuple_tup, bi_min, bi_max, bi_len_tup, bi_len_ro, ix_tup, ix_ro, sl_tup, sl_ro, stays_tup, stays_ro, at_0, at_1, gc_ai, gc_aai, gc_aaai, gc_ab, gc_aab, gc_aaab, gc_an, gc_aan, gc_aaan, gc_same, wipe_nil, wipe_cons, sz_0, sz_1, sz_2, sz_3, sz_4, sz_5, sz_6, sz_7, sz_8, sz_9, sz_10, runDef, runFull, Def.full, startD, List.length_cons, List.length_nil, List.map_cons, List.map_nil, List.append_nil, List.nil_append, List.cons_append, List.drop_nil, List.drop_zero, List.drop_succ_cons, List.set_cons_zero, List.set_cons_succ, List.replicate, if_true, if_false, Bool.not_true, Bool.not_false, Bool.true_or, Bool.false_or, Option.map_some, Option.map_none, Nat.zero_add, Nat.add_zero, Nat.sub_self, Nat.reduceAdd, Nat.reduceSub, ↓reduceIte, Bool.and_true, Bool.true_and, Bool.false_and, Bool.and_false, Int.cast_ofNat_Int, decide_true, decide_false, Int.reduceEq, Int.reduceLT, Int.reduceLE, Bool.false_eq_true, List.append_assoc, List.length_append, lk_app, lk_app0, lk_sapp, lk_sapp0, lk_z, lk_s, st_app, st_app0, st_sapp, st_sapp0, len_set, set_set, sq_lk, ix_lk, sl_lk, len_lk, tuple_lk, list_lk, list_tup, ty_lk, stays_lk, set_lk, add_lk, app_lk, ext_lk, clear_lk, recv_lk, get2_lk, tr_lk, gp_0, gp_1, gp_2, gp_3, gp_4, gp_5, gp_6, gp_7, gp_8, ko_n, ko_s, ko_p, gq_1, gq_2, gq_3, gq_4, gq_5, gq_6, gq_7, gq_8, gq_9, gq_10, gq_11, gq_12, gq_13, gq_14, gq_15, gq_16, gcR, Nat.lt_irrefl, Nat.not_lt_zero, List.take_succ_cons, List.take_zero, List.take_nil, D.beqL_self, at_2, at_3, ixN, Nat.reduceLT, Nat.reduceLeDiff, Int.reduceToNat, Int.reduceNeg, Int.reduceSub, Int.reduceAdd, Int.reduceMul, sz_lt, Int.zero_add, mod_int, pr_int, pr_bl, pr_non, pr_str, pr_tup, pr_nil, pr_cons, pr_lst, pr_ints, pr_prs, pr_app, pr_kD, mt_1, mt_2, mt_3, mt_4, mt_5, mt_6, mt_7, rev_lk, max_lk, min_lk, sum_lk, any_lk, all_lk, count_lk, index_lk, pop_lk, eq_D, ne_D, eqD_ll, eqD_tt, eqL_ll, eqS_same, eqS_nil, eqS_ints, eqD_ii, eqD_kk, py_app, py_nil, py_cons, py_ints, py_int, py_bl, py_non, py_kD, py_links, py_prs, py_mapi, pr_mapi, pr_linksT, gt_np, pr_loc, pr_stps, pr_stp, aug_add, aug_sub, ko_app, take_left', len_aa]
    rfl
  | succ n ih =>
    intro k tw S hl
    cases tw with
    | nil =>
      refine ⟨.nil, .nil, ?_⟩
      rw [orc_at (d := d_grown) rfl]
      simp only [d_grown, b_grown, bnd_some, bnd_none, opt_some, opt_none, seqF_next, seqF_brk, seqF_cnt, seqF_ret, ts_nil, ts_cons, out_ret, out_next, ite_t, ite_f, bop_and_t, bop_and_f, bop_or_t, bop_or_f, bb_and_t, bb_and_f, bb_or_t, bb_or_f, slot_0, slot_s, e_con, b_con, e_var, b_var, e_glo, b_glo, e_tup, b_tup, e_lst, b_lst, e_dct, b_dct, e_op, b_op, e_neg, b_neg, e_not, b_not, e_bop, b_bop, e_cmp, b_cmp, e_chn, b_chn, e_ifx, b_ifx, e_ix, b_ix, e_sl, b_sl, e_call, b_call, e_callK, e_fnv, e_callL, fnIx_fn, e_bi, b_bi, e_mxd, b_mxd, e_isi, b_isi, e_isl, b_isl, e_lrg, b_lrg, e_mt, b_mt, e_lc, b_lc, e_rev, b_rev, e_gtp, e_lrg1, i_rng3, bop_1, bop_2, bb_1, bb_2, es_nil, es_cons, eo_none, eo_some, if_none, if_some, i_ex, i_rng1, i_rng2, i_enm, q_nm, q_tp, q_sb, setK_some, qs_nil, qs_cons, t_asg, t_aug, t_ex, t_ret, t_retN, t_iff, t_fr, t_whl, t_brk, t_cnt, t_pas, con_none, con_bool, con_int, con_str, neg_int, not_bl, int_int, add_int, sub_int, lt_int, le_int, gt_int, ge_int, eq_int, ne_int, is_nn, is_in, is_bb, isn_nn, isn_in, isn_bb, tr_non, tr_bl, tr_int, ty_non, ty_bl, ty_int, ty_tup, ty_ro, isa_int_int, isa_int_bool, isa_int_list, isa_int_tuple, isa_list_list, isa_list_tuple, isa_tuple_list, isa_tuple_tuple, sq_tup, sq_ro, bi_int_int, bi_int_bl, bi_tuple_tup, bi_min, bi_max, bi_len_tup, bi_len_ro, ix_tup, ix_ro, sl_tup, sl_ro, stays_tup, stays_ro, at_0, at_1, gc_ai, gc_aai, gc_aaai, gc_ab, gc_aab, gc_aaab, gc_an, gc_aan, gc_aaan, gc_same, wipe_nil, wipe_cons, sz_0, sz_1, sz_2, sz_3, sz_4, sz_5, sz_6, sz_7, sz_8, sz_9, sz_10, runDef, runFull, Def.full, startD, List.length_cons, List.length_nil, List.map_cons, List.map_nil, List.append_nil, List.nil_append, List.cons_append, List.drop_nil, List.drop_zero, List.drop_succ_cons, List.set_cons_zero, List.set_cons_succ, List.replicate, if_true, if_false, Bool.not_true, Bool.not_false, Bool.true_or, Bool.false_or, Option.map_some, Option.map_none, Nat.zero_add, Nat.add_zero, Nat.sub_self, Nat.reduceAdd, Nat.reduceSub, ↓reduceIte, Bool.and_true, Bool.true_and, Bool.false_and, Bool.and_false, Int.cast_ofNat_Int, decide_true, decide_false, Int.reduceEq, Int.reduceLT, Int.reduceLE, Bool.false_eq_true, List.append_assoc, List.length_append, lk_app, lk_app0, lk_sapp, lk_sapp0, lk_z, lk_s, st_app, st_app0, st_sapp, st_sapp0, len_set, set_set, sq_lk, ix_lk, sl_lk, len_lk, tuple_lk, list_lk, list_tup, ty_lk, stays_lk, set_lk, add_lk, app_lk, ext_lk, clear_lk, recv_lk, get2_lk, tr_lk, gp_0, gp_1, gp_2, gp_3, gp_4, gp_5, gp_6, gp_7, gp_8, ko_n, ko_s, ko_p, gq_1, gq_2, gq_3, gq_4, gq_5, gq_6, gq_7, gq_8, gq_9, gq_10, gq_11, gq_12, gq_13, gq_14, gq_15, gq_16, gcR, Nat.lt_irrefl, Nat.not_lt_zero, List.take_succ_cons, List.take_zero, List.take_nil, D.beqL_self, at_2, at_3, ixN, Nat.reduceLT, Nat.reduceLeDiff, Int.reduceToNat, Int.reduceNeg, Int.reduceSub, Int.reduceAdd, Int.reduceMul, sz_lt, Int.zero_add, mod_int, pr_int, pr_bl, pr_non, pr_str, pr_tup, pr_nil, pr_cons, pr_lst, pr_ints, pr_prs, pr_app, pr_kD, mt_1, mt_2, mt_3, mt_4, mt_5, mt_6, mt_7, rev_lk, max_lk, min_lk, sum_lk, any_lk, all_lk, count_lk, index_lk, pop_lk, eq_D, ne_D, eqD_ll, eqD_tt, eqL_ll, eqS_same, eqS_nil, eqS_ints, eqD_ii, eqD_kk, py_app, py_nil, py_cons, py_ints, py_int, py_bl, py_non, py_kD, py_links, py_prs, py_mapi, pr_mapi, pr_linksT, gt_np, pr_loc, pr_stps, pr_stp, aug_add, aug_sub, ko_app, take_left', len_aa]
      rfl
    | cons p r =>
      rw [show k + (n + 1) + 1 = (k + n + 1) + 1 by omega, orc_at (d := d_grown) rfl]
      obtain ⟨tw, htw⟩ : ∃ tw, tw = p :: r := ⟨_, rfl⟩
      have hem : (tw.map prD).isEmpty = false := by rw [htw]; rfl
      have h0 : atI (tw.map prD) 0 = some (prD p) := by rw [htw]; exact at_0
      have hpy : pyOk S (tw.map prD) = true := py_prs ..
      rw [← htw] at hl ⊢
      simp only [d_grown, b_grown, bnd_some, bnd_none, opt_some, opt_none, seqF_next, seqF_brk, seqF_cnt, seqF_ret, ts_nil, ts_cons, out_ret, out_next, ite_t, ite_f, bop_and_t, bop_and_f, bop_or_t, bop_or_f, bb_and_t, bb_and_f, bb_or_t, bb_or_f, slot_0, slot_s, e_con, b_con, e_var, b_var, e_glo, b_glo, e_tup, b_tup, e_lst, b_lst, e_dct, b_dct, e_op, b_op, e_neg, b_neg, e_not, b_not, e_bop, b_bop, e_cmp, b_cmp, e_chn, b_chn, e_ifx, b_ifx, e_ix, b_ix, e_sl, b_sl, e_call, b_call, e_callK, e_fnv, e_callL, fnIx_fn, e_bi, b_bi, e_mxd, b_mxd, e_isi, b_isi, e_isl, b_isl, e_lrg, b_lrg, e_mt, b_mt, e_lc, b_lc, e_rev, b_rev, e_gtp, e_lrg1, i_rng3, bop_1, bop_2, bb_1, bb_2, es_nil, es_cons, eo_none, eo_some, if_none, if_some, i_ex, i_rng1, i_rng2, i_enm, q_nm, q_tp, q_sb, setK_some, qs_nil, qs_cons, t_asg, t_aug, t_ex, t_ret, t_retN, t_iff, t_fr, t_whl, t_brk, t_cnt, t_pas, con_none, con_bool, con_int, con_str, neg_int, not_bl, int_int, add_int, sub_int, lt_int, le_int, gt_int, ge_int, eq_int, ne_int, is_nn, is_in, is_bb, isn_nn, isn_in, isn_bb, tr_non, tr_bl, tr_int, ty_non, ty_bl, ty_int, ty_tup, ty_ro, isa_int_int, isa_int_bool, isa_int_list, isa_int_tuple, isa_list_list, isa_list_tuple, isa_tuple_list, isa_tuple_tuple, sq_tup, sq_ro, bi_int_int, bi_int_bl, bi_tuple_tup, bi_min, bi_max, bi_len_tup, bi_len_ro, ix_tup, ix_ro, sl_tup, sl_ro, stays_tup, stays_ro, at_0, at_1, gc_ai, gc_aai, gc_aaai, gc_ab, gc_aab, gc_aaab, gc_an, gc_aan, gc_aaan, gc_same, wipe_nil, wipe_cons, sz_0, sz_1, sz_2, sz_3, sz_4, sz_5, sz_6, sz_7, sz_8, sz_9, sz_10, runDef, runFull, Def.full, startD, List.length_cons, List.length_nil, List.map_cons, List.map_nil, List.append_nil, List.nil_append, List.cons_append, List.drop_nil, List.drop_zero, List.drop_succ_cons, List.set_cons_zero, List.set_cons_succ, List.replicate, if_true, if_false, Bool.not_true, Bool.not_false, Bool.true_or, Bool.false_or, Option.map_some, Option.map_none, Nat.zero_add, Nat.add_zero, Nat.sub_self, Nat.reduceAdd, Nat.reduceSub, ↓reduceIte, Bool.and_true, Bool.true_and, Bool.false_and, Bool.and_false, Int.cast_ofNat_Int, decide_true, decide_false, Int.reduceEq, Int.reduceLT, Int.reduceLE, Bool.false_eq_true, List.append_assoc, List.length_append, lk_app, lk_app0, lk_sapp, lk_sapp0, lk_z, lk_s, st_app, st_app0, st_sapp, st_sapp0, len_set, set_set, sq_lk, ix_lk, sl_lk, len_lk, tuple_lk, list_lk, list_tup, ty_lk, stays_lk, set_lk, add_lk, app_lk, ext_lk, clear_lk, recv_lk, get2_lk, tr_lk, gp_0, gp_1, gp_2, gp_3, gp_4, gp_5, gp_6, gp_7, gp_8, ko_n, ko_s, ko_p, gq_1, gq_2, gq_3, gq_4, gq_5, gq_6, gq_7, gq_8, gq_9, gq_10, gq_11, gq_12, gq_13, gq_14, gq_15, gq_16, gcR, Nat.lt_irrefl, Nat.not_lt_zero, List.take_succ_cons, List.take_zero, List.take_nil, D.beqL_self, at_2, at_3, ixN, Nat.reduceLT, Nat.reduceLeDiff, Int.reduceToNat, Int.reduceNeg, Int.reduceSub, Int.reduceAdd, Int.reduceMul, sz_lt, Int.zero_add, mod_int, pr_int, pr_bl, pr_non, pr_str, pr_tup, pr_nil, pr_cons, pr_lst, pr_ints, pr_prs, pr_app, pr_kD, mt_1, mt_2, mt_3, mt_4, mt_5, mt_6, mt_7, rev_lk, max_lk, min_lk, sum_lk, any_lk, all_lk, count_lk, index_lk, pop_lk, eq_D, ne_D, eqD_ll, eqD_tt, eqL_ll, eqS_same, eqS_nil, eqS_ints, eqD_ii, eqD_kk, py_app, py_nil, py_cons, py_ints, py_int, py_bl, py_non, py_kD, py_links, py_prs, py_mapi, pr_mapi, pr_linksT, gt_np, pr_loc, pr_stps, pr_stp, aug_add, aug_sub, ko_app, take_left', len_aa, hem, h0, hpy, prD]
      generalize hX : forD _ _ _ _ _ _ = X
      have key := for_E hX (fun i rest σ T => T = S ∧ ∃ (A : Tws) (x : Int × Int) (B : Tws) (a b c : Option D), σ = [some (.tup (tw.map prD)), some (.int (A.length : Nat)), some (.int x.1), some (.int x.2), a, b, c] ∧ tw = A ++ x :: B ∧ (∀ a ∈ A, a.2 < x.2) ∧ ((i = 0 ∧ A = [] ∧ rest = x :: B) ∨ ∃ B1, B = B1 ++ rest ∧ i = A.length + 1 + B1.length ∧ ∀ b ∈ B1, b.2 ≤ x.2))
        (fun X => ∃ (A : Tws) (x : Int × Int) (B : Tws) (a b c : Option D), X = some (.next [some (.tup (tw.map prD)), some (.int (A.length : Nat)), some (.int x.1), some (.int x.2), a, b, c], S) ∧ tw = A ++ x :: B ∧ (∀ a ∈ A, a.2 < x.2) ∧ ∀ b ∈ B, b.2 ≤ x.2)
        ⟨rfl, [], p, r, _, _, _, rfl, htw, (fun _ z => by cases z), .inl ⟨rfl, rfl, htw⟩⟩ ?_ ?_
      · obtain ⟨A, x, B, a, b, c, rfl, e, h1, h2⟩ := key
        have hA : A.length ≤ n ∧ B.length ≤ n := by
          have := congrArg List.length e
          rw [List.length_append, List.length_cons] at this
          omega
        obtain ⟨l, c1, g1⟩ := ih k A S hA.1
        obtain ⟨r', c2, g2⟩ := ih k B S hA.2
        refine ⟨.node x.1 x.2 l r', by rw [e]; exact .node h1 h2 c1 c2, ?_⟩
        have s1 : cut (tw.map prD) none (some (A.length : Int)) = A.map prD := by
          rw [cut_upto, e, List.map_append, List.take_left' (by rw [List.length_map])]
        have s2 : cut (tw.map prD) (some ((A.length : Int) + 1)) none = B.map prD := cut_prs (n := A.length) (p := x) (by rw [e, List.drop_left' rfl])
        simp only [bnd_some, bnd_none, opt_some, opt_none, seqF_next, seqF_brk, seqF_cnt, seqF_ret, ts_nil, ts_cons, out_ret, out_next, ite_t, ite_f, bop_and_t, bop_and_f, bop_or_t, bop_or_f, bb_and_t, bb_and_f, bb_or_t, bb_or_f, slot_0, slot_s, e_con, b_con, e_var, b_var, e_glo, b_glo, e_tup, b_tup, e_lst, b_lst, e_dct, b_dct, e_op, b_op, e_neg, b_neg, e_not, b_not, e_bop, b_bop, e_cmp, b_cmp, e_chn, b_chn, e_ifx, b_ifx, e_ix, b_ix, e_sl, b_sl, e_call, b_call, e_callK, e_fnv, e_callL, fnIx_fn, e_bi, b_bi, e_mxd, b_mxd, e_isi, b_isi, e_isl, b_isl, e_lrg, b_lrg, e_mt, b_mt, e_lc, b_lc, e_rev, b_rev, e_gtp, e_lrg1, i_rng3, bop_1, bop_2, bb_1, bb_2, es_nil, es_cons, eo_none, eo_some, if_none, if_some, i_ex, i_rng1, i_rng2, i_enm, q_nm, q_tp, q_sb, setK_some, qs_nil, qs_cons, t_asg, t_aug, t_ex, t_ret, t_retN, t_iff, t_fr, t_whl, t_brk, t_cnt, t_pas, con_none, con_bool, con_int, con_str, neg_int, not_bl, int_int, add_int, sub_int, lt_int, le_int, gt_int, ge_int, eq_int, ne_int, is_nn, is_in, is_bb, isn_nn, isn_in, isn_bb, tr_non, tr_bl, tr_int, ty_non, ty_bl, ty_int, ty_tup, ty_ro, isa_int_int, isa_int_bool, isa_int_list, isa_int_tuple, isa_list_list, isa_list_tuple, isa_tuple_list, isa_tuple_tuple, sq_tup, sq_ro, bi_int_int, bi_int_bl, bi_tuple_tup, bi_min, bi_max, bi_len_tup, bi_len_ro, ix_tup, ix_ro, sl_tup, sl_ro, stays_tup, stays_ro, at_0, at_1, gc_ai, gc_aai, gc_aaai, gc_ab, gc_aab, gc_aaab, gc_an, gc_aan, gc_aaan, gc_same, wipe_nil, wipe_cons, sz_0, sz_1, sz_2, sz_3, sz_4, sz_5, sz_6, sz_7, sz_8, sz_9, sz_10, runDef, runFull, Def.full, startD, List.length_cons, List.length_nil, List.map_cons, List.map_nil, List.append_nil, List.nil_append, List.cons_append, List.drop_nil, List.drop_zero, List.drop_succ_cons, List.set_cons_zero, List.set_cons_succ, List.replicate, if_true, if_false, Bool.not_true, Bool.not_false, Bool.true_or, Bool.false_or, Option.map_some, Option.map_none, Nat.zero_add, Nat.add_zero, Nat.sub_self, Nat.reduceAdd, Nat.reduceSub, ↓reduceIte, Bool.and_true, Bool.true_and, Bool.false_and, Bool.and_false, Int.cast_ofNat_Int, decide_true, decide_false, Int.reduceEq, Int.reduceLT, Int.reduceLE, Bool.false_eq_true, List.append_assoc, List.length_append, lk_app, lk_app0, lk_sapp, lk_sapp0, lk_z, lk_s, st_app, st_app0, st_sapp, st_sapp0, len_set, set_set, sq_lk, ix_lk, sl_lk, len_lk, tuple_lk, list_lk, list_tup, ty_lk, stays_lk, set_lk, add_lk, app_lk, ext_lk, clear_lk, recv_lk, get2_lk, tr_lk, gp_0, gp_1, gp_2, gp_3, gp_4, gp_5, gp_6, gp_7, gp_8, ko_n, ko_s, ko_p, gq_1, gq_2, gq_3, gq_4, gq_5, gq_6, gq_7, gq_8, gq_9, gq_10, gq_11, gq_12, gq_13, gq_14, gq_15, gq_16, gcR, Nat.lt_irrefl, Nat.not_lt_zero, List.take_succ_cons, List.take_zero, List.take_nil, D.beqL_self, at_2, at_3, ixN, Nat.reduceLT, Nat.reduceLeDiff, Int.reduceToNat, Int.reduceNeg, Int.reduceSub, Int.reduceAdd, Int.reduceMul, sz_lt, Int.zero_add, mod_int, pr_int, pr_bl, pr_non, pr_str, pr_tup, pr_nil, pr_cons, pr_lst, pr_ints, pr_prs, pr_app, pr_kD, mt_1, mt_2, mt_3, mt_4, mt_5, mt_6, mt_7, rev_lk, max_lk, min_lk, sum_lk, any_lk, all_lk, count_lk, index_lk, pop_lk, eq_D, ne_D, eqD_ll, eqD_tt, eqL_ll, eqS_same, eqS_nil, eqS_ints, eqD_ii, eqD_kk, py_app, py_nil, py_cons, py_ints, py_int, py_bl, py_non, py_kD, py_links, py_prs, py_mapi, pr_mapi, pr_linksT, gt_np, pr_loc, pr_stps, pr_stp, aug_add, aug_sub, ko_app, take_left', len_aa, s1, s2, g1, g2, pr_trD]
        rfl
      · rintro i σ T ⟨rfl, A, x, B, a, b, c, rfl, e, h1, h2⟩
        refine ⟨rfl, A, x, B, a, b, c, rfl, e, h1, ?_⟩
        rcases h2 with ⟨-, -, z⟩ | ⟨B1, e1, -, h3⟩
        · cases z
        · rw [List.append_nil] at e1; rw [e1]; exact h3
      · clear hX X
        rintro i y rest σ T ⟨rfl, A, x, B, a, b, c, rfl, e, h1, h2⟩
        refine ⟨rfl, ?_⟩
        have ei : (0 : Int) + (i : Int) = (i : Int) := Int.zero_add _
        rcases h2 with ⟨rfl, rfl, z⟩ | ⟨B1, e1, e2, h3⟩
        · injection z with z1 z2
          subst z1 z2
          simp only [bnd_some, bnd_none, opt_some, opt_none, seqF_next, seqF_brk, seqF_cnt, seqF_ret, ts_nil, ts_cons, out_ret, out_next, ite_t, ite_f, bop_and_t, bop_and_f, bop_or_t, bop_or_f, bb_and_t, bb_and_f, bb_or_t, bb_or_f, slot_0, slot_s, e_con, b_con, e_var, b_var, e_glo, b_glo, e_tup, b_tup, e_lst, b_lst, e_dct, b_dct, e_op, b_op, e_neg, b_neg, e_not, b_not, e_bop, b_bop, e_cmp, b_cmp, e_chn, b_chn, e_ifx, b_ifx, e_ix, b_ix, e_sl, b_sl, e_call, b_call, e_callK, e_fnv, e_callL, fnIx_fn, e_bi, b_bi, e_mxd, b_mxd, e_isi, b_isi, e_isl, b_isl, e_lrg, b_lrg, e_mt, b_mt, e_lc, b_lc, e_rev, b_rev, e_gtp, e_lrg1, i_rng3, bop_1, bop_2, bb_1, bb_2, es_nil, es_cons, eo_none, eo_some, if_none, if_some, i_ex, i_rng1, i_rng2, i_enm, q_nm, q_tp, q_sb, setK_some, qs_nil, qs_cons, t_asg, t_aug, t_ex, t_ret, t_retN, t_iff, t_fr, t_whl, t_brk, t_cnt, t_pas, con_none, con_bool, con_int, con_str, neg_int, not_bl, int_int, add_int, sub_int, lt_int, le_int, gt_int, ge_int, eq_int, ne_int, is_nn, is_in, is_bb, isn_nn, isn_in, isn_bb, tr_non, tr_bl, tr_int, ty_non, ty_bl, ty_int, ty_tup, ty_ro, isa_int_int, isa_int_bool, isa_int_list, isa_int_tuple, isa_list_list, isa_list_tuple, isa_tuple_list, isa_tuple_tuple, sq_tup, sq_ro, bi_int_int, bi_int_bl, bi_tuple_tup, bi_min, bi_max, bi_len_tup, bi_len_ro, ix_tup, ix_ro, sl_tup, sl_ro, stays_tup, stays_ro, at_0, at_1, gc_ai, gc_aai, gc_aaai, gc_ab, gc_aab, gc_aaab, gc_an, gc_aan, gc_aaan, gc_same, wipe_nil, wipe_cons, sz_0, sz_1, sz_2, sz_3, sz_4, sz_5, sz_6, sz_7, sz_8, sz_9, sz_10, runDef, runFull, Def.full, startD, List.length_cons, List.length_nil, List.map_cons, List.map_nil, List.append_nil, List.nil_append, List.cons_append, List.drop_nil, List.drop_zero, List.drop_succ_cons, List.set_cons_zero, List.set_cons_succ, List.replicate, if_true, if_false, Bool.not_true, Bool.not_false, Bool.true_or, Bool.false_or, Option.map_some, Option.map_none, Nat.zero_add, Nat.add_zero, Nat.sub_self, Nat.reduceAdd, Nat.reduceSub, ↓reduceIte, Bool.and_true, Bool.true_and, Bool.false_and, Bool.and_false, Int.cast_ofNat_Int, decide_true, decide_false, Int.reduceEq, Int.reduceLT, Int.reduceLE, Bool.false_eq_true, List.append_assoc, List.length_append, lk_app, lk_app0, lk_sapp, lk_sapp0, lk_z, lk_s, st_app, st_app0, st_sapp, st_sapp0, len_set, set_set, sq_lk, ix_lk, sl_lk, len_lk, tuple_lk, list_lk, list_tup, ty_lk, stays_lk, set_lk, add_lk, app_lk, ext_lk, clear_lk, recv_lk, get2_lk, tr_lk, gp_0, gp_1, gp_2, gp_3, gp_4, gp_5, gp_6, gp_7, gp_8, ko_n, ko_s, ko_p, gq_1, gq_2, gq_3, gq_4, gq_5, gq_6, gq_7, gq_8, gq_9, gq_10, gq_11, gq_12, gq_13, gq_14, gq_15, gq_16, gcR, Nat.lt_irrefl, Nat.not_lt_zero, List.take_succ_cons, List.take_zero, List.take_nil, D.beqL_self, at_2, at_3, ixN, Nat.reduceLT, Nat.reduceLeDiff, Int.reduceToNat, Int.reduceNeg, Int.reduceSub, Int.reduceAdd, Int.reduceMul, sz_lt, Int.zero_add, mod_int, pr_int, pr_bl, pr_non, pr_str, pr_tup, pr_nil, pr_cons, pr_lst, pr_ints, pr_prs, pr_app, pr_kD, mt_1, mt_2, mt_3, mt_4, mt_5, mt_6, mt_7, rev_lk, max_lk, min_lk, sum_lk, any_lk, all_lk, count_lk, index_lk, pop_lk, eq_D, ne_D, eqD_ll, eqD_tt, eqL_ll, eqS_same, eqS_nil, eqS_ints, eqD_ii, eqD_kk, py_app, py_nil, py_cons, py_ints, py_int, py_bl, py_non, py_kD, py_links, py_prs, py_mapi, pr_mapi, pr_linksT, gt_np, pr_loc, pr_stps, pr_stp, aug_add, aug_sub, ko_app, take_left', len_aa, prD, decide_eq_false (Int.lt_irrefl _)]
          refine ⟨rfl, [], y, rest, some (.int 0), some (.int y.1), some (.int y.2), ?_, e, h1, .inr ⟨[], rfl, ?_, fun _ z => by cases z⟩⟩
          · rfl
          · simp
        · by_cases hy : x.2 < y.2
          · simp only [bnd_some, bnd_none, opt_some, opt_none, seqF_next, seqF_brk, seqF_cnt, seqF_ret, ts_nil, ts_cons, out_ret, out_next, ite_t, ite_f, bop_and_t, bop_and_f, bop_or_t, bop_or_f, bb_and_t, bb_and_f, bb_or_t, bb_or_f, slot_0, slot_s, e_con, b_con, e_var, b_var, e_glo, b_glo, e_tup, b_tup, e_lst, b_lst, e_dct, b_dct, e_op, b_op, e_neg, b_neg, e_not, b_not, e_bop, b_bop, e_cmp, b_cmp, e_chn, b_chn, e_ifx, b_ifx, e_ix, b_ix, e_sl, b_sl, e_call, b_call, e_callK, e_fnv, e_callL, fnIx_fn, e_bi, b_bi, e_mxd, b_mxd, e_isi, b_isi, e_isl, b_isl, e_lrg, b_lrg, e_mt, b_mt, e_lc, b_lc, e_rev, b_rev, e_gtp, e_lrg1, i_rng3, bop_1, bop_2, bb_1, bb_2, es_nil, es_cons, eo_none, eo_some, if_none, if_some, i_ex, i_rng1, i_rng2, i_enm, q_nm, q_tp, q_sb, setK_some, qs_nil, qs_cons, t_asg, t_aug, t_ex, t_ret, t_retN, t_iff, t_fr, t_whl, t_brk, t_cnt, t_pas, con_none, con_bool, con_int, con_str, neg_int, not_bl, int_int, add_int, sub_int, lt_int, le_int, gt_int, ge_int, eq_int, ne_int, is_nn, is_in, is_bb, isn_nn, isn_in, isn_bb, tr_non, tr_bl, tr_int, ty_non, ty_bl, ty_int, ty_tup, ty_ro, isa_int_int, isa_int_bool, isa_int_list, isa_int_tuple, isa_list_list, isa_list_tuple, isa_tuple_list, isa_tuple_tuple, sq_tup, sq_ro, bi_int_int, bi_int_bl, bi_tuple_tup, bi_min, bi_max, bi_len_tup, bi_len_ro, ix_tup, ix_ro, sl_tup, sl_ro, stays_tup, stays_ro, at_0, at_1, gc_ai, gc_aai, gc_aaai, gc_ab, gc_aab, gc_aaab, gc_an, gc_aan, gc_aaan, gc_same, wipe_nil, wipe_cons, sz_0, sz_1, sz_2, sz_3, sz_4, sz_5, sz_6, sz_7, sz_8, sz_9, sz_10, runDef, runFull, Def.full, startD, List.length_cons, List.length_nil, List.map_cons, List.map_nil, List.append_nil, List.nil_append, List.cons_append, List.drop_nil, List.drop_zero, List.drop_succ_cons, List.set_cons_zero, List.set_cons_succ, List.replicate, if_true, if_false, Bool.not_true, Bool.not_false, Bool.true_or, Bool.false_or, Option.map_some, Option.map_none, Nat.zero_add, Nat.add_zero, Nat.sub_self, Nat.reduceAdd, Nat.reduceSub, ↓reduceIte, Bool.and_true, Bool.true_and, Bool.false_and, Bool.and_false, Int.cast_ofNat_Int, decide_true, decide_false, Int.reduceEq, Int.reduceLT, Int.reduceLE, Bool.false_eq_true, List.append_assoc, List.length_append, lk_app, lk_app0, lk_sapp, lk_sapp0, lk_z, lk_s, st_app, st_app0, st_sapp, st_sapp0, len_set, set_set, sq_lk, ix_lk, sl_lk, len_lk, tuple_lk, list_lk, list_tup, ty_lk, stays_lk, set_lk, add_lk, app_lk, ext_lk, clear_lk, recv_lk, get2_lk, tr_lk, gp_0, gp_1, gp_2, gp_3, gp_4, gp_5, gp_6, gp_7, gp_8, ko_n, ko_s, ko_p, gq_1, gq_2, gq_3, gq_4, gq_5, gq_6, gq_7, gq_8, gq_9, gq_10, gq_11, gq_12, gq_13, gq_14, gq_15, gq_16, gcR, Nat.lt_irrefl, Nat.not_lt_zero, List.take_succ_cons, List.take_zero, List.take_nil, D.beqL_self, at_2, at_3, ixN, Nat.reduceLT, Nat.reduceLeDiff, Int.reduceToNat, Int.reduceNeg, Int.reduceSub, Int.reduceAdd, Int.reduceMul, sz_lt, Int.zero_add, mod_int, pr_int, pr_bl, pr_non, pr_str, pr_tup, pr_nil, pr_cons, pr_lst, pr_ints, pr_prs, pr_app, pr_kD, mt_1, mt_2, mt_3, mt_4, mt_5, mt_6, mt_7, rev_lk, max_lk, min_lk, sum_lk, any_lk, all_lk, count_lk, index_lk, pop_lk, eq_D, ne_D, eqD_ll, eqD_tt, eqL_ll, eqS_same, eqS_nil, eqS_ints, eqD_ii, eqD_kk, py_app, py_nil, py_cons, py_ints, py_int, py_bl, py_non, py_kD, py_links, py_prs, py_mapi, pr_mapi, pr_linksT, gt_np, pr_loc, pr_stps, pr_stp, aug_add, aug_sub, ko_app, take_left', len_aa, prD, decide_eq_true hy]
            refine ⟨rfl, A ++ x :: B1, y, rest, some (.int i), some (.int y.1), some (.int y.2), ?_, by rw [e, e1]; simp, fun a ha => ?_, .inr ⟨[], rfl, ?_, fun _ z => by cases z⟩⟩
            · rw [show (A ++ x :: B1).length = i by rw [e2, List.length_append, List.length_cons]; omega]
            · rcases List.mem_append.mp ha with ha | ha
              · have := h1 a ha; omega
              · rcases List.mem_cons.mp ha with rfl | ha
                · exact hy
                · have := h3 a ha; omega
            · rw [e2, List.length_append, List.length_cons]; simp; omega
          · simp only [bnd_some, bnd_none, opt_some, opt_none, seqF_next, seqF_brk, seqF_cnt, seqF_ret, ts_nil, ts_cons, out_ret, out_next, ite_t, ite_f, bop_and_t, bop_and_f, bop_or_t, bop_or_f, bb_and_t, bb_and_f, bb_or_t, bb_or_f, slot_0, slot_s, e_con, b_con, e_var, b_var, e_glo, b_glo, e_tup, b_tup, e_lst, b_lst, e_dct, b_dct, e_op, b_op, e_neg, b_neg, e_not, b_not, e_bop, b_bop, e_cmp, b_cmp, e_chn, b_chn, e_ifx, b_ifx, e_ix, b_ix, e_sl, b_sl, e_call, b_call, e_callK, e_fnv, e_callL, fnIx_fn, e_bi, b_bi, e_mxd, b_mxd, e_isi, b_isi, e_isl, b_isl, e_lrg, b_lrg, e_mt, b_mt, e_lc, b_lc, e_rev, b_rev, e_gtp, e_lrg1, i_rng3, bop_1, bop_2, bb_1, bb_2, es_nil, es_cons, eo_none, eo_some, if_none, if_some, i_ex, i_rng1, i_rng2, i_enm, q_nm, q_tp, q_sb, setK_some, qs_nil, qs_cons, t_asg, t_aug, t_ex, t_ret, t_retN, t_iff, t_fr, t_whl, t_brk, t_cnt, t_pas, con_none, con_bool, con_int, con_str, neg_int, not_bl, int_int, add_int, sub_int, lt_int, le_int, gt_int, ge_int, eq_int, ne_int, is_nn, is_in, is_bb, isn_nn, isn_in, isn_bb, tr_non, tr_bl, tr_int, ty_non, ty_bl, ty_int, ty_tup, ty_ro, isa_int_int, isa_int_bool, isa_int_list, isa_int_tuple, isa_list_list, isa_list_tuple, isa_tuple_list, isa_tuple_tuple, sq_tup, sq_ro, bi_int_int, bi_int_bl, bi_tuple_tup, bi_min, bi_max, bi_len_tup, bi_len_ro, ix_tup, ix_ro, sl_tup, sl_ro, stays_tup, stays_ro, at_0, at_1, gc_ai, gc_aai, gc_aaai, gc_ab, gc_aab, gc_aaab, gc_an, gc_aan, gc_aaan, gc_same, wipe_nil, wipe_cons, sz_0, sz_1, sz_2, sz_3, sz_4, sz_5, sz_6, sz_7, sz_8, sz_9, sz_10, runDef, runFull, Def.full, startD, List.length_cons, List.length_nil, List.map_cons, List.map_nil, List.append_nil, List.nil_append, List.cons_append, List.drop_nil, List.drop_zero, List.drop_succ_cons, List.set_cons_zero, List.set_cons_succ, List.replicate, if_true, if_false, Bool.not_true, Bool.not_false, Bool.true_or, Bool.false_or, Option.map_some, Option.map_none, Nat.zero_add, Nat.add_zero, Nat.sub_self, Nat.reduceAdd, Nat.reduceSub, ↓reduceIte, Bool.and_true, Bool.true_and, Bool.false_and, Bool.and_false, Int.cast_ofNat_Int, decide_true, decide_false, Int.reduceEq, Int.reduceLT, Int.reduceLE, Bool.false_eq_true, List.append_assoc, List.length_append, lk_app, lk_app0, lk_sapp, lk_sapp0, lk_z, lk_s, st_app, st_app0, st_sapp, st_sapp0, len_set, set_set, sq_lk, ix_lk, sl_lk, len_lk, tuple_lk, list_lk, list_tup, ty_lk, stays_lk, set_lk, add_lk, app_lk, ext_lk, clear_lk, recv_lk, get2_lk, tr_lk, gp_0, gp_1, gp_2, gp_3, gp_4, gp_5, gp_6, gp_7, gp_8, ko_n, ko_s, ko_p, gq_1, gq_2, gq_3, gq_4, gq_5, gq_6, gq_7, gq_8, gq_9, gq_10, gq_11, gq_12, gq_13, gq_14, gq_15, gq_16, gcR, Nat.lt_irrefl, Nat.not_lt_zero, List.take_succ_cons, List.take_zero, List.take_nil, D.beqL_self, at_2, at_3, ixN, Nat.reduceLT, Nat.reduceLeDiff, Int.reduceToNat, Int.reduceNeg, Int.reduceSub, Int.reduceAdd, Int.reduceMul, sz_lt, Int.zero_add, mod_int, pr_int, pr_bl, pr_non, pr_str, pr_tup, pr_nil, pr_cons, pr_lst, pr_ints, pr_prs, pr_app, pr_kD, mt_1, mt_2, mt_3, mt_4, mt_5, mt_6, mt_7, rev_lk, max_lk, min_lk, sum_lk, any_lk, all_lk, count_lk, index_lk, pop_lk, eq_D, ne_D, eqD_ll, eqD_tt, eqL_ll, eqS_same, eqS_nil, eqS_ints, eqD_ii, eqD_kk, py_app, py_nil, py_cons, py_ints, py_int, py_bl, py_non, py_kD, py_links, py_prs, py_mapi, pr_mapi, pr_linksT, gt_np, pr_loc, pr_stps, pr_stp, aug_add, aug_sub, ko_app, take_left', len_aa, prD, decide_eq_false hy]
            refine ⟨rfl, A, x, B, _, _, _, rfl, e, h1, .inr ⟨B1 ++ [y], by rw [e1]; simp, by rw [e2]; simp; omega, fun b hb => ?_⟩⟩
            rcases List.mem_append.mp hb with hb | hb
            · exact h3 b hb
            · have : b = y := by simpa using hb
              rw [this]; omega
end K72

end

section
set_option maxHeartbeats 1000000
namespace K72
open PySem PySem.Spec Mi
open L2 (atI ixN Key)
theorem is_between_of (k : Nat) {i : Int} {lo hi : Option Int} {S : Store} (h1 : ∀ x, lo = some x → x < i) (h2 : ∀ x, hi = some x → i < x) : orc defs (k + 2) 5 [.int i, kD lo, kD hi] S = some (.bl true, S) := by
  rw [orc_at (d := d_is_between) rfl]
  cases lo with
  | none =>
    cases hi with
    | none => simp only [d_is_between, b_is_between, bnd_some, bnd_none, opt_some, opt_none, seqF_next, seqF_brk, seqF_cnt, seqF_ret, ts_nil, ts_cons, out_ret, out_next, ite_t, ite_f, bop_and_t, bop_and_f, bop_or_t, bop_or_f, bb_and_t, bb_and_f, bb_or_t, bb_or_f, slot_0, slot_s, e_con, b_con, e_var, b_var, e_glo, b_glo, e_tup, b_tup, e_lst, b_lst, e_dct, b_dct, e_op, b_op, e_neg, b_neg, e_not, b_not, e_bop, b_bop, e_cmp, b_cmp, e_chn, b_chn, e_ifx, b_ifx, e_ix, b_ix, e_sl, b_sl, e_call, b_call, e_callK, e_fnv, e_callL, fnIx_fn, e_bi, b_bi, e_mxd, b_mxd, e_isi, b_isi, e_isl, b_isl, e_lrg, b_lrg, e_mt, b_mt, e_lc, b_lc, e_rev, b_rev, e_gtp, e_lrg1, i_rng3, bop_1, bop_2, bb_1, bb_2, es_nil, es_cons, eo_none, eo_some, if_none, if_some, i_ex, i_rng1, i_rng2, i_enm, q_nm, q_tp, q_sb, setK_some, qs_nil, qs_cons, t_asg, t_aug, t_ex, t_ret, t_retN, t_iff, t_fr, t_whl, t_brk, t_cnt, t_pas, con_none, con_bool, con_int, con_str, neg_int, not_bl, int_int, add_int, sub_int, lt_int, le_int, gt_int, ge_int, eq_int, ne_int, is_nn, is_in, is_bb, isn_nn, isn_in, isn_bb, tr_non, tr_bl, tr_int, ty_non, ty_bl, ty_int, ty_tup, ty_ro, isa_int_int, isa_int_bool, isa_int_list, isa_int_tuple, isa_list_list, isa_list_tuple, isa_tuple_list, isa_tuple_tuple, sq_tup, sq_ro, bi_int_int, bi_int_bl, bi_tuple_tup, bi_min, bi_max, bi_len_tup, bi_len_ro, ix_tup, ix_ro, sl_tup, sl_ro, stays_tup, stays_ro, at_0, at_1, gc_ai, gc_aai, gc_aaai, gc_ab, gc_aab, gc_aaab, gc_an, gc_aan, gc_aaan, gc_same, wipe_nil, wipe_cons, sz_0, sz_1, sz_2, sz_3, sz_4, sz_5, sz_6, sz_7, sz_8, sz_9, sz_10, runDef, runFull, Def.full, startD, List.length_cons, List.length_nil, List.map_cons, List.map_nil, List.append_nil, List.nil_append, List.cons_append, List.drop_nil, List.drop_zero, List.drop_succ_cons, List.set_cons_zero, List.set_cons_succ, List.replicate, if_true, if_false, Bool.not_true, Bool.not_false, Bool.true_or, Bool.false_or, Option.map_some, Option.map_none, Nat.zero_add, Nat.add_zero, Nat.sub_self, Nat.reduceAdd, Nat.reduceSub, ↓reduceIte, Bool.and_true, Bool.true_and, Bool.false_and, Bool.and_false, Int.cast_ofNat_Int, decide_true, decide_false, Int.reduceEq, Int.reduceLT, Int.reduceLE, Bool.false_eq_true, List.append_assoc, List.length_append, lk_app, lk_app0, lk_sapp, lk_sapp0, lk_z, lk_s, st_app, st_app0, st_sapp, st_sapp0, len_set, set_set, sq_lk, ix_lk, sl_lk, len_lk, tuple_lk, list_lk, list_tup, ty_lk, stays_lk, set_lk, add_lk, app_lk, ext_lk, clear_lk, recv_lk, get2_lk, tr_lk, gp_0, gp_1, gp_2, gp_3, gp_4, gp_5, gp_6, gp_7, gp_8, ko_n, ko_s, ko_p, gq_1, gq_2, gq_3, gq_4, gq_5, gq_6, gq_7, gq_8, gq_9, gq_10, gq_11, gq_12, gq_13, gq_14, gq_15, gq_16, gcR, Nat.lt_irrefl, Nat.not_lt_zero, List.take_succ_cons, List.take_zero, List.take_nil, D.beqL_self, at_2, at_3, ixN, Nat.reduceLT, Nat.reduceLeDiff, Int.reduceToNat, Int.reduceNeg, Int.reduceSub, Int.reduceAdd, Int.reduceMul, sz_lt, Int.zero_add, mod_int, pr_int, pr_bl, pr_non, pr_str, pr_tup, pr_nil, pr_cons, pr_lst, pr_ints, pr_prs, pr_app, pr_kD, mt_1, mt_2, mt_3, mt_4, mt_5, mt_6, mt_7, rev_lk, max_lk, min_lk, sum_lk, any_lk, all_lk, count_lk, index_lk, pop_lk, eq_D, ne_D, eqD_ll, eqD_tt, eqL_ll, eqS_same, eqS_nil, eqS_ints, eqD_ii, eqD_kk, py_app, py_nil, py_cons, py_ints, py_int, py_bl, py_non, py_kD, py_links, py_prs, py_mapi, pr_mapi, pr_linksT, gt_np, pr_loc, pr_stps, pr_stp, aug_add, aug_sub, ko_app, take_left', len_aa, is_integer_int, kD_n]
    | some y => simp only [d_is_between, b_is_between, bnd_some, bnd_none, opt_some, opt_none, seqF_next, seqF_brk, seqF_cnt, seqF_ret, ts_nil, ts_cons, out_ret, out_next, ite_t, ite_f, bop_and_t, bop_and_f, bop_or_t, bop_or_f, bb_and_t, bb_and_f, bb_or_t, bb_or_f, slot_0, slot_s, e_con, b_con, e_var, b_var, e_glo, b_glo, e_tup, b_tup, e_lst, b_lst, e_dct, b_dct, e_op, b_op, e_neg, b_neg, e_not, b_not, e_bop, b_bop, e_cmp, b_cmp, e_chn, b_chn, e_ifx, b_ifx, e_ix, b_ix, e_sl, b_sl, e_call, b_call, e_callK, e_fnv, e_callL, fnIx_fn, e_bi, b_bi, e_mxd, b_mxd, e_isi, b_isi, e_isl, b_isl, e_lrg, b_lrg, e_mt, b_mt, e_lc, b_lc, e_rev, b_rev, e_gtp, e_lrg1, i_rng3, bop_1, bop_2, bb_1, bb_2, es_nil, es_cons, eo_none, eo_some, if_none, if_some, i_ex, i_rng1, i_rng2, i_enm, q_nm, q_tp, q_sb, setK_some, qs_nil, qs_cons, t_asg, t_aug, t_ex, t_ret, t_retN, t_iff, t_fr, t_whl, t_brk, t_cnt, t_pas, con_none, con_bool, con_int, con_str, neg_int, not_bl, int_int, add_int, sub_int, lt_int, le_int, gt_int, ge_int, eq_int, ne_int, is_nn, is_in, is_bb, isn_nn, isn_in, isn_bb, tr_non, tr_bl, tr_int, ty_non, ty_bl, ty_int, ty_tup, ty_ro, isa_int_int, isa_int_bool, isa_int_list, isa_int_tuple, isa_list_list, isa_list_tuple, isa_tuple_list, isa_tuple_tuple, sq_tup, sq_ro, bi_int_int, bi_int_bl, bi_tuple_tup, bi_min, bi_max, bi_len_tup, bi_len_ro, ix_tup, ix_ro, sl_tup, sl_ro, stays_tup, stays_ro, at_0, at_1, gc_ai, gc_aai, gc_aaai, gc_ab, gc_aab, gc_aaab, gc_an, gc_aan, gc_aaan, gc_same, wipe_nil, wipe_cons, sz_0, sz_1, sz_2, sz_3, sz_4, sz_5, sz_6, sz_7, sz_8, sz_9, sz_10, runDef, runFull, Def.full, startD, List.length_cons, List.length_nil, List.map_cons, List.map_nil, List.append_nil, List.nil_append, List.cons_append, List.drop_nil, List.drop_zero, List.drop_succ_cons, List.set_cons_zero, List.set_cons_succ, List.replicate, if_true, if_false, Bool.not_true, Bool.not_false, Bool.true_or, Bool.false_or, Option.map_some, Option.map_none, Nat.zero_add, Nat.add_zero, Nat.sub_self, Nat.reduceAdd, Nat.reduceSub, ↓reduceIte, Bool.and_true, Bool.true_and, Bool.false_and, Bool.and_false, Int.cast_ofNat_Int, decide_true, decide_false, Int.reduceEq, Int.reduceLT, Int.reduceLE, Bool.false_eq_true, List.append_assoc, List.length_append, lk_app, lk_app0, lk_sapp, lk_sapp0, lk_z, lk_s, st_app, st_app0, st_sapp, st_sapp0, len_set, set_set, sq_lk, ix_lk, sl_lk, len_lk, tuple_lk, list_lk, list_tup, ty_lk, stays_lk, set_lk, add_lk, app_lk, ext_lk, clear_lk, recv_lk, get2_lk, tr_lk, gp_0, gp_1, gp_2, gp_3, gp_4, gp_5, gp_6, gp_7, gp_8, ko_n, ko_s, ko_p, gq_1, gq_2, gq_3, gq_4, gq_5, gq_6, gq_7, gq_8, gq_9, gq_10, gq_11, gq_12, gq_13, gq_14, gq_15, gq_16, gcR, Nat.lt_irrefl, Nat.not_lt_zero, List.take_succ_cons, List.take_zero, List.take_nil, D.beqL_self, at_2, at_3, ixN, Nat.reduceLT, Nat.reduceLeDiff, Int.reduceToNat, Int.reduceNeg, Int.reduceSub, Int.reduceAdd, Int.reduceMul, sz_lt, Int.zero_add, mod_int, pr_int, pr_bl, pr_non, pr_str, pr_tup, pr_nil, pr_cons, pr_lst, pr_ints, pr_prs, pr_app, pr_kD, mt_1, mt_2, mt_3, mt_4, mt_5, mt_6, mt_7, rev_lk, max_lk, min_lk, sum_lk, any_lk, all_lk, count_lk, index_lk, pop_lk, eq_D, ne_D, eqD_ll, eqD_tt, eqL_ll, eqS_same, eqS_nil, eqS_ints, eqD_ii, eqD_kk, py_app, py_nil, py_cons, py_ints, py_int, py_bl, py_non, py_kD, py_links, py_prs, py_mapi, pr_mapi, pr_linksT, gt_np, pr_loc, pr_stps, pr_stp, aug_add, aug_sub, ko_app, take_left', len_aa, is_integer_int, kD_n, kD_s, decide_eq_true (h2 y rfl)]
  | some x =>
    cases hi with
    | none => simp only [d_is_between, b_is_between, bnd_some, bnd_none, opt_some, opt_none, seqF_next, seqF_brk, seqF_cnt, seqF_ret, ts_nil, ts_cons, out_ret, out_next, ite_t, ite_f, bop_and_t, bop_and_f, bop_or_t, bop_or_f, bb_and_t, bb_and_f, bb_or_t, bb_or_f, slot_0, slot_s, e_con, b_con, e_var, b_var, e_glo, b_glo, e_tup, b_tup, e_lst, b_lst, e_dct, b_dct, e_op, b_op, e_neg, b_neg, e_not, b_not, e_bop, b_bop, e_cmp, b_cmp, e_chn, b_chn, e_ifx, b_ifx, e_ix, b_ix, e_sl, b_sl, e_call, b_call, e_callK, e_fnv, e_callL, fnIx_fn, e_bi, b_bi, e_mxd, b_mxd, e_isi, b_isi, e_isl, b_isl, e_lrg, b_lrg, e_mt, b_mt, e_lc, b_lc, e_rev, b_rev, e_gtp, e_lrg1, i_rng3, bop_1, bop_2, bb_1, bb_2, es_nil, es_cons, eo_none, eo_some, if_none, if_some, i_ex, i_rng1, i_rng2, i_enm, q_nm, q_tp, q_sb, setK_some, qs_nil, qs_cons, t_asg, t_aug, t_ex, t_ret, t_retN, t_iff, t_fr, t_whl, t_brk, t_cnt, t_pas, con_none, con_bool, con_int, con_str, neg_int, not_bl, int_int, add_int, sub_int, lt_int, le_int, gt_int, ge_int, eq_int, ne_int, is_nn, is_in, is_bb, isn_nn, isn_in, isn_bb, tr_non, tr_bl, tr_int, ty_non, ty_bl, ty_int, ty_tup, ty_ro, isa_int_int, isa_int_bool, isa_int_list, isa_int_tuple, isa_list_list, isa_list_tuple, isa_tuple_list, isa_tuple_tuple, sq_tup, sq_ro, bi_int_int, bi_int_bl, bi_tuple_tup, bi_min, bi_max, bi_len_tup, bi_len_ro, ix_tup, ix_ro, sl_tup, sl_ro, stays_tup, stays_ro, at_0, at_1, gc_ai, gc_aai, gc_aaai, gc_ab, gc_aab, gc_aaab, gc_an, gc_aan, gc_aaan, gc_same, wipe_nil, wipe_cons, sz_0, sz_1, sz_2, sz_3, sz_4, sz_5, sz_6, sz_7, sz_8, sz_9, sz_10, runDef, runFull, Def.full, startD, List.length_cons, List.length_nil, List.map_cons, List.map_nil, List.append_nil, List.nil_append, List.cons_append, List.drop_nil, List.drop_zero, List.drop_succ_cons, List.set_cons_zero, List.set_cons_succ, List.replicate, if_true, if_false, Bool.not_true, Bool.not_false, Bool.true_or, Bool.false_or, Option.map_some, Option.map_none, Nat.zero_add, Nat.add_zero, Nat.sub_self, Nat.reduceAdd, Nat.reduceSub, ↓reduceIte, Bool.and_true, Bool.true_and, Bool.false_and, Bool.and_false, Int.cast_ofNat_Int, decide_true, decide_false, Int.reduceEq, Int.reduceLT, Int.reduceLE, Bool.false_eq_true, List.append_assoc, List.length_append, lk_app, lk_app0, lk_sapp, lk_sapp0, lk_z, lk_s, st_app, st_app0, st_sapp, st_sapp0, len_set, set_set, sq_lk, ix_lk, sl_lk, len_lk, tuple_lk, list_lk, list_tup, ty_lk, stays_lk, set_lk, add_lk, app_lk, ext_lk, clear_lk, recv_lk, get2_lk, tr_lk, gp_0, gp_1, gp_2, gp_3, gp_4, gp_5, gp_6, gp_7, gp_8, ko_n, ko_s, ko_p, gq_1, gq_2, gq_3, gq_4, gq_5, gq_6, gq_7, gq_8, gq_9, gq_10, gq_11, gq_12, gq_13, gq_14, gq_15, gq_16, gcR, Nat.lt_irrefl, Nat.not_lt_zero, List.take_succ_cons, List.take_zero, List.take_nil, D.beqL_self, at_2, at_3, ixN, Nat.reduceLT, Nat.reduceLeDiff, Int.reduceToNat, Int.reduceNeg, Int.reduceSub, Int.reduceAdd, Int.reduceMul, sz_lt, Int.zero_add, mod_int, pr_int, pr_bl, pr_non, pr_str, pr_tup, pr_nil, pr_cons, pr_lst, pr_ints, pr_prs, pr_app, pr_kD, mt_1, mt_2, mt_3, mt_4, mt_5, mt_6, mt_7, rev_lk, max_lk, min_lk, sum_lk, any_lk, all_lk, count_lk, index_lk, pop_lk, eq_D, ne_D, eqD_ll, eqD_tt, eqL_ll, eqS_same, eqS_nil, eqS_ints, eqD_ii, eqD_kk, py_app, py_nil, py_cons, py_ints, py_int, py_bl, py_non, py_kD, py_links, py_prs, py_mapi, pr_mapi, pr_linksT, gt_np, pr_loc, pr_stps, pr_stp, aug_add, aug_sub, ko_app, take_left', len_aa, is_integer_int, kD_n, kD_s, decide_eq_true (h1 x rfl)]
    | some y => simp only [d_is_between, b_is_between, bnd_some, bnd_none, opt_some, opt_none, seqF_next, seqF_brk, seqF_cnt, seqF_ret, ts_nil, ts_cons, out_ret, out_next, ite_t, ite_f, bop_and_t, bop_and_f, bop_or_t, bop_or_f, bb_and_t, bb_and_f, bb_or_t, bb_or_f, slot_0, slot_s, e_con, b_con, e_var, b_var, e_glo, b_glo, e_tup, b_tup, e_lst, b_lst, e_dct, b_dct, e_op, b_op, e_neg, b_neg, e_not, b_not, e_bop, b_bop, e_cmp, b_cmp, e_chn, b_chn, e_ifx, b_ifx, e_ix, b_ix, e_sl, b_sl, e_call, b_call, e_callK, e_fnv, e_callL, fnIx_fn, e_bi, b_bi, e_mxd, b_mxd, e_isi, b_isi, e_isl, b_isl, e_lrg, b_lrg, e_mt, b_mt, e_lc, b_lc, e_rev, b_rev, e_gtp, e_lrg1, i_rng3, bop_1, bop_2, bb_1, bb_2, es_nil, es_cons, eo_none, eo_some, if_none, if_some, i_ex, i_rng1, i_rng2, i_enm, q_nm, q_tp, q_sb, setK_some, qs_nil, qs_cons, t_asg, t_aug, t_ex, t_ret, t_retN, t_iff, t_fr, t_whl, t_brk, t_cnt, t_pas, con_none, con_bool, con_int, con_str, neg_int, not_bl, int_int, add_int, sub_int, lt_int, le_int, gt_int, ge_int, eq_int, ne_int, is_nn, is_in, is_bb, isn_nn, isn_in, isn_bb, tr_non, tr_bl, tr_int, ty_non, ty_bl, ty_int, ty_tup, ty_ro, isa_int_int, isa_int_bool, isa_int_list, isa_int_tuple, isa_list_list, isa_list_tuple, isa_tuple_list, isa_tuple_tuple, sq_tup, sq_ro, bi_int_int, bi_int_bl, bi_tuple_tup, bi_min, bi_max, bi_len_tup, bi_len_ro, ix_tup, ix_ro, sl_tup, sl_ro, stays_tup, stays_ro, at_0, at_1, gc_ai, gc_aai, gc_aaai, gc_ab, gc_aab, gc_aaab, gc_an, gc_aan, gc_aaan, gc_same, wipe_nil, wipe_cons, sz_0, sz_1, sz_2, sz_3, sz_4, sz_5, sz_6, sz_7, sz_8, sz_9, sz_10, runDef, runFull, Def.full, startD, List.length_cons, List.length_nil, List.map_cons, List.map_nil, List.append_nil, List.nil_append, List.cons_append, List.drop_nil, List.drop_zero, List.drop_succ_cons, List.set_cons_zero, List.set_cons_succ, List.replicate, if_true, if_false, Bool.not_true, Bool.not_false, Bool.true_or, Bool.false_or, Option.map_some, Option.map_none, Nat.zero_add, Nat.add_zero, Nat.sub_self, Nat.reduceAdd, Nat.reduceSub, ↓reduceIte, Bool.and_true, Bool.true_and, Bool.false_and, Bool.and_false, Int.cast_ofNat_Int, decide_true, decide_false, Int.reduceEq, Int.reduceLT, Int.reduceLE, Bool.false_eq_true, List.append_assoc, List.length_append, lk_app, lk_app0, lk_sapp, lk_sapp0, lk_z, lk_s, st_app, st_app0, st_sapp, st_sapp0, len_set, set_set, sq_lk, ix_lk, sl_lk, len_lk, tuple_lk, list_lk, list_tup, ty_lk, stays_lk, set_lk, add_lk, app_lk, ext_lk, clear_lk, recv_lk, get2_lk, tr_lk, gp_0, gp_1, gp_2, gp_3, gp_4, gp_5, gp_6, gp_7, gp_8, ko_n, ko_s, ko_p, gq_1, gq_2, gq_3, gq_4, gq_5, gq_6, gq_7, gq_8, gq_9, gq_10, gq_11, gq_12, gq_13, gq_14, gq_15, gq_16, gcR, Nat.lt_irrefl, Nat.not_lt_zero, List.take_succ_cons, List.take_zero, List.take_nil, D.beqL_self, at_2, at_3, ixN, Nat.reduceLT, Nat.reduceLeDiff, Int.reduceToNat, Int.reduceNeg, Int.reduceSub, Int.reduceAdd, Int.reduceMul, sz_lt, Int.zero_add, mod_int, pr_int, pr_bl, pr_non, pr_str, pr_tup, pr_nil, pr_cons, pr_lst, pr_ints, pr_prs, pr_app, pr_kD, mt_1, mt_2, mt_3, mt_4, mt_5, mt_6, mt_7, rev_lk, max_lk, min_lk, sum_lk, any_lk, all_lk, count_lk, index_lk, pop_lk, eq_D, ne_D, eqD_ll, eqD_tt, eqL_ll, eqS_same, eqS_nil, eqS_ints, eqD_ii, eqD_kk, py_app, py_nil, py_cons, py_ints, py_int, py_bl, py_non, py_kD, py_links, py_prs, py_mapi, pr_mapi, pr_linksT, gt_np, pr_loc, pr_stps, pr_stp, aug_add, aug_sub, ko_app, take_left', len_aa, is_integer_int, kD_n, kD_s, decide_eq_true (h1 x rfl), decide_eq_true (h2 y rfl)]
theorem look_tree_of (k : Nat) {d : D} {t : Tr} {S : Store} (hr : RepT S d t) (ho : t.ok none none none) (hd : t.dep ≤ 110) (hs : t.sz ≤ 1000) : orc defs (k + 3) 6 [d] S = some (.non, S) := by
  rw [orc_at (d := d_look_tree) rfl]
  simp only [d_look_tree, b_look_tree, bnd_some, bnd_none, opt_some, opt_none, seqF_next, seqF_brk, seqF_cnt, seqF_ret, ts_nil, ts_cons, out_ret, out_next, ite_t, ite_f, bop_and_t, bop_and_f, bop_or_t, bop_or_f, bb_and_t, bb_and_f, bb_or_t, bb_or_f, slot_0, slot_s, e_con, b_con, e_var, b_var, e_glo, b_glo, e_tup, b_tup, e_lst, b_lst, e_dct, b_dct, e_op, b_op, e_neg, b_neg, e_not, b_not, e_bop, b_bop, e_cmp, b_cmp, e_chn, b_chn, e_ifx, b_ifx, e_ix, b_ix, e_sl, b_sl, e_call, b_call, e_callK, e_fnv, e_callL, fnIx_fn, e_bi, b_bi, e_mxd, b_mxd, e_isi, b_isi, e_isl, b_isl, e_lrg, b_lrg, e_mt, b_mt, e_lc, b_lc, e_rev, b_rev, e_gtp, e_lrg1, i_rng3, bop_1, bop_2, bb_1, bb_2, es_nil, es_cons, eo_none, eo_some, if_none, if_some, i_ex, i_rng1, i_rng2, i_enm, q_nm, q_tp, q_sb, setK_some, qs_nil, qs_cons, t_asg, t_aug, t_ex, t_ret, t_retN, t_iff, t_fr, t_whl, t_brk, t_cnt, t_pas, con_none, con_bool, con_int, con_str, neg_int, not_bl, int_int, add_int, sub_int, lt_int, le_int, gt_int, ge_int, eq_int, ne_int, is_nn, is_in, is_bb, isn_nn, isn_in, isn_bb, tr_non, tr_bl, tr_int, ty_non, ty_bl, ty_int, ty_tup, ty_ro, isa_int_int, isa_int_bool, isa_int_list, isa_int_tuple, isa_list_list, isa_list_tuple, isa_tuple_list, isa_tuple_tuple, sq_tup, sq_ro, bi_int_int, bi_int_bl, bi_tuple_tup, bi_min, bi_max, bi_len_tup, bi_len_ro, ix_tup, ix_ro, sl_tup, sl_ro, stays_tup, stays_ro, at_0, at_1, gc_ai, gc_aai, gc_aaai, gc_ab, gc_aab, gc_aaab, gc_an, gc_aan, gc_aaan, gc_same, wipe_nil, wipe_cons, sz_0, sz_1, sz_2, sz_3, sz_4, sz_5, sz_6, sz_7, sz_8, sz_9, sz_10, runDef, runFull, Def.full, startD, List.length_cons, List.length_nil, List.map_cons, List.map_nil, List.append_nil, List.nil_append, List.cons_append, List.drop_nil, List.drop_zero, List.drop_succ_cons, List.set_cons_zero, List.set_cons_succ, List.replicate, if_true, if_false, Bool.not_true, Bool.not_false, Bool.true_or, Bool.false_or, Option.map_some, Option.map_none, Nat.zero_add, Nat.add_zero, Nat.sub_self, Nat.reduceAdd, Nat.reduceSub, ↓reduceIte, Bool.and_true, Bool.true_and, Bool.false_and, Bool.and_false, Int.cast_ofNat_Int, decide_true, decide_false, Int.reduceEq, Int.reduceLT, Int.reduceLE, Bool.false_eq_true, List.append_assoc, List.length_append, lk_app, lk_app0, lk_sapp, lk_sapp0, lk_z, lk_s, st_app, st_app0, st_sapp, st_sapp0, len_set, set_set, sq_lk, ix_lk, sl_lk, len_lk, tuple_lk, list_lk, list_tup, ty_lk, stays_lk, set_lk, add_lk, app_lk, ext_lk, clear_lk, recv_lk, get2_lk, tr_lk, gp_0, gp_1, gp_2, gp_3, gp_4, gp_5, gp_6, gp_7, gp_8, ko_n, ko_s, ko_p, gq_1, gq_2, gq_3, gq_4, gq_5, gq_6, gq_7, gq_8, gq_9, gq_10, gq_11, gq_12, gq_13, gq_14, gq_15, gq_16, gcR, Nat.lt_irrefl, Nat.not_lt_zero, List.take_succ_cons, List.take_zero, List.take_nil, D.beqL_self, at_2, at_3, ixN, Nat.reduceLT, Nat.reduceLeDiff, Int.reduceToNat, Int.reduceNeg, Int.reduceSub, Int.reduceAdd, Int.reduceMul, sz_lt, Int.zero_add, mod_int, pr_int, pr_bl, pr_non, pr_str, pr_tup, pr_nil, pr_cons, pr_lst, pr_ints, pr_prs, pr_app, pr_kD, mt_1, mt_2, mt_3, mt_4, mt_5, mt_6, mt_7, rev_lk, max_lk, min_lk, sum_lk, any_lk, all_lk, count_lk, index_lk, pop_lk, eq_D, ne_D, eqD_ll, eqD_tt, eqL_ll, eqS_same, eqS_nil, eqS_ints, eqD_ii, eqD_kk, py_app, py_nil, py_cons, py_ints, py_int, py_bl, py_non, py_kD, py_links, py_prs, py_mapi, pr_mapi, pr_linksT, gt_np, pr_loc, pr_stps, pr_stp, aug_add, aug_sub, ko_app, take_left', len_aa]
  generalize hX : whlD _ _ _ _ _ = X
  have key : ∃ σ L, X = some (.next σ, S ++ [.lst L]) := by
    rw [← hX]
    refine whl_G (fun stk σ T => (∃ x2 x3 x4 x5 x6 x7 x8 x9 : Option D, σ = [some d, some (.loc S.length), x2, x3, x4, x5, x6, x7, x8, x9]) ∧ T = S ++ [.lst (stk.map itD)] ∧ szs stk ≤ 1000 ∧ ∀ x ∈ stk, RepT S x.1 x.2.1 ∧ x.2.1.dep ≤ 110 ∧ x.2.1.ok x.2.2.1 x.2.2.2.1 x.2.2.2.2) szs (fun X => ∃ σ L, X = some (.next σ, S ++ [.lst L])) ?_ turns [(d, t, none, none, none)] _ _ ⟨⟨_, _, _, _, _, _, _, _, rfl⟩, rfl, ?_, ?_⟩ ?_
    · rintro stk σ T ⟨⟨x2, x3, x4, x5, x6, x7, x8, x9, rfl⟩, rfl, hz, hst⟩
      have hpy : ∀ L, pyOk (S ++ L) (stk.map itD) = true := fun L => py_itD fun x hx => ⟨(hst x hx).1, (hst x hx).2.1⟩
      refine ⟨!(stk.map itD).isEmpty, S ++ [.lst (stk.map itD)], by simp only [bnd_some, bnd_none, opt_some, opt_none, seqF_next, seqF_brk, seqF_cnt, seqF_ret, ts_nil, ts_cons, out_ret, out_next, ite_t, ite_f, bop_and_t, bop_and_f, bop_or_t, bop_or_f, bb_and_t, bb_and_f, bb_or_t, bb_or_f, slot_0, slot_s, e_con, b_con, e_var, b_var, e_glo, b_glo, e_tup, b_tup, e_lst, b_lst, e_dct, b_dct, e_op, b_op, e_neg, b_neg, e_not, b_not, e_bop, b_bop, e_cmp, b_cmp, e_chn, b_chn, e_ifx, b_ifx, e_ix, b_ix, e_sl, b_sl, e_call, b_call, e_callK, e_fnv, e_callL, fnIx_fn, e_bi, b_bi, e_mxd, b_mxd, e_isi, b_isi, e_isl, b_isl, e_lrg, b_lrg, e_mt, b_mt, e_lc, b_lc, e_rev, b_rev, e_gtp, e_lrg1, i_rng3, bop_1, bop_2, bb_1, bb_2, es_nil, es_cons, eo_none, eo_some, if_none, if_some, i_ex, i_rng1, i_rng2, i_enm, q_nm, q_tp, q_sb, setK_some, qs_nil, qs_cons, t_asg, t_aug, t_ex, t_ret, t_retN, t_iff, t_fr, t_whl, t_brk, t_cnt, t_pas, con_none, con_bool, con_int, con_str, neg_int, not_bl, int_int, add_int, sub_int, lt_int, le_int, gt_int, ge_int, eq_int, ne_int, is_nn, is_in, is_bb, isn_nn, isn_in, isn_bb, tr_non, tr_bl, tr_int, ty_non, ty_bl, ty_int, ty_tup, ty_ro, isa_int_int, isa_int_bool, isa_int_list, isa_int_tuple, isa_list_list, isa_list_tuple, isa_tuple_list, isa_tuple_tuple, sq_tup, sq_ro, bi_int_int, bi_int_bl, bi_tuple_tup, bi_min, bi_max, bi_len_tup, bi_len_ro, ix_tup, ix_ro, sl_tup, sl_ro, stays_tup, stays_ro, at_0, at_1, gc_ai, gc_aai, gc_aaai, gc_ab, gc_aab, gc_aaab, gc_an, gc_aan, gc_aaan, gc_same, wipe_nil, wipe_cons, sz_0, sz_1, sz_2, sz_3, sz_4, sz_5, sz_6, sz_7, sz_8, sz_9, sz_10, runDef, runFull, Def.full, startD, List.length_cons, List.length_nil, List.map_cons, List.map_nil, List.append_nil, List.nil_append, List.cons_append, List.drop_nil, List.drop_zero, List.drop_succ_cons, List.set_cons_zero, List.set_cons_succ, List.replicate, if_true, if_false, Bool.not_true, Bool.not_false, Bool.true_or, Bool.false_or, Option.map_some, Option.map_none, Nat.zero_add, Nat.add_zero, Nat.sub_self, Nat.reduceAdd, Nat.reduceSub, ↓reduceIte, Bool.and_true, Bool.true_and, Bool.false_and, Bool.and_false, Int.cast_ofNat_Int, decide_true, decide_false, Int.reduceEq, Int.reduceLT, Int.reduceLE, Bool.false_eq_true, List.append_assoc, List.length_append, lk_app, lk_app0, lk_sapp, lk_sapp0, lk_z, lk_s, st_app, st_app0, st_sapp, st_sapp0, len_set, set_set, sq_lk, ix_lk, sl_lk, len_lk, tuple_lk, list_lk, list_tup, ty_lk, stays_lk, set_lk, add_lk, app_lk, ext_lk, clear_lk, recv_lk, get2_lk, tr_lk, gp_0, gp_1, gp_2, gp_3, gp_4, gp_5, gp_6, gp_7, gp_8, ko_n, ko_s, ko_p, gq_1, gq_2, gq_3, gq_4, gq_5, gq_6, gq_7, gq_8, gq_9, gq_10, gq_11, gq_12, gq_13, gq_14, gq_15, gq_16, gcR, Nat.lt_irrefl, Nat.not_lt_zero, List.take_succ_cons, List.take_zero, List.take_nil, D.beqL_self, at_2, at_3, ixN, Nat.reduceLT, Nat.reduceLeDiff, Int.reduceToNat, Int.reduceNeg, Int.reduceSub, Int.reduceAdd, Int.reduceMul, sz_lt, Int.zero_add, mod_int, pr_int, pr_bl, pr_non, pr_str, pr_tup, pr_nil, pr_cons, pr_lst, pr_ints, pr_prs, pr_app, pr_kD, mt_1, mt_2, mt_3, mt_4, mt_5, mt_6, mt_7, rev_lk, max_lk, min_lk, sum_lk, any_lk, all_lk, count_lk, index_lk, pop_lk, eq_D, ne_D, eqD_ll, eqD_tt, eqL_ll, eqS_same, eqS_nil, eqS_ints, eqD_ii, eqD_kk, py_app, py_nil, py_cons, py_ints, py_int, py_bl, py_non, py_kD, py_links, py_prs, py_mapi, pr_mapi, pr_linksT, gt_np, pr_loc, pr_stps, pr_stp, aug_add, aug_sub, ko_app, take_left', len_aa, hpy], fun _ => ⟨_, _, rfl⟩, fun hne => ?_⟩
      have hne' : stk ≠ [] := by rintro rfl; cases hne
      obtain ⟨ini, ⟨dx, t, lo, hi, mo⟩, e, h1, h2⟩ := stk_last hne'
      obtain ⟨hx1, hx2, hx3⟩ := hst (dx, t, lo, hi, mo) (by rw [e]; simp)
      have hsz : szs stk = szs ini + t.sz := by rw [e, szs_app]; simp [szs]
      have hin : ∀ x ∈ ini, RepT S x.1 x.2.1 ∧ x.2.1.dep ≤ 110 ∧ x.2.1.ok x.2.2.1 x.2.2.2.1 x.2.2.2.2 := fun x hx => hst x (by rw [e]; exact List.mem_append_left _ hx)
      have hil := szs_len ini
      cases t with
      | nil =>
        have : dx = .non := hx1
        subst this
        simp only [bnd_some, bnd_none, opt_some, opt_none, seqF_next, seqF_brk, seqF_cnt, seqF_ret, ts_nil, ts_cons, out_ret, out_next, ite_t, ite_f, bop_and_t, bop_and_f, bop_or_t, bop_or_f, bb_and_t, bb_and_f, bb_or_t, bb_or_f, slot_0, slot_s, e_con, b_con, e_var, b_var, e_glo, b_glo, e_tup, b_tup, e_lst, b_lst, e_dct, b_dct, e_op, b_op, e_neg, b_neg, e_not, b_not, e_bop, b_bop, e_cmp, b_cmp, e_chn, b_chn, e_ifx, b_ifx, e_ix, b_ix, e_sl, b_sl, e_call, b_call, e_callK, e_fnv, e_callL, fnIx_fn, e_bi, b_bi, e_mxd, b_mxd, e_isi, b_isi, e_isl, b_isl, e_lrg, b_lrg, e_mt, b_mt, e_lc, b_lc, e_rev, b_rev, e_gtp, e_lrg1, i_rng3, bop_1, bop_2, bb_1, bb_2, es_nil, es_cons, eo_none, eo_some, if_none, if_some, i_ex, i_rng1, i_rng2, i_enm, q_nm, q_tp, q_sb, setK_some, qs_nil, qs_cons, t_asg, t_aug, t_ex, t_ret, t_retN, t_iff, t_fr, t_whl, t_brk, t_cnt, t_pas, con_none, con_bool, con_int, con_str, neg_int, not_bl, int_int, add_int, sub_int, lt_int, le_int, gt_int, ge_int, eq_int, ne_int, is_nn, is_in, is_bb, isn_nn, isn_in, isn_bb, tr_non, tr_bl, tr_int, ty_non, ty_bl, ty_int, ty_tup, ty_ro, isa_int_int, isa_int_bool, isa_int_list, isa_int_tuple, isa_list_list, isa_list_tuple, isa_tuple_list, isa_tuple_tuple, sq_tup, sq_ro, bi_int_int, bi_int_bl, bi_tuple_tup, bi_min, bi_max, bi_len_tup, bi_len_ro, ix_tup, ix_ro, sl_tup, sl_ro, stays_tup, stays_ro, at_0, at_1, gc_ai, gc_aai, gc_aaai, gc_ab, gc_aab, gc_aaab, gc_an, gc_aan, gc_aaan, gc_same, wipe_nil, wipe_cons, sz_0, sz_1, sz_2, sz_3, sz_4, sz_5, sz_6, sz_7, sz_8, sz_9, sz_10, runDef, runFull, Def.full, startD, List.length_cons, List.length_nil, List.map_cons, List.map_nil, List.append_nil, List.nil_append, List.cons_append, List.drop_nil, List.drop_zero, List.drop_succ_cons, List.set_cons_zero, List.set_cons_succ, List.replicate, if_true, if_false, Bool.not_true, Bool.not_false, Bool.true_or, Bool.false_or, Option.map_some, Option.map_none, Nat.zero_add, Nat.add_zero, Nat.sub_self, Nat.reduceAdd, Nat.reduceSub, ↓reduceIte, Bool.and_true, Bool.true_and, Bool.false_and, Bool.and_false, Int.cast_ofNat_Int, decide_true, decide_false, Int.reduceEq, Int.reduceLT, Int.reduceLE, Bool.false_eq_true, List.append_assoc, List.length_append, lk_app, lk_app0, lk_sapp, lk_sapp0, lk_z, lk_s, st_app, st_app0, st_sapp, st_sapp0, len_set, set_set, sq_lk, ix_lk, sl_lk, len_lk, tuple_lk, list_lk, list_tup, ty_lk, stays_lk, set_lk, add_lk, app_lk, ext_lk, clear_lk, recv_lk, get2_lk, tr_lk, gp_0, gp_1, gp_2, gp_3, gp_4, gp_5, gp_6, gp_7, gp_8, ko_n, ko_s, ko_p, gq_1, gq_2, gq_3, gq_4, gq_5, gq_6, gq_7, gq_8, gq_9, gq_10, gq_11, gq_12, gq_13, gq_14, gq_15, gq_16, gcR, Nat.lt_irrefl, Nat.not_lt_zero, List.take_succ_cons, List.take_zero, List.take_nil, D.beqL_self, at_2, at_3, ixN, Nat.reduceLT, Nat.reduceLeDiff, Int.reduceToNat, Int.reduceNeg, Int.reduceSub, Int.reduceAdd, Int.reduceMul, sz_lt, Int.zero_add, mod_int, pr_int, pr_bl, pr_non, pr_str, pr_tup, pr_nil, pr_cons, pr_lst, pr_ints, pr_prs, pr_app, pr_kD, mt_1, mt_2, mt_3, mt_4, mt_5, mt_6, mt_7, rev_lk, max_lk, min_lk, sum_lk, any_lk, all_lk, count_lk, index_lk, pop_lk, eq_D, ne_D, eqD_ll, eqD_tt, eqL_ll, eqS_same, eqS_nil, eqS_ints, eqD_ii, eqD_kk, py_app, py_nil, py_cons, py_ints, py_int, py_bl, py_non, py_kD, py_links, py_prs, py_mapi, pr_mapi, pr_linksT, gt_np, pr_loc, pr_stps, pr_stp, aug_add, aug_sub, ko_app, take_left', len_aa, h1, h2, gc_len, itD]
        refine ⟨ini, ⟨⟨_, _, _, _, _, _, _, _, rfl⟩, rfl, by omega, hin⟩, ?_⟩
        rw [hsz]; simp [Tr.sz]
      | node kk hh l r =>
        obtain ⟨dl, dr, hsq, r1, r2⟩ := hx1
        obtain ⟨o1, o2, o3, o4, o5, o6⟩ := hx3
        have hL : ∀ L, seqOf (S ++ L) dx = some [.int kk, .int hh, dl, dr] := fun L => seqOf_app hsq
        have hix : ∀ L (k : Int), ixD dx (.int k) (S ++ L) = atI [.int kk, .int hh, dl, dr] k := fun L k => ix_sq (hL L)
        have hln : ∀ L, biD .len [dx] (S ++ L) = some (.int 4, S ++ L) := fun L => len_sq (hL L)
        have hrw : ∀ L, orc defs (k + 2) 1 [dx] (S ++ L) = some (.bl true, S ++ L) := fun L => is_row_of (k + 1) (S ++ L) (hL L)
        have hbt : ∀ L, orc defs (k + 2) 5 [.int kk, kD lo, kD hi] (S ++ L) = some (.bl true, S ++ L) := fun L => is_between_of k o1 o2
        have hisn : ∀ L, cmpD .Is dx .non L = some false := fun L => is_sqn hsq
        have h1' := h1
        rw [List.length_map] at h1'
        have l1 : ini.length < sizeLine := lt_size (by omega)
        have l2 : ini.length + 1 < sizeLine := lt_size (by omega)
        rw [Tr.dep] at hx2
        have hsz' : szs stk = szs ini + (l.sz + r.sz + 1) := hsz
        have fin : ∀ {σ : StD}, (∃ x2 x3 x4 x5 x6 x7 x8 x9 : Option D, σ = [some d, some (.loc S.length), x2, x3, x4, x5, x6, x7, x8, x9]) → ∃ g', ((∃ x2 x3 x4 x5 x6 x7 x8 x9 : Option D, σ = [some d, some (.loc S.length), x2, x3, x4, x5, x6, x7, x8, x9]) ∧ S ++ [.lst (ini.map itD ++ [.tup [dl, kD lo, .int kk, .int (hh - 1)], .tup [dr, .int kk, kD hi, .int hh]])] = S ++ [.lst (g'.map itD)] ∧ szs g' ≤ 1000 ∧ ∀ x ∈ g', RepT S x.1 x.2.1 ∧ x.2.1.dep ≤ 110 ∧ x.2.1.ok x.2.2.1 x.2.2.2.1 x.2.2.2.2) ∧ szs g' < szs stk := by
          intro σ hσ
          have hz2 : szs (ini ++ [(dl, l, lo, some kk, some (hh - 1)), (dr, r, some kk, hi, some hh)]) = szs ini + (l.sz + r.sz) := by rw [szs_app]; simp [szs]
          refine ⟨ini ++ [(dl, l, lo, some kk, some (hh - 1)), (dr, r, some kk, hi, some hh)], ⟨hσ, ?_, by omega, fun x hx => ?_⟩, by omega⟩
          · rw [List.map_append]; rfl
          · rcases List.mem_append.mp hx with hx | hx
            · exact hin x hx
            · rcases List.mem_cons.mp hx with rfl | hx
              · exact ⟨r1, by dsimp only; omega, o5⟩
              · have : x = (dr, r, some kk, hi, some hh) := by simpa using hx
                subst this
                exact ⟨r2, by dsimp only; omega, o6⟩
        cases mo with
        | none =>
          simp only [bnd_some, bnd_none, opt_some, opt_none, seqF_next, seqF_brk, seqF_cnt, seqF_ret, ts_nil, ts_cons, out_ret, out_next, ite_t, ite_f, bop_and_t, bop_and_f, bop_or_t, bop_or_f, bb_and_t, bb_and_f, bb_or_t, bb_or_f, slot_0, slot_s, e_con, b_con, e_var, b_var, e_glo, b_glo, e_tup, b_tup, e_lst, b_lst, e_dct, b_dct, e_op, b_op, e_neg, b_neg, e_not, b_not, e_bop, b_bop, e_cmp, b_cmp, e_chn, b_chn, e_ifx, b_ifx, e_ix, b_ix, e_sl, b_sl, e_call, b_call, e_callK, e_fnv, e_callL, fnIx_fn, e_bi, b_bi, e_mxd, b_mxd, e_isi, b_isi, e_isl, b_isl, e_lrg, b_lrg, e_mt, b_mt, e_lc, b_lc, e_rev, b_rev, e_gtp, e_lrg1, i_rng3, bop_1, bop_2, bb_1, bb_2, es_nil, es_cons, eo_none, eo_some, if_none, if_some, i_ex, i_rng1, i_rng2, i_enm, q_nm, q_tp, q_sb, setK_some, qs_nil, qs_cons, t_asg, t_aug, t_ex, t_ret, t_retN, t_iff, t_fr, t_whl, t_brk, t_cnt, t_pas, con_none, con_bool, con_int, con_str, neg_int, not_bl, int_int, add_int, sub_int, lt_int, le_int, gt_int, ge_int, eq_int, ne_int, is_nn, is_in, is_bb, isn_nn, isn_in, isn_bb, tr_non, tr_bl, tr_int, ty_non, ty_bl, ty_int, ty_tup, ty_ro, isa_int_int, isa_int_bool, isa_int_list, isa_int_tuple, isa_list_list, isa_list_tuple, isa_tuple_list, isa_tuple_tuple, sq_tup, sq_ro, bi_int_int, bi_int_bl, bi_tuple_tup, bi_min, bi_max, bi_len_tup, bi_len_ro, ix_tup, ix_ro, sl_tup, sl_ro, stays_tup, stays_ro, at_0, at_1, gc_ai, gc_aai, gc_aaai, gc_ab, gc_aab, gc_aaab, gc_an, gc_aan, gc_aaan, gc_same, wipe_nil, wipe_cons, sz_0, sz_1, sz_2, sz_3, sz_4, sz_5, sz_6, sz_7, sz_8, sz_9, sz_10, runDef, runFull, Def.full, startD, List.length_cons, List.length_nil, List.map_cons, List.map_nil, List.append_nil, List.nil_append, List.cons_append, List.drop_nil, List.drop_zero, List.drop_succ_cons, List.set_cons_zero, List.set_cons_succ, List.replicate, if_true, if_false, Bool.not_true, Bool.not_false, Bool.true_or, Bool.false_or, Option.map_some, Option.map_none, Nat.zero_add, Nat.add_zero, Nat.sub_self, Nat.reduceAdd, Nat.reduceSub, ↓reduceIte, Bool.and_true, Bool.true_and, Bool.false_and, Bool.and_false, Int.cast_ofNat_Int, decide_true, decide_false, Int.reduceEq, Int.reduceLT, Int.reduceLE, Bool.false_eq_true, List.append_assoc, List.length_append, lk_app, lk_app0, lk_sapp, lk_sapp0, lk_z, lk_s, st_app, st_app0, st_sapp, st_sapp0, len_set, set_set, sq_lk, ix_lk, sl_lk, len_lk, tuple_lk, list_lk, list_tup, ty_lk, stays_lk, set_lk, add_lk, app_lk, ext_lk, clear_lk, recv_lk, get2_lk, tr_lk, gp_0, gp_1, gp_2, gp_3, gp_4, gp_5, gp_6, gp_7, gp_8, ko_n, ko_s, ko_p, gq_1, gq_2, gq_3, gq_4, gq_5, gq_6, gq_7, gq_8, gq_9, gq_10, gq_11, gq_12, gq_13, gq_14, gq_15, gq_16, gcR, Nat.lt_irrefl, Nat.not_lt_zero, List.take_succ_cons, List.take_zero, List.take_nil, D.beqL_self, at_2, at_3, ixN, Nat.reduceLT, Nat.reduceLeDiff, Int.reduceToNat, Int.reduceNeg, Int.reduceSub, Int.reduceAdd, Int.reduceMul, sz_lt, Int.zero_add, mod_int, pr_int, pr_bl, pr_non, pr_str, pr_tup, pr_nil, pr_cons, pr_lst, pr_ints, pr_prs, pr_app, pr_kD, mt_1, mt_2, mt_3, mt_4, mt_5, mt_6, mt_7, rev_lk, max_lk, min_lk, sum_lk, any_lk, all_lk, count_lk, index_lk, pop_lk, eq_D, ne_D, eqD_ll, eqD_tt, eqL_ll, eqS_same, eqS_nil, eqS_ints, eqD_ii, eqD_kk, py_app, py_nil, py_cons, py_ints, py_int, py_bl, py_non, py_kD, py_links, py_prs, py_mapi, pr_mapi, pr_linksT, gt_np, pr_loc, pr_stps, pr_stp, aug_add, aug_sub, ko_app, take_left', len_aa, h1', h2, gc_len, itD, hisn, hrw, hln, hix, hbt, hL, is_integer_int, decide_eq_false (Int.not_lt.mpr o3), kD_n, l1, l2, List.length_map]
          exact fin ⟨_, _, _, _, _, _, _, _, rfl⟩
        | some m =>
          simp only [bnd_some, bnd_none, opt_some, opt_none, seqF_next, seqF_brk, seqF_cnt, seqF_ret, ts_nil, ts_cons, out_ret, out_next, ite_t, ite_f, bop_and_t, bop_and_f, bop_or_t, bop_or_f, bb_and_t, bb_and_f, bb_or_t, bb_or_f, slot_0, slot_s, e_con, b_con, e_var, b_var, e_glo, b_glo, e_tup, b_tup, e_lst, b_lst, e_dct, b_dct, e_op, b_op, e_neg, b_neg, e_not, b_not, e_bop, b_bop, e_cmp, b_cmp, e_chn, b_chn, e_ifx, b_ifx, e_ix, b_ix, e_sl, b_sl, e_call, b_call, e_callK, e_fnv, e_callL, fnIx_fn, e_bi, b_bi, e_mxd, b_mxd, e_isi, b_isi, e_isl, b_isl, e_lrg, b_lrg, e_mt, b_mt, e_lc, b_lc, e_rev, b_rev, e_gtp, e_lrg1, i_rng3, bop_1, bop_2, bb_1, bb_2, es_nil, es_cons, eo_none, eo_some, if_none, if_some, i_ex, i_rng1, i_rng2, i_enm, q_nm, q_tp, q_sb, setK_some, qs_nil, qs_cons, t_asg, t_aug, t_ex, t_ret, t_retN, t_iff, t_fr, t_whl, t_brk, t_cnt, t_pas, con_none, con_bool, con_int, con_str, neg_int, not_bl, int_int, add_int, sub_int, lt_int, le_int, gt_int, ge_int, eq_int, ne_int, is_nn, is_in, is_bb, isn_nn, isn_in, isn_bb, tr_non, tr_bl, tr_int, ty_non, ty_bl, ty_int, ty_tup, ty_ro, isa_int_int, isa_int_bool, isa_int_list, isa_int_tuple, isa_list_list, isa_list_tuple, isa_tuple_list, isa_tuple_tuple, sq_tup, sq_ro, bi_int_int, bi_int_bl, bi_tuple_tup, bi_min, bi_max, bi_len_tup, bi_len_ro, ix_tup, ix_ro, sl_tup, sl_ro, stays_tup, stays_ro, at_0, at_1, gc_ai, gc_aai, gc_aaai, gc_ab, gc_aab, gc_aaab, gc_an, gc_aan, gc_aaan, gc_same, wipe_nil, wipe_cons, sz_0, sz_1, sz_2, sz_3, sz_4, sz_5, sz_6, sz_7, sz_8, sz_9, sz_10, runDef, runFull, Def.full, startD, List.length_cons, List.length_nil, List.map_cons, List.map_nil, List.append_nil, List.nil_append, List.cons_append, List.drop_nil, List.drop_zero, List.drop_succ_cons, List.set_cons_zero, List.set_cons_succ, List.replicate, if_true, if_false, Bool.not_true, Bool.not_false, Bool.true_or, Bool.false_or, Option.map_some, Option.map_none, Nat.zero_add, Nat.add_zero, Nat.sub_self, Nat.reduceAdd, Nat.reduceSub, ↓reduceIte, Bool.and_true, Bool.true_and, Bool.false_and, Bool.and_false, Int.cast_ofNat_Int, decide_true, decide_false, Int.reduceEq, Int.reduceLT, Int.reduceLE, Bool.false_eq_true, List.append_assoc, List.length_append, lk_app, lk_app0, lk_sapp, lk_sapp0, lk_z, lk_s, st_app, st_app0, st_sapp, st_sapp0, len_set, set_set, sq_lk, ix_lk, sl_lk, len_lk, tuple_lk, list_lk, list_tup, ty_lk, stays_lk, set_lk, add_lk, app_lk, ext_lk, clear_lk, recv_lk, get2_lk, tr_lk, gp_0, gp_1, gp_2, gp_3, gp_4, gp_5, gp_6, gp_7, gp_8, ko_n, ko_s, ko_p, gq_1, gq_2, gq_3, gq_4, gq_5, gq_6, gq_7, gq_8, gq_9, gq_10, gq_11, gq_12, gq_13, gq_14, gq_15, gq_16, gcR, Nat.lt_irrefl, Nat.not_lt_zero, List.take_succ_cons, List.take_zero, List.take_nil, D.beqL_self, at_2, at_3, ixN, Nat.reduceLT, Nat.reduceLeDiff, Int.reduceToNat, Int.reduceNeg, Int.reduceSub, Int.reduceAdd, Int.reduceMul, sz_lt, Int.zero_add, mod_int, pr_int, pr_bl, pr_non, pr_str, pr_tup, pr_nil, pr_cons, pr_lst, pr_ints, pr_prs, pr_app, pr_kD, mt_1, mt_2, mt_3, mt_4, mt_5, mt_6, mt_7, rev_lk, max_lk, min_lk, sum_lk, any_lk, all_lk, count_lk, index_lk, pop_lk, eq_D, ne_D, eqD_ll, eqD_tt, eqL_ll, eqS_same, eqS_nil, eqS_ints, eqD_ii, eqD_kk, py_app, py_nil, py_cons, py_ints, py_int, py_bl, py_non, py_kD, py_links, py_prs, py_mapi, pr_mapi, pr_linksT, gt_np, pr_loc, pr_stps, pr_stp, aug_add, aug_sub, ko_app, take_left', len_aa, h1', h2, gc_len, itD, hisn, hrw, hln, hix, hbt, hL, is_integer_int, decide_eq_false (Int.not_lt.mpr o3), kD_s, decide_eq_false (Int.not_lt.mpr (o4 m rfl)), l1, l2, List.length_map]
          exact fin ⟨_, _, _, _, _, _, _, _, rfl⟩
    · simp [szs]; omega
    · intro x hx
      have : x = (d, t, none, none, none) := by simpa using hx
      subst this
      exact ⟨hr, hd, ho⟩
    · have : szs [(d, t, none, none, none)] = t.sz := by simp [szs]
      rw [this]
      unfold turns
      omega
  obtain ⟨σ, L, rfl⟩ := key
  simp only [bnd_some, bnd_none, opt_some, opt_none, seqF_next, seqF_brk, seqF_cnt, seqF_ret, ts_nil, ts_cons, out_ret, out_next, ite_t, ite_f, bop_and_t, bop_and_f, bop_or_t, bop_or_f, bb_and_t, bb_and_f, bb_or_t, bb_or_f, slot_0, slot_s, e_con, b_con, e_var, b_var, e_glo, b_glo, e_tup, b_tup, e_lst, b_lst, e_dct, b_dct, e_op, b_op, e_neg, b_neg, e_not, b_not, e_bop, b_bop, e_cmp, b_cmp, e_chn, b_chn, e_ifx, b_ifx, e_ix, b_ix, e_sl, b_sl, e_call, b_call, e_callK, e_fnv, e_callL, fnIx_fn, e_bi, b_bi, e_mxd, b_mxd, e_isi, b_isi, e_isl, b_isl, e_lrg, b_lrg, e_mt, b_mt, e_lc, b_lc, e_rev, b_rev, e_gtp, e_lrg1, i_rng3, bop_1, bop_2, bb_1, bb_2, es_nil, es_cons, eo_none, eo_some, if_none, if_some, i_ex, i_rng1, i_rng2, i_enm, q_nm, q_tp, q_sb, setK_some, qs_nil, qs_cons, t_asg, t_aug, t_ex, t_ret, t_retN, t_iff, t_fr, t_whl, t_brk, t_cnt, t_pas, con_none, con_bool, con_int, con_str, neg_int, not_bl, int_int, add_int, sub_int, lt_int, le_int, gt_int, ge_int, eq_int, ne_int, is_nn, is_in, is_bb, isn_nn, isn_in, isn_bb, tr_non, tr_bl, tr_int, ty_non, ty_bl, ty_int, ty_tup, ty_ro, isa_int_int, isa_int_bool, isa_int_list, isa_int_tuple, isa_list_list, isa_list_tuple, isa_tuple_list, isa_tuple_tuple, sq_tup, sq_ro, bi_int_int, bi_int_bl, bi_tuple_tup, bi_min, bi_max, bi_len_tup, bi_len_ro, ix_tup, ix_ro, sl_tup, sl_ro, stays_tup, stays_ro, at_0, at_1, gc_ai, gc_aai, gc_aaai, gc_ab, gc_aab, gc_aaab, gc_an, gc_aan, gc_aaan, gc_same, wipe_nil, wipe_cons, sz_0, sz_1, sz_2, sz_3, sz_4, sz_5, sz_6, sz_7, sz_8, sz_9, sz_10, runDef, runFull, Def.full, startD, List.length_cons, List.length_nil, List.map_cons, List.map_nil, List.append_nil, List.nil_append, List.cons_append, List.drop_nil, List.drop_zero, List.drop_succ_cons, List.set_cons_zero, List.set_cons_succ, List.replicate, if_true, if_false, Bool.not_true, Bool.not_false, Bool.true_or, Bool.false_or, Option.map_some, Option.map_none, Nat.zero_add, Nat.add_zero, Nat.sub_self, Nat.reduceAdd, Nat.reduceSub, ↓reduceIte, Bool.and_true, Bool.true_and, Bool.false_and, Bool.and_false, Int.cast_ofNat_Int, decide_true, decide_false, Int.reduceEq, Int.reduceLT, Int.reduceLE, Bool.false_eq_true, List.append_assoc, List.length_append, lk_app, lk_app0, lk_sapp, lk_sapp0, lk_z, lk_s, st_app, st_app0, st_sapp, st_sapp0, len_set, set_set, sq_lk, ix_lk, sl_lk, len_lk, tuple_lk, list_lk, list_tup, ty_lk, stays_lk, set_lk, add_lk, app_lk, ext_lk, clear_lk, recv_lk, get2_lk, tr_lk, gp_0, gp_1, gp_2, gp_3, gp_4, gp_5, gp_6, gp_7, gp_8, ko_n, ko_s, ko_p, gq_1, gq_2, gq_3, gq_4, gq_5, gq_6, gq_7, gq_8, gq_9, gq_10, gq_11, gq_12, gq_13, gq_14, gq_15, gq_16, gcR, Nat.lt_irrefl, Nat.not_lt_zero, List.take_succ_cons, List.take_zero, List.take_nil, D.beqL_self, at_2, at_3, ixN, Nat.reduceLT, Nat.reduceLeDiff, Int.reduceToNat, Int.reduceNeg, Int.reduceSub, Int.reduceAdd, Int.reduceMul, sz_lt, Int.zero_add, mod_int, pr_int, pr_bl, pr_non, pr_str, pr_tup, pr_nil, pr_cons, pr_lst, pr_ints, pr_prs, pr_app, pr_kD, mt_1, mt_2, mt_3, mt_4, mt_5, mt_6, mt_7, rev_lk, max_lk, min_lk, sum_lk, any_lk, all_lk, count_lk, index_lk, pop_lk, eq_D, ne_D, eqD_ll, eqD_tt, eqL_ll, eqS_same, eqS_nil, eqS_ints, eqD_ii, eqD_kk, py_app, py_nil, py_cons, py_ints, py_int, py_bl, py_non, py_kD, py_links, py_prs, py_mapi, pr_mapi, pr_linksT, gt_np, pr_loc, pr_stps, pr_stp, aug_add, aug_sub, ko_app, take_left', len_aa]
end K72

end

section
set_option maxHeartbeats 1000000
namespace K72
open PySem PySem.Spec Mi
open L2 (atI ixN Key)
theorem listed_of : ∀ (t : Tr) (n k : Nat) (d : D) (S : Store), RepT S d t → t.dep ≤ n → t.rows.length ≤ 1000 → orc defs (k + n + 1) 9 [d] S = some (.tup (t.rows.map prD), S)
  | .nil, n, k, d, S, h, _, _ => by
    have : d = .non := h
    subst this
    rw [orc_at (d := d_listed) rfl]
    simp only [d_listed, b_listed, bnd_some, bnd_none, opt_some, opt_none, seqF_next, seqF_brk, seqF_cnt, seqF_ret, ts_nil, ts_cons, out_ret, out_next, ite_t, ite_f, bop_and_t, bop_and_f, bop_or_t, bop_or_f, bb_and_t, bb_and_f, bb_or_t, bb_or_f, slot_0, slot_s, e_con, b_con, e_var, b_var, e_glo, b_glo, e_tup, b_tup, e_lst, b_lst, e_dct, b_dct, e_op, b_op, e_neg, b_neg, e_not, b_not, e_bop, b_bop, e_cmp, b_cmp, e_chn, b_chn, e_ifx, b_ifx, e_ix, b_ix, e_sl, b_sl, e_call, b_call, e_callK, e_fnv, e_callL, fnIx_fn, e_bi, b_bi, e_mxd, b_mxd, e_isi, b_isi, e_isl, b_isl, e_lrg, b_lrg, e_mt, b_mt, e_lc, b_lc, e_rev, b_rev, e_gtp, e_lrg1, i_rng3, bop_1, bop_2, bb_1, bb_2, es_nil, es_cons, eo_none, eo_some, if_none, if_some, i_ex, i_rng1, i_rng2, i_enm, q_nm, q_tp, q_sb, setK_some, qs_nil, qs_cons, t_asg, t_aug, t_ex, t_ret, t_retN, t_iff, t_fr, t_whl, t_brk, t_cnt, t_pas, con_none, con_bool, con_int, con_str, neg_int, not_bl, int_int, add_int, sub_int, lt_int, le_int, gt_int, ge_int, eq_int, ne_int, is_nn, is_in, is_bb, isn_nn, isn_in, isn_bb, tr_non, tr_bl, tr_int, ty_non, ty_bl, ty_int, ty_tup, ty_ro, isa_int_int, isa_int_bool, isa_int_list, isa_int_tuple, isa_list_list, isa_list_tuple, isa_tuple_list, isa_tuple_tuple, sq_tup, sq_ro, bi_int_int, bi_int_bl, bi_tuple_tup, bi_min, bi_max, bi_len_tup, bi_len_ro, ix_tup, ix_ro, sl_tup, sl_ro, stays_tup, stays_ro, at_0, at_1, gc_ai, gc_aai, gc_aaai, gc_ab, gc_aab, gc_aaab, gc_an, gc_aan, gc_aaan, gc_same, wipe_nil, wipe_cons, sz_0, sz_1, sz_2, sz_3, sz_4, sz_5, sz_6, sz_7, sz_8, sz_9, sz_10, runDef, runFull, Def.full, startD, List.length_cons, List.length_nil, List.map_cons, List.map_nil, List.append_nil, List.nil_append, List.cons_append, List.drop_nil, List.drop_zero, List.drop_succ_cons, List.set_cons_zero, List.set_cons_succ, List.replicate, if_true, if_false, Bool.not_true, Bool.not_false, Bool.true_or, Bool.false_or, Option.map_some, Option.map_none, Nat.zero_add, Nat.add_zero, Nat.sub_self, Nat.reduceAdd, Nat.reduceSub, ↓reduceIte, Bool.and_true, Bool.true_and, Bool.false_and, Bool.and_false, Int.cast_ofNat_Int, decide_true, decide_false, Int.reduceEq, Int.reduceLT, Int.reduceLE, Bool.false_eq_true, List.append_assoc, List.length_append, lk_app, lk_app0, lk_sapp, lk_sapp0, lk_z, lk_s, st_app, st_app0, st_sapp, st_sapp0, len_set, set_set, sq_lk, ix_lk, sl_lk, len_lk, tuple_lk, list_lk, list_tup, ty_lk, stays_lk, set_lk, add_lk, app_lk, ext_lk, clear_lk, recv_lk, get2_lk, tr_lk, gp_0, gp_1, gp_2, gp_3, gp_4, gp_5, gp_6, gp_7, gp_8, ko_n, ko_s, ko_p, gq_1, gq_2, gq_3, gq_4, gq_5, gq_6, gq_7, gq_8, gq_9, gq_10, gq_11, gq_12, gq_13, gq_14, gq_15, gq_16, gcR, Nat.lt_irrefl, Nat.not_lt_zero, List.take_succ_cons, List.take_zero, List.take_nil, D.beqL_self, at_2, at_3, ixN, Nat.reduceLT, Nat.reduceLeDiff, Int.reduceToNat, Int.reduceNeg, Int.reduceSub, Int.reduceAdd, Int.reduceMul, sz_lt, Int.zero_add, mod_int, pr_int, pr_bl, pr_non, pr_str, pr_tup, pr_nil, pr_cons, pr_lst, pr_ints, pr_prs, pr_app, pr_kD, mt_1, mt_2, mt_3, mt_4, mt_5, mt_6, mt_7, rev_lk, max_lk, min_lk, sum_lk, any_lk, all_lk, count_lk, index_lk, pop_lk, eq_D, ne_D, eqD_ll, eqD_tt, eqL_ll, eqS_same, eqS_nil, eqS_ints, eqD_ii, eqD_kk, py_app, py_nil, py_cons, py_ints, py_int, py_bl, py_non, py_kD, py_links, py_prs, py_mapi, pr_mapi, pr_linksT, gt_np, pr_loc, pr_stps, pr_stp, aug_add, aug_sub, ko_app, take_left', len_aa, Tr.rows]
  | .node kk hh l r, 0, k, d, S, _, e, _ => by rw [Tr.dep] at e; omega
  | .node kk hh l r, n + 1, k, d, S, ⟨dl, dr, e, r1, r2⟩, hd, hl => by
    rw [Tr.dep] at hd
    have hrl : (Tr.node kk hh l r).rows.length = l.rows.length + (r.rows.length + 1) := by rw [Tr.rows, List.length_append, List.length_cons]
    have g1 := listed_of l n k dl S r1 (by omega) (by omega)
    have g2 := listed_of r n k dr S r2 (by omega) (by omega)
    rw [show k + (n + 1) + 1 = (k + n + 1) + 1 by omega, orc_at (d := d_listed) rfl]
    have z1 : l.rows.length + 1 ≤ sizeLine := le_size (by omega)
    have z2 : l.rows.length + 1 + r.rows.length ≤ sizeLine := le_size (by omega)
    have z3 : l.rows.length + (1 + r.rows.length) ≤ sizeLine := le_size (by omega)
    simp only [d_listed, b_listed, bnd_some, bnd_none, opt_some, opt_none, seqF_next, seqF_brk, seqF_cnt, seqF_ret, ts_nil, ts_cons, out_ret, out_next, ite_t, ite_f, bop_and_t, bop_and_f, bop_or_t, bop_or_f, bb_and_t, bb_and_f, bb_or_t, bb_or_f, slot_0, slot_s, e_con, b_con, e_var, b_var, e_glo, b_glo, e_tup, b_tup, e_lst, b_lst, e_dct, b_dct, e_op, b_op, e_neg, b_neg, e_not, b_not, e_bop, b_bop, e_cmp, b_cmp, e_chn, b_chn, e_ifx, b_ifx, e_ix, b_ix, e_sl, b_sl, e_call, b_call, e_callK, e_fnv, e_callL, fnIx_fn, e_bi, b_bi, e_mxd, b_mxd, e_isi, b_isi, e_isl, b_isl, e_lrg, b_lrg, e_mt, b_mt, e_lc, b_lc, e_rev, b_rev, e_gtp, e_lrg1, i_rng3, bop_1, bop_2, bb_1, bb_2, es_nil, es_cons, eo_none, eo_some, if_none, if_some, i_ex, i_rng1, i_rng2, i_enm, q_nm, q_tp, q_sb, setK_some, qs_nil, qs_cons, t_asg, t_aug, t_ex, t_ret, t_retN, t_iff, t_fr, t_whl, t_brk, t_cnt, t_pas, con_none, con_bool, con_int, con_str, neg_int, not_bl, int_int, add_int, sub_int, lt_int, le_int, gt_int, ge_int, eq_int, ne_int, is_nn, is_in, is_bb, isn_nn, isn_in, isn_bb, tr_non, tr_bl, tr_int, ty_non, ty_bl, ty_int, ty_tup, ty_ro, isa_int_int, isa_int_bool, isa_int_list, isa_int_tuple, isa_list_list, isa_list_tuple, isa_tuple_list, isa_tuple_tuple, sq_tup, sq_ro, bi_int_int, bi_int_bl, bi_tuple_tup, bi_min, bi_max, bi_len_tup, bi_len_ro, ix_tup, ix_ro, sl_tup, sl_ro, stays_tup, stays_ro, at_0, at_1, gc_ai, gc_aai, gc_aaai, gc_ab, gc_aab, gc_aaab, gc_an, gc_aan, gc_aaan, gc_same, wipe_nil, wipe_cons, sz_0, sz_1, sz_2, sz_3, sz_4, sz_5, sz_6, sz_7, sz_8, sz_9, sz_10, runDef, runFull, Def.full, startD, List.length_cons, List.length_nil, List.map_cons, List.map_nil, List.append_nil, List.nil_append, List.cons_append, List.drop_nil, List.drop_zero, List.drop_succ_cons, List.set_cons_zero, List.set_cons_succ, List.replicate, if_true, if_false, Bool.not_true, Bool.not_false, Bool.true_or, Bool.false_or, Option.map_some, Option.map_none, Nat.zero_add, Nat.add_zero, Nat.sub_self, Nat.reduceAdd, Nat.reduceSub, ↓reduceIte, Bool.and_true, Bool.true_and, Bool.false_and, Bool.and_false, Int.cast_ofNat_Int, decide_true, decide_false, Int.reduceEq, Int.reduceLT, Int.reduceLE, Bool.false_eq_true, List.append_assoc, List.length_append, lk_app, lk_app0, lk_sapp, lk_sapp0, lk_z, lk_s, st_app, st_app0, st_sapp, st_sapp0, len_set, set_set, sq_lk, ix_lk, sl_lk, len_lk, tuple_lk, list_lk, list_tup, ty_lk, stays_lk, set_lk, add_lk, app_lk, ext_lk, clear_lk, recv_lk, get2_lk, tr_lk, gp_0, gp_1, gp_2, gp_3, gp_4, gp_5, gp_6, gp_7, gp_8, ko_n, ko_s, ko_p, gq_1, gq_2, gq_3, gq_4, gq_5, gq_6, gq_7, gq_8, gq_9, gq_10, gq_11, gq_12, gq_13, gq_14, gq_15, gq_16, gcR, Nat.lt_irrefl, Nat.not_lt_zero, List.take_succ_cons, List.take_zero, List.take_nil, D.beqL_self, at_2, at_3, ixN, Nat.reduceLT, Nat.reduceLeDiff, Int.reduceToNat, Int.reduceNeg, Int.reduceSub, Int.reduceAdd, Int.reduceMul, sz_lt, Int.zero_add, mod_int, pr_int, pr_bl, pr_non, pr_str, pr_tup, pr_nil, pr_cons, pr_lst, pr_ints, pr_prs, pr_app, pr_kD, mt_1, mt_2, mt_3, mt_4, mt_5, mt_6, mt_7, rev_lk, max_lk, min_lk, sum_lk, any_lk, all_lk, count_lk, index_lk, pop_lk, eq_D, ne_D, eqD_ll, eqD_tt, eqL_ll, eqS_same, eqS_nil, eqS_ints, eqD_ii, eqD_kk, py_app, py_nil, py_cons, py_ints, py_int, py_bl, py_non, py_kD, py_links, py_prs, py_mapi, pr_mapi, pr_linksT, gt_np, pr_loc, pr_stps, pr_stp, aug_add, aug_sub, ko_app, take_left', len_aa, is_sqn e, ix_sq e, g1, g2, add_tt, List.length_map, z1, z2, z3, Tr.rows, List.map_append, List.map_cons, prD, pr_prs]
theorem shaped_of : ∀ (t : Tr) (n k : Nat) (d : D) (S : Store), RepT S d t → t.dep ≤ n → orc defs (k + n + 1) 11 [d] S = some (shD t, S)
  | .nil, n, k, d, S, h, _ => by
    have : d = .non := h
    subst this
    rw [orc_at (d := d_shaped) rfl]
    simp only [d_shaped, b_shaped, bnd_some, bnd_none, opt_some, opt_none, seqF_next, seqF_brk, seqF_cnt, seqF_ret, ts_nil, ts_cons, out_ret, out_next, ite_t, ite_f, bop_and_t, bop_and_f, bop_or_t, bop_or_f, bb_and_t, bb_and_f, bb_or_t, bb_or_f, slot_0, slot_s, e_con, b_con, e_var, b_var, e_glo, b_glo, e_tup, b_tup, e_lst, b_lst, e_dct, b_dct, e_op, b_op, e_neg, b_neg, e_not, b_not, e_bop, b_bop, e_cmp, b_cmp, e_chn, b_chn, e_ifx, b_ifx, e_ix, b_ix, e_sl, b_sl, e_call, b_call, e_callK, e_fnv, e_callL, fnIx_fn, e_bi, b_bi, e_mxd, b_mxd, e_isi, b_isi, e_isl, b_isl, e_lrg, b_lrg, e_mt, b_mt, e_lc, b_lc, e_rev, b_rev, e_gtp, e_lrg1, i_rng3, bop_1, bop_2, bb_1, bb_2, es_nil, es_cons, eo_none, eo_some, if_none, if_some, i_ex, i_rng1, i_rng2, i_enm, q_nm, q_tp, q_sb, setK_some, qs_nil, qs_cons, t_asg, t_aug, t_ex, t_ret, t_retN, t_iff, t_fr, t_whl, t_brk, t_cnt, t_pas, con_none, con_bool, con_int, con_str, neg_int, not_bl, int_int, add_int, sub_int, lt_int, le_int, gt_int, ge_int, eq_int, ne_int, is_nn, is_in, is_bb, isn_nn, isn_in, isn_bb, tr_non, tr_bl, tr_int, ty_non, ty_bl, ty_int, ty_tup, ty_ro, isa_int_int, isa_int_bool, isa_int_list, isa_int_tuple, isa_list_list, isa_list_tuple, isa_tuple_list, isa_tuple_tuple, sq_tup, sq_ro, bi_int_int, bi_int_bl, bi_tuple_tup, bi_min, bi_max, bi_len_tup, bi_len_ro, ix_tup, ix_ro, sl_tup, sl_ro, stays_tup, stays_ro, at_0, at_1, gc_ai, gc_aai, gc_aaai, gc_ab, gc_aab, gc_aaab, gc_an, gc_aan, gc_aaan, gc_same, wipe_nil, wipe_cons, sz_0, sz_1, sz_2, sz_3, sz_4, sz_5, sz_6, sz_7, sz_8, sz_9, sz_10, runDef, runFull, Def.full, startD, List.length_cons, List.length_nil, List.map_cons, List.map_nil, List.append_nil, List.nil_append, List.cons_append, List.drop_nil, List.drop_zero, List.drop_succ_cons, List.set_cons_zero, List.set_cons_succ, List.replicate, if_true, if_false, Bool.not_true, Bool.not_false, Bool.true_or, Bool.false_or, Option.map_some, Option.map_none, Nat.zero_add, Nat.add_zero, Nat.sub_self, Nat.reduceAdd, Nat.reduceSub, ↓reduceIte, Bool.and_true, Bool.true_and, Bool.false_and, Bool.and_false, Int.cast_ofNat_Int, decide_true, decide_false, Int.reduceEq, Int.reduceLT, Int.reduceLE, Bool.false_eq_true, List.append_assoc, List.length_append, lk_app, lk_app0, lk_sapp, lk_sapp0, lk_z, lk_s, st_app, st_app0, st_sapp, st_sapp0, len_set, set_set, sq_lk, ix_lk, sl_lk, len_lk, tuple_lk, list_lk, list_tup, ty_lk, stays_lk, set_lk, add_lk, app_lk, ext_lk, clear_lk, recv_lk, get2_lk, tr_lk, gp_0, gp_1, gp_2, gp_3, gp_4, gp_5, gp_6, gp_7, gp_8, ko_n, ko_s, ko_p, gq_1, gq_2, gq_3, gq_4, gq_5, gq_6, gq_7, gq_8, gq_9, gq_10, gq_11, gq_12, gq_13, gq_14, gq_15, gq_16, gcR, Nat.lt_irrefl, Nat.not_lt_zero, List.take_succ_cons, List.take_zero, List.take_nil, D.beqL_self, at_2, at_3, ixN, Nat.reduceLT, Nat.reduceLeDiff, Int.reduceToNat, Int.reduceNeg, Int.reduceSub, Int.reduceAdd, Int.reduceMul, sz_lt, Int.zero_add, mod_int, pr_int, pr_bl, pr_non, pr_str, pr_tup, pr_nil, pr_cons, pr_lst, pr_ints, pr_prs, pr_app, pr_kD, mt_1, mt_2, mt_3, mt_4, mt_5, mt_6, mt_7, rev_lk, max_lk, min_lk, sum_lk, any_lk, all_lk, count_lk, index_lk, pop_lk, eq_D, ne_D, eqD_ll, eqD_tt, eqL_ll, eqS_same, eqS_nil, eqS_ints, eqD_ii, eqD_kk, py_app, py_nil, py_cons, py_ints, py_int, py_bl, py_non, py_kD, py_links, py_prs, py_mapi, pr_mapi, pr_linksT, gt_np, pr_loc, pr_stps, pr_stp, aug_add, aug_sub, ko_app, take_left', len_aa, shD]
  | .node kk hh l r, 0, k, d, S, _, e => by rw [Tr.dep] at e; omega
  | .node kk hh l r, n + 1, k, d, S, ⟨dl, dr, e, r1, r2⟩, hd => by
    rw [Tr.dep] at hd
    have g1 := shaped_of l n k dl S r1 (by omega)
    have g2 := shaped_of r n k dr S r2 (by omega)
    rw [show k + (n + 1) + 1 = (k + n + 1) + 1 by omega, orc_at (d := d_shaped) rfl]
    simp only [d_shaped, b_shaped, bnd_some, bnd_none, opt_some, opt_none, seqF_next, seqF_brk, seqF_cnt, seqF_ret, ts_nil, ts_cons, out_ret, out_next, ite_t, ite_f, bop_and_t, bop_and_f, bop_or_t, bop_or_f, bb_and_t, bb_and_f, bb_or_t, bb_or_f, slot_0, slot_s, e_con, b_con, e_var, b_var, e_glo, b_glo, e_tup, b_tup, e_lst, b_lst, e_dct, b_dct, e_op, b_op, e_neg, b_neg, e_not, b_not, e_bop, b_bop, e_cmp, b_cmp, e_chn, b_chn, e_ifx, b_ifx, e_ix, b_ix, e_sl, b_sl, e_call, b_call, e_callK, e_fnv, e_callL, fnIx_fn, e_bi, b_bi, e_mxd, b_mxd, e_isi, b_isi, e_isl, b_isl, e_lrg, b_lrg, e_mt, b_mt, e_lc, b_lc, e_rev, b_rev, e_gtp, e_lrg1, i_rng3, bop_1, bop_2, bb_1, bb_2, es_nil, es_cons, eo_none, eo_some, if_none, if_some, i_ex, i_rng1, i_rng2, i_enm, q_nm, q_tp, q_sb, setK_some, qs_nil, qs_cons, t_asg, t_aug, t_ex, t_ret, t_retN, t_iff, t_fr, t_whl, t_brk, t_cnt, t_pas, con_none, con_bool, con_int, con_str, neg_int, not_bl, int_int, add_int, sub_int, lt_int, le_int, gt_int, ge_int, eq_int, ne_int, is_nn, is_in, is_bb, isn_nn, isn_in, isn_bb, tr_non, tr_bl, tr_int, ty_non, ty_bl, ty_int, ty_tup, ty_ro, isa_int_int, isa_int_bool, isa_int_list, isa_int_tuple, isa_list_list, isa_list_tuple, isa_tuple_list, isa_tuple_tuple, sq_tup, sq_ro, bi_int_int, bi_int_bl, bi_tuple_tup, bi_min, bi_max, bi_len_tup, bi_len_ro, ix_tup, ix_ro, sl_tup, sl_ro, stays_tup, stays_ro, at_0, at_1, gc_ai, gc_aai, gc_aaai, gc_ab, gc_aab, gc_aaab, gc_an, gc_aan, gc_aaan, gc_same, wipe_nil, wipe_cons, sz_0, sz_1, sz_2, sz_3, sz_4, sz_5, sz_6, sz_7, sz_8, sz_9, sz_10, runDef, runFull, Def.full, startD, List.length_cons, List.length_nil, List.map_cons, List.map_nil, List.append_nil, List.nil_append, List.cons_append, List.drop_nil, List.drop_zero, List.drop_succ_cons, List.set_cons_zero, List.set_cons_succ, List.replicate, if_true, if_false, Bool.not_true, Bool.not_false, Bool.true_or, Bool.false_or, Option.map_some, Option.map_none, Nat.zero_add, Nat.add_zero, Nat.sub_self, Nat.reduceAdd, Nat.reduceSub, ↓reduceIte, Bool.and_true, Bool.true_and, Bool.false_and, Bool.and_false, Int.cast_ofNat_Int, decide_true, decide_false, Int.reduceEq, Int.reduceLT, Int.reduceLE, Bool.false_eq_true, List.append_assoc, List.length_append, lk_app, lk_app0, lk_sapp, lk_sapp0, lk_z, lk_s, st_app, st_app0, st_sapp, st_sapp0, len_set, set_set, sq_lk, ix_lk, sl_lk, len_lk, tuple_lk, list_lk, list_tup, ty_lk, stays_lk, set_lk, add_lk, app_lk, ext_lk, clear_lk, recv_lk, get2_lk, tr_lk, gp_0, gp_1, gp_2, gp_3, gp_4, gp_5, gp_6, gp_7, gp_8, ko_n, ko_s, ko_p, gq_1, gq_2, gq_3, gq_4, gq_5, gq_6, gq_7, gq_8, gq_9, gq_10, gq_11, gq_12, gq_13, gq_14, gq_15, gq_16, gcR, Nat.lt_irrefl, Nat.not_lt_zero, List.take_succ_cons, List.take_zero, List.take_nil, D.beqL_self, at_2, at_3, ixN, Nat.reduceLT, Nat.reduceLeDiff, Int.reduceToNat, Int.reduceNeg, Int.reduceSub, Int.reduceAdd, Int.reduceMul, sz_lt, Int.zero_add, mod_int, pr_int, pr_bl, pr_non, pr_str, pr_tup, pr_nil, pr_cons, pr_lst, pr_ints, pr_prs, pr_app, pr_kD, mt_1, mt_2, mt_3, mt_4, mt_5, mt_6, mt_7, rev_lk, max_lk, min_lk, sum_lk, any_lk, all_lk, count_lk, index_lk, pop_lk, eq_D, ne_D, eqD_ll, eqD_tt, eqL_ll, eqS_same, eqS_nil, eqS_ints, eqD_ii, eqD_kk, py_app, py_nil, py_cons, py_ints, py_int, py_bl, py_non, py_kD, py_links, py_prs, py_mapi, pr_mapi, pr_linksT, gt_np, pr_loc, pr_stps, pr_stp, aug_add, aug_sub, ko_app, take_left', len_aa, is_sqn e, ix_sq e, g1, g2, shD, pr_shD]
theorem lshape_of : ∀ (t : Tr) (n k : Nat) (d : D) (S : Store), RepT S d t → t.dep ≤ n → orc defs (k + n + 1) 18 [d] S = some (shD t, S)
  | .nil, n, k, d, S, h, _ => by
    have : d = .non := h
    subst this
    rw [orc_at (d := d__law_shape) rfl]
    simp only [d__law_shape, b__law_shape, bnd_some, bnd_none, opt_some, opt_none, seqF_next, seqF_brk, seqF_cnt, seqF_ret, ts_nil, ts_cons, out_ret, out_next, ite_t, ite_f, bop_and_t, bop_and_f, bop_or_t, bop_or_f, bb_and_t, bb_and_f, bb_or_t, bb_or_f, slot_0, slot_s, e_con, b_con, e_var, b_var, e_glo, b_glo, e_tup, b_tup, e_lst, b_lst, e_dct, b_dct, e_op, b_op, e_neg, b_neg, e_not, b_not, e_bop, b_bop, e_cmp, b_cmp, e_chn, b_chn, e_ifx, b_ifx, e_ix, b_ix, e_sl, b_sl, e_call, b_call, e_callK, e_fnv, e_callL, fnIx_fn, e_bi, b_bi, e_mxd, b_mxd, e_isi, b_isi, e_isl, b_isl, e_lrg, b_lrg, e_mt, b_mt, e_lc, b_lc, e_rev, b_rev, e_gtp, e_lrg1, i_rng3, bop_1, bop_2, bb_1, bb_2, es_nil, es_cons, eo_none, eo_some, if_none, if_some, i_ex, i_rng1, i_rng2, i_enm, q_nm, q_tp, q_sb, setK_some, qs_nil, qs_cons, t_asg, t_aug, t_ex, t_ret, t_retN, t_iff, t_fr, t_whl, t_brk, t_cnt, t_pas, con_none, con_bool, con_int, con_str, neg_int, not_bl, int_int, add_int, sub_int, lt_int, le_int, gt_int, ge_int, eq_int, ne_int, is_nn, is_in, is_bb, isn_nn, isn_in, isn_bb, tr_non, tr_bl, tr_int, ty_non, ty_bl, ty_int, ty_tup, ty_ro, isa_int_int, isa_int_bool, isa_int_list, isa_int_tuple, isa_list_list, isa_list_tuple, isa_tuple_list, isa_tuple_tuple, sq_tup, sq_ro, bi_int_int, bi_int_bl, bi_tuple_tup, bi_min, bi_max, bi_len_tup, bi_len_ro, ix_tup, ix_ro, sl_tup, sl_ro, stays_tup, stays_ro, at_0, at_1, gc_ai, gc_aai, gc_aaai, gc_ab, gc_aab, gc_aaab, gc_an, gc_aan, gc_aaan, gc_same, wipe_nil, wipe_cons, sz_0, sz_1, sz_2, sz_3, sz_4, sz_5, sz_6, sz_7, sz_8, sz_9, sz_10, runDef, runFull, Def.full, startD, List.length_cons, List.length_nil, List.map_cons, List.map_nil, List.append_nil, List.nil_append, List.cons_append, List.drop_nil, List.drop_zero, List.drop_succ_cons, List.set_cons_zero, List.set_cons_succ, List.replicate, if_true, if_false, Bool.not_true, Bool.not_false, Bool.true_or, Bool.false_or, Option.map_some, Option.map_none, Nat.zero_add, Nat.add_zero, Nat.sub_self, Nat.reduceAdd, Nat.reduceSub, ↓reduceIte, Bool.and_true, Bool.true_and, Bool.false_and, Bool.and_false, Int.cast_ofNat_Int, decide_true, decide_false, Int.reduceEq, Int.reduceLT, Int.reduceLE, Bool.false_eq_true, List.append_assoc, List.length_append, lk_app, lk_app0, lk_sapp, lk_sapp0, lk_z, lk_s, st_app, st_app0, st_sapp, st_sapp0, len_set, set_set, sq_lk, ix_lk, sl_lk, len_lk, tuple_lk, list_lk, list_tup, ty_lk, stays_lk, set_lk, add_lk, app_lk, ext_lk, clear_lk, recv_lk, get2_lk, tr_lk, gp_0, gp_1, gp_2, gp_3, gp_4, gp_5, gp_6, gp_7, gp_8, ko_n, ko_s, ko_p, gq_1, gq_2, gq_3, gq_4, gq_5, gq_6, gq_7, gq_8, gq_9, gq_10, gq_11, gq_12, gq_13, gq_14, gq_15, gq_16, gcR, Nat.lt_irrefl, Nat.not_lt_zero, List.take_succ_cons, List.take_zero, List.take_nil, D.beqL_self, at_2, at_3, ixN, Nat.reduceLT, Nat.reduceLeDiff, Int.reduceToNat, Int.reduceNeg, Int.reduceSub, Int.reduceAdd, Int.reduceMul, sz_lt, Int.zero_add, mod_int, pr_int, pr_bl, pr_non, pr_str, pr_tup, pr_nil, pr_cons, pr_lst, pr_ints, pr_prs, pr_app, pr_kD, mt_1, mt_2, mt_3, mt_4, mt_5, mt_6, mt_7, rev_lk, max_lk, min_lk, sum_lk, any_lk, all_lk, count_lk, index_lk, pop_lk, eq_D, ne_D, eqD_ll, eqD_tt, eqL_ll, eqS_same, eqS_nil, eqS_ints, eqD_ii, eqD_kk, py_app, py_nil, py_cons, py_ints, py_int, py_bl, py_non, py_kD, py_links, py_prs, py_mapi, pr_mapi, pr_linksT, gt_np, pr_loc, pr_stps, pr_stp, aug_add, aug_sub, ko_app, take_left', len_aa, shD]
  | .node kk hh l r, 0, k, d, S, _, e => by rw [Tr.dep] at e; omega
  | .node kk hh l r, n + 1, k, d, S, ⟨dl, dr, e, r1, r2⟩, hd => by
    rw [Tr.dep] at hd
    have g1 := lshape_of l n k dl S r1 (by omega)
    have g2 := lshape_of r n k dr S r2 (by omega)
    rw [show k + (n + 1) + 1 = (k + n + 1) + 1 by omega, orc_at (d := d__law_shape) rfl]
    simp only [d__law_shape, b__law_shape, bnd_some, bnd_none, opt_some, opt_none, seqF_next, seqF_brk, seqF_cnt, seqF_ret, ts_nil, ts_cons, out_ret, out_next, ite_t, ite_f, bop_and_t, bop_and_f, bop_or_t, bop_or_f, bb_and_t, bb_and_f, bb_or_t, bb_or_f, slot_0, slot_s, e_con, b_con, e_var, b_var, e_glo, b_glo, e_tup, b_tup, e_lst, b_lst, e_dct, b_dct, e_op, b_op, e_neg, b_neg, e_not, b_not, e_bop, b_bop, e_cmp, b_cmp, e_chn, b_chn, e_ifx, b_ifx, e_ix, b_ix, e_sl, b_sl, e_call, b_call, e_callK, e_fnv, e_callL, fnIx_fn, e_bi, b_bi, e_mxd, b_mxd, e_isi, b_isi, e_isl, b_isl, e_lrg, b_lrg, e_mt, b_mt, e_lc, b_lc, e_rev, b_rev, e_gtp, e_lrg1, i_rng3, bop_1, bop_2, bb_1, bb_2, es_nil, es_cons, eo_none, eo_some, if_none, if_some, i_ex, i_rng1, i_rng2, i_enm, q_nm, q_tp, q_sb, setK_some, qs_nil, qs_cons, t_asg, t_aug, t_ex, t_ret, t_retN, t_iff, t_fr, t_whl, t_brk, t_cnt, t_pas, con_none, con_bool, con_int, con_str, neg_int, not_bl, int_int, add_int, sub_int, lt_int, le_int, gt_int, ge_int, eq_int, ne_int, is_nn, is_in, is_bb, isn_nn, isn_in, isn_bb, tr_non, tr_bl, tr_int, ty_non, ty_bl, ty_int, ty_tup, ty_ro, isa_int_int, isa_int_bool, isa_int_list, isa_int_tuple, isa_list_list, isa_list_tuple, isa_tuple_list, isa_tuple_tuple, sq_tup, sq_ro, bi_int_int, bi_int_bl, bi_tuple_tup, bi_min, bi_max, bi_len_tup, bi_len_ro, ix_tup, ix_ro, sl_tup, sl_ro, stays_tup, stays_ro, at_0, at_1, gc_ai, gc_aai, gc_aaai, gc_ab, gc_aab, gc_aaab, gc_an, gc_aan, gc_aaan, gc_same, wipe_nil, wipe_cons, sz_0, sz_1, sz_2, sz_3, sz_4, sz_5, sz_6, sz_7, sz_8, sz_9, sz_10, runDef, runFull, Def.full, startD, List.length_cons, List.length_nil, List.map_cons, List.map_nil, List.append_nil, List.nil_append, List.cons_append, List.drop_nil, List.drop_zero, List.drop_succ_cons, List.set_cons_zero, List.set_cons_succ, List.replicate, if_true, if_false, Bool.not_true, Bool.not_false, Bool.true_or, Bool.false_or, Option.map_some, Option.map_none, Nat.zero_add, Nat.add_zero, Nat.sub_self, Nat.reduceAdd, Nat.reduceSub, ↓reduceIte, Bool.and_true, Bool.true_and, Bool.false_and, Bool.and_false, Int.cast_ofNat_Int, decide_true, decide_false, Int.reduceEq, Int.reduceLT, Int.reduceLE, Bool.false_eq_true, List.append_assoc, List.length_append, lk_app, lk_app0, lk_sapp, lk_sapp0, lk_z, lk_s, st_app, st_app0, st_sapp, st_sapp0, len_set, set_set, sq_lk, ix_lk, sl_lk, len_lk, tuple_lk, list_lk, list_tup, ty_lk, stays_lk, set_lk, add_lk, app_lk, ext_lk, clear_lk, recv_lk, get2_lk, tr_lk, gp_0, gp_1, gp_2, gp_3, gp_4, gp_5, gp_6, gp_7, gp_8, ko_n, ko_s, ko_p, gq_1, gq_2, gq_3, gq_4, gq_5, gq_6, gq_7, gq_8, gq_9, gq_10, gq_11, gq_12, gq_13, gq_14, gq_15, gq_16, gcR, Nat.lt_irrefl, Nat.not_lt_zero, List.take_succ_cons, List.take_zero, List.take_nil, D.beqL_self, at_2, at_3, ixN, Nat.reduceLT, Nat.reduceLeDiff, Int.reduceToNat, Int.reduceNeg, Int.reduceSub, Int.reduceAdd, Int.reduceMul, sz_lt, Int.zero_add, mod_int, pr_int, pr_bl, pr_non, pr_str, pr_tup, pr_nil, pr_cons, pr_lst, pr_ints, pr_prs, pr_app, pr_kD, mt_1, mt_2, mt_3, mt_4, mt_5, mt_6, mt_7, rev_lk, max_lk, min_lk, sum_lk, any_lk, all_lk, count_lk, index_lk, pop_lk, eq_D, ne_D, eqD_ll, eqD_tt, eqL_ll, eqS_same, eqS_nil, eqS_ints, eqD_ii, eqD_kk, py_app, py_nil, py_cons, py_ints, py_int, py_bl, py_non, py_kD, py_links, py_prs, py_mapi, pr_mapi, pr_linksT, gt_np, pr_loc, pr_stps, pr_stp, aug_add, aug_sub, ko_app, take_left', len_aa, is_sqn e, ix_sq e, g1, g2, shD, pr_shD]
theorem highest_tr : ∀ (t : Tr) (n k : Nat) (d : D) (S : Store), RepT S d t → t.dep ≤ n → t.heap → orc defs (k + n + 1) 20 [d] S = some (.int t.top, S)
  | .nil, n, k, d, S, h, _, _ => by
    have : d = .non := h
    subst this
    rw [orc_at (d := d__law_highest) rfl]
    simp only [d__law_highest, b__law_highest, bnd_some, bnd_none, opt_some, opt_none, seqF_next, seqF_brk, seqF_cnt, seqF_ret, ts_nil, ts_cons, out_ret, out_next, ite_t, ite_f, bop_and_t, bop_and_f, bop_or_t, bop_or_f, bb_and_t, bb_and_f, bb_or_t, bb_or_f, slot_0, slot_s, e_con, b_con, e_var, b_var, e_glo, b_glo, e_tup, b_tup, e_lst, b_lst, e_dct, b_dct, e_op, b_op, e_neg, b_neg, e_not, b_not, e_bop, b_bop, e_cmp, b_cmp, e_chn, b_chn, e_ifx, b_ifx, e_ix, b_ix, e_sl, b_sl, e_call, b_call, e_callK, e_fnv, e_callL, fnIx_fn, e_bi, b_bi, e_mxd, b_mxd, e_isi, b_isi, e_isl, b_isl, e_lrg, b_lrg, e_mt, b_mt, e_lc, b_lc, e_rev, b_rev, e_gtp, e_lrg1, i_rng3, bop_1, bop_2, bb_1, bb_2, es_nil, es_cons, eo_none, eo_some, if_none, if_some, i_ex, i_rng1, i_rng2, i_enm, q_nm, q_tp, q_sb, setK_some, qs_nil, qs_cons, t_asg, t_aug, t_ex, t_ret, t_retN, t_iff, t_fr, t_whl, t_brk, t_cnt, t_pas, con_none, con_bool, con_int, con_str, neg_int, not_bl, int_int, add_int, sub_int, lt_int, le_int, gt_int, ge_int, eq_int, ne_int, is_nn, is_in, is_bb, isn_nn, isn_in, isn_bb, tr_non, tr_bl, tr_int, ty_non, ty_bl, ty_int, ty_tup, ty_ro, isa_int_int, isa_int_bool, isa_int_list, isa_int_tuple, isa_list_list, isa_list_tuple, isa_tuple_list, isa_tuple_tuple, sq_tup, sq_ro, bi_int_int, bi_int_bl, bi_tuple_tup, bi_min, bi_max, bi_len_tup, bi_len_ro, ix_tup, ix_ro, sl_tup, sl_ro, stays_tup, stays_ro, at_0, at_1, gc_ai, gc_aai, gc_aaai, gc_ab, gc_aab, gc_aaab, gc_an, gc_aan, gc_aaan, gc_same, wipe_nil, wipe_cons, sz_0, sz_1, sz_2, sz_3, sz_4, sz_5, sz_6, sz_7, sz_8, sz_9, sz_10, runDef, runFull, Def.full, startD, List.length_cons, List.length_nil, List.map_cons, List.map_nil, List.append_nil, List.nil_append, List.cons_append, List.drop_nil, List.drop_zero, List.drop_succ_cons, List.set_cons_zero, List.set_cons_succ, List.replicate, if_true, if_false, Bool.not_true, Bool.not_false, Bool.true_or, Bool.false_or, Option.map_some, Option.map_none, Nat.zero_add, Nat.add_zero, Nat.sub_self, Nat.reduceAdd, Nat.reduceSub, ↓reduceIte, Bool.and_true, Bool.true_and, Bool.false_and, Bool.and_false, Int.cast_ofNat_Int, decide_true, decide_false, Int.reduceEq, Int.reduceLT, Int.reduceLE, Bool.false_eq_true, List.append_assoc, List.length_append, lk_app, lk_app0, lk_sapp, lk_sapp0, lk_z, lk_s, st_app, st_app0, st_sapp, st_sapp0, len_set, set_set, sq_lk, ix_lk, sl_lk, len_lk, tuple_lk, list_lk, list_tup, ty_lk, stays_lk, set_lk, add_lk, app_lk, ext_lk, clear_lk, recv_lk, get2_lk, tr_lk, gp_0, gp_1, gp_2, gp_3, gp_4, gp_5, gp_6, gp_7, gp_8, ko_n, ko_s, ko_p, gq_1, gq_2, gq_3, gq_4, gq_5, gq_6, gq_7, gq_8, gq_9, gq_10, gq_11, gq_12, gq_13, gq_14, gq_15, gq_16, gcR, Nat.lt_irrefl, Nat.not_lt_zero, List.take_succ_cons, List.take_zero, List.take_nil, D.beqL_self, at_2, at_3, ixN, Nat.reduceLT, Nat.reduceLeDiff, Int.reduceToNat, Int.reduceNeg, Int.reduceSub, Int.reduceAdd, Int.reduceMul, sz_lt, Int.zero_add, mod_int, pr_int, pr_bl, pr_non, pr_str, pr_tup, pr_nil, pr_cons, pr_lst, pr_ints, pr_prs, pr_app, pr_kD, mt_1, mt_2, mt_3, mt_4, mt_5, mt_6, mt_7, rev_lk, max_lk, min_lk, sum_lk, any_lk, all_lk, count_lk, index_lk, pop_lk, eq_D, ne_D, eqD_ll, eqD_tt, eqL_ll, eqS_same, eqS_nil, eqS_ints, eqD_ii, eqD_kk, py_app, py_nil, py_cons, py_ints, py_int, py_bl, py_non, py_kD, py_links, py_prs, py_mapi, pr_mapi, pr_linksT, gt_np, pr_loc, pr_stps, pr_stp, aug_add, aug_sub, ko_app, take_left', len_aa, Tr.top]
  | .node kk hh l r, 0, k, d, S, _, e, _ => by rw [Tr.dep] at e; omega
  | .node kk hh l r, n + 1, k, d, S, ⟨dl, dr, e, r1, r2⟩, hd, ⟨h1, h2, h3, h4⟩ => by
    rw [Tr.dep] at hd
    have g1 := highest_tr l n k dl S r1 (by omega) h3
    have g2 := highest_tr r n k dr S r2 (by omega) h4
    rw [show k + (n + 1) + 1 = (k + n + 1) + 1 by omega, orc_at (d := d__law_highest) rfl]
    simp only [d__law_highest, b__law_highest, bnd_some, bnd_none, opt_some, opt_none, seqF_next, seqF_brk, seqF_cnt, seqF_ret, ts_nil, ts_cons, out_ret, out_next, ite_t, ite_f, bop_and_t, bop_and_f, bop_or_t, bop_or_f, bb_and_t, bb_and_f, bb_or_t, bb_or_f, slot_0, slot_s, e_con, b_con, e_var, b_var, e_glo, b_glo, e_tup, b_tup, e_lst, b_lst, e_dct, b_dct, e_op, b_op, e_neg, b_neg, e_not, b_not, e_bop, b_bop, e_cmp, b_cmp, e_chn, b_chn, e_ifx, b_ifx, e_ix, b_ix, e_sl, b_sl, e_call, b_call, e_callK, e_fnv, e_callL, fnIx_fn, e_bi, b_bi, e_mxd, b_mxd, e_isi, b_isi, e_isl, b_isl, e_lrg, b_lrg, e_mt, b_mt, e_lc, b_lc, e_rev, b_rev, e_gtp, e_lrg1, i_rng3, bop_1, bop_2, bb_1, bb_2, es_nil, es_cons, eo_none, eo_some, if_none, if_some, i_ex, i_rng1, i_rng2, i_enm, q_nm, q_tp, q_sb, setK_some, qs_nil, qs_cons, t_asg, t_aug, t_ex, t_ret, t_retN, t_iff, t_fr, t_whl, t_brk, t_cnt, t_pas, con_none, con_bool, con_int, con_str, neg_int, not_bl, int_int, add_int, sub_int, lt_int, le_int, gt_int, ge_int, eq_int, ne_int, is_nn, is_in, is_bb, isn_nn, isn_in, isn_bb, tr_non, tr_bl, tr_int, ty_non, ty_bl, ty_int, ty_tup, ty_ro, isa_int_int, isa_int_bool, isa_int_list, isa_int_tuple, isa_list_list, isa_list_tuple, isa_tuple_list, isa_tuple_tuple, sq_tup, sq_ro, bi_int_int, bi_int_bl, bi_tuple_tup, bi_min, bi_max, bi_len_tup, bi_len_ro, ix_tup, ix_ro, sl_tup, sl_ro, stays_tup, stays_ro, at_0, at_1, gc_ai, gc_aai, gc_aaai, gc_ab, gc_aab, gc_aaab, gc_an, gc_aan, gc_aaan, gc_same, wipe_nil, wipe_cons, sz_0, sz_1, sz_2, sz_3, sz_4, sz_5, sz_6, sz_7, sz_8, sz_9, sz_10, runDef, runFull, Def.full, startD, List.length_cons, List.length_nil, List.map_cons, List.map_nil, List.append_nil, List.nil_append, List.cons_append, List.drop_nil, List.drop_zero, List.drop_succ_cons, List.set_cons_zero, List.set_cons_succ, List.replicate, if_true, if_false, Bool.not_true, Bool.not_false, Bool.true_or, Bool.false_or, Option.map_some, Option.map_none, Nat.zero_add, Nat.add_zero, Nat.sub_self, Nat.reduceAdd, Nat.reduceSub, ↓reduceIte, Bool.and_true, Bool.true_and, Bool.false_and, Bool.and_false, Int.cast_ofNat_Int, decide_true, decide_false, Int.reduceEq, Int.reduceLT, Int.reduceLE, Bool.false_eq_true, List.append_assoc, List.length_append, lk_app, lk_app0, lk_sapp, lk_sapp0, lk_z, lk_s, st_app, st_app0, st_sapp, st_sapp0, len_set, set_set, sq_lk, ix_lk, sl_lk, len_lk, tuple_lk, list_lk, list_tup, ty_lk, stays_lk, set_lk, add_lk, app_lk, ext_lk, clear_lk, recv_lk, get2_lk, tr_lk, gp_0, gp_1, gp_2, gp_3, gp_4, gp_5, gp_6, gp_7, gp_8, ko_n, ko_s, ko_p, gq_1, gq_2, gq_3, gq_4, gq_5, gq_6, gq_7, gq_8, gq_9, gq_10, gq_11, gq_12, gq_13, gq_14, gq_15, gq_16, gcR, Nat.lt_irrefl, Nat.not_lt_zero, List.take_succ_cons, List.take_zero, List.take_nil, D.beqL_self, at_2, at_3, ixN, Nat.reduceLT, Nat.reduceLeDiff, Int.reduceToNat, Int.reduceNeg, Int.reduceSub, Int.reduceAdd, Int.reduceMul, sz_lt, Int.zero_add, mod_int, pr_int, pr_bl, pr_non, pr_str, pr_tup, pr_nil, pr_cons, pr_lst, pr_ints, pr_prs, pr_app, pr_kD, mt_1, mt_2, mt_3, mt_4, mt_5, mt_6, mt_7, rev_lk, max_lk, min_lk, sum_lk, any_lk, all_lk, count_lk, index_lk, pop_lk, eq_D, ne_D, eqD_ll, eqD_tt, eqL_ll, eqS_same, eqS_nil, eqS_ints, eqD_ii, eqD_kk, py_app, py_nil, py_cons, py_ints, py_int, py_bl, py_non, py_kD, py_links, py_prs, py_mapi, pr_mapi, pr_linksT, gt_np, pr_loc, pr_stps, pr_stp, aug_add, aug_sub, ko_app, take_left', len_aa, is_sqn e, ix_sq e, g1, g2, decide_eq_false (Int.not_le.mpr h1), decide_eq_false (Int.not_lt.mpr h2)]
    rfl
theorem llisted_of : ∀ (t : Tr) (n k : Nat) (d : D) (S : Store), RepT S d t → t.dep ≤ n → ∃ d' L, orc defs (k + n + 1) 19 [d] S = some (d', S ++ L) ∧ RepT (S ++ L) d' t ∧ gc S d' (S ++ L) = (d', S ++ L)
  | .nil, n, k, d, S, h, _ => by
    have : d = .non := h
    subst this
    refine ⟨.non, [], ?_, rfl, ?_⟩
    · rw [orc_at (d := d__law_listed) rfl, List.append_nil]
      simp only [d__law_listed, b__law_listed, bnd_some, bnd_none, opt_some, opt_none, seqF_next, seqF_brk, seqF_cnt, seqF_ret, ts_nil, ts_cons, out_ret, out_next, ite_t, ite_f, bop_and_t, bop_and_f, bop_or_t, bop_or_f, bb_and_t, bb_and_f, bb_or_t, bb_or_f, slot_0, slot_s, e_con, b_con, e_var, b_var, e_glo, b_glo, e_tup, b_tup, e_lst, b_lst, e_dct, b_dct, e_op, b_op, e_neg, b_neg, e_not, b_not, e_bop, b_bop, e_cmp, b_cmp, e_chn, b_chn, e_ifx, b_ifx, e_ix, b_ix, e_sl, b_sl, e_call, b_call, e_callK, e_fnv, e_callL, fnIx_fn, e_bi, b_bi, e_mxd, b_mxd, e_isi, b_isi, e_isl, b_isl, e_lrg, b_lrg, e_mt, b_mt, e_lc, b_lc, e_rev, b_rev, e_gtp, e_lrg1, i_rng3, bop_1, bop_2, bb_1, bb_2, es_nil, es_cons, eo_none, eo_some, if_none, if_some, i_ex, i_rng1, i_rng2, i_enm, q_nm, q_tp, q_sb, setK_some, qs_nil, qs_cons, t_asg, t_aug, t_ex, t_ret, t_retN, t_iff, t_fr, t_whl, t_brk, t_cnt, t_pas, con_none, con_bool, con_int, con_str, neg_int, not_bl, int_int, add_int, sub_int, lt_int, le_int, gt_int, ge_int, eq_int, ne_int, is_nn, is_in, is_bb, isn_nn, isn_in, isn_bb, tr_non, tr_bl, tr_int, ty_non, ty_bl, ty_int, ty_tup, ty_ro, isa_int_int, isa_int_bool, isa_int_list, isa_int_tuple, isa_list_list, isa_list_tuple, isa_tuple_list, isa_tuple_tuple, sq_tup, sq_ro, bi_int_int, bi_int_bl, bi_tuple_tup, bi_min, bi_max, bi_len_tup, bi_len_ro, ix_tup, ix_ro, sl_tup, sl_ro, stays_tup, stays_ro, at_0, at_1, gc_ai, gc_aai, gc_aaai, gc_ab, gc_aab, gc_aaab, gc_an, gc_aan, gc_aaan, gc_same, wipe_nil, wipe_cons, sz_0, sz_1, sz_2, sz_3, sz_4, sz_5, sz_6, sz_7, sz_8, sz_9, sz_10, runDef, runFull, Def.full, startD, List.length_cons, List.length_nil, List.map_cons, List.map_nil, List.append_nil, List.nil_append, List.cons_append, List.drop_nil, List.drop_zero, List.drop_succ_cons, List.set_cons_zero, List.set_cons_succ, List.replicate, if_true, if_false, Bool.not_true, Bool.not_false, Bool.true_or, Bool.false_or, Option.map_some, Option.map_none, Nat.zero_add, Nat.add_zero, Nat.sub_self, Nat.reduceAdd, Nat.reduceSub, ↓reduceIte, Bool.and_true, Bool.true_and, Bool.false_and, Bool.and_false, Int.cast_ofNat_Int, decide_true, decide_false, Int.reduceEq, Int.reduceLT, Int.reduceLE, Bool.false_eq_true, List.append_assoc, List.length_append, lk_app, lk_app0, lk_sapp, lk_sapp0, lk_z, lk_s, st_app, st_app0, st_sapp, st_sapp0, len_set, set_set, sq_lk, ix_lk, sl_lk, len_lk, tuple_lk, list_lk, list_tup, ty_lk, stays_lk, set_lk, add_lk, app_lk, ext_lk, clear_lk, recv_lk, get2_lk, tr_lk, gp_0, gp_1, gp_2, gp_3, gp_4, gp_5, gp_6, gp_7, gp_8, ko_n, ko_s, ko_p, gq_1, gq_2, gq_3, gq_4, gq_5, gq_6, gq_7, gq_8, gq_9, gq_10, gq_11, gq_12, gq_13, gq_14, gq_15, gq_16, gcR, Nat.lt_irrefl, Nat.not_lt_zero, List.take_succ_cons, List.take_zero, List.take_nil, D.beqL_self, at_2, at_3, ixN, Nat.reduceLT, Nat.reduceLeDiff, Int.reduceToNat, Int.reduceNeg, Int.reduceSub, Int.reduceAdd, Int.reduceMul, sz_lt, Int.zero_add, mod_int, pr_int, pr_bl, pr_non, pr_str, pr_tup, pr_nil, pr_cons, pr_lst, pr_ints, pr_prs, pr_app, pr_kD, mt_1, mt_2, mt_3, mt_4, mt_5, mt_6, mt_7, rev_lk, max_lk, min_lk, sum_lk, any_lk, all_lk, count_lk, index_lk, pop_lk, eq_D, ne_D, eqD_ll, eqD_tt, eqL_ll, eqS_same, eqS_nil, eqS_ints, eqD_ii, eqD_kk, py_app, py_nil, py_cons, py_ints, py_int, py_bl, py_non, py_kD, py_links, py_prs, py_mapi, pr_mapi, pr_linksT, gt_np, pr_loc, pr_stps, pr_stp, aug_add, aug_sub, ko_app, take_left', len_aa]
    · rw [List.append_nil]; exact gc_same
  | .node kk hh l r, 0, k, d, S, _, e => by rw [Tr.dep] at e; omega
  | .node kk hh l r, n + 1, k, d, S, ⟨dl, dr, e, r1, r2⟩, hd => by
    rw [Tr.dep] at hd
    obtain ⟨d1, L1, e1, q1, g1⟩ := llisted_of l n k dl S r1 (by omega)
    obtain ⟨d2, L2, e2, q2, g2⟩ := llisted_of r n k dr (S ++ L1) r2.app (by omega)
    rw [List.append_assoc] at e2 q2 g2
    have hT : RepT (S ++ (L1 ++ (L2 ++ [.lst [.int kk, .int hh, d1, d2]]))) (.loc (S.length + (L1 ++ L2).length)) (.node kk hh l r) := by
      refine ⟨d1, d2, ?_, ?_, ?_⟩
      · rw [sq_lk, lk_app, ← List.append_assoc, lk_app0]; rfl
      · have := q1.app (L := L2 ++ [.lst [.int kk, .int hh, d1, d2]])
        rwa [List.append_assoc] at this
      · have := q2.app (L := [.lst [.int kk, .int hh, d1, d2]])
        rwa [List.append_assoc, List.append_assoc] at this
    obtain ⟨d', L', a1, a2, a3⟩ := gc_rep ⟨_, show lk (L1 ++ (L2 ++ [.lst [.int kk, .int hh, d1, d2]])) (L1 ++ L2).length = some (.lst [.int kk, .int hh, d1, d2]) by rw [← List.append_assoc, lk_app0]; rfl⟩ hT
    refine ⟨d', L', ?_, a2, a3⟩
    rw [List.length_append] at a1
    have hix : ∀ L (k : Int), ixD d (.int k) (S ++ L) = atI [.int kk, .int hh, dl, dr] k := fun L k => ix_sq (seqOf_app e)
    have gg : ∀ {z : D} {L : Store}, gc (S ++ L) z (S ++ L) = (z, S ++ L) := gc_same
    rw [show k + (n + 1) + 1 = (k + n + 1) + 1 by omega, orc_at (d := d__law_listed) rfl]
    simp only [d__law_listed, b__law_listed, bnd_some, bnd_none, opt_some, opt_none, seqF_next, seqF_brk, seqF_cnt, seqF_ret, ts_nil, ts_cons, out_ret, out_next, ite_t, ite_f, bop_and_t, bop_and_f, bop_or_t, bop_or_f, bb_and_t, bb_and_f, bb_or_t, bb_or_f, slot_0, slot_s, e_con, b_con, e_var, b_var, e_glo, b_glo, e_tup, b_tup, e_lst, b_lst, e_dct, b_dct, e_op, b_op, e_neg, b_neg, e_not, b_not, e_bop, b_bop, e_cmp, b_cmp, e_chn, b_chn, e_ifx, b_ifx, e_ix, b_ix, e_sl, b_sl, e_call, b_call, e_callK, e_fnv, e_callL, fnIx_fn, e_bi, b_bi, e_mxd, b_mxd, e_isi, b_isi, e_isl, b_isl, e_lrg, b_lrg, e_mt, b_mt, e_lc, b_lc, e_rev, b_rev, e_gtp, e_lrg1, i_rng3, bop_1, bop_2, bb_1, bb_2, es_nil, es_cons, eo_none, eo_some, if_none, if_some, i_ex, i_rng1, i_rng2, i_enm, q_nm, q_tp, q_sb, setK_some, qs_nil, qs_cons, t_asg, t_aug, t_ex, t_ret, t_retN, t_iff, t_fr, t_whl, t_brk, t_cnt, t_pas, con_none, con_bool, con_int, con_str, neg_int, not_bl, int_int, add_int, sub_int, lt_int, le_int, gt_int, ge_int, eq_int, ne_int, is_nn, is_in, is_bb, isn_nn, isn_in, isn_bb, tr_non, tr_bl, tr_int, ty_non, ty_bl, ty_int, ty_tup, ty_ro, isa_int_int, isa_int_bool, isa_int_list, isa_int_tuple, isa_list_list, isa_list_tuple, isa_tuple_list, isa_tuple_tuple, sq_tup, sq_ro, bi_int_int, bi_int_bl, bi_tuple_tup, bi_min, bi_max, bi_len_tup, bi_len_ro, ix_tup, ix_ro, sl_tup, sl_ro, stays_tup, stays_ro, at_0, at_1, gc_ai, gc_aai, gc_aaai, gc_ab, gc_aab, gc_aaab, gc_an, gc_aan, gc_aaan, gc_same, wipe_nil, wipe_cons, sz_0, sz_1, sz_2, sz_3, sz_4, sz_5, sz_6, sz_7, sz_8, sz_9, sz_10, runDef, runFull, Def.full, startD, List.length_cons, List.length_nil, List.map_cons, List.map_nil, List.append_nil, List.nil_append, List.cons_append, List.drop_nil, List.drop_zero, List.drop_succ_cons, List.set_cons_zero, List.set_cons_succ, List.replicate, if_true, if_false, Bool.not_true, Bool.not_false, Bool.true_or, Bool.false_or, Option.map_some, Option.map_none, Nat.zero_add, Nat.add_zero, Nat.sub_self, Nat.reduceAdd, Nat.reduceSub, ↓reduceIte, Bool.and_true, Bool.true_and, Bool.false_and, Bool.and_false, Int.cast_ofNat_Int, decide_true, decide_false, Int.reduceEq, Int.reduceLT, Int.reduceLE, Bool.false_eq_true, is_sqn e, ix_sq e, hix, e1, g1, gg, e2, g2, at_2, at_3, List.append_assoc, List.length_append, a1]
theorem hung_of (k : Nat) {m : Nat} {S : Store} {es : List ((Int × Int) × Tr)} (h : lk S m = some (.lst (es.map edD))) : orc defs (k + 1) 16 [.loc m] S = some (trD (hung es), S) := by
  rw [orc_at (d := d__law_hung) rfl]
  have hrev : (es.map edD).reverse = es.reverse.map edD := List.map_reverse.symm
  simp only [d__law_hung, b__law_hung, bnd_some, bnd_none, opt_some, opt_none, seqF_next, seqF_brk, seqF_cnt, seqF_ret, ts_nil, ts_cons, out_ret, out_next, ite_t, ite_f, bop_and_t, bop_and_f, bop_or_t, bop_or_f, bb_and_t, bb_and_f, bb_or_t, bb_or_f, slot_0, slot_s, e_con, b_con, e_var, b_var, e_glo, b_glo, e_tup, b_tup, e_lst, b_lst, e_dct, b_dct, e_op, b_op, e_neg, b_neg, e_not, b_not, e_bop, b_bop, e_cmp, b_cmp, e_chn, b_chn, e_ifx, b_ifx, e_ix, b_ix, e_sl, b_sl, e_call, b_call, e_callK, e_fnv, e_callL, fnIx_fn, e_bi, b_bi, e_mxd, b_mxd, e_isi, b_isi, e_isl, b_isl, e_lrg, b_lrg, e_mt, b_mt, e_lc, b_lc, e_rev, b_rev, e_gtp, e_lrg1, i_rng3, bop_1, bop_2, bb_1, bb_2, es_nil, es_cons, eo_none, eo_some, if_none, if_some, i_ex, i_rng1, i_rng2, i_enm, q_nm, q_tp, q_sb, setK_some, qs_nil, qs_cons, t_asg, t_aug, t_ex, t_ret, t_retN, t_iff, t_fr, t_whl, t_brk, t_cnt, t_pas, con_none, con_bool, con_int, con_str, neg_int, not_bl, int_int, add_int, sub_int, lt_int, le_int, gt_int, ge_int, eq_int, ne_int, is_nn, is_in, is_bb, isn_nn, isn_in, isn_bb, tr_non, tr_bl, tr_int, ty_non, ty_bl, ty_int, ty_tup, ty_ro, isa_int_int, isa_int_bool, isa_int_list, isa_int_tuple, isa_list_list, isa_list_tuple, isa_tuple_list, isa_tuple_tuple, sq_tup, sq_ro, bi_int_int, bi_int_bl, bi_tuple_tup, bi_min, bi_max, bi_len_tup, bi_len_ro, ix_tup, ix_ro, sl_tup, sl_ro, stays_tup, stays_ro, at_0, at_1, gc_ai, gc_aai, gc_aaai, gc_ab, gc_aab, gc_aaab, gc_an, gc_aan, gc_aaan, gc_same, wipe_nil, wipe_cons, sz_0, sz_1, sz_2, sz_3, sz_4, sz_5, sz_6, sz_7, sz_8, sz_9, sz_10, runDef, runFull, Def.full, startD, List.length_cons, List.length_nil, List.map_cons, List.map_nil, List.append_nil, List.nil_append, List.cons_append, List.drop_nil, List.drop_zero, List.drop_succ_cons, List.set_cons_zero, List.set_cons_succ, List.replicate, if_true, if_false, Bool.not_true, Bool.not_false, Bool.true_or, Bool.false_or, Option.map_some, Option.map_none, Nat.zero_add, Nat.add_zero, Nat.sub_self, Nat.reduceAdd, Nat.reduceSub, ↓reduceIte, Bool.and_true, Bool.true_and, Bool.false_and, Bool.and_false, Int.cast_ofNat_Int, decide_true, decide_false, Int.reduceEq, Int.reduceLT, Int.reduceLE, Bool.false_eq_true, List.append_assoc, List.length_append, lk_app, lk_app0, lk_sapp, lk_sapp0, lk_z, lk_s, st_app, st_app0, st_sapp, st_sapp0, len_set, set_set, sq_lk, ix_lk, sl_lk, len_lk, tuple_lk, list_lk, list_tup, ty_lk, stays_lk, set_lk, add_lk, app_lk, ext_lk, clear_lk, recv_lk, get2_lk, tr_lk, gp_0, gp_1, gp_2, gp_3, gp_4, gp_5, gp_6, gp_7, gp_8, ko_n, ko_s, ko_p, gq_1, gq_2, gq_3, gq_4, gq_5, gq_6, gq_7, gq_8, gq_9, gq_10, gq_11, gq_12, gq_13, gq_14, gq_15, gq_16, gcR, Nat.lt_irrefl, Nat.not_lt_zero, List.take_succ_cons, List.take_zero, List.take_nil, D.beqL_self, at_2, at_3, ixN, Nat.reduceLT, Nat.reduceLeDiff, Int.reduceToNat, Int.reduceNeg, Int.reduceSub, Int.reduceAdd, Int.reduceMul, sz_lt, Int.zero_add, mod_int, pr_int, pr_bl, pr_non, pr_str, pr_tup, pr_nil, pr_cons, pr_lst, pr_ints, pr_prs, pr_app, pr_kD, mt_1, mt_2, mt_3, mt_4, mt_5, mt_6, mt_7, rev_lk, max_lk, min_lk, sum_lk, any_lk, all_lk, count_lk, index_lk, pop_lk, eq_D, ne_D, eqD_ll, eqD_tt, eqL_ll, eqS_same, eqS_nil, eqS_ints, eqD_ii, eqD_kk, py_app, py_nil, py_cons, py_ints, py_int, py_bl, py_non, py_kD, py_links, py_prs, py_mapi, pr_mapi, pr_linksT, gt_np, pr_loc, pr_stps, pr_stp, aug_add, aug_sub, ko_app, take_left', len_aa, h, hrev]
  generalize hX : forD _ _ _ _ _ _ = X
  have key := for_M hX (fun rest σ T => T = S ++ [.lst (es.reverse.map edD)] ∧ ∃ (dn : List ((Int × Int) × Tr)) (x y z : Option D), σ = [some (.loc m), some (trD (hung dn)), x, y, z] ∧ es = rest.reverse ++ dn)
    (fun X => ∃ (x y z : Option D), X = some (.next [some (.loc m), some (trD (hung es)), x, y, z], S ++ [.lst (es.reverse.map edD)])) ⟨rfl, [], _, _, _, rfl, by simp⟩ ?_ ?_
  · obtain ⟨x, y, z, rfl⟩ := key
    simp only [bnd_some, bnd_none, opt_some, opt_none, seqF_next, seqF_brk, seqF_cnt, seqF_ret, ts_nil, ts_cons, out_ret, out_next, ite_t, ite_f, bop_and_t, bop_and_f, bop_or_t, bop_or_f, bb_and_t, bb_and_f, bb_or_t, bb_or_f, slot_0, slot_s, e_con, b_con, e_var, b_var, e_glo, b_glo, e_tup, b_tup, e_lst, b_lst, e_dct, b_dct, e_op, b_op, e_neg, b_neg, e_not, b_not, e_bop, b_bop, e_cmp, b_cmp, e_chn, b_chn, e_ifx, b_ifx, e_ix, b_ix, e_sl, b_sl, e_call, b_call, e_callK, e_fnv, e_callL, fnIx_fn, e_bi, b_bi, e_mxd, b_mxd, e_isi, b_isi, e_isl, b_isl, e_lrg, b_lrg, e_mt, b_mt, e_lc, b_lc, e_rev, b_rev, e_gtp, e_lrg1, i_rng3, bop_1, bop_2, bb_1, bb_2, es_nil, es_cons, eo_none, eo_some, if_none, if_some, i_ex, i_rng1, i_rng2, i_enm, q_nm, q_tp, q_sb, setK_some, qs_nil, qs_cons, t_asg, t_aug, t_ex, t_ret, t_retN, t_iff, t_fr, t_whl, t_brk, t_cnt, t_pas, con_none, con_bool, con_int, con_str, neg_int, not_bl, int_int, add_int, sub_int, lt_int, le_int, gt_int, ge_int, eq_int, ne_int, is_nn, is_in, is_bb, isn_nn, isn_in, isn_bb, tr_non, tr_bl, tr_int, ty_non, ty_bl, ty_int, ty_tup, ty_ro, isa_int_int, isa_int_bool, isa_int_list, isa_int_tuple, isa_list_list, isa_list_tuple, isa_tuple_list, isa_tuple_tuple, sq_tup, sq_ro, bi_int_int, bi_int_bl, bi_tuple_tup, bi_min, bi_max, bi_len_tup, bi_len_ro, ix_tup, ix_ro, sl_tup, sl_ro, stays_tup, stays_ro, at_0, at_1, gc_ai, gc_aai, gc_aaai, gc_ab, gc_aab, gc_aaab, gc_an, gc_aan, gc_aaan, gc_same, wipe_nil, wipe_cons, sz_0, sz_1, sz_2, sz_3, sz_4, sz_5, sz_6, sz_7, sz_8, sz_9, sz_10, runDef, runFull, Def.full, startD, List.length_cons, List.length_nil, List.map_cons, List.map_nil, List.append_nil, List.nil_append, List.cons_append, List.drop_nil, List.drop_zero, List.drop_succ_cons, List.set_cons_zero, List.set_cons_succ, List.replicate, if_true, if_false, Bool.not_true, Bool.not_false, Bool.true_or, Bool.false_or, Option.map_some, Option.map_none, Nat.zero_add, Nat.add_zero, Nat.sub_self, Nat.reduceAdd, Nat.reduceSub, ↓reduceIte, Bool.and_true, Bool.true_and, Bool.false_and, Bool.and_false, Int.cast_ofNat_Int, decide_true, decide_false, Int.reduceEq, Int.reduceLT, Int.reduceLE, Bool.false_eq_true, List.append_assoc, List.length_append, lk_app, lk_app0, lk_sapp, lk_sapp0, lk_z, lk_s, st_app, st_app0, st_sapp, st_sapp0, len_set, set_set, sq_lk, ix_lk, sl_lk, len_lk, tuple_lk, list_lk, list_tup, ty_lk, stays_lk, set_lk, add_lk, app_lk, ext_lk, clear_lk, recv_lk, get2_lk, tr_lk, gp_0, gp_1, gp_2, gp_3, gp_4, gp_5, gp_6, gp_7, gp_8, ko_n, ko_s, ko_p, gq_1, gq_2, gq_3, gq_4, gq_5, gq_6, gq_7, gq_8, gq_9, gq_10, gq_11, gq_12, gq_13, gq_14, gq_15, gq_16, gcR, Nat.lt_irrefl, Nat.not_lt_zero, List.take_succ_cons, List.take_zero, List.take_nil, D.beqL_self, at_2, at_3, ixN, Nat.reduceLT, Nat.reduceLeDiff, Int.reduceToNat, Int.reduceNeg, Int.reduceSub, Int.reduceAdd, Int.reduceMul, sz_lt, Int.zero_add, mod_int, pr_int, pr_bl, pr_non, pr_str, pr_tup, pr_nil, pr_cons, pr_lst, pr_ints, pr_prs, pr_app, pr_kD, mt_1, mt_2, mt_3, mt_4, mt_5, mt_6, mt_7, rev_lk, max_lk, min_lk, sum_lk, any_lk, all_lk, count_lk, index_lk, pop_lk, eq_D, ne_D, eqD_ll, eqD_tt, eqL_ll, eqS_same, eqS_nil, eqS_ints, eqD_ii, eqD_kk, py_app, py_nil, py_cons, py_ints, py_int, py_bl, py_non, py_kD, py_links, py_prs, py_mapi, pr_mapi, pr_linksT, gt_np, pr_loc, pr_stps, pr_stp, aug_add, aug_sub, ko_app, take_left', len_aa, pr_trD]
  · rintro σ T ⟨rfl, dn, x, y, z, rfl, e⟩
    have e' : es = dn := by simpa using e
    subst e'
    exact ⟨by rw [stays_lk, lk_app0]; exact D.beqL_self _, _, _, _, rfl⟩
  · clear hX X
    rintro p r σ T ⟨rfl, dn, x, y, z, rfl, e⟩
    refine ⟨by rw [stays_lk, lk_app0]; exact D.beqL_self _, ?_⟩
    simp only [bnd_some, bnd_none, opt_some, opt_none, seqF_next, seqF_brk, seqF_cnt, seqF_ret, ts_nil, ts_cons, out_ret, out_next, ite_t, ite_f, bop_and_t, bop_and_f, bop_or_t, bop_or_f, bb_and_t, bb_and_f, bb_or_t, bb_or_f, slot_0, slot_s, e_con, b_con, e_var, b_var, e_glo, b_glo, e_tup, b_tup, e_lst, b_lst, e_dct, b_dct, e_op, b_op, e_neg, b_neg, e_not, b_not, e_bop, b_bop, e_cmp, b_cmp, e_chn, b_chn, e_ifx, b_ifx, e_ix, b_ix, e_sl, b_sl, e_call, b_call, e_callK, e_fnv, e_callL, fnIx_fn, e_bi, b_bi, e_mxd, b_mxd, e_isi, b_isi, e_isl, b_isl, e_lrg, b_lrg, e_mt, b_mt, e_lc, b_lc, e_rev, b_rev, e_gtp, e_lrg1, i_rng3, bop_1, bop_2, bb_1, bb_2, es_nil, es_cons, eo_none, eo_some, if_none, if_some, i_ex, i_rng1, i_rng2, i_enm, q_nm, q_tp, q_sb, setK_some, qs_nil, qs_cons, t_asg, t_aug, t_ex, t_ret, t_retN, t_iff, t_fr, t_whl, t_brk, t_cnt, t_pas, con_none, con_bool, con_int, con_str, neg_int, not_bl, int_int, add_int, sub_int, lt_int, le_int, gt_int, ge_int, eq_int, ne_int, is_nn, is_in, is_bb, isn_nn, isn_in, isn_bb, tr_non, tr_bl, tr_int, ty_non, ty_bl, ty_int, ty_tup, ty_ro, isa_int_int, isa_int_bool, isa_int_list, isa_int_tuple, isa_list_list, isa_list_tuple, isa_tuple_list, isa_tuple_tuple, sq_tup, sq_ro, bi_int_int, bi_int_bl, bi_tuple_tup, bi_min, bi_max, bi_len_tup, bi_len_ro, ix_tup, ix_ro, sl_tup, sl_ro, stays_tup, stays_ro, at_0, at_1, gc_ai, gc_aai, gc_aaai, gc_ab, gc_aab, gc_aaab, gc_an, gc_aan, gc_aaan, gc_same, wipe_nil, wipe_cons, sz_0, sz_1, sz_2, sz_3, sz_4, sz_5, sz_6, sz_7, sz_8, sz_9, sz_10, runDef, runFull, Def.full, startD, List.length_cons, List.length_nil, List.map_cons, List.map_nil, List.append_nil, List.nil_append, List.cons_append, List.drop_nil, List.drop_zero, List.drop_succ_cons, List.set_cons_zero, List.set_cons_succ, List.replicate, if_true, if_false, Bool.not_true, Bool.not_false, Bool.true_or, Bool.false_or, Option.map_some, Option.map_none, Nat.zero_add, Nat.add_zero, Nat.sub_self, Nat.reduceAdd, Nat.reduceSub, ↓reduceIte, Bool.and_true, Bool.true_and, Bool.false_and, Bool.and_false, Int.cast_ofNat_Int, decide_true, decide_false, Int.reduceEq, Int.reduceLT, Int.reduceLE, Bool.false_eq_true, List.append_assoc, List.length_append, lk_app, lk_app0, lk_sapp, lk_sapp0, lk_z, lk_s, st_app, st_app0, st_sapp, st_sapp0, len_set, set_set, sq_lk, ix_lk, sl_lk, len_lk, tuple_lk, list_lk, list_tup, ty_lk, stays_lk, set_lk, add_lk, app_lk, ext_lk, clear_lk, recv_lk, get2_lk, tr_lk, gp_0, gp_1, gp_2, gp_3, gp_4, gp_5, gp_6, gp_7, gp_8, ko_n, ko_s, ko_p, gq_1, gq_2, gq_3, gq_4, gq_5, gq_6, gq_7, gq_8, gq_9, gq_10, gq_11, gq_12, gq_13, gq_14, gq_15, gq_16, gcR, Nat.lt_irrefl, Nat.not_lt_zero, List.take_succ_cons, List.take_zero, List.take_nil, D.beqL_self, at_2, at_3, ixN, Nat.reduceLT, Nat.reduceLeDiff, Int.reduceToNat, Int.reduceNeg, Int.reduceSub, Int.reduceAdd, Int.reduceMul, sz_lt, Int.zero_add, mod_int, pr_int, pr_bl, pr_non, pr_str, pr_tup, pr_nil, pr_cons, pr_lst, pr_ints, pr_prs, pr_app, pr_kD, mt_1, mt_2, mt_3, mt_4, mt_5, mt_6, mt_7, rev_lk, max_lk, min_lk, sum_lk, any_lk, all_lk, count_lk, index_lk, pop_lk, eq_D, ne_D, eqD_ll, eqD_tt, eqL_ll, eqS_same, eqS_nil, eqS_ints, eqD_ii, eqD_kk, py_app, py_nil, py_cons, py_ints, py_int, py_bl, py_non, py_kD, py_links, py_prs, py_mapi, pr_mapi, pr_linksT, gt_np, pr_loc, pr_stps, pr_stp, aug_add, aug_sub, ko_app, take_left', len_aa, edD]
    refine ⟨rfl, p :: dn, _, _, _, rfl, ?_⟩
    rw [e]; simp
end K72

end

section
set_option maxHeartbeats 1000000
namespace K72
open PySem PySem.Spec Mi
open L2 (atI ixN Key)
theorem ltree_of (k : Nat) {m : Nat} {S : Store} {tw : Tws} (h : lk S m = some (.lst (tw.map prD))) (hl : tw.length ≤ 1000) : ∃ t, Cart tw t ∧ orc defs (k + 2) 17 [.loc m] S = some (trD t, S) := by
  rw [orc_at (d := d__law_tree) rfl]
  have hO : ∀ L, lk (S ++ L) m = some (.lst (tw.map prD)) := fun L => lk_old h
  simp only [d__law_tree, b__law_tree, bnd_some, bnd_none, opt_some, opt_none, seqF_next, seqF_brk, seqF_cnt, seqF_ret, ts_nil, ts_cons, out_ret, out_next, ite_t, ite_f, bop_and_t, bop_and_f, bop_or_t, bop_or_f, bb_and_t, bb_and_f, bb_or_t, bb_or_f, slot_0, slot_s, e_con, b_con, e_var, b_var, e_glo, b_glo, e_tup, b_tup, e_lst, b_lst, e_dct, b_dct, e_op, b_op, e_neg, b_neg, e_not, b_not, e_bop, b_bop, e_cmp, b_cmp, e_chn, b_chn, e_ifx, b_ifx, e_ix, b_ix, e_sl, b_sl, e_call, b_call, e_callK, e_fnv, e_callL, fnIx_fn, e_bi, b_bi, e_mxd, b_mxd, e_isi, b_isi, e_isl, b_isl, e_lrg, b_lrg, e_mt, b_mt, e_lc, b_lc, e_rev, b_rev, e_gtp, e_lrg1, i_rng3, bop_1, bop_2, bb_1, bb_2, es_nil, es_cons, eo_none, eo_some, if_none, if_some, i_ex, i_rng1, i_rng2, i_enm, q_nm, q_tp, q_sb, setK_some, qs_nil, qs_cons, t_asg, t_aug, t_ex, t_ret, t_retN, t_iff, t_fr, t_whl, t_brk, t_cnt, t_pas, con_none, con_bool, con_int, con_str, neg_int, not_bl, int_int, add_int, sub_int, lt_int, le_int, gt_int, ge_int, eq_int, ne_int, is_nn, is_in, is_bb, isn_nn, isn_in, isn_bb, tr_non, tr_bl, tr_int, ty_non, ty_bl, ty_int, ty_tup, ty_ro, isa_int_int, isa_int_bool, isa_int_list, isa_int_tuple, isa_list_list, isa_list_tuple, isa_tuple_list, isa_tuple_tuple, sq_tup, sq_ro, bi_int_int, bi_int_bl, bi_tuple_tup, bi_min, bi_max, bi_len_tup, bi_len_ro, ix_tup, ix_ro, sl_tup, sl_ro, stays_tup, stays_ro, at_0, at_1, gc_ai, gc_aai, gc_aaai, gc_ab, gc_aab, gc_aaab, gc_an, gc_aan, gc_aaan, gc_same, wipe_nil, wipe_cons, sz_0, sz_1, sz_2, sz_3, sz_4, sz_5, sz_6, sz_7, sz_8, sz_9, sz_10, runDef, runFull, Def.full, startD, List.length_cons, List.length_nil, List.map_cons, List.map_nil, List.append_nil, List.nil_append, List.cons_append, List.drop_nil, List.drop_zero, List.drop_succ_cons, List.set_cons_zero, List.set_cons_succ, List.replicate, if_true, if_false, Bool.not_true, Bool.not_false, Bool.true_or, Bool.false_or, Option.map_some, Option.map_none, Nat.zero_add, Nat.add_zero, Nat.sub_self, Nat.reduceAdd, Nat.reduceSub, ↓reduceIte, Bool.and_true, Bool.true_and, Bool.false_and, Bool.and_false, Int.cast_ofNat_Int, decide_true, decide_false, Int.reduceEq, Int.reduceLT, Int.reduceLE, Bool.false_eq_true, List.append_assoc, List.length_append, lk_app, lk_app0, lk_sapp, lk_sapp0, lk_z, lk_s, st_app, st_app0, st_sapp, st_sapp0, len_set, set_set, sq_lk, ix_lk, sl_lk, len_lk, tuple_lk, list_lk, list_tup, ty_lk, stays_lk, set_lk, add_lk, app_lk, ext_lk, clear_lk, recv_lk, get2_lk, tr_lk, gp_0, gp_1, gp_2, gp_3, gp_4, gp_5, gp_6, gp_7, gp_8, ko_n, ko_s, ko_p, gq_1, gq_2, gq_3, gq_4, gq_5, gq_6, gq_7, gq_8, gq_9, gq_10, gq_11, gq_12, gq_13, gq_14, gq_15, gq_16, gcR, Nat.lt_irrefl, Nat.not_lt_zero, List.take_succ_cons, List.take_zero, List.take_nil, D.beqL_self, at_2, at_3, ixN, Nat.reduceLT, Nat.reduceLeDiff, Int.reduceToNat, Int.reduceNeg, Int.reduceSub, Int.reduceAdd, Int.reduceMul, sz_lt, Int.zero_add, mod_int, pr_int, pr_bl, pr_non, pr_str, pr_tup, pr_nil, pr_cons, pr_lst, pr_ints, pr_prs, pr_app, pr_kD, mt_1, mt_2, mt_3, mt_4, mt_5, mt_6, mt_7, rev_lk, max_lk, min_lk, sum_lk, any_lk, all_lk, count_lk, index_lk, pop_lk, eq_D, ne_D, eqD_ll, eqD_tt, eqL_ll, eqS_same, eqS_nil, eqS_ints, eqD_ii, eqD_kk, py_app, py_nil, py_cons, py_ints, py_int, py_bl, py_non, py_kD, py_links, py_prs, py_mapi, pr_mapi, pr_linksT, gt_np, pr_loc, pr_stps, pr_stp, aug_add, aug_sub, ko_app, take_left', len_aa, hO]
  generalize hX : forD _ _ _ _ _ _ = X
  have key := for_M hX (fun rest σ T => ∃ (G : Store) (j : Nat) (es : List ((Int × Int) × Tr)) (sn : Tws) (x2 x3 x4 x5 : Option D), σ = [some (.loc m), some (.loc (S.length + j)), x2, x3, x4, x5] ∧ T = S ++ G ∧ lk G j = some (.lst (es.map edD)) ∧ tw = sn ++ rest ∧ Ed sn es)
    (fun X => ∃ (G : Store) (j : Nat) (es : List ((Int × Int) × Tr)) (x2 x3 x4 x5 : Option D), X = some (.next [some (.loc m), some (.loc (S.length + j)), x2, x3, x4, x5], S ++ G) ∧ lk G j = some (.lst (es.map edD)) ∧ Ed tw es) ⟨[.lst []], 0, [], [], _, _, _, _, rfl, rfl, rfl, rfl, .nil⟩ ?_ ?_
  · obtain ⟨G, j, es, x2, x3, x4, x5, rfl, e1, e2⟩ := key
    refine ⟨hung es, e2.cart, ?_⟩
    have e3 := hung_of k (S := S ++ G) (m := S.length + j) (es := es) (lk_app.trans e1)
    simp only [bnd_some, bnd_none, opt_some, opt_none, seqF_next, seqF_brk, seqF_cnt, seqF_ret, ts_nil, ts_cons, out_ret, out_next, ite_t, ite_f, bop_and_t, bop_and_f, bop_or_t, bop_or_f, bb_and_t, bb_and_f, bb_or_t, bb_or_f, slot_0, slot_s, e_con, b_con, e_var, b_var, e_glo, b_glo, e_tup, b_tup, e_lst, b_lst, e_dct, b_dct, e_op, b_op, e_neg, b_neg, e_not, b_not, e_bop, b_bop, e_cmp, b_cmp, e_chn, b_chn, e_ifx, b_ifx, e_ix, b_ix, e_sl, b_sl, e_call, b_call, e_callK, e_fnv, e_callL, fnIx_fn, e_bi, b_bi, e_mxd, b_mxd, e_isi, b_isi, e_isl, b_isl, e_lrg, b_lrg, e_mt, b_mt, e_lc, b_lc, e_rev, b_rev, e_gtp, e_lrg1, i_rng3, bop_1, bop_2, bb_1, bb_2, es_nil, es_cons, eo_none, eo_some, if_none, if_some, i_ex, i_rng1, i_rng2, i_enm, q_nm, q_tp, q_sb, setK_some, qs_nil, qs_cons, t_asg, t_aug, t_ex, t_ret, t_retN, t_iff, t_fr, t_whl, t_brk, t_cnt, t_pas, con_none, con_bool, con_int, con_str, neg_int, not_bl, int_int, add_int, sub_int, lt_int, le_int, gt_int, ge_int, eq_int, ne_int, is_nn, is_in, is_bb, isn_nn, isn_in, isn_bb, tr_non, tr_bl, tr_int, ty_non, ty_bl, ty_int, ty_tup, ty_ro, isa_int_int, isa_int_bool, isa_int_list, isa_int_tuple, isa_list_list, isa_list_tuple, isa_tuple_list, isa_tuple_tuple, sq_tup, sq_ro, bi_int_int, bi_int_bl, bi_tuple_tup, bi_min, bi_max, bi_len_tup, bi_len_ro, ix_tup, ix_ro, sl_tup, sl_ro, stays_tup, stays_ro, at_0, at_1, gc_ai, gc_aai, gc_aaai, gc_ab, gc_aab, gc_aaab, gc_an, gc_aan, gc_aaan, gc_same, wipe_nil, wipe_cons, sz_0, sz_1, sz_2, sz_3, sz_4, sz_5, sz_6, sz_7, sz_8, sz_9, sz_10, runDef, runFull, Def.full, startD, List.length_cons, List.length_nil, List.map_cons, List.map_nil, List.append_nil, List.nil_append, List.cons_append, List.drop_nil, List.drop_zero, List.drop_succ_cons, List.set_cons_zero, List.set_cons_succ, List.replicate, if_true, if_false, Bool.not_true, Bool.not_false, Bool.true_or, Bool.false_or, Option.map_some, Option.map_none, Nat.zero_add, Nat.add_zero, Nat.sub_self, Nat.reduceAdd, Nat.reduceSub, ↓reduceIte, Bool.and_true, Bool.true_and, Bool.false_and, Bool.and_false, Int.cast_ofNat_Int, decide_true, decide_false, Int.reduceEq, Int.reduceLT, Int.reduceLE, Bool.false_eq_true, List.append_assoc, List.length_append, lk_app, lk_app0, lk_sapp, lk_sapp0, lk_z, lk_s, st_app, st_app0, st_sapp, st_sapp0, len_set, set_set, sq_lk, ix_lk, sl_lk, len_lk, tuple_lk, list_lk, list_tup, ty_lk, stays_lk, set_lk, add_lk, app_lk, ext_lk, clear_lk, recv_lk, get2_lk, tr_lk, gp_0, gp_1, gp_2, gp_3, gp_4, gp_5, gp_6, gp_7, gp_8, ko_n, ko_s, ko_p, gq_1, gq_2, gq_3, gq_4, gq_5, gq_6, gq_7, gq_8, gq_9, gq_10, gq_11, gq_12, gq_13, gq_14, gq_15, gq_16, gcR, Nat.lt_irrefl, Nat.not_lt_zero, List.take_succ_cons, List.take_zero, List.take_nil, D.beqL_self, at_2, at_3, ixN, Nat.reduceLT, Nat.reduceLeDiff, Int.reduceToNat, Int.reduceNeg, Int.reduceSub, Int.reduceAdd, Int.reduceMul, sz_lt, Int.zero_add, mod_int, pr_int, pr_bl, pr_non, pr_str, pr_tup, pr_nil, pr_cons, pr_lst, pr_ints, pr_prs, pr_app, pr_kD, mt_1, mt_2, mt_3, mt_4, mt_5, mt_6, mt_7, rev_lk, max_lk, min_lk, sum_lk, any_lk, all_lk, count_lk, index_lk, pop_lk, eq_D, ne_D, eqD_ll, eqD_tt, eqL_ll, eqS_same, eqS_nil, eqS_ints, eqD_ii, eqD_kk, py_app, py_nil, py_cons, py_ints, py_int, py_bl, py_non, py_kD, py_links, py_prs, py_mapi, pr_mapi, pr_linksT, gt_np, pr_loc, pr_stps, pr_stp, aug_add, aug_sub, ko_app, take_left', len_aa, e3, pr_trD]
  · rintro σ T ⟨G, j, es, sn, x2, x3, x4, x5, rfl, rfl, e1, e2, e3⟩
    rw [List.append_nil] at e2
    exact ⟨by rw [stays_lk, hO]; exact D.beqL_self _, G, j, es, x2, x3, x4, x5, rfl, e1, by rw [e2]; exact e3⟩
  · clear hX X
    rintro p r σ T ⟨G, j, es, sn, x2, x3, x4, x5, rfl, hT, e1, e2, e3⟩
    refine ⟨by rw [hT, stays_lk, hO]; exact D.beqL_self _, ?_⟩
    have hT1 : lk T (S.length + j) = some (.lst (es.map edD)) := by rw [hT]; exact lk_app.trans e1
    have hel : es.length ≤ 1000 := by
      have h1 := e3.len
      have h2 := congrArg List.length e2
      rw [List.length_append] at h2
      omega
    simp only [bnd_some, bnd_none, opt_some, opt_none, seqF_next, seqF_brk, seqF_cnt, seqF_ret, ts_nil, ts_cons, out_ret, out_next, ite_t, ite_f, bop_and_t, bop_and_f, bop_or_t, bop_or_f, bb_and_t, bb_and_f, bb_or_t, bb_or_f, slot_0, slot_s, e_con, b_con, e_var, b_var, e_glo, b_glo, e_tup, b_tup, e_lst, b_lst, e_dct, b_dct, e_op, b_op, e_neg, b_neg, e_not, b_not, e_bop, b_bop, e_cmp, b_cmp, e_chn, b_chn, e_ifx, b_ifx, e_ix, b_ix, e_sl, b_sl, e_call, b_call, e_callK, e_fnv, e_callL, fnIx_fn, e_bi, b_bi, e_mxd, b_mxd, e_isi, b_isi, e_isl, b_isl, e_lrg, b_lrg, e_mt, b_mt, e_lc, b_lc, e_rev, b_rev, e_gtp, e_lrg1, i_rng3, bop_1, bop_2, bb_1, bb_2, es_nil, es_cons, eo_none, eo_some, if_none, if_some, i_ex, i_rng1, i_rng2, i_enm, q_nm, q_tp, q_sb, setK_some, qs_nil, qs_cons, t_asg, t_aug, t_ex, t_ret, t_retN, t_iff, t_fr, t_whl, t_brk, t_cnt, t_pas, con_none, con_bool, con_int, con_str, neg_int, not_bl, int_int, add_int, sub_int, lt_int, le_int, gt_int, ge_int, eq_int, ne_int, is_nn, is_in, is_bb, isn_nn, isn_in, isn_bb, tr_non, tr_bl, tr_int, ty_non, ty_bl, ty_int, ty_tup, ty_ro, isa_int_int, isa_int_bool, isa_int_list, isa_int_tuple, isa_list_list, isa_list_tuple, isa_tuple_list, isa_tuple_tuple, sq_tup, sq_ro, bi_int_int, bi_int_bl, bi_tuple_tup, bi_min, bi_max, bi_len_tup, bi_len_ro, ix_tup, ix_ro, sl_tup, sl_ro, stays_tup, stays_ro, at_0, at_1, gc_ai, gc_aai, gc_aaai, gc_ab, gc_aab, gc_aaab, gc_an, gc_aan, gc_aaan, gc_same, wipe_nil, wipe_cons, sz_0, sz_1, sz_2, sz_3, sz_4, sz_5, sz_6, sz_7, sz_8, sz_9, sz_10, runDef, runFull, Def.full, startD, List.length_cons, List.length_nil, List.map_cons, List.map_nil, List.append_nil, List.nil_append, List.cons_append, List.drop_nil, List.drop_zero, List.drop_succ_cons, List.set_cons_zero, List.set_cons_succ, List.replicate, if_true, if_false, Bool.not_true, Bool.not_false, Bool.true_or, Bool.false_or, Option.map_some, Option.map_none, Nat.zero_add, Nat.add_zero, Nat.sub_self, Nat.reduceAdd, Nat.reduceSub, ↓reduceIte, Bool.and_true, Bool.true_and, Bool.false_and, Bool.and_false, Int.cast_ofNat_Int, decide_true, decide_false, Int.reduceEq, Int.reduceLT, Int.reduceLE, Bool.false_eq_true, List.append_assoc, List.length_append, lk_app, lk_app0, lk_sapp, lk_sapp0, lk_z, lk_s, st_app, st_app0, st_sapp, st_sapp0, len_set, set_set, sq_lk, ix_lk, sl_lk, len_lk, tuple_lk, list_lk, list_tup, ty_lk, stays_lk, set_lk, add_lk, app_lk, ext_lk, clear_lk, recv_lk, get2_lk, tr_lk, gp_0, gp_1, gp_2, gp_3, gp_4, gp_5, gp_6, gp_7, gp_8, ko_n, ko_s, ko_p, gq_1, gq_2, gq_3, gq_4, gq_5, gq_6, gq_7, gq_8, gq_9, gq_10, gq_11, gq_12, gq_13, gq_14, gq_15, gq_16, gcR, Nat.lt_irrefl, Nat.not_lt_zero, List.take_succ_cons, List.take_zero, List.take_nil, D.beqL_self, at_2, at_3, ixN, Nat.reduceLT, Nat.reduceLeDiff, Int.reduceToNat, Int.reduceNeg, Int.reduceSub, Int.reduceAdd, Int.reduceMul, sz_lt, Int.zero_add, mod_int, pr_int, pr_bl, pr_non, pr_str, pr_tup, pr_nil, pr_cons, pr_lst, pr_ints, pr_prs, pr_app, pr_kD, mt_1, mt_2, mt_3, mt_4, mt_5, mt_6, mt_7, rev_lk, max_lk, min_lk, sum_lk, any_lk, all_lk, count_lk, index_lk, pop_lk, eq_D, ne_D, eqD_ll, eqD_tt, eqL_ll, eqS_same, eqS_nil, eqS_ints, eqD_ii, eqD_kk, py_app, py_nil, py_cons, py_ints, py_int, py_bl, py_non, py_kD, py_links, py_prs, py_mapi, pr_mapi, pr_linksT, gt_np, pr_loc, pr_stps, pr_stp, aug_add, aug_sub, ko_app, take_left', len_aa, hT1, prD]
    generalize hX : lcD _ _ _ _ _ _ _ = X
    have e := lc_pf (fun e => decide (e.1.2 < p.2)) edD hX (by rw [stays_lk, hT1]; exact D.beqL_self _) (le_size (by simp; omega)) (fun e he => by simp only [bnd_some, bnd_none, opt_some, opt_none, seqF_next, seqF_brk, seqF_cnt, seqF_ret, ts_nil, ts_cons, out_ret, out_next, ite_t, ite_f, bop_and_t, bop_and_f, bop_or_t, bop_or_f, bb_and_t, bb_and_f, bb_or_t, bb_or_f, slot_0, slot_s, e_con, b_con, e_var, b_var, e_glo, b_glo, e_tup, b_tup, e_lst, b_lst, e_dct, b_dct, e_op, b_op, e_neg, b_neg, e_not, b_not, e_bop, b_bop, e_cmp, b_cmp, e_chn, b_chn, e_ifx, b_ifx, e_ix, b_ix, e_sl, b_sl, e_call, b_call, e_callK, e_fnv, e_callL, fnIx_fn, e_bi, b_bi, e_mxd, b_mxd, e_isi, b_isi, e_isl, b_isl, e_lrg, b_lrg, e_mt, b_mt, e_lc, b_lc, e_rev, b_rev, e_gtp, e_lrg1, i_rng3, bop_1, bop_2, bb_1, bb_2, es_nil, es_cons, eo_none, eo_some, if_none, if_some, i_ex, i_rng1, i_rng2, i_enm, q_nm, q_tp, q_sb, setK_some, qs_nil, qs_cons, t_asg, t_aug, t_ex, t_ret, t_retN, t_iff, t_fr, t_whl, t_brk, t_cnt, t_pas, con_none, con_bool, con_int, con_str, neg_int, not_bl, int_int, add_int, sub_int, lt_int, le_int, gt_int, ge_int, eq_int, ne_int, is_nn, is_in, is_bb, isn_nn, isn_in, isn_bb, tr_non, tr_bl, tr_int, ty_non, ty_bl, ty_int, ty_tup, ty_ro, isa_int_int, isa_int_bool, isa_int_list, isa_int_tuple, isa_list_list, isa_list_tuple, isa_tuple_list, isa_tuple_tuple, sq_tup, sq_ro, bi_int_int, bi_int_bl, bi_tuple_tup, bi_min, bi_max, bi_len_tup, bi_len_ro, ix_tup, ix_ro, sl_tup, sl_ro, stays_tup, stays_ro, at_0, at_1, gc_ai, gc_aai, gc_aaai, gc_ab, gc_aab, gc_aaab, gc_an, gc_aan, gc_aaan, gc_same, wipe_nil, wipe_cons, sz_0, sz_1, sz_2, sz_3, sz_4, sz_5, sz_6, sz_7, sz_8, sz_9, sz_10, runDef, runFull, Def.full, startD, List.length_cons, List.length_nil, List.map_cons, List.map_nil, List.append_nil, List.nil_append, List.cons_append, List.drop_nil, List.drop_zero, List.drop_succ_cons, List.set_cons_zero, List.set_cons_succ, List.replicate, if_true, if_false, Bool.not_true, Bool.not_false, Bool.true_or, Bool.false_or, Option.map_some, Option.map_none, Nat.zero_add, Nat.add_zero, Nat.sub_self, Nat.reduceAdd, Nat.reduceSub, ↓reduceIte, Bool.and_true, Bool.true_and, Bool.false_and, Bool.and_false, Int.cast_ofNat_Int, decide_true, decide_false, Int.reduceEq, Int.reduceLT, Int.reduceLE, Bool.false_eq_true, List.append_assoc, List.length_append, lk_app, lk_app0, lk_sapp, lk_sapp0, lk_z, lk_s, st_app, st_app0, st_sapp, st_sapp0, len_set, set_set, sq_lk, ix_lk, sl_lk, len_lk, tuple_lk, list_lk, list_tup, ty_lk, stays_lk, set_lk, add_lk, app_lk, ext_lk, clear_lk, recv_lk, get2_lk, tr_lk, gp_0, gp_1, gp_2, gp_3, gp_4, gp_5, gp_6, gp_7, gp_8, ko_n, ko_s, ko_p, gq_1, gq_2, gq_3, gq_4, gq_5, gq_6, gq_7, gq_8, gq_9, gq_10, gq_11, gq_12, gq_13, gq_14, gq_15, gq_16, gcR, Nat.lt_irrefl, Nat.not_lt_zero, List.take_succ_cons, List.take_zero, List.take_nil, D.beqL_self, at_2, at_3, ixN, Nat.reduceLT, Nat.reduceLeDiff, Int.reduceToNat, Int.reduceNeg, Int.reduceSub, Int.reduceAdd, Int.reduceMul, sz_lt, Int.zero_add, mod_int, pr_int, pr_bl, pr_non, pr_str, pr_tup, pr_nil, pr_cons, pr_lst, pr_ints, pr_prs, pr_app, pr_kD, mt_1, mt_2, mt_3, mt_4, mt_5, mt_6, mt_7, rev_lk, max_lk, min_lk, sum_lk, any_lk, all_lk, count_lk, index_lk, pop_lk, eq_D, ne_D, eqD_ll, eqD_tt, eqL_ll, eqS_same, eqS_nil, eqS_ints, eqD_ii, eqD_kk, py_app, py_nil, py_cons, py_ints, py_int, py_bl, py_non, py_kD, py_links, py_prs, py_mapi, pr_mapi, pr_linksT, gt_np, pr_loc, pr_stps, pr_stp, aug_add, aug_sub, ko_app, take_left', len_aa, lcS, ite_b, bnd_if, seqF_if, out_if, bopB_and, bopB_or, bopD_and, bopD_or, if_same_bool, if_bf, if_bx, if_xt, edD])
    subst e
    clear hX
    have hT2 : ∀ L, lk (T ++ L) (S.length + j) = some (.lst (es.map edD)) := fun L => lk_old hT1
    simp only [bnd_some, bnd_none, opt_some, opt_none, seqF_next, seqF_brk, seqF_cnt, seqF_ret, ts_nil, ts_cons, out_ret, out_next, ite_t, ite_f, bop_and_t, bop_and_f, bop_or_t, bop_or_f, bb_and_t, bb_and_f, bb_or_t, bb_or_f, slot_0, slot_s, e_con, b_con, e_var, b_var, e_glo, b_glo, e_tup, b_tup, e_lst, b_lst, e_dct, b_dct, e_op, b_op, e_neg, b_neg, e_not, b_not, e_bop, b_bop, e_cmp, b_cmp, e_chn, b_chn, e_ifx, b_ifx, e_ix, b_ix, e_sl, b_sl, e_call, b_call, e_callK, e_fnv, e_callL, fnIx_fn, e_bi, b_bi, e_mxd, b_mxd, e_isi, b_isi, e_isl, b_isl, e_lrg, b_lrg, e_mt, b_mt, e_lc, b_lc, e_rev, b_rev, e_gtp, e_lrg1, i_rng3, bop_1, bop_2, bb_1, bb_2, es_nil, es_cons, eo_none, eo_some, if_none, if_some, i_ex, i_rng1, i_rng2, i_enm, q_nm, q_tp, q_sb, setK_some, qs_nil, qs_cons, t_asg, t_aug, t_ex, t_ret, t_retN, t_iff, t_fr, t_whl, t_brk, t_cnt, t_pas, con_none, con_bool, con_int, con_str, neg_int, not_bl, int_int, add_int, sub_int, lt_int, le_int, gt_int, ge_int, eq_int, ne_int, is_nn, is_in, is_bb, isn_nn, isn_in, isn_bb, tr_non, tr_bl, tr_int, ty_non, ty_bl, ty_int, ty_tup, ty_ro, isa_int_int, isa_int_bool, isa_int_list, isa_int_tuple, isa_list_list, isa_list_tuple, isa_tuple_list, isa_tuple_tuple, sq_tup, sq_ro, bi_int_int, bi_int_bl, bi_tuple_tup, bi_min, bi_max, bi_len_tup, bi_len_ro, ix_tup, ix_ro, sl_tup, sl_ro, stays_tup, stays_ro, at_0, at_1, gc_ai, gc_aai, gc_aaai, gc_ab, gc_aab, gc_aaab, gc_an, gc_aan, gc_aaan, gc_same, wipe_nil, wipe_cons, sz_0, sz_1, sz_2, sz_3, sz_4, sz_5, sz_6, sz_7, sz_8, sz_9, sz_10, runDef, runFull, Def.full, startD, List.length_cons, List.length_nil, List.map_cons, List.map_nil, List.append_nil, List.nil_append, List.cons_append, List.drop_nil, List.drop_zero, List.drop_succ_cons, List.set_cons_zero, List.set_cons_succ, List.replicate, if_true, if_false, Bool.not_true, Bool.not_false, Bool.true_or, Bool.false_or, Option.map_some, Option.map_none, Nat.zero_add, Nat.add_zero, Nat.sub_self, Nat.reduceAdd, Nat.reduceSub, ↓reduceIte, Bool.and_true, Bool.true_and, Bool.false_and, Bool.and_false, Int.cast_ofNat_Int, decide_true, decide_false, Int.reduceEq, Int.reduceLT, Int.reduceLE, Bool.false_eq_true, List.append_assoc, List.length_append, lk_app, lk_app0, lk_sapp, lk_sapp0, lk_z, lk_s, st_app, st_app0, st_sapp, st_sapp0, len_set, set_set, sq_lk, ix_lk, sl_lk, len_lk, tuple_lk, list_lk, list_tup, ty_lk, stays_lk, set_lk, add_lk, app_lk, ext_lk, clear_lk, recv_lk, get2_lk, tr_lk, gp_0, gp_1, gp_2, gp_3, gp_4, gp_5, gp_6, gp_7, gp_8, ko_n, ko_s, ko_p, gq_1, gq_2, gq_3, gq_4, gq_5, gq_6, gq_7, gq_8, gq_9, gq_10, gq_11, gq_12, gq_13, gq_14, gq_15, gq_16, gcR, Nat.lt_irrefl, Nat.not_lt_zero, List.take_succ_cons, List.take_zero, List.take_nil, D.beqL_self, at_2, at_3, ixN, Nat.reduceLT, Nat.reduceLeDiff, Int.reduceToNat, Int.reduceNeg, Int.reduceSub, Int.reduceAdd, Int.reduceMul, sz_lt, Int.zero_add, mod_int, pr_int, pr_bl, pr_non, pr_str, pr_tup, pr_nil, pr_cons, pr_lst, pr_ints, pr_prs, pr_app, pr_kD, mt_1, mt_2, mt_3, mt_4, mt_5, mt_6, mt_7, rev_lk, max_lk, min_lk, sum_lk, any_lk, all_lk, count_lk, index_lk, pop_lk, eq_D, ne_D, eqD_ll, eqD_tt, eqL_ll, eqS_same, eqS_nil, eqS_ints, eqD_ii, eqD_kk, py_app, py_nil, py_cons, py_ints, py_int, py_bl, py_non, py_kD, py_links, py_prs, py_mapi, pr_mapi, pr_linksT, gt_np, pr_loc, pr_stps, pr_stp, aug_add, aug_sub, ko_app, take_left', len_aa, hT2]
    generalize hX : lcD _ _ _ _ _ _ _ = X
    have e := lc_pf (fun e => decide (p.2 ≤ e.1.2)) edD hX (by rw [stays_lk, hT2]; exact D.beqL_self _) (le_size (by simp; omega)) (fun e he => by simp only [bnd_some, bnd_none, opt_some, opt_none, seqF_next, seqF_brk, seqF_cnt, seqF_ret, ts_nil, ts_cons, out_ret, out_next, ite_t, ite_f, bop_and_t, bop_and_f, bop_or_t, bop_or_f, bb_and_t, bb_and_f, bb_or_t, bb_or_f, slot_0, slot_s, e_con, b_con, e_var, b_var, e_glo, b_glo, e_tup, b_tup, e_lst, b_lst, e_dct, b_dct, e_op, b_op, e_neg, b_neg, e_not, b_not, e_bop, b_bop, e_cmp, b_cmp, e_chn, b_chn, e_ifx, b_ifx, e_ix, b_ix, e_sl, b_sl, e_call, b_call, e_callK, e_fnv, e_callL, fnIx_fn, e_bi, b_bi, e_mxd, b_mxd, e_isi, b_isi, e_isl, b_isl, e_lrg, b_lrg, e_mt, b_mt, e_lc, b_lc, e_rev, b_rev, e_gtp, e_lrg1, i_rng3, bop_1, bop_2, bb_1, bb_2, es_nil, es_cons, eo_none, eo_some, if_none, if_some, i_ex, i_rng1, i_rng2, i_enm, q_nm, q_tp, q_sb, setK_some, qs_nil, qs_cons, t_asg, t_aug, t_ex, t_ret, t_retN, t_iff, t_fr, t_whl, t_brk, t_cnt, t_pas, con_none, con_bool, con_int, con_str, neg_int, not_bl, int_int, add_int, sub_int, lt_int, le_int, gt_int, ge_int, eq_int, ne_int, is_nn, is_in, is_bb, isn_nn, isn_in, isn_bb, tr_non, tr_bl, tr_int, ty_non, ty_bl, ty_int, ty_tup, ty_ro, isa_int_int, isa_int_bool, isa_int_list, isa_int_tuple, isa_list_list, isa_list_tuple, isa_tuple_list, isa_tuple_tuple, sq_tup, sq_ro, bi_int_int, bi_int_bl, bi_tuple_tup, bi_min, bi_max, bi_len_tup, bi_len_ro, ix_tup, ix_ro, sl_tup, sl_ro, stays_tup, stays_ro, at_0, at_1, gc_ai, gc_aai, gc_aaai, gc_ab, gc_aab, gc_aaab, gc_an, gc_aan, gc_aaan, gc_same, wipe_nil, wipe_cons, sz_0, sz_1, sz_2, sz_3, sz_4, sz_5, sz_6, sz_7, sz_8, sz_9, sz_10, runDef, runFull, Def.full, startD, List.length_cons, List.length_nil, List.map_cons, List.map_nil, List.append_nil, List.nil_append, List.cons_append, List.drop_nil, List.drop_zero, List.drop_succ_cons, List.set_cons_zero, List.set_cons_succ, List.replicate, if_true, if_false, Bool.not_true, Bool.not_false, Bool.true_or, Bool.false_or, Option.map_some, Option.map_none, Nat.zero_add, Nat.add_zero, Nat.sub_self, Nat.reduceAdd, Nat.reduceSub, ↓reduceIte, Bool.and_true, Bool.true_and, Bool.false_and, Bool.and_false, Int.cast_ofNat_Int, decide_true, decide_false, Int.reduceEq, Int.reduceLT, Int.reduceLE, Bool.false_eq_true, List.append_assoc, List.length_append, lk_app, lk_app0, lk_sapp, lk_sapp0, lk_z, lk_s, st_app, st_app0, st_sapp, st_sapp0, len_set, set_set, sq_lk, ix_lk, sl_lk, len_lk, tuple_lk, list_lk, list_tup, ty_lk, stays_lk, set_lk, add_lk, app_lk, ext_lk, clear_lk, recv_lk, get2_lk, tr_lk, gp_0, gp_1, gp_2, gp_3, gp_4, gp_5, gp_6, gp_7, gp_8, ko_n, ko_s, ko_p, gq_1, gq_2, gq_3, gq_4, gq_5, gq_6, gq_7, gq_8, gq_9, gq_10, gq_11, gq_12, gq_13, gq_14, gq_15, gq_16, gcR, Nat.lt_irrefl, Nat.not_lt_zero, List.take_succ_cons, List.take_zero, List.take_nil, D.beqL_self, at_2, at_3, ixN, Nat.reduceLT, Nat.reduceLeDiff, Int.reduceToNat, Int.reduceNeg, Int.reduceSub, Int.reduceAdd, Int.reduceMul, sz_lt, Int.zero_add, mod_int, pr_int, pr_bl, pr_non, pr_str, pr_tup, pr_nil, pr_cons, pr_lst, pr_ints, pr_prs, pr_app, pr_kD, mt_1, mt_2, mt_3, mt_4, mt_5, mt_6, mt_7, rev_lk, max_lk, min_lk, sum_lk, any_lk, all_lk, count_lk, index_lk, pop_lk, eq_D, ne_D, eqD_ll, eqD_tt, eqL_ll, eqS_same, eqS_nil, eqS_ints, eqD_ii, eqD_kk, py_app, py_nil, py_cons, py_ints, py_int, py_bl, py_non, py_kD, py_links, py_prs, py_mapi, pr_mapi, pr_linksT, gt_np, pr_loc, pr_stps, pr_stp, aug_add, aug_sub, ko_app, take_left', len_aa, lcS, ite_b, bnd_if, seqF_if, out_if, bopB_and, bopB_or, bopD_and, bopD_or, if_same_bool, if_bf, if_bx, if_xt, edD])
    subst e
    clear hX
    have hh : ∀ L, orc defs (k + 1) 16 [.loc T.length] (T ++ .lst ((es.filter fun e => decide (e.1.2 < p.2)).map edD) :: L) = some (trD (hung (es.filter fun e => decide (e.1.2 < p.2))), T ++ .lst ((es.filter fun e => decide (e.1.2 < p.2)).map edD) :: L) := fun L => hung_of k (by rw [lk_app0]; rfl)
    have hfl : (es.filter fun e => decide (p.2 ≤ e.1.2)).length + 1 ≤ sizeLine := le_size (by have := List.length_filter_le (fun e : (Int × Int) × Tr => decide (p.2 ≤ e.1.2)) es; omega)
    simp only [bnd_some, bnd_none, opt_some, opt_none, seqF_next, seqF_brk, seqF_cnt, seqF_ret, ts_nil, ts_cons, out_ret, out_next, ite_t, ite_f, bop_and_t, bop_and_f, bop_or_t, bop_or_f, bb_and_t, bb_and_f, bb_or_t, bb_or_f, slot_0, slot_s, e_con, b_con, e_var, b_var, e_glo, b_glo, e_tup, b_tup, e_lst, b_lst, e_dct, b_dct, e_op, b_op, e_neg, b_neg, e_not, b_not, e_bop, b_bop, e_cmp, b_cmp, e_chn, b_chn, e_ifx, b_ifx, e_ix, b_ix, e_sl, b_sl, e_call, b_call, e_callK, e_fnv, e_callL, fnIx_fn, e_bi, b_bi, e_mxd, b_mxd, e_isi, b_isi, e_isl, b_isl, e_lrg, b_lrg, e_mt, b_mt, e_lc, b_lc, e_rev, b_rev, e_gtp, e_lrg1, i_rng3, bop_1, bop_2, bb_1, bb_2, es_nil, es_cons, eo_none, eo_some, if_none, if_some, i_ex, i_rng1, i_rng2, i_enm, q_nm, q_tp, q_sb, setK_some, qs_nil, qs_cons, t_asg, t_aug, t_ex, t_ret, t_retN, t_iff, t_fr, t_whl, t_brk, t_cnt, t_pas, con_none, con_bool, con_int, con_str, neg_int, not_bl, int_int, add_int, sub_int, lt_int, le_int, gt_int, ge_int, eq_int, ne_int, is_nn, is_in, is_bb, isn_nn, isn_in, isn_bb, tr_non, tr_bl, tr_int, ty_non, ty_bl, ty_int, ty_tup, ty_ro, isa_int_int, isa_int_bool, isa_int_list, isa_int_tuple, isa_list_list, isa_list_tuple, isa_tuple_list, isa_tuple_tuple, sq_tup, sq_ro, bi_int_int, bi_int_bl, bi_tuple_tup, bi_min, bi_max, bi_len_tup, bi_len_ro, ix_tup, ix_ro, sl_tup, sl_ro, stays_tup, stays_ro, at_0, at_1, gc_ai, gc_aai, gc_aaai, gc_ab, gc_aab, gc_aaab, gc_an, gc_aan, gc_aaan, gc_same, wipe_nil, wipe_cons, sz_0, sz_1, sz_2, sz_3, sz_4, sz_5, sz_6, sz_7, sz_8, sz_9, sz_10, runDef, runFull, Def.full, startD, List.length_cons, List.length_nil, List.map_cons, List.map_nil, List.append_nil, List.nil_append, List.cons_append, List.drop_nil, List.drop_zero, List.drop_succ_cons, List.set_cons_zero, List.set_cons_succ, List.replicate, if_true, if_false, Bool.not_true, Bool.not_false, Bool.true_or, Bool.false_or, Option.map_some, Option.map_none, Nat.zero_add, Nat.add_zero, Nat.sub_self, Nat.reduceAdd, Nat.reduceSub, ↓reduceIte, Bool.and_true, Bool.true_and, Bool.false_and, Bool.and_false, Int.cast_ofNat_Int, decide_true, decide_false, Int.reduceEq, Int.reduceLT, Int.reduceLE, Bool.false_eq_true, List.append_assoc, List.length_append, lk_app, lk_app0, lk_sapp, lk_sapp0, lk_z, lk_s, st_app, st_app0, st_sapp, st_sapp0, len_set, set_set, sq_lk, ix_lk, sl_lk, len_lk, tuple_lk, list_lk, list_tup, ty_lk, stays_lk, set_lk, add_lk, app_lk, ext_lk, clear_lk, recv_lk, get2_lk, tr_lk, gp_0, gp_1, gp_2, gp_3, gp_4, gp_5, gp_6, gp_7, gp_8, ko_n, ko_s, ko_p, gq_1, gq_2, gq_3, gq_4, gq_5, gq_6, gq_7, gq_8, gq_9, gq_10, gq_11, gq_12, gq_13, gq_14, gq_15, gq_16, gcR, Nat.lt_irrefl, Nat.not_lt_zero, List.take_succ_cons, List.take_zero, List.take_nil, D.beqL_self, at_2, at_3, ixN, Nat.reduceLT, Nat.reduceLeDiff, Int.reduceToNat, Int.reduceNeg, Int.reduceSub, Int.reduceAdd, Int.reduceMul, sz_lt, Int.zero_add, mod_int, pr_int, pr_bl, pr_non, pr_str, pr_tup, pr_nil, pr_cons, pr_lst, pr_ints, pr_prs, pr_app, pr_kD, mt_1, mt_2, mt_3, mt_4, mt_5, mt_6, mt_7, rev_lk, max_lk, min_lk, sum_lk, any_lk, all_lk, count_lk, index_lk, pop_lk, eq_D, ne_D, eqD_ll, eqD_tt, eqL_ll, eqS_same, eqS_nil, eqS_ints, eqD_ii, eqD_kk, py_app, py_nil, py_cons, py_ints, py_int, py_bl, py_non, py_kD, py_links, py_prs, py_mapi, pr_mapi, pr_linksT, gt_np, pr_loc, pr_stps, pr_stp, aug_add, aug_sub, ko_app, take_left', len_aa, hh, pr_trD, List.length_map, hfl]
    refine ⟨G ++ [.lst ((es.filter fun e => decide (e.1.2 < p.2)).map edD), .lst ((es.filter fun e => decide (p.2 ≤ e.1.2)).map edD), .lst [.tup [.int p.1, .int p.2, trD (hung (es.filter fun e => decide (e.1.2 < p.2)))]], .lst ((es.filter fun e => decide (p.2 ≤ e.1.2)).map edD ++ [.tup [.int p.1, .int p.2, trD (hung (es.filter fun e => decide (e.1.2 < p.2)))]])], G.length + 3, _, sn ++ [p], some (.int p.1), some (.int p.2), some (.loc T.length), x5, ?_, ?_, ?_, ?_, e3.step p⟩
    · rw [hT, List.length_append, Nat.add_assoc]
    · rw [hT, List.append_assoc]
    · rw [lk_app, List.map_append]; rfl
    · rw [e2, List.append_assoc]; rfl
theorem tree_of_of (k : Nat) {v : D} {tw : Tws} {S : Store} (hv : IsTw S v tw) (hl : tw.length ≤ 100) : ∃ t, Cart tw t ∧ orc defs (k + 102) 8 [v] S = some (trD t, S) := by
  obtain ⟨t, c, e⟩ := grown_of 100 k tw S hl
  refine ⟨t, c, ?_⟩
  rw [orc_at (d := d_tree_of) rfl]
  have e1 := checked_of (k + 97) hv
  simp only [d_tree_of, b_tree_of, bnd_some, bnd_none, opt_some, opt_none, seqF_next, seqF_brk, seqF_cnt, seqF_ret, ts_nil, ts_cons, out_ret, out_next, ite_t, ite_f, bop_and_t, bop_and_f, bop_or_t, bop_or_f, bb_and_t, bb_and_f, bb_or_t, bb_or_f, slot_0, slot_s, e_con, b_con, e_var, b_var, e_glo, b_glo, e_tup, b_tup, e_lst, b_lst, e_dct, b_dct, e_op, b_op, e_neg, b_neg, e_not, b_not, e_bop, b_bop, e_cmp, b_cmp, e_chn, b_chn, e_ifx, b_ifx, e_ix, b_ix, e_sl, b_sl, e_call, b_call, e_callK, e_fnv, e_callL, fnIx_fn, e_bi, b_bi, e_mxd, b_mxd, e_isi, b_isi, e_isl, b_isl, e_lrg, b_lrg, e_mt, b_mt, e_lc, b_lc, e_rev, b_rev, e_gtp, e_lrg1, i_rng3, bop_1, bop_2, bb_1, bb_2, es_nil, es_cons, eo_none, eo_some, if_none, if_some, i_ex, i_rng1, i_rng2, i_enm, q_nm, q_tp, q_sb, setK_some, qs_nil, qs_cons, t_asg, t_aug, t_ex, t_ret, t_retN, t_iff, t_fr, t_whl, t_brk, t_cnt, t_pas, con_none, con_bool, con_int, con_str, neg_int, not_bl, int_int, add_int, sub_int, lt_int, le_int, gt_int, ge_int, eq_int, ne_int, is_nn, is_in, is_bb, isn_nn, isn_in, isn_bb, tr_non, tr_bl, tr_int, ty_non, ty_bl, ty_int, ty_tup, ty_ro, isa_int_int, isa_int_bool, isa_int_list, isa_int_tuple, isa_list_list, isa_list_tuple, isa_tuple_list, isa_tuple_tuple, sq_tup, sq_ro, bi_int_int, bi_int_bl, bi_tuple_tup, bi_min, bi_max, bi_len_tup, bi_len_ro, ix_tup, ix_ro, sl_tup, sl_ro, stays_tup, stays_ro, at_0, at_1, gc_ai, gc_aai, gc_aaai, gc_ab, gc_aab, gc_aaab, gc_an, gc_aan, gc_aaan, gc_same, wipe_nil, wipe_cons, sz_0, sz_1, sz_2, sz_3, sz_4, sz_5, sz_6, sz_7, sz_8, sz_9, sz_10, runDef, runFull, Def.full, startD, List.length_cons, List.length_nil, List.map_cons, List.map_nil, List.append_nil, List.nil_append, List.cons_append, List.drop_nil, List.drop_zero, List.drop_succ_cons, List.set_cons_zero, List.set_cons_succ, List.replicate, if_true, if_false, Bool.not_true, Bool.not_false, Bool.true_or, Bool.false_or, Option.map_some, Option.map_none, Nat.zero_add, Nat.add_zero, Nat.sub_self, Nat.reduceAdd, Nat.reduceSub, ↓reduceIte, Bool.and_true, Bool.true_and, Bool.false_and, Bool.and_false, Int.cast_ofNat_Int, decide_true, decide_false, Int.reduceEq, Int.reduceLT, Int.reduceLE, Bool.false_eq_true, List.append_assoc, List.length_append, lk_app, lk_app0, lk_sapp, lk_sapp0, lk_z, lk_s, st_app, st_app0, st_sapp, st_sapp0, len_set, set_set, sq_lk, ix_lk, sl_lk, len_lk, tuple_lk, list_lk, list_tup, ty_lk, stays_lk, set_lk, add_lk, app_lk, ext_lk, clear_lk, recv_lk, get2_lk, tr_lk, gp_0, gp_1, gp_2, gp_3, gp_4, gp_5, gp_6, gp_7, gp_8, ko_n, ko_s, ko_p, gq_1, gq_2, gq_3, gq_4, gq_5, gq_6, gq_7, gq_8, gq_9, gq_10, gq_11, gq_12, gq_13, gq_14, gq_15, gq_16, gcR, Nat.lt_irrefl, Nat.not_lt_zero, List.take_succ_cons, List.take_zero, List.take_nil, D.beqL_self, at_2, at_3, ixN, Nat.reduceLT, Nat.reduceLeDiff, Int.reduceToNat, Int.reduceNeg, Int.reduceSub, Int.reduceAdd, Int.reduceMul, sz_lt, Int.zero_add, mod_int, pr_int, pr_bl, pr_non, pr_str, pr_tup, pr_nil, pr_cons, pr_lst, pr_ints, pr_prs, pr_app, pr_kD, mt_1, mt_2, mt_3, mt_4, mt_5, mt_6, mt_7, rev_lk, max_lk, min_lk, sum_lk, any_lk, all_lk, count_lk, index_lk, pop_lk, eq_D, ne_D, eqD_ll, eqD_tt, eqL_ll, eqS_same, eqS_nil, eqS_ints, eqD_ii, eqD_kk, py_app, py_nil, py_cons, py_ints, py_int, py_bl, py_non, py_kD, py_links, py_prs, py_mapi, pr_mapi, pr_linksT, gt_np, pr_loc, pr_stps, pr_stp, aug_add, aug_sub, ko_app, take_left', len_aa, e1, e, pr_trD]
theorem tow_of (k : Nat) {d : D} {t : Tr} {S : Store} (hr : RepT S d t) (ho : t.ok none none none) (hd : t.dep ≤ 100) (hs : t.sz ≤ 1000) (hw : t.rows.length ≤ 1000) : orc defs (k + 102) 10 [d] S = some (.tup (t.rows.map prD), S) := by
  rw [orc_at (d := d_towers_of) rfl]
  have e1 := look_tree_of (k + 98) hr ho (by omega) hs
  have e2 := listed_of t 100 k d S hr hd hw
  simp only [d_towers_of, b_towers_of, bnd_some, bnd_none, opt_some, opt_none, seqF_next, seqF_brk, seqF_cnt, seqF_ret, ts_nil, ts_cons, out_ret, out_next, ite_t, ite_f, bop_and_t, bop_and_f, bop_or_t, bop_or_f, bb_and_t, bb_and_f, bb_or_t, bb_or_f, slot_0, slot_s, e_con, b_con, e_var, b_var, e_glo, b_glo, e_tup, b_tup, e_lst, b_lst, e_dct, b_dct, e_op, b_op, e_neg, b_neg, e_not, b_not, e_bop, b_bop, e_cmp, b_cmp, e_chn, b_chn, e_ifx, b_ifx, e_ix, b_ix, e_sl, b_sl, e_call, b_call, e_callK, e_fnv, e_callL, fnIx_fn, e_bi, b_bi, e_mxd, b_mxd, e_isi, b_isi, e_isl, b_isl, e_lrg, b_lrg, e_mt, b_mt, e_lc, b_lc, e_rev, b_rev, e_gtp, e_lrg1, i_rng3, bop_1, bop_2, bb_1, bb_2, es_nil, es_cons, eo_none, eo_some, if_none, if_some, i_ex, i_rng1, i_rng2, i_enm, q_nm, q_tp, q_sb, setK_some, qs_nil, qs_cons, t_asg, t_aug, t_ex, t_ret, t_retN, t_iff, t_fr, t_whl, t_brk, t_cnt, t_pas, con_none, con_bool, con_int, con_str, neg_int, not_bl, int_int, add_int, sub_int, lt_int, le_int, gt_int, ge_int, eq_int, ne_int, is_nn, is_in, is_bb, isn_nn, isn_in, isn_bb, tr_non, tr_bl, tr_int, ty_non, ty_bl, ty_int, ty_tup, ty_ro, isa_int_int, isa_int_bool, isa_int_list, isa_int_tuple, isa_list_list, isa_list_tuple, isa_tuple_list, isa_tuple_tuple, sq_tup, sq_ro, bi_int_int, bi_int_bl, bi_tuple_tup, bi_min, bi_max, bi_len_tup, bi_len_ro, ix_tup, ix_ro, sl_tup, sl_ro, stays_tup, stays_ro, at_0, at_1, gc_ai, gc_aai, gc_aaai, gc_ab, gc_aab, gc_aaab, gc_an, gc_aan, gc_aaan, gc_same, wipe_nil, wipe_cons, sz_0, sz_1, sz_2, sz_3, sz_4, sz_5, sz_6, sz_7, sz_8, sz_9, sz_10, runDef, runFull, Def.full, startD, List.length_cons, List.length_nil, List.map_cons, List.map_nil, List.append_nil, List.nil_append, List.cons_append, List.drop_nil, List.drop_zero, List.drop_succ_cons, List.set_cons_zero, List.set_cons_succ, List.replicate, if_true, if_false, Bool.not_true, Bool.not_false, Bool.true_or, Bool.false_or, Option.map_some, Option.map_none, Nat.zero_add, Nat.add_zero, Nat.sub_self, Nat.reduceAdd, Nat.reduceSub, ↓reduceIte, Bool.and_true, Bool.true_and, Bool.false_and, Bool.and_false, Int.cast_ofNat_Int, decide_true, decide_false, Int.reduceEq, Int.reduceLT, Int.reduceLE, Bool.false_eq_true, List.append_assoc, List.length_append, lk_app, lk_app0, lk_sapp, lk_sapp0, lk_z, lk_s, st_app, st_app0, st_sapp, st_sapp0, len_set, set_set, sq_lk, ix_lk, sl_lk, len_lk, tuple_lk, list_lk, list_tup, ty_lk, stays_lk, set_lk, add_lk, app_lk, ext_lk, clear_lk, recv_lk, get2_lk, tr_lk, gp_0, gp_1, gp_2, gp_3, gp_4, gp_5, gp_6, gp_7, gp_8, ko_n, ko_s, ko_p, gq_1, gq_2, gq_3, gq_4, gq_5, gq_6, gq_7, gq_8, gq_9, gq_10, gq_11, gq_12, gq_13, gq_14, gq_15, gq_16, gcR, Nat.lt_irrefl, Nat.not_lt_zero, List.take_succ_cons, List.take_zero, List.take_nil, D.beqL_self, at_2, at_3, ixN, Nat.reduceLT, Nat.reduceLeDiff, Int.reduceToNat, Int.reduceNeg, Int.reduceSub, Int.reduceAdd, Int.reduceMul, sz_lt, Int.zero_add, mod_int, pr_int, pr_bl, pr_non, pr_str, pr_tup, pr_nil, pr_cons, pr_lst, pr_ints, pr_prs, pr_app, pr_kD, mt_1, mt_2, mt_3, mt_4, mt_5, mt_6, mt_7, rev_lk, max_lk, min_lk, sum_lk, any_lk, all_lk, count_lk, index_lk, pop_lk, eq_D, ne_D, eqD_ll, eqD_tt, eqL_ll, eqS_same, eqS_nil, eqS_ints, eqD_ii, eqD_kk, py_app, py_nil, py_cons, py_ints, py_int, py_bl, py_non, py_kD, py_links, py_prs, py_mapi, pr_mapi, pr_linksT, gt_np, pr_loc, pr_stps, pr_stp, aug_add, aug_sub, ko_app, take_left', len_aa, e1, e2]
theorem shp_of (k : Nat) {d : D} {t : Tr} {S : Store} (hr : RepT S d t) (ho : t.ok none none none) (hd : t.dep ≤ 100) (hs : t.sz ≤ 1000) : orc defs (k + 102) 12 [d] S = some (shD t, S) := by
  rw [orc_at (d := d_shape) rfl]
  have e1 := look_tree_of (k + 98) hr ho (by omega) hs
  have e2 := shaped_of t 100 k d S hr hd
  simp only [d_shape, b_shape, bnd_some, bnd_none, opt_some, opt_none, seqF_next, seqF_brk, seqF_cnt, seqF_ret, ts_nil, ts_cons, out_ret, out_next, ite_t, ite_f, bop_and_t, bop_and_f, bop_or_t, bop_or_f, bb_and_t, bb_and_f, bb_or_t, bb_or_f, slot_0, slot_s, e_con, b_con, e_var, b_var, e_glo, b_glo, e_tup, b_tup, e_lst, b_lst, e_dct, b_dct, e_op, b_op, e_neg, b_neg, e_not, b_not, e_bop, b_bop, e_cmp, b_cmp, e_chn, b_chn, e_ifx, b_ifx, e_ix, b_ix, e_sl, b_sl, e_call, b_call, e_callK, e_fnv, e_callL, fnIx_fn, e_bi, b_bi, e_mxd, b_mxd, e_isi, b_isi, e_isl, b_isl, e_lrg, b_lrg, e_mt, b_mt, e_lc, b_lc, e_rev, b_rev, e_gtp, e_lrg1, i_rng3, bop_1, bop_2, bb_1, bb_2, es_nil, es_cons, eo_none, eo_some, if_none, if_some, i_ex, i_rng1, i_rng2, i_enm, q_nm, q_tp, q_sb, setK_some, qs_nil, qs_cons, t_asg, t_aug, t_ex, t_ret, t_retN, t_iff, t_fr, t_whl, t_brk, t_cnt, t_pas, con_none, con_bool, con_int, con_str, neg_int, not_bl, int_int, add_int, sub_int, lt_int, le_int, gt_int, ge_int, eq_int, ne_int, is_nn, is_in, is_bb, isn_nn, isn_in, isn_bb, tr_non, tr_bl, tr_int, ty_non, ty_bl, ty_int, ty_tup, ty_ro, isa_int_int, isa_int_bool, isa_int_list, isa_int_tuple, isa_list_list, isa_list_tuple, isa_tuple_list, isa_tuple_tuple, sq_tup, sq_ro, bi_int_int, bi_int_bl, bi_tuple_tup, bi_min, bi_max, bi_len_tup, bi_len_ro, ix_tup, ix_ro, sl_tup, sl_ro, stays_tup, stays_ro, at_0, at_1, gc_ai, gc_aai, gc_aaai, gc_ab, gc_aab, gc_aaab, gc_an, gc_aan, gc_aaan, gc_same, wipe_nil, wipe_cons, sz_0, sz_1, sz_2, sz_3, sz_4, sz_5, sz_6, sz_7, sz_8, sz_9, sz_10, runDef, runFull, Def.full, startD, List.length_cons, List.length_nil, List.map_cons, List.map_nil, List.append_nil, List.nil_append, List.cons_append, List.drop_nil, List.drop_zero, List.drop_succ_cons, List.set_cons_zero, List.set_cons_succ, List.replicate, if_true, if_false, Bool.not_true, Bool.not_false, Bool.true_or, Bool.false_or, Option.map_some, Option.map_none, Nat.zero_add, Nat.add_zero, Nat.sub_self, Nat.reduceAdd, Nat.reduceSub, ↓reduceIte, Bool.and_true, Bool.true_and, Bool.false_and, Bool.and_false, Int.cast_ofNat_Int, decide_true, decide_false, Int.reduceEq, Int.reduceLT, Int.reduceLE, Bool.false_eq_true, List.append_assoc, List.length_append, lk_app, lk_app0, lk_sapp, lk_sapp0, lk_z, lk_s, st_app, st_app0, st_sapp, st_sapp0, len_set, set_set, sq_lk, ix_lk, sl_lk, len_lk, tuple_lk, list_lk, list_tup, ty_lk, stays_lk, set_lk, add_lk, app_lk, ext_lk, clear_lk, recv_lk, get2_lk, tr_lk, gp_0, gp_1, gp_2, gp_3, gp_4, gp_5, gp_6, gp_7, gp_8, ko_n, ko_s, ko_p, gq_1, gq_2, gq_3, gq_4, gq_5, gq_6, gq_7, gq_8, gq_9, gq_10, gq_11, gq_12, gq_13, gq_14, gq_15, gq_16, gcR, Nat.lt_irrefl, Nat.not_lt_zero, List.take_succ_cons, List.take_zero, List.take_nil, D.beqL_self, at_2, at_3, ixN, Nat.reduceLT, Nat.reduceLeDiff, Int.reduceToNat, Int.reduceNeg, Int.reduceSub, Int.reduceAdd, Int.reduceMul, sz_lt, Int.zero_add, mod_int, pr_int, pr_bl, pr_non, pr_str, pr_tup, pr_nil, pr_cons, pr_lst, pr_ints, pr_prs, pr_app, pr_kD, mt_1, mt_2, mt_3, mt_4, mt_5, mt_6, mt_7, rev_lk, max_lk, min_lk, sum_lk, any_lk, all_lk, count_lk, index_lk, pop_lk, eq_D, ne_D, eqD_ll, eqD_tt, eqL_ll, eqS_same, eqS_nil, eqS_ints, eqD_ii, eqD_kk, py_app, py_nil, py_cons, py_ints, py_int, py_bl, py_non, py_kD, py_links, py_prs, py_mapi, pr_mapi, pr_linksT, gt_np, pr_loc, pr_stps, pr_stp, aug_add, aug_sub, ko_app, take_left', len_aa, e1, e2, pr_shD]
theorem right_of (k : Nat) {m : Nat} {S : Store} {tw : Tws} (h : lk S m = some (.lst (tw.map prD))) (hf : Fine tw) (hl : tw.length ≤ 100) : orc defs (k + 103) 21 [.loc m] S = some (.bl true, S) := by
  rw [orc_at (d := d__law_is_right) rfl]
  obtain ⟨t, c, e1⟩ := ltree_of (k + 100) h (by omega)
  obtain ⟨t2, c2, e2⟩ := tree_of_of k (IsTw.tup (S := S) hf (by omega)) hl
  cases c.uniq c2
  have hdp : t.dep ≤ 100 := Nat.le_trans c.dep hl
  have hsz : t.sz ≤ 1000 := by rw [c.sz]; omega
  have hok : t.ok none none none := c.ok hf (fun x z => by cases z) (fun x z => by cases z) (fun x z => by cases z)
  have hrl : t.rows.length ≤ 1000 := by rw [c.rows]; omega
  have e3 := highest_tr t 100 (k + 1) (trD t) S (.trD t) hdp (c.heap hf)
  have e4 := tow_of k (S := S) (.trD t) hok hdp hsz hrl
  rw [c.rows] at e4
  obtain ⟨d', L, e5, r5, g5⟩ := llisted_of t 100 (k + 1) (trD t) S (.trD t) hdp
  have e6 := tow_of k r5 hok hdp hsz hrl
  rw [c.rows] at e6
  have e7 := shp_of k (S := S) (.trD t) hok hdp hsz
  have e8 := shp_of k r5 hok hdp hsz
  have e9 := lshape_of t 100 (k + 1) (trD t) S (.trD t) hdp
  have eqt : ∀ S, eqD S (trD t) (trD t) = some true := fun S => eq_trD (by omega)
  have eqs : ∀ S, eqD S (shD t) (shD t) = some true := fun S => eq_shD (by omega)
  have eqr : ∀ S, eqS S (tw.map prD) (tw.map prD) = some true := fun S => eqS_same (py_prs S tw)
  simp only [d__law_is_right, b__law_is_right, bnd_some, bnd_none, opt_some, opt_none, seqF_next, seqF_brk, seqF_cnt, seqF_ret, ts_nil, ts_cons, out_ret, out_next, ite_t, ite_f, bop_and_t, bop_and_f, bop_or_t, bop_or_f, bb_and_t, bb_and_f, bb_or_t, bb_or_f, slot_0, slot_s, e_con, b_con, e_var, b_var, e_glo, b_glo, e_tup, b_tup, e_lst, b_lst, e_dct, b_dct, e_op, b_op, e_neg, b_neg, e_not, b_not, e_bop, b_bop, e_cmp, b_cmp, e_chn, b_chn, e_ifx, b_ifx, e_ix, b_ix, e_sl, b_sl, e_call, b_call, e_callK, e_fnv, e_callL, fnIx_fn, e_bi, b_bi, e_mxd, b_mxd, e_isi, b_isi, e_isl, b_isl, e_lrg, b_lrg, e_mt, b_mt, e_lc, b_lc, e_rev, b_rev, e_gtp, e_lrg1, i_rng3, bop_1, bop_2, bb_1, bb_2, es_nil, es_cons, eo_none, eo_some, if_none, if_some, i_ex, i_rng1, i_rng2, i_enm, q_nm, q_tp, q_sb, setK_some, qs_nil, qs_cons, t_asg, t_aug, t_ex, t_ret, t_retN, t_iff, t_fr, t_whl, t_brk, t_cnt, t_pas, con_none, con_bool, con_int, con_str, neg_int, not_bl, int_int, add_int, sub_int, lt_int, le_int, gt_int, ge_int, eq_int, ne_int, is_nn, is_in, is_bb, isn_nn, isn_in, isn_bb, tr_non, tr_bl, tr_int, ty_non, ty_bl, ty_int, ty_tup, ty_ro, isa_int_int, isa_int_bool, isa_int_list, isa_int_tuple, isa_list_list, isa_list_tuple, isa_tuple_list, isa_tuple_tuple, sq_tup, sq_ro, bi_int_int, bi_int_bl, bi_tuple_tup, bi_min, bi_max, bi_len_tup, bi_len_ro, ix_tup, ix_ro, sl_tup, sl_ro, stays_tup, stays_ro, at_0, at_1, gc_ai, gc_aai, gc_aaai, gc_ab, gc_aab, gc_aaab, gc_an, gc_aan, gc_aaan, gc_same, wipe_nil, wipe_cons, sz_0, sz_1, sz_2, sz_3, sz_4, sz_5, sz_6, sz_7, sz_8, sz_9, sz_10, runDef, runFull, Def.full, startD, List.length_cons, List.length_nil, List.map_cons, List.map_nil, List.append_nil, List.nil_append, List.cons_append, List.drop_nil, List.drop_zero, List.drop_succ_cons, List.set_cons_zero, List.set_cons_succ, List.replicate, if_true, if_false, Bool.not_true, Bool.not_false, Bool.true_or, Bool.false_or, Option.map_some, Option.map_none, Nat.zero_add, Nat.add_zero, Nat.sub_self, Nat.reduceAdd, Nat.reduceSub, ↓reduceIte, Bool.and_true, Bool.true_and, Bool.false_and, Bool.and_false, Int.cast_ofNat_Int, decide_true, decide_false, Int.reduceEq, Int.reduceLT, Int.reduceLE, Bool.false_eq_true, List.append_assoc, List.length_append, lk_app, lk_app0, lk_sapp, lk_sapp0, lk_z, lk_s, st_app, st_app0, st_sapp, st_sapp0, len_set, set_set, sq_lk, ix_lk, sl_lk, len_lk, tuple_lk, list_lk, list_tup, ty_lk, stays_lk, set_lk, add_lk, app_lk, ext_lk, clear_lk, recv_lk, get2_lk, tr_lk, gp_0, gp_1, gp_2, gp_3, gp_4, gp_5, gp_6, gp_7, gp_8, ko_n, ko_s, ko_p, gq_1, gq_2, gq_3, gq_4, gq_5, gq_6, gq_7, gq_8, gq_9, gq_10, gq_11, gq_12, gq_13, gq_14, gq_15, gq_16, gcR, Nat.lt_irrefl, Nat.not_lt_zero, List.take_succ_cons, List.take_zero, List.take_nil, D.beqL_self, at_2, at_3, ixN, Nat.reduceLT, Nat.reduceLeDiff, Int.reduceToNat, Int.reduceNeg, Int.reduceSub, Int.reduceAdd, Int.reduceMul, sz_lt, Int.zero_add, mod_int, pr_int, pr_bl, pr_non, pr_str, pr_tup, pr_nil, pr_cons, pr_lst, pr_ints, pr_prs, pr_app, pr_kD, mt_1, mt_2, mt_3, mt_4, mt_5, mt_6, mt_7, rev_lk, max_lk, min_lk, sum_lk, any_lk, all_lk, count_lk, index_lk, pop_lk, eq_D, ne_D, eqD_ll, eqD_tt, eqL_ll, eqS_same, eqS_nil, eqS_ints, eqD_ii, eqD_kk, py_app, py_nil, py_cons, py_ints, py_int, py_bl, py_non, py_kD, py_links, py_prs, py_mapi, pr_mapi, pr_linksT, gt_np, pr_loc, pr_stps, pr_stp, aug_add, aug_sub, ko_app, take_left', len_aa, h, e1, e2, pr_trD, eqt]
  generalize hX : lcD _ _ _ _ _ _ _ = X
  have hO : ∀ L, lk (S ++ L) m = some (.lst (tw.map prD)) := fun L => lk_old h
  have e := hX.symm.trans (lc_alloc lpM (fun V => by rw [stays_lk, hO]; exact D.beqL_self _) (le_size (by simp; omega)) (fun p hp U V hU => by simp only [bnd_some, bnd_none, opt_some, opt_none, seqF_next, seqF_brk, seqF_cnt, seqF_ret, ts_nil, ts_cons, out_ret, out_next, ite_t, ite_f, bop_and_t, bop_and_f, bop_or_t, bop_or_f, bb_and_t, bb_and_f, bb_or_t, bb_or_f, slot_0, slot_s, e_con, b_con, e_var, b_var, e_glo, b_glo, e_tup, b_tup, e_lst, b_lst, e_dct, b_dct, e_op, b_op, e_neg, b_neg, e_not, b_not, e_bop, b_bop, e_cmp, b_cmp, e_chn, b_chn, e_ifx, b_ifx, e_ix, b_ix, e_sl, b_sl, e_call, b_call, e_callK, e_fnv, e_callL, fnIx_fn, e_bi, b_bi, e_mxd, b_mxd, e_isi, b_isi, e_isl, b_isl, e_lrg, b_lrg, e_mt, b_mt, e_lc, b_lc, e_rev, b_rev, e_gtp, e_lrg1, i_rng3, bop_1, bop_2, bb_1, bb_2, es_nil, es_cons, eo_none, eo_some, if_none, if_some, i_ex, i_rng1, i_rng2, i_enm, q_nm, q_tp, q_sb, setK_some, qs_nil, qs_cons, t_asg, t_aug, t_ex, t_ret, t_retN, t_iff, t_fr, t_whl, t_brk, t_cnt, t_pas, con_none, con_bool, con_int, con_str, neg_int, not_bl, int_int, add_int, sub_int, lt_int, le_int, gt_int, ge_int, eq_int, ne_int, is_nn, is_in, is_bb, isn_nn, isn_in, isn_bb, tr_non, tr_bl, tr_int, ty_non, ty_bl, ty_int, ty_tup, ty_ro, isa_int_int, isa_int_bool, isa_int_list, isa_int_tuple, isa_list_list, isa_list_tuple, isa_tuple_list, isa_tuple_tuple, sq_tup, sq_ro, bi_int_int, bi_int_bl, bi_tuple_tup, bi_min, bi_max, bi_len_tup, bi_len_ro, ix_tup, ix_ro, sl_tup, sl_ro, stays_tup, stays_ro, at_0, at_1, gc_ai, gc_aai, gc_aaai, gc_ab, gc_aab, gc_aaab, gc_an, gc_aan, gc_aaan, gc_same, wipe_nil, wipe_cons, sz_0, sz_1, sz_2, sz_3, sz_4, sz_5, sz_6, sz_7, sz_8, sz_9, sz_10, runDef, runFull, Def.full, startD, List.length_cons, List.length_nil, List.map_cons, List.map_nil, List.append_nil, List.nil_append, List.cons_append, List.drop_nil, List.drop_zero, List.drop_succ_cons, List.set_cons_zero, List.set_cons_succ, List.replicate, if_true, if_false, Bool.not_true, Bool.not_false, Bool.true_or, Bool.false_or, Option.map_some, Option.map_none, Nat.zero_add, Nat.add_zero, Nat.sub_self, Nat.reduceAdd, Nat.reduceSub, ↓reduceIte, Bool.and_true, Bool.true_and, Bool.false_and, Bool.and_false, Int.cast_ofNat_Int, decide_true, decide_false, Int.reduceEq, Int.reduceLT, Int.reduceLE, Bool.false_eq_true, List.append_assoc, List.length_append, lk_app, lk_app0, lk_sapp, lk_sapp0, lk_z, lk_s, st_app, st_app0, st_sapp, st_sapp0, len_set, set_set, sq_lk, ix_lk, sl_lk, len_lk, tuple_lk, list_lk, list_tup, ty_lk, stays_lk, set_lk, add_lk, app_lk, ext_lk, clear_lk, recv_lk, get2_lk, tr_lk, gp_0, gp_1, gp_2, gp_3, gp_4, gp_5, gp_6, gp_7, gp_8, ko_n, ko_s, ko_p, gq_1, gq_2, gq_3, gq_4, gq_5, gq_6, gq_7, gq_8, gq_9, gq_10, gq_11, gq_12, gq_13, gq_14, gq_15, gq_16, gcR, Nat.lt_irrefl, Nat.not_lt_zero, List.take_succ_cons, List.take_zero, List.take_nil, D.beqL_self, at_2, at_3, ixN, Nat.reduceLT, Nat.reduceLeDiff, Int.reduceToNat, Int.reduceNeg, Int.reduceSub, Int.reduceAdd, Int.reduceMul, sz_lt, Int.zero_add, mod_int, pr_int, pr_bl, pr_non, pr_str, pr_tup, pr_nil, pr_cons, pr_lst, pr_ints, pr_prs, pr_app, pr_kD, mt_1, mt_2, mt_3, mt_4, mt_5, mt_6, mt_7, rev_lk, max_lk, min_lk, sum_lk, any_lk, all_lk, count_lk, index_lk, pop_lk, eq_D, ne_D, eqD_ll, eqD_tt, eqL_ll, eqS_same, eqS_nil, eqS_ints, eqD_ii, eqD_kk, py_app, py_nil, py_cons, py_ints, py_int, py_bl, py_non, py_kD, py_links, py_prs, py_mapi, pr_mapi, pr_linksT, gt_np, pr_loc, pr_stps, pr_stp, aug_add, aug_sub, ko_app, take_left', len_aa, lcS, ite_b, bnd_if, seqF_if, out_if, bopB_and, bopB_or, bopD_and, bopD_or, if_same_bool, if_bf, if_bx, if_xt, prD, lpM]))
  subst e
  clear hX
  obtain ⟨t3, c3, z1⟩ := tree_of_of k (S := S ++ tw.map lpM ++ [.lst ((List.range' S.length tw.length).map D.loc)]) (v := .loc (S ++ tw.map lpM).length) (tw := tw) ⟨⟨_, by rw [sq_lk, lk_app0]; rfl, TwL_locs⟩, hf, by omega⟩ hl
  cases c.uniq c3
  rw [List.append_assoc, List.length_append, List.length_map] at z1
  simp only [bnd_some, bnd_none, opt_some, opt_none, seqF_next, seqF_brk, seqF_cnt, seqF_ret, ts_nil, ts_cons, out_ret, out_next, ite_t, ite_f, bop_and_t, bop_and_f, bop_or_t, bop_or_f, bb_and_t, bb_and_f, bb_or_t, bb_or_f, slot_0, slot_s, e_con, b_con, e_var, b_var, e_glo, b_glo, e_tup, b_tup, e_lst, b_lst, e_dct, b_dct, e_op, b_op, e_neg, b_neg, e_not, b_not, e_bop, b_bop, e_cmp, b_cmp, e_chn, b_chn, e_ifx, b_ifx, e_ix, b_ix, e_sl, b_sl, e_call, b_call, e_callK, e_fnv, e_callL, fnIx_fn, e_bi, b_bi, e_mxd, b_mxd, e_isi, b_isi, e_isl, b_isl, e_lrg, b_lrg, e_mt, b_mt, e_lc, b_lc, e_rev, b_rev, e_gtp, e_lrg1, i_rng3, bop_1, bop_2, bb_1, bb_2, es_nil, es_cons, eo_none, eo_some, if_none, if_some, i_ex, i_rng1, i_rng2, i_enm, q_nm, q_tp, q_sb, setK_some, qs_nil, qs_cons, t_asg, t_aug, t_ex, t_ret, t_retN, t_iff, t_fr, t_whl, t_brk, t_cnt, t_pas, con_none, con_bool, con_int, con_str, neg_int, not_bl, int_int, add_int, sub_int, lt_int, le_int, gt_int, ge_int, eq_int, ne_int, is_nn, is_in, is_bb, isn_nn, isn_in, isn_bb, tr_non, tr_bl, tr_int, ty_non, ty_bl, ty_int, ty_tup, ty_ro, isa_int_int, isa_int_bool, isa_int_list, isa_int_tuple, isa_list_list, isa_list_tuple, isa_tuple_list, isa_tuple_tuple, sq_tup, sq_ro, bi_int_int, bi_int_bl, bi_tuple_tup, bi_min, bi_max, bi_len_tup, bi_len_ro, ix_tup, ix_ro, sl_tup, sl_ro, stays_tup, stays_ro, at_0, at_1, gc_ai, gc_aai, gc_aaai, gc_ab, gc_aab, gc_aaab, gc_an, gc_aan, gc_aaan, gc_same, wipe_nil, wipe_cons, sz_0, sz_1, sz_2, sz_3, sz_4, sz_5, sz_6, sz_7, sz_8, sz_9, sz_10, runDef, runFull, Def.full, startD, List.length_cons, List.length_nil, List.map_cons, List.map_nil, List.append_nil, List.nil_append, List.cons_append, List.drop_nil, List.drop_zero, List.drop_succ_cons, List.set_cons_zero, List.set_cons_succ, List.replicate, if_true, if_false, Bool.not_true, Bool.not_false, Bool.true_or, Bool.false_or, Option.map_some, Option.map_none, Nat.zero_add, Nat.add_zero, Nat.sub_self, Nat.reduceAdd, Nat.reduceSub, ↓reduceIte, Bool.and_true, Bool.true_and, Bool.false_and, Bool.and_false, Int.cast_ofNat_Int, decide_true, decide_false, Int.reduceEq, Int.reduceLT, Int.reduceLE, Bool.false_eq_true, List.append_assoc, List.length_append, lk_app, lk_app0, lk_sapp, lk_sapp0, lk_z, lk_s, st_app, st_app0, st_sapp, st_sapp0, len_set, set_set, sq_lk, ix_lk, sl_lk, len_lk, tuple_lk, list_lk, list_tup, ty_lk, stays_lk, set_lk, add_lk, app_lk, ext_lk, clear_lk, recv_lk, get2_lk, tr_lk, gp_0, gp_1, gp_2, gp_3, gp_4, gp_5, gp_6, gp_7, gp_8, ko_n, ko_s, ko_p, gq_1, gq_2, gq_3, gq_4, gq_5, gq_6, gq_7, gq_8, gq_9, gq_10, gq_11, gq_12, gq_13, gq_14, gq_15, gq_16, gcR, Nat.lt_irrefl, Nat.not_lt_zero, List.take_succ_cons, List.take_zero, List.take_nil, D.beqL_self, at_2, at_3, ixN, Nat.reduceLT, Nat.reduceLeDiff, Int.reduceToNat, Int.reduceNeg, Int.reduceSub, Int.reduceAdd, Int.reduceMul, sz_lt, Int.zero_add, mod_int, pr_int, pr_bl, pr_non, pr_str, pr_tup, pr_nil, pr_cons, pr_lst, pr_ints, pr_prs, pr_app, pr_kD, mt_1, mt_2, mt_3, mt_4, mt_5, mt_6, mt_7, rev_lk, max_lk, min_lk, sum_lk, any_lk, all_lk, count_lk, index_lk, pop_lk, eq_D, ne_D, eqD_ll, eqD_tt, eqL_ll, eqS_same, eqS_nil, eqS_ints, eqD_ii, eqD_kk, py_app, py_nil, py_cons, py_ints, py_int, py_bl, py_non, py_kD, py_links, py_prs, py_mapi, pr_mapi, pr_linksT, gt_np, pr_loc, pr_stps, pr_stp, aug_add, aug_sub, ko_app, take_left', len_aa, z1, pr_trD, eqt, e3, e4, e5, g5, e6, e7, e8, e9, eqs, eqr, h, pr_shD, List.length_map]
end K72

end

section
set_option maxHeartbeats 2000000
namespace K72
open PySem PySem.Spec Mi
open L2 (atI ixN Key)
theorem longer_of (k : Nat) {m : Nat} {S : Store} {rows : List (List Int)} (h : lk S m = some (.lst (rows.map rwD))) (hl : rows.length ≤ 729) (hr : ∀ q ∈ rows, q.length ≤ 10 ∧ ∀ x ∈ q, 1 ≤ x) :
    ∃ rows' : List (List Int), orc defs (k + 1) 15 [.loc m, .int 3] S = some (.loc S.length, S ++ [.lst (rows'.map rwD)]) ∧ rows'.length ≤ 3 * rows.length ∧ ∀ q ∈ rows', ∃ p ∈ rows, q.length = p.length + 1 ∧ ∀ x ∈ q, 1 ≤ x := by
  rw [orc_at (d := d__law_longer) rfl]
  have hO : ∀ L, lk (S ++ L) m = some (.lst (rows.map rwD)) := fun L => lk_old h
  have er3 : rngD 1 4 = some ⟨(rangeI 1 3).map D.int, fun _ => true⟩ := rng_small (by omega) (by omega) (by omega) (by omega)
  simp only [d__law_longer, b__law_longer, bnd_some, bnd_none, opt_some, opt_none, seqF_next, seqF_brk, seqF_cnt, seqF_ret, ts_nil, ts_cons, out_ret, out_next, ite_t, ite_f, bop_and_t, bop_and_f, bop_or_t, bop_or_f, bb_and_t, bb_and_f, bb_or_t, bb_or_f, slot_0, slot_s, e_con, b_con, e_var, b_var, e_glo, b_glo, e_tup, b_tup, e_lst, b_lst, e_dct, b_dct, e_op, b_op, e_neg, b_neg, e_not, b_not, e_bop, b_bop, e_cmp, b_cmp, e_chn, b_chn, e_ifx, b_ifx, e_ix, b_ix, e_sl, b_sl, e_call, b_call, e_callK, e_fnv, e_callL, fnIx_fn, e_bi, b_bi, e_mxd, b_mxd, e_isi, b_isi, e_isl, b_isl, e_lrg, b_lrg, e_mt, b_mt, e_lc, b_lc, e_rev, b_rev, e_gtp, e_lrg1, i_rng3, bop_1, bop_2, bb_1, bb_2, es_nil, es_cons, eo_none, eo_some, if_none, if_some, i_ex, i_rng1, i_rng2, i_enm, q_nm, q_tp, q_sb, setK_some, qs_nil, qs_cons, t_asg, t_aug, t_ex, t_ret, t_retN, t_iff, t_fr, t_whl, t_brk, t_cnt, t_pas, con_none, con_bool, con_int, con_str, neg_int, not_bl, int_int, add_int, sub_int, lt_int, le_int, gt_int, ge_int, eq_int, ne_int, is_nn, is_in, is_bb, isn_nn, isn_in, isn_bb, tr_non, tr_bl, tr_int, ty_non, ty_bl, ty_int, ty_tup, ty_ro, isa_int_int, isa_int_bool, isa_int_list, isa_int_tuple, isa_list_list, isa_list_tuple, isa_tuple_list, isa_tuple_tuple, sq_tup, sq_ro, bi_int_int, bi_int_bl, bi_tuple_tup, bi_min, bi_max, bi_len_tup, bi_len_ro, ix_tup, ix_ro, sl_tup, sl_ro, stays_tup, stays_ro, at_0, at_1, gc_ai, gc_aai, gc_aaai, gc_ab, gc_aab, gc_aaab, gc_an, gc_aan, gc_aaan, gc_same, wipe_nil, wipe_cons, sz_0, sz_1, sz_2, sz_3, sz_4, sz_5, sz_6, sz_7, sz_8, sz_9, sz_10, runDef, runFull, Def.full, startD, List.length_cons, List.length_nil, List.map_cons, List.map_nil, List.append_nil, List.nil_append, List.cons_append, List.drop_nil, List.drop_zero, List.drop_succ_cons, List.set_cons_zero, List.set_cons_succ, List.replicate, if_true, if_false, Bool.not_true, Bool.not_false, Bool.true_or, Bool.false_or, Option.map_some, Option.map_none, Nat.zero_add, Nat.add_zero, Nat.sub_self, Nat.reduceAdd, Nat.reduceSub, ↓reduceIte, Bool.and_true, Bool.true_and, Bool.false_and, Bool.and_false, Int.cast_ofNat_Int, decide_true, decide_false, Int.reduceEq, Int.reduceLT, Int.reduceLE, Bool.false_eq_true, List.append_assoc, List.length_append, lk_app, lk_app0, lk_sapp, lk_sapp0, lk_z, lk_s, st_app, st_app0, st_sapp, st_sapp0, len_set, set_set, sq_lk, ix_lk, sl_lk, len_lk, tuple_lk, list_lk, list_tup, ty_lk, stays_lk, set_lk, add_lk, app_lk, ext_lk, clear_lk, recv_lk, get2_lk, tr_lk, gp_0, gp_1, gp_2, gp_3, gp_4, gp_5, gp_6, gp_7, gp_8, ko_n, ko_s, ko_p, gq_1, gq_2, gq_3, gq_4, gq_5, gq_6, gq_7, gq_8, gq_9, gq_10, gq_11, gq_12, gq_13, gq_14, gq_15, gq_16, gcR, Nat.lt_irrefl, Nat.not_lt_zero, List.take_succ_cons, List.take_zero, List.take_nil, D.beqL_self, at_2, at_3, ixN, Nat.reduceLT, Nat.reduceLeDiff, Int.reduceToNat, Int.reduceNeg, Int.reduceSub, Int.reduceAdd, Int.reduceMul, sz_lt, Int.zero_add, mod_int, pr_int, pr_bl, pr_non, pr_str, pr_tup, pr_nil, pr_cons, pr_lst, pr_ints, pr_prs, pr_app, pr_kD, mt_1, mt_2, mt_3, mt_4, mt_5, mt_6, mt_7, rev_lk, max_lk, min_lk, sum_lk, any_lk, all_lk, count_lk, index_lk, pop_lk, eq_D, ne_D, eqD_ll, eqD_tt, eqL_ll, eqS_same, eqS_nil, eqS_ints, eqD_ii, eqD_kk, py_app, py_nil, py_cons, py_ints, py_int, py_bl, py_non, py_kD, py_links, py_prs, py_mapi, pr_mapi, pr_linksT, gt_np, pr_loc, pr_stps, pr_stp, aug_add, aug_sub, ko_app, take_left', len_aa, hO]
  generalize hX : forD _ _ _ _ _ _ = X
  have key := for_M hX (fun rs σ U => ∃ (acc : List (List Int)) (z w : Option D), σ = [some (.loc m), some (.int 3), some (.loc S.length), z, w] ∧ U = S ++ [.lst (acc.map rwD)] ∧ (∀ q ∈ acc, ∃ p ∈ rows, q.length = p.length + 1 ∧ ∀ x ∈ q, 1 ≤ x) ∧ acc.length + 3 * rs.length ≤ 3 * rows.length ∧ ∀ q ∈ rs, q ∈ rows)
    (fun X => ∃ (acc : List (List Int)) (z w : Option D), X = some (.next [some (.loc m), some (.int 3), some (.loc S.length), z, w], S ++ [.lst (acc.map rwD)]) ∧ (∀ q ∈ acc, ∃ p ∈ rows, q.length = p.length + 1 ∧ ∀ x ∈ q, 1 ≤ x) ∧ acc.length ≤ 3 * rows.length) ⟨[], _, _, rfl, rfl, (fun q hq => by cases hq), by simp, fun q hq => hq⟩ ?_ ?_
  · obtain ⟨acc, z, w, rfl, g1, g2⟩ := key
    refine ⟨acc, ?_, g2, g1⟩
    simp only [bnd_some, bnd_none, opt_some, opt_none, seqF_next, seqF_brk, seqF_cnt, seqF_ret, ts_nil, ts_cons, out_ret, out_next, ite_t, ite_f, bop_and_t, bop_and_f, bop_or_t, bop_or_f, bb_and_t, bb_and_f, bb_or_t, bb_or_f, slot_0, slot_s, e_con, b_con, e_var, b_var, e_glo, b_glo, e_tup, b_tup, e_lst, b_lst, e_dct, b_dct, e_op, b_op, e_neg, b_neg, e_not, b_not, e_bop, b_bop, e_cmp, b_cmp, e_chn, b_chn, e_ifx, b_ifx, e_ix, b_ix, e_sl, b_sl, e_call, b_call, e_callK, e_fnv, e_callL, fnIx_fn, e_bi, b_bi, e_mxd, b_mxd, e_isi, b_isi, e_isl, b_isl, e_lrg, b_lrg, e_mt, b_mt, e_lc, b_lc, e_rev, b_rev, e_gtp, e_lrg1, i_rng3, bop_1, bop_2, bb_1, bb_2, es_nil, es_cons, eo_none, eo_some, if_none, if_some, i_ex, i_rng1, i_rng2, i_enm, q_nm, q_tp, q_sb, setK_some, qs_nil, qs_cons, t_asg, t_aug, t_ex, t_ret, t_retN, t_iff, t_fr, t_whl, t_brk, t_cnt, t_pas, con_none, con_bool, con_int, con_str, neg_int, not_bl, int_int, add_int, sub_int, lt_int, le_int, gt_int, ge_int, eq_int, ne_int, is_nn, is_in, is_bb, isn_nn, isn_in, isn_bb, tr_non, tr_bl, tr_int, ty_non, ty_bl, ty_int, ty_tup, ty_ro, isa_int_int, isa_int_bool, isa_int_list, isa_int_tuple, isa_list_list, isa_list_tuple, isa_tuple_list, isa_tuple_tuple, sq_tup, sq_ro, bi_int_int, bi_int_bl, bi_tuple_tup, bi_min, bi_max, bi_len_tup, bi_len_ro, ix_tup, ix_ro, sl_tup, sl_ro, stays_tup, stays_ro, at_0, at_1, gc_ai, gc_aai, gc_aaai, gc_ab, gc_aab, gc_aaab, gc_an, gc_aan, gc_aaan, gc_same, wipe_nil, wipe_cons, sz_0, sz_1, sz_2, sz_3, sz_4, sz_5, sz_6, sz_7, sz_8, sz_9, sz_10, runDef, runFull, Def.full, startD, List.length_cons, List.length_nil, List.map_cons, List.map_nil, List.append_nil, List.nil_append, List.cons_append, List.drop_nil, List.drop_zero, List.drop_succ_cons, List.set_cons_zero, List.set_cons_succ, List.replicate, if_true, if_false, Bool.not_true, Bool.not_false, Bool.true_or, Bool.false_or, Option.map_some, Option.map_none, Nat.zero_add, Nat.add_zero, Nat.sub_self, Nat.reduceAdd, Nat.reduceSub, ↓reduceIte, Bool.and_true, Bool.true_and, Bool.false_and, Bool.and_false, Int.cast_ofNat_Int, decide_true, decide_false, Int.reduceEq, Int.reduceLT, Int.reduceLE, Bool.false_eq_true, List.append_assoc, List.length_append, lk_app, lk_app0, lk_sapp, lk_sapp0, lk_z, lk_s, st_app, st_app0, st_sapp, st_sapp0, len_set, set_set, sq_lk, ix_lk, sl_lk, len_lk, tuple_lk, list_lk, list_tup, ty_lk, stays_lk, set_lk, add_lk, app_lk, ext_lk, clear_lk, recv_lk, get2_lk, tr_lk, gp_0, gp_1, gp_2, gp_3, gp_4, gp_5, gp_6, gp_7, gp_8, ko_n, ko_s, ko_p, gq_1, gq_2, gq_3, gq_4, gq_5, gq_6, gq_7, gq_8, gq_9, gq_10, gq_11, gq_12, gq_13, gq_14, gq_15, gq_16, gcR, Nat.lt_irrefl, Nat.not_lt_zero, List.take_succ_cons, List.take_zero, List.take_nil, D.beqL_self, at_2, at_3, ixN, Nat.reduceLT, Nat.reduceLeDiff, Int.reduceToNat, Int.reduceNeg, Int.reduceSub, Int.reduceAdd, Int.reduceMul, sz_lt, Int.zero_add, mod_int, pr_int, pr_bl, pr_non, pr_str, pr_tup, pr_nil, pr_cons, pr_lst, pr_ints, pr_prs, pr_app, pr_kD, mt_1, mt_2, mt_3, mt_4, mt_5, mt_6, mt_7, rev_lk, max_lk, min_lk, sum_lk, any_lk, all_lk, count_lk, index_lk, pop_lk, eq_D, ne_D, eqD_ll, eqD_tt, eqL_ll, eqS_same, eqS_nil, eqS_ints, eqD_ii, eqD_kk, py_app, py_nil, py_cons, py_ints, py_int, py_bl, py_non, py_kD, py_links, py_prs, py_mapi, pr_mapi, pr_linksT, gt_np, pr_loc, pr_stps, pr_stp, aug_add, aug_sub, ko_app, take_left', len_aa, pr_rows]
  · rintro σ U ⟨acc, z, w, rfl, rfl, g1, g2, -⟩
    exact ⟨by rw [stays_lk, hO]; exact D.beqL_self _, acc, z, w, rfl, g1, by simpa using g2⟩
  · clear hX X
    rintro q rs σ U ⟨acc, z, w, rfl, rfl, g1, g2, g3⟩
    refine ⟨by rw [stays_lk, hO]; exact D.beqL_self _, ?_⟩
    have hq := hr q (g3 q (List.mem_cons_self ..))
    simp only [List.length_cons] at g2
    have hz : q.length + 1 ≤ sizeLine := le_size (by omega)
    simp only [bnd_some, bnd_none, opt_some, opt_none, seqF_next, seqF_brk, seqF_cnt, seqF_ret, ts_nil, ts_cons, out_ret, out_next, ite_t, ite_f, bop_and_t, bop_and_f, bop_or_t, bop_or_f, bb_and_t, bb_and_f, bb_or_t, bb_or_f, slot_0, slot_s, e_con, b_con, e_var, b_var, e_glo, b_glo, e_tup, b_tup, e_lst, b_lst, e_dct, b_dct, e_op, b_op, e_neg, b_neg, e_not, b_not, e_bop, b_bop, e_cmp, b_cmp, e_chn, b_chn, e_ifx, b_ifx, e_ix, b_ix, e_sl, b_sl, e_call, b_call, e_callK, e_fnv, e_callL, fnIx_fn, e_bi, b_bi, e_mxd, b_mxd, e_isi, b_isi, e_isl, b_isl, e_lrg, b_lrg, e_mt, b_mt, e_lc, b_lc, e_rev, b_rev, e_gtp, e_lrg1, i_rng3, bop_1, bop_2, bb_1, bb_2, es_nil, es_cons, eo_none, eo_some, if_none, if_some, i_ex, i_rng1, i_rng2, i_enm, q_nm, q_tp, q_sb, setK_some, qs_nil, qs_cons, t_asg, t_aug, t_ex, t_ret, t_retN, t_iff, t_fr, t_whl, t_brk, t_cnt, t_pas, con_none, con_bool, con_int, con_str, neg_int, not_bl, int_int, add_int, sub_int, lt_int, le_int, gt_int, ge_int, eq_int, ne_int, is_nn, is_in, is_bb, isn_nn, isn_in, isn_bb, tr_non, tr_bl, tr_int, ty_non, ty_bl, ty_int, ty_tup, ty_ro, isa_int_int, isa_int_bool, isa_int_list, isa_int_tuple, isa_list_list, isa_list_tuple, isa_tuple_list, isa_tuple_tuple, sq_tup, sq_ro, bi_int_int, bi_int_bl, bi_tuple_tup, bi_min, bi_max, bi_len_tup, bi_len_ro, ix_tup, ix_ro, sl_tup, sl_ro, stays_tup, stays_ro, at_0, at_1, gc_ai, gc_aai, gc_aaai, gc_ab, gc_aab, gc_aaab, gc_an, gc_aan, gc_aaan, gc_same, wipe_nil, wipe_cons, sz_0, sz_1, sz_2, sz_3, sz_4, sz_5, sz_6, sz_7, sz_8, sz_9, sz_10, runDef, runFull, Def.full, startD, List.length_cons, List.length_nil, List.map_cons, List.map_nil, List.append_nil, List.nil_append, List.cons_append, List.drop_nil, List.drop_zero, List.drop_succ_cons, List.set_cons_zero, List.set_cons_succ, List.replicate, if_true, if_false, Bool.not_true, Bool.not_false, Bool.true_or, Bool.false_or, Option.map_some, Option.map_none, Nat.zero_add, Nat.add_zero, Nat.sub_self, Nat.reduceAdd, Nat.reduceSub, ↓reduceIte, Bool.and_true, Bool.true_and, Bool.false_and, Bool.and_false, Int.cast_ofNat_Int, decide_true, decide_false, Int.reduceEq, Int.reduceLT, Int.reduceLE, Bool.false_eq_true, List.append_assoc, List.length_append, lk_app, lk_app0, lk_sapp, lk_sapp0, lk_z, lk_s, st_app, st_app0, st_sapp, st_sapp0, len_set, set_set, sq_lk, ix_lk, sl_lk, len_lk, tuple_lk, list_lk, list_tup, ty_lk, stays_lk, set_lk, add_lk, app_lk, ext_lk, clear_lk, recv_lk, get2_lk, tr_lk, gp_0, gp_1, gp_2, gp_3, gp_4, gp_5, gp_6, gp_7, gp_8, ko_n, ko_s, ko_p, gq_1, gq_2, gq_3, gq_4, gq_5, gq_6, gq_7, gq_8, gq_9, gq_10, gq_11, gq_12, gq_13, gq_14, gq_15, gq_16, gcR, Nat.lt_irrefl, Nat.not_lt_zero, List.take_succ_cons, List.take_zero, List.take_nil, D.beqL_self, at_2, at_3, ixN, Nat.reduceLT, Nat.reduceLeDiff, Int.reduceToNat, Int.reduceNeg, Int.reduceSub, Int.reduceAdd, Int.reduceMul, sz_lt, Int.zero_add, mod_int, pr_int, pr_bl, pr_non, pr_str, pr_tup, pr_nil, pr_cons, pr_lst, pr_ints, pr_prs, pr_app, pr_kD, mt_1, mt_2, mt_3, mt_4, mt_5, mt_6, mt_7, rev_lk, max_lk, min_lk, sum_lk, any_lk, all_lk, count_lk, index_lk, pop_lk, eq_D, ne_D, eqD_ll, eqD_tt, eqL_ll, eqS_same, eqS_nil, eqS_ints, eqD_ii, eqD_kk, py_app, py_nil, py_cons, py_ints, py_int, py_bl, py_non, py_kD, py_links, py_prs, py_mapi, pr_mapi, pr_linksT, gt_np, pr_loc, pr_stps, pr_stp, aug_add, aug_sub, ko_app, take_left', len_aa, er3, rwD]
    generalize hX : lcD _ _ _ _ _ _ _ = X
    have e := lc_f (fun h => rwD (q ++ [h])) hX rfl (le_size (by rw [rangeI_len]; simp)) (fun h hh => by simp only [bnd_some, bnd_none, opt_some, opt_none, seqF_next, seqF_brk, seqF_cnt, seqF_ret, ts_nil, ts_cons, out_ret, out_next, ite_t, ite_f, bop_and_t, bop_and_f, bop_or_t, bop_or_f, bb_and_t, bb_and_f, bb_or_t, bb_or_f, slot_0, slot_s, e_con, b_con, e_var, b_var, e_glo, b_glo, e_tup, b_tup, e_lst, b_lst, e_dct, b_dct, e_op, b_op, e_neg, b_neg, e_not, b_not, e_bop, b_bop, e_cmp, b_cmp, e_chn, b_chn, e_ifx, b_ifx, e_ix, b_ix, e_sl, b_sl, e_call, b_call, e_callK, e_fnv, e_callL, fnIx_fn, e_bi, b_bi, e_mxd, b_mxd, e_isi, b_isi, e_isl, b_isl, e_lrg, b_lrg, e_mt, b_mt, e_lc, b_lc, e_rev, b_rev, e_gtp, e_lrg1, i_rng3, bop_1, bop_2, bb_1, bb_2, es_nil, es_cons, eo_none, eo_some, if_none, if_some, i_ex, i_rng1, i_rng2, i_enm, q_nm, q_tp, q_sb, setK_some, qs_nil, qs_cons, t_asg, t_aug, t_ex, t_ret, t_retN, t_iff, t_fr, t_whl, t_brk, t_cnt, t_pas, con_none, con_bool, con_int, con_str, neg_int, not_bl, int_int, add_int, sub_int, lt_int, le_int, gt_int, ge_int, eq_int, ne_int, is_nn, is_in, is_bb, isn_nn, isn_in, isn_bb, tr_non, tr_bl, tr_int, ty_non, ty_bl, ty_int, ty_tup, ty_ro, isa_int_int, isa_int_bool, isa_int_list, isa_int_tuple, isa_list_list, isa_list_tuple, isa_tuple_list, isa_tuple_tuple, sq_tup, sq_ro, bi_int_int, bi_int_bl, bi_tuple_tup, bi_min, bi_max, bi_len_tup, bi_len_ro, ix_tup, ix_ro, sl_tup, sl_ro, stays_tup, stays_ro, at_0, at_1, gc_ai, gc_aai, gc_aaai, gc_ab, gc_aab, gc_aaab, gc_an, gc_aan, gc_aaan, gc_same, wipe_nil, wipe_cons, sz_0, sz_1, sz_2, sz_3, sz_4, sz_5, sz_6, sz_7, sz_8, sz_9, sz_10, runDef, runFull, Def.full, startD, List.length_cons, List.length_nil, List.map_cons, List.map_nil, List.append_nil, List.nil_append, List.cons_append, List.drop_nil, List.drop_zero, List.drop_succ_cons, List.set_cons_zero, List.set_cons_succ, List.replicate, if_true, if_false, Bool.not_true, Bool.not_false, Bool.true_or, Bool.false_or, Option.map_some, Option.map_none, Nat.zero_add, Nat.add_zero, Nat.sub_self, Nat.reduceAdd, Nat.reduceSub, ↓reduceIte, Bool.and_true, Bool.true_and, Bool.false_and, Bool.and_false, Int.cast_ofNat_Int, decide_true, decide_false, Int.reduceEq, Int.reduceLT, Int.reduceLE, Bool.false_eq_true, List.append_assoc, List.length_append, lk_app, lk_app0, lk_sapp, lk_sapp0, lk_z, lk_s, st_app, st_app0, st_sapp, st_sapp0, len_set, set_set, sq_lk, ix_lk, sl_lk, len_lk, tuple_lk, list_lk, list_tup, ty_lk, stays_lk, set_lk, add_lk, app_lk, ext_lk, clear_lk, recv_lk, get2_lk, tr_lk, gp_0, gp_1, gp_2, gp_3, gp_4, gp_5, gp_6, gp_7, gp_8, ko_n, ko_s, ko_p, gq_1, gq_2, gq_3, gq_4, gq_5, gq_6, gq_7, gq_8, gq_9, gq_10, gq_11, gq_12, gq_13, gq_14, gq_15, gq_16, gcR, Nat.lt_irrefl, Nat.not_lt_zero, List.take_succ_cons, List.take_zero, List.take_nil, D.beqL_self, at_2, at_3, ixN, Nat.reduceLT, Nat.reduceLeDiff, Int.reduceToNat, Int.reduceNeg, Int.reduceSub, Int.reduceAdd, Int.reduceMul, sz_lt, Int.zero_add, mod_int, pr_int, pr_bl, pr_non, pr_str, pr_tup, pr_nil, pr_cons, pr_lst, pr_ints, pr_prs, pr_app, pr_kD, mt_1, mt_2, mt_3, mt_4, mt_5, mt_6, mt_7, rev_lk, max_lk, min_lk, sum_lk, any_lk, all_lk, count_lk, index_lk, pop_lk, eq_D, ne_D, eqD_ll, eqD_tt, eqL_ll, eqS_same, eqS_nil, eqS_ints, eqD_ii, eqD_kk, py_app, py_nil, py_cons, py_ints, py_int, py_bl, py_non, py_kD, py_links, py_prs, py_mapi, pr_mapi, pr_linksT, gt_np, pr_loc, pr_stps, pr_stp, aug_add, aug_sub, ko_app, take_left', len_aa, lcS, ite_b, bnd_if, seqF_if, out_if, bopB_and, bopB_or, bopD_and, bopD_or, if_same_bool, if_bf, if_bx, if_xt, add_tt, List.length_map, hz, rwD, List.map_append])
    subst e
    have em : (rangeI 1 3).map (fun h => rwD (q ++ [h])) = ((rangeI 1 3).map (fun h => q ++ [h])).map rwD := by rw [List.map_map]; rfl
    have hz2 : acc.length + 3 ≤ sizeLine := le_size (by omega)
    have em2 : acc.map (fun r => D.tup (r.map D.int)) = acc.map rwD := rfl
    simp only [bnd_some, bnd_none, opt_some, opt_none, seqF_next, seqF_brk, seqF_cnt, seqF_ret, ts_nil, ts_cons, out_ret, out_next, ite_t, ite_f, bop_and_t, bop_and_f, bop_or_t, bop_or_f, bb_and_t, bb_and_f, bb_or_t, bb_or_f, slot_0, slot_s, e_con, b_con, e_var, b_var, e_glo, b_glo, e_tup, b_tup, e_lst, b_lst, e_dct, b_dct, e_op, b_op, e_neg, b_neg, e_not, b_not, e_bop, b_bop, e_cmp, b_cmp, e_chn, b_chn, e_ifx, b_ifx, e_ix, b_ix, e_sl, b_sl, e_call, b_call, e_callK, e_fnv, e_callL, fnIx_fn, e_bi, b_bi, e_mxd, b_mxd, e_isi, b_isi, e_isl, b_isl, e_lrg, b_lrg, e_mt, b_mt, e_lc, b_lc, e_rev, b_rev, e_gtp, e_lrg1, i_rng3, bop_1, bop_2, bb_1, bb_2, es_nil, es_cons, eo_none, eo_some, if_none, if_some, i_ex, i_rng1, i_rng2, i_enm, q_nm, q_tp, q_sb, setK_some, qs_nil, qs_cons, t_asg, t_aug, t_ex, t_ret, t_retN, t_iff, t_fr, t_whl, t_brk, t_cnt, t_pas, con_none, con_bool, con_int, con_str, neg_int, not_bl, int_int, add_int, sub_int, lt_int, le_int, gt_int, ge_int, eq_int, ne_int, is_nn, is_in, is_bb, isn_nn, isn_in, isn_bb, tr_non, tr_bl, tr_int, ty_non, ty_bl, ty_int, ty_tup, ty_ro, isa_int_int, isa_int_bool, isa_int_list, isa_int_tuple, isa_list_list, isa_list_tuple, isa_tuple_list, isa_tuple_tuple, sq_tup, sq_ro, bi_int_int, bi_int_bl, bi_tuple_tup, bi_min, bi_max, bi_len_tup, bi_len_ro, ix_tup, ix_ro, sl_tup, sl_ro, stays_tup, stays_ro, at_0, at_1, gc_ai, gc_aai, gc_aaai, gc_ab, gc_aab, gc_aaab, gc_an, gc_aan, gc_aaan, gc_same, wipe_nil, wipe_cons, sz_0, sz_1, sz_2, sz_3, sz_4, sz_5, sz_6, sz_7, sz_8, sz_9, sz_10, runDef, runFull, Def.full, startD, List.length_cons, List.length_nil, List.map_cons, List.map_nil, List.append_nil, List.nil_append, List.cons_append, List.drop_nil, List.drop_zero, List.drop_succ_cons, List.set_cons_zero, List.set_cons_succ, List.replicate, if_true, if_false, Bool.not_true, Bool.not_false, Bool.true_or, Bool.false_or, Option.map_some, Option.map_none, Nat.zero_add, Nat.add_zero, Nat.sub_self, Nat.reduceAdd, Nat.reduceSub, ↓reduceIte, Bool.and_true, Bool.true_and, Bool.false_and, Bool.and_false, Int.cast_ofNat_Int, decide_true, decide_false, Int.reduceEq, Int.reduceLT, Int.reduceLE, Bool.false_eq_true, List.append_assoc, List.length_append, lk_app, lk_app0, lk_sapp, lk_sapp0, lk_z, lk_s, st_app, st_app0, st_sapp, st_sapp0, len_set, set_set, sq_lk, ix_lk, sl_lk, len_lk, tuple_lk, list_lk, list_tup, ty_lk, stays_lk, set_lk, add_lk, app_lk, ext_lk, clear_lk, recv_lk, get2_lk, tr_lk, gp_0, gp_1, gp_2, gp_3, gp_4, gp_5, gp_6, gp_7, gp_8, ko_n, ko_s, ko_p, gq_1, gq_2, gq_3, gq_4, gq_5, gq_6, gq_7, gq_8, gq_9, gq_10, gq_11, gq_12, gq_13, gq_14, gq_15, gq_16, gcR, Nat.lt_irrefl, Nat.not_lt_zero, List.take_succ_cons, List.take_zero, List.take_nil, D.beqL_self, at_2, at_3, ixN, Nat.reduceLT, Nat.reduceLeDiff, Int.reduceToNat, Int.reduceNeg, Int.reduceSub, Int.reduceAdd, Int.reduceMul, sz_lt, Int.zero_add, mod_int, pr_int, pr_bl, pr_non, pr_str, pr_tup, pr_nil, pr_cons, pr_lst, pr_ints, pr_prs, pr_app, pr_kD, mt_1, mt_2, mt_3, mt_4, mt_5, mt_6, mt_7, rev_lk, max_lk, min_lk, sum_lk, any_lk, all_lk, count_lk, index_lk, pop_lk, eq_D, ne_D, eqD_ll, eqD_tt, eqL_ll, eqS_same, eqS_nil, eqS_ints, eqD_ii, eqD_kk, py_app, py_nil, py_cons, py_ints, py_int, py_bl, py_non, py_kD, py_links, py_prs, py_mapi, pr_mapi, pr_linksT, gt_np, pr_loc, pr_stps, pr_stp, aug_add, aug_sub, ko_app, take_left', len_aa, em, em2, List.length_map, rangeI_len, hz2, pr_rows]
    refine ⟨acc ++ (rangeI 1 3).map (fun h => q ++ [h]), _, _, rfl, ?_, fun p hp => ?_, ?_, fun p hp => g3 p (List.mem_cons_of_mem _ hp)⟩
    · rw [List.map_append]
    · rcases List.mem_append.mp hp with hp | hp
      · exact g1 p hp
      · obtain ⟨h, hh, rfl⟩ := List.mem_map.mp hp
        have := rangeI_in hh
        refine ⟨q, g3 q (List.mem_cons_self ..), by simp, fun x hx => ?_⟩
        rcases List.mem_append.mp hx with hx | hx
        · exact hq.2 x hx
        · have : x = h := by simpa using hx
          rw [this]; omega
    · rw [List.length_append, List.length_map, rangeI_len]; omega
end K72

end

section
set_option maxHeartbeats 2000000
namespace K72
open PySem PySem.Spec Mi
open L2 (atI ixN Key)
theorem law_gen (k : Nat) (ns : List Int) (hns : ns.length ≤ 63) : ∃ S', runFull (orc defs (k + 110)) d_law [.ro (ns.map D.int)] [] = some (.bl true, S') := by
  have er6 : rngD 0 6 = some ⟨(rangeI 0 6).map D.int, fun _ => true⟩ := rng_small (by decide) (by decide) (by decide) (by decide)
  have er100 : rngD 0 100 = some ⟨(rangeI 0 100).map D.int, fun _ => true⟩ := rng_small (by decide) (by decide) (by decide) (by decide)
  have rt : ∀ {m : Nat} {S : Store} {tw : Tws}, lk S m = some (.lst (tw.map prD)) → Fine tw → tw.length ≤ 100 → orc defs (k + 110) 21 [.loc m] S = some (.bl true, S) := fun h1 h2 h3 => right_of (k + 7) h1 h2 h3
  simp only [d_law, b_law, bnd_some, bnd_none, opt_some, opt_none, seqF_next, seqF_brk, seqF_cnt, seqF_ret, ts_nil, ts_cons, out_ret, out_next, ite_t, ite_f, bop_and_t, bop_and_f, bop_or_t, bop_or_f, bb_and_t, bb_and_f, bb_or_t, bb_or_f, slot_0, slot_s, e_con, b_con, e_var, b_var, e_glo, b_glo, e_tup, b_tup, e_lst, b_lst, e_dct, b_dct, e_op, b_op, e_neg, b_neg, e_not, b_not, e_bop, b_bop, e_cmp, b_cmp, e_chn, b_chn, e_ifx, b_ifx, e_ix, b_ix, e_sl, b_sl, e_call, b_call, e_callK, e_fnv, e_callL, fnIx_fn, e_bi, b_bi, e_mxd, b_mxd, e_isi, b_isi, e_isl, b_isl, e_lrg, b_lrg, e_mt, b_mt, e_lc, b_lc, e_rev, b_rev, e_gtp, e_lrg1, i_rng3, bop_1, bop_2, bb_1, bb_2, es_nil, es_cons, eo_none, eo_some, if_none, if_some, i_ex, i_rng1, i_rng2, i_enm, q_nm, q_tp, q_sb, setK_some, qs_nil, qs_cons, t_asg, t_aug, t_ex, t_ret, t_retN, t_iff, t_fr, t_whl, t_brk, t_cnt, t_pas, con_none, con_bool, con_int, con_str, neg_int, not_bl, int_int, add_int, sub_int, lt_int, le_int, gt_int, ge_int, eq_int, ne_int, is_nn, is_in, is_bb, isn_nn, isn_in, isn_bb, tr_non, tr_bl, tr_int, ty_non, ty_bl, ty_int, ty_tup, ty_ro, isa_int_int, isa_int_bool, isa_int_list, isa_int_tuple, isa_list_list, isa_list_tuple, isa_tuple_list, isa_tuple_tuple, sq_tup, sq_ro, bi_int_int, bi_int_bl, bi_tuple_tup, bi_min, bi_max, bi_len_tup, bi_len_ro, ix_tup, ix_ro, sl_tup, sl_ro, stays_tup, stays_ro, at_0, at_1, gc_ai, gc_aai, gc_aaai, gc_ab, gc_aab, gc_aaab, gc_an, gc_aan, gc_aaan, gc_same, wipe_nil, wipe_cons, sz_0, sz_1, sz_2, sz_3, sz_4, sz_5, sz_6, sz_7, sz_8, sz_9, sz_10, runDef, runFull, Def.full, startD, List.length_cons, List.length_nil, List.map_cons, List.map_nil, List.append_nil, List.nil_append, List.cons_append, List.drop_nil, List.drop_zero, List.drop_succ_cons, List.set_cons_zero, List.set_cons_succ, List.replicate, if_true, if_false, Bool.not_true, Bool.not_false, Bool.true_or, Bool.false_or, Option.map_some, Option.map_none, Nat.zero_add, Nat.add_zero, Nat.sub_self, Nat.reduceAdd, Nat.reduceSub, ↓reduceIte, Bool.and_true, Bool.true_and, Bool.false_and, Bool.and_false, Int.cast_ofNat_Int, decide_true, decide_false, Int.reduceEq, Int.reduceLT, Int.reduceLE, Bool.false_eq_true, List.append_assoc, List.length_append, lk_app, lk_app0, lk_sapp, lk_sapp0, lk_z, lk_s, st_app, st_app0, st_sapp, st_sapp0, len_set, set_set, sq_lk, ix_lk, sl_lk, len_lk, tuple_lk, list_lk, list_tup, ty_lk, stays_lk, set_lk, add_lk, app_lk, ext_lk, clear_lk, recv_lk, get2_lk, tr_lk, gp_0, gp_1, gp_2, gp_3, gp_4, gp_5, gp_6, gp_7, gp_8, ko_n, ko_s, ko_p, gq_1, gq_2, gq_3, gq_4, gq_5, gq_6, gq_7, gq_8, gq_9, gq_10, gq_11, gq_12, gq_13, gq_14, gq_15, gq_16, gcR, Nat.lt_irrefl, Nat.not_lt_zero, List.take_succ_cons, List.take_zero, List.take_nil, D.beqL_self, at_2, at_3, ixN, Nat.reduceLT, Nat.reduceLeDiff, Int.reduceToNat, Int.reduceNeg, Int.reduceSub, Int.reduceAdd, Int.reduceMul, sz_lt, Int.zero_add, mod_int, pr_int, pr_bl, pr_non, pr_str, pr_tup, pr_nil, pr_cons, pr_lst, pr_ints, pr_prs, pr_app, pr_kD, mt_1, mt_2, mt_3, mt_4, mt_5, mt_6, mt_7, rev_lk, max_lk, min_lk, sum_lk, any_lk, all_lk, count_lk, index_lk, pop_lk, eq_D, ne_D, eqD_ll, eqD_tt, eqL_ll, eqS_same, eqS_nil, eqS_ints, eqD_ii, eqD_kk, py_app, py_nil, py_cons, py_ints, py_int, py_bl, py_non, py_kD, py_links, py_prs, py_mapi, pr_mapi, pr_linksT, gt_np, pr_loc, pr_stps, pr_stp, aug_add, aug_sub, ko_app, take_left', len_aa, er6]
  generalize hX : forD _ _ _ _ _ _ = X
  have key := for_M hX (fun rest σ T => ∃ (j : Nat) (rows : List (List Int)) (x2 x3 x4 x5 x6 x7 x8 x9 x10 x11 x12 : Option D), σ = [some (.ro (ns.map D.int)), some (.loc j), x2, x3, x4, x5, x6, x7, x8, x9, x10, x11, x12] ∧ lk T j = some (.lst (rows.map rwD)) ∧ rest.length ≤ 6 ∧ rows.length ≤ 3 ^ (6 - rest.length) ∧ ∀ q ∈ rows, q.length + rest.length ≤ 6 ∧ ∀ x ∈ q, 1 ≤ x)
    (fun X => ∃ (j : Nat) (x2 x3 x4 x5 x6 x7 x8 x9 x10 x11 x12 : Option D) (T : Store), X = some (.next [some (.ro (ns.map D.int)), some (.loc j), x2, x3, x4, x5, x6, x7, x8, x9, x10, x11, x12], T)) ⟨0, [[]], _, _, _, _, _, _, _, _, _, _, _, rfl, rfl, by rw [rangeI_len]; omega, by rw [rangeI_len]; simp, fun q hq => ?_⟩ ?_ ?_
  · obtain ⟨j, x2, x3, x4, x5, x6, x7, x8, x9, x10, x11, x12, T, rfl⟩ := key
    clear hX
    simp only [bnd_some, bnd_none, opt_some, opt_none, seqF_next, seqF_brk, seqF_cnt, seqF_ret, ts_nil, ts_cons, out_ret, out_next, ite_t, ite_f, bop_and_t, bop_and_f, bop_or_t, bop_or_f, bb_and_t, bb_and_f, bb_or_t, bb_or_f, slot_0, slot_s, e_con, b_con, e_var, b_var, e_glo, b_glo, e_tup, b_tup, e_lst, b_lst, e_dct, b_dct, e_op, b_op, e_neg, b_neg, e_not, b_not, e_bop, b_bop, e_cmp, b_cmp, e_chn, b_chn, e_ifx, b_ifx, e_ix, b_ix, e_sl, b_sl, e_call, b_call, e_callK, e_fnv, e_callL, fnIx_fn, e_bi, b_bi, e_mxd, b_mxd, e_isi, b_isi, e_isl, b_isl, e_lrg, b_lrg, e_mt, b_mt, e_lc, b_lc, e_rev, b_rev, e_gtp, e_lrg1, i_rng3, bop_1, bop_2, bb_1, bb_2, es_nil, es_cons, eo_none, eo_some, if_none, if_some, i_ex, i_rng1, i_rng2, i_enm, q_nm, q_tp, q_sb, setK_some, qs_nil, qs_cons, t_asg, t_aug, t_ex, t_ret, t_retN, t_iff, t_fr, t_whl, t_brk, t_cnt, t_pas, con_none, con_bool, con_int, con_str, neg_int, not_bl, int_int, add_int, sub_int, lt_int, le_int, gt_int, ge_int, eq_int, ne_int, is_nn, is_in, is_bb, isn_nn, isn_in, isn_bb, tr_non, tr_bl, tr_int, ty_non, ty_bl, ty_int, ty_tup, ty_ro, isa_int_int, isa_int_bool, isa_int_list, isa_int_tuple, isa_list_list, isa_list_tuple, isa_tuple_list, isa_tuple_tuple, sq_tup, sq_ro, bi_int_int, bi_int_bl, bi_tuple_tup, bi_min, bi_max, bi_len_tup, bi_len_ro, ix_tup, ix_ro, sl_tup, sl_ro, stays_tup, stays_ro, at_0, at_1, gc_ai, gc_aai, gc_aaai, gc_ab, gc_aab, gc_aaab, gc_an, gc_aan, gc_aaan, gc_same, wipe_nil, wipe_cons, sz_0, sz_1, sz_2, sz_3, sz_4, sz_5, sz_6, sz_7, sz_8, sz_9, sz_10, runDef, runFull, Def.full, startD, List.length_cons, List.length_nil, List.map_cons, List.map_nil, List.append_nil, List.nil_append, List.cons_append, List.drop_nil, List.drop_zero, List.drop_succ_cons, List.set_cons_zero, List.set_cons_succ, List.replicate, if_true, if_false, Bool.not_true, Bool.not_false, Bool.true_or, Bool.false_or, Option.map_some, Option.map_none, Nat.zero_add, Nat.add_zero, Nat.sub_self, Nat.reduceAdd, Nat.reduceSub, ↓reduceIte, Bool.and_true, Bool.true_and, Bool.false_and, Bool.and_false, Int.cast_ofNat_Int, decide_true, decide_false, Int.reduceEq, Int.reduceLT, Int.reduceLE, Bool.false_eq_true, List.append_assoc, List.length_append, lk_app, lk_app0, lk_sapp, lk_sapp0, lk_z, lk_s, st_app, st_app0, st_sapp, st_sapp0, len_set, set_set, sq_lk, ix_lk, sl_lk, len_lk, tuple_lk, list_lk, list_tup, ty_lk, stays_lk, set_lk, add_lk, app_lk, ext_lk, clear_lk, recv_lk, get2_lk, tr_lk, gp_0, gp_1, gp_2, gp_3, gp_4, gp_5, gp_6, gp_7, gp_8, ko_n, ko_s, ko_p, gq_1, gq_2, gq_3, gq_4, gq_5, gq_6, gq_7, gq_8, gq_9, gq_10, gq_11, gq_12, gq_13, gq_14, gq_15, gq_16, gcR, Nat.lt_irrefl, Nat.not_lt_zero, List.take_succ_cons, List.take_zero, List.take_nil, D.beqL_self, at_2, at_3, ixN, Nat.reduceLT, Nat.reduceLeDiff, Int.reduceToNat, Int.reduceNeg, Int.reduceSub, Int.reduceAdd, Int.reduceMul, sz_lt, Int.zero_add, mod_int, pr_int, pr_bl, pr_non, pr_str, pr_tup, pr_nil, pr_cons, pr_lst, pr_ints, pr_prs, pr_app, pr_kD, mt_1, mt_2, mt_3, mt_4, mt_5, mt_6, mt_7, rev_lk, max_lk, min_lk, sum_lk, any_lk, all_lk, count_lk, index_lk, pop_lk, eq_D, ne_D, eqD_ll, eqD_tt, eqL_ll, eqS_same, eqS_nil, eqS_ints, eqD_ii, eqD_kk, py_app, py_nil, py_cons, py_ints, py_int, py_bl, py_non, py_kD, py_links, py_prs, py_mapi, pr_mapi, pr_linksT, gt_np, pr_loc, pr_stps, pr_stp, aug_add, aug_sub, ko_app, take_left', len_aa, er100]
    generalize hX : lcD _ _ _ _ _ _ _ = X
    have e := lc_f (fun p : Int => D.int (if p + 1 < 64 then p + 1 else 64)) hX rfl (le_size (by rw [rangeI_len]; simp)) (fun p hp => by simp only [bnd_some, bnd_none, opt_some, opt_none, seqF_next, seqF_brk, seqF_cnt, seqF_ret, ts_nil, ts_cons, out_ret, out_next, ite_t, ite_f, bop_and_t, bop_and_f, bop_or_t, bop_or_f, bb_and_t, bb_and_f, bb_or_t, bb_or_f, slot_0, slot_s, e_con, b_con, e_var, b_var, e_glo, b_glo, e_tup, b_tup, e_lst, b_lst, e_dct, b_dct, e_op, b_op, e_neg, b_neg, e_not, b_not, e_bop, b_bop, e_cmp, b_cmp, e_chn, b_chn, e_ifx, b_ifx, e_ix, b_ix, e_sl, b_sl, e_call, b_call, e_callK, e_fnv, e_callL, fnIx_fn, e_bi, b_bi, e_mxd, b_mxd, e_isi, b_isi, e_isl, b_isl, e_lrg, b_lrg, e_mt, b_mt, e_lc, b_lc, e_rev, b_rev, e_gtp, e_lrg1, i_rng3, bop_1, bop_2, bb_1, bb_2, es_nil, es_cons, eo_none, eo_some, if_none, if_some, i_ex, i_rng1, i_rng2, i_enm, q_nm, q_tp, q_sb, setK_some, qs_nil, qs_cons, t_asg, t_aug, t_ex, t_ret, t_retN, t_iff, t_fr, t_whl, t_brk, t_cnt, t_pas, con_none, con_bool, con_int, con_str, neg_int, not_bl, int_int, add_int, sub_int, lt_int, le_int, gt_int, ge_int, eq_int, ne_int, is_nn, is_in, is_bb, isn_nn, isn_in, isn_bb, tr_non, tr_bl, tr_int, ty_non, ty_bl, ty_int, ty_tup, ty_ro, isa_int_int, isa_int_bool, isa_int_list, isa_int_tuple, isa_list_list, isa_list_tuple, isa_tuple_list, isa_tuple_tuple, sq_tup, sq_ro, bi_int_int, bi_int_bl, bi_tuple_tup, bi_min, bi_max, bi_len_tup, bi_len_ro, ix_tup, ix_ro, sl_tup, sl_ro, stays_tup, stays_ro, at_0, at_1, gc_ai, gc_aai, gc_aaai, gc_ab, gc_aab, gc_aaab, gc_an, gc_aan, gc_aaan, gc_same, wipe_nil, wipe_cons, sz_0, sz_1, sz_2, sz_3, sz_4, sz_5, sz_6, sz_7, sz_8, sz_9, sz_10, runDef, runFull, Def.full, startD, List.length_cons, List.length_nil, List.map_cons, List.map_nil, List.append_nil, List.nil_append, List.cons_append, List.drop_nil, List.drop_zero, List.drop_succ_cons, List.set_cons_zero, List.set_cons_succ, List.replicate, if_true, if_false, Bool.not_true, Bool.not_false, Bool.true_or, Bool.false_or, Option.map_some, Option.map_none, Nat.zero_add, Nat.add_zero, Nat.sub_self, Nat.reduceAdd, Nat.reduceSub, ↓reduceIte, Bool.and_true, Bool.true_and, Bool.false_and, Bool.and_false, Int.cast_ofNat_Int, decide_true, decide_false, Int.reduceEq, Int.reduceLT, Int.reduceLE, Bool.false_eq_true, List.append_assoc, List.length_append, lk_app, lk_app0, lk_sapp, lk_sapp0, lk_z, lk_s, st_app, st_app0, st_sapp, st_sapp0, len_set, set_set, sq_lk, ix_lk, sl_lk, len_lk, tuple_lk, list_lk, list_tup, ty_lk, stays_lk, set_lk, add_lk, app_lk, ext_lk, clear_lk, recv_lk, get2_lk, tr_lk, gp_0, gp_1, gp_2, gp_3, gp_4, gp_5, gp_6, gp_7, gp_8, ko_n, ko_s, ko_p, gq_1, gq_2, gq_3, gq_4, gq_5, gq_6, gq_7, gq_8, gq_9, gq_10, gq_11, gq_12, gq_13, gq_14, gq_15, gq_16, gcR, Nat.lt_irrefl, Nat.not_lt_zero, List.take_succ_cons, List.take_zero, List.take_nil, D.beqL_self, at_2, at_3, ixN, Nat.reduceLT, Nat.reduceLeDiff, Int.reduceToNat, Int.reduceNeg, Int.reduceSub, Int.reduceAdd, Int.reduceMul, sz_lt, Int.zero_add, mod_int, pr_int, pr_bl, pr_non, pr_str, pr_tup, pr_nil, pr_cons, pr_lst, pr_ints, pr_prs, pr_app, pr_kD, mt_1, mt_2, mt_3, mt_4, mt_5, mt_6, mt_7, rev_lk, max_lk, min_lk, sum_lk, any_lk, all_lk, count_lk, index_lk, pop_lk, eq_D, ne_D, eqD_ll, eqD_tt, eqL_ll, eqS_same, eqS_nil, eqS_ints, eqD_ii, eqD_kk, py_app, py_nil, py_cons, py_ints, py_int, py_bl, py_non, py_kD, py_links, py_prs, py_mapi, pr_mapi, pr_linksT, gt_np, pr_loc, pr_stps, pr_stp, aug_add, aug_sub, ko_app, take_left', len_aa, lcS, ite_b, bnd_if, seqF_if, out_if, bopB_and, bopB_or, bopD_and, bopD_or, if_same_bool, if_bf, if_bx, if_xt])
    subst e
    clear hX
    obtain ⟨ri, hri⟩ : ∃ ri, ri = (rangeI 0 100).map (fun p : Int => if p + 1 < 64 then p + 1 else 64) := ⟨_, rfl⟩
    have em : (rangeI 0 100).map (fun p : Int => D.int (if p + 1 < 64 then p + 1 else 64)) = ri.map D.int := by rw [hri, List.map_map]; rfl
    have hr1 : ri.length ≤ 100 := by rw [hri, List.length_map, rangeI_len]; exact Nat.le_refl _
    obtain ⟨on, hon⟩ : ∃ on : List Int, on = List.replicate 100 1 := ⟨_, rfl⟩
    have hr2 : ∀ x ∈ ri, 1 ≤ x := by
      intro x hx
      rw [hri] at hx
      obtain ⟨p, hp, rfl⟩ := List.mem_map.mp hx
      have := rangeI_in hp
      show (1 : Int) ≤ if p + 1 < 64 then p + 1 else 64
      split <;> omega
    have hm : opD .Mult (.loc (T.length + 1)) (.int 100) (T ++ [.lst (ri.map D.int), .lst [.int 1]]) = some (.loc (T.length + 2), T ++ [.lst (ri.map D.int), .lst [.int 1], .lst (on.map D.int)]) := by
      have h := mul_lk (S := T ++ [.lst (ri.map D.int), .lst [.int 1]]) (m := T.length + 1) (k := 100) (x := [.int 1]) lk_app (by simp) (by simp)
      have h2 : (List.replicate 100 [D.int 1]).flatten = on.map D.int := by rw [hon]; simp
      rw [h2] at h
      simpa using h
    have hrv : (ri.map D.int).reverse = ri.reverse.map D.int := List.map_reverse.symm
    simp only [bnd_some, bnd_none, opt_some, opt_none, seqF_next, seqF_brk, seqF_cnt, seqF_ret, ts_nil, ts_cons, out_ret, out_next, ite_t, ite_f, bop_and_t, bop_and_f, bop_or_t, bop_or_f, bb_and_t, bb_and_f, bb_or_t, bb_or_f, slot_0, slot_s, e_con, b_con, e_var, b_var, e_glo, b_glo, e_tup, b_tup, e_lst, b_lst, e_dct, b_dct, e_op, b_op, e_neg, b_neg, e_not, b_not, e_bop, b_bop, e_cmp, b_cmp, e_chn, b_chn, e_ifx, b_ifx, e_ix, b_ix, e_sl, b_sl, e_call, b_call, e_callK, e_fnv, e_callL, fnIx_fn, e_bi, b_bi, e_mxd, b_mxd, e_isi, b_isi, e_isl, b_isl, e_lrg, b_lrg, e_mt, b_mt, e_lc, b_lc, e_rev, b_rev, e_gtp, e_lrg1, i_rng3, bop_1, bop_2, bb_1, bb_2, es_nil, es_cons, eo_none, eo_some, if_none, if_some, i_ex, i_rng1, i_rng2, i_enm, q_nm, q_tp, q_sb, setK_some, qs_nil, qs_cons, t_asg, t_aug, t_ex, t_ret, t_retN, t_iff, t_fr, t_whl, t_brk, t_cnt, t_pas, con_none, con_bool, con_int, con_str, neg_int, not_bl, int_int, add_int, sub_int, lt_int, le_int, gt_int, ge_int, eq_int, ne_int, is_nn, is_in, is_bb, isn_nn, isn_in, isn_bb, tr_non, tr_bl, tr_int, ty_non, ty_bl, ty_int, ty_tup, ty_ro, isa_int_int, isa_int_bool, isa_int_list, isa_int_tuple, isa_list_list, isa_list_tuple, isa_tuple_list, isa_tuple_tuple, sq_tup, sq_ro, bi_int_int, bi_int_bl, bi_tuple_tup, bi_min, bi_max, bi_len_tup, bi_len_ro, ix_tup, ix_ro, sl_tup, sl_ro, stays_tup, stays_ro, at_0, at_1, gc_ai, gc_aai, gc_aaai, gc_ab, gc_aab, gc_aaab, gc_an, gc_aan, gc_aaan, gc_same, wipe_nil, wipe_cons, sz_0, sz_1, sz_2, sz_3, sz_4, sz_5, sz_6, sz_7, sz_8, sz_9, sz_10, runDef, runFull, Def.full, startD, List.length_cons, List.length_nil, List.map_cons, List.map_nil, List.append_nil, List.nil_append, List.cons_append, List.drop_nil, List.drop_zero, List.drop_succ_cons, List.set_cons_zero, List.set_cons_succ, List.replicate, if_true, if_false, Bool.not_true, Bool.not_false, Bool.true_or, Bool.false_or, Option.map_some, Option.map_none, Nat.zero_add, Nat.add_zero, Nat.sub_self, Nat.reduceAdd, Nat.reduceSub, ↓reduceIte, Bool.and_true, Bool.true_and, Bool.false_and, Bool.and_false, Int.cast_ofNat_Int, decide_true, decide_false, Int.reduceEq, Int.reduceLT, Int.reduceLE, Bool.false_eq_true, List.append_assoc, List.length_append, lk_app, lk_app0, lk_sapp, lk_sapp0, lk_z, lk_s, st_app, st_app0, st_sapp, st_sapp0, len_set, set_set, sq_lk, ix_lk, sl_lk, len_lk, tuple_lk, list_lk, list_tup, ty_lk, stays_lk, set_lk, add_lk, app_lk, ext_lk, clear_lk, recv_lk, get2_lk, tr_lk, gp_0, gp_1, gp_2, gp_3, gp_4, gp_5, gp_6, gp_7, gp_8, ko_n, ko_s, ko_p, gq_1, gq_2, gq_3, gq_4, gq_5, gq_6, gq_7, gq_8, gq_9, gq_10, gq_11, gq_12, gq_13, gq_14, gq_15, gq_16, gcR, Nat.lt_irrefl, Nat.not_lt_zero, List.take_succ_cons, List.take_zero, List.take_nil, D.beqL_self, at_2, at_3, ixN, Nat.reduceLT, Nat.reduceLeDiff, Int.reduceToNat, Int.reduceNeg, Int.reduceSub, Int.reduceAdd, Int.reduceMul, sz_lt, Int.zero_add, mod_int, pr_int, pr_bl, pr_non, pr_str, pr_tup, pr_nil, pr_cons, pr_lst, pr_ints, pr_prs, pr_app, pr_kD, mt_1, mt_2, mt_3, mt_4, mt_5, mt_6, mt_7, rev_lk, max_lk, min_lk, sum_lk, any_lk, all_lk, count_lk, index_lk, pop_lk, eq_D, ne_D, eqD_ll, eqD_tt, eqL_ll, eqS_same, eqS_nil, eqS_ints, eqD_ii, eqD_kk, py_app, py_nil, py_cons, py_ints, py_int, py_bl, py_non, py_kD, py_links, py_prs, py_mapi, pr_mapi, pr_linksT, gt_np, pr_loc, pr_stps, pr_stp, aug_add, aug_sub, ko_app, take_left', len_aa, em, hm, hrv]
    generalize hX : forD _ _ _ _ _ _ = X
    obtain ⟨V, hV⟩ : ∃ V, V = T ++ [.lst (ri.map D.int), .lst [.int 1], .lst (on.map D.int), .lst (ri.reverse.map D.int)] := ⟨_, rfl⟩
    rw [← hV] at hX
    have key := for_M (xs := [T.length + 2, T.length, T.length + 3]) (inj := D.loc) hX (fun rest σ U => U = V ∧ (∃ x3 x4 : Option D, σ = [some (.ro (ns.map D.int)), some (.loc j), x2, x3, x4, x5, x6, x7, x8, x9, x10, x11, x12]) ∧ ∀ a ∈ rest, ∃ xs : List Int, lk V a = some (.lst (xs.map D.int)) ∧ xs.length ≤ 100 ∧ ∀ x ∈ xs, 1 ≤ x)
      (fun X => ∃ x3 x4 : Option D, X = some (.next [some (.ro (ns.map D.int)), some (.loc j), x2, x3, x4, x5, x6, x7, x8, x9, x10, x11, x12], V)) ⟨rfl, ⟨_, _, rfl⟩, fun a ha => ?_⟩ ?_ ?_
    · clear hX hm hrv em hr2 hr1 hri
      obtain ⟨x3, x4, rfl⟩ := key
      have hz : ns.length + 1 ≤ sizeLine := le_size (by omega)
      have hc : cut (ns.map D.int ++ [.int 0]) none (some 5) = ((ns ++ [0]).take 5).map D.int := by
        rw [show (some (5 : Int)) = some ((5 : Nat) : Int) from rfl, cut_upto, List.map_take, List.map_append]; rfl
      simp only [bnd_some, bnd_none, opt_some, opt_none, seqF_next, seqF_brk, seqF_cnt, seqF_ret, ts_nil, ts_cons, out_ret, out_next, ite_t, ite_f, bop_and_t, bop_and_f, bop_or_t, bop_or_f, bb_and_t, bb_and_f, bb_or_t, bb_or_f, slot_0, slot_s, e_con, b_con, e_var, b_var, e_glo, b_glo, e_tup, b_tup, e_lst, b_lst, e_dct, b_dct, e_op, b_op, e_neg, b_neg, e_not, b_not, e_bop, b_bop, e_cmp, b_cmp, e_chn, b_chn, e_ifx, b_ifx, e_ix, b_ix, e_sl, b_sl, e_call, b_call, e_callK, e_fnv, e_callL, fnIx_fn, e_bi, b_bi, e_mxd, b_mxd, e_isi, b_isi, e_isl, b_isl, e_lrg, b_lrg, e_mt, b_mt, e_lc, b_lc, e_rev, b_rev, e_gtp, e_lrg1, i_rng3, bop_1, bop_2, bb_1, bb_2, es_nil, es_cons, eo_none, eo_some, if_none, if_some, i_ex, i_rng1, i_rng2, i_enm, q_nm, q_tp, q_sb, setK_some, qs_nil, qs_cons, t_asg, t_aug, t_ex, t_ret, t_retN, t_iff, t_fr, t_whl, t_brk, t_cnt, t_pas, con_none, con_bool, con_int, con_str, neg_int, not_bl, int_int, add_int, sub_int, lt_int, le_int, gt_int, ge_int, eq_int, ne_int, is_nn, is_in, is_bb, isn_nn, isn_in, isn_bb, tr_non, tr_bl, tr_int, ty_non, ty_bl, ty_int, ty_tup, ty_ro, isa_int_int, isa_int_bool, isa_int_list, isa_int_tuple, isa_list_list, isa_list_tuple, isa_tuple_list, isa_tuple_tuple, sq_tup, sq_ro, bi_int_int, bi_int_bl, bi_tuple_tup, bi_min, bi_max, bi_len_tup, bi_len_ro, ix_tup, ix_ro, sl_tup, sl_ro, stays_tup, stays_ro, at_0, at_1, gc_ai, gc_aai, gc_aaai, gc_ab, gc_aab, gc_aaab, gc_an, gc_aan, gc_aaan, gc_same, wipe_nil, wipe_cons, sz_0, sz_1, sz_2, sz_3, sz_4, sz_5, sz_6, sz_7, sz_8, sz_9, sz_10, runDef, runFull, Def.full, startD, List.length_cons, List.length_nil, List.map_cons, List.map_nil, List.append_nil, List.nil_append, List.cons_append, List.drop_nil, List.drop_zero, List.drop_succ_cons, List.set_cons_zero, List.set_cons_succ, List.replicate, if_true, if_false, Bool.not_true, Bool.not_false, Bool.true_or, Bool.false_or, Option.map_some, Option.map_none, Nat.zero_add, Nat.add_zero, Nat.sub_self, Nat.reduceAdd, Nat.reduceSub, ↓reduceIte, Bool.and_true, Bool.true_and, Bool.false_and, Bool.and_false, Int.cast_ofNat_Int, decide_true, decide_false, Int.reduceEq, Int.reduceLT, Int.reduceLE, Bool.false_eq_true, List.append_assoc, List.length_append, lk_app, lk_app0, lk_sapp, lk_sapp0, lk_z, lk_s, st_app, st_app0, st_sapp, st_sapp0, len_set, set_set, sq_lk, ix_lk, sl_lk, len_lk, tuple_lk, list_lk, list_tup, ty_lk, stays_lk, set_lk, add_lk, app_lk, ext_lk, clear_lk, recv_lk, get2_lk, tr_lk, gp_0, gp_1, gp_2, gp_3, gp_4, gp_5, gp_6, gp_7, gp_8, ko_n, ko_s, ko_p, gq_1, gq_2, gq_3, gq_4, gq_5, gq_6, gq_7, gq_8, gq_9, gq_10, gq_11, gq_12, gq_13, gq_14, gq_15, gq_16, gcR, Nat.lt_irrefl, Nat.not_lt_zero, List.take_succ_cons, List.take_zero, List.take_nil, D.beqL_self, at_2, at_3, ixN, Nat.reduceLT, Nat.reduceLeDiff, Int.reduceToNat, Int.reduceNeg, Int.reduceSub, Int.reduceAdd, Int.reduceMul, sz_lt, Int.zero_add, mod_int, pr_int, pr_bl, pr_non, pr_str, pr_tup, pr_nil, pr_cons, pr_lst, pr_ints, pr_prs, pr_app, pr_kD, mt_1, mt_2, mt_3, mt_4, mt_5, mt_6, mt_7, rev_lk, max_lk, min_lk, sum_lk, any_lk, all_lk, count_lk, index_lk, pop_lk, eq_D, ne_D, eqD_ll, eqD_tt, eqL_ll, eqS_same, eqS_nil, eqS_ints, eqD_ii, eqD_kk, py_app, py_nil, py_cons, py_ints, py_int, py_bl, py_non, py_kD, py_links, py_prs, py_mapi, pr_mapi, pr_linksT, gt_np, pr_loc, pr_stps, pr_stp, aug_add, aug_sub, ko_app, take_left', len_aa, add_rl, List.length_map, hz, hc]
      generalize hX : forD _ _ _ _ _ _ = X
      obtain ⟨cs, hcs⟩ : ∃ cs, cs = (ns ++ [0]).take 5 := ⟨_, rfl⟩
      rw [← hcs] at hX
      have key := for_M hX (fun _ σ W => (∃ x5 x6 x7 x8 x9 x10 : Option D, σ = [some (.ro (ns.map D.int)), some (.loc j), x2, x3, x4, x5, x6, x7, x8, x9, x10, x11, x12]) ∧ lk W (V.length + 2) = some (.lst (cs.map D.int)))
        (fun X => ∃ σ W, X = some (.next σ, W)) ⟨⟨_, _, _, _, _, _, rfl⟩, lk_app⟩ ?_ ?_
      · obtain ⟨σ, W, rfl⟩ := key
        simp only [bnd_some, bnd_none, opt_some, opt_none, seqF_next, seqF_brk, seqF_cnt, seqF_ret, ts_nil, ts_cons, out_ret, out_next, ite_t, ite_f, bop_and_t, bop_and_f, bop_or_t, bop_or_f, bb_and_t, bb_and_f, bb_or_t, bb_or_f, slot_0, slot_s, e_con, b_con, e_var, b_var, e_glo, b_glo, e_tup, b_tup, e_lst, b_lst, e_dct, b_dct, e_op, b_op, e_neg, b_neg, e_not, b_not, e_bop, b_bop, e_cmp, b_cmp, e_chn, b_chn, e_ifx, b_ifx, e_ix, b_ix, e_sl, b_sl, e_call, b_call, e_callK, e_fnv, e_callL, fnIx_fn, e_bi, b_bi, e_mxd, b_mxd, e_isi, b_isi, e_isl, b_isl, e_lrg, b_lrg, e_mt, b_mt, e_lc, b_lc, e_rev, b_rev, e_gtp, e_lrg1, i_rng3, bop_1, bop_2, bb_1, bb_2, es_nil, es_cons, eo_none, eo_some, if_none, if_some, i_ex, i_rng1, i_rng2, i_enm, q_nm, q_tp, q_sb, setK_some, qs_nil, qs_cons, t_asg, t_aug, t_ex, t_ret, t_retN, t_iff, t_fr, t_whl, t_brk, t_cnt, t_pas, con_none, con_bool, con_int, con_str, neg_int, not_bl, int_int, add_int, sub_int, lt_int, le_int, gt_int, ge_int, eq_int, ne_int, is_nn, is_in, is_bb, isn_nn, isn_in, isn_bb, tr_non, tr_bl, tr_int, ty_non, ty_bl, ty_int, ty_tup, ty_ro, isa_int_int, isa_int_bool, isa_int_list, isa_int_tuple, isa_list_list, isa_list_tuple, isa_tuple_list, isa_tuple_tuple, sq_tup, sq_ro, bi_int_int, bi_int_bl, bi_tuple_tup, bi_min, bi_max, bi_len_tup, bi_len_ro, ix_tup, ix_ro, sl_tup, sl_ro, stays_tup, stays_ro, at_0, at_1, gc_ai, gc_aai, gc_aaai, gc_ab, gc_aab, gc_aaab, gc_an, gc_aan, gc_aaan, gc_same, wipe_nil, wipe_cons, sz_0, sz_1, sz_2, sz_3, sz_4, sz_5, sz_6, sz_7, sz_8, sz_9, sz_10, runDef, runFull, Def.full, startD, List.length_cons, List.length_nil, List.map_cons, List.map_nil, List.append_nil, List.nil_append, List.cons_append, List.drop_nil, List.drop_zero, List.drop_succ_cons, List.set_cons_zero, List.set_cons_succ, List.replicate, if_true, if_false, Bool.not_true, Bool.not_false, Bool.true_or, Bool.false_or, Option.map_some, Option.map_none, Nat.zero_add, Nat.add_zero, Nat.sub_self, Nat.reduceAdd, Nat.reduceSub, ↓reduceIte, Bool.and_true, Bool.true_and, Bool.false_and, Bool.and_false, Int.cast_ofNat_Int, decide_true, decide_false, Int.reduceEq, Int.reduceLT, Int.reduceLE, Bool.false_eq_true, List.append_assoc, List.length_append, lk_app, lk_app0, lk_sapp, lk_sapp0, lk_z, lk_s, st_app, st_app0, st_sapp, st_sapp0, len_set, set_set, sq_lk, ix_lk, sl_lk, len_lk, tuple_lk, list_lk, list_tup, ty_lk, stays_lk, set_lk, add_lk, app_lk, ext_lk, clear_lk, recv_lk, get2_lk, tr_lk, gp_0, gp_1, gp_2, gp_3, gp_4, gp_5, gp_6, gp_7, gp_8, ko_n, ko_s, ko_p, gq_1, gq_2, gq_3, gq_4, gq_5, gq_6, gq_7, gq_8, gq_9, gq_10, gq_11, gq_12, gq_13, gq_14, gq_15, gq_16, gcR, Nat.lt_irrefl, Nat.not_lt_zero, List.take_succ_cons, List.take_zero, List.take_nil, D.beqL_self, at_2, at_3, ixN, Nat.reduceLT, Nat.reduceLeDiff, Int.reduceToNat, Int.reduceNeg, Int.reduceSub, Int.reduceAdd, Int.reduceMul, sz_lt, Int.zero_add, mod_int, pr_int, pr_bl, pr_non, pr_str, pr_tup, pr_nil, pr_cons, pr_lst, pr_ints, pr_prs, pr_app, pr_kD, mt_1, mt_2, mt_3, mt_4, mt_5, mt_6, mt_7, rev_lk, max_lk, min_lk, sum_lk, any_lk, all_lk, count_lk, index_lk, pop_lk, eq_D, ne_D, eqD_ll, eqD_tt, eqL_ll, eqS_same, eqS_nil, eqS_ints, eqD_ii, eqD_kk, py_app, py_nil, py_cons, py_ints, py_int, py_bl, py_non, py_kD, py_links, py_prs, py_mapi, pr_mapi, pr_linksT, gt_np, pr_loc, pr_stps, pr_stp, aug_add, aug_sub, ko_app, take_left', len_aa]
        exact ⟨_, rfl⟩
      · rintro σ W ⟨-, hW⟩
        exact ⟨by rw [stays_lk, hW]; exact D.beqL_self _, _, _, rfl⟩
      · clear hX X hcs hc hz hV
        rintro i r σ W ⟨⟨x5, x6, x7, x8, x9, x10, rfl⟩, hW⟩
        refine ⟨by rw [stays_lk, hW]; exact D.beqL_self _, ?_⟩
        obtain ⟨a, b, e1⟩ := source_of (k + 109) i W
        obtain ⟨U, hU⟩ : ∃ U, U = W ++ [src a b 0] := ⟨_, rfl⟩
        have hw : lk U W.length = some (src a b 0) := by rw [hU]; exact lk_app0
        have hUz : lk U (V.length + 2) = some (.lst (cs.map D.int)) := by rw [hU]; exact lk_old hW
        have hne : W.length ≠ V.length + 2 := by have := lk_lt hW; omega
        obtain ⟨r1, a1, c1, f1, p1, q1⟩ := next_s (k + 109) (L := [.lst [.int 1, .int 2, .int 4, .int 9, .int 64]]) (a := a) (b := b) (c := 0) (many := 5) hw (by decide) (by decide)
        rw [set_lk_self hw] at f1
        obtain ⟨d, g1, g2⟩ := at_in (ds := [.int 1, .int 2, .int 4, .int 9, .int 64]) p1 (by simpa using q1)
        have hd : d ∈ [D.int 1, .int 2, .int 4, .int 9, .int 64] := List.mem_of_getElem? g1
        obtain ⟨u, rfl, u1, u2⟩ : ∃ u : Int, d = .int u ∧ 1 ≤ u ∧ u ≤ 64 := by
          simp only [List.mem_cons, List.not_mem_nil, or_false] at hd
          rcases hd with rfl | rfl | rfl | rfl | rfl <;> exact ⟨_, rfl, by decide, by decide⟩
        clear g1 hd
        obtain ⟨r2, a2, c2, f2, -, -⟩ := next_s (k + 109) (L := []) (a := a1) (b := b) (c := c1) (many := 10 ^ 29) hw (by decide) (by decide)
        rw [List.append_nil, List.append_nil] at f2
        obtain ⟨r3, a3, c3, f3, p3, q3⟩ := next_s (k + 109) (L := [.lst []]) (a := a2) (b := b) (c := c2) (many := 61) hw (by decide) (by decide)
        have p28 : ∀ T, opD .Pow (.int 10) (.int 28) T = some (.int (10 ^ 28), T) := fun T => pow_int (n := 28) (by decide) (by decide)
        have p29 : ∀ T, opD .Pow (.int 10) (.int 29) T = some (.int (10 ^ 29), T) := fun T => pow_int (n := 29) (by decide) (by decide)
        have er : rngD 0 r3 = some ⟨(rangeI 0 (r3 - 0).toNat).map D.int, fun _ => true⟩ := rng_small (by omega) (by omega) (by omega) (by omega)
        have e1' : orc defs (k + 110) 13 [.int i] W = some (.loc W.length, U) := by rw [hU]; exact e1
        have hgc : gc W (.loc W.length) U = (.loc W.length, U) := by rw [hU]; exact gl_0 rfl
        have hUl : U.length = W.length + 1 := by rw [hU]; simp
        simp only [bnd_some, bnd_none, opt_some, opt_none, seqF_next, seqF_brk, seqF_cnt, seqF_ret, ts_nil, ts_cons, out_ret, out_next, ite_t, ite_f, bop_and_t, bop_and_f, bop_or_t, bop_or_f, bb_and_t, bb_and_f, bb_or_t, bb_or_f, slot_0, slot_s, e_con, b_con, e_var, b_var, e_glo, b_glo, e_tup, b_tup, e_lst, b_lst, e_dct, b_dct, e_op, b_op, e_neg, b_neg, e_not, b_not, e_bop, b_bop, e_cmp, b_cmp, e_chn, b_chn, e_ifx, b_ifx, e_ix, b_ix, e_sl, b_sl, e_call, b_call, e_callK, e_fnv, e_callL, fnIx_fn, e_bi, b_bi, e_mxd, b_mxd, e_isi, b_isi, e_isl, b_isl, e_lrg, b_lrg, e_mt, b_mt, e_lc, b_lc, e_rev, b_rev, e_gtp, e_lrg1, i_rng3, bop_1, bop_2, bb_1, bb_2, es_nil, es_cons, eo_none, eo_some, if_none, if_some, i_ex, i_rng1, i_rng2, i_enm, q_nm, q_tp, q_sb, setK_some, qs_nil, qs_cons, t_asg, t_aug, t_ex, t_ret, t_retN, t_iff, t_fr, t_whl, t_brk, t_cnt, t_pas, con_none, con_bool, con_int, con_str, neg_int, not_bl, int_int, add_int, sub_int, lt_int, le_int, gt_int, ge_int, eq_int, ne_int, is_nn, is_in, is_bb, isn_nn, isn_in, isn_bb, tr_non, tr_bl, tr_int, ty_non, ty_bl, ty_int, ty_tup, ty_ro, isa_int_int, isa_int_bool, isa_int_list, isa_int_tuple, isa_list_list, isa_list_tuple, isa_tuple_list, isa_tuple_tuple, sq_tup, sq_ro, bi_int_int, bi_int_bl, bi_tuple_tup, bi_min, bi_max, bi_len_tup, bi_len_ro, ix_tup, ix_ro, sl_tup, sl_ro, stays_tup, stays_ro, at_0, at_1, gc_ai, gc_aai, gc_aaai, gc_ab, gc_aab, gc_aaab, gc_an, gc_aan, gc_aaan, gc_same, wipe_nil, wipe_cons, sz_0, sz_1, sz_2, sz_3, sz_4, sz_5, sz_6, sz_7, sz_8, sz_9, sz_10, runDef, runFull, Def.full, startD, List.length_cons, List.length_nil, List.map_cons, List.map_nil, List.append_nil, List.nil_append, List.cons_append, List.drop_nil, List.drop_zero, List.drop_succ_cons, List.set_cons_zero, List.set_cons_succ, List.replicate, if_true, if_false, Bool.not_true, Bool.not_false, Bool.true_or, Bool.false_or, Option.map_some, Option.map_none, Nat.zero_add, Nat.add_zero, Nat.sub_self, Nat.reduceAdd, Nat.reduceSub, ↓reduceIte, Bool.and_true, Bool.true_and, Bool.false_and, Bool.and_false, Int.cast_ofNat_Int, decide_true, decide_false, Int.reduceEq, Int.reduceLT, Int.reduceLE, Bool.false_eq_true, List.append_assoc, List.length_append, lk_app, lk_app0, lk_sapp, lk_sapp0, lk_z, lk_s, st_app, st_app0, st_sapp, st_sapp0, len_set, set_set, sq_lk, ix_lk, sl_lk, len_lk, tuple_lk, list_lk, list_tup, ty_lk, stays_lk, set_lk, add_lk, app_lk, ext_lk, clear_lk, recv_lk, get2_lk, tr_lk, gp_0, gp_1, gp_2, gp_3, gp_4, gp_5, gp_6, gp_7, gp_8, ko_n, ko_s, ko_p, gq_1, gq_2, gq_3, gq_4, gq_5, gq_6, gq_7, gq_8, gq_9, gq_10, gq_11, gq_12, gq_13, gq_14, gq_15, gq_16, gcR, Nat.lt_irrefl, Nat.not_lt_zero, List.take_succ_cons, List.take_zero, List.take_nil, D.beqL_self, at_2, at_3, ixN, Nat.reduceLT, Nat.reduceLeDiff, Int.reduceToNat, Int.reduceNeg, Int.reduceSub, Int.reduceAdd, Int.reduceMul, sz_lt, Int.zero_add, mod_int, pr_int, pr_bl, pr_non, pr_str, pr_tup, pr_nil, pr_cons, pr_lst, pr_ints, pr_prs, pr_app, pr_kD, mt_1, mt_2, mt_3, mt_4, mt_5, mt_6, mt_7, rev_lk, max_lk, min_lk, sum_lk, any_lk, all_lk, count_lk, index_lk, pop_lk, eq_D, ne_D, eqD_ll, eqD_tt, eqL_ll, eqS_same, eqS_nil, eqS_ints, eqD_ii, eqD_kk, py_app, py_nil, py_cons, py_ints, py_int, py_bl, py_non, py_kD, py_links, py_prs, py_mapi, pr_mapi, pr_linksT, gt_np, pr_loc, pr_stps, pr_stp, aug_add, aug_sub, ko_app, take_left', len_aa, e1', hgc, f1, g2, p28, p29, f2, f3, er]
        generalize hX : forD _ _ _ _ _ _ = X
        have key := for_M hX (fun its σ Y => ∃ (a c kk : Int) (tw : Tws) (x10 : Option D), σ = [some (.ro (ns.map D.int)), some (.loc j), x2, x3, x4, some (.int i), some (.loc W.length), some (.int u), some (.int kk), some (.loc U.length), x10, x11, x12] ∧ Y = U.set W.length (src a b c) ++ [.lst (tw.map prD)] ∧ Fine tw ∧ (∀ p ∈ tw, p.1 ≤ kk) ∧ its.length + tw.length ≤ 60)
          (fun X => ∃ (a c kk : Int) (tw : Tws) (x10 : Option D), X = some (.next [some (.ro (ns.map D.int)), some (.loc j), x2, x3, x4, some (.int i), some (.loc W.length), some (.int u), some (.int kk), some (.loc U.length), x10, x11, x12], U.set W.length (src a b c) ++ [.lst (tw.map prD)]) ∧ Fine tw ∧ tw.length ≤ 60)
          ⟨a3, c3, _, [], _, rfl, rfl, trivial, (fun _ z => nomatch z), by rw [rangeI_len, List.length_nil]; omega⟩ ?_ ?_
        · obtain ⟨a4, c4, kk, tw, x10, rfl, h1, h2⟩ := key
          have e5 := rt (m := U.length) (S := U.set W.length (src a4 b c4) ++ [.lst (tw.map prD)]) (tw := tw) lk_sapp0 h1 (by omega)
          simp only [bnd_some, bnd_none, opt_some, opt_none, seqF_next, seqF_brk, seqF_cnt, seqF_ret, ts_nil, ts_cons, out_ret, out_next, ite_t, ite_f, bop_and_t, bop_and_f, bop_or_t, bop_or_f, bb_and_t, bb_and_f, bb_or_t, bb_or_f, slot_0, slot_s, e_con, b_con, e_var, b_var, e_glo, b_glo, e_tup, b_tup, e_lst, b_lst, e_dct, b_dct, e_op, b_op, e_neg, b_neg, e_not, b_not, e_bop, b_bop, e_cmp, b_cmp, e_chn, b_chn, e_ifx, b_ifx, e_ix, b_ix, e_sl, b_sl, e_call, b_call, e_callK, e_fnv, e_callL, fnIx_fn, e_bi, b_bi, e_mxd, b_mxd, e_isi, b_isi, e_isl, b_isl, e_lrg, b_lrg, e_mt, b_mt, e_lc, b_lc, e_rev, b_rev, e_gtp, e_lrg1, i_rng3, bop_1, bop_2, bb_1, bb_2, es_nil, es_cons, eo_none, eo_some, if_none, if_some, i_ex, i_rng1, i_rng2, i_enm, q_nm, q_tp, q_sb, setK_some, qs_nil, qs_cons, t_asg, t_aug, t_ex, t_ret, t_retN, t_iff, t_fr, t_whl, t_brk, t_cnt, t_pas, con_none, con_bool, con_int, con_str, neg_int, not_bl, int_int, add_int, sub_int, lt_int, le_int, gt_int, ge_int, eq_int, ne_int, is_nn, is_in, is_bb, isn_nn, isn_in, isn_bb, tr_non, tr_bl, tr_int, ty_non, ty_bl, ty_int, ty_tup, ty_ro, isa_int_int, isa_int_bool, isa_int_list, isa_int_tuple, isa_list_list, isa_list_tuple, isa_tuple_list, isa_tuple_tuple, sq_tup, sq_ro, bi_int_int, bi_int_bl, bi_tuple_tup, bi_min, bi_max, bi_len_tup, bi_len_ro, ix_tup, ix_ro, sl_tup, sl_ro, stays_tup, stays_ro, at_0, at_1, gc_ai, gc_aai, gc_aaai, gc_ab, gc_aab, gc_aaab, gc_an, gc_aan, gc_aaan, gc_same, wipe_nil, wipe_cons, sz_0, sz_1, sz_2, sz_3, sz_4, sz_5, sz_6, sz_7, sz_8, sz_9, sz_10, runDef, runFull, Def.full, startD, List.length_cons, List.length_nil, List.map_cons, List.map_nil, List.append_nil, List.nil_append, List.cons_append, List.drop_nil, List.drop_zero, List.drop_succ_cons, List.set_cons_zero, List.set_cons_succ, List.replicate, if_true, if_false, Bool.not_true, Bool.not_false, Bool.true_or, Bool.false_or, Option.map_some, Option.map_none, Nat.zero_add, Nat.add_zero, Nat.sub_self, Nat.reduceAdd, Nat.reduceSub, ↓reduceIte, Bool.and_true, Bool.true_and, Bool.false_and, Bool.and_false, Int.cast_ofNat_Int, decide_true, decide_false, Int.reduceEq, Int.reduceLT, Int.reduceLE, Bool.false_eq_true, List.append_assoc, List.length_append, lk_app, lk_app0, lk_sapp, lk_sapp0, lk_z, lk_s, st_app, st_app0, st_sapp, st_sapp0, len_set, set_set, sq_lk, ix_lk, sl_lk, len_lk, tuple_lk, list_lk, list_tup, ty_lk, stays_lk, set_lk, add_lk, app_lk, ext_lk, clear_lk, recv_lk, get2_lk, tr_lk, gp_0, gp_1, gp_2, gp_3, gp_4, gp_5, gp_6, gp_7, gp_8, ko_n, ko_s, ko_p, gq_1, gq_2, gq_3, gq_4, gq_5, gq_6, gq_7, gq_8, gq_9, gq_10, gq_11, gq_12, gq_13, gq_14, gq_15, gq_16, gcR, Nat.lt_irrefl, Nat.not_lt_zero, List.take_succ_cons, List.take_zero, List.take_nil, D.beqL_self, at_2, at_3, ixN, Nat.reduceLT, Nat.reduceLeDiff, Int.reduceToNat, Int.reduceNeg, Int.reduceSub, Int.reduceAdd, Int.reduceMul, sz_lt, Int.zero_add, mod_int, pr_int, pr_bl, pr_non, pr_str, pr_tup, pr_nil, pr_cons, pr_lst, pr_ints, pr_prs, pr_app, pr_kD, mt_1, mt_2, mt_3, mt_4, mt_5, mt_6, mt_7, rev_lk, max_lk, min_lk, sum_lk, any_lk, all_lk, count_lk, index_lk, pop_lk, eq_D, ne_D, eqD_ll, eqD_tt, eqL_ll, eqS_same, eqS_nil, eqS_ints, eqD_ii, eqD_kk, py_app, py_nil, py_cons, py_ints, py_int, py_bl, py_non, py_kD, py_links, py_prs, py_mapi, pr_mapi, pr_linksT, gt_np, pr_loc, pr_stps, pr_stp, aug_add, aug_sub, ko_app, take_left', len_aa, e5]
          exact ⟨⟨_, _, _, _, _, _, rfl⟩, lk_othera hUz hne⟩
        · rintro σ Y ⟨a, c, kk, tw, x10, rfl, rfl, h1, h2, h3⟩
          exact ⟨rfl, a, c, kk, tw, x10, rfl, h1, by simpa using h3⟩
        · clear hX X f1 f2 f3 er
          rintro t ts σ Y ⟨a, c, kk, tw, x10, rfl, rfl, h1, h2, h3⟩
          refine ⟨rfl, ?_⟩
          obtain ⟨r4, a4, c4, f4, p4, -⟩ := next_s (k + 109) (L := [.lst (tw.map prD)]) (a := a) (b := b) (c := c) (many := 3) hw (by decide) (by decide)
          obtain ⟨r5, a5, c5, f5, p5, -⟩ := next_s (k + 109) (L := [.lst (tw.map prD)]) (a := a4) (b := b) (c := c4) (many := u) hw (by omega) (log_of_le (by omega) (by omega))
          simp only [List.length_cons] at h3
          have hl : tw.length < sizeLine := lt_size (by omega)
          simp only [bnd_some, bnd_none, opt_some, opt_none, seqF_next, seqF_brk, seqF_cnt, seqF_ret, ts_nil, ts_cons, out_ret, out_next, ite_t, ite_f, bop_and_t, bop_and_f, bop_or_t, bop_or_f, bb_and_t, bb_and_f, bb_or_t, bb_or_f, slot_0, slot_s, e_con, b_con, e_var, b_var, e_glo, b_glo, e_tup, b_tup, e_lst, b_lst, e_dct, b_dct, e_op, b_op, e_neg, b_neg, e_not, b_not, e_bop, b_bop, e_cmp, b_cmp, e_chn, b_chn, e_ifx, b_ifx, e_ix, b_ix, e_sl, b_sl, e_call, b_call, e_callK, e_fnv, e_callL, fnIx_fn, e_bi, b_bi, e_mxd, b_mxd, e_isi, b_isi, e_isl, b_isl, e_lrg, b_lrg, e_mt, b_mt, e_lc, b_lc, e_rev, b_rev, e_gtp, e_lrg1, i_rng3, bop_1, bop_2, bb_1, bb_2, es_nil, es_cons, eo_none, eo_some, if_none, if_some, i_ex, i_rng1, i_rng2, i_enm, q_nm, q_tp, q_sb, setK_some, qs_nil, qs_cons, t_asg, t_aug, t_ex, t_ret, t_retN, t_iff, t_fr, t_whl, t_brk, t_cnt, t_pas, con_none, con_bool, con_int, con_str, neg_int, not_bl, int_int, add_int, sub_int, lt_int, le_int, gt_int, ge_int, eq_int, ne_int, is_nn, is_in, is_bb, isn_nn, isn_in, isn_bb, tr_non, tr_bl, tr_int, ty_non, ty_bl, ty_int, ty_tup, ty_ro, isa_int_int, isa_int_bool, isa_int_list, isa_int_tuple, isa_list_list, isa_list_tuple, isa_tuple_list, isa_tuple_tuple, sq_tup, sq_ro, bi_int_int, bi_int_bl, bi_tuple_tup, bi_min, bi_max, bi_len_tup, bi_len_ro, ix_tup, ix_ro, sl_tup, sl_ro, stays_tup, stays_ro, at_0, at_1, gc_ai, gc_aai, gc_aaai, gc_ab, gc_aab, gc_aaab, gc_an, gc_aan, gc_aaan, gc_same, wipe_nil, wipe_cons, sz_0, sz_1, sz_2, sz_3, sz_4, sz_5, sz_6, sz_7, sz_8, sz_9, sz_10, runDef, runFull, Def.full, startD, List.length_cons, List.length_nil, List.map_cons, List.map_nil, List.append_nil, List.nil_append, List.cons_append, List.drop_nil, List.drop_zero, List.drop_succ_cons, List.set_cons_zero, List.set_cons_succ, List.replicate, if_true, if_false, Bool.not_true, Bool.not_false, Bool.true_or, Bool.false_or, Option.map_some, Option.map_none, Nat.zero_add, Nat.add_zero, Nat.sub_self, Nat.reduceAdd, Nat.reduceSub, ↓reduceIte, Bool.and_true, Bool.true_and, Bool.false_and, Bool.and_false, Int.cast_ofNat_Int, decide_true, decide_false, Int.reduceEq, Int.reduceLT, Int.reduceLE, Bool.false_eq_true, List.append_assoc, List.length_append, lk_app, lk_app0, lk_sapp, lk_sapp0, lk_z, lk_s, st_app, st_app0, st_sapp, st_sapp0, len_set, set_set, sq_lk, ix_lk, sl_lk, len_lk, tuple_lk, list_lk, list_tup, ty_lk, stays_lk, set_lk, add_lk, app_lk, ext_lk, clear_lk, recv_lk, get2_lk, tr_lk, gp_0, gp_1, gp_2, gp_3, gp_4, gp_5, gp_6, gp_7, gp_8, ko_n, ko_s, ko_p, gq_1, gq_2, gq_3, gq_4, gq_5, gq_6, gq_7, gq_8, gq_9, gq_10, gq_11, gq_12, gq_13, gq_14, gq_15, gq_16, gcR, Nat.lt_irrefl, Nat.not_lt_zero, List.take_succ_cons, List.take_zero, List.take_nil, D.beqL_self, at_2, at_3, ixN, Nat.reduceLT, Nat.reduceLeDiff, Int.reduceToNat, Int.reduceNeg, Int.reduceSub, Int.reduceAdd, Int.reduceMul, sz_lt, Int.zero_add, mod_int, pr_int, pr_bl, pr_non, pr_str, pr_tup, pr_nil, pr_cons, pr_lst, pr_ints, pr_prs, pr_app, pr_kD, mt_1, mt_2, mt_3, mt_4, mt_5, mt_6, mt_7, rev_lk, max_lk, min_lk, sum_lk, any_lk, all_lk, count_lk, index_lk, pop_lk, eq_D, ne_D, eqD_ll, eqD_tt, eqL_ll, eqS_same, eqS_nil, eqS_ints, eqD_ii, eqD_kk, py_app, py_nil, py_cons, py_ints, py_int, py_bl, py_non, py_kD, py_links, py_prs, py_mapi, pr_mapi, pr_linksT, gt_np, pr_loc, pr_stps, pr_stp, aug_add, aug_sub, ko_app, take_left', len_aa, f4, f5, List.length_map, hl]
          refine ⟨a5, c5, kk + 1 + r4, tw ++ [(kk + 1 + r4, 1 + r5)], _, rfl, ?_, h1.snoc (fun q hq => ?_) ?_, fun p hp => ?_, ?_⟩
          · simp only [List.map_append, List.map_cons, List.map_nil, prD]
          · have := h2 q hq
            show q.1 < kk + 1 + r4
            omega
          · show (1 : Int) ≤ 1 + r5
            omega
          · rcases List.mem_append.mp hp with hp | hp
            · have := h2 p hp; omega
            · have e : p = (kk + 1 + r4, 1 + r5) := by simpa using hp
              rw [e]; exact Int.le_refl _
          · rw [List.length_append]; simp; omega
    · simp only [List.mem_cons, List.not_mem_nil, or_false] at ha
      rcases ha with rfl | rfl | rfl
      · refine ⟨on, by rw [hV, lk_app]; rfl, by rw [hon]; simp, fun x hx => ?_⟩
        rw [hon] at hx
        have := List.eq_of_mem_replicate hx
        omega
      · exact ⟨ri, by rw [hV, lk_app0]; rfl, hr1, hr2⟩
      · exact ⟨ri.reverse, by rw [hV, lk_app]; rfl, by rw [List.length_reverse]; exact hr1, fun x hx => hr2 x (List.mem_reverse.mp hx)⟩
    · rintro σ U ⟨rfl, ⟨x3, x4, rfl⟩, -⟩
      exact ⟨rfl, x3, x4, rfl⟩
    · clear hX X hm
      rintro a rest σ U ⟨rfl, ⟨x3', x4', rfl⟩, hq⟩
      refine ⟨rfl, ?_⟩
      obtain ⟨q, q1, q2, q3⟩ := hq a (List.mem_cons_self ..)
      simp only [bnd_some, bnd_none, opt_some, opt_none, seqF_next, seqF_brk, seqF_cnt, seqF_ret, ts_nil, ts_cons, out_ret, out_next, ite_t, ite_f, bop_and_t, bop_and_f, bop_or_t, bop_or_f, bb_and_t, bb_and_f, bb_or_t, bb_or_f, slot_0, slot_s, e_con, b_con, e_var, b_var, e_glo, b_glo, e_tup, b_tup, e_lst, b_lst, e_dct, b_dct, e_op, b_op, e_neg, b_neg, e_not, b_not, e_bop, b_bop, e_cmp, b_cmp, e_chn, b_chn, e_ifx, b_ifx, e_ix, b_ix, e_sl, b_sl, e_call, b_call, e_callK, e_fnv, e_callL, fnIx_fn, e_bi, b_bi, e_mxd, b_mxd, e_isi, b_isi, e_isl, b_isl, e_lrg, b_lrg, e_mt, b_mt, e_lc, b_lc, e_rev, b_rev, e_gtp, e_lrg1, i_rng3, bop_1, bop_2, bb_1, bb_2, es_nil, es_cons, eo_none, eo_some, if_none, if_some, i_ex, i_rng1, i_rng2, i_enm, q_nm, q_tp, q_sb, setK_some, qs_nil, qs_cons, t_asg, t_aug, t_ex, t_ret, t_retN, t_iff, t_fr, t_whl, t_brk, t_cnt, t_pas, con_none, con_bool, con_int, con_str, neg_int, not_bl, int_int, add_int, sub_int, lt_int, le_int, gt_int, ge_int, eq_int, ne_int, is_nn, is_in, is_bb, isn_nn, isn_in, isn_bb, tr_non, tr_bl, tr_int, ty_non, ty_bl, ty_int, ty_tup, ty_ro, isa_int_int, isa_int_bool, isa_int_list, isa_int_tuple, isa_list_list, isa_list_tuple, isa_tuple_list, isa_tuple_tuple, sq_tup, sq_ro, bi_int_int, bi_int_bl, bi_tuple_tup, bi_min, bi_max, bi_len_tup, bi_len_ro, ix_tup, ix_ro, sl_tup, sl_ro, stays_tup, stays_ro, at_0, at_1, gc_ai, gc_aai, gc_aaai, gc_ab, gc_aab, gc_aaab, gc_an, gc_aan, gc_aaan, gc_same, wipe_nil, wipe_cons, sz_0, sz_1, sz_2, sz_3, sz_4, sz_5, sz_6, sz_7, sz_8, sz_9, sz_10, runDef, runFull, Def.full, startD, List.length_cons, List.length_nil, List.map_cons, List.map_nil, List.append_nil, List.nil_append, List.cons_append, List.drop_nil, List.drop_zero, List.drop_succ_cons, List.set_cons_zero, List.set_cons_succ, List.replicate, if_true, if_false, Bool.not_true, Bool.not_false, Bool.true_or, Bool.false_or, Option.map_some, Option.map_none, Nat.zero_add, Nat.add_zero, Nat.sub_self, Nat.reduceAdd, Nat.reduceSub, ↓reduceIte, Bool.and_true, Bool.true_and, Bool.false_and, Bool.and_false, Int.cast_ofNat_Int, decide_true, decide_false, Int.reduceEq, Int.reduceLT, Int.reduceLE, Bool.false_eq_true, List.append_assoc, List.length_append, lk_app, lk_app0, lk_sapp, lk_sapp0, lk_z, lk_s, st_app, st_app0, st_sapp, st_sapp0, len_set, set_set, sq_lk, ix_lk, sl_lk, len_lk, tuple_lk, list_lk, list_tup, ty_lk, stays_lk, set_lk, add_lk, app_lk, ext_lk, clear_lk, recv_lk, get2_lk, tr_lk, gp_0, gp_1, gp_2, gp_3, gp_4, gp_5, gp_6, gp_7, gp_8, ko_n, ko_s, ko_p, gq_1, gq_2, gq_3, gq_4, gq_5, gq_6, gq_7, gq_8, gq_9, gq_10, gq_11, gq_12, gq_13, gq_14, gq_15, gq_16, gcR, Nat.lt_irrefl, Nat.not_lt_zero, List.take_succ_cons, List.take_zero, List.take_nil, D.beqL_self, at_2, at_3, ixN, Nat.reduceLT, Nat.reduceLeDiff, Int.reduceToNat, Int.reduceNeg, Int.reduceSub, Int.reduceAdd, Int.reduceMul, sz_lt, Int.zero_add, mod_int, pr_int, pr_bl, pr_non, pr_str, pr_tup, pr_nil, pr_cons, pr_lst, pr_ints, pr_prs, pr_app, pr_kD, mt_1, mt_2, mt_3, mt_4, mt_5, mt_6, mt_7, rev_lk, max_lk, min_lk, sum_lk, any_lk, all_lk, count_lk, index_lk, pop_lk, eq_D, ne_D, eqD_ll, eqD_tt, eqL_ll, eqS_same, eqS_nil, eqS_ints, eqD_ii, eqD_kk, py_app, py_nil, py_cons, py_ints, py_int, py_bl, py_non, py_kD, py_links, py_prs, py_mapi, pr_mapi, pr_linksT, gt_np, pr_loc, pr_stps, pr_stp, aug_add, aug_sub, ko_app, take_left', len_aa, q1, enumD_ints]
      generalize hX : lcD _ _ _ _ _ _ _ = X
      have e := lc_f (fun p => prD (3 * p.1, p.2)) hX (by rw [stays_lk, q1]; exact D.beqL_self _) (le_size (by rw [enI_len]; simp; omega)) (fun p hp => by simp only [bnd_some, bnd_none, opt_some, opt_none, seqF_next, seqF_brk, seqF_cnt, seqF_ret, ts_nil, ts_cons, out_ret, out_next, ite_t, ite_f, bop_and_t, bop_and_f, bop_or_t, bop_or_f, bb_and_t, bb_and_f, bb_or_t, bb_or_f, slot_0, slot_s, e_con, b_con, e_var, b_var, e_glo, b_glo, e_tup, b_tup, e_lst, b_lst, e_dct, b_dct, e_op, b_op, e_neg, b_neg, e_not, b_not, e_bop, b_bop, e_cmp, b_cmp, e_chn, b_chn, e_ifx, b_ifx, e_ix, b_ix, e_sl, b_sl, e_call, b_call, e_callK, e_fnv, e_callL, fnIx_fn, e_bi, b_bi, e_mxd, b_mxd, e_isi, b_isi, e_isl, b_isl, e_lrg, b_lrg, e_mt, b_mt, e_lc, b_lc, e_rev, b_rev, e_gtp, e_lrg1, i_rng3, bop_1, bop_2, bb_1, bb_2, es_nil, es_cons, eo_none, eo_some, if_none, if_some, i_ex, i_rng1, i_rng2, i_enm, q_nm, q_tp, q_sb, setK_some, qs_nil, qs_cons, t_asg, t_aug, t_ex, t_ret, t_retN, t_iff, t_fr, t_whl, t_brk, t_cnt, t_pas, con_none, con_bool, con_int, con_str, neg_int, not_bl, int_int, add_int, sub_int, lt_int, le_int, gt_int, ge_int, eq_int, ne_int, is_nn, is_in, is_bb, isn_nn, isn_in, isn_bb, tr_non, tr_bl, tr_int, ty_non, ty_bl, ty_int, ty_tup, ty_ro, isa_int_int, isa_int_bool, isa_int_list, isa_int_tuple, isa_list_list, isa_list_tuple, isa_tuple_list, isa_tuple_tuple, sq_tup, sq_ro, bi_int_int, bi_int_bl, bi_tuple_tup, bi_min, bi_max, bi_len_tup, bi_len_ro, ix_tup, ix_ro, sl_tup, sl_ro, stays_tup, stays_ro, at_0, at_1, gc_ai, gc_aai, gc_aaai, gc_ab, gc_aab, gc_aaab, gc_an, gc_aan, gc_aaan, gc_same, wipe_nil, wipe_cons, sz_0, sz_1, sz_2, sz_3, sz_4, sz_5, sz_6, sz_7, sz_8, sz_9, sz_10, runDef, runFull, Def.full, startD, List.length_cons, List.length_nil, List.map_cons, List.map_nil, List.append_nil, List.nil_append, List.cons_append, List.drop_nil, List.drop_zero, List.drop_succ_cons, List.set_cons_zero, List.set_cons_succ, List.replicate, if_true, if_false, Bool.not_true, Bool.not_false, Bool.true_or, Bool.false_or, Option.map_some, Option.map_none, Nat.zero_add, Nat.add_zero, Nat.sub_self, Nat.reduceAdd, Nat.reduceSub, ↓reduceIte, Bool.and_true, Bool.true_and, Bool.false_and, Bool.and_false, Int.cast_ofNat_Int, decide_true, decide_false, Int.reduceEq, Int.reduceLT, Int.reduceLE, Bool.false_eq_true, List.append_assoc, List.length_append, lk_app, lk_app0, lk_sapp, lk_sapp0, lk_z, lk_s, st_app, st_app0, st_sapp, st_sapp0, len_set, set_set, sq_lk, ix_lk, sl_lk, len_lk, tuple_lk, list_lk, list_tup, ty_lk, stays_lk, set_lk, add_lk, app_lk, ext_lk, clear_lk, recv_lk, get2_lk, tr_lk, gp_0, gp_1, gp_2, gp_3, gp_4, gp_5, gp_6, gp_7, gp_8, ko_n, ko_s, ko_p, gq_1, gq_2, gq_3, gq_4, gq_5, gq_6, gq_7, gq_8, gq_9, gq_10, gq_11, gq_12, gq_13, gq_14, gq_15, gq_16, gcR, Nat.lt_irrefl, Nat.not_lt_zero, List.take_succ_cons, List.take_zero, List.take_nil, D.beqL_self, at_2, at_3, ixN, Nat.reduceLT, Nat.reduceLeDiff, Int.reduceToNat, Int.reduceNeg, Int.reduceSub, Int.reduceAdd, Int.reduceMul, sz_lt, Int.zero_add, mod_int, pr_int, pr_bl, pr_non, pr_str, pr_tup, pr_nil, pr_cons, pr_lst, pr_ints, pr_prs, pr_app, pr_kD, mt_1, mt_2, mt_3, mt_4, mt_5, mt_6, mt_7, rev_lk, max_lk, min_lk, sum_lk, any_lk, all_lk, count_lk, index_lk, pop_lk, eq_D, ne_D, eqD_ll, eqD_tt, eqL_ll, eqS_same, eqS_nil, eqS_ints, eqD_ii, eqD_kk, py_app, py_nil, py_cons, py_ints, py_int, py_bl, py_non, py_kD, py_links, py_prs, py_mapi, pr_mapi, pr_linksT, gt_np, pr_loc, pr_stps, pr_stp, aug_add, aug_sub, ko_app, take_left', len_aa, lcS, ite_b, bnd_if, seqF_if, out_if, bopB_and, bopB_or, bopD_and, bopD_or, if_same_bool, if_bf, if_bx, if_xt, prD, mul_l (show (3 : Int).natAbs < 2 ^ 64 by decide)])
      subst e
      clear hX
      have em : (enI 0 q).map (fun p => prD (3 * p.1, p.2)) = ((enI 0 q).map fun p => (3 * p.1 + 0, p.2)).map prD := by rw [List.map_map]; simp only [Int.add_zero]; rfl
      have e1 := rt (m := U.length) (S := U ++ [.lst (((enI 0 q).map fun p => (3 * p.1 + 0, p.2)).map prD)]) lk_app0 (fine_enI (by decide) q3) (by rw [List.length_map, enI_len]; omega)
      simp only [bnd_some, bnd_none, opt_some, opt_none, seqF_next, seqF_brk, seqF_cnt, seqF_ret, ts_nil, ts_cons, out_ret, out_next, ite_t, ite_f, bop_and_t, bop_and_f, bop_or_t, bop_or_f, bb_and_t, bb_and_f, bb_or_t, bb_or_f, slot_0, slot_s, e_con, b_con, e_var, b_var, e_glo, b_glo, e_tup, b_tup, e_lst, b_lst, e_dct, b_dct, e_op, b_op, e_neg, b_neg, e_not, b_not, e_bop, b_bop, e_cmp, b_cmp, e_chn, b_chn, e_ifx, b_ifx, e_ix, b_ix, e_sl, b_sl, e_call, b_call, e_callK, e_fnv, e_callL, fnIx_fn, e_bi, b_bi, e_mxd, b_mxd, e_isi, b_isi, e_isl, b_isl, e_lrg, b_lrg, e_mt, b_mt, e_lc, b_lc, e_rev, b_rev, e_gtp, e_lrg1, i_rng3, bop_1, bop_2, bb_1, bb_2, es_nil, es_cons, eo_none, eo_some, if_none, if_some, i_ex, i_rng1, i_rng2, i_enm, q_nm, q_tp, q_sb, setK_some, qs_nil, qs_cons, t_asg, t_aug, t_ex, t_ret, t_retN, t_iff, t_fr, t_whl, t_brk, t_cnt, t_pas, con_none, con_bool, con_int, con_str, neg_int, not_bl, int_int, add_int, sub_int, lt_int, le_int, gt_int, ge_int, eq_int, ne_int, is_nn, is_in, is_bb, isn_nn, isn_in, isn_bb, tr_non, tr_bl, tr_int, ty_non, ty_bl, ty_int, ty_tup, ty_ro, isa_int_int, isa_int_bool, isa_int_list, isa_int_tuple, isa_list_list, isa_list_tuple, isa_tuple_list, isa_tuple_tuple, sq_tup, sq_ro, bi_int_int, bi_int_bl, bi_tuple_tup, bi_min, bi_max, bi_len_tup, bi_len_ro, ix_tup, ix_ro, sl_tup, sl_ro, stays_tup, stays_ro, at_0, at_1, gc_ai, gc_aai, gc_aaai, gc_ab, gc_aab, gc_aaab, gc_an, gc_aan, gc_aaan, gc_same, wipe_nil, wipe_cons, sz_0, sz_1, sz_2, sz_3, sz_4, sz_5, sz_6, sz_7, sz_8, sz_9, sz_10, runDef, runFull, Def.full, startD, List.length_cons, List.length_nil, List.map_cons, List.map_nil, List.append_nil, List.nil_append, List.cons_append, List.drop_nil, List.drop_zero, List.drop_succ_cons, List.set_cons_zero, List.set_cons_succ, List.replicate, if_true, if_false, Bool.not_true, Bool.not_false, Bool.true_or, Bool.false_or, Option.map_some, Option.map_none, Nat.zero_add, Nat.add_zero, Nat.sub_self, Nat.reduceAdd, Nat.reduceSub, ↓reduceIte, Bool.and_true, Bool.true_and, Bool.false_and, Bool.and_false, Int.cast_ofNat_Int, decide_true, decide_false, Int.reduceEq, Int.reduceLT, Int.reduceLE, Bool.false_eq_true, List.append_assoc, List.length_append, lk_app, lk_app0, lk_sapp, lk_sapp0, lk_z, lk_s, st_app, st_app0, st_sapp, st_sapp0, len_set, set_set, sq_lk, ix_lk, sl_lk, len_lk, tuple_lk, list_lk, list_tup, ty_lk, stays_lk, set_lk, add_lk, app_lk, ext_lk, clear_lk, recv_lk, get2_lk, tr_lk, gp_0, gp_1, gp_2, gp_3, gp_4, gp_5, gp_6, gp_7, gp_8, ko_n, ko_s, ko_p, gq_1, gq_2, gq_3, gq_4, gq_5, gq_6, gq_7, gq_8, gq_9, gq_10, gq_11, gq_12, gq_13, gq_14, gq_15, gq_16, gcR, Nat.lt_irrefl, Nat.not_lt_zero, List.take_succ_cons, List.take_zero, List.take_nil, D.beqL_self, at_2, at_3, ixN, Nat.reduceLT, Nat.reduceLeDiff, Int.reduceToNat, Int.reduceNeg, Int.reduceSub, Int.reduceAdd, Int.reduceMul, sz_lt, Int.zero_add, mod_int, pr_int, pr_bl, pr_non, pr_str, pr_tup, pr_nil, pr_cons, pr_lst, pr_ints, pr_prs, pr_app, pr_kD, mt_1, mt_2, mt_3, mt_4, mt_5, mt_6, mt_7, rev_lk, max_lk, min_lk, sum_lk, any_lk, all_lk, count_lk, index_lk, pop_lk, eq_D, ne_D, eqD_ll, eqD_tt, eqL_ll, eqS_same, eqS_nil, eqS_ints, eqD_ii, eqD_kk, py_app, py_nil, py_cons, py_ints, py_int, py_bl, py_non, py_kD, py_links, py_prs, py_mapi, pr_mapi, pr_linksT, gt_np, pr_loc, pr_stps, pr_stp, aug_add, aug_sub, ko_app, take_left', len_aa, em, e1]
      exact ⟨rfl, ⟨_, _, rfl⟩, fun p hp => hq p (List.mem_cons_of_mem _ hp)⟩
  · have : q = [] := by simpa using hq
    subst this
    exact ⟨by simp [rangeI_len], fun x hx => by cases hx⟩
  · rintro σ T ⟨j, rows, x2, x3, x4, x5, x6, x7, x8, x9, x10, x11, x12, rfl, -⟩
    exact ⟨rfl, j, x2, x3, x4, x5, x6, x7, x8, x9, x10, x11, x12, T, rfl⟩
  · clear hX X
    rintro i r σ T ⟨j, rows, x2, x3, x4, x5, x6, x7, x8, x9, x10, x11, x12, rfl, hT, h1, h2, h3⟩
    refine ⟨rfl, ?_⟩
    simp only [List.length_cons] at h1 h2 h3
    simp only [bnd_some, bnd_none, opt_some, opt_none, seqF_next, seqF_brk, seqF_cnt, seqF_ret, ts_nil, ts_cons, out_ret, out_next, ite_t, ite_f, bop_and_t, bop_and_f, bop_or_t, bop_or_f, bb_and_t, bb_and_f, bb_or_t, bb_or_f, slot_0, slot_s, e_con, b_con, e_var, b_var, e_glo, b_glo, e_tup, b_tup, e_lst, b_lst, e_dct, b_dct, e_op, b_op, e_neg, b_neg, e_not, b_not, e_bop, b_bop, e_cmp, b_cmp, e_chn, b_chn, e_ifx, b_ifx, e_ix, b_ix, e_sl, b_sl, e_call, b_call, e_callK, e_fnv, e_callL, fnIx_fn, e_bi, b_bi, e_mxd, b_mxd, e_isi, b_isi, e_isl, b_isl, e_lrg, b_lrg, e_mt, b_mt, e_lc, b_lc, e_rev, b_rev, e_gtp, e_lrg1, i_rng3, bop_1, bop_2, bb_1, bb_2, es_nil, es_cons, eo_none, eo_some, if_none, if_some, i_ex, i_rng1, i_rng2, i_enm, q_nm, q_tp, q_sb, setK_some, qs_nil, qs_cons, t_asg, t_aug, t_ex, t_ret, t_retN, t_iff, t_fr, t_whl, t_brk, t_cnt, t_pas, con_none, con_bool, con_int, con_str, neg_int, not_bl, int_int, add_int, sub_int, lt_int, le_int, gt_int, ge_int, eq_int, ne_int, is_nn, is_in, is_bb, isn_nn, isn_in, isn_bb, tr_non, tr_bl, tr_int, ty_non, ty_bl, ty_int, ty_tup, ty_ro, isa_int_int, isa_int_bool, isa_int_list, isa_int_tuple, isa_list_list, isa_list_tuple, isa_tuple_list, isa_tuple_tuple, sq_tup, sq_ro, bi_int_int, bi_int_bl, bi_tuple_tup, bi_min, bi_max, bi_len_tup, bi_len_ro, ix_tup, ix_ro, sl_tup, sl_ro, stays_tup, stays_ro, at_0, at_1, gc_ai, gc_aai, gc_aaai, gc_ab, gc_aab, gc_aaab, gc_an, gc_aan, gc_aaan, gc_same, wipe_nil, wipe_cons, sz_0, sz_1, sz_2, sz_3, sz_4, sz_5, sz_6, sz_7, sz_8, sz_9, sz_10, runDef, runFull, Def.full, startD, List.length_cons, List.length_nil, List.map_cons, List.map_nil, List.append_nil, List.nil_append, List.cons_append, List.drop_nil, List.drop_zero, List.drop_succ_cons, List.set_cons_zero, List.set_cons_succ, List.replicate, if_true, if_false, Bool.not_true, Bool.not_false, Bool.true_or, Bool.false_or, Option.map_some, Option.map_none, Nat.zero_add, Nat.add_zero, Nat.sub_self, Nat.reduceAdd, Nat.reduceSub, ↓reduceIte, Bool.and_true, Bool.true_and, Bool.false_and, Bool.and_false, Int.cast_ofNat_Int, decide_true, decide_false, Int.reduceEq, Int.reduceLT, Int.reduceLE, Bool.false_eq_true, List.append_assoc, List.length_append, lk_app, lk_app0, lk_sapp, lk_sapp0, lk_z, lk_s, st_app, st_app0, st_sapp, st_sapp0, len_set, set_set, sq_lk, ix_lk, sl_lk, len_lk, tuple_lk, list_lk, list_tup, ty_lk, stays_lk, set_lk, add_lk, app_lk, ext_lk, clear_lk, recv_lk, get2_lk, tr_lk, gp_0, gp_1, gp_2, gp_3, gp_4, gp_5, gp_6, gp_7, gp_8, ko_n, ko_s, ko_p, gq_1, gq_2, gq_3, gq_4, gq_5, gq_6, gq_7, gq_8, gq_9, gq_10, gq_11, gq_12, gq_13, gq_14, gq_15, gq_16, gcR, Nat.lt_irrefl, Nat.not_lt_zero, List.take_succ_cons, List.take_zero, List.take_nil, D.beqL_self, at_2, at_3, ixN, Nat.reduceLT, Nat.reduceLeDiff, Int.reduceToNat, Int.reduceNeg, Int.reduceSub, Int.reduceAdd, Int.reduceMul, sz_lt, Int.zero_add, mod_int, pr_int, pr_bl, pr_non, pr_str, pr_tup, pr_nil, pr_cons, pr_lst, pr_ints, pr_prs, pr_app, pr_kD, mt_1, mt_2, mt_3, mt_4, mt_5, mt_6, mt_7, rev_lk, max_lk, min_lk, sum_lk, any_lk, all_lk, count_lk, index_lk, pop_lk, eq_D, ne_D, eqD_ll, eqD_tt, eqL_ll, eqS_same, eqS_nil, eqS_ints, eqD_ii, eqD_kk, py_app, py_nil, py_cons, py_ints, py_int, py_bl, py_non, py_kD, py_links, py_prs, py_mapi, pr_mapi, pr_linksT, gt_np, pr_loc, pr_stps, pr_stp, aug_add, aug_sub, ko_app, take_left', len_aa, hT]
    generalize hX : forD _ _ _ _ _ _ = X
    have key := for_M hX (fun rest σ U => U = T ∧ (∃ x3 : Option D, σ = [some (.ro (ns.map D.int)), some (.loc j), some (.int i), x3, x4, x5, x6, x7, x8, x9, x10, x11, x12]) ∧ ∀ q ∈ rest, q ∈ rows)
      (fun X => ∃ x3 : Option D, X = some (.next [some (.ro (ns.map D.int)), some (.loc j), some (.int i), x3, x4, x5, x6, x7, x8, x9, x10, x11, x12], T)) ⟨rfl, ⟨_, rfl⟩, fun q hq => hq⟩ ?_ ?_
    · obtain ⟨x3, rfl⟩ := key
      have hp : 3 ^ (6 - (r.length + 1)) ≤ 3 ^ 5 := Nat.pow_le_pow_right (by omega) (by omega)
      obtain ⟨rows', e1, e2, e3⟩ := longer_of (k + 109) hT (by have : 3 ^ 5 = 243 := by decide
                                                               omega) (fun q hq => ⟨by have := (h3 q hq).1; omega, (h3 q hq).2⟩)
      simp only [bnd_some, bnd_none, opt_some, opt_none, seqF_next, seqF_brk, seqF_cnt, seqF_ret, ts_nil, ts_cons, out_ret, out_next, ite_t, ite_f, bop_and_t, bop_and_f, bop_or_t, bop_or_f, bb_and_t, bb_and_f, bb_or_t, bb_or_f, slot_0, slot_s, e_con, b_con, e_var, b_var, e_glo, b_glo, e_tup, b_tup, e_lst, b_lst, e_dct, b_dct, e_op, b_op, e_neg, b_neg, e_not, b_not, e_bop, b_bop, e_cmp, b_cmp, e_chn, b_chn, e_ifx, b_ifx, e_ix, b_ix, e_sl, b_sl, e_call, b_call, e_callK, e_fnv, e_callL, fnIx_fn, e_bi, b_bi, e_mxd, b_mxd, e_isi, b_isi, e_isl, b_isl, e_lrg, b_lrg, e_mt, b_mt, e_lc, b_lc, e_rev, b_rev, e_gtp, e_lrg1, i_rng3, bop_1, bop_2, bb_1, bb_2, es_nil, es_cons, eo_none, eo_some, if_none, if_some, i_ex, i_rng1, i_rng2, i_enm, q_nm, q_tp, q_sb, setK_some, qs_nil, qs_cons, t_asg, t_aug, t_ex, t_ret, t_retN, t_iff, t_fr, t_whl, t_brk, t_cnt, t_pas, con_none, con_bool, con_int, con_str, neg_int, not_bl, int_int, add_int, sub_int, lt_int, le_int, gt_int, ge_int, eq_int, ne_int, is_nn, is_in, is_bb, isn_nn, isn_in, isn_bb, tr_non, tr_bl, tr_int, ty_non, ty_bl, ty_int, ty_tup, ty_ro, isa_int_int, isa_int_bool, isa_int_list, isa_int_tuple, isa_list_list, isa_list_tuple, isa_tuple_list, isa_tuple_tuple, sq_tup, sq_ro, bi_int_int, bi_int_bl, bi_tuple_tup, bi_min, bi_max, bi_len_tup, bi_len_ro, ix_tup, ix_ro, sl_tup, sl_ro, stays_tup, stays_ro, at_0, at_1, gc_ai, gc_aai, gc_aaai, gc_ab, gc_aab, gc_aaab, gc_an, gc_aan, gc_aaan, gc_same, wipe_nil, wipe_cons, sz_0, sz_1, sz_2, sz_3, sz_4, sz_5, sz_6, sz_7, sz_8, sz_9, sz_10, runDef, runFull, Def.full, startD, List.length_cons, List.length_nil, List.map_cons, List.map_nil, List.append_nil, List.nil_append, List.cons_append, List.drop_nil, List.drop_zero, List.drop_succ_cons, List.set_cons_zero, List.set_cons_succ, List.replicate, if_true, if_false, Bool.not_true, Bool.not_false, Bool.true_or, Bool.false_or, Option.map_some, Option.map_none, Nat.zero_add, Nat.add_zero, Nat.sub_self, Nat.reduceAdd, Nat.reduceSub, ↓reduceIte, Bool.and_true, Bool.true_and, Bool.false_and, Bool.and_false, Int.cast_ofNat_Int, decide_true, decide_false, Int.reduceEq, Int.reduceLT, Int.reduceLE, Bool.false_eq_true, List.append_assoc, List.length_append, lk_app, lk_app0, lk_sapp, lk_sapp0, lk_z, lk_s, st_app, st_app0, st_sapp, st_sapp0, len_set, set_set, sq_lk, ix_lk, sl_lk, len_lk, tuple_lk, list_lk, list_tup, ty_lk, stays_lk, set_lk, add_lk, app_lk, ext_lk, clear_lk, recv_lk, get2_lk, tr_lk, gp_0, gp_1, gp_2, gp_3, gp_4, gp_5, gp_6, gp_7, gp_8, ko_n, ko_s, ko_p, gq_1, gq_2, gq_3, gq_4, gq_5, gq_6, gq_7, gq_8, gq_9, gq_10, gq_11, gq_12, gq_13, gq_14, gq_15, gq_16, gcR, Nat.lt_irrefl, Nat.not_lt_zero, List.take_succ_cons, List.take_zero, List.take_nil, D.beqL_self, at_2, at_3, ixN, Nat.reduceLT, Nat.reduceLeDiff, Int.reduceToNat, Int.reduceNeg, Int.reduceSub, Int.reduceAdd, Int.reduceMul, sz_lt, Int.zero_add, mod_int, pr_int, pr_bl, pr_non, pr_str, pr_tup, pr_nil, pr_cons, pr_lst, pr_ints, pr_prs, pr_app, pr_kD, mt_1, mt_2, mt_3, mt_4, mt_5, mt_6, mt_7, rev_lk, max_lk, min_lk, sum_lk, any_lk, all_lk, count_lk, index_lk, pop_lk, eq_D, ne_D, eqD_ll, eqD_tt, eqL_ll, eqS_same, eqS_nil, eqS_ints, eqD_ii, eqD_kk, py_app, py_nil, py_cons, py_ints, py_int, py_bl, py_non, py_kD, py_links, py_prs, py_mapi, pr_mapi, pr_linksT, gt_np, pr_loc, pr_stps, pr_stp, aug_add, aug_sub, ko_app, take_left', len_aa, e1, pr_rows]
      refine ⟨T.length, rows', _, _, _, _, _, _, _, _, _, _, _, rfl, lk_app0, by omega, ?_, fun q hq => ?_⟩
      · have : 6 - r.length = (6 - (r.length + 1)) + 1 := by omega
        rw [this, Nat.pow_succ]; omega
      · obtain ⟨p, hp, g1, g2⟩ := e3 q hq
        exact ⟨by have := (h3 p hp).1; omega, g2⟩
    · rintro σ U ⟨rfl, ⟨x3, rfl⟩, -⟩
      exact ⟨by rw [stays_lk, hT]; exact D.beqL_self _, x3, rfl⟩
    · clear hX X
      rintro q rest σ U ⟨rfl, ⟨x3', rfl⟩, hq⟩
      refine ⟨by rw [stays_lk, hT]; exact D.beqL_self _, ?_⟩
      have hq1 := h3 q (hq q (List.mem_cons_self ..))
      simp only [bnd_some, bnd_none, opt_some, opt_none, seqF_next, seqF_brk, seqF_cnt, seqF_ret, ts_nil, ts_cons, out_ret, out_next, ite_t, ite_f, bop_and_t, bop_and_f, bop_or_t, bop_or_f, bb_and_t, bb_and_f, bb_or_t, bb_or_f, slot_0, slot_s, e_con, b_con, e_var, b_var, e_glo, b_glo, e_tup, b_tup, e_lst, b_lst, e_dct, b_dct, e_op, b_op, e_neg, b_neg, e_not, b_not, e_bop, b_bop, e_cmp, b_cmp, e_chn, b_chn, e_ifx, b_ifx, e_ix, b_ix, e_sl, b_sl, e_call, b_call, e_callK, e_fnv, e_callL, fnIx_fn, e_bi, b_bi, e_mxd, b_mxd, e_isi, b_isi, e_isl, b_isl, e_lrg, b_lrg, e_mt, b_mt, e_lc, b_lc, e_rev, b_rev, e_gtp, e_lrg1, i_rng3, bop_1, bop_2, bb_1, bb_2, es_nil, es_cons, eo_none, eo_some, if_none, if_some, i_ex, i_rng1, i_rng2, i_enm, q_nm, q_tp, q_sb, setK_some, qs_nil, qs_cons, t_asg, t_aug, t_ex, t_ret, t_retN, t_iff, t_fr, t_whl, t_brk, t_cnt, t_pas, con_none, con_bool, con_int, con_str, neg_int, not_bl, int_int, add_int, sub_int, lt_int, le_int, gt_int, ge_int, eq_int, ne_int, is_nn, is_in, is_bb, isn_nn, isn_in, isn_bb, tr_non, tr_bl, tr_int, ty_non, ty_bl, ty_int, ty_tup, ty_ro, isa_int_int, isa_int_bool, isa_int_list, isa_int_tuple, isa_list_list, isa_list_tuple, isa_tuple_list, isa_tuple_tuple, sq_tup, sq_ro, bi_int_int, bi_int_bl, bi_tuple_tup, bi_min, bi_max, bi_len_tup, bi_len_ro, ix_tup, ix_ro, sl_tup, sl_ro, stays_tup, stays_ro, at_0, at_1, gc_ai, gc_aai, gc_aaai, gc_ab, gc_aab, gc_aaab, gc_an, gc_aan, gc_aaan, gc_same, wipe_nil, wipe_cons, sz_0, sz_1, sz_2, sz_3, sz_4, sz_5, sz_6, sz_7, sz_8, sz_9, sz_10, runDef, runFull, Def.full, startD, List.length_cons, List.length_nil, List.map_cons, List.map_nil, List.append_nil, List.nil_append, List.cons_append, List.drop_nil, List.drop_zero, List.drop_succ_cons, List.set_cons_zero, List.set_cons_succ, List.replicate, if_true, if_false, Bool.not_true, Bool.not_false, Bool.true_or, Bool.false_or, Option.map_some, Option.map_none, Nat.zero_add, Nat.add_zero, Nat.sub_self, Nat.reduceAdd, Nat.reduceSub, ↓reduceIte, Bool.and_true, Bool.true_and, Bool.false_and, Bool.and_false, Int.cast_ofNat_Int, decide_true, decide_false, Int.reduceEq, Int.reduceLT, Int.reduceLE, Bool.false_eq_true, List.append_assoc, List.length_append, lk_app, lk_app0, lk_sapp, lk_sapp0, lk_z, lk_s, st_app, st_app0, st_sapp, st_sapp0, len_set, set_set, sq_lk, ix_lk, sl_lk, len_lk, tuple_lk, list_lk, list_tup, ty_lk, stays_lk, set_lk, add_lk, app_lk, ext_lk, clear_lk, recv_lk, get2_lk, tr_lk, gp_0, gp_1, gp_2, gp_3, gp_4, gp_5, gp_6, gp_7, gp_8, ko_n, ko_s, ko_p, gq_1, gq_2, gq_3, gq_4, gq_5, gq_6, gq_7, gq_8, gq_9, gq_10, gq_11, gq_12, gq_13, gq_14, gq_15, gq_16, gcR, Nat.lt_irrefl, Nat.not_lt_zero, List.take_succ_cons, List.take_zero, List.take_nil, D.beqL_self, at_2, at_3, ixN, Nat.reduceLT, Nat.reduceLeDiff, Int.reduceToNat, Int.reduceNeg, Int.reduceSub, Int.reduceAdd, Int.reduceMul, sz_lt, Int.zero_add, mod_int, pr_int, pr_bl, pr_non, pr_str, pr_tup, pr_nil, pr_cons, pr_lst, pr_ints, pr_prs, pr_app, pr_kD, mt_1, mt_2, mt_3, mt_4, mt_5, mt_6, mt_7, rev_lk, max_lk, min_lk, sum_lk, any_lk, all_lk, count_lk, index_lk, pop_lk, eq_D, ne_D, eqD_ll, eqD_tt, eqL_ll, eqS_same, eqS_nil, eqS_ints, eqD_ii, eqD_kk, py_app, py_nil, py_cons, py_ints, py_int, py_bl, py_non, py_kD, py_links, py_prs, py_mapi, pr_mapi, pr_linksT, gt_np, pr_loc, pr_stps, pr_stp, aug_add, aug_sub, ko_app, take_left', len_aa, rwD, enumD_ints]
      generalize hX : lcD _ _ _ _ _ _ _ = X
      have e := lc_f (fun p => prD (7 * p.1 - 10, p.2)) hX rfl (le_size (by rw [enI_len]; simp; omega)) (fun p hp => by simp only [bnd_some, bnd_none, opt_some, opt_none, seqF_next, seqF_brk, seqF_cnt, seqF_ret, ts_nil, ts_cons, out_ret, out_next, ite_t, ite_f, bop_and_t, bop_and_f, bop_or_t, bop_or_f, bb_and_t, bb_and_f, bb_or_t, bb_or_f, slot_0, slot_s, e_con, b_con, e_var, b_var, e_glo, b_glo, e_tup, b_tup, e_lst, b_lst, e_dct, b_dct, e_op, b_op, e_neg, b_neg, e_not, b_not, e_bop, b_bop, e_cmp, b_cmp, e_chn, b_chn, e_ifx, b_ifx, e_ix, b_ix, e_sl, b_sl, e_call, b_call, e_callK, e_fnv, e_callL, fnIx_fn, e_bi, b_bi, e_mxd, b_mxd, e_isi, b_isi, e_isl, b_isl, e_lrg, b_lrg, e_mt, b_mt, e_lc, b_lc, e_rev, b_rev, e_gtp, e_lrg1, i_rng3, bop_1, bop_2, bb_1, bb_2, es_nil, es_cons, eo_none, eo_some, if_none, if_some, i_ex, i_rng1, i_rng2, i_enm, q_nm, q_tp, q_sb, setK_some, qs_nil, qs_cons, t_asg, t_aug, t_ex, t_ret, t_retN, t_iff, t_fr, t_whl, t_brk, t_cnt, t_pas, con_none, con_bool, con_int, con_str, neg_int, not_bl, int_int, add_int, sub_int, lt_int, le_int, gt_int, ge_int, eq_int, ne_int, is_nn, is_in, is_bb, isn_nn, isn_in, isn_bb, tr_non, tr_bl, tr_int, ty_non, ty_bl, ty_int, ty_tup, ty_ro, isa_int_int, isa_int_bool, isa_int_list, isa_int_tuple, isa_list_list, isa_list_tuple, isa_tuple_list, isa_tuple_tuple, sq_tup, sq_ro, bi_int_int, bi_int_bl, bi_tuple_tup, bi_min, bi_max, bi_len_tup, bi_len_ro, ix_tup, ix_ro, sl_tup, sl_ro, stays_tup, stays_ro, at_0, at_1, gc_ai, gc_aai, gc_aaai, gc_ab, gc_aab, gc_aaab, gc_an, gc_aan, gc_aaan, gc_same, wipe_nil, wipe_cons, sz_0, sz_1, sz_2, sz_3, sz_4, sz_5, sz_6, sz_7, sz_8, sz_9, sz_10, runDef, runFull, Def.full, startD, List.length_cons, List.length_nil, List.map_cons, List.map_nil, List.append_nil, List.nil_append, List.cons_append, List.drop_nil, List.drop_zero, List.drop_succ_cons, List.set_cons_zero, List.set_cons_succ, List.replicate, if_true, if_false, Bool.not_true, Bool.not_false, Bool.true_or, Bool.false_or, Option.map_some, Option.map_none, Nat.zero_add, Nat.add_zero, Nat.sub_self, Nat.reduceAdd, Nat.reduceSub, ↓reduceIte, Bool.and_true, Bool.true_and, Bool.false_and, Bool.and_false, Int.cast_ofNat_Int, decide_true, decide_false, Int.reduceEq, Int.reduceLT, Int.reduceLE, Bool.false_eq_true, List.append_assoc, List.length_append, lk_app, lk_app0, lk_sapp, lk_sapp0, lk_z, lk_s, st_app, st_app0, st_sapp, st_sapp0, len_set, set_set, sq_lk, ix_lk, sl_lk, len_lk, tuple_lk, list_lk, list_tup, ty_lk, stays_lk, set_lk, add_lk, app_lk, ext_lk, clear_lk, recv_lk, get2_lk, tr_lk, gp_0, gp_1, gp_2, gp_3, gp_4, gp_5, gp_6, gp_7, gp_8, ko_n, ko_s, ko_p, gq_1, gq_2, gq_3, gq_4, gq_5, gq_6, gq_7, gq_8, gq_9, gq_10, gq_11, gq_12, gq_13, gq_14, gq_15, gq_16, gcR, Nat.lt_irrefl, Nat.not_lt_zero, List.take_succ_cons, List.take_zero, List.take_nil, D.beqL_self, at_2, at_3, ixN, Nat.reduceLT, Nat.reduceLeDiff, Int.reduceToNat, Int.reduceNeg, Int.reduceSub, Int.reduceAdd, Int.reduceMul, sz_lt, Int.zero_add, mod_int, pr_int, pr_bl, pr_non, pr_str, pr_tup, pr_nil, pr_cons, pr_lst, pr_ints, pr_prs, pr_app, pr_kD, mt_1, mt_2, mt_3, mt_4, mt_5, mt_6, mt_7, rev_lk, max_lk, min_lk, sum_lk, any_lk, all_lk, count_lk, index_lk, pop_lk, eq_D, ne_D, eqD_ll, eqD_tt, eqL_ll, eqS_same, eqS_nil, eqS_ints, eqD_ii, eqD_kk, py_app, py_nil, py_cons, py_ints, py_int, py_bl, py_non, py_kD, py_links, py_prs, py_mapi, pr_mapi, pr_linksT, gt_np, pr_loc, pr_stps, pr_stp, aug_add, aug_sub, ko_app, take_left', len_aa, lcS, ite_b, bnd_if, seqF_if, out_if, bopB_and, bopB_or, bopD_and, bopD_or, if_same_bool, if_bf, if_bx, if_xt, prD, mul_l (show (7 : Int).natAbs < 2 ^ 64 by decide)])
      subst e
      clear hX
      have em : (enI 0 q).map (fun p => prD (7 * p.1 - 10, p.2)) = ((enI 0 q).map fun p => (7 * p.1 + (-10), p.2)).map prD := by rw [List.map_map]; rfl
      have e1 := rt (m := U.length) (S := U ++ [.lst (((enI 0 q).map fun p => (7 * p.1 + (-10), p.2)).map prD)]) lk_app0 (fine_enI (by decide) hq1.2) (by rw [List.length_map, enI_len]; omega)
      simp only [bnd_some, bnd_none, opt_some, opt_none, seqF_next, seqF_brk, seqF_cnt, seqF_ret, ts_nil, ts_cons, out_ret, out_next, ite_t, ite_f, bop_and_t, bop_and_f, bop_or_t, bop_or_f, bb_and_t, bb_and_f, bb_or_t, bb_or_f, slot_0, slot_s, e_con, b_con, e_var, b_var, e_glo, b_glo, e_tup, b_tup, e_lst, b_lst, e_dct, b_dct, e_op, b_op, e_neg, b_neg, e_not, b_not, e_bop, b_bop, e_cmp, b_cmp, e_chn, b_chn, e_ifx, b_ifx, e_ix, b_ix, e_sl, b_sl, e_call, b_call, e_callK, e_fnv, e_callL, fnIx_fn, e_bi, b_bi, e_mxd, b_mxd, e_isi, b_isi, e_isl, b_isl, e_lrg, b_lrg, e_mt, b_mt, e_lc, b_lc, e_rev, b_rev, e_gtp, e_lrg1, i_rng3, bop_1, bop_2, bb_1, bb_2, es_nil, es_cons, eo_none, eo_some, if_none, if_some, i_ex, i_rng1, i_rng2, i_enm, q_nm, q_tp, q_sb, setK_some, qs_nil, qs_cons, t_asg, t_aug, t_ex, t_ret, t_retN, t_iff, t_fr, t_whl, t_brk, t_cnt, t_pas, con_none, con_bool, con_int, con_str, neg_int, not_bl, int_int, add_int, sub_int, lt_int, le_int, gt_int, ge_int, eq_int, ne_int, is_nn, is_in, is_bb, isn_nn, isn_in, isn_bb, tr_non, tr_bl, tr_int, ty_non, ty_bl, ty_int, ty_tup, ty_ro, isa_int_int, isa_int_bool, isa_int_list, isa_int_tuple, isa_list_list, isa_list_tuple, isa_tuple_list, isa_tuple_tuple, sq_tup, sq_ro, bi_int_int, bi_int_bl, bi_tuple_tup, bi_min, bi_max, bi_len_tup, bi_len_ro, ix_tup, ix_ro, sl_tup, sl_ro, stays_tup, stays_ro, at_0, at_1, gc_ai, gc_aai, gc_aaai, gc_ab, gc_aab, gc_aaab, gc_an, gc_aan, gc_aaan, gc_same, wipe_nil, wipe_cons, sz_0, sz_1, sz_2, sz_3, sz_4, sz_5, sz_6, sz_7, sz_8, sz_9, sz_10, runDef, runFull, Def.full, startD, List.length_cons, List.length_nil, List.map_cons, List.map_nil, List.append_nil, List.nil_append, List.cons_append, List.drop_nil, List.drop_zero, List.drop_succ_cons, List.set_cons_zero, List.set_cons_succ, List.replicate, if_true, if_false, Bool.not_true, Bool.not_false, Bool.true_or, Bool.false_or, Option.map_some, Option.map_none, Nat.zero_add, Nat.add_zero, Nat.sub_self, Nat.reduceAdd, Nat.reduceSub, ↓reduceIte, Bool.and_true, Bool.true_and, Bool.false_and, Bool.and_false, Int.cast_ofNat_Int, decide_true, decide_false, Int.reduceEq, Int.reduceLT, Int.reduceLE, Bool.false_eq_true, List.append_assoc, List.length_append, lk_app, lk_app0, lk_sapp, lk_sapp0, lk_z, lk_s, st_app, st_app0, st_sapp, st_sapp0, len_set, set_set, sq_lk, ix_lk, sl_lk, len_lk, tuple_lk, list_lk, list_tup, ty_lk, stays_lk, set_lk, add_lk, app_lk, ext_lk, clear_lk, recv_lk, get2_lk, tr_lk, gp_0, gp_1, gp_2, gp_3, gp_4, gp_5, gp_6, gp_7, gp_8, ko_n, ko_s, ko_p, gq_1, gq_2, gq_3, gq_4, gq_5, gq_6, gq_7, gq_8, gq_9, gq_10, gq_11, gq_12, gq_13, gq_14, gq_15, gq_16, gcR, Nat.lt_irrefl, Nat.not_lt_zero, List.take_succ_cons, List.take_zero, List.take_nil, D.beqL_self, at_2, at_3, ixN, Nat.reduceLT, Nat.reduceLeDiff, Int.reduceToNat, Int.reduceNeg, Int.reduceSub, Int.reduceAdd, Int.reduceMul, sz_lt, Int.zero_add, mod_int, pr_int, pr_bl, pr_non, pr_str, pr_tup, pr_nil, pr_cons, pr_lst, pr_ints, pr_prs, pr_app, pr_kD, mt_1, mt_2, mt_3, mt_4, mt_5, mt_6, mt_7, rev_lk, max_lk, min_lk, sum_lk, any_lk, all_lk, count_lk, index_lk, pop_lk, eq_D, ne_D, eqD_ll, eqD_tt, eqL_ll, eqS_same, eqS_nil, eqS_ints, eqD_ii, eqD_kk, py_app, py_nil, py_cons, py_ints, py_int, py_bl, py_non, py_kD, py_links, py_prs, py_mapi, pr_mapi, pr_linksT, gt_np, pr_loc, pr_stps, pr_stp, aug_add, aug_sub, ko_app, take_left', len_aa, em, e1]
      exact ⟨rfl, ⟨_, rfl⟩, fun p hp => hq p (List.mem_cons_of_mem _ hp)⟩
theorem law_true (ns : List Int) (hl : ns.length ≤ 63) : ∃ S', runFull (orc defs 150) d_law [.ro (ns.map D.int)] [] = some (.bl true, S') := law_gen 40 ns hl
end K72

end

section
set_option maxHeartbeats 0
namespace K72
open PySem PySem.Spec PyProof.Rows L2 Mi
theorem gl_ok {K : PySem.W.Frag} {h : Heap} {mg : Str → Option Value} (X : K.In h) (G : h.Ns mainGlobals mg) (c : He.SaysD fa fn K) : ∀ x i, (tabOf defs gl tp).glo x = some i → ∃ t, mg x = some (.int i t) := by
  intro x i e
  have h1 : (x, i) ∈ gl := lookup_in e
  exact He.int_ok X G (SaysD_facts c (gl_fa _ h1))
theorem tp_ok {K : PySem.W.Frag} {h : Heap} {mg : Str → Option Value} (X : K.In h) (G : h.Ns mainGlobals mg) (c : tupsB tp K = true) : ∀ x ds, (tabOf defs gl tp).tup x = some ds → TupOk K mg x ds := by
  intro x ds e
  have h1 : (x, ds) ∈ tp := lookup_in e
  exact tupB_ok X G (List.all_eq_true.mp c _ h1)
theorem blt_ok {K : PySem.W.Frag} {h : Heap} {mg : Str → Option Value} (X : K.In h) (G : h.Ns mainGlobals mg) (c : He.SaysD fa fn K) : ∀ x ∈ bltNames, mg x = none :=
  fun x hx => He.free_ok X G (SaysD_facts c (List.mem_append_right _ (List.mem_map.mpr ⟨x, hx, rfl⟩)))
abbrev R : PySem.W.OpenRow := PySem.W.OpenLaw.row PySem.Challenge.rw_tosslanes_k72_whole_towers_and_trees
abbrev hk : PySem.W.Hook := hookX 4 fa fn tp
def ob (s : PySem.W.SharedT) : He.AlD × Bool := obsX 4 fa fn tp (HandSHeadRun.getT s)
theorem ob_eq (s : PySem.W.SharedT) : ob s = hk.obs s.abs := obsX_eq (HandSHeadRun.getT_eq s)
theorem run (w : World) : HandSHeadRun.RunEq R (PySem.W.view R.prog [29]) hk ob 8000 loose w := by
  intro os
  kernel_rfl
theorem facts {P : Program} {w : World} {K : PySem.W.Frag} {h : Heap} {mg : Str → Option Value} {f : Addr} (X : K.In h) (G : h.Ns mainGlobals mg) (hfa : mg ("law" : Str) = some (.ref f)) (c : He.SaysD fa fn K) (ct : tupsB tp K = true) :
    ∃ fd : FuncData, (∀ (s : Shared) (v : Value), BindsTo s fd ⟨[v], []⟩ [("_law_script", v)]) ∧ ∀ base : Heap, K.In base → base.Ns mainGlobals mg → FnOk P w K mg base CX0 (150 + 1) f fd ["_law_script"] (fun vs H Q _ => vs.length = d_law.ps.length ∧ liftN K (runFull (orc defs 150) d_law) vs H Q) := by
  obtain ⟨fd, F⟩ := c.def_ 22 (d := h_law) rfl
  have e := hfa.symm.trans (He.glo_ok X G (c.fact 22 (f := .glo "law") rfl))
  cases e
  have b := FunD.bindsA (ps := ["_law_script"]) F fun _ _ _ _ _ _ us hl => match us, hl with | [_], _ => rfl
  exact ⟨fd, fun s v => b s [v] rfl, fun base _ _ => fn_good (d := d_law) F s_law (blt_ok X G c) (gl_ok X G c) (tp_ok X G ct) (all_wf d_law (List.mem_of_getElem? (i := 22) rfl)) (defs_ok (all_ok X G c) (blt_ok X G c) (gl_ok X G c) (tp_ok X G ct) all_wf 150).1 (defs_ok (all_ok X G c) (blt_ok X G c) (gl_ok X G c) (tp_ok X G ct) all_wf 150).2 (fv_ok (all_ok X G c))⟩
end K72

end
set_option maxHeartbeats 0
open PySem PySem.W PySem.Calls PyProof.Rows
theorem PySem.Challenge.cw_tosslanes_k72_whole_towers_and_trees_holds : PySem.Challenge.rw_tosslanes_k72_whole_towers_and_trees.Holds := by
  w_on; o_law
  refine HandSHeadRun.head_any (r := OpenLaw.row PySem.Challenge.rw_tosslanes_k72_whole_towers_and_trees) (q := view (OpenLaw.row PySem.Challenge.rw_tosslanes_k72_whole_towers_and_trees).prog [29]) (H := K72.hk) (ob := K72.ob) (M := 8000) (loose := K72.loose) (d := HandSHeadRun.topDef (OpenLaw.row PySem.Challenge.rw_tosslanes_k72_whole_towers_and_trees).prog 29) (kwd := []) K72.ob_eq
    (by kernel_rfl) (fun s => by kernel_rfl) K72.run (by kernel_rfl) (by kernel_rfl) (by kernel_rfl) (by rfl) (by first | assumption | decide +kernel) (by decide +kernel) ⟨rfl, rfl, rfl, rfl, rfl, by decide +kernel⟩ ?hw ?hc
  case hw => w_witness2
  case hc =>
    refine L2.walk_ofE (l := PySem.Challenge.rw_tosslanes_k72_whole_towers_and_trees) (n := 63) (k := 150 + 1) (x := "_law_script") (CX := L2.CX0) rfl (by decide) (by kernel_rfl) ⟨rfl, by decide, by decide⟩ ?F (fun _ _ _ _ z => z)
    intro w mg fa h Y G hmg0
    obtain ⟨K, KX, c, ct⟩ := Y
    have hmg : mg ("law" : PySem.Str) = some (.ref fa) := by
      have e : (HandSHeadRun.topDef (OpenLaw.row PySem.Challenge.rw_tosslanes_k72_whole_towers_and_trees).prog 29).name = ("law" : PySem.Str) := by kernel_rfl
      rw [← e]
      exact hmg0
    obtain ⟨fd, hb, hF⟩ := K72.facts (P := (PySem.Challenge.rw_tosslanes_k72_whole_towers_and_trees).prog) (w := w) KX G hmg c ct
    exact ⟨K, fd, _, KX, hb, fun H a ns hl hO hS => let ⟨S', e⟩ := K72.law_true ns hl; Mi.entry hO hS rfl e, hF⟩
