import PyProof.Rows.All
import Wide.All
import OpenK.AllK
import Wide.FinOn
import HandS.ForMost
import HandS.Flow
import HandS.Wide
import HandS.IsInst
import HandS.Conv
import HandS.TupAny
import HandS.TupMul
import KE.DataMinMax
import KE.KDictPairs
import HandS.SortKw
import HandS.Style
import KE.GoesEnum
import KE.GoesMore
import HandS.NoneIn
import HandS.Defaults
import HandS.Ends
import HandS.HeadHook2
import KE.KStateDown
import Lean
import HandS.Base
import HandS.Call
import HandS.More
import HandS.Words
import HandS.WordsExc
import HandS.Head0
import HandS.Head1
import HandS.Head2
import HandS.HeadEnd
import HandS.HeadHook1
import PySem.Challenge.RW_tosslanes_k51_whole_searches_from_finger
set_option Elab.async false
set_option linter.all false
set_option maxRecDepth 100000
section
/-! Mi1: a small language of values: data, stores, syntax with its text in the model's own syntax, and what it is worth. -/
noncomputable section
namespace Mi
open PySem L2

/-! ### data -/
inductive D where
  | non | bl (b : Bool) | int (i : Int) | str (x : Str)
  | tup (ds : List D)
  /-- the script: a list that is read alone -/
  | ro (ds : List D)
  /-- an object of the store -/
  | loc (n : Nat)
  deriving Inhabited

inductive MO where
  | lst (ds : List D)
  | dic (kvs : List (Key × D))
  | dit (kvs : List (List Key × D))
  deriving Inhabited

abbrev StD := List (Option D)
abbrev Store := List MO
abbrev Orc := Nat → List D → Store → Option (D × Store)

mutual
def D.beq : D → D → Bool
  | .non, .non => true
  | .bl a, .bl b => a == b
  | .int a, .int b => a == b
  | .str a, .str b => a == b
  | .tup a, .tup b => D.beqL a b
  | .ro a, .ro b => D.beqL a b
  | .loc a, .loc b => a == b
  | _, _ => false
def D.beqL : List D → List D → Bool
  | [], [] => true
  | a :: r, b :: q => D.beq a b && D.beqL r q
  | _, _ => false
end
mutual
theorem D.beq_eq : ∀ {a b : D}, D.beq a b = true → a = b
  | .non, b, h => by cases b <;> simp [D.beq] at h ⊢
  | .bl x, b, h => by cases b <;> simp [D.beq] at h ⊢; exact h
  | .int x, b, h => by cases b <;> simp [D.beq] at h ⊢; exact h
  | .str x, b, h => by cases b <;> simp [D.beq] at h ⊢; exact h
  | .tup x, b, h => by cases b <;> simp [D.beq] at h ⊢; exact D.beqL_eq h
  | .ro x, b, h => by cases b <;> simp [D.beq] at h ⊢; exact D.beqL_eq h
  | .loc x, b, h => by cases b <;> simp [D.beq] at h ⊢; exact h
theorem D.beqL_eq : ∀ {a b : List D}, D.beqL a b = true → a = b
  | [], b, h => by cases b <;> simp [D.beqL] at h ⊢
  | x :: r, b, h => by
    cases b with
    | nil => simp [D.beqL] at h
    | cons y q =>
      simp only [D.beqL, Bool.and_eq_true] at h
      rw [D.beq_eq h.1, D.beqL_eq h.2]
end
mutual
@[simp] theorem D.beq_self : ∀ a : D, D.beq a a = true
  | .non => rfl
  | .bl x => by simp [D.beq]
  | .int x => by simp [D.beq]
  | .str x => by simp [D.beq]
  | .tup x => by simp only [D.beq]; exact D.beqL_self x
  | .ro x => by simp only [D.beq]; exact D.beqL_self x
  | .loc x => by simp [D.beq]
@[simp] theorem D.beqL_self : ∀ a : List D, D.beqL a a = true
  | [] => rfl
  | x :: r => by simp only [D.beqL, Bool.and_eq_true]; exact ⟨D.beq_self x, D.beqL_self r⟩
end
def kvBeq {κ : Type} [DecidableEq κ] : List (κ × D) → List (κ × D) → Bool
  | [], [] => true
  | (k, a) :: r, (l, b) :: q => decide (k = l) && D.beq a b && kvBeq r q
  | _, _ => false
theorem kvBeq_eq {κ : Type} [DecidableEq κ] : ∀ {a b : List (κ × D)}, kvBeq a b = true → a = b
  | [], b, h => by cases b <;> simp [kvBeq] at h ⊢
  | (k, x) :: r, b, h => by
    cases b with
    | nil => simp [kvBeq] at h
    | cons y q =>
      obtain ⟨l, y⟩ := y
      simp only [kvBeq, Bool.and_eq_true, decide_eq_true_eq] at h
      rw [h.1.1, D.beq_eq h.1.2, kvBeq_eq h.2]
@[simp] theorem kvBeq_self {κ : Type} [DecidableEq κ] : ∀ a : List (κ × D), kvBeq a a = true
  | [] => rfl
  | (k, x) :: r => by simp [kvBeq, kvBeq_self r]
def MO.beq : MO → MO → Bool
  | .lst a, .lst b => D.beqL a b
  | .dic a, .dic b => kvBeq a b
  | .dit a, .dit b => kvBeq a b
  | _, _ => false
theorem MO.beq_eq {a b : MO} (h : MO.beq a b = true) : a = b := by
  cases a <;> cases b <;> simp only [MO.beq] at h <;> first | (rw [D.beqL_eq h]) | (rw [kvBeq_eq h]) | cases h
@[simp] theorem MO.beq_self (a : MO) : MO.beq a a = true := by cases a <;> simp [MO.beq]

/-! no object of the store within -/
mutual
def D.pure : D → Bool
  | .tup a => D.pureL a
  | .ro a => D.pureL a
  | .loc _ => false
  | _ => true
def D.pureL : List D → Bool
  | [] => true
  | a :: r => D.pure a && D.pureL r
end
def MO.pure : MO → Bool
  | .lst a => D.pureL a
  | .dic a => D.pureL (a.map (·.2))
  | .dit a => D.pureL (a.map (·.2))
/-- what stood ahead is as it was, or holds nothing new -/
def keepsOld : Store → Store → Bool
  | [], _ => true
  | _ :: _, [] => false
  | a :: r, b :: q => (MO.beq a b || MO.pure b) && keepsOld r q
/-- what is not used any more is let go: S the store ahead -/
def gc (S : Store) (d : D) (S' : Store) : D × Store :=
  if keepsOld S S' then
    if D.pure d then (d, S'.take S.length)
    else match d with
      | .loc m => if m < S.length then (d, S'.take S.length) else match S'[m]? with
        | some mo => if MO.pure mo then (.loc S.length, S'.take S.length ++ [mo]) else (d, S')
        | none => (d, S')
      | _ => (d, S')
  else (d, S')
def gcO (S : Store) : Option (D × Store) → Option (D × Store)
  | some (d, S') => some (gc S d S')
  | none => none

/-! ### as Python's data -/
def mapO {α β : Type} (f : α → Option β) : List α → Option (List β)
  | [] => some []
  | a :: r => match f a with
    | some b => match mapO f r with
      | some bs => some (b :: bs)
      | none => none
    | none => none
def toPy (S : Store) : Nat → D → Option PyData
  | _, .non => some .none
  | _, .bl b => some (.bool b)
  | _, .int i => some (.int i)
  | _, .str x => if PyData.strOk x then some (.str x) else none
  | n + 1, .tup ds => (mapO (toPy S n) ds).map .tuple
  | n + 1, .ro ds => (mapO (toPy S n) ds).map .list
  | n + 1, .loc m => match S[m]? with
    | some (.lst ds) => (mapO (toPy S n) ds).map .list
    | _ => none
  | 0, .tup _ => none
  | 0, .ro _ => none
  | 0, .loc _ => none
def eqD (S : Store) (d e : D) : Option Bool :=
  match toPy S 60 d, toPy S 60 e with
  | some a, some b => some (PyData.eqv a b)
  | _, _ => none

/-! ### operations on values -/
def getG {κ : Type} [DecidableEq κ] (kvs : List (κ × D)) (k : κ) : Option D := (kvs.find? fun kv => decide (kv.1 = k)).map (·.2)
def putG {κ : Type} [DecidableEq κ] (kvs : List (κ × D)) (k : κ) (v : D) : List (κ × D) :=
  if (kvs.any fun kv => decide (kv.1 = k)) = true then kvs.map (fun kv => if kv.1 = k then (kv.1, v) else kv) else kvs ++ [(k, v)]
def keyOf : D → Option Key
  | .int i => some (.inl i)
  | .str x => some (.inr x)
  | _ => none
def seqOf (S : Store) : D → Option (List D)
  | .tup ds => some ds
  | .ro ds => some ds
  | .loc m => match S[m]? with
    | some (.lst ds) => some ds
    | _ => none
  | _ => none
/-- may be walked as long as it stays as it is -/
def stays (d : D) (ds : List D) (S : Store) : Bool :=
  match d with
  | .loc m => match S[m]? with
    | some (.lst es) => D.beqL es ds
    | _ => false
  | _ => true
def truthD (S : Store) : D → Option Bool
  | .non => some false
  | .bl b => some b
  | .int i => some (i != 0)
  | .str x => if x.length ≤ sizeLine then some ((x.length : Int) != 0) else none
  | .tup ds => some (!ds.isEmpty)
  | .ro ds => some (!ds.isEmpty)
  | .loc m => match S[m]? with
    | some (.lst ds) => some (!ds.isEmpty)
    | some (.dic kvs) => some (!kvs.isEmpty)
    | _ => none
def cut {α : Type} (xs : List α) (lo hi : Option Int) : List α := (xs.drop (HT.sIx xs.length 0 lo)).take (HT.sIx xs.length xs.length hi - HT.sIx xs.length 0 lo)

def opD (o : Operator) (a b : D) (S : Store) : Option (D × Store) :=
  match o, a, b with
  | .Add, .int i, .int j => some (.int (i + j), S)
  | .Add, .str x, .str y => if x.length + y.length ≤ sizeLine then some (.str (x ++ y), S) else none
  | .Add, .tup x, .tup y => if x.length + y.length ≤ sizeLine then some (.tup (x ++ y), S) else none
  | .Add, .loc m, .loc n => match S[m]?, S[n]? with
    | some (.lst x), some (.lst y) => if x.length + y.length ≤ sizeLine then some (.loc S.length, S ++ [.lst (x ++ y)]) else none
    | _, _ => none
  | .Sub, .int i, .int j => some (.int (i - j), S)
  | .Mult, .int i, .int j => if i.natAbs < 2 ^ 64 ∨ j.natAbs < 2 ^ 64 ∨ i.natAbs.log2 + j.natAbs.log2 < 1000000 then some (.int (i * j), S) else none
  | .Mult, .loc m, .int k => match S[m]? with
    | some (.lst x) => @ite _ (-(2 ^ 63) ≤ k ∧ k < 2 ^ 63 ∧ x.length * k.toNat ≤ sizeLine) (Classical.propDecidable _) (some (.loc S.length, S ++ [.lst (List.replicate k.toNat x).flatten])) none
    | _ => none
  | .FloorDiv, .int i, .int j => if 0 < j ∧ j.natAbs.log2 < 9000 then some (.int (i / j), S) else none
  | .Mod, .int i, .int j => if 0 < j then some (.int (i % j), S) else none
  | .Pow, .int i, .int j => @ite _ (0 ≤ j ∧ j ≤ 1000000 ∧ i.natAbs < 2 ^ 64) (Classical.propDecidable _) (some (.int (i ^ j.toNat), S)) none
  | _, _, _ => none
def lexLt : List Nat → List Nat → Bool
  | [], [] => false
  | [], _ :: _ => true
  | _ :: _, [] => false
  | a :: r, b :: q => if a < b then true else if b < a then false else lexLt r q
def flatPy : D → Option PyData
  | .non => some .none
  | .bl b => some (.bool b)
  | .int i => some (.int i)
  | .str x => some (.str x)
  | _ => none
def inSeq (a : D) (ds : List D) : Option Bool :=
  match flatPy a, mapO flatPy ds with
  | some x, some ys => some (ys.any fun y => PyData.eqv y x)
  | _, _ => none
def inD (a b : D) (S : Store) : Option Bool :=
  match b with
  | .loc m => match S[m]? with
    | some (.dic kvs) => (keyOf a).map fun k => (getG kvs k).isSome
    | some (.lst ds) => inSeq a ds
    | _ => none
  | .tup ds => inSeq a ds
  | .ro ds => inSeq a ds
  | _ => none
def cmpD (o : CmpOp) (a b : D) (S : Store) : Option Bool :=
  match o with
  | .Eq => eqD S a b
  | .NotEq => (eqD S a b).map (!·)
  | .Lt => match a, b with
    | .int i, .int j => some (decide (i < j))
    | _, _ => none
  | .LtE => match a, b with
    | .int i, .int j => some (decide (i ≤ j))
    | _, _ => none
  | .Gt => match a, b with
    | .int i, .int j => some (decide (j < i))
    | _, _ => none
  | .GtE => match a, b with
    | .int i, .int j => some (decide (j ≤ i))
    | _, _ => none
  | .Is => match a, b with
    | .non, .non => some true
    | .bl x, .bl y => some (decide (x = y))
    | _, .non => some false
    | _, _ => none
  | .IsNot => match a, b with
    | .non, .non => some false
    | .bl x, .bl y => some (!decide (x = y))
    | _, .non => some true
    | _, _ => none
  | .In => inD a b S
  | .NotIn => (inD a b S).map (!·)
def ixD (a i : D) (S : Store) : Option D :=
  match i with
  | .int k => match a with
    | .loc m => match S[m]? with
      | some (.lst ds) => atI ds k
      | some (.dic kvs) => getG kvs (.inl k)
      | _ => none
    | .tup ds => atI ds k
    | .ro ds => atI ds k
    | _ => none
  | .str x => match a with
    | .loc m => match S[m]? with
      | some (.dic kvs) => getG kvs (.inr x)
      | _ => none
    | _ => none
  | _ => none
def slD (a : D) (lo hi : Option Int) (S : Store) : Option (D × Store) :=
  match a with
  | .tup ds => some (.tup (cut ds lo hi), S)
  | .ro ds => some (.loc S.length, S ++ [.lst (cut ds lo hi)])
  | .loc m => match S[m]? with
    | some (.lst ds) => some (.loc S.length, S ++ [.lst (cut ds lo hi)])
    | _ => none
  | _ => none
def setD (a i v : D) (S : Store) : Option Store :=
  match a, i with
  | .loc m, .int k => match S[m]? with
    | some (.lst ds) => match ixN ds.length k with
      | some j => some (S.set m (.lst (ds.set j v)))
      | none => none
    | some (.dic kvs) => if kvs.length < sizeLine then some (S.set m (.dic (putG kvs (.inl k) v))) else none
    | _ => none
  | .loc m, .str x => match S[m]? with
    | some (.dic kvs) => if kvs.length < sizeLine then some (S.set m (.dic (putG kvs (.inr x) v))) else none
    | _ => none
  | _, _ => none

/-! ### built-in names -/
inductive Ty where
  | int | bool | str | list | tuple | dict
  deriving DecidableEq
def Ty.name : Ty → String
  | .int => "int" | .bool => "bool" | .str => "str" | .list => "list" | .tuple => "tuple" | .dict => "dict"
def tyD (S : Store) : D → Option String
  | .non => some "NoneType"
  | .bl _ => some "bool"
  | .int _ => some "int"
  | .str _ => some "str"
  | .tup _ => some "tuple"
  | .ro _ => some "list"
  | .loc m => match S[m]? with
    | some (.lst _) => some "list"
    | some (.dic _) => some "dict"
    | some (.dit _) => some "dict"
    | none => none
def isaD (n : String) (t : Ty) : Bool := n == t.name || (n == "bool" && t.name == "int")
inductive Bi where
  | len | int | tuple | list | min | max | abs | dict | sum | any | all
  deriving DecidableEq
def Bi.name : Bi → String
  | .len => "len" | .int => "int" | .tuple => "tuple" | .list => "list" | .min => "min" | .max => "max" | .abs => "abs" | .dict => "dict" | .sum => "sum" | .any => "any" | .all => "all"
def pairKV : D → Option (Key × D)
  | .tup [k, v] => (keyOf k).map fun k => (k, v)
  | _ => none
def intsOf : List D → Option (List Int)
  | [] => some []
  | .int i :: r => (intsOf r).map (i :: ·)
  | _ => none
def boolsOf : List D → Option (List Bool)
  | [] => some []
  | .bl i :: r => (boolsOf r).map (i :: ·)
  | _ => none
def greatest (i : Int) (r : List Int) : Int := r.foldl max i
def least (i : Int) (r : List Int) : Int := r.foldl min i
/-- the items of a list (no tuple) -/
def lstOf (S : Store) : D → Option (List D)
  | .tup _ => none
  | d => seqOf S d
/-- max(xs), min(xs) -/
def mxlD (gr : Bool) (a : D) (S : Store) : Option (D × Store) :=
  match lstOf S a with
  | some ds => match intsOf ds with
    | some (i :: r) => some (.int (if gr then greatest i r else least i r), S)
    | _ => none
  | none => none
def sumD (a : D) (S : Store) : Option (D × Store) :=
  match lstOf S a with
  | some ds => (intsOf ds).map fun ns => (.int ns.sum, S)
  | none => none
def anyD (a : D) (S : Store) : Option (D × Store) :=
  match lstOf S a with
  | some ds => (boolsOf ds).map fun ns => (.bl (ns.any id), S)
  | none => none
def allD (a : D) (S : Store) : Option (D × Store) :=
  match lstOf S a with
  | some ds => (boolsOf ds).map fun ns => (.bl (ns.all id), S)
  | none => none
def biD (f : Bi) (as : List D) (S : Store) : Option (D × Store) :=
  match f, as with
  | .len, [a] => match a with
    | .str x => if x.length ≤ sizeLine then some (.int x.length, S) else none
    | .loc m => match S[m]? with
      | some (.lst ds) => some (.int ds.length, S)
      | some (.dic kvs) => some (.int kvs.length, S)
      | _ => none
    | _ => (seqOf S a).map fun ds => (.int ds.length, S)
  | .int, [.int i] => some (.int i, S)
  | .int, [.bl b] => some (.int (if b then 1 else 0), S)
  | .tuple, [.tup ds] => some (.tup ds, S)
  | .tuple, [a] => (seqOf S a).map fun ds => (.tup ds, S)
  | .list, [a] => (seqOf S a).map fun ds => (.loc S.length, S ++ [.lst ds])
  | .min, [.int i, .int j] => some (.int (if j < i then j else i), S)
  | .max, [.int i, .int j] => some (.int (if j > i then j else i), S)
  | .abs, [.int i] => some (.int (if i < 0 then -i else i), S)
  | .min, [a] => mxlD false a S
  | .max, [a] => mxlD true a S
  | .sum, [a] => sumD a S
  | .any, [a] => anyD a S
  | .all, [a] => allD a S
  | .dict, [a] => match seqOf S a with
    | some ds => (mapO pairKV ds).map fun kvs => (.loc S.length, S ++ [.dic (kvs.foldl (fun acc p => putG acc p.1 p.2) [])])
    | none => none
  | _, _ => none
/-- max(xs, default=d), min(xs, default=d) -/
def maxD (gr : Bool) (a d : D) (S : Store) : Option D :=
  match seqOf S a with
  | some ds => match intsOf ds with
    | some (i :: r) => some (.int (if gr then greatest i r else least i r))
    | some [] => some d
    | none => none
  | none => none
inductive Mt where
  | append | extend | clear | pop | get | count | index
  deriving DecidableEq
def Mt.name : Mt → String
  | .append => "append" | .extend => "extend" | .clear => "clear" | .pop => "pop" | .get => "get" | .count => "count" | .index => "index"
def cntSeq (a : D) (ds : List D) : Option Nat :=
  match flatPy a, mapO flatPy ds with
  | some x, some ys => some (ys.countP fun y => PyData.eqv y x)
  | _, _ => none
def idxSeq (a : D) (ds : List D) : Option Nat :=
  match flatPy a, mapO flatPy ds with
  | some x, some ys => ys.findIdx? fun y => PyData.eqv y x
  | _, _ => none
def mtD (m : Mt) (o : D) (as : List D) (S : Store) : Option (D × Store) :=
  match o with
  | .loc n => match S[n]? with
    | some (.lst ds) => match m, as with
      | .append, [x] => if ds.length < sizeLine then some (.non, S.set n (.lst (ds ++ [x]))) else none
      | .extend, [x] => match x with
        | .loc k => match S[k]? with
          | some (.lst es) => if ds.length + es.length ≤ sizeLine then some (.non, S.set n (.lst (ds ++ es))) else none
          | _ => none
        | _ => none
      | .clear, [] => some (.non, S.set n (.lst []))
      | .count, [x] => (cntSeq x ds).map fun (n : Nat) => (.int (n : Int), S)
      | .index, [x] => (idxSeq x ds).map fun (n : Nat) => (.int (n : Int), S)
      | .pop, [] => match ds[ds.length - 1]? with
        | some y => some (y, S.set n (.lst ds.dropLast))
        | none => none
      | _, _ => none
    | some (.dic kvs) => match m, as with
      | .get, [k, d] => (keyOf k).map fun k => ((getG kvs k).getD d, S)
      | .get, [k] => (keyOf k).map fun k => ((getG kvs k).getD .non, S)
      | _, _ => none
    | _ => none
  | _ => none

/-- the object fits the method -/
def recvD (m : Mt) (o : D) (S : Store) : Bool :=
  match o with
  | .loc n => match S[n]? with
    | some (.lst _) => m != .get
    | some (.dic _) => m == .get
    | _ => false
  | _ => false

/-! ### syntax -/
mutual
inductive E where
  | con (c : Const) (k : Nat) (p : Pos)
  | var (i : Nat) (x : Str) (p : Pos)
  | glo (x : Str) (i : Int) (p : Pos)
  | tup (es : Es) (k : Nat) (p : Pos)
  | lst (es : Es) (p : Pos)
  | dct (p : Pos)
  | op (o : Operator) (a b : E) (p : Pos)
  | neg (a : E) (p : Pos)
  | not (a : E) (p : Pos)
  | bop (o : BoolOp) (es : Es) (p : Pos)
  | cmp (o : CmpOp) (a b : E) (p : Pos)
  | chn (o q : CmpOp) (a b c : E) (p : Pos)
  | ifx (c a b : E) (p : Pos)
  | ix (a i : E) (p : Pos)
  | sl (a : E) (lo hi : Eo) (q p : Pos)
  | rev (a : E) (k : Nat) (p1 p2 p3 p : Pos)
  | gtp (x : Str) (ds : List D) (p : Pos)
  | call (f : Str) (n : Nat) (as : Es) (q p : Pos)
  | bi (f : Bi) (as : Es) (q p : Pos)
  | mxd (gr : Bool) (a d : E) (q kp p : Pos)
  | isi (a : E) (t : Ty) (q tp p : Pos)
  | isl (a : E) (k : Nat) (q p1 p2 tp p : Pos)
  | lrg (a b : E) (q2 p2 q p : Pos)
  | lrg1 (a : E) (q2 p2 q p : Pos)
  | mt (o : E) (m : Mt) (as : Es) (q p : Pos)
  | lc (e : E) (g : G) (it : I) (c : Eo) (own : List (Str × Nat)) (sc : Scope) (p : Pos)
inductive Es where
  | nil | cons (e : E) (r : Es)
inductive Eo where
  | none | some (e : E)
inductive I where
  | ex (e : E)
  | rng1 (a : E) (q p : Pos)
  | rng2 (a b : E) (q p : Pos)
  | rng3 (a b c : E) (q p : Pos)
  | enm (e : E) (q p : Pos)
inductive G where
  | nm (i : Nat) (x : Str) (p : Pos)
  | tp (gs : Gs) (k : Nat) (p : Pos)
  | sb (o i : E) (p : Pos)
inductive Gs where
  | nil | cons (g : G) (r : Gs)
end
mutual
inductive T where
  | asg (g : G) (e : E) (p : Pos)
  | aug (i : Nat) (x : Str) (o : Operator) (e : E) (q p : Pos)
  | ex (e : E) (p : Pos)
  | ret (e : E) (p : Pos)
  | retN (p : Pos)
  | iff (c : E) (a b : Ts) (p : Pos)
  | fr (g : G) (it : I) (b : Ts) (p : Pos)
  | whl (c : E) (b : Ts) (p : Pos)
  | brk (p : Pos)
  | cnt (p : Pos)
  | pas (p : Pos)
  /-- what is never come to -/
  | nev (s : Stmt)
inductive Ts where
  | nil | cons (t : T) (r : Ts)
end

/-! ### its text -/
def kwDefault : Str := "default"
mutual
def embE : E → Expr
  | .con c k p => .Constant c k p
  | .var _ x p => .Name x p
  | .glo x _ p => .Name x p
  | .tup es k p => .Tuple (embEs es) k p
  | .lst es p => .List (embEs es) p
  | .dct p => .Dict [] [] p
  | .op o a b p => .BinOp (embE a) o (embE b) p
  | .neg a p => .UnaryOp .USub (embE a) p
  | .not a p => .UnaryOp .Not (embE a) p
  | .bop o es p => .BoolOp o (embEs es) p
  | .cmp o a b p => .Compare (embE a) [o] [embE b] p
  | .chn o q a b c p => .Compare (embE a) [o, q] [embE b, embE c] p
  | .ifx c a b p => .IfExp (embE c) (embE a) (embE b) p
  | .ix a i p => .Subscript (embE a) (embE i) p
  | .sl a lo hi q p => .Subscript (embE a) (.Slice (embEo lo) (embEo hi) none q) p
  | .rev a k p1 p2 p3 p => .Subscript (embE a) (.Slice none none (some (.UnaryOp .USub (.Constant (.int 1) k p1) p2)) p3) p
  | .gtp x _ p => .Name x p
  | .call f _ as q p => .Call (.Name f q) (embEs as) [] p
  | .bi f as q p => .Call (.Name (Str.ofString f.name) q) (embEs as) [] p
  | .mxd gr a d q kp p => .Call (.Name (Str.ofString (if gr then "max" else "min")) q) [embE a] [⟨some kwDefault, embE d, kp⟩] p
  | .isi a t q tp p => .Call (.Name "isinstance" q) [embE a, .Name (Str.ofString t.name) tp] [] p
  | .isl a k q p1 p2 tp p => .Call (.Name "isinstance" q) [embE a, .Tuple [.Name "list" p1, .Name "tuple" p2] k tp] [] p
  | .lrg a b q2 p2 q p => .Call (.Name "list" q) [.Call (.Name "range" q2) [embE a, embE b] [] p2] [] p
  | .lrg1 a q2 p2 q p => .Call (.Name "list" q) [.Call (.Name "range" q2) [embE a] [] p2] [] p
  | .mt o m as q p => .Call (.Attribute (embE o) (Str.ofString m.name) q) (embEs as) [] p
  | .lc e g it c _ sc p => .ListComp (embE e) [⟨embG g, embI it, embIf c, 0⟩] sc p
def embEs : Es → List Expr
  | .nil => []
  | .cons e r => embE e :: embEs r
def embEo : Eo → Option Expr
  | .none => none
  | .some e => some (embE e)
def embIf : Eo → List Expr
  | .none => []
  | .some e => [embE e]
def embI : I → Expr
  | .ex e => embE e
  | .rng1 a q p => .Call (.Name "range" q) [embE a] [] p
  | .rng2 a b q p => .Call (.Name "range" q) [embE a, embE b] [] p
  | .rng3 a b c q p => .Call (.Name "range" q) [embE a, embE b, embE c] [] p
  | .enm e q p => .Call (.Name "enumerate" q) [embE e] [] p
def embG : G → Expr
  | .nm _ x p => .Name x p
  | .tp gs k p => .Tuple (embGs gs) k p
  | .sb o i p => .Subscript (embE o) (embE i) p
def embGs : Gs → List Expr
  | .nil => []
  | .cons g r => embG g :: embGs r
end
mutual
def embT : T → Stmt
  | .asg g e p => .Assign [embG g] (embE e) p
  | .aug _ x o e q p => .AugAssign (.Name x q) o (embE e) p
  | .ex e p => .Expr (embE e) p
  | .ret e p => .Return (some (embE e)) p
  | .retN p => .Return none p
  | .iff c a b p => .If (embE c) (embTs a) (embTs b) p
  | .fr g it b p => .For (embG g) (embI it) (embTs b) [] p
  | .whl c b p => .While (embE c) (embTs b) [] p
  | .brk p => .Break p
  | .cnt p => .Continue p
  | .pas p => .Pass p
  | .nev s => s
def embTs : Ts → List Stmt
  | .nil => []
  | .cons t r => embT t :: embTs r
end

/-! ### whether it is well said -/
structure Tab where
  cal : Str → Nat → Nat → Bool
  glo : Str → Option Int
  tup : Str → Option (List D)
def visB (sc : Scope) (x : Str) : Bool := match sc.names.lookup x with | some .local => true | some .cell => true | some .free => true | _ => false
def locB (sc : Scope) (fn : Str → Bool) (x : Str) : Bool := match sc.names.lookup x with | some .local => true | some .cell => fn x | _ => false
def glB (sc : Scope) (x : Str) : Bool := (match sc.names.lookup x with | some .globalImplicit => true | _ => false) && !(x == ("__debug__" : Str))
def relab (sc scope : Scope) : Scope := { scope with names := scope.names.map fun (n, k) => if (k == .free && sc.kind == .function && sc.names.lookup n == some .cell) then (n, .cell) else (n, k) }
def Es.len : Es → Nat
  | .nil => 0
  | .cons _ r => r.len + 1
def Gs.len : Gs → Nat
  | .nil => 0
  | .cons _ r => r.len + 1
def isTp : G → Bool
  | .tp .. => true
  | _ => false
mutual
def slots : G → List Nat
  | .nm i _ _ => [i]
  | .tp gs _ _ => slotsL gs
  | .sb _ _ _ => []
def slotsL : Gs → List Nat
  | .nil => []
  | .cons g r => slots g ++ slotsL r
end
/-- no call without arguments -/
def noCall0 : E → Bool
  | .call _ _ .nil _ _ => false
  | .bi _ .nil _ _ => false
  | _ => true
mutual
def wfE (Γ : Tab) (N : List Str) : Scope → (Str → Bool) → E → Bool
  | _, _, .con .. => true
  | sc, _, .var i x _ => decide (N[i]? = some x) && visB sc x && !(x == ("__debug__" : Str)) && !(x == ("__classdict__" : Str))
  | sc, _, .glo x i _ => glB sc x && decide (Γ.glo x = some i)
  | sc, fn, .tup es _ _ => wfEs Γ N sc fn es
  | sc, fn, .lst es _ => wfEs Γ N sc fn es
  | _, _, .dct _ => true
  | sc, fn, .op _ a b _ => wfE Γ N sc fn a && wfE Γ N sc fn b
  | sc, fn, .neg a _ => wfE Γ N sc fn a
  | sc, fn, .not a _ => wfE Γ N sc fn a
  | sc, fn, .bop _ es _ => wfEs Γ N sc fn es && decide (0 < es.len)
  | sc, fn, .cmp _ a b _ => wfE Γ N sc fn a && wfE Γ N sc fn b
  | sc, fn, .chn _ _ a b c _ => wfE Γ N sc fn a && wfE Γ N sc fn b && wfE Γ N sc fn c
  | sc, fn, .ifx c a b _ => wfE Γ N sc fn c && wfE Γ N sc fn a && wfE Γ N sc fn b
  | sc, fn, .ix a i _ => wfE Γ N sc fn a && wfE Γ N sc fn i
  | sc, fn, .sl a lo hi _ _ => wfE Γ N sc fn a && wfEo Γ N sc fn lo && wfEo Γ N sc fn hi
  | sc, fn, .rev a _ _ _ _ _ => wfE Γ N sc fn a
  | sc, _, .gtp x ds _ => glB sc x && (match Γ.tup x with | some es => D.beqL es ds | none => false)
  | sc, fn, .call f n as _ _ => glB sc f && Γ.cal f n as.len && wfEs Γ N sc fn as
  | sc, fn, .bi f as _ _ => glB sc (Str.ofString f.name) && wfEs Γ N sc fn as
  | sc, fn, .mxd gr a d _ _ _ => glB sc (Str.ofString (if gr then "max" else "min")) && wfE Γ N sc fn a && wfE Γ N sc fn d
  | sc, fn, .isi a t _ _ _ => glB sc "isinstance" && glB sc (Str.ofString t.name) && wfE Γ N sc fn a
  | sc, fn, .isl a _ _ _ _ _ _ => glB sc "isinstance" && glB sc "list" && glB sc "tuple" && wfE Γ N sc fn a
  | sc, fn, .lrg a b _ _ _ _ => glB sc "list" && glB sc "range" && wfE Γ N sc fn a && wfE Γ N sc fn b
  | sc, fn, .lrg1 a _ _ _ _ => glB sc "list" && glB sc "range" && wfE Γ N sc fn a
  | sc, fn, .mt o _ as q p => noCall0 o && wfE Γ N sc fn o && wfEs Γ N sc fn as && (q.endLine == p.line) && decide (as.len < 20)
  | sc, fn, .lc e g it c own scx _ => wfI Γ N sc fn (isTp g) it && blkC N sc scx own && (slots g).all (fun j => (own.map (·.2)).contains j) &&
      wfG Γ N (relab sc scx) (fun x => scx.names.lookup x == some .cell) g && wfEo Γ N (relab sc scx) (fun x => scx.names.lookup x == some .cell) c && wfE Γ N (relab sc scx) (fun x => scx.names.lookup x == some .cell) e
def wfEs (Γ : Tab) (N : List Str) : Scope → (Str → Bool) → Es → Bool
  | _, _, .nil => true
  | sc, fn, .cons e r => wfE Γ N sc fn e && wfEs Γ N sc fn r
def wfEo (Γ : Tab) (N : List Str) : Scope → (Str → Bool) → Eo → Bool
  | _, _, .none => true
  | sc, fn, .some e => wfE Γ N sc fn e
def wfI (Γ : Tab) (N : List Str) : Scope → (Str → Bool) → Bool → I → Bool
  | sc, fn, _, .ex e => wfE Γ N sc fn e
  | sc, fn, _, .rng1 a _ _ => glB sc "range" && wfE Γ N sc fn a
  | sc, fn, _, .rng2 a b _ _ => glB sc "range" && wfE Γ N sc fn a && wfE Γ N sc fn b
  | sc, fn, _, .rng3 a b c _ _ => glB sc "range" && wfE Γ N sc fn a && wfE Γ N sc fn b && wfE Γ N sc fn c
  | sc, fn, tp, .enm e _ _ => tp && glB sc "enumerate" && wfE Γ N sc fn e
def wfG (Γ : Tab) (N : List Str) : Scope → (Str → Bool) → G → Bool
  | sc, fn, .nm i x _ => decide (N[i]? = some x) && locB sc fn x
  | sc, fn, .tp gs _ _ => wfGs Γ N sc fn gs
  | sc, fn, .sb o i _ => wfE Γ N sc fn o && wfE Γ N sc fn i
def wfGs (Γ : Tab) (N : List Str) : Scope → (Str → Bool) → Gs → Bool
  | _, _, .nil => true
  | sc, fn, .cons g r => wfG Γ N sc fn g && wfGs Γ N sc fn r
end
/-- which stores are exchanged: none: not served -/
def swKind (sc : Scope) (ts vs : List Expr) : Option (Option (List Str)) :=
  match swappedStores [.Tuple ts 0 ⟨0, 0, 0, 0⟩] (.Tuple vs 0 ⟨0, 0, 0, 0⟩) { scope := sc, locals := 0, globals := 0, cells := [] } with
  | .pure r => some r
  | _ => none
def isLocal (sc : Scope) (x : Str) : Bool := match sc.names.lookup x with | some .local => true | _ => false
def asgOk (sc : Scope) : G → E → Bool
  | .tp gs _ _, .tup es _ _ => match swKind sc (embGs gs) (embEs es) with
    | some none => true
    | some (some ns) => match gs with
      | .cons (.nm i x _) (.cons (.nm j y _) .nil) => decide (ns = [x, y]) && isLocal sc x && isLocal sc y && decide (i ≠ j) && decide (es.len = 2)
      | .cons (.nm i x _) (.cons (.nm j y _) (.cons (.nm l z _) .nil)) => decide (ns = [x, y, z]) && isLocal sc x && isLocal sc y && isLocal sc z && decide (i ≠ j) && decide (i ≠ l) && decide (j ≠ l) && decide (es.len = 3)
      | _ => false
    | none => false
  | _, _ => true
def isLc : E → Bool
  | .lc .. => true
  | _ => false
mutual
def wfT (Γ : Tab) (N : List Str) (sc : Scope) : T → Bool
  | .asg g e _ => wfG Γ N sc (fun _ => true) g && wfE Γ N sc (fun _ => true) e && asgOk sc g e
  | .aug i x _ e _ _ => decide (N[i]? = some x) && locB sc (fun _ => true) x && wfE Γ N sc (fun _ => true) e
  | .ex e _ => !isLc e && wfE Γ N sc (fun _ => true) e
  | .ret e _ => wfE Γ N sc (fun _ => true) e
  | .retN _ => true
  | .iff c a b _ => wfE Γ N sc (fun _ => true) c && wfTs Γ N sc a && wfTs Γ N sc b
  | .fr g it b _ => wfI Γ N sc (fun _ => true) (isTp g) it && wfG Γ N sc (fun _ => true) g && wfTs Γ N sc b
  | .whl c b _ => wfE Γ N sc (fun _ => true) c && wfTs Γ N sc b
  | .brk _ => true
  | .cnt _ => true
  | .pas _ => true
  | .nev _ => true
def wfTs (Γ : Tab) (N : List Str) (sc : Scope) : Ts → Bool
  | .nil => true
  | .cons t r => wfT Γ N sc t && wfTs Γ N sc r
end

/-! ### what it is worth -/
def conD : Const → Option D
  | .none => some .non
  | .bool b => some (.bl b)
  | .int i => some (.int i)
  | .str x => some (.str x)
  | _ => none
/-- what a loop walks: the items, what must stay -/
structure Wk where
  items : List D
  ok : Store → Bool
def wipeD (σ : StD) : List Nat → StD
  | [] => σ
  | v :: vs => (wipeD σ vs).set v none
def rangeD (lo : Int) : Nat → List D
  | 0 => []
  | n + 1 => .int lo :: rangeD (lo + 1) n
def rngD (lo hi : Int) : Option Wk :=
  @ite _ (-(2 ^ 62) ≤ lo ∧ lo < 2 ^ 62 ∧ -(2 ^ 62) ≤ hi ∧ hi < 2 ^ 62) (Classical.propDecidable _) (some ⟨rangeD lo (hi - lo).toNat, fun _ => true⟩) none
/-- a range by steps -/
def stepD (lo c : Int) : Nat → List D
  | 0 => []
  | n + 1 => .int lo :: stepD (lo + c) c n
def rng3D (lo hi c : Int) : Option Wk :=
  @ite _ (c = -1 ∧ -(2 ^ 62) ≤ lo ∧ lo < 2 ^ 62 ∧ -(2 ^ 62) ≤ hi ∧ hi < 2 ^ 62) (Classical.propDecidable _) (some ⟨stepD lo (-1) (lo - hi).toNat, fun _ => true⟩) none
def revD (a : D) (S : Store) : Option (D × Store) :=
  match lstOf S a with
  | some ds => some (.loc S.length, S ++ [.lst ds.reverse])
  | none => none
def enumD (i : Int) : List D → List D
  | [] => []
  | d :: r => .tup [.int i, d] :: enumD (i + 1) r
/-- one turn after the other of a comprehension -/
def lcD (ok : Store → Bool) (g : D → Store → Option (StD × Store)) (c : StD → Store → Option (Bool × Store)) (e : StD → Store → Option (D × Store)) : List D → List D → Store → Option (List D × Store)
  | [], acc, S => if ok S then some (acc, S) else none
  | x :: r, acc, S => if ok S then
      match g x S with
      | some (σ1, S1) => match c σ1 S1 with
        | some (true, S2) => match e σ1 S2 with
          | some (y, S3) => if acc.length < sizeLine then lcD ok g c e r (acc ++ [y]) S3 else none
          | none => none
        | some (false, S2) => lcD ok g c e r acc S2
        | none => none
      | none => none
    else none
/-- one step after another -/
def bnd {α β : Type} (x : Option (α × Store)) (f : α → Store → Option (β × Store)) : Option (β × Store) :=
  match x with
  | some (a, S) => f a S
  | none => none
@[simp] theorem bnd_some {α β : Type} (a : α) (S : Store) (f : α → Store → Option (β × Store)) : bnd (some (a, S)) f = f a S := rfl
@[simp] theorem bnd_none {α β : Type} (f : α → Store → Option (β × Store)) : bnd none f = none := rfl
def opt {α : Type} (x : Option α) (S : Store) : Option (α × Store) :=
  match x with
  | some a => some (a, S)
  | none => none
@[simp] theorem opt_some {α : Type} (a : α) (S : Store) : opt (some a) S = some (a, S) := rfl
@[simp] theorem opt_none {α : Type} (S : Store) : opt (none : Option α) S = none := rfl
structure Ev where
  e : StD → Store → Option (D × Store)
  b : StD → Store → Option (Bool × Store)
/-- a test is the value's truth -/
def plain (f : StD → Store → Option (D × Store)) : Ev := ⟨f, fun σ S => bnd (f σ S) fun d S1 => opt (truthD S1 d) S1⟩
def negD : D → Store → Option (D × Store)
  | .int i, S => some (.int (-i), S)
  | _, _ => none
def notD : D → Store → Option (D × Store)
  | .bl b, S => some (.bl (!b), S)
  | _, _ => none
/-- a and b, a or b, as values: k goes on -/
def bopD (o : BoolOp) (k : Store → Option (D × Store)) : D → Store → Option (D × Store)
  | .bl true, S => match o with
    | .And => k S
    | .Or => some (.bl true, S)
  | .bl false, S => match o with
    | .And => some (.bl false, S)
    | .Or => k S
  | _, _ => none
def bopB (o : BoolOp) (k : Store → Option (Bool × Store)) : Bool → Store → Option (Bool × Store)
  | true, S => match o with
    | .And => k S
    | .Or => some (true, S)
  | false, S => match o with
    | .And => some (false, S)
    | .Or => k S
def iteD {α : Type} (k l : Store → Option (α × Store)) : Bool → Store → Option (α × Store)
  | true, S => k S
  | false, S => l S
def intD : D → Store → Option (Int × Store)
  | .int i, S => some (i, S)
  | _, _ => none
def tupD : D → Option (List D)
  | .tup ds => some ds
  | _ => none
def slotD (σ : StD) (i : Nat) : Option D :=
  match σ[i]? with
  | some (some d) => some d
  | _ => none
mutual
def ev (C : Orc) : E → Ev
  | .con c _ _ => plain fun _ S => opt (conD c) S
  | .var i _ _ => plain fun σ S => opt (slotD σ i) S
  | .glo _ i _ => plain fun _ S => some (.int i, S)
  | .tup es _ _ => plain fun σ S => bnd (evEs C es σ S) fun ds S1 => if ds.length ≤ sizeLine then some (.tup ds, S1) else none
  | .lst es _ => plain fun σ S => bnd (evEs C es σ S) fun ds S1 => if ds.length ≤ sizeLine then some (.loc S1.length, S1 ++ [.lst ds]) else none
  | .dct _ => plain fun _ S => some (.loc S.length, S ++ [.dic []])
  | .op o a b _ => plain fun σ S => bnd ((ev C a).e σ S) fun x S1 => bnd ((ev C b).e σ S1) fun y S2 => opD o x y S2
  | .neg a _ => plain fun σ S => bnd ((ev C a).e σ S) negD
  | .not a _ => ⟨fun σ S => bnd ((ev C a).e σ S) notD, fun σ S => bnd ((ev C a).b σ S) fun b S1 => some (!b, S1)⟩
  | .bop o es _ => ⟨evBop C o es, evBB C o es⟩
  | .cmp o a b _ => ⟨fun σ S => bnd ((ev C a).e σ S) fun x S1 => bnd ((ev C b).e σ S1) fun y S2 => bnd (opt (cmpD o x y S2) S2) fun k S3 => some (gc S (.bl k) S3),
      fun σ S => bnd ((ev C a).e σ S) fun x S1 => bnd ((ev C b).e σ S1) fun y S2 => bnd (opt (cmpD o x y S2) S2) fun k S3 => some (k, (gc S (.bl k) S3).2)⟩
  | .chn o q a b c _ => ⟨fun σ S => bnd ((ev C a).e σ S) fun x S1 => bnd ((ev C b).e σ S1) fun y S2 => bnd (opt (cmpD o x y S2) S2) (iteD (fun S3 => bnd ((ev C c).e σ S3) fun z S4 => opt ((cmpD q y z S4).map .bl) S4) (fun S3 => some (.bl false, S3))),
      fun σ S => bnd ((ev C a).e σ S) fun x S1 => bnd ((ev C b).e σ S1) fun y S2 => bnd (opt (cmpD o x y S2) S2) (iteD (fun S3 => bnd ((ev C c).e σ S3) fun z S4 => opt (cmpD q y z S4) S4) (fun S3 => some (false, S3)))⟩
  | .ifx c a b _ => ⟨fun σ S => bnd ((ev C c).b σ S) (iteD ((ev C a).e σ) ((ev C b).e σ)), fun σ S => bnd ((ev C c).b σ S) (iteD ((ev C a).b σ) ((ev C b).b σ))⟩
  | .ix a i _ => plain fun σ S => bnd ((ev C a).e σ S) fun x S1 => bnd ((ev C i).e σ S1) fun y S2 => bnd (opt (ixD x y S2) S2) fun z S3 => some (gc S z S3)
  | .sl a lo hi _ _ => plain fun σ S => bnd ((ev C a).e σ S) fun x S1 => bnd (evEo C lo σ S1) fun l S2 => bnd (evEo C hi σ S2) fun h S3 => slD x l h S3
  | .rev a _ _ _ _ _ => plain fun σ S => bnd ((ev C a).e σ S) revD
  | .gtp _ ds _ => plain fun _ S => some (.tup ds, S)
  | .call _ n as _ _ => plain fun σ S => bnd (evEs C as σ S) fun ds S1 => bnd (C n ds S1) fun d S2 => some (gc S d S2)
  | .bi f as _ _ => plain fun σ S => bnd (evEs C as σ S) fun ds S1 => bnd (biD f ds S1) fun d S2 => some (gc S d S2)
  | .mxd gr a d _ _ _ => plain fun σ S => bnd ((ev C a).e σ S) fun x S1 => bnd ((ev C d).e σ S1) fun y S2 => bnd (opt (maxD gr x y S2) S2) fun z S3 => some (gc S z S3)
  | .isi a t _ _ _ => plain fun σ S => bnd ((ev C a).e σ S) fun x S1 => bnd (opt (tyD S1 x) S1) fun n S2 => some (gc S (.bl (isaD n t)) S2)
  | .isl a _ _ _ _ _ _ => plain fun σ S => bnd ((ev C a).e σ S) fun x S1 => bnd (opt (tyD S1 x) S1) fun n S2 => some (gc S (.bl (isaD n .list || isaD n .tuple)) S2)
  | .lrg a b _ _ _ _ => plain fun σ S => bnd (bnd ((ev C a).e σ S) intD) fun i S1 => bnd (bnd ((ev C b).e σ S1) intD) fun j S2 => bnd (opt (rngD i j) S2) fun w S3 =>
      if w.items.length ≤ 2 ^ 24 then some (.loc S3.length, S3 ++ [.lst w.items]) else none
  | .lrg1 a _ _ _ _ => plain fun σ S => bnd (bnd ((ev C a).e σ S) intD) fun i S1 => bnd (opt (rngD 0 i) S1) fun w S3 =>
      if w.items.length ≤ 2 ^ 24 then some (.loc S3.length, S3 ++ [.lst w.items]) else none
  | .mt o m as _ _ => plain fun σ S => bnd ((ev C o).e σ S) fun x S1 => if recvD m x S1 then bnd (evEs C as σ S1) fun ds S2 => bnd (mtD m x ds S2) fun d S3 => some (gc S d S3) else none
  | .lc e g it c own _ _ => plain fun σ S => bnd (evI C it σ S) fun w S1 =>
      bnd (lcD w.ok (fun x T => evG C g x (wipeD σ (own.map (·.2))) T) (evIf C c) ((ev C e).e) w.items [] S1) fun ds S2 => some (.loc S2.length, S2 ++ [.lst ds])
def evBop (C : Orc) (o : BoolOp) : Es → StD → Store → Option (D × Store)
  | .nil, _, _ => none
  | .cons a r, σ, S => match r with
    | .nil => (ev C a).e σ S
    | .cons _ _ => bnd ((ev C a).e σ S) (bopD o fun S1 => evBop C o r σ S1)
def evBB (C : Orc) (o : BoolOp) : Es → StD → Store → Option (Bool × Store)
  | .nil, _, _ => none
  | .cons a r, σ, S => match r with
    | .nil => (ev C a).b σ S
    | .cons _ _ => bnd ((ev C a).b σ S) (bopB o fun S1 => evBB C o r σ S1)
def evEs (C : Orc) : Es → StD → Store → Option (List D × Store)
  | .nil, _, S => some ([], S)
  | .cons e r, σ, S => bnd ((ev C e).e σ S) fun d S1 => bnd (evEs C r σ S1) fun ds S2 => some (d :: ds, S2)
def evEo (C : Orc) : Eo → StD → Store → Option (Option Int × Store)
  | .none, _, S => some (none, S)
  | .some e, σ, S => bnd (bnd ((ev C e).e σ S) intD) fun i S1 => some (some i, S1)
def evIf (C : Orc) : Eo → StD → Store → Option (Bool × Store)
  | .none, _, S => some (true, S)
  | .some e, σ, S => (ev C e).b σ S
def evI (C : Orc) : I → StD → Store → Option (Wk × Store)
  | .ex e, σ, S => bnd ((ev C e).e σ S) fun d S1 => bnd (opt (seqOf S1 d) S1) fun ds S2 => some (⟨ds, stays d ds⟩, S2)
  | .rng1 a _ _, σ, S => bnd (bnd ((ev C a).e σ S) intD) fun i S1 => opt (rngD 0 i) S1
  | .rng2 a b _ _, σ, S => bnd (bnd ((ev C a).e σ S) intD) fun i S1 => bnd (bnd ((ev C b).e σ S1) intD) fun j S2 => opt (rngD i j) S2
  | .rng3 a b c _ _, σ, S => bnd (bnd ((ev C a).e σ S) intD) fun i S1 => bnd (bnd ((ev C b).e σ S1) intD) fun j S2 => bnd (bnd ((ev C c).e σ S2) intD) fun k S3 => opt (rng3D i j k) S3
  | .enm e _ _, σ, S => bnd ((ev C e).e σ S) fun d S1 => bnd (opt (seqOf S1 d) S1) fun ds S2 => some (⟨enumD 0 ds, stays d ds⟩, S2)
def evG (C : Orc) : G → D → StD → Store → Option (StD × Store)
  | .nm i _ _, v, σ, S => some (σ.set i (some v), S)
  | .tp gs _ _, v, σ, S => bnd (opt (seqOf S v) S) fun ds S1 => evGs C gs ds σ S1
  | .sb o i _, v, σ, S => bnd ((ev C o).e σ S) fun x S1 => bnd ((ev C i).e σ S1) fun y S2 => match setD x y v S2 with
    | some S3 => some (σ, S3)
    | none => none
def evGs (C : Orc) : Gs → List D → StD → Store → Option (StD × Store)
  | .nil, vs, σ, S => match vs with
    | [] => some (σ, S)
    | _ => none
  | .cons g r, vs, σ, S => match vs with
    | v :: ws => bnd (evG C g v σ S) fun σ1 S1 => evGs C r ws σ1 S1
    | [] => none
end
inductive Fl where
  | next (σ : StD) | brk (σ : StD) | cnt (σ : StD) | ret (d : D)
def forD (ok : Store → Bool) (g : D → StD → Store → Option (StD × Store)) (b : StD → Store → Option (Fl × Store)) : List D → StD → Store → Option (Fl × Store)
  | [], σ, S => if ok S then some (.next σ, S) else none
  | x :: r, σ, S => if ok S then
      match g x σ S with
      | some (σ1, S1) => match b σ1 S1 with
        | some (.next σ2, S2) => forD ok g b r σ2 S2
        | some (.cnt σ2, S2) => forD ok g b r σ2 S2
        | some (.brk σ2, S2) => some (.next σ2, S2)
        | some (.ret d, S2) => some (.ret d, S2)
        | none => none
      | none => none
    else none
def whlD (c : StD → Store → Option (Bool × Store)) (b : StD → Store → Option (Fl × Store)) : Nat → StD → Store → Option (Fl × Store)
  | 0, _, _ => none
  | n + 1, σ, S => match c σ S with
    | some (true, S1) => match b σ S1 with
      | some (.next σ2, S2) => whlD c b n σ2 S2
      | some (.cnt σ2, S2) => whlD c b n σ2 S2
      | some (.brk σ2, S2) => some (.next σ2, S2)
      | some (.ret d, S2) => some (.ret d, S2)
      | none => none
    | some (false, S1) => some (.next σ, S1)
    | none => none
/-- how many turns a while may take -/
def turns : Nat := 2 ^ 40
def augD (o : Operator) : D → D → Option D
  | .int a, .int b => match o with
    | .Add => some (.int (a + b))
    | .Sub => some (.int (a - b))
    | _ => none
  | _, _ => none
mutual
def evT (C : Orc) : T → StD → Store → Option (Fl × Store)
  | .asg g e _, σ, S => bnd ((ev C e).e σ S) fun d S1 => bnd (evG C g d σ S1) fun σ1 S2 => some (.next σ1, S2)
  | .aug i _ o e _ _, σ, S => bnd (opt (slotD σ i) S) fun x S1 => bnd ((ev C e).e σ S1) fun y S2 => bnd (opt (augD o x y) S2) fun z S3 => some (.next (σ.set i (some z)), S3)
  | .ex e _, σ, S => bnd ((ev C e).e σ S) fun _ S1 => some (.next σ, (gc S .non S1).2)
  | .ret e _, σ, S => bnd ((ev C e).e σ S) fun d S1 => some (.ret d, S1)
  | .retN _, _, S => some (.ret .non, S)
  | .iff c a b _, σ, S => bnd ((ev C c).b σ S) (iteD (evTs C a σ) (evTs C b σ))
  | .fr g it b _, σ, S => bnd (evI C it σ S) fun w S1 => forD w.ok (evG C g) (evTs C b) w.items σ S1
  | .whl c b _, σ, S => whlD ((ev C c).b) (evTs C b) turns σ S
  | .brk _, σ, S => some (.brk σ, S)
  | .cnt _, σ, S => some (.cnt σ, S)
  | .pas _, σ, S => some (.next σ, S)
  | .nev _, _, _ => none
def evTs (C : Orc) : Ts → StD → Store → Option (Fl × Store)
  | .nil, σ, S => some (.next σ, S)
  | .cons t r, σ, S => bnd (evT C t σ S) fun f S1 => match f with
    | .next σ1 => evTs C r σ1 S1
    | .brk σ1 => some (.brk σ1, S1)
    | .cnt σ1 => some (.cnt σ1, S1)
    | .ret d => some (.ret d, S1)
end
end Mi
end

end

section
/-! MiT: tuples that are laid and known to the object. -/
namespace Mi
open PySem PySem.Spec L2
/-- a tuple that is known to the object, and has no dict of its own -/
def TupAt (K : PySem.W.Frag) (H : Hp) (a : Addr) (vs : List V) : Prop := (∃ o, H a = some (.frz o (.tup vs)) ∧ o.dict = none) ∨
  ∃ (o : Obj) (its : Array Value) (n : Nat), K.lookup a = some o ∧ o.cls = .type "tuple" ∧ o.dict = none ∧ o.data = .seq its n ∧ its.size ≤ sizeLine ∧ Vals vs its.toList
theorem TupAt.sq {K : PySem.W.Frag} {H : Hp} {a : Addr} {vs : List V} (h : TupAt K H a vs) : SqT K H a vs := by
  rcases h with ⟨o, e, _⟩ | ⟨o, its, n, h1, h2, h3, h4, h5, h6⟩
  · exact .inl (.inr ⟨o, e⟩)
  · exact .inr ⟨o, its, n, h1, h2, h4, h5, h6⟩
theorem TupAt.new {K : PySem.W.Frag} {H : Hp} {a : Addr} {vs : List V} {o : Obj} (h : o.dict = none) : TupAt K (upd H a (.frz o (.tup vs))) a vs := .inl ⟨o, upd_same, h⟩
section
variable {X : Cx}
theorem Inv.tupF {pins : List (Addr × Obj)} {σ : L2.St} {H : Hp} {s : Shared} (I : L2.Inv X pins σ H s) {xs : List V} {us : List Value} (r : Vals xs us) (hz : xs.length ≤ sizeLine) :
    L2.Inv X pins σ (upd H s.heap.objs.size (.frz { cls := .type "tuple", data := .seq us.toArray } (.tup xs))) { s with heap := s.heap.push { cls := .type "tuple", data := .seq us.toArray } } :=
  I.laid (t' := s.toks) (fun b u e => Heap.get?_push_of_some _ e) (Nat.le_refl _) ⟨Heap.get?_push_size _ rfl, hz, us, r, ⟨_, Heap.get?_push_size _ rfl, rfl, _, rfl⟩⟩
def NewT (H : Hp) (xs : List V) (Q : VK) : Prop := ∀ p o, H p = none → o.dict = none → Q (.ref p) (upd H p (.frz o (.tup xs)))
theorem pe_tupF {es : List Expr} {t : TA} {k : Nat} {pos : Pos} (h : PA X es t) : PE X (.Tuple es k pos) (fun σ H Q => t σ H fun xs H1 => xs.length ≤ sizeLine ∧ NewT H1 xs Q) := by
  refine ⟨fun pins s σ H Q I hq => ?_⟩
  refine wpAny_Tuple_spliced (thn (h.run pos pins s σ H _ I hq) fun us s1 ⟨xs, H1, I1, r, z, q⟩ => ⟨by rw [← r.length]; exact z, ?_⟩)
  exact ⟨.ref s1.heap.objs.size, _, Inv.tupF I1 r z, rfl, q _ _ (I1.hok.fresh (Nat.le_refl _)) rfl⟩
theorem op_catF : OpR X (binaryOp .Add) (fun x y H Q => ∃ a b xs ys, x = .ref a ∧ y = .ref b ∧ SqT X.K H a xs ∧ SqT X.K H b ys ∧ xs.length + ys.length ≤ sizeLine ∧
    (xs = [] → Q (.ref b) H) ∧ (xs ≠ [] → ys = [] → Q (.ref a) H) ∧ (xs ≠ [] → ys ≠ [] → NewT H (xs ++ ys) Q)) := by
  intro pins s σ H x y v u Q I rx ry ⟨a, b, xs, ys, e1, e2, ha, hb, hz, q0, q1, q2⟩
  subst e1 e2
  cases rx
  cases ry
  obtain ⟨its, r1, p1, _⟩ := I.tuple ha
  obtain ⟨its2, r2, p2, _⟩ := I.tuple hb
  by_cases hx : xs = []
  · subst hx
    cases r1
    exact cat_tup0 p1 p2 ⟨.ref b, H, I, rfl, q0 rfl⟩
  · refine HT.cat_tup p1 p2 (fun z => hx (r1.nil_iff.mp z)) (fun z => ⟨.ref a, H, I, rfl, q1 hx (r2.nil_iff.mp z)⟩) (fun z => ?_) (by rw [← r1.length, ← r2.length]; exact hz)
    exact ⟨.ref s.heap.objs.size, _, Inv.tupF I (r1.append r2) (by rw [List.length_append]; exact hz), rfl, q2 hx (fun w => z (r2.nil_iff.mpr w)) _ _ (I.hok.fresh (Nat.le_refl _)) rfl⟩
theorem sl_tupF : SlR X (fun x lo hi H Q => ∃ a xs, x = .ref a ∧ SqT X.K H a xs ∧ (HT.sIx xs.length 0 lo = 0 ∧ HT.sIx xs.length xs.length hi = xs.length → Q (.ref a) H) ∧
    (¬ (HT.sIx xs.length 0 lo = 0 ∧ HT.sIx xs.length xs.length hi = xs.length) → NewT H (cutV xs lo hi) Q)) := by
  intro pins s σ H x v vl vu lo hi sl Q I rx hs pl pu ⟨a, xs, e1, hx, q1, q2⟩
  subst e1
  cases rx
  obtain ⟨its, r, ht, hz⟩ := I.tuple hx
  have hlen : its.toArray.size = xs.length := by rw [List.size_toArray]; exact r.length.symm
  refine ⟨"tuple", _, PyProof.Rows.slot_tuple_getitem.lookup, ht.typeIs, ?_⟩
  by_cases hw : HT.sIx xs.length 0 lo = 0 ∧ HT.sIx xs.length xs.length hi = xs.length
  · exact getItem_tuple_whole ht hs pl pu (by rw [hlen]; exact hw) ⟨.ref a, H, I, rfl, q1 hw⟩
  · refine HT.getItem_tuple_cut ht hs pl pu (by rw [hlen]; exact hw) ?_ (by rw [hlen]; exact hz)
    rw [hlen]
    exact ⟨.ref s.heap.objs.size, _, Inv.tupF I ((r.drop (HT.sIx xs.length 0 lo)).take (HT.sIx xs.length xs.length hi - HT.sIx xs.length 0 lo)) (Nat.le_trans (cutV_length xs lo hi) hz), rfl, q2 hw _ _ (I.hok.fresh (Nat.le_refl _)) rfl⟩
theorem call_tupleF : CallR X (.type "tuple") (fun xs H Q => ∃ p ys, xs = [.ref p] ∧ ((SqL X.K H p ys ∧ NewT H ys Q) ∨ (SqT X.K H p ys ∧ Q (.ref p) H))) := by
  intro pins s σ H xs us Q I r ⟨p, ys, e1, h⟩
  subst e1
  obtain ⟨u, rfl, rx⟩ := vals1 r
  cases rx
  rcases h with ⟨hq, q⟩ | ⟨hq, q⟩
  · obtain ⟨its, r', pl, hz⟩ := I.list hq
    have hlen := r'.length
    refine call_tuple_list pl.isList (fun h' kp => ?_) (by simp only [List.size_toArray] <;> omega)
    have I1 : L2.Inv X pins σ H { s with heap := h' } := I.kept (t' := s.toks) kp
    exact ⟨.ref h'.objs.size, _, Inv.tupF I1 r' hz, rfl, q _ _ (I1.hok.fresh (Nat.le_refl _)) rfl⟩
  · obtain ⟨its, r', pl, hz⟩ := I.tuple hq
    exact call_tuple_same pl ⟨.ref p, H, I, rfl, q⟩
end
end Mi

end

section
/-! Mi2: data in the abstract heap. -/
namespace Mi
open PySem PySem.Spec L2

/-- a list that is never written: locked, or of the written part -/
def RoAt (K : PySem.W.Frag) (H : Hp) (a : Addr) (vs : List V) : Prop :=
  (∃ o, H a = some (.frz o (.lst vs))) ∨ ∃ (o : Obj) (its : Array Value) (n : Nat), K.lookup a = some o ∧ o.cls = .type "list" ∧ o.dict = none ∧ o.data = .seq its n ∧ its.size ≤ sizeLine ∧ Vals vs its.toList
theorem RoAt.sq {K : PySem.W.Frag} {H : Hp} {a : Addr} {vs : List V} (h : RoAt K H a vs) : SqL K H a vs := by
  rcases h with h | h
  · exact .inl (.inr h)
  · exact .inr h
mutual
def Rep (K : PySem.W.Frag) (H : Hp) (ρ : List Addr) : D → V → Prop
  | .non, v => v = .non
  | .bl b, v => v = .bl b
  | .int i, v => v = .int i
  | .str x, v => v = .str x
  | .tup ds, v => ∃ a vs, v = .ref a ∧ TupAt K H a vs ∧ RepL K H ρ ds vs
  | .ro ds, v => ∃ a vs, v = .ref a ∧ RoAt K H a vs ∧ RepL K H ρ ds vs
  | .loc n, v => ∃ a, v = .ref a ∧ ρ[n]? = some a
def RepL (K : PySem.W.Frag) (H : Hp) (ρ : List Addr) : List D → List V → Prop
  | [], vs => vs = []
  | d :: ds, vs => ∃ v r, vs = v :: r ∧ Rep K H ρ d v ∧ RepL K H ρ ds r
end
def ObjRep (K : PySem.W.Frag) (H : Hp) (ρ : List Addr) (a : Addr) : MO → Prop
  | .lst ds => ∃ vs, H a = some (.lst vs) ∧ RepL K H ρ ds vs
  | .dic kvs => ∃ ws, H a = some (.dK ws) ∧ ws.map (·.1) = kvs.map (·.1) ∧ RepL K H ρ (kvs.map (·.2)) (ws.map (·.2))
  | .dit kvs => ∃ ws, H a = some (.dT ws) ∧ ws.map (·.1) = kvs.map (·.1) ∧ RepL K H ρ (kvs.map (·.2)) (ws.map (·.2))
structure HRep (K : PySem.W.Frag) (H : Hp) (ρ : List Addr) (S : Store) : Prop where
  len : ρ.length = S.length
  nd : ρ.Nodup
  ob : ∀ (n : Nat) (mo : MO) (a : Addr), S[n]? = some mo → ρ[n]? = some a → ObjRep K H ρ a mo
structure Ext (H : Hp) (ρ : List Addr) (H' : Hp) (ρ' : List Addr) : Prop where
  pre : ∃ τ, ρ' = ρ ++ τ
  new : ∀ b, b ∈ ρ' → b ∉ ρ → H b = none
  keep : ∀ b o, b ∉ ρ → H b = some o → H' b = some o
structure Cor (K : PySem.W.Frag) (H : Hp) (ρ : List Addr) (σ : St) (σD : StD) (S : Store) : Prop where
  len : σ.length = σD.length
  st : ∀ (i : Nat) (d : D), σD[i]? = some (some d) → ∃ v, σ[i]? = some (some v) ∧ Rep K H ρ d v
  hp : HRep K H ρ S

section
variable {K : PySem.W.Frag} {H H' H1 H2 : Hp} {ρ ρ' ρ1 ρ2 : List Addr} {S S' : Store} {σ : St} {σD : StD}
theorem Ext.refl : Ext H ρ H ρ := ⟨⟨[], by simp⟩, fun b h n => absurd h n, fun _ _ _ h => h⟩
theorem Ext.trans (a : Ext H ρ H1 ρ1) (b : Ext H1 ρ1 H2 ρ2) : Ext H ρ H2 ρ2 := by
  obtain ⟨τ, e⟩ := a.pre
  obtain ⟨τ', e'⟩ := b.pre
  have kp : ∀ c o, c ∉ ρ → H c = some o → c ∉ ρ1 := fun c o n h m => by
    have := a.new c m n
    rw [h] at this; cases this
  refine ⟨⟨τ ++ τ', by rw [e', e, List.append_assoc]⟩, fun c m n => ?_, fun c o n h => b.keep c o (kp c o n h) (a.keep c o n h)⟩
  by_cases m1 : c ∈ ρ1
  · exact a.new c m1 n
  · have h1 := b.new c m m1
    cases q : H c with
    | none => rfl
    | some o => rw [a.keep c o n q] at h1; cases h1
theorem HRep.has (h : HRep K H ρ S) {a : Addr} (m : a ∈ ρ) : ∃ (n : Nat) (mo : MO), S[n]? = some mo ∧ ρ[n]? = some a ∧ ObjRep K H ρ a mo := by
  obtain ⟨n, hn, e⟩ := List.mem_iff_getElem.mp m
  have hS : n < S.length := by rw [← h.len]; exact hn
  have e1 : S[n]? = some S[n] := List.getElem?_eq_getElem hS
  have e2 : ρ[n]? = some a := by rw [List.getElem?_eq_getElem hn, e]
  exact ⟨n, _, e1, e2, h.ob n _ a e1 e2⟩
theorem ObjRep.isMut {a : Addr} {mo : MO} (h : ObjRep K H ρ a mo) : ∃ o, H a = some o ∧ Mut (some o) := by
  cases mo with
  | lst ds => obtain ⟨vs, e, _⟩ := h; exact ⟨_, e, trivial⟩
  | dic ds => obtain ⟨vs, e, _⟩ := h; exact ⟨_, e, trivial⟩
  | dit ds => obtain ⟨vs, e, _⟩ := h; exact ⟨_, e, trivial⟩
theorem HRep.notin (h : HRep K H ρ S) {a : Addr} {o : HO} (e : H a = some o) (nm : ¬ Mut (some o)) : a ∉ ρ := fun m => by
  obtain ⟨n, mo, _, _, r⟩ := h.has m
  obtain ⟨u, eu, mu⟩ := r.isMut
  rw [e] at eu; cases eu
  exact nm mu
theorem HRep.free (h : HRep K H ρ S) {a : Addr} (e : H a = none) : a ∉ ρ := fun m => by
  obtain ⟨n, mo, _, _, r⟩ := h.has m
  obtain ⟨u, eu, mu⟩ := r.isMut
  rw [e] at eu; cases eu
theorem Ext.ix (x : Ext H ρ H' ρ') {n : Nat} {a : Addr} (e : ρ[n]? = some a) : ρ'[n]? = some a := by
  obtain ⟨τ, rfl⟩ := x.pre
  rw [List.getElem?_append_left (List.getElem?_eq_some_iff.mp e).1]
  exact e
theorem TupAt.ext (hp : HRep K H ρ S) (x : Ext H ρ H' ρ') {a : Addr} {vs : List V} (h : TupAt K H a vs) : TupAt K H' a vs := by
  rcases h with ⟨o, h, n⟩ | h
  · exact .inl ⟨o, x.keep _ _ (hp.notin h fun z => z) h, n⟩
  · exact .inr h
theorem RoAt.ext (hp : HRep K H ρ S) (x : Ext H ρ H' ρ') {a : Addr} {vs : List V} (h : RoAt K H a vs) : RoAt K H' a vs := by
  rcases h with ⟨o, h⟩ | h
  · exact .inl ⟨o, x.keep _ _ (hp.notin h fun z => z) h⟩
  · exact .inr h
mutual
theorem Ext.rep (hp : HRep K H ρ S) (x : Ext H ρ H' ρ') : ∀ (d : D) (v : V), Rep K H ρ d v → Rep K H' ρ' d v
  | .non, v, h => h
  | .bl b, v, h => h
  | .int i, v, h => h
  | .str y, v, h => h
  | .tup ds, v, h => by
    obtain ⟨a, vs, e, q, r⟩ := h
    exact ⟨a, vs, e, q.ext hp x, Ext.repL hp x ds vs r⟩
  | .ro ds, v, h => by
    obtain ⟨a, vs, e, q, r⟩ := h
    exact ⟨a, vs, e, q.ext hp x, Ext.repL hp x ds vs r⟩
  | .loc n, v, h => by
    obtain ⟨a, e, q⟩ := h
    exact ⟨a, e, x.ix q⟩
theorem Ext.repL (hp : HRep K H ρ S) (x : Ext H ρ H' ρ') : ∀ (ds : List D) (vs : List V), RepL K H ρ ds vs → RepL K H' ρ' ds vs
  | [], vs, h => h
  | d :: ds, vs, h => by
    obtain ⟨v, r, e, h1, h2⟩ := h
    exact ⟨v, r, e, Ext.rep hp x d v h1, Ext.repL hp x ds r h2⟩
end
theorem Cor.ext (c : Cor K H ρ σ σD S) (x : Ext H ρ H' ρ') (hp : HRep K H' ρ' S') : Cor K H' ρ' σ σD S' :=
  ⟨c.len, fun i d e => let ⟨v, h1, h2⟩ := c.st i d e; ⟨v, h1, x.rep c.hp d v h2⟩, hp⟩
theorem RepL.length : ∀ {ds : List D} {vs : List V}, RepL K H ρ ds vs → ds.length = vs.length
  | [], vs, h => by cases h; rfl
  | d :: ds, vs, h => by
    obtain ⟨v, r, e, _, h2⟩ := h
    rw [e, List.length_cons, List.length_cons, RepL.length h2]
theorem RepL.get : ∀ {ds : List D} {vs : List V} {i : Nat} {d : D}, RepL K H ρ ds vs → ds[i]? = some d → ∃ v, vs[i]? = some v ∧ Rep K H ρ d v
  | [], _, _, _, _, e => by simp at e
  | x :: ds, vs, 0, d, h, e => by
    obtain ⟨v, r, q, h1, _⟩ := h
    have e' : x = d := Option.some.inj e
    subst e' q
    exact ⟨v, rfl, h1⟩
  | x :: ds, vs, i + 1, d, h, e => by
    obtain ⟨v, r, q, _, h2⟩ := h
    subst q
    exact RepL.get (i := i) h2 e
theorem RepL.append : ∀ {ds es : List D} {vs ws : List V}, RepL K H ρ ds vs → RepL K H ρ es ws → RepL K H ρ (ds ++ es) (vs ++ ws)
  | [], _, vs, ws, h, h' => by cases h; exact h'
  | d :: ds, es, vs, ws, h, h' => by
    obtain ⟨v, r, e, h1, h2⟩ := h
    subst e
    exact ⟨v, r ++ ws, rfl, h1, RepL.append h2 h'⟩
theorem RepL.take : ∀ (n : Nat) {ds : List D} {vs : List V}, RepL K H ρ ds vs → RepL K H ρ (ds.take n) (vs.take n)
  | 0, _, _, _ => by simp [RepL]
  | n + 1, [], vs, h => by cases h; simp [RepL]
  | n + 1, d :: ds, vs, h => by
    obtain ⟨v, r, e, h1, h2⟩ := h
    subst e
    exact ⟨v, _, rfl, h1, RepL.take n h2⟩
theorem RepL.drop : ∀ (n : Nat) {ds : List D} {vs : List V}, RepL K H ρ ds vs → RepL K H ρ (ds.drop n) (vs.drop n)
  | 0, _, _, h => h
  | n + 1, [], vs, h => by cases h; simp [RepL]
  | n + 1, d :: ds, vs, h => by
    obtain ⟨v, r, e, h1, h2⟩ := h
    subst e
    exact RepL.drop n h2
theorem RepL.set : ∀ (n : Nat) {ds : List D} {vs : List V} {d : D} {v : V}, RepL K H ρ ds vs → Rep K H ρ d v → RepL K H ρ (ds.set n d) (vs.set n v)
  | _, [], vs, _, _, h, _ => by cases h; simp [RepL]
  | 0, x :: ds, vs, d, v, h, h' => by
    obtain ⟨y, r, e, h1, h2⟩ := h
    subst e
    exact ⟨v, r, rfl, h', h2⟩
  | n + 1, x :: ds, vs, d, v, h, h' => by
    obtain ⟨y, r, e, h1, h2⟩ := h
    subst e
    exact ⟨y, _, rfl, h1, RepL.set n h2 h'⟩
theorem RepL.cut (lo hi : Option Int) {ds : List D} {vs : List V} (h : RepL K H ρ ds vs) : RepL K H ρ (cut ds lo hi) (cutV vs lo hi) := by
  unfold Mi.cut cutV
  rw [h.length]
  exact (h.drop _).take _
theorem RepL.dropLast {ds : List D} {vs : List V} (h : RepL K H ρ ds vs) : RepL K H ρ ds.dropLast vs.dropLast := by
  rw [List.dropLast_eq_take, List.dropLast_eq_take, h.length]
  exact h.take _
theorem RepL.map_loc {ds : List D} {vs : List V} (h : RepL K H ρ ds vs) : True := trivial

/-! ### new objects, writes -/
theorem Ext.newT (hp : HRep K H ρ S) {p : Addr} {o : HO} (hn : H p = none) : Ext H ρ (upd H p o) ρ :=
  ⟨⟨[], by simp⟩, fun b h n => absurd h n, fun b u n h => by rw [upd_ne (ne_of_none h hn)]; exact h⟩
theorem Ext.newL (hp : HRep K H ρ S) {p : Addr} {o : HO} (hn : H p = none) : Ext H ρ (upd H p o) (ρ ++ [p]) :=
  ⟨⟨[p], rfl⟩, fun b h n => by
    rcases List.mem_append.mp h with m | m
    · exact absurd m n
    · have e : b = p := by simpa using m
      rw [e]; exact hn, fun b u n h => by rw [upd_ne (ne_of_none h hn)]; exact h⟩
theorem ObjRep.ext (hp : HRep K H ρ S) (x : Ext H ρ H' ρ') {a : Addr} {mo : MO} (same : H' a = H a) (h : ObjRep K H ρ a mo) : ObjRep K H' ρ' a mo := by
  cases mo with
  | lst ds => obtain ⟨vs, e, r⟩ := h; exact ⟨vs, same.trans e, x.repL hp _ _ r⟩
  | dic ds => obtain ⟨vs, e, q, r⟩ := h; exact ⟨vs, same.trans e, q, x.repL hp _ _ r⟩
  | dit ds => obtain ⟨vs, e, q, r⟩ := h; exact ⟨vs, same.trans e, q, x.repL hp _ _ r⟩
theorem HRep.newT (hp : HRep K H ρ S) {p : Addr} {o : HO} (hn : H p = none) : HRep K (upd H p o) ρ S :=
  ⟨hp.len, hp.nd, fun n mo a e1 e2 => by
    have r := hp.ob n mo a e1 e2
    obtain ⟨u, eu, _⟩ := r.isMut
    exact r.ext hp (Ext.newT hp hn) (upd_ne (ne_of_none eu hn))⟩
theorem HRep.newL (hp : HRep K H ρ S) {p : Addr} {o : HO} {mo : MO} (hn : H p = none) (h : ObjRep K (upd H p o) (ρ ++ [p]) p mo) : HRep K (upd H p o) (ρ ++ [p]) (S ++ [mo]) := by
  have hf := hp.free hn
  refine ⟨by simp [hp.len], ?_, fun n m a e1 e2 => ?_⟩
  · rw [List.nodup_append]
    exact ⟨hp.nd, by simp, fun a ha b hb => by
      have : b = p := by simpa using hb
      intro e; subst e; subst this; exact hf ha⟩
  · by_cases hl : n < S.length
    · rw [List.getElem?_append_left hl] at e1
      rw [List.getElem?_append_left (by rw [hp.len]; exact hl)] at e2
      have r := hp.ob n m a e1 e2
      obtain ⟨u, eu, _⟩ := r.isMut
      exact r.ext hp (Ext.newL hp hn) (upd_ne (ne_of_none eu hn))
    · have hb := (List.getElem?_eq_some_iff.mp e1).1
      simp at hb
      have en : n = S.length := by omega
      subst en
      rw [List.getElem?_append_right (Nat.le_refl _), Nat.sub_self] at e1
      rw [← hp.len, List.getElem?_append_right (Nat.le_refl _), Nat.sub_self] at e2
      have e1' : mo = m := Option.some.inj e1
      have e2' : p = a := Option.some.inj e2
      subst e1' e2'
      exact h
theorem HRep.newLst (hp : HRep K H ρ S) {p : Addr} {ds : List D} {vs : List V} (hn : H p = none) (r : RepL K H ρ ds vs) : HRep K (upd H p (.lst vs)) (ρ ++ [p]) (S ++ [.lst ds]) :=
  hp.newL hn ⟨vs, upd_same, (Ext.newL hp hn).repL hp _ _ r⟩
theorem HRep.newLoc (hp : HRep K H ρ S) {p : Addr} {o : HO} : Rep K (upd H p o) (ρ ++ [p]) (.loc S.length) (.ref p) := by
  refine ⟨p, rfl, ?_⟩
  rw [← hp.len, List.getElem?_append_right (Nat.le_refl _), Nat.sub_self]
  rfl
theorem Ext.write (hp : HRep K H ρ S) {n : Nat} {a : Addr} {o : HO} (ha : ρ[n]? = some a) : Ext H ρ (upd H a o) ρ :=
  ⟨⟨[], by simp⟩, fun b h n => absurd h n, fun b u m h => by
    rw [upd_ne (fun e => m (by rw [e]; exact List.mem_of_getElem? ha))]; exact h⟩
theorem HRep.write (hp : HRep K H ρ S) {n : Nat} {a : Addr} {o : HO} {mo : MO} (ha : ρ[n]? = some a) (h : ObjRep K (upd H a o) ρ a mo) : HRep K (upd H a o) ρ (S.set n mo) := by
  refine ⟨by simp [hp.len], hp.nd, fun m q b e1 e2 => ?_⟩
  by_cases hm : n = m
  · subst hm
    rw [ha] at e2; cases e2
    have hl : n < S.length := by rw [← hp.len]; exact (List.getElem?_eq_some_iff.mp ha).1
    rw [List.getElem?_set_self hl] at e1
    cases e1
    exact h
  · rw [List.getElem?_set_ne hm] at e1
    have r := hp.ob m q b e1 e2
    have nb : b ≠ a := fun e => by
      subst e
      obtain ⟨l1, g1⟩ := List.getElem?_eq_some_iff.mp ha
      obtain ⟨l2, g2⟩ := List.getElem?_eq_some_iff.mp e2
      exact hm ((List.getElem_inj hp.nd).mp (g1.trans g2.symm))
    exact r.ext hp (Ext.write hp ha) (upd_ne nb)

/-! ### letting go -/
mutual
theorem Rep.pure_any {τ : List Addr} : ∀ (d : D) (v : V), D.pure d = true → Rep K H ρ d v → Rep K H τ d v
  | .non, v, _, h => h
  | .bl b, v, _, h => h
  | .int i, v, _, h => h
  | .str y, v, _, h => h
  | .tup ds, v, p, h => by
    obtain ⟨a, vs, e, q, r⟩ := h
    exact ⟨a, vs, e, q, Rep.pure_anyL ds vs (by simpa [D.pure] using p) r⟩
  | .ro ds, v, p, h => by
    obtain ⟨a, vs, e, q, r⟩ := h
    exact ⟨a, vs, e, q, Rep.pure_anyL ds vs (by simpa [D.pure] using p) r⟩
  | .loc n, v, p, h => by simp [D.pure] at p
theorem Rep.pure_anyL {τ : List Addr} : ∀ (ds : List D) (vs : List V), D.pureL ds = true → RepL K H ρ ds vs → RepL K H τ ds vs
  | [], vs, _, h => h
  | d :: ds, vs, p, h => by
    obtain ⟨v, r, e, h1, h2⟩ := h
    simp only [D.pureL, Bool.and_eq_true] at p
    exact ⟨v, r, e, Rep.pure_any d v p.1 h1, Rep.pure_anyL ds r p.2 h2⟩
end
mutual
theorem Rep.shrink {τ : List Addr} : ∀ (d : D) (v v0 : V), Rep K H ρ d v0 → Rep K H' (ρ ++ τ) d v → Rep K H' ρ d v
  | .non, v, _, _, h => h
  | .bl b, v, _, _, h => h
  | .int i, v, _, _, h => h
  | .str y, v, _, _, h => h
  | .tup ds, v, _, h0, h => by
    obtain ⟨a, vs, e, q, r⟩ := h
    obtain ⟨a0, vs0, e0, q0, r0⟩ := h0
    exact ⟨a, vs, e, q, Rep.shrinkL ds vs vs0 r0 r⟩
  | .ro ds, v, _, h0, h => by
    obtain ⟨a, vs, e, q, r⟩ := h
    obtain ⟨a0, vs0, e0, q0, r0⟩ := h0
    exact ⟨a, vs, e, q, Rep.shrinkL ds vs vs0 r0 r⟩
  | .loc n, v, _, h0, h => by
    obtain ⟨a, e, q⟩ := h
    obtain ⟨a0, e0, q0⟩ := h0
    exact ⟨a, e, by rw [List.getElem?_append_left (List.getElem?_eq_some_iff.mp q0).1] at q; exact q⟩
theorem Rep.shrinkL {τ : List Addr} : ∀ (ds : List D) (vs vs0 : List V), RepL K H ρ ds vs0 → RepL K H' (ρ ++ τ) ds vs → RepL K H' ρ ds vs
  | [], vs, _, _, h => h
  | d :: ds, vs, _, h0, h => by
    obtain ⟨v, r, e, h1, h2⟩ := h
    obtain ⟨v0, r0, e0, h10, h20⟩ := h0
    exact ⟨v, r, e, Rep.shrink d v v0 h10 h1, Rep.shrinkL ds r r0 h20 h2⟩
end
theorem ObjRep.shrink {τ : List Addr} {a b : Addr} {mo : MO} (h0 : ObjRep K H ρ b mo) (h : ObjRep K H' (ρ ++ τ) a mo) : ObjRep K H' ρ a mo := by
  cases mo with
  | lst ds =>
    obtain ⟨vs, e, r⟩ := h
    obtain ⟨vs0, e0, r0⟩ := h0
    exact ⟨vs, e, Rep.shrinkL _ _ _ r0 r⟩
  | dic ds =>
    obtain ⟨vs, e, q, r⟩ := h
    obtain ⟨vs0, e0, q0, r0⟩ := h0
    exact ⟨vs, e, q, Rep.shrinkL _ _ _ r0 r⟩
  | dit ds =>
    obtain ⟨vs, e, q, r⟩ := h
    obtain ⟨vs0, e0, q0, r0⟩ := h0
    exact ⟨vs, e, q, Rep.shrinkL _ _ _ r0 r⟩
theorem ObjRep.pure_any {τ : List Addr} {a : Addr} {mo : MO} (p : MO.pure mo = true) (h : ObjRep K H τ a mo) : ObjRep K H ρ a mo := by
  cases mo with
  | lst ds => obtain ⟨vs, e, r⟩ := h; exact ⟨vs, e, Rep.pure_anyL _ _ p r⟩
  | dic ds => obtain ⟨vs, e, q, r⟩ := h; exact ⟨vs, e, q, Rep.pure_anyL _ _ p r⟩
  | dit ds => obtain ⟨vs, e, q, r⟩ := h; exact ⟨vs, e, q, Rep.pure_anyL _ _ p r⟩
mutual
theorem Rep.grow {τ : List Addr} : ∀ (d : D) (v : V), Rep K H ρ d v → Rep K H (ρ ++ τ) d v
  | .non, v, h => h
  | .bl b, v, h => h
  | .int i, v, h => h
  | .str y, v, h => h
  | .tup ds, v, h => by
    obtain ⟨a, vs, e, q, r⟩ := h
    exact ⟨a, vs, e, q, Rep.growL ds vs r⟩
  | .ro ds, v, h => by
    obtain ⟨a, vs, e, q, r⟩ := h
    exact ⟨a, vs, e, q, Rep.growL ds vs r⟩
  | .loc n, v, h => by
    obtain ⟨a, e, q⟩ := h
    exact ⟨a, e, by rw [List.getElem?_append_left (List.getElem?_eq_some_iff.mp q).1]; exact q⟩
theorem Rep.growL {τ : List Addr} : ∀ (ds : List D) (vs : List V), RepL K H ρ ds vs → RepL K H (ρ ++ τ) ds vs
  | [], vs, h => h
  | d :: ds, vs, h => by
    obtain ⟨v, r, e, h1, h2⟩ := h
    exact ⟨v, r, e, Rep.grow d v h1, Rep.growL ds r h2⟩
end
theorem ObjRep.grow {τ : List Addr} {a : Addr} {mo : MO} (h : ObjRep K H ρ a mo) : ObjRep K H (ρ ++ τ) a mo := by
  cases mo with
  | lst ds => obtain ⟨vs, e, r⟩ := h; exact ⟨vs, e, Rep.growL _ _ r⟩
  | dic ds => obtain ⟨vs, e, q, r⟩ := h; exact ⟨vs, e, q, Rep.growL _ _ r⟩
  | dit ds => obtain ⟨vs, e, q, r⟩ := h; exact ⟨vs, e, q, Rep.growL _ _ r⟩
theorem keepsOld_at : ∀ {S S' : Store} {i : Nat} {mo : MO}, keepsOld S S' = true → i < S.length → S'[i]? = some mo → S[i]? = some mo ∨ MO.pure mo = true
  | [], _, i, _, _, h, _ => by simp at h
  | a :: r, [], _, _, h, _, _ => by simp [keepsOld] at h
  | a :: r, b :: q, 0, mo, h, _, e => by
    simp only [keepsOld, Bool.and_eq_true, Bool.or_eq_true] at h
    have e' : b = mo := Option.some.inj e
    subst e'
    rcases h.1 with h1 | h1
    · rw [MO.beq_eq h1]; exact .inl rfl
    · exact .inr h1
  | a :: r, b :: q, i + 1, mo, h, hl, e => by
    simp only [keepsOld, Bool.and_eq_true, Bool.or_eq_true] at h
    exact keepsOld_at (i := i) h.2 (by simpa using hl) e
theorem keepsOld_len : ∀ {S S' : Store}, keepsOld S S' = true → S.length ≤ S'.length
  | [], _, _ => Nat.zero_le _
  | a :: r, [], h => by simp [keepsOld] at h
  | a :: r, b :: q, h => by
    simp only [keepsOld, Bool.and_eq_true] at h
    have := keepsOld_len h.2
    simp; exact this
theorem HRep.shrink (hp : HRep K H ρ S) (x : Ext H ρ H' ρ') (hp' : HRep K H' ρ' S') (ko : keepsOld S S' = true) : Ext H ρ H' ρ ∧ HRep K H' ρ (S'.take S.length) := by
  obtain ⟨τ, rfl⟩ := x.pre
  have hl := keepsOld_len ko
  refine ⟨⟨⟨[], by simp⟩, fun b h n => absurd h n, x.keep⟩, ⟨by rw [List.length_take, hp.len]; omega, hp.nd, fun n mo a e1 e2 => ?_⟩⟩
  have hn : n < S.length := by rw [← hp.len]; exact (List.getElem?_eq_some_iff.mp e2).1
  rw [List.getElem?_take_of_lt hn] at e1
  have r := hp'.ob n mo a e1 (by rw [List.getElem?_append_left (by rw [hp.len]; exact hn)]; exact e2)
  rcases keepsOld_at ko hn e1 with h | h
  · exact (hp.ob n mo a h e2).shrink r
  · exact r.pure_any h
theorem gc_ok (hp : HRep K H ρ S) (x : Ext H ρ H' ρ') (hp' : HRep K H' ρ' S') {d : D} {v : V} (r : Rep K H' ρ' d v) :
    ∃ ρ'', Ext H ρ H' ρ'' ∧ HRep K H' ρ'' (gc S d S').2 ∧ Rep K H' ρ'' (gc S d S').1 v := by
  unfold gc
  by_cases ko : keepsOld S S' = true
  · rw [if_pos ko]
    obtain ⟨x1, h1⟩ := hp.shrink x hp' ko
    by_cases pd : D.pure d = true
    · rw [if_pos pd]
      exact ⟨ρ, x1, h1, Rep.pure_any d v pd r⟩
    · rw [if_neg pd]
      cases d with
      | loc m =>
        dsimp only
        by_cases hm : m < S.length
        · rw [if_pos hm]
          obtain ⟨a, e, q⟩ := r
          obtain ⟨τ, rfl⟩ := x.pre
          rw [List.getElem?_append_left (by rw [hp.len]; exact hm)] at q
          exact ⟨ρ, x1, h1, a, e, q⟩
        · rw [if_neg hm]
          cases hS : S'[m]? with
          | none => exact ⟨ρ', x, hp', r⟩
          | some mo =>
            dsimp only
            by_cases pm : MO.pure mo = true
            · rw [if_pos pm]
              obtain ⟨a, e, q⟩ := r
              have am : a ∈ ρ' := List.mem_of_getElem? q
              have an : a ∉ ρ := fun h => by
                obtain ⟨j, hj, ej⟩ := List.mem_iff_getElem.mp h
                have ej' : ρ'[j]? = some a := x.ix (by rw [List.getElem?_eq_getElem hj, ej])
                obtain ⟨l1, g1⟩ := List.getElem?_eq_some_iff.mp q
                obtain ⟨l2, g2⟩ := List.getElem?_eq_some_iff.mp ej'
                have := (List.getElem_inj hp'.nd).mp (g1.trans g2.symm)
                rw [hp.len] at hj
                omega
              have ob := hp'.ob m mo a hS q
              refine ⟨ρ ++ [a], ⟨⟨[a], rfl⟩, fun b hb nb => ?_, x.keep⟩, ⟨?_, ?_, fun n mo' b e1 e2 => ?_⟩, a, e, ?_⟩
              · rcases List.mem_append.mp hb with m1 | m1
                · exact absurd m1 nb
                · have eb : b = a := by simpa using m1
                  subst eb
                  exact x.new b am nb
              · rw [List.length_append, List.length_append, h1.len]; rfl
              · rw [List.nodup_append]
                exact ⟨hp.nd, by simp, fun c hc b hb => by
                  have : b = a := by simpa using hb
                  intro e2; subst e2; subst this; exact an hc⟩
              · have tl : (S'.take S.length).length = S.length := by rw [← h1.len, hp.len]
                by_cases hn : n < S.length
                · rw [List.getElem?_append_left (by rw [tl]; exact hn)] at e1
                  rw [List.getElem?_append_left (by rw [hp.len]; exact hn)] at e2
                  have o1 := h1.ob n mo' b e1 e2
                  exact o1.grow
                · have hb := (List.getElem?_eq_some_iff.mp e1).1
                  rw [List.length_append, tl] at hb
                  have en : n = S.length := by
                    have : ([mo] : List MO).length = 1 := rfl
                    omega
                  subst en
                  rw [List.getElem?_append_right (by rw [tl]; exact Nat.le_refl _), tl, Nat.sub_self] at e1
                  rw [← hp.len, List.getElem?_append_right (Nat.le_refl _), Nat.sub_self] at e2
                  have e1' : mo = mo' := Option.some.inj e1
                  have e2' : a = b := Option.some.inj e2
                  subst e1' e2'
                  exact ob.pure_any pm
              · rw [← hp.len, List.getElem?_append_right (Nat.le_refl _), Nat.sub_self]; rfl
            · rw [if_neg pm]
              exact ⟨ρ', x, hp', r⟩
      | _ => exact ⟨ρ', x, hp', r⟩
  · rw [if_neg ko]
    exact ⟨ρ', x, hp', r⟩
end
end Mi

end

section
/-! Mi3: the rules: expressions. -/
namespace Mi
open PySem PySem.Spec L2

abbrev After (K : PySem.W.Frag) (H : Hp) (ρ : List Addr) (S' : Store) (d : D) (Q : VK) : Prop := ∀ v H' ρ', Ext H ρ H' ρ' → HRep K H' ρ' S' → Rep K H' ρ' d v → Q v H'
def tD (K : PySem.W.Frag) (f : StD → Store → Option (D × Store)) : TE := fun σ H Q => ∃ ρ σD S d S', Cor K H ρ σ σD S ∧ f σD S = some (d, S') ∧ After K H ρ S' d Q
def tDB (K : PySem.W.Frag) (f : StD → Store → Option (Bool × Store)) : TT := fun σ H Q => ∃ ρ σD S b S', Cor K H ρ σ σD S ∧ f σD S = some (b, S') ∧ ∀ H' ρ', Ext H ρ H' ρ' → HRep K H' ρ' S' → Q b H'
def tDs (K : PySem.W.Frag) (f : StD → Store → Option (List D × Store)) : TA := fun σ H Q => ∃ ρ σD S ds S', Cor K H ρ σ σD S ∧ f σD S = some (ds, S') ∧ ∀ vs H' ρ', Ext H ρ H' ρ' → HRep K H' ρ' S' → RepL K H' ρ' ds vs → Q vs H'

theorem bnd_eq {α β : Type} {x : Option (α × Store)} {f : α → Store → Option (β × Store)} {r : β × Store} (h : bnd x f = some r) : ∃ a S, x = some (a, S) ∧ f a S = some r := by
  cases x with
  | none => cases h
  | some p => obtain ⟨a, S⟩ := p; exact ⟨a, S, rfl, h⟩
theorem opt_eq {α : Type} {x : Option α} {S S' : Store} {a : α} (h : opt x S = some (a, S')) : x = some a ∧ S' = S := by
  cases x with
  | none => cases h
  | some b => cases h; exact ⟨rfl, rfl⟩
theorem _root_.L2.PE.imp {X : Cx} {e : Expr} {t t' : TE} (h : PE X e t) (i : ∀ σ H Q, t' σ H Q → t σ H Q) : PE X e t' := ⟨fun pins s σ H Q I hw => h.run pins s σ H Q I (i σ H Q hw)⟩
theorem _root_.L2.PT.imp {X : Cx} {e : Expr} {t t' : TT} (h : PT X e t) (i : ∀ σ H Q, t' σ H Q → t σ H Q) : PT X e t' := ⟨fun pins s σ H Q I hw => h.run pins s σ H Q I (i σ H Q hw)⟩
theorem _root_.L2.PA.imp {X : Cx} {e : List Expr} {t t' : TA} (h : PA X e t) (i : ∀ σ H Q, t' σ H Q → t σ H Q) : PA X e t' := ⟨fun pos pins s σ H Q I hw => h.run pos pins s σ H Q I (i σ H Q hw)⟩
theorem _root_.L2.PS.imp {X : Cx} {e : Stmt} {t t' : TS} (h : PS X e t) (i : ∀ D σ H, t' D σ H → t D σ H) : PS X e t' := ⟨fun pins s σ H D I hw => h.run pins s σ H D I (i D σ H hw)⟩
theorem _root_.L2.PSs.imp {X : Cx} {e : List Stmt} {t t' : TS} (h : PSs X e t) (i : ∀ D σ H, t' D σ H → t D σ H) : PSs X e t' := ⟨fun pins s σ H D I hw => h.run pins s σ H D I (i D σ H hw)⟩
theorem pe_no {X : Cx} {e : Expr} {t : TE} (i : ∀ σ H Q, ¬ t σ H Q) : PE X e t := ⟨fun _ _ σ H Q _ hw => (i σ H Q hw).elim⟩

section
variable {X : Cx} {a b c : Expr} {fa fb fc : StD → Store → Option (D × Store)} {p q : Pos}
/-- letting go behind an expression -/
theorem tD_gc {K : PySem.W.Frag} {f : StD → Store → Option (D × Store)} {σ : L2.St} {H : Hp} {Q : VK} (h : tD K (fun τ S => bnd (f τ S) fun d S1 => some (gc S d S1)) σ H Q) : tD K f σ H Q := by
  obtain ⟨ρ, σD, S, d, S', c, e, k⟩ := h
  obtain ⟨d1, S1, e1, e2⟩ := bnd_eq e
  refine ⟨ρ, σD, S, d1, S1, c, e1, fun v H' ρ' x hp r => ?_⟩
  obtain ⟨ρ'', x2, h2, r2⟩ := gc_ok c.hp x hp r
  have e3 : gc S d1 S1 = (d, S') := Option.some.inj e2
  rw [e3] at h2 r2
  exact k v H' ρ'' x2 h2 r2
theorem pe_gc {e : Expr} {f : StD → Store → Option (D × Store)} (h : PE X e (tD X.K f)) : PE X e (tD X.K fun τ S => bnd (f τ S) fun d S1 => some (gc S d S1)) := h.imp fun _ _ _ => tD_gc
theorem r_con {c : Const} {k : Nat} : PE X (.Constant c k p) (tD X.K fun _ S => opt (conD c) S) := by
  have go : ∀ {d : D} {v : V}, conD c = some d → (∀ H ρ, Rep X.K H ρ d v) → PE X (.Constant c k p) (tC v) → PE X (.Constant c k p) (tD X.K fun _ S => opt (conD c) S) := fun {d v} hd hr h =>
    h.imp fun σ H Q ⟨ρ, σD, S, d', S', cc, e, kk⟩ => by
      rw [hd] at e
      cases e
      exact kk v H ρ Ext.refl cc.hp (hr H ρ)
  cases c with
  | none => exact go rfl (fun _ _ => rfl) pe_non
  | bool b => exact go rfl (fun _ _ => rfl) pe_bl
  | int i => exact go rfl (fun _ _ => rfl) pe_int
  | str x => exact go rfl (fun _ _ => rfl) pe_str
  | _ => exact pe_no fun σ H Q ⟨ρ, σD, S, d', S', cc, e, kk⟩ => by cases e
theorem r_var {i : Nat} {x : Str} (hN : X.N[i]? = some x) (hv : Vis X.env.scope x) (hd : (x == ("__debug__" : Str)) = false) (hcd : (x == ("__classdict__" : Str)) = false) : PE X (.Name x p) (tD X.K fun σ S => opt (slotD σ i) S) :=
  (pe_var hN hv hd hcd).imp fun σ H Q ⟨ρ, σD, S, d, S', c, e, k⟩ => by
    obtain ⟨e1, e2⟩ := opt_eq e
    subst e2
    have e3 : σD[i]? = some (some d) := by
      unfold slotD at e1
      split at e1
      · cases e1; assumption
      · cases e1
    obtain ⟨v, h1, h2⟩ := c.st i d e3
    exact ⟨v, h1, k v H ρ Ext.refl c.hp h2⟩
theorem r_glo {x : Str} {i : Int} {u : Value} (hg : Gl X x) (hm : X.mg x = some u) (hu : ∃ t, u = .int i t) (hd : (x == ("__debug__" : Str)) = false) : PE X (.Name x p) (tD X.K fun _ S => some (.int i, S)) :=
  (pe_glob (v := .int i) hg hm hu hd).imp fun σ H Q ⟨ρ, σD, S, d, S', c, e, k⟩ => by
    cases e
    exact k (.int i) H ρ Ext.refl c.hp rfl
theorem r_nil : PA X [] (tDs X.K fun _ S => some ([], S)) := pa_nil.imp fun σ H Q ⟨ρ, σD, S, d, S', c, e, k⟩ => by
  cases e
  exact k [] H ρ Ext.refl c.hp rfl
theorem r_cons {e : Expr} {es : List Expr} {f : StD → Store → Option (D × Store)} {g : StD → Store → Option (List D × Store)} (he : PE X e (tD X.K f)) (hr : PA X es (tDs X.K g))
    (hs : starEach (e :: es) X.env = (false, eval e X.env) :: starEach es X.env) : PA X (e :: es) (tDs X.K fun σ S => bnd (f σ S) fun d S1 => bnd (g σ S1) fun ds S2 => some (d :: ds, S2)) :=
  (pa_cons he hr hs).imp fun σ H Q ⟨ρ, σD, S, d, S', c, e, k⟩ => by
    obtain ⟨d1, S1, e1, e2⟩ := bnd_eq e
    obtain ⟨ds, S2, e3, e4⟩ := bnd_eq e2
    have e5 := Option.some.inj e4
    injection e5 with e6 e7
    subst e6 e7
    refine ⟨ρ, σD, S, d1, S1, c, e1, fun v H1 ρ1 x1 h1 r1 => ⟨ρ1, σD, S1, ds, _, c.ext x1 h1, e3, fun vs H2 ρ2 x2 h2 r2 => ?_⟩⟩
    exact k (v :: vs) H2 ρ2 (x1.trans x2) h2 ⟨v, vs, rfl, x2.rep h1 _ _ r1, r2⟩
theorem r_tup {es : List Expr} {k : Nat} {g : StD → Store → Option (List D × Store)} (h : PA X es (tDs X.K g)) : PE X (.Tuple es k p) (tD X.K fun σ S => bnd (g σ S) fun ds S1 => if ds.length ≤ sizeLine then some (.tup ds, S1) else none) :=
  (pe_tupF h).imp fun σ H Q ⟨ρ, σD, S, d, S', c, e, k⟩ => by
    obtain ⟨ds, S1, e1, e2⟩ := bnd_eq e
    split at e2
    · rename_i hz
      have e3 := Option.some.inj e2
      injection e3 with e4 e5
      subst e4 e5
      refine ⟨ρ, σD, S, ds, _, c, e1, fun vs H1 ρ1 x1 h1 r1 => ⟨by rw [← r1.length]; exact hz, fun p o hn ho => ?_⟩⟩
      exact k _ _ ρ1 (x1.trans (Ext.newT h1 hn)) (h1.newT hn) ⟨p, vs, rfl, .new ho, (Ext.newT h1 hn).repL h1 _ _ r1⟩
    · cases e2
theorem r_lst {es : List Expr} {g : StD → Store → Option (List D × Store)} (h : PA X es (tDs X.K g)) : PE X (.List es p) (tD X.K fun σ S => bnd (g σ S) fun ds S1 => if ds.length ≤ sizeLine then some (.loc S1.length, S1 ++ [.lst ds]) else none) :=
  (pe_lst h).imp fun σ H Q ⟨ρ, σD, S, d, S', c, e, k⟩ => by
    obtain ⟨ds, S1, e1, e2⟩ := bnd_eq e
    split at e2
    · rename_i hz
      cases e2
      refine ⟨ρ, σD, S, ds, S1, c, e1, fun vs H1 ρ1 x1 h1 r1 => ⟨by rw [← r1.length]; exact hz, fun p hn => ?_⟩⟩
      exact k _ _ (ρ1 ++ [p]) (x1.trans (Ext.newL h1 hn)) (h1.newLst hn r1) h1.newLoc
    · cases e2
theorem r_dct : PE X (.Dict [] [] p) (tD X.K fun _ S => some (.loc S.length, S ++ [.dic []])) :=
  pe_dnewK.imp fun σ H Q ⟨ρ, σD, S, d, S', c, e, k⟩ => by
    cases e
    intro p hn
    exact k _ _ (ρ ++ [p]) (Ext.newL c.hp hn) (c.hp.newL hn ⟨[], upd_same, rfl, rfl⟩) c.hp.newLoc

/-! ### two values -/
def lift2 (K : PySem.W.Frag) (g : D → D → Store → Option (D × Store)) : R2 := fun x y H Q => ∃ ρ S dx dy d S', HRep K H ρ S ∧ Rep K H ρ dx x ∧ Rep K H ρ dy y ∧ g dx dy S = some (d, S') ∧ After K H ρ S' d Q
theorem tD_2 {K : PySem.W.Frag} {g : D → D → Store → Option (D × Store)} {σ : L2.St} {H : Hp} {Q : VK} (h : tD K (fun τ S => bnd (fa τ S) fun x S1 => bnd (fb τ S1) fun y S2 => g x y S2) σ H Q) : tOp (lift2 K g) (tD K fa) (tD K fb) σ H Q := by
  obtain ⟨ρ, σD, S, d, S', c, e, k⟩ := h
  obtain ⟨x, S1, e1, e2⟩ := bnd_eq e
  obtain ⟨y, S2, e3, e4⟩ := bnd_eq e2
  refine ⟨ρ, σD, S, x, S1, c, e1, fun v H1 ρ1 x1 h1 r1 => ⟨ρ1, σD, S1, y, S2, c.ext x1 h1, e3, fun w H2 ρ2 x2 h2 r2 => ?_⟩⟩
  exact ⟨ρ2, S2, x, y, d, S', h2, x2.rep h1 _ _ r1, r2, e4, fun v' H' ρ' x' h' r' => k v' H' ρ' ((x1.trans x2).trans x') h' r'⟩
theorem OpR.imp {f : Value → Value → Sem Value} {r r' : R2} (h : OpR X f r) (i : ∀ x y H Q, r' x y H Q → r x y H Q) : OpR X f r' := fun pins s σ H x y v u Q I rx ry q => h pins s σ H x y v u Q I rx ry (i x y H Q q)
theorem CallR.imp {f : Value} {r r' : List V → Hp → VK → Prop} (h : CallR X f r) (i : ∀ xs H Q, r' xs H Q → r xs H Q) : CallR X f r' := fun pins s σ H xs us Q I rx q => h pins s σ H xs us Q I rx (i xs H Q q)

theorem opr_no {f : Value → Value → Sem Value} {r : R2} (i : ∀ x y H Q, ¬ r x y H Q) : OpR X f r := fun pins s σ H x y v u Q I rx ry q => (i x y H Q q).elim

end
section
variable {X : Cx}
theorem lst_at {K : PySem.W.Frag} {H : Hp} {ρ : List Addr} {S : Store} (hp : HRep K H ρ S) {m : Nat} {ds : List D} {v : V} (e : S[m]? = some (.lst ds)) (r : Rep K H ρ (.loc m) v) : ∃ a vs, v = .ref a ∧ ρ[m]? = some a ∧ H a = some (.lst vs) ∧ RepL K H ρ ds vs := by
  obtain ⟨a, ev, ea⟩ := r
  obtain ⟨vs, h1, h2⟩ := hp.ob m _ a e ea
  exact ⟨a, vs, ev, ea, h1, h2⟩
theorem dic_at {K : PySem.W.Frag} {H : Hp} {ρ : List Addr} {S : Store} (hp : HRep K H ρ S) {m : Nat} {kvs : List (Key × D)} {v : V} (e : S[m]? = some (.dic kvs)) (r : Rep K H ρ (.loc m) v) :
    ∃ a ws, v = .ref a ∧ ρ[m]? = some a ∧ H a = some (.dK ws) ∧ ws.map (·.1) = kvs.map (·.1) ∧ RepL K H ρ (kvs.map (·.2)) (ws.map (·.2)) := by
  obtain ⟨a, ev, ea⟩ := r
  obtain ⟨vs, h1, h2, h3⟩ := hp.ob m _ a e ea
  exact ⟨a, vs, ev, ea, h1, h2, h3⟩
theorem op_D (o : Operator) : OpR X (binaryOp o) (lift2 X.K (opD o)) := by
  intro pins s σ H x y v u Q I rx ry ⟨ρ, S, dx, dy, d, S', hp, r1, r2, e, k⟩
  unfold opD at e
  split at e <;> first | contradiction | skip
  · cases e
    exact op_add pins s σ H x y v u Q I rx ry ⟨_, _, r1, r2, k _ H ρ Ext.refl hp rfl⟩
  · split at e
    · rename_i hz
      cases e
      exact op_add_str pins s σ H x y v u Q I rx ry ⟨_, _, r1, r2, hz, k _ H ρ Ext.refl hp rfl⟩
    · cases e
  · split at e
    · rename_i xs ys hz
      cases e
      obtain ⟨a, vs, e1, ha, r1⟩ := r1
      obtain ⟨b, ws, e2, hb, r2⟩ := r2
      have l1 := r1.length
      have l2 := r2.length
      refine op_catF pins s σ H x y v u Q I rx ry ⟨a, b, vs, ws, e1, e2, ha.sq, hb.sq, by omega, fun z => ?_, fun _ z => ?_, fun _ _ p o hn ho => ?_⟩
      · subst z
        have : xs = [] := List.eq_nil_of_length_eq_zero (by simpa using l1)
        subst this
        exact k _ H ρ Ext.refl hp ⟨b, ws, rfl, hb, r2⟩
      · subst z
        have : ys = [] := List.eq_nil_of_length_eq_zero (by simpa using l2)
        subst this
        exact k _ H ρ Ext.refl hp ⟨a, vs, rfl, ha, by simpa using r1⟩
      · exact k _ _ ρ (Ext.newT hp hn) (hp.newT hn) ⟨p, _, rfl, .new ho, (Ext.newT hp hn).repL hp _ _ (r1.append r2)⟩
    · cases e
  · split at e
    · split at e
      · rename_i xs ys h1 h2 hz
        cases e
        obtain ⟨a, vs, e1, _, ha, r1⟩ := lst_at hp h1 r1
        obtain ⟨b, ws, e2, _, hb, r2⟩ := lst_at hp h2 r2
        have l1 := r1.length
        have l2 := r2.length
        refine op_cat pins s σ H x y v u Q I rx ry ⟨a, b, vs, ws, e1, e2, ha, hb, by omega, fun p hn => ?_⟩
        exact k _ _ (ρ ++ [p]) (Ext.newL hp hn) (hp.newLst hn (r1.append r2)) hp.newLoc
      · cases e
    · cases e
  · cases e
    exact op_sub pins s σ H x y v u Q I rx ry ⟨_, _, r1, r2, k _ H ρ Ext.refl hp rfl⟩
  · split at e
    · rename_i hz
      cases e
      rcases hz with hz | hz | hz
      · exact op_mul pins s σ H x y v u Q I rx ry ⟨_, _, r1, r2, .inl ⟨by omega, by omega⟩, k _ H ρ Ext.refl hp rfl⟩
      · exact op_mul pins s σ H x y v u Q I rx ry ⟨_, _, r1, r2, .inr ⟨by omega, by omega⟩, k _ H ρ Ext.refl hp rfl⟩
      · exact op_mulW pins s σ H x y v u Q I rx ry ⟨_, _, r1, r2, hz, k _ H ρ Ext.refl hp rfl⟩
    · cases e
  · split at e
    · split at e
      · rename_i xs h1 hz
        cases e
        obtain ⟨a, vs, e1, _, ha, r1⟩ := lst_at hp h1 r1
        have l1 := r1.length
        refine op_rep pins s σ H x y v u Q I rx ry ⟨a, _, vs, e1, r2, ha, hz.1, hz.2.1, by rw [← l1]; exact hz.2.2, fun p hn => ?_⟩
        refine k _ _ (ρ ++ [p]) (Ext.newL hp hn) (hp.newLst hn ?_) hp.newLoc
        have all : ∀ n : Nat, RepL X.K H ρ (List.replicate n xs).flatten (List.replicate n vs).flatten := fun n => by
          induction n with
          | zero => rfl
          | succ n ih => rw [List.replicate_succ, List.replicate_succ, List.flatten_cons, List.flatten_cons]; exact r1.append ih
        exact all _
      · cases e
    · cases e
  · split at e
    · rename_i hz
      cases e
      exact op_fdivW pins s σ H x y v u Q I rx ry ⟨_, _, r1, r2, hz, k _ H ρ Ext.refl hp rfl⟩
    · cases e
  · split at e
    · rename_i hz
      cases e
      exact op_mod pins s σ H x y v u Q I rx ry ⟨_, _, r1, r2, hz, k _ H ρ Ext.refl hp rfl⟩
    · cases e
  · split at e
    · rename_i hz
      cases e
      exact op_pow pins s σ H x y v u Q I rx ry ⟨_, _, r1, r2, hz, k _ H ρ Ext.refl hp rfl⟩
    · cases e
theorem r_op {a b : Expr} {fa fb : StD → Store → Option (D × Store)} {p : Pos} (o : Operator) (ha : PE X a (tD X.K fa)) (hb : PE X b (tD X.K fb)) : PE X (.BinOp a o b p) (tD X.K fun τ S => bnd (fa τ S) fun x S1 => bnd (fb τ S1) fun y S2 => opD o x y S2) :=
  (pe_op (op_D o) ha hb).imp fun _ _ _ => tD_2
theorem r_neg {a : Expr} {fa : StD → Store → Option (D × Store)} {p : Pos} (ha : PE X a (tD X.K fa)) : PE X (.UnaryOp .USub a p) (tD X.K fun τ S => bnd (fa τ S) negD) :=
  (pe_un un_neg ha).imp fun σ H Q ⟨ρ, σD, S, d, S', c, e, k⟩ => by
    obtain ⟨x, S1, e1, e2⟩ := bnd_eq e
    cases x <;> first | (cases e2; done) | skip
    cases e2
    exact ⟨ρ, σD, S, _, _, c, e1, fun v H1 ρ1 x1 h1 r1 => ⟨_, r1, k _ H1 ρ1 x1 h1 rfl⟩⟩
theorem r_not {a : Expr} {fa : StD → Store → Option (D × Store)} {p : Pos} (ha : PE X a (tD X.K fa)) : PE X (.UnaryOp .Not a p) (tD X.K fun τ S => bnd (fa τ S) notD) :=
  (pe_not ha).imp fun σ H Q ⟨ρ, σD, S, d, S', c, e, k⟩ => by
    obtain ⟨x, S1, e1, e2⟩ := bnd_eq e
    cases x <;> first | (cases e2; done) | skip
    cases e2
    exact ⟨ρ, σD, S, _, _, c, e1, fun v H1 ρ1 x1 h1 r1 => ⟨_, r1, k _ H1 ρ1 x1 h1 rfl⟩⟩
end
end Mi

end

section
/-! Mi4: comparisons, tests, subscripts. -/
namespace Mi
open PySem PySem.Spec L2
section
variable {K : PySem.W.Frag} {H : Hp} {ρ : List Addr} {S : Store}
theorem mapO_ok {β : Type} {f : D → Option β} {P : V → β → Prop} : ∀ {ds : List D} {bs : List β} {vs : List V}, mapO f ds = some bs → RepL K H ρ ds vs → (∀ d b v, f d = some b → Rep K H ρ d v → P v b) → Paired P vs bs
  | [], bs, vs, e, r, _ => by cases e; cases r; exact .nil
  | d :: ds, bs, vs, e, r, h => by
    obtain ⟨v, vr, rfl, r1, r2⟩ := r
    unfold mapO at e
    split at e
    · rename_i b hb
      split at e
      · rename_i br hbr
        cases e
        exact .cons (h d b v hb r1) (mapO_ok hbr r2 h)
      · cases e
    · cases e
theorem dpAll_of {P : PyData → Prop} : ∀ {vs : List V} {ps : List PyData}, Paired (fun v p => Dp K H v p ∧ P p) vs ps → DpAll K H vs ps ∧ ∀ p ∈ ps, P p
  | _, _, .nil => ⟨.nil, fun p h => nomatch h⟩
  | _, _, .cons h t => ⟨.cons h.1 (dpAll_of t).1, fun p hp => by
      rcases List.mem_cons.mp hp with rfl | hp
      · exact h.2
      · exact (dpAll_of t).2 p hp⟩
theorem canLayAll_of : ∀ {ps : List PyData}, (∀ p ∈ ps, p.canLay0 = true) → PyData.canLayAll0 ps = true
  | [], _ => by simp [PyData.canLayAll0]
  | p :: ps, h => by
    simp only [PyData.canLayAll0, Bool.and_eq_true]
    exact ⟨h p List.mem_cons_self, canLayAll_of fun q hq => h q (List.mem_cons_of_mem _ hq)⟩
theorem depthAll_of {n : Nat} : ∀ {ps : List PyData}, (∀ p ∈ ps, p.depth ≤ n) → PyData.depthAll ps ≤ n
  | [], _ => by simp [PyData.depthAll]
  | p :: ps, h => by
    simp only [PyData.depthAll]
    exact Nat.max_le.mpr ⟨h p List.mem_cons_self, depthAll_of fun q hq => h q (List.mem_cons_of_mem _ hq)⟩
theorem toPy_ok (hp : HRep K H ρ S) : ∀ (n : Nat) (d : D) (p : PyData) (v : V), toPy S n d = some p → Rep K H ρ d v → Dp K H v p ∧ (p.canLay0 = true ∧ p.depth ≤ n) := by
  intro n
  have sc : ∀ (m : Nat) (d : D) (p : PyData) (v : V), (∀ ds, d ≠ .tup ds) → (∀ ds, d ≠ .ro ds) → (∀ k, d ≠ .loc k) → toPy S m d = some p → Rep K H ρ d v → Dp K H v p ∧ (p.canLay0 = true ∧ p.depth ≤ m) := by
    intro m d p v h1 h2 h3 e r
    cases d with
    | non => cases r; unfold toPy at e; cases e; exact ⟨.non, by simp [PyData.canLay0], by simp [PyData.depth]⟩
    | bl b => cases r; unfold toPy at e; cases e; exact ⟨.bl _, by simp [PyData.canLay0], by simp [PyData.depth]⟩
    | int b => cases r; unfold toPy at e; cases e; exact ⟨.int _, by simp [PyData.canLay0], by simp [PyData.depth]⟩
    | str x =>
      cases r; unfold toPy at e
      split at e
      · rename_i hx
        cases e; exact ⟨.str _, by simpa [PyData.canLay0] using hx, by simp [PyData.depth]⟩
      · cases e
    | tup ds => exact absurd rfl (h1 ds)
    | ro ds => exact absurd rfl (h2 ds)
    | loc k => exact absurd rfl (h3 k)
  induction n with
  | zero =>
    intro d p v e r
    cases d with
    | tup ds => unfold toPy at e; cases e
    | ro ds => unfold toPy at e; cases e
    | loc k => unfold toPy at e; cases e
    | _ => exact sc _ _ _ _ (by intro _ z; cases z) (by intro _ z; cases z) (by intro _ z; cases z) e r
  | succ n ih =>
    intro d p v e r
    have all : ∀ {ds : List D} {ps : List PyData} {vs : List V}, mapO (toPy S n) ds = some ps → RepL K H ρ ds vs → DpAll K H vs ps ∧ PyData.canLayAll0 ps = true ∧ PyData.depthAll ps ≤ n := fun {ds ps vs} e r => by
      obtain ⟨h1, h2⟩ := dpAll_of (mapO_ok (P := fun v p => Dp K H v p ∧ (p.canLay0 = true ∧ p.depth ≤ n)) e r fun d b v e' r' => ih d b v e' r')
      exact ⟨h1, canLayAll_of fun p hp => (h2 p hp).1, depthAll_of fun p hp => (h2 p hp).2⟩
    cases d with
    | tup ds =>
      unfold toPy at e
      obtain ⟨ps, e1, e2⟩ := Option.map_eq_some_iff.mp e
      subst e2
      obtain ⟨a, vs, rfl, ha, r1⟩ := r
      obtain ⟨h1, h2, h3⟩ := all e1 r1
      exact ⟨.tup ha.sq h1, by simpa [PyData.canLay0] using h2, by simp [PyData.depth]; exact h3⟩
    | ro ds =>
      unfold toPy at e
      obtain ⟨ps, e1, e2⟩ := Option.map_eq_some_iff.mp e
      subst e2
      obtain ⟨a, vs, rfl, ha, r1⟩ := r
      obtain ⟨h1, h2, h3⟩ := all e1 r1
      exact ⟨.lst ha.sq h1, by simpa [PyData.canLay0] using h2, by simp [PyData.depth]; exact h3⟩
    | loc k =>
      unfold toPy at e
      split at e
      · rename_i ds hS
        obtain ⟨ps, e1, e2⟩ := Option.map_eq_some_iff.mp e
        subst e2
        obtain ⟨a, vs, rfl, _, ha, r1⟩ := lst_at hp hS r
        obtain ⟨h1, h2, h3⟩ := all e1 r1
        exact ⟨.lst (.of ha) h1, by simpa [PyData.canLay0] using h2, by simp [PyData.depth]; exact h3⟩
      · cases e
    | _ => exact sc _ _ _ _ (by intro _ z; cases z) (by intro _ z; cases z) (by intro _ z; cases z) e r
theorem shaped_of {p : PyData} (h : p.canLay0 = true ∧ p.depth ≤ 60) : SeqAt.shaped p = true := by
  unfold SeqAt.shaped
  rw [h.1, Bool.true_and]
  exact decide_eq_true (Nat.le_trans h.2 (by decide))
theorem seq_at (hp : HRep K H ρ S) {d : D} {ds : List D} {v : V} (e : seqOf S d = some ds) (r : Rep K H ρ d v) : ∃ a vs, v = .ref a ∧ (SqL K H a vs ∨ SqT K H a vs) ∧ RepL K H ρ ds vs := by
  cases d with
  | tup es => cases e; obtain ⟨a, vs, rfl, ha, r1⟩ := r; exact ⟨a, vs, rfl, .inr ha.sq, r1⟩
  | ro es => cases e; obtain ⟨a, vs, rfl, ha, r1⟩ := r; exact ⟨a, vs, rfl, .inl ha.sq, r1⟩
  | loc m =>
    unfold seqOf at e
    dsimp only at e
    split at e
    · rename_i es hS
      cases e
      obtain ⟨a, vs, rfl, _, ha, r1⟩ := lst_at hp hS r
      exact ⟨a, vs, rfl, .inl (.of ha), r1⟩
    · cases e
  | _ => cases e
theorem flat_ok {d : D} {p : PyData} {v : V} (e : flatPy d = some p) (r : Rep K H ρ d v) : flatV v = true ∧ ∀ {w : V} {q : PyData} {d' : D}, flatPy d' = some q → Rep K H ρ d' w → eqV v w = PyData.eqv p q := by
  cases d with
  | non => cases e; cases r; exact ⟨rfl, fun {w q d'} e' r' => by cases d' <;> first | (cases e'; done) | (cases e'; cases r'; simp [eqV, PyData.eqv])⟩
  | bl b => cases e; cases r; exact ⟨rfl, fun {w q d'} e' r' => by cases d' <;> first | (cases e'; done) | (cases e'; cases r'; simp [eqV, PyData.eqv])⟩
  | int i => cases e; cases r; exact ⟨rfl, fun {w q d'} e' r' => by cases d' <;> first | (cases e'; done) | (cases e'; cases r'; simp [eqV, PyData.eqv])⟩
  | str x => cases e; cases r; exact ⟨rfl, fun {w q d'} e' r' => by cases d' <;> first | (cases e'; done) | (cases e'; cases r'; simp [eqV, PyData.eqv])⟩
  | _ => cases e
theorem inSeq_ok {a : D} {ds : List D} {b : Bool} {v : V} {vs : List V} (e : inSeq a ds = some b) (r : Rep K H ρ a v) (rs : RepL K H ρ ds vs) : flatV v = true ∧ vs.all flatV = true ∧ inV v vs = b := by
  unfold inSeq at e
  split at e
  · rename_i x ys h1 h2
    cases e
    refine ⟨(flat_ok h1 r).1, ?_⟩
    have go : ∀ {ds : List D} {ys : List PyData} {vs : List V}, mapO flatPy ds = some ys → RepL K H ρ ds vs → vs.all flatV = true ∧ inV v vs = ys.any fun y => PyData.eqv y x := by
      intro ds
      induction ds with
      | nil => intro ys vs e r; cases e; cases r; exact ⟨rfl, rfl⟩
      | cons d ds ih =>
        intro ys vs e rr
        obtain ⟨w, vr, rfl, r1, r2⟩ := rr
        unfold mapO at e
        split at e
        · rename_i y hy
          split at e
          · rename_i yr hyr
            cases e
            obtain ⟨i1, i2⟩ := ih hyr r2
            obtain ⟨f1, f2⟩ := flat_ok hy r1
            refine ⟨by rw [List.all_cons, f1, i1]; rfl, ?_⟩
            unfold inV at i2 ⊢
            rw [List.any_cons, List.any_cons, f2 h1 r, i2]
          · cases e
        · cases e
    exact go h2 rs
  · cases e
theorem keyOf_ok {a : D} {k : Key} {v : V} (e : keyOf a = some k) (r : Rep K H ρ a v) : v = kV k := by
  cases a <;> first | (cases e; done) | (cases e; exact r)
theorem getG_ok {κ : Type} [DecidableEq κ] {k : κ} : ∀ {kvs : List (κ × D)} {ws : List (κ × V)}, ws.map (·.1) = kvs.map (·.1) → RepL K H ρ (kvs.map (·.2)) (ws.map (·.2)) →
    (∀ d, getG kvs k = some d → ∃ v, valV ws k = some v ∧ Rep K H ρ d v) ∧ (getG kvs k = none → valV ws k = none) ∧ (valV ws k).isSome = (getG kvs k).isSome
  | [], ws, e, _ => by
    have : ws = [] := by simpa using e
    subst this
    exact ⟨fun d h => (by cases h), fun _ => rfl, rfl⟩
  | (l, x) :: r, ws, e, rr => by
    cases ws with
    | nil => simp at e
    | cons w ws =>
      obtain ⟨l', y⟩ := w
      simp only [List.map_cons, List.cons.injEq] at e
      obtain ⟨e1, e2⟩ := e
      subst e1
      obtain ⟨v, vr, ev, r1, r2⟩ := rr
      simp only [List.map_cons, List.cons.injEq] at ev
      obtain ⟨ev1, ev2⟩ := ev
      subst ev1 ev2
      obtain ⟨i1, i2, i3⟩ := getG_ok (k := k) e2 r2
      by_cases h : l' = k
      · have g1 : getG ((l', x) :: r) k = some x := by simp [getG, List.find?_cons, h]
        have g2 : valV ((l', y) :: ws) k = some y := valV_pos h
        refine ⟨fun d hd => ?_, fun hn => ?_, ?_⟩
        · rw [g1] at hd; cases hd; exact ⟨y, g2, r1⟩
        · rw [g1] at hn; cases hn
        · rw [g1, g2]; rfl
      · have g1 : getG ((l', x) :: r) k = getG r k := by simp [getG, List.find?_cons, h]
        have g2 : valV ((l', y) :: ws) k = valV ws k := valV_neg h
        rw [g1, g2]
        exact ⟨i1, i2, i3⟩
end
section
variable {X : Cx}
theorem in_ok (hu : X.A.units + 1 < cLine) (neg : Bool) : OpR X (compareOp (if neg then .NotIn else .In)) (lift2 X.K fun x y S => opt ((inD x y S).map fun b => .bl (if neg then !b else b)) S) := by
  intro pins s σ H x y v u Q I rx ry ⟨ρ, S, dx, dy, d, S', hp, r1, r2, e, k⟩
  obtain ⟨e1, e0⟩ := opt_eq e
  subst S'
  obtain ⟨b, e2, rfl⟩ := Option.map_eq_some_iff.mp e1
  have seq : ∀ {ds : List D}, seqOf S dy = some ds → inSeq dx ds = some b → wpAny (model X.prog X.w) X.A (compareOp (if neg then .NotIn else .In) v u) (EP X pins σ Q) X.xe s := fun {ds} h1 h2 => by
    obtain ⟨a, vs, rfl, hq, rs⟩ := seq_at hp h1 r2
    obtain ⟨f1, f2, f3⟩ := inSeq_ok h2 r1 rs
    cases neg with
    | true => exact op_notIn_seq pins s σ H x _ v u Q I rx ry ⟨a, vs, rfl, hq, f1, f2, by rw [f3]; exact k _ H ρ Ext.refl hp rfl⟩
    | false => exact op_in_seq pins s σ H x _ v u Q I rx ry ⟨a, vs, rfl, hq, f1, f2, by rw [f3]; exact k _ H ρ Ext.refl hp rfl⟩
  unfold inD at e2
  split at e2
  · rename_i m
    split at e2
    · rename_i kvs hS
      obtain ⟨kk, e3, e4⟩ := Option.map_eq_some_iff.mp e2
      obtain ⟨a, ws, rfl, _, ha, k1, k2⟩ := dic_at hp hS r2
      have ek := keyOf_ok e3 r1
      subst ek
      cases ry
      have g : DGet H a (kV kk) (valV ws kk) := DGet.k ha
      have gs : (valV ws kk).isSome = b := (getG_ok k1 k2).2.2.trans e4
      cases neg with
      | true => exact d_notIn hu I g rx fun s3 I3 => ⟨.bl (!(valV ws kk).isSome), H, I3, rfl, by rw [gs]; exact k _ H ρ Ext.refl hp rfl⟩
      | false => exact d_in hu I g rx fun s3 I3 => ⟨.bl (valV ws kk).isSome, H, I3, rfl, by rw [gs]; exact k _ H ρ Ext.refl hp rfl⟩
    · rename_i ds hS
      exact seq (by unfold seqOf; dsimp only; rw [hS]) e2
    · cases e2
  · exact seq rfl e2
  · exact seq rfl e2
  · cases e2
theorem isNon {K : PySem.W.Frag} {H : Hp} {ρ : List Addr} {d : D} {v : V} (r : Rep K H ρ d v) (h : d ≠ .non) : decide (v = .non) = false := by
  cases d with
  | non => exact absurd rfl h
  | bl b => cases r; rfl
  | int b => cases r; rfl
  | str b => cases r; rfl
  | tup b => obtain ⟨a, vs, rfl, _⟩ := r; rfl
  | ro b => obtain ⟨a, vs, rfl, _⟩ := r; rfl
  | loc b => obtain ⟨a, rfl, _⟩ := r; rfl
theorem cmp_D (hu : X.A.units + 65 < cLine) (o : CmpOp) : OpR X (compareOp o) (lift2 X.K fun x y S => opt ((cmpD o x y S).map .bl) S) := by
  intro pins s σ H x y v u Q I rx ry ⟨ρ, S, dx, dy, d, S', hp, r1, r2, e, k⟩
  obtain ⟨e1, e0⟩ := opt_eq e
  subst S'
  obtain ⟨b, e2, rfl⟩ := Option.map_eq_some_iff.mp e1
  have kk : Q (.bl b) H := k _ H ρ Ext.refl hp rfl
  unfold cmpD at e2
  split at e2
  · unfold eqD at e2
    split at e2
    · rename_i p q h1 h2
      cases e2
      obtain ⟨d1, s1⟩ := toPy_ok hp 60 _ _ _ h1 r1
      obtain ⟨d2, s2⟩ := toPy_ok hp 60 _ _ _ h2 r2
      exact op_eqD (by omega) pins s σ H x y v u Q I rx ry ⟨p, q, d1, d2, shaped_of s1, shaped_of s2, kk⟩
    · cases e2
  · obtain ⟨b', e3, rfl⟩ := Option.map_eq_some_iff.mp e2
    unfold eqD at e3
    split at e3
    · rename_i p q h1 h2
      cases e3
      obtain ⟨d1, s1⟩ := toPy_ok hp 60 _ _ _ h1 r1
      obtain ⟨d2, s2⟩ := toPy_ok hp 60 _ _ _ h2 r2
      exact op_neD (by omega) pins s σ H x y v u Q I rx ry ⟨p, q, d1, d2, shaped_of s1, shaped_of s2, kk⟩
    · cases e3
  · split at e2
    · cases e2
      exact op_lt pins s σ H x y v u Q I rx ry ⟨_, _, r1, r2, kk⟩
    · cases e2
  · split at e2
    · cases e2
      exact op_le pins s σ H x y v u Q I rx ry ⟨_, _, r1, r2, kk⟩
    · cases e2
  · split at e2
    · cases e2
      exact op_gt pins s σ H x y v u Q I rx ry ⟨_, _, r1, r2, kk⟩
    · cases e2
  · split at e2
    · cases e2
      exact op_ge pins s σ H x y v u Q I rx ry ⟨_, _, r1, r2, kk⟩
    · cases e2
  · split at e2
    · cases e2
      cases r1
      cases r2
      exact op_isN pins s σ H _ _ v u Q I rx ry ⟨rfl, kk⟩
    · cases e2
      cases r1
      cases r2
      exact op_isBl pins s σ H _ _ v u Q I rx ry ⟨_, _, rfl, rfl, kk⟩
    · cases e2
      cases r2
      exact op_isN pins s σ H _ _ v u Q I rx ry ⟨rfl, by rw [isNon r1 (by assumption)]; exact kk⟩
    · cases e2
  · split at e2
    · cases e2
      cases r1
      cases r2
      exact op_notN pins s σ H _ _ v u Q I rx ry ⟨rfl, kk⟩
    · cases e2
      cases r1
      cases r2
      exact op_notBl pins s σ H _ _ v u Q I rx ry ⟨_, _, rfl, rfl, kk⟩
    · cases e2
      cases r2
      exact op_notN pins s σ H _ _ v u Q I rx ry ⟨rfl, by rw [isNon r1 (by assumption)]; exact kk⟩
    · cases e2
  · exact in_ok (by omega) false pins s σ H x y v u Q I rx ry ⟨ρ, S, dx, dy, _, S, hp, r1, r2, by dsimp only; rw [e2]; rfl, k⟩
  · obtain ⟨b', e3, rfl⟩ := Option.map_eq_some_iff.mp e2
    exact in_ok (by omega) true pins s σ H x y v u Q I rx ry ⟨ρ, S, dx, dy, _, S, hp, r1, r2, by dsimp only; rw [e3]; rfl, k⟩

section
variable {a b c : Expr} {fa fb fc : StD → Store → Option (D × Store)} {p : Pos}
theorem r_cmp (hu : X.A.units + 65 < cLine) (o : CmpOp) (ha : PE X a (tD X.K fa)) (hb : PE X b (tD X.K fb)) (hm : behindInMarks o b = false) :
    PE X (.Compare a [o] [b] p) (tD X.K fun σ S => bnd (fa σ S) fun x S1 => bnd (fb σ S1) fun y S2 => bnd (opt (cmpD o x y S2) S2) fun k S3 => some (gc S (.bl k) S3)) := by
  refine (pe_gc ((pe_cmpR (cmp_D hu o) ha hb hm).imp fun σ H Q => tD_2)).imp fun σ H Q ⟨ρ, σD, S, d, S', cc, e, k⟩ => ⟨ρ, σD, S, d, S', cc, ?_, k⟩
  obtain ⟨x, S1, e1, e2⟩ := bnd_eq e
  obtain ⟨y, S2, e3, e4⟩ := bnd_eq e2
  obtain ⟨z, S3, e5, e6⟩ := bnd_eq e4
  obtain ⟨e7, e8⟩ := opt_eq e5
  subst S3
  simp only [e1, e3, bnd_some, e7, Option.map_some, opt_some]
  exact e6
theorem t_cmp (hu : X.A.units + 65 < cLine) (o : CmpOp) (ha : PE X a (tD X.K fa)) (hb : PE X b (tD X.K fb)) (hm : behindInMarks o b = false) :
    PT X (.Compare a [o] [b] p) (tDB X.K fun σ S => bnd (fa σ S) fun x S1 => bnd (fb σ S1) fun y S2 => bnd (opt (cmpD o x y S2) S2) fun k S3 => some (k, (gc S (.bl k) S3).2)) := by
  refine (pt_cmpR (cmp_D hu o) ha hb hm).imp fun σ H Q ⟨ρ, σD, S, d, S', cc, e, k⟩ => ?_
  obtain ⟨x, S1, e1, e2⟩ := bnd_eq e
  obtain ⟨y, S2, e3, e4⟩ := bnd_eq e2
  obtain ⟨z, S3, e5, e6⟩ := bnd_eq e4
  obtain ⟨e7, e8⟩ := opt_eq e5
  subst S3
  have e9 := Option.some.inj e6
  injection e9 with e10 e11
  subst e10 e11
  refine tD_2 (tD_gc ⟨ρ, σD, S, .bl z, (gc S (.bl z) S2).2, cc, ?_, fun v H' ρ' x' h' r' => ⟨z, r', k H' ρ' x' h'⟩⟩)
  simp only [e1, e3, bnd_some, e7, Option.map_some, opt_some]
  unfold gc
  split <;> rfl
theorem r_chn (hu : X.A.units + 65 < cLine) (o q : CmpOp) (ha : PE X a (tD X.K fa)) (hb : PE X b (tD X.K fb)) (hc : PE X c (tD X.K fc)) (hm : lastMarks [o, q] [b, c] = false) :
    PE X (.Compare a [o, q] [b, c] p) (tD X.K fun σ S => bnd (fa σ S) fun x S1 => bnd (fb σ S1) fun y S2 => bnd (opt (cmpD o x y S2) S2) (iteD (fun S3 => bnd (fc σ S3) fun z S4 => opt ((cmpD q y z S4).map .bl) S4) (fun S3 => some (.bl false, S3)))) := by
  refine (pe_chain (cmp_D hu o) (cmp_D hu q) ha hb hc hm).imp fun σ H Q ⟨ρ, σD, S, d, S', cc, e, k⟩ => ?_
  obtain ⟨x, S1, e1, e2⟩ := bnd_eq e
  obtain ⟨y, S2, e3, e4⟩ := bnd_eq e2
  obtain ⟨z, S3, e5, e6⟩ := bnd_eq e4
  obtain ⟨e7, e8⟩ := opt_eq e5
  subst S3
  refine ⟨ρ, σD, S, x, S1, cc, e1, fun v H1 ρ1 x1 h1 r1 => ⟨ρ1, σD, S1, y, S2, cc.ext x1 h1, e3, fun w H2 ρ2 x2 h2 r2 => ?_⟩⟩
  refine ⟨ρ2, S2, x, y, .bl z, S2, h2, x2.rep h1 _ _ r1, r2, by dsimp only; rw [e7]; rfl, fun u H3 ρ3 x3 h3 r3 => ⟨z, r3, ?_⟩⟩
  cases z with
  | true =>
    rw [if_pos rfl]
    obtain ⟨zz, S4, e9, e10⟩ := bnd_eq (show bnd (fc σD S2) _ = some (d, S') from e6)
    have x13 := (x1.trans x2).trans x3
    refine ⟨ρ3, σD, S2, zz, S4, cc.ext x13 h3, e9, fun w' H4 ρ4 x4 h4 r4 => ?_⟩
    exact ⟨ρ4, S4, y, zz, d, S', h4, x4.rep h3 _ _ (x3.rep h2 _ _ r2), r4, e10, fun v' H' ρ' x' h' r' => k v' H' ρ' ((x13.trans x4).trans x') h' r'⟩
  | false =>
    rw [if_neg Bool.false_ne_true]
    have e9 := Option.some.inj (show some (D.bl false, S2) = some (d, S') from e6)
    injection e9 with e10 e11
    subst e10 e11
    exact k _ H3 ρ3 ((x1.trans x2).trans x3) h3 rfl
theorem t_chn (hu : X.A.units + 65 < cLine) (o q : CmpOp) (ha : PE X a (tD X.K fa)) (hb : PE X b (tD X.K fb)) (hc : PE X c (tD X.K fc)) (hm : lastMarks [o, q] [b, c] = false) :
    PT X (.Compare a [o, q] [b, c] p) (tDB X.K fun σ S => bnd (fa σ S) fun x S1 => bnd (fb σ S1) fun y S2 => bnd (opt (cmpD o x y S2) S2) (iteD (fun S3 => bnd (fc σ S3) fun z S4 => opt (cmpD q y z S4) S4) (fun S3 => some (false, S3)))) := by
  refine (pt_chain (cmp_D hu o) (cmp_D hu q) ha hb hc hm).imp fun σ H Q ⟨ρ, σD, S, d, S', cc, e, k⟩ => ?_
  obtain ⟨x, S1, e1, e2⟩ := bnd_eq e
  obtain ⟨y, S2, e3, e4⟩ := bnd_eq e2
  obtain ⟨z, S3, e5, e6⟩ := bnd_eq e4
  obtain ⟨e7, e8⟩ := opt_eq e5
  subst S3
  refine ⟨ρ, σD, S, x, S1, cc, e1, fun v H1 ρ1 x1 h1 r1 => ⟨ρ1, σD, S1, y, S2, cc.ext x1 h1, e3, fun w H2 ρ2 x2 h2 r2 => ?_⟩⟩
  refine ⟨ρ2, S2, x, y, .bl z, S2, h2, x2.rep h1 _ _ r1, r2, by dsimp only; rw [e7]; rfl, fun u H3 ρ3 x3 h3 r3 => ⟨z, r3, ?_⟩⟩
  cases z with
  | true =>
    rw [if_pos rfl]
    obtain ⟨zz, S4, e9, e10⟩ := bnd_eq (show bnd (fc σD S2) _ = some (d, S') from e6)
    have x13 := (x1.trans x2).trans x3
    refine ⟨ρ3, σD, S2, zz, S4, cc.ext x13 h3, e9, fun w' H4 ρ4 x4 h4 r4 => ?_⟩
    obtain ⟨e11, e12⟩ := opt_eq e10
    subst e12
    exact ⟨ρ4, _, y, zz, .bl d, _, h4, x4.rep h3 _ _ (x3.rep h2 _ _ r2), r4, by dsimp only; rw [e11]; rfl, fun v' H' ρ' x' h' r' => ⟨d, r', k H' ρ' ((x13.trans x4).trans x') h'⟩⟩
  | false =>
    rw [if_neg Bool.false_ne_true]
    have e9 := Option.some.inj (show some (false, S2) = some (d, S') from e6)
    injection e9 with e10 e11
    subst e10 e11
    exact ⟨false, rfl, k H3 ρ3 ((x1.trans x2).trans x3) h3⟩

/-! ### truth, and, or, if -/
theorem truth_ok {K : PySem.W.Frag} {H : Hp} {ρ : List Addr} {S : Store} (hp : HRep K H ρ S) {d : D} {v : V} {b : Bool} (e : truthD S d = some b) (r : Rep K H ρ d v) : TruV K v H b := by
  cases d with
  | non => cases e; cases r; rfl
  | bl b => cases e; cases r; rfl
  | int i => cases e; cases r; rfl
  | str x =>
    unfold truthD at e
    dsimp only at e
    split at e
    · rename_i hz; cases e; cases r; exact ⟨hz, rfl⟩
    · cases e
  | tup ds =>
    cases e
    obtain ⟨a, vs, rfl, ha, r1⟩ := r
    refine .inr (.inl ⟨vs, ha.sq, ?_⟩)
    have := r1.length
    cases ds <;> cases vs <;> first | rfl | (simp at this)
  | ro ds =>
    cases e
    obtain ⟨a, vs, rfl, ha, r1⟩ := r
    refine .inl ⟨vs, ha.sq, ?_⟩
    have := r1.length
    cases ds <;> cases vs <;> first | rfl | (simp at this)
  | loc m =>
    unfold truthD at e
    dsimp only at e
    split at e
    · rename_i ds hS
      cases e
      obtain ⟨a, vs, rfl, _, ha, r1⟩ := lst_at hp hS r
      refine .inl ⟨vs, .of ha, ?_⟩
      have := r1.length
      cases ds <;> cases vs <;> first | rfl | (simp at this)
    · rename_i kvs hS
      cases e
      obtain ⟨a, ws, rfl, _, ha, k1, _⟩ := dic_at hp hS r
      refine .inr (.inr ⟨ws, ha, ?_⟩)
      cases kvs <;> cases ws <;> first | rfl | (simp at k1)
    · cases e
theorem t_truth (ha : PE X a (tD X.K fa)) (he : ∀ whole, isTrue a X.env whole = (do let v ← whole; standAt a.pos; holding [v] (truthy v))) : PT X a (tDB X.K (plain fa).b) :=
  (pt_truth ha he).imp fun σ H Q ⟨ρ, σD, S, d, S', cc, e, k⟩ => by
    obtain ⟨x, S1, e1, e2⟩ := bnd_eq e
    obtain ⟨e3, e4⟩ := opt_eq e2
    subst e4
    exact ⟨ρ, σD, S, x, _, cc, e1, fun v H1 ρ1 x1 h1 r1 => ⟨d, truth_ok h1 e3 r1, k H1 ρ1 x1 h1⟩⟩
variable {ga gb gc' : StD → Store → Option (Bool × Store)}
theorem t_not (ha : PT X a (tDB X.K ga)) : PT X (.UnaryOp .Not a p) (tDB X.K fun σ S => bnd (ga σ S) fun b S1 => some (!b, S1)) :=
  (pt_not ha).imp fun σ H Q ⟨ρ, σD, S, d, S', cc, e, k⟩ => by
    obtain ⟨x, S1, e1, e2⟩ := bnd_eq e
    have e3 := Option.some.inj e2
    injection e3 with e4 e5
    subst e4 e5
    exact ⟨ρ, σD, S, x, _, cc, e1, fun H1 ρ1 x1 h1 => k H1 ρ1 x1 h1⟩
theorem r_ifx (hc : PT X c (tDB X.K gc')) (ha : PE X a (tD X.K fa)) (hb : PE X b (tD X.K fb)) : PE X (.IfExp c a b p) (tD X.K fun σ S => bnd (gc' σ S) (iteD (fa σ) (fb σ))) :=
  (pe_ifExp hc ha hb).imp fun σ H Q ⟨ρ, σD, S, d, S', cc, e, k⟩ => by
    obtain ⟨x, S1, e1, e2⟩ := bnd_eq e
    refine ⟨ρ, σD, S, x, S1, cc, e1, fun H1 ρ1 x1 h1 => ?_⟩
    cases x with
    | true => rw [if_pos rfl]; exact ⟨ρ1, σD, S1, d, S', cc.ext x1 h1, e2, fun v H2 ρ2 x2 h2 r2 => k v H2 ρ2 (x1.trans x2) h2 r2⟩
    | false => rw [if_neg Bool.false_ne_true]; exact ⟨ρ1, σD, S1, d, S', cc.ext x1 h1, e2, fun v H2 ρ2 x2 h2 r2 => k v H2 ρ2 (x1.trans x2) h2 r2⟩
theorem t_ifx (hc : PT X c (tDB X.K gc')) (ha : PT X a (tDB X.K ga)) (hb : PT X b (tDB X.K gb)) : PT X (.IfExp c a b p) (tDB X.K fun σ S => bnd (gc' σ S) (iteD (ga σ) (gb σ))) := by
  refine ⟨fun pins s σ H Q I ⟨ρ, σD, S, d, S', cc, e, k⟩ => ?_⟩
  obtain ⟨x, S1, e1, e2⟩ := bnd_eq e
  refine PyProof.Rows.isTrue_IfExp (thn (hc.run pins s σ H (fun b H1 => if b = true then tDB X.K ga σ H1 Q else tDB X.K gb σ H1 Q) I ⟨ρ, σD, S, x, S1, cc, e1, fun H1 ρ1 x1 h1 => ?_⟩) fun d s1 ⟨H1, I1, q1⟩ => ?_)
  · cases x with
    | true => rw [if_pos rfl]; exact ⟨ρ1, σD, S1, d, S', cc.ext x1 h1, e2, fun H2 ρ2 x2 h2 => k H2 ρ2 (x1.trans x2) h2⟩
    | false => rw [if_neg Bool.false_ne_true]; exact ⟨ρ1, σD, S1, d, S', cc.ext x1 h1, e2, fun H2 ρ2 x2 h2 => k H2 ρ2 (x1.trans x2) h2⟩
  · cases d with
    | true => exact ha.run pins s1 σ H1 Q I1 q1
    | false => exact hb.run pins s1 σ H1 Q I1 q1
theorem _root_.L2.PW.imp {e : Expr} {t t' : TT} (h : PW X e t) (i : ∀ σ H Q, t' σ H Q → t σ H Q) : PW X e t' := ⟨fun wh pins s σ H Q I hw => h.run wh pins s σ H Q I (i σ H Q hw)⟩
theorem w_one {o : BoolOp} (ha : PT X a (tDB X.K ga)) : PW X (.BoolOp o [a] p) (tDB X.K ga) := by
  cases o with
  | And => exact pw_and1 ha
  | Or => exact pw_or1 ha
theorem w_more {o : BoolOp} {r : List Expr} (ha : PT X a (tDB X.K ga)) (hb : PW X (.BoolOp o (b :: r) p) (tDB X.K gb)) : PW X (.BoolOp o (a :: b :: r) p) (tDB X.K fun σ S => bnd (ga σ S) (bopB o fun S1 => gb σ S1)) := by
  have go : ∀ {t : TT}, PW X (.BoolOp o (a :: b :: r) p) t → (∀ σ H Q, tDB X.K (fun σ S => bnd (ga σ S) (bopB o fun S1 => gb σ S1)) σ H Q → t σ H Q) → PW X (.BoolOp o (a :: b :: r) p) (tDB X.K fun σ S => bnd (ga σ S) (bopB o fun S1 => gb σ S1)) := fun h i => h.imp i
  cases o with
  | And =>
    refine go (pw_and ha hb) fun σ H Q ⟨ρ, σD, S, d, S', cc, e, k⟩ => ?_
    obtain ⟨x, S1, e1, e2⟩ := bnd_eq e
    refine ⟨ρ, σD, S, x, S1, cc, e1, fun H1 ρ1 x1 h1 => ?_⟩
    cases x with
    | true => rw [if_pos rfl]; exact ⟨ρ1, σD, S1, d, S', cc.ext x1 h1, e2, fun H2 ρ2 x2 h2 => k H2 ρ2 (x1.trans x2) h2⟩
    | false =>
      rw [if_neg Bool.false_ne_true]
      have e3 := Option.some.inj (show some (false, S1) = some (d, S') from e2)
      injection e3 with e4 e5
      subst e4 e5
      exact k H1 ρ1 x1 h1
  | Or =>
    refine go (pw_or ha hb) fun σ H Q ⟨ρ, σD, S, d, S', cc, e, k⟩ => ?_
    obtain ⟨x, S1, e1, e2⟩ := bnd_eq e
    refine ⟨ρ, σD, S, x, S1, cc, e1, fun H1 ρ1 x1 h1 => ?_⟩
    cases x with
    | false => rw [if_neg Bool.false_ne_true]; exact ⟨ρ1, σD, S1, d, S', cc.ext x1 h1, e2, fun H2 ρ2 x2 h2 => k H2 ρ2 (x1.trans x2) h2⟩
    | true =>
      rw [if_pos rfl]
      have e3 := Option.some.inj (show some (true, S1) = some (d, S') from e2)
      injection e3 with e4 e5
      subst e4 e5
      exact k H1 ρ1 x1 h1
theorem r_more {o : BoolOp} {r : List Expr} (ha : PE X a (tD X.K fa)) (hb : PE X (.BoolOp o (b :: r) p) (tD X.K fb)) : PE X (.BoolOp o (a :: b :: r) p) (tD X.K fun σ S => bnd (fa σ S) (bopD o fun S1 => fb σ S1)) := by
  have bl : ∀ {x : D} {S1 : Store} {kk : Store → Option (D × Store)} {r : D × Store}, bopD o kk x S1 = some r → ∃ b, x = .bl b := fun {x S1 kk r} h => by
    cases x <;> first | (cases h; done) | exact ⟨_, rfl⟩
  cases o with
  | And =>
    refine (pe_and ha hb).imp fun σ H Q ⟨ρ, σD, S, d, S', cc, e, k⟩ => ?_
    obtain ⟨x, S1, e1, e2⟩ := bnd_eq e
    obtain ⟨z, rfl⟩ := bl e2
    refine ⟨ρ, σD, S, _, S1, cc, e1, fun v H1 ρ1 x1 h1 r1 => ⟨z, r1, ?_⟩⟩
    cases z with
    | true => rw [if_pos rfl]; exact ⟨ρ1, σD, S1, d, S', cc.ext x1 h1, e2, fun v H2 ρ2 x2 h2 r2 => k v H2 ρ2 (x1.trans x2) h2 r2⟩
    | false =>
      rw [if_neg Bool.false_ne_true]
      have e3 := Option.some.inj (show some (D.bl false, S1) = some (d, S') from e2)
      injection e3 with e4 e5
      subst e4 e5
      exact k _ H1 ρ1 x1 h1 rfl
  | Or =>
    refine (pe_or ha hb).imp fun σ H Q ⟨ρ, σD, S, d, S', cc, e, k⟩ => ?_
    obtain ⟨x, S1, e1, e2⟩ := bnd_eq e
    obtain ⟨z, rfl⟩ := bl e2
    refine ⟨ρ, σD, S, _, S1, cc, e1, fun v H1 ρ1 x1 h1 r1 => ⟨z, r1, ?_⟩⟩
    cases z with
    | false => rw [if_neg Bool.false_ne_true]; exact ⟨ρ1, σD, S1, d, S', cc.ext x1 h1, e2, fun v H2 ρ2 x2 h2 r2 => k v H2 ρ2 (x1.trans x2) h2 r2⟩
    | true =>
      rw [if_pos rfl]
      have e3 := Option.some.inj (show some (D.bl true, S1) = some (d, S') from e2)
      injection e3 with e4 e5
      subst e4 e5
      exact k _ H1 ρ1 x1 h1 rfl

/-! ### subscripts -/
theorem atI_ok {K : PySem.W.Frag} {H : Hp} {ρ : List Addr} {ds : List D} {vs : List V} {i : Int} {d : D} (r : RepL K H ρ ds vs) (e : atI ds i = some d) : ∃ v, atI vs i = some v ∧ Rep K H ρ d v := by
  unfold atI at e ⊢
  rw [← r.length]
  cases h : ixN ds.length i with
  | none => rw [h] at e; cases e
  | some j =>
    rw [h] at e
    exact r.get (i := j) e
theorem ix_D (hu : X.A.units + 1 < cLine) : IxR X (lift2 X.K fun x y S => opt (ixD x y S) S) := by
  intro value slice pins s σ H x y v u Q I rx ry ⟨ρ, S, dx, dy, d, S', hp, r1, r2, e, k⟩ hs
  obtain ⟨e1, e0⟩ := opt_eq e
  subst S'
  have dic : ∀ {m : Nat} {kvs : List (Key × D)} {kk : Key}, dx = .loc m → S[m]? = some (.dic kvs) → getG kvs kk = some d → y = kV kk → wpAny (model X.prog X.w) X.A (PyProof.Rows.subscriptTail value slice v u) (EP X pins σ Q) X.xe s := fun {m kvs kk} h1 h2 h3 h4 => by
    subst h1 h4
    obtain ⟨a, ws, rfl, _, ha, k1, k2⟩ := dic_at hp h2 r1
    obtain ⟨w, g1, g2⟩ := (getG_ok k1 k2).1 d h3
    have g : DGet H a (kV kk) (some w) := by rw [← g1]; exact DGet.k ha
    cases rx
    exact PyProof.Rows.tail_any (dict_typeIs I g) PySem.F.slot_dict_getitem.lookup (d_getItem hu I g ry fun w' s3 I3 rw' => ⟨w, H, I3, rw', k w H ρ Ext.refl hp g2⟩) hs
  unfold ixD at e1
  split at e1
  · rename_i kk
    split at e1
    · rename_i m
      split at e1
      · rename_i ds hS
        obtain ⟨a, vs, rfl, _, ha, rs⟩ := lst_at hp hS r1
        obtain ⟨w, g1, g2⟩ := atI_ok rs e1
        exact ix_list value slice pins s σ H _ y v u Q I rx ry ⟨a, vs, kk, w, rfl, r2, .of ha, g1, k w H ρ Ext.refl hp g2⟩ hs
      · rename_i kvs hS
        exact dic rfl hS e1 r2
      · cases e1
    · obtain ⟨a, vs, rfl, ha, rs⟩ := r1
      obtain ⟨w, g1, g2⟩ := atI_ok rs e1
      exact ix_tup value slice pins s σ H _ y v u Q I rx ry ⟨a, vs, kk, w, rfl, r2, ha.sq, g1, k w H ρ Ext.refl hp g2⟩ hs
    · obtain ⟨a, vs, rfl, ha, rs⟩ := r1
      obtain ⟨w, g1, g2⟩ := atI_ok rs e1
      exact ix_list value slice pins s σ H _ y v u Q I rx ry ⟨a, vs, kk, w, rfl, r2, ha.sq, g1, k w H ρ Ext.refl hp g2⟩ hs
    · cases e1
  · split at e1
    · split at e1
      · rename_i kvs hS
        exact dic rfl hS e1 r2
      · cases e1
    · cases e1
  · cases e1
theorem r_ix (hu : X.A.units + 1 < cLine) (ha : PE X a (tD X.K fa)) (hb : PE X b (tD X.K fb)) (hs : PlainIx b) :
    PE X (.Subscript a b p) (tD X.K fun σ S => bnd (fa σ S) fun x S1 => bnd (fb σ S1) fun y S2 => bnd (opt (ixD x y S2) S2) fun z S3 => some (gc S z S3)) := by
  refine (pe_gc ((pe_ix (ix_D hu) ha hb hs).imp fun σ H Q => tD_2)).imp fun σ H Q ⟨ρ, σD, S, d, S', cc, e, k⟩ => ⟨ρ, σD, S, d, S', cc, ?_, k⟩
  obtain ⟨x, S1, e1, e2⟩ := bnd_eq e
  obtain ⟨y, S2, e3, e4⟩ := bnd_eq e2
  simp only [e1, e3, bnd_some]
  exact e4
def tDo (K : PySem.W.Frag) (f : StD → Store → Option (Option Int × Store)) : TO := fun σ H Q => ∃ ρ σD S b S', Cor K H ρ σ σD S ∧ f σD S = some (b, S') ∧ ∀ H' ρ', Ext H ρ H' ρ' → HRep K H' ρ' S' → Q b H'
theorem o_none : PO X none (tDo X.K fun _ S => some (none, S)) := ⟨fun pins s σ H Q I ⟨ρ, σD, S, b, S', cc, e, k⟩ => by
  have e3 := Option.some.inj e
  injection e3 with e4 e5
  subst e4 e5
  exact po_none.run pins s σ H Q I (k H ρ Ext.refl cc.hp)⟩
theorem o_some (ha : PE X a (tD X.K fa)) : PO X (some a) (tDo X.K fun σ S => bnd (bnd (fa σ S) intD) fun i S1 => some (some i, S1)) := ⟨fun pins s σ H Q I ⟨ρ, σD, S, b, S', cc, e, k⟩ => by
  obtain ⟨i, S1, e1, e2⟩ := bnd_eq e
  obtain ⟨x, S2, e3, e4⟩ := bnd_eq e1
  have e5 := Option.some.inj e2
  injection e5 with e6 e7
  subst e6 e7
  cases x <;> first | (cases e4; done) | skip
  have e8 := Option.some.inj e4
  injection e8 with e9 e10
  subst e9 e10
  exact (po_some ha).run pins s σ H Q I ⟨ρ, σD, S, _, _, cc, e3, fun v H1 ρ1 x1 h1 r1 => ⟨_, r1, k H1 ρ1 x1 h1⟩⟩⟩
theorem sl_D : SlR X (fun x lo hi H Q => ∃ ρ S dx d S', HRep X.K H ρ S ∧ Rep X.K H ρ dx x ∧ slD dx lo hi S = some (d, S') ∧ After X.K H ρ S' d Q) := by
  intro pins s σ H x v vl vu lo hi sl Q I rx hs pl pu ⟨ρ, S, dx, d, S', hp, r1, e, k⟩
  have fin : ∀ {dd : D} {SS : Store}, some (dd, SS) = some (d, S') → dd = d ∧ SS = S' := fun h => by
    have := Option.some.inj h
    injection this with h1 h2
    exact ⟨h1, h2⟩
  unfold slD at e
  split at e
  · obtain ⟨rfl, rfl⟩ := fin e
    obtain ⟨a, vs, rfl, ha, rs⟩ := r1
    refine sl_tupF pins s σ H _ v vl vu lo hi sl Q I rx hs pl pu ⟨a, vs, rfl, ha.sq, fun hw => ?_, fun _ p o hn ho => ?_⟩
    · refine k _ H ρ Ext.refl hp ⟨a, vs, rfl, ha, ?_⟩
      have := rs.cut lo hi
      unfold cutV at this
      rw [hw.1, hw.2] at this
      simpa using this
    · exact k _ _ ρ (Ext.newT hp hn) (hp.newT hn) ⟨p, _, rfl, .new ho, (Ext.newT hp hn).repL hp _ _ (rs.cut lo hi)⟩
  · obtain ⟨rfl, rfl⟩ := fin e
    obtain ⟨a, vs, rfl, ha, rs⟩ := r1
    exact sl_list pins s σ H _ v vl vu lo hi sl Q I rx hs pl pu ⟨a, vs, rfl, ha.sq, fun p hn => k _ _ (ρ ++ [p]) (Ext.newL hp hn) (hp.newLst hn (rs.cut lo hi)) hp.newLoc⟩
  · split at e
    · rename_i ds hS
      obtain ⟨rfl, rfl⟩ := fin e
      obtain ⟨a, vs, rfl, _, ha, rs⟩ := lst_at hp hS r1
      exact sl_list pins s σ H _ v vl vu lo hi sl Q I rx hs pl pu ⟨a, vs, rfl, .of ha, fun p hn => k _ _ (ρ ++ [p]) (Ext.newL hp hn) (hp.newLst hn (rs.cut lo hi)) hp.newLoc⟩
    · cases e
  · cases e
theorem r_sl {lo hi : Option Expr} {fl fh : StD → Store → Option (Option Int × Store)} {p2 : Pos} (ha : PE X a (tD X.K fa)) (hl : PO X lo (tDo X.K fl)) (hh : PO X hi (tDo X.K fh)) :
    PE X (.Subscript a (.Slice lo hi none p2) p) (tD X.K fun σ S => bnd (fa σ S) fun x S1 => bnd (fl σ S1) fun l S2 => bnd (fh σ S2) fun h S3 => slD x l h S3) :=
  (pe_slice sl_D ha hl hh).imp fun σ H Q ⟨ρ, σD, S, d, S', cc, e, k⟩ => by
    obtain ⟨x, S1, e1, e2⟩ := bnd_eq e
    obtain ⟨l, S2, e3, e4⟩ := bnd_eq e2
    obtain ⟨h, S3, e5, e6⟩ := bnd_eq e4
    refine ⟨ρ, σD, S, x, S1, cc, e1, fun v H1 ρ1 x1 h1 r1 => ⟨ρ1, σD, S1, l, S2, cc.ext x1 h1, e3, fun H2 ρ2 x2 h2 => ⟨ρ2, σD, S2, h, S3, cc.ext (x1.trans x2) h2, e5, fun H3 ρ3 x3 h3 => ?_⟩⟩⟩
    exact ⟨ρ3, S3, x, d, S', h3, x3.rep h2 _ _ (x2.rep h1 _ _ r1), e6, fun v' H' ρ' x' h' r' => k v' H' ρ' (((x1.trans x2).trans x3).trans x') h' r'⟩
end
end
end Mi

end

section
/-! Mi5: built-in functions and methods. -/
namespace Mi
open PySem PySem.Spec L2
def liftN (K : PySem.W.Frag) (g : List D → Store → Option (D × Store)) : List V → Hp → VK → Prop := fun xs H Q => ∃ ρ S ds d S', HRep K H ρ S ∧ RepL K H ρ ds xs ∧ g ds S = some (d, S') ∧ After K H ρ S' d Q
theorem tD_N {K : PySem.W.Frag} {g : StD → Store → Option (List D × Store)} {F : List D → Store → Option (D × Store)} {σ : L2.St} {H : Hp} {Q : VK} (h : tD K (fun τ S => bnd (g τ S) fun ds S1 => F ds S1) σ H Q) : tCB (liftN K F) (tDs K g) σ H Q := by
  obtain ⟨ρ, σD, S, d, S', c, e, k⟩ := h
  obtain ⟨ds, S1, e1, e2⟩ := bnd_eq e
  exact ⟨ρ, σD, S, ds, S1, c, e1, fun vs H1 ρ1 x1 h1 r1 => ⟨ρ1, S1, ds, d, S', h1, r1, e2, fun v' H' ρ' x' h' r' => k v' H' ρ' (x1.trans x') h' r'⟩⟩
theorem inj2 {α β : Type} {a a' : α} {b b' : β} (h : some (a, b) = some (a', b')) : a = a' ∧ b = b' := by
  have := Option.some.inj h
  injection this with h1 h2
  exact ⟨h1, h2⟩
section
variable {X : Cx}
theorem repL1 {K : PySem.W.Frag} {H : Hp} {ρ : List Addr} {d : D} {xs : List V} (r : RepL K H ρ [d] xs) : ∃ v, xs = [v] ∧ Rep K H ρ d v := by
  obtain ⟨v, r', rfl, h1, h2⟩ := r
  cases h2
  exact ⟨v, rfl, h1⟩
theorem repL2 {K : PySem.W.Frag} {H : Hp} {ρ : List Addr} {d e : D} {xs : List V} (r : RepL K H ρ [d, e] xs) : ∃ v w, xs = [v, w] ∧ Rep K H ρ d v ∧ Rep K H ρ e w := by
  obtain ⟨v, r', rfl, h1, h2⟩ := r
  obtain ⟨w, rfl, h3⟩ := repL1 h2
  exact ⟨v, w, rfl, h1, h3⟩
theorem len_D : CallR X (.builtin "len") (liftN X.K (biD .len)) := by
  intro pins s σ H xs us Q I r ⟨ρ, S, ds, d, S', hp, rs, e, k⟩
  match ds, e with
  | [], e => cases e
  | _ :: _ :: _, e => cases e
  | [a], e =>
    obtain ⟨v, rfl, ra⟩ := repL1 rs
    have seq : ∀ {es : List D}, seqOf S a = some es → d = .int es.length → S' = S → wpAny (model X.prog X.w) X.A (call (.builtin "len") us) (EP X pins σ Q) X.xe s := fun {es} h1 h2 h3 => by
      subst h2 h3
      obtain ⟨b, vs, rfl, hq, rr⟩ := seq_at hp h1 ra
      have hl := rr.length
      rcases hq with hq | hq
      · exact call_len pins s σ H _ us Q I r ⟨_, vs.length, rfl, .inl ⟨vs, hq, rfl⟩, by rw [← hl]; exact k _ H ρ Ext.refl hp rfl⟩
      · exact call_len pins s σ H _ us Q I r ⟨_, vs.length, rfl, .inr ⟨vs, hq, rfl⟩, by rw [← hl]; exact k _ H ρ Ext.refl hp rfl⟩
    cases a with
    | str x =>
      unfold biD at e
      dsimp only at e
      split at e
      · rename_i hz
        obtain ⟨rfl, rfl⟩ := inj2 e
        cases ra
        exact call_len pins s σ H _ us Q I r ⟨_, x.length, rfl, ⟨hz, rfl⟩, k _ H ρ Ext.refl hp rfl⟩
      · cases e
    | loc m =>
      unfold biD at e
      dsimp only at e
      split at e
      · rename_i es hS
        obtain ⟨rfl, rfl⟩ := inj2 e
        exact seq (by unfold seqOf; dsimp only; rw [hS]) rfl rfl
      · rename_i kvs hS
        obtain ⟨rfl, rfl⟩ := inj2 e
        obtain ⟨b, ws, rfl, _, ha, k1, _⟩ := dic_at hp hS ra
        have hl : ws.length = kvs.length := by simpa using congrArg List.length k1
        exact call_lenD pins s σ H _ us Q I r ⟨b, ws, rfl, ha, by rw [hl]; exact k _ H ρ Ext.refl hp rfl⟩
      · cases e
    | tup es =>
      obtain ⟨rfl, rfl⟩ := inj2 (show some (D.int es.length, S) = some (d, S') from e)
      exact seq rfl rfl rfl
    | ro es =>
      obtain ⟨rfl, rfl⟩ := inj2 (show some (D.int es.length, S) = some (d, S') from e)
      exact seq rfl rfl rfl
    | _ => cases e
theorem int_D : CallR X (.type "int") (liftN X.K (biD .int)) := by
  intro pins s σ H xs us Q I r ⟨ρ, S, ds, d, S', hp, rs, e, k⟩
  unfold biD at e
  split at e <;> first | contradiction | skip
  · obtain ⟨rfl, rfl⟩ := inj2 e
    obtain ⟨v, rfl, ra⟩ := repL1 rs
    cases ra
    exact call_int1 pins s σ H _ us Q I r (.inl ⟨_, rfl, k _ H ρ Ext.refl hp rfl⟩)
  · obtain ⟨rfl, rfl⟩ := inj2 e
    obtain ⟨v, rfl, ra⟩ := repL1 rs
    cases ra
    exact call_int1 pins s σ H _ us Q I r (.inr ⟨_, rfl, k _ H ρ Ext.refl hp rfl⟩)
theorem tuple_D : CallR X (.type "tuple") (liftN X.K (biD .tuple)) := by
  intro pins s σ H xs us Q I r ⟨ρ, S, ds, d, S', hp, rs, e, k⟩
  unfold biD at e
  split at e <;> first | contradiction | skip
  · obtain ⟨rfl, rfl⟩ := inj2 e
    obtain ⟨v, rfl, ra⟩ := repL1 rs
    obtain ⟨b, vs, rfl, ha, rr⟩ := id ra
    exact call_tupleF pins s σ H _ us Q I r ⟨b, vs, rfl, .inr ⟨ha.sq, k _ H ρ Ext.refl hp ra⟩⟩
  · rename_i a hne _
    obtain ⟨v, rfl, ra⟩ := repL1 rs
    obtain ⟨es, e1, e2⟩ := Option.map_eq_some_iff.mp e
    injection e2 with e3 e4
    subst e3 e4
    obtain ⟨b, vs, rfl, hq, rr⟩ := seq_at hp e1 ra
    have hq' : SqL X.K H b vs := by
      rcases hq with hq | hq
      · exact hq
      · cases a with
        | tup q => exact absurd rfl (hne q)
        | ro q =>
          cases e1
          obtain ⟨b', vs', e5, h5, r5⟩ := ra
          cases e5
          obtain ⟨i1, v1, p1, _⟩ := I.list h5.sq
          obtain ⟨i2, v2, p2, _⟩ := I.tuple hq
          obtain ⟨o1, n1, g1, c1, _⟩ := p1
          obtain ⟨o2, g2, c2, _⟩ := p2
          rw [g1] at g2; cases g2
          rw [c1] at c2; exact absurd c2 (by decide)
        | loc m =>
          unfold seqOf at e1
          dsimp only at e1
          split at e1
          · rename_i q hS
            obtain ⟨b', vs', e5, _, h5, r5⟩ := lst_at hp hS ra
            cases e5
            obtain ⟨i1, v1, p1, _⟩ := I.list (.of h5)
            obtain ⟨i2, v2, p2, _⟩ := I.tuple hq
            obtain ⟨o1, n1, g1, c1, _⟩ := p1
            obtain ⟨o2, g2, c2, _⟩ := p2
            rw [g1] at g2; cases g2
            rw [c1] at c2; exact absurd c2 (by decide)
          · cases e1
        | _ => cases e1
    exact call_tupleF pins s σ H _ us Q I r ⟨b, vs, rfl, .inl ⟨hq', fun p o hn ho => k _ _ ρ (Ext.newT hp hn) (hp.newT hn) ⟨p, _, rfl, .new ho, (Ext.newT hp hn).repL hp _ _ rr⟩⟩⟩
theorem list_D : CallR X (.type "list") (liftN X.K (biD .list)) := by
  intro pins s σ H xs us Q I r ⟨ρ, S, ds, d, S', hp, rs, e, k⟩
  unfold biD at e
  split at e <;> first | contradiction | skip
  obtain ⟨v, rfl, ra⟩ := repL1 rs
  obtain ⟨es, e1, e2⟩ := Option.map_eq_some_iff.mp e
  injection e2 with e3 e4
  subst e3 e4
  obtain ⟨b, vs, rfl, hq, rr⟩ := seq_at hp e1 ra
  exact call_list_of pins s σ H _ us Q I r ⟨b, vs, rfl, hq, fun p hn => k _ _ (ρ ++ [p]) (Ext.newL hp hn) (hp.newLst hn rr) hp.newLoc⟩
theorem lst_sq {K : PySem.W.Frag} {H : Hp} {ρ : List Addr} {S : Store} (hp : HRep K H ρ S) {d : D} {ds : List D} {v : V} (e : lstOf S d = some ds) (r : Rep K H ρ d v) : ∃ a vs, v = .ref a ∧ SqL K H a vs ∧ RepL K H ρ ds vs := by
  cases d with
  | ro es =>
    have e2 : es = ds := Option.some.inj e
    subst e2
    obtain ⟨a, vs, rfl, ha, rs⟩ := r
    exact ⟨a, vs, rfl, ha.sq, rs⟩
  | loc m =>
    have e2 : (match S[m]? with | some (.lst ds) => some ds | _ => none) = some ds := e
    split at e2
    · rename_i es hS
      have e3 : es = ds := Option.some.inj e2
      subst e3
      obtain ⟨a, vs, rfl, _, ha, rs⟩ := lst_at hp hS r
      exact ⟨a, vs, rfl, .of ha, rs⟩
    · cases e2
  | _ => cases e
theorem intsOf_ok {K : PySem.W.Frag} {H : Hp} {ρ : List Addr} : ∀ {ds : List D} {ns : List Int} {vs : List V}, intsOf ds = some ns → RepL K H ρ ds vs → vs = ns.map V.int
  | [], ns, vs, e, r => by
    cases e; cases r; rfl
  | d :: ds, ns, vs, e, r => by
    obtain ⟨v, w, rfl, r1, r2⟩ := r
    cases d <;> first | (cases e; done) | skip
    obtain ⟨ms, e1, rfl⟩ := Option.map_eq_some_iff.mp e
    rw [intsOf_ok e1 r2, show v = V.int _ from r1]; rfl
theorem boolsOf_ok {K : PySem.W.Frag} {H : Hp} {ρ : List Addr} : ∀ {ds : List D} {ns : List Bool} {vs : List V}, boolsOf ds = some ns → RepL K H ρ ds vs → vs = ns.map V.bl
  | [], ns, vs, e, r => by
    cases e; cases r; rfl
  | d :: ds, ns, vs, e, r => by
    obtain ⟨v, w, rfl, r1, r2⟩ := r
    cases d <;> first | (cases e; done) | skip
    obtain ⟨ms, e1, rfl⟩ := Option.map_eq_some_iff.mp e
    rw [boolsOf_ok e1 r2, show v = V.bl _ from r1]; rfl
theorem greatest_in : ∀ (r : List Int) (i : Int), greatest i r ∈ i :: r ∧ ∀ y ∈ i :: r, y ≤ greatest i r
  | [], i => ⟨List.mem_cons_self .., fun y hy => Int.le_of_eq (by simpa [greatest] using hy)⟩
  | j :: r, i => by
    obtain ⟨h1, h2⟩ := greatest_in r (max i j)
    have e : greatest i (j :: r) = greatest (max i j) r := rfl
    rw [e]
    refine ⟨?_, fun y hy => ?_⟩
    · rcases List.mem_cons.mp h1 with h | h
      · rw [h]
        rcases Int.le_total i j with q | q
        · rw [Int.max_eq_right q]; simp
        · rw [Int.max_eq_left q]; simp
      · exact List.mem_cons_of_mem _ (List.mem_cons_of_mem _ h)
    · have hm := h2 (max i j) (List.mem_cons_self ..)
      rcases List.mem_cons.mp hy with h | h
      · rw [h]; omega
      · rcases List.mem_cons.mp h with h | h
        · rw [h]; omega
        · exact h2 y (List.mem_cons_of_mem _ h)
theorem least_in : ∀ (r : List Int) (i : Int), least i r ∈ i :: r ∧ ∀ y ∈ i :: r, least i r ≤ y
  | [], i => ⟨List.mem_cons_self .., fun y hy => Int.le_of_eq (by have h : y = i := (by simpa using hy); exact h.symm)⟩
  | j :: r, i => by
    obtain ⟨h1, h2⟩ := least_in r (min i j)
    have e : least i (j :: r) = least (min i j) r := rfl
    rw [e]
    refine ⟨?_, fun y hy => ?_⟩
    · rcases List.mem_cons.mp h1 with h | h
      · rw [h]
        rcases Int.le_total i j with q | q
        · rw [Int.min_eq_left q]; simp
        · rw [Int.min_eq_right q]; simp
      · exact List.mem_cons_of_mem _ (List.mem_cons_of_mem _ h)
    · have hm := h2 (min i j) (List.mem_cons_self ..)
      rcases List.mem_cons.mp hy with h | h
      · rw [h]; omega
      · rcases List.mem_cons.mp h with h | h
        · rw [h]; omega
        · exact h2 y (List.mem_cons_of_mem _ h)
theorem mxl_eq {gr : Bool} {a : D} {S : Store} {r : D × Store} (e : mxlD gr a S = some r) : ∃ ds i q, lstOf S a = some ds ∧ intsOf ds = some (i :: q) ∧ r = (.int (if gr then greatest i q else least i q), S) := by
  unfold mxlD at e
  split at e
  · rename_i ds h1
    split at e
    · rename_i i q h2; exact ⟨ds, i, q, h1, h2, (Option.some.inj e).symm⟩
    · cases e
  · cases e
theorem min_D (hc : X.calm = true) : CallR X (.builtin "min") (liftN X.K (biD .min)) := by
  intro pins s σ H xs us Q I r ⟨ρ, S, ds, d, S', hp, rs, e, k⟩
  unfold biD at e
  split at e <;> first | contradiction | skip
  · obtain ⟨rfl, rfl⟩ := inj2 e
    obtain ⟨v, w, rfl, ra, rb⟩ := repL2 rs
    cases ra
    cases rb
    exact call_min2 hc pins s σ H _ us Q I r ⟨_, _, rfl, k _ H ρ Ext.refl hp rfl⟩
  · obtain ⟨v, rfl, ra⟩ := repL1 rs
    obtain ⟨es, i, q, e1, e2, e3⟩ := mxl_eq e
    obtain ⟨rfl, rfl⟩ := Prod.mk.inj e3
    obtain ⟨a, vs, rfl, hs, rr⟩ := lst_sq hp e1 ra
    have ev := intsOf_ok e2 rr
    subst ev
    refine cr_min hc pins s σ H _ us Q I r ⟨a, i :: q, rfl, hs, by simp, fun m hm hle => ?_⟩
    obtain ⟨g1, g2⟩ := least_in q i
    have em : m = least i q := by have := hle _ g1; have := g2 _ hm; omega
    exact k _ H ρ Ext.refl hp (by rw [em]; rfl)
theorem max_D (hc : X.calm = true) : CallR X (.builtin "max") (liftN X.K (biD .max)) := by
  intro pins s σ H xs us Q I r ⟨ρ, S, ds, d, S', hp, rs, e, k⟩
  unfold biD at e
  split at e <;> first | contradiction | skip
  · obtain ⟨rfl, rfl⟩ := inj2 e
    obtain ⟨v, w, rfl, ra, rb⟩ := repL2 rs
    cases ra
    cases rb
    exact call_max2 hc pins s σ H _ us Q I r ⟨_, _, rfl, k _ H ρ Ext.refl hp rfl⟩
  · obtain ⟨v, rfl, ra⟩ := repL1 rs
    obtain ⟨es, i, q, e1, e2, e3⟩ := mxl_eq e
    obtain ⟨rfl, rfl⟩ := Prod.mk.inj e3
    obtain ⟨a, vs, rfl, hs, rr⟩ := lst_sq hp e1 ra
    have ev := intsOf_ok e2 rr
    subst ev
    refine cr_max hc pins s σ H _ us Q I r ⟨a, i :: q, rfl, hs, by simp, fun m hm hle => ?_⟩
    obtain ⟨g1, g2⟩ := greatest_in q i
    have em : m = greatest i q := by have := hle _ g1; have := g2 _ hm; omega
    exact k _ H ρ Ext.refl hp (by rw [em]; rfl)
theorem sum_D (hc : X.calm = true) : CallR X (.builtin "sum") (liftN X.K (biD .sum)) := by
  intro pins s σ H xs us Q I r ⟨ρ, S, ds, d, S', hp, rs, e, k⟩
  unfold biD at e
  split at e <;> first | contradiction | skip
  obtain ⟨v, rfl, ra⟩ := repL1 rs
  unfold sumD at e
  split at e
  · rename_i es e1
    obtain ⟨ns, e2, e3⟩ := Option.map_eq_some_iff.mp e
    obtain ⟨rfl, rfl⟩ := Prod.mk.inj e3
    obtain ⟨a, vs, rfl, hs, rr⟩ := lst_sq hp e1 ra
    have ev := intsOf_ok e2 rr
    subst ev
    exact cr_sum hc pins s σ H _ us Q I r ⟨a, ns, rfl, hs, k _ H ρ Ext.refl hp rfl⟩
  · cases e
theorem any_D (hc : X.calm = true) : CallR X (.builtin "any") (liftN X.K (biD .any)) := by
  intro pins s σ H xs us Q I r ⟨ρ, S, ds, d, S', hp, rs, e, k⟩
  unfold biD at e
  split at e <;> first | contradiction | skip
  obtain ⟨v, rfl, ra⟩ := repL1 rs
  unfold anyD at e
  split at e
  · rename_i es e1
    obtain ⟨ns, e2, e3⟩ := Option.map_eq_some_iff.mp e
    obtain ⟨rfl, rfl⟩ := Prod.mk.inj e3
    obtain ⟨a, vs, rfl, hs, rr⟩ := lst_sq hp e1 ra
    have ev := boolsOf_ok e2 rr
    subst ev
    exact cr_any hc pins s σ H _ us Q I r ⟨a, ns, rfl, hs, k _ H ρ Ext.refl hp rfl⟩
  · cases e
theorem all_D (hc : X.calm = true) : CallR X (.builtin "all") (liftN X.K (biD .all)) := by
  intro pins s σ H xs us Q I r ⟨ρ, S, ds, d, S', hp, rs, e, k⟩
  unfold biD at e
  split at e <;> first | contradiction | skip
  obtain ⟨v, rfl, ra⟩ := repL1 rs
  unfold allD at e
  split at e
  · rename_i es e1
    obtain ⟨ns, e2, e3⟩ := Option.map_eq_some_iff.mp e
    obtain ⟨rfl, rfl⟩ := Prod.mk.inj e3
    obtain ⟨a, vs, rfl, hs, rr⟩ := lst_sq hp e1 ra
    have ev := boolsOf_ok e2 rr
    subst ev
    exact cr_all hc pins s σ H _ us Q I r ⟨a, ns, rfl, hs, k _ H ρ Ext.refl hp rfl⟩
  · cases e
theorem repL_rev {K : PySem.W.Frag} {H : Hp} {ρ : List Addr} : ∀ {ds : List D} {vs : List V}, RepL K H ρ ds vs → RepL K H ρ ds.reverse vs.reverse
  | [], vs, h => by cases h; exact rfl
  | d :: ds, vs, h => by
    obtain ⟨v, r, rfl, h1, h2⟩ := h
    rw [List.reverse_cons, List.reverse_cons]
    exact (repL_rev h2).append ⟨v, [], rfl, h1, rfl⟩
theorem r_rev {a : Expr} {fa : StD → Store → Option (D × Store)} {k : Nat} {p1 p2 p3 p : Pos} (ha : PE X a (tD X.K fa)) :
    PE X (.Subscript a (.Slice none none (some (.UnaryOp .USub (.Constant (.int 1) k p1) p2)) p3) p) (tD X.K fun σ S => bnd (fa σ S) revD) := by
  refine (pe_revL ha).imp fun σ H Q ⟨ρ, σD, S, d, S', cc, e, kk⟩ => ?_
  obtain ⟨x, S1, e1, e2⟩ := bnd_eq e
  unfold revD at e2
  split at e2
  · rename_i ds h
    obtain ⟨rfl, rfl⟩ := inj2 e2
    refine ⟨ρ, σD, S, x, S1, cc, e1, fun v H1 ρ1 x1 h1 r1 => ?_⟩
    obtain ⟨a, vs, rfl, hs, rr⟩ := lst_sq h1 h r1
    exact ⟨a, vs, rfl, hs, fun q hn => kk _ _ (ρ1 ++ [q]) (x1.trans (Ext.newL h1 hn)) (h1.newLst hn (repL_rev rr)) h1.newLoc⟩
  · cases e2
theorem abs_D : CallR X (.builtin "abs") (liftN X.K (biD .abs)) := by
  intro pins s σ H xs us Q I r ⟨ρ, S, ds, d, S', hp, rs, e, k⟩
  unfold biD at e
  split at e <;> first | contradiction | skip
  obtain ⟨rfl, rfl⟩ := inj2 e
  obtain ⟨v, rfl, ra⟩ := repL1 rs
  cases ra
  exact call_abs pins s σ H _ us Q I r ⟨_, rfl, k _ H ρ Ext.refl hp rfl⟩
theorem pairs3 {pins : List (Addr × Obj)} {σ : L2.St} {H : Hp} {s : Shared} (I : L2.Inv X pins σ H s) : ∀ {ps : List Addr} {kvs : List (Key × V)}, Paired (fun p kv => SqT X.K H p [kV kv.1, kv.2]) ps kvs →
    ∃ tr : List (Key × Value × Value), KV kvs (tr.map fun t => (t.1, t.2.2)) ∧ tr.length = ps.length ∧ ∀ (j : Nat) (t : Key × Value × Value), tr[j]? = some t → ∃ b, ps[j]? = some b ∧ PyProof.Rows.IsTup s.heap b #[t.2.1, t.2.2] ∧ keyIs t.1 t.2.1 = true
  | _, _, .nil => ⟨[], .nil, rfl, fun j q e => by simp at e⟩
  | _, _, .cons (a := p) (b := kv) h t => by
    obtain ⟨tr, r, hl, hp⟩ := pairs3 I t
    obtain ⟨its, rv, ht, _⟩ := I.tuple h
    obtain ⟨u, y, ei, ru, ry⟩ := vals2 rv
    subst ei
    refine ⟨(kv.1, u, y) :: tr, .cons ⟨rfl, ry⟩ r, by rw [List.length_cons, List.length_cons, hl], fun j q e => ?_⟩
    cases j with
    | zero =>
      have e' : (kv.1, u, y) = q := Option.some.inj e
      subst e'
      exact ⟨p, rfl, ht, kV_is (P := X.prog) (w := X.w) ru⟩
    | succ j =>
      obtain ⟨b, e1, e2, e3⟩ := hp j q (by simpa using e)
      exact ⟨b, by simpa using e1, e2, e3⟩
/-- dict(xs) of a tuple of pairs -/
theorem TupAt.heap {pins : List (Addr × Obj)} {σ : L2.St} {H : Hp} {s : Shared} {a : Addr} {xs : List V} (I : L2.Inv X pins σ H s) (hq : TupAt X.K H a xs) :
    ∃ (o : Obj) (n : Nat) (its : List Value), s.heap.get? a = some o ∧ o.cls = .type "tuple" ∧ o.dict = none ∧ o.data = .seq its.toArray n ∧ Vals xs its ∧ xs.length ≤ sizeLine := by
  rcases hq with ⟨o, ho, hdn⟩ | ⟨o, its, n, hk, hc, hdn, hs, hz, r⟩
  · obtain ⟨hget, hz, its, rv, o', ho', hc, n, hdat⟩ := I.hok a _ ho
    rw [hget] at ho'; cases ho'
    exact ⟨o, n, its, hget, hc, hdn, hdat, rv, hz⟩
  · refine ⟨o, n, its.toList, I.kIn a o hk, hc, hdn, by simpa using hs, r, ?_⟩
    have e := r.length
    simp only [Array.length_toList] at e
    omega
theorem call_dictT (hcalm : X.calm = true) : CallR X (.type "dict") (fun xs H Q => ∃ (a : Addr) (ps : List Addr) (kvs : List (Key × V)), xs = [.ref a] ∧ TupAt X.K H a (ps.map V.ref) ∧ Paired (fun p kv => SqT X.K H p [kV kv.1, kv.2]) ps kvs ∧
    ∀ p, H p = none → Q (.ref p) (upd H p (.dK (mergeK [] kvs)))) := by
  intro pins s σ H xs us Q I r ⟨a, ps, kvs, ex, hq, hp, q⟩
  subst ex
  obtain ⟨u, eu, rx⟩ := vals1 r
  subst eu
  cases rx
  obtain ⟨o, n, its, hget, hc, hdn, hdat, rv, hz⟩ := TupAt.heap I hq
  have ei := refs_at rv
  subst ei
  rw [List.length_map] at hz
  obtain ⟨tr, rel, hl, hpr⟩ := pairs3 I hp
  have key := PySem.call_dict_pairs (prog := X.prog) (w := X.w) (A := X.A) (s := s) (E := X.xe) (Q := EP X pins σ Q) (knd := mixKind X.prog X.w) (kvs := tr.map fun t => (t.1, t.2.2))
    (PySem.PairArg.tuple a (ps.map Value.ref).toArray (fun j => ps.getD j 0) (tr.map (·.2))) (I.ok.hd hcalm)
    ⟨⟨o, n, hget, hc, hdn, hdat⟩, by simp [hl], fun j k v hj => ?_⟩ ⟨by simp, fun i key v hi => ?_⟩ (by simp [hl]; exact hz) fun h' tk hd' kk => ?_
  · exact key
  · rw [List.getElem?_map] at hj
    obtain ⟨t, ht, et⟩ := Option.map_eq_some_iff.mp hj
    obtain ⟨b, e1, e2, e3⟩ := hpr j t ht
    have e4 : ps.getD j 0 = b := by rw [List.getD_eq_getElem?_getD, e1]; rfl
    dsimp only
    rw [e4]
    have et' : t.2 = (k, v) := et
    rw [et'] at e2
    exact ⟨by simp [e1], .inl e2⟩
  · have hi' : (tr.map (·.2))[i]? = some (key, v) := hi
    rw [List.getElem?_map] at hi'
    obtain ⟨t, ht, et⟩ := Option.map_eq_some_iff.mp hi'
    obtain ⟨b, e1, e2, e3⟩ := hpr i t ht
    have et' : t.2 = (key, v) := et
    refine ⟨t.1, by rw [List.getElem?_map, ht]; simp [et'], ?_⟩
    rw [et'] at e3
    exact e3
  · have hm : (s.heap.objs.size == sysModules) = false := beq_eq_false_iff_ne.mpr (Nat.ne_of_gt I.big)
    have hlen : (mergeK [] kvs).length ≤ sizeLine := by
      refine Nat.le_trans (length_mergeK kvs []) ?_
      rw [List.length_nil, Nat.zero_add, rel.length, List.length_map, hl]
      exact hz
    exact ⟨.ref s.heap.objs.size, upd H s.heap.objs.size (.dK (mergeK [] kvs)), I.laid (t' := tk) (fun b o e => kk b o (by simp) e) (Nat.le_refl _) (show ObjOk X.prog X.w _ _ _ (.dK (mergeK [] kvs)) from ⟨hlen, hm, _, KV.merge rel .nil, hd'⟩), rfl, q _ (I.hok.fresh (Nat.le_refl _))⟩
theorem pairKV_ok {K : PySem.W.Frag} {H : Hp} {ρ : List Addr} : ∀ {ds : List D} {kvs : List (Key × D)} {vs : List V}, mapO pairKV ds = some kvs → RepL K H ρ ds vs →
    ∃ (ps : List Addr) (ws : List (Key × V)), vs = ps.map V.ref ∧ Paired (fun p kv => SqT K H p [kV kv.1, kv.2]) ps ws ∧ ws.map (·.1) = kvs.map (·.1) ∧ RepL K H ρ (kvs.map (·.2)) (ws.map (·.2))
  | [], kvs, vs, e, r => by cases e; cases r; exact ⟨[], [], rfl, .nil, rfl, rfl⟩
  | d :: ds, kvs, vs, e, r => by
    obtain ⟨v, vr, rfl, r1, r2⟩ := r
    unfold mapO at e
    split at e
    · rename_i b hb
      split at e
      · rename_i br hbr
        cases e
        obtain ⟨ps, ws, rfl, h1, h2, h3⟩ := pairKV_ok hbr r2
        unfold pairKV at hb
        split at hb
        · rename_i kk vv
          obtain ⟨key, hk, rfl⟩ := Option.map_eq_some_iff.mp hb
          obtain ⟨a, ys, rfl, ha, rr⟩ := r1
          obtain ⟨y1, y2, rfl, ry1, ry2⟩ := repL2 rr
          have := keyOf_ok hk ry1
          subst this
          refine ⟨a :: ps, (key, y2) :: ws, rfl, .cons ha.sq h1, by simp [h2], y2, ws.map (·.2), rfl, ry2, h3⟩
        · cases hb
      · cases e
    · cases e
theorem putK_ok {K : PySem.W.Frag} {H : Hp} {ρ : List Addr} {κ : Type} [DecidableEq κ] {k : κ} {d : D} {v : V} (rd : Rep K H ρ d v) {kvs : List (κ × D)} {ws : List (κ × V)} (h1 : ws.map (·.1) = kvs.map (·.1)) (h2 : RepL K H ρ (kvs.map (·.2)) (ws.map (·.2))) :
    (putK ws k v).map (·.1) = (putG kvs k d).map (·.1) ∧ RepL K H ρ ((putG kvs k d).map (·.2)) ((putK ws k v).map (·.2)) := by
  have anyEq : (ws.any fun kv => decide (kv.1 = k)) = (kvs.any fun kv => decide (kv.1 = k)) := by
    have e1 : (ws.any fun kv => decide (kv.1 = k)) = (ws.map (·.1)).any fun x => decide (x = k) := by rw [List.any_map]; rfl
    have e2 : (kvs.any fun kv => decide (kv.1 = k)) = (kvs.map (·.1)).any fun x => decide (x = k) := by rw [List.any_map]; rfl
    rw [e1, e2, h1]
  unfold putK putG
  rw [anyEq]
  split
  · constructor
    · have f1 : ∀ l : List (κ × V), (l.map (fun kv => if kv.1 = k then (kv.1, v) else kv)).map (·.1) = l.map (·.1) := fun l => by
        rw [List.map_map]; apply List.map_congr_left; intro x _; simp only [Function.comp]; split <;> rfl
      have f2 : ∀ l : List (κ × D), (l.map (fun kv => if kv.1 = k then (kv.1, d) else kv)).map (·.1) = l.map (·.1) := fun l => by
        rw [List.map_map]; apply List.map_congr_left; intro x _; simp only [Function.comp]; split <;> rfl
      rw [f1, f2, h1]
    · rename_i hany
      clear anyEq hany
      induction kvs generalizing ws with
      | nil =>
        have : ws = [] := by simpa using h1
        subst this; rfl
      | cons p r ih =>
        cases ws with
        | nil => simp at h1
        | cons w ws =>
          simp only [List.map_cons, List.cons.injEq] at h1
          obtain ⟨y, yr, ey, r1, r2⟩ := h2
          simp only [List.map_cons, List.cons.injEq] at ey
          obtain ⟨ey1, ey2⟩ := ey
          subst ey1 ey2
          have hh2 := ih h1.2 r2
          simp only [List.map_cons]
          rw [h1.1]
          split
          · exact ⟨v, _, rfl, rd, hh2⟩
          · exact ⟨w.2, _, rfl, r1, hh2⟩
  · simp only [List.map_append, List.map_cons, List.map_nil]
    exact ⟨by rw [h1], h2.append ⟨v, [], rfl, rd, rfl⟩⟩
theorem mergeK_ok {K : PySem.W.Frag} {H : Hp} {ρ : List Addr} : ∀ {more : List (Key × D)} {mw : List (Key × V)} {kvs : List (Key × D)} {ws : List (Key × V)}, mw.map (·.1) = more.map (·.1) → RepL K H ρ (more.map (·.2)) (mw.map (·.2)) →
    ws.map (·.1) = kvs.map (·.1) → RepL K H ρ (kvs.map (·.2)) (ws.map (·.2)) →
    (mergeK ws mw).map (·.1) = (more.foldl (fun acc p => putG acc p.1 p.2) kvs).map (·.1) ∧ RepL K H ρ ((more.foldl (fun acc p => putG acc p.1 p.2) kvs).map (·.2)) ((mergeK ws mw).map (·.2))
  | [], mw, kvs, ws, e, _, h1, h2 => by
    have : mw = [] := by simpa using e
    subst this; exact ⟨h1, h2⟩
  | p :: more, mw, kvs, ws, e, r, h1, h2 => by
    cases mw with
    | nil => simp at e
    | cons w mw =>
      simp only [List.map_cons, List.cons.injEq] at e
      obtain ⟨y, yr, ey, r1, r2⟩ := r
      simp only [List.map_cons, List.cons.injEq] at ey
      obtain ⟨ey1, ey2⟩ := ey
      subst ey1 ey2
      have := putK_ok (k := p.1) r1 h1 h2
      have eq : mergeK ws (w :: mw) = mergeK (putK ws p.1 w.2) mw := by rw [← e.1]; rfl
      rw [eq]
      exact mergeK_ok (more := more) (kvs := putG kvs p.1 p.2) e.2 r2 this.1 this.2
theorem dict_D (hc : X.calm = true) : CallR X (.type "dict") (liftN X.K (biD .dict)) := by
  intro pins s σ H xs us Q I r ⟨ρ, S, ds, d, S', hp, rs, e, k⟩
  unfold biD at e
  split at e <;> first | contradiction | skip
  rename_i a _
  obtain ⟨v, rfl, ra⟩ := repL1 rs
  split at e
  · rename_i es h1
    obtain ⟨kvs, e1, e2⟩ := Option.map_eq_some_iff.mp e
    injection e2 with e3 e4
    subst e3 e4
    have fin : ∀ {ws : List (Key × V)}, ws.map (·.1) = kvs.map (·.1) → RepL X.K H ρ (kvs.map (·.2)) (ws.map (·.2)) → ∀ p, H p = none → Q (.ref p) (upd H p (.dK (mergeK [] ws))) := fun {ws} g1 g2 p hn => by
      obtain ⟨m1, m2⟩ := mergeK_ok (kvs := []) (ws := []) g1 g2 rfl rfl
      exact k _ _ (ρ ++ [p]) (Ext.newL hp hn) (hp.newL hn ⟨_, upd_same, m1, (Ext.newL hp hn).repL hp _ _ m2⟩) hp.newLoc
    cases a with
    | tup q =>
      cases h1
      obtain ⟨b, vs, rfl, ha, rr⟩ := ra
      obtain ⟨ps, ws, rfl, g0, g1, g2⟩ := pairKV_ok e1 rr
      exact call_dictT hc pins s σ H _ us Q I r ⟨b, ps, ws, rfl, ha, g0, fin g1 g2⟩
    | ro q =>
      cases h1
      obtain ⟨b, vs, rfl, ha, rr⟩ := ra
      obtain ⟨ps, ws, rfl, g0, g1, g2⟩ := pairKV_ok e1 rr
      exact call_dictP hc pins s σ H _ us Q I r ⟨b, ps, ws, rfl, ha.sq, g0, fin g1 g2⟩
    | loc m =>
      unfold seqOf at h1
      dsimp only at h1
      split at h1
      · rename_i q hS
        cases h1
        obtain ⟨b, vs, rfl, _, ha, rr⟩ := lst_at hp hS ra
        obtain ⟨ps, ws, rfl, g0, g1, g2⟩ := pairKV_ok e1 rr
        exact call_dictP hc pins s σ H _ us Q I r ⟨b, ps, ws, rfl, .of ha, g0, fin g1 g2⟩
      · cases h1
    | _ => cases h1
  · cases e
/-! ### max, min with a default -/
theorem alike_ints (ns : List Int) : PySem.W.AlikeAll (ns.map .int) := by
  refine ⟨fun x hx y hy => ?_, fun x hx => ?_⟩
  · obtain ⟨i, _, rfl⟩ := List.mem_map.mp hx
    obtain ⟨j, _, rfl⟩ := List.mem_map.mp hy
    simp [PySem.W.alike]
  · obtain ⟨i, _, rfl⟩ := List.mem_map.mp hx
    intro z; cases z
theorem depth_ints : ∀ ns : List Int, PyData.depthAll (ns.map .int) = 0
  | [] => by simp [PyData.depthAll]
  | n :: ns => by simp [PyData.depthAll, PyData.depth, depth_ints ns]
theorem dp_ints (K : PySem.W.Frag) (H : Hp) : ∀ ns : List Int, DpAll K H (ns.map V.int) (ns.map .int)
  | [] => .nil
  | n :: ns => .cons (.int n) (dp_ints K H ns)
theorem reads_int {h : Heap} {v : Value} {i : Int} {as : List Addr} (r : Reads h v (.int i) as) : ∃ t, v = .int i t := by
  cases r
  exact ⟨_, rfl⟩
def rMxd (K : PySem.W.Frag) (gr : Bool) : List V → List V → Hp → VK → Prop := fun xs zs H Q => ∃ (a : Addr) (ns : List Int) (z : V), xs = [.ref a] ∧ zs = [z] ∧ (SqL K H a (ns.map V.int) ∨ SqT K H a (ns.map V.int)) ∧
  (ns = [] → Q z H) ∧ ∀ i r, ns = i :: r → Q (.int (if gr then greatest i r else least i r)) H
theorem call_mxd (hc : X.calm = true) (hu : X.A.units + 65 < cLine) (gr : Bool) : CallRK X (.builtin (if gr then "max" else "min")) [Str.ofString "default"] (rMxd X.K gr) := by
  intro pins s σ H xs zs us ws Q I rx rz ⟨a, ns, z, e1, e2, hq, q0, q1⟩
  subst e1 e2
  obtain ⟨u, rfl, ru⟩ := vals1 rx
  obtain ⟨w, rfl, rw'⟩ := vals1 rz
  cases ru
  have hd : X.A.units + 1 + PyData.depthAll (ns.map .int) < cLine := by rw [depth_ints]; omega
  have h0 : (ns.map PyData.int) = [] → ∀ h' tk, (∀ b o, s.heap.get? b = some o → h'.get? b = some o) → EP X pins σ Q w { s with heap := h', toks := tk } := fun hn h' tk kp => ⟨z, H, I.kept kp, rw', q0 (by simpa using hn)⟩
  have fin : ∀ {best : PyData → List PyData → PyData}, (∀ i r, best (.int i) (r.map .int) = .int (if gr then greatest i r else least i r)) → ∀ {vs : Array Value} (y : PyData) (ys : List PyData) (i : Nat) (v : Value) (h' : Heap) (tk : Nat) (bs : List Addr), ns.map .int = y :: ys → vs[i]? = some v → Reads h' v (best y ys) bs →
      (∀ b o, s.heap.get? b = some o → h'.get? b = some o) → EP X pins σ Q v { s with heap := h', toks := tk } := fun {best} hb {vs} y ys i v h' tk bs e _ r kp => by
    cases ns with
    | nil => cases e
    | cons n r' =>
      simp only [List.map_cons, List.cons.injEq] at e
      obtain ⟨e1, e2⟩ := e
      subst e1 e2
      rw [hb] at r
      obtain ⟨t, rfl⟩ := reads_int r
      exact ⟨.int _, H, I.kept kp, ⟨t, rfl⟩, q1 n r' rfl⟩
  have bmax : gr = true → ∀ i r, PySem.W.maxD (.int i) (r.map .int) = .int (if gr then greatest i r else least i r) := fun h i r => by rw [h]; exact PySem.W.maxD_ints i r
  have bmin : gr = false → ∀ i r, PySem.W.minD (.int i) (r.map .int) = .int (if gr then greatest i r else least i r) := fun h i r => by rw [h]; exact PySem.W.minD_ints i r
  rcases hq with hq | hq
  · obtain ⟨its, rv, pl, hz⟩ := I.list hq
    obtain ⟨as, ra⟩ := Dp.readsAll I (ns.map .int) _ its (dp_ints X.K H ns) rv
    cases gr with
    | true => exact PySem.W.max_list_default (I.ok.hd hc) pl.isList (by simpa using ra) (alike_ints ns) hd h0 (fin (bmax rfl))
    | false => exact PySem.W.min_list_default (I.ok.hd hc) pl.isList (by simpa using ra) (alike_ints ns) hd h0 (fin (bmin rfl))
  · obtain ⟨its, rv, pl, hz⟩ := I.tuple hq
    obtain ⟨as, ra⟩ := Dp.readsAll I (ns.map .int) _ its (dp_ints X.K H ns) rv
    cases gr with
    | true => exact PySem.W.max_tuple_default (I.ok.hd hc) (show s.heap.IsTuple a its.toArray from pl) (by simpa using ra) (alike_ints ns) hd h0 (fin (bmax rfl))
    | false => exact PySem.W.min_tuple_default (I.ok.hd hc) (show s.heap.IsTuple a its.toArray from pl) (by simpa using ra) (alike_ints ns) hd h0 (fin (bmin rfl))
theorem boot_mxd (gr : Bool) : bootBuiltins (Str.ofString (if gr then "max" else "min")) = some (.builtin (if gr then "max" else "min")) := by
  cases gr with
  | true => exact PyProof.Rows.boot_max
  | false => exact PyProof.Rows.boot_min
theorem r_mxd {a b : Expr} {fa fb : StD → Store → Option (D × Store)} {q kp p : Pos} (hc : X.calm = true) (hu : X.A.units + 65 < cLine) (gr : Bool) (hg : Gl X (Str.ofString (if gr then "max" else "min"))) (hm : X.mg (Str.ofString (if gr then "max" else "min")) = none)
    (ha : PE X a (tD X.K fa)) (hb : PE X b (tD X.K fb)) (hs : starEach [a] X.env = [(false, eval a X.env)]) :
    PE X (.Call (.Name (Str.ofString (if gr then "max" else "min")) q) [a] [⟨some kwDefault, b, kp⟩] p) (tD X.K fun σ S => bnd (fa σ S) fun x S1 => bnd (fb σ S1) fun y S2 => bnd (opt (maxD gr x y S2) S2) fun z S3 => some (gc S z S3)) := by
  have base : PE X (.Call (.Name (Str.ofString (if gr then "max" else "min")) q) [a] [⟨some kwDefault, b, kp⟩] p) (tCKw (rMxd X.K gr) (tCons (tD X.K fa) tNil) (tCons (tD X.K fb) tNil)) :=
    pe_callBK (call_mxd hc hu gr) hg hm (boot_mxd gr) (pa_cons ha pa_nil hs) (pk_cons hb pk_nil) (by cases gr <;> decide) (by cases gr <;> decide) (by rw [hs]; rfl) (by rw [hs]; rfl) rfl rfl rfl
  have base2 : PE X (.Call (.Name (Str.ofString (if gr then "max" else "min")) q) [a] [⟨some kwDefault, b, kp⟩] p) (tD X.K fun σ S => bnd (fa σ S) fun x S1 => bnd (fb σ S1) fun y S2 => opt (maxD gr x y S2) S2) := by
    refine base.imp fun σ H Q ⟨ρ, σD, S, d, S', cc, e, k⟩ => ?_
    obtain ⟨x, S1, e1, e2⟩ := bnd_eq e
    obtain ⟨y, S2, e3, e4⟩ := bnd_eq e2
    obtain ⟨e5, e6⟩ := opt_eq e4
    subst S'
    refine ⟨ρ, σD, S, x, S1, cc, e1, fun v H1 ρ1 x1 h1 r1 => ⟨ρ1, σD, S1, y, S2, cc.ext x1 h1, e3, fun w H2 ρ2 x2 h2 r2 => ?_⟩⟩
    unfold maxD at e5
    split at e5
    · rename_i ds hds
      obtain ⟨b', vs, rfl, hq, rr⟩ := seq_at h2 hds (x2.rep h1 _ _ r1)
      split at e5
      · rename_i i r hi
        cases e5
        rw [intsOf_ok hi rr] at hq
        refine ⟨b', i :: r, w, rfl, rfl, hq, (by intro z; cases z), fun i' r' he => ?_⟩
        injection he with he1 he2
        subst he1 he2
        exact k _ H2 ρ2 (x1.trans x2) h2 rfl
      · rename_i hi
        cases e5
        rw [intsOf_ok hi rr] at hq
        exact ⟨b', [], w, rfl, rfl, hq, fun _ => k _ H2 ρ2 (x1.trans x2) h2 r2, (by intro i' r' he; cases he)⟩
      · cases e5
    · cases e5
  refine (pe_gc base2).imp fun σ H Q ⟨ρ, σD, S, d, S', cc, e, k⟩ => ⟨ρ, σD, S, d, S', cc, ?_, k⟩
  obtain ⟨x, S1, e1, e2⟩ := bnd_eq e
  obtain ⟨y, S2, e3, e4⟩ := bnd_eq e2
  simp only [e1, e3, bnd_some]
  exact e4
/-! ### isinstance -/
theorem ty_at {K : PySem.W.Frag} {H : Hp} {ρ : List Addr} {S : Store} (hp : HRep K H ρ S) {d : D} {v : V} {n : String} (e : tyD S d = some n) (r : Rep K H ρ d v) : TyX K H v (.type n) := by
  cases d with
  | non => cases e; cases r; exact .base .non
  | bl b => cases e; cases r; exact .base (.bl b)
  | int b => cases e; cases r; exact .base (.int b)
  | str b => cases e; cases r; exact .base (.str b)
  | tup ds =>
    cases e
    obtain ⟨a, vs, rfl, ha, _⟩ := r
    rcases ha with ⟨o, ho, _⟩ | ⟨o, its, n, hk, hc, _⟩
    · exact .fTuple ho
    · exact .kTuple hk hc
  | ro ds =>
    cases e
    obtain ⟨a, vs, rfl, ha, _⟩ := r
    rcases ha with ⟨o, ho⟩ | ⟨o, its, n, hk, hc, _⟩
    · exact .base (.frz ho)
    · exact .kList hk hc
  | loc m =>
    unfold tyD at e
    dsimp only at e
    split at e
    · rename_i ds hS
      cases e
      obtain ⟨a, vs, rfl, _, ha, _⟩ := lst_at hp hS r
      exact .base (.lst ha)
    · rename_i ds hS
      cases e
      obtain ⟨a, vs, rfl, _, ha, _⟩ := dic_at hp hS r
      exact .base (.dK ha)
    · rename_i ds hS
      cases e
      obtain ⟨a, ev, ea⟩ := r
      obtain ⟨vs, h1, _⟩ := hp.ob m _ a hS ea
      subst ev
      exact .base (.dT h1)
    · cases e
def tys : List String := ["NoneType", "bool", "int", "str", "tuple", "list", "dict"]
theorem ty_mem {S : Store} {d : D} {n : String} (e : tyD S d = some n) : n ∈ tys := by
  cases d with
  | loc m =>
    unfold tyD at e
    dsimp only at e
    split at e <;> first | (cases e; decide) | cases e
  | _ => cases e; decide
theorem kit1 (K : PySem.W.Frag) {n : String} (h : n ∈ tys) (t : Ty) : PySem.W.kitOne K (.type n) (.type t.name) = some (isaD n t) := by
  have all : ∀ m ∈ tys, ∀ t : Ty, PySem.W.kitOne K (.type m) (.type t.name) = some (isaD m t) := by
    intro m hm t
    simp only [tys, List.mem_cons, List.mem_nil_iff, or_false] at hm
    rcases hm with rfl | rfl | rfl | rfl | rfl | rfl | rfl <;> cases t <;> rfl
  exact all n h t
theorem kit2 (K : PySem.W.Frag) {n : String} (h : n ∈ tys) : PySem.W.kitAny K (.type n) [.type "list", .type "tuple"] = some (isaD n .list || isaD n .tuple) := by
  simp only [tys, List.mem_cons, List.mem_nil_iff, or_false] at h
  rcases h with rfl | rfl | rfl | rfl | rfl | rfl | rfl <;> rfl
end
end Mi

end

section
/-! MiE: enumerate of a list or a tuple; what is walked. -/
namespace PySem
open Sem (wp)
theorem mi_enum_new1 {v : Value} {o : Obj} {H : Heap → Prop} (B : Begins v o H) :
    Meets (Builtin.«enumerate.__new__» ⟨[.type "enumerate", v], []⟩) (fun _ R s => H s.heap ∧
      R (.ok (.ret (.ref (s.heap.push o).objs.size))) { s with heap := (s.heap.push o).push { cls := .type "enumerate", data := .fields #[.none, .bool false, .ref s.heap.objs.size, rawInt 0, .none, .none] } }) :=
  .of_wp fun prog w A R s h => by
    obtain ⟨hp, g, d, tk, os⟩ := s; obtain ⟨h1, h⟩ := h
    have hsub := sub_enumerate
    have q1 : ∀ {A' : Around} {E : Value → Shared → Prop} {Q : Value → Shared → Prop}, Q (.ref hp.objs.size) ⟨hp.push o, g, d, tk, os⟩ → wpAny (model prog w) A' (pyIter v) Q E ⟨hp, g, d, tk, os⟩ :=
      fun q => B.iter prog w _ _ ⟨hp, g, d, tk, os⟩ _ h1 q
    wp_walk using q1
    refine wpAny_stack_any fun st => wpAny_pure ?_
    split
    · rename_i c _ _ _ _ _
      cases (c == Value.type "enumerate")
      · wp_walk using q1
        exact ⟨_, rfl, h⟩
      · wp_walk using q1
        exact ⟨_, rfl, h⟩
    · wp_walk using q1
      exact ⟨_, rfl, h⟩
theorem mi_call_enum {prog : Program} {w : World} {A : Around} {E : Value → Shared → Prop} {s : Shared} {v : Value} {o : Obj} {H : Heap → Prop} {Q : Value → Shared → Prop} (B : Begins v o H) (h1 : H s.heap)
    (h : ∀ h', IsEnum h' (s.heap.objs.size + 1) s.heap.objs.size 0 .none → h'.get? s.heap.objs.size = some o → h'.objs.size = s.heap.objs.size + 2 →
      (∀ b o, s.heap.get? b = some o → h'.get? b = some o) → Q (.ref (s.heap.objs.size + 1)) { s with heap := h' }) :
    wpAny (model prog w) A (call (.type "enumerate") [v]) Q E s := by
  refine callType_new F.called_enumerate (by decide) (F.typeCall_enumerate_1 _) (F.newCall_enumerate_1 _) (fun obj => F.args_object_init_2 obj _) F.entry_enumerate_new
    (mi_enum_new1 B) ⟨h1, ?_⟩
  have hz : (s.heap.push o).objs.size = s.heap.objs.size + 1 := Heap.size_push ..
  show _ ∧ _
  rw [hz]
  have he : IsEnum ((s.heap.push o).push { cls := .type "enumerate", data := .fields #[.none, .bool false, .ref s.heap.objs.size, rawInt 0, .none, .none] }) (s.heap.objs.size + 1) s.heap.objs.size 0 .none := by
    have := Heap.get?_push_size (s.heap.push o) (o := { cls := .type "enumerate", data := .fields #[.none, .bool false, .ref s.heap.objs.size, rawInt 0, .none, .none] }) rfl
    rw [hz] at this; exact this
  exact ⟨⟨_, he, rfl⟩, h _ he (Heap.get?_push_of_some _ (Heap.get?_push_size _ B.free)) (by rw [Heap.size_push, hz]) fun b o x => Heap.get?_push_of_some _ (Heap.get?_push_of_some _ x)⟩
end PySem
namespace Mi
open PySem PySem.Spec L2
/-- each item in a new pair -/
def ItE (SQ : Hp → List V → Prop) : It :=
  ⟨fun i H => ∃ (xs : List V) (x : V), SQ H xs ∧ xs[i]? = some x,
   fun i H v H' => ∃ T o x, v = .ref T ∧ H T = none ∧ o.dict = none ∧ H' = upd H T (.frz o (.tup [.int (i : Nat), x])) ∧ ∀ xs, SQ H xs → xs[i]? = some x,
   fun i H => ∃ xs : List V, SQ H xs ∧ xs.length = i⟩
theorem pairF {X : Cx} {pins : List (Addr × Obj)} {σ : L2.St} {H : Hp} {s : Shared} {h'' : Heap} {ch : List Addr} {i : Nat} {x : V} {u : Value} {tk tk' : Nat} (I : L2.Inv X pins σ H s) (hf : ∀ b ∈ ch, FpOk X pins H b) (ru : RelV x u)
    (k : ∀ b o, b ∉ ch → s.heap.get? b = some o → h''.get? b = some o) (hT : h''.get? s.heap.objs.size = some { cls := .type "tuple", data := .seq #[.int i tk, u] }) :
    L2.Inv X pins σ (upd H s.heap.objs.size (.frz { cls := .type "tuple", data := .seq #[.int i tk, u] } (.tup [.int (i : Nat), x]))) { s with heap := h'', toks := tk' } :=
  I.turnedNew (ch := ch) k hf (Nat.le_refl _) ⟨hT, by show 2 ≤ sizeLine; decide, [.int i tk, u], .cons ⟨_, rfl⟩ (.cons ru .nil), ⟨_, hT, rfl, _, rfl⟩⟩
theorem turn_enumL {P : Program} {w : World} {K : PySem.W.Frag} {elts : List Expr} {kk : Nat} {tpos : Pos} (a e it : Addr) :
    Turn P w K (.Tuple elts kk tpos) (ItE fun H xs => SqL K H a xs) [e, it] e (fun i h => (∃ old, IsEnum h e it ((i : Nat) : Int) old) ∧ h.IsListIter it a i ∧ e ≠ it) where
  mem := by simp
  obj := fun i h st b hb => by
    obtain ⟨⟨old, he⟩, ⟨o, ho, hc, hd⟩, _⟩ := st
    have e' : b = e ∨ b = it := by simpa using hb
    rcases e' with z | z
    · rw [z]; exact ⟨_, he, fun v q => nomatch q⟩
    · rw [z]; exact ⟨o, ho, fun v q => by rw [hd] at q; cases q⟩
  keep := fun i h h' st k => let ⟨⟨old, he⟩, hi, hne⟩ := st; ⟨⟨old, k e (by simp) _ he⟩, hi.at fun o q => k it (by simp) o q, hne⟩
  item := by
    intro X hP hw hK hc i pins s σ H E I hf st hg
    subst hP hw hK
    obtain ⟨⟨old, he⟩, hit, hne⟩ := st
    obtain ⟨xs, x, hq, hx⟩ := hg
    obtain ⟨its, rv, p, hz⟩ := I.list hq
    obtain ⟨u, hu, ru⟩ := rv.get hx
    have hel : e < s.heap.objs.size := Heap.lt_size he
    have hil : it < s.heap.objs.size := by obtain ⟨_, q, _⟩ := hit; exact Heap.lt_size q
    refine wpAny_pyNext_enum_item he hit p.isList (x := u) (by simpa using hu) hne fun h' ho hit' hT hsz hk => ?_
    refine ⟨_, rfl, wpAny_letOwnedTupleGo_enum (s := { s with heap := h', toks := s.toks + 1 }) ho fun h'' he' sb => ?_⟩
    have hT2 : h''.get? s.heap.objs.size = some { cls := .type "tuple", data := .seq #[.int i s.toks, u] } := (sb.2 _ (Nat.ne_of_gt hel)).trans hT
    have I1 := pairF (tk' := s.toks + 1) (ch := [e, it]) I hf ru (fun b ob hb q => (sb.2 b (fun z => hb (by simp [z]))).trans (hk b ob (fun z => hb (by simp [z])) (fun z => hb (by simp [z])) q)) hT2
    refine ⟨.ref s.heap.objs.size, _, I1, rfl, ⟨_, _, x, rfl, I.hok.fresh (Nat.le_refl _), rfl, rfl, fun ys hy => by rw [I.list_inj hy hq]; exact hx⟩, ⟨⟨u, ?_⟩, hit'.at fun o q => (sb.2 it (Ne.symm hne)).trans q, hne⟩, fun b hb => ?_⟩
    · have e1 : ((i + 1 : Nat) : Int) = (i : Int) + 1 := by omega
      rw [e1]; exact he'
    · have hb' : b < s.heap.objs.size := by
        have e' : b = e ∨ b = it := by simpa using hb
        rcases e' with z | z
        · rw [z]; exact hel
        · rw [z]; exact hil
      rw [upd_ne (Nat.ne_of_lt hb')]
      exact (hf b hb).1
  done := by
    intro X hP hw hK hc i pins s σ H E I hf st hg
    subst hP hw hK
    obtain ⟨⟨old, he⟩, hit, hne⟩ := st
    obtain ⟨xs, hq, hx⟩ := hg
    obtain ⟨its, rv, p, hz⟩ := I.list hq
    obtain ⟨f0, f1, f2, f3, f4, f5⟩ := hf it (by simp)
    have hl := rv.length
    exact wpAny_pyNext_enum_end (I.ok.hd hc) he hit p.isList (by simp; omega) fun h' eb => ⟨rfl, I.turned (t' := s.toks) (fun b o hb q => eb b o hb q) f0 f1 f3 f4 f5⟩
  self := fun A i s Q E st h => let ⟨⟨_, he⟩, _⟩ := st; wpAny_pyIter_enum he h
theorem turn_enumT {P : Program} {w : World} {K : PySem.W.Frag} {elts : List Expr} {kk : Nat} {tpos : Pos} (a e it : Addr) :
    Turn P w K (.Tuple elts kk tpos) (ItE fun H xs => SqT K H a xs) [e, it] e (fun i h => (∃ old, IsEnum h e it ((i : Nat) : Int) old) ∧ h.IsTupleIter it a i ∧ e ≠ it) where
  mem := by simp
  obj := fun i h st b hb => by
    obtain ⟨⟨old, he⟩, ⟨o, ho, hc, hd⟩, _⟩ := st
    have e' : b = e ∨ b = it := by simpa using hb
    rcases e' with z | z
    · rw [z]; exact ⟨_, he, fun v q => nomatch q⟩
    · rw [z]; exact ⟨o, ho, fun v q => by rw [hd] at q; cases q⟩
  keep := fun i h h' st k => let ⟨⟨old, he⟩, hi, hne⟩ := st; ⟨⟨old, k e (by simp) _ he⟩, hi.at fun o q => k it (by simp) o q, hne⟩
  item := by
    intro X hP hw hK hc i pins s σ H E I hf st hg
    subst hP hw hK
    obtain ⟨⟨old, he⟩, hit, hne⟩ := st
    obtain ⟨xs, x, hq, hx⟩ := hg
    obtain ⟨its, rv, p, hz⟩ := I.tuple hq
    obtain ⟨u, hu, ru⟩ := rv.get hx
    have hel : e < s.heap.objs.size := Heap.lt_size he
    have hil : it < s.heap.objs.size := by obtain ⟨_, q, _⟩ := hit; exact Heap.lt_size q
    have nia : it ≠ a := fun z => by
      obtain ⟨o1, g1, c1, d1⟩ := hit
      obtain ⟨o2, g2, c2, n2, d2⟩ := p
      rw [z, g2] at g1; cases g1
      rw [d2] at d1; cases d1
    have nea : e ≠ a := fun z => by
      obtain ⟨o2, g2, c2, n2, d2⟩ := p
      have he2 := he
      unfold IsEnum at he2
      rw [z, g2] at he2
      cases he2
      cases d2
    have D := Draws.tuple (prog := X.prog) (w := X.w) (A := X.A.in1) (I.ok.hd hc) it a (Ne.symm nia) its.toArray
    have hlt : i < its.toArray.size := by
      have := (List.getElem?_eq_some_iff.mp hu).1
      simpa using this
    refine wpAny_pyNext_enum_itemD D he ⟨hit, p⟩ hlt hne (by simp [hne, nea]) fun y h' tk hy ho hst hT hsz hk => ?_
    have ey : y = u := by
      have h1 : its.toArray[i]? = some u := by simpa using hu
      rw [h1] at hy
      exact (Option.some.inj hy).symm
    subst ey
    refine ⟨_, rfl, wpAny_letOwnedTupleGo_enum (s := { s with heap := h', toks := tk + 1 }) ho fun h'' he' sb => ?_⟩
    have hT2 : h''.get? s.heap.objs.size = some { cls := .type "tuple", data := .seq #[.int i tk, y] } := (sb.2 _ (Nat.ne_of_gt hel)).trans hT
    have I1 := pairF (tk' := tk + 1) (ch := [e, it]) I hf ru (fun b ob hb q => (sb.2 b (fun z => hb (by simp [z]))).trans (hk b ob (fun z => hb (by simp [z])) (fun z => hb (by simp [z])) q)) hT2
    refine ⟨.ref s.heap.objs.size, _, I1, rfl, ⟨_, _, x, rfl, I.hok.fresh (Nat.le_refl _), rfl, rfl, fun ys hy => by rw [I.tuple_inj hy hq]; exact hx⟩, ⟨⟨y, ?_⟩, hst.1.at fun o q => (sb.2 it (Ne.symm hne)).trans q, hne⟩, fun b hb => ?_⟩
    · have e1 : ((i + 1 : Nat) : Int) = (i : Int) + 1 := by omega
      rw [e1]; exact he'
    · have hb' : b < s.heap.objs.size := by
        have e' : b = e ∨ b = it := by simpa using hb
        rcases e' with z | z
        · rw [z]; exact hel
        · rw [z]; exact hil
      rw [upd_ne (Nat.ne_of_lt hb')]
      exact (hf b hb).1
  done := by
    intro X hP hw hK hc i pins s σ H E I hf st hg
    subst hP hw hK
    obtain ⟨⟨old, he⟩, hit, hne⟩ := st
    obtain ⟨xs, hq, hx⟩ := hg
    obtain ⟨its, rv, p, hz⟩ := I.tuple hq
    obtain ⟨f0, f1, f2, f3, f4, f5⟩ := hf it (by simp)
    have hl := rv.length
    have nia : it ≠ a := fun z => by
      obtain ⟨o1, g1, c1, d1⟩ := hit
      obtain ⟨o2, g2, c2, n2, d2⟩ := p
      rw [z, g2] at g1; cases g1
      rw [d2] at d1; cases d1
    have D := Draws.tuple (prog := X.prog) (w := X.w) (A := X.A.in1) (I.ok.hd hc) it a (Ne.symm nia) its.toArray
    have en : i = its.toArray.size := by simp; omega
    exact wpAny_pyNext_enum_endD D he (by rw [← en]; exact ⟨hit, p⟩) fun h' eb => ⟨rfl, I.turned (t' := s.toks) (fun b o hb q => eb b o hb q) f0 f1 f3 f4 f5⟩
  self := fun A i s Q E st h => let ⟨⟨_, he⟩, _⟩ := st; wpAny_pyIter_enum he h
section
variable {X : Cx}
def iEnumF (K : PySem.W.Frag) (ta : TA) : TI := fun σ H R => ta σ H fun vs H1 => ∃ a xs, vs = [.ref a] ∧ ((SqL K H1 a xs ∧ R (ItE fun H xs => SqL K H a xs) H1) ∨ (SqT K H1 a xs ∧ R (ItE fun H xs => SqT K H a xs) H1))
theorem pi_enumF {e : Expr} {ta : TA} {p pos tpos : Pos} {elts : List Expr} {kk : Nat} (hg : Gl X "enumerate") (hm : X.mg "enumerate" = none) (ha : PA X [e] ta) (hs : starEach [e] X.env = [(false, eval e X.env)]) :
    PI X (.Tuple elts kk tpos) (.Call (.Name "enumerate" p) [e] [] pos) (iEnumF X.K ta) := by
  refine ⟨fun pins s σ H R I h => ?_⟩
  refine PyProof.Rows.Call_ (ld_blt I hg hm PyProof.Rows.boot_enumerate (PyProof.Rows.callWith_type1 (thn (ha.run pos pins s σ H _ I h) fun us s1 ⟨vs, H1, I1, r1, q1⟩ => ?_) hs rfl))
  obtain ⟨a, xs, ex, q⟩ := q1
  subst ex
  obtain ⟨u, rfl, ru⟩ := vals1 r1
  cases ru
  have fp : ∀ b ∈ [s1.heap.objs.size + 1, s1.heap.objs.size], FpOk X pins H1 b := fun b hb => by
    have e' : b = s1.heap.objs.size + 1 ∨ b = s1.heap.objs.size := by simpa using hb
    have hle : s1.heap.objs.size ≤ b := by
      rcases e' with z | z
      · rw [z]; exact Nat.le_add_right _ _
      · rw [z]; exact Nat.le_refl _
    exact I1.fpOk hle (I1.hok.fresh hle)
  rcases q with ⟨hq, q⟩ | ⟨hq, q⟩
  · obtain ⟨its, rv, p', hz⟩ := I1.list hq
    refine call_enumerate_list p'.isList fun h' he hit hsz hk => wpAny_pyIter_enum he ?_
    have I2 : L2.Inv X pins σ H1 { s1 with heap := h' } := I1.kept (t' := s1.toks) hk
    exact ⟨s1.heap.objs.size + 1, [s1.heap.objs.size + 1, s1.heap.objs.size], _, _, H1, rfl, I2, turn_enumL a (s1.heap.objs.size + 1) s1.heap.objs.size, ⟨⟨.none, he⟩, hit, Nat.succ_ne_self _⟩, fp, q⟩
  · obtain ⟨its, rv, p', hz⟩ := I1.tuple hq
    refine mi_call_enum (begins_tuple a its.toArray) p' fun h' he hit hsz hk => wpAny_pyIter_enum he ?_
    have I2 : L2.Inv X pins σ H1 { s1 with heap := h' } := I1.kept (t' := s1.toks) hk
    exact ⟨s1.heap.objs.size + 1, [s1.heap.objs.size + 1, s1.heap.objs.size], _, _, H1, rfl, I2, turn_enumT a (s1.heap.objs.size + 1) s1.heap.objs.size, ⟨⟨.none, he⟩, ⟨_, hit, rfl, rfl⟩, Nat.succ_ne_self _⟩, fp, q⟩
theorem _root_.L2.PI.or {tg e : Expr} {w1 w2 : TI} (h1 : PI X tg e w1) (h2 : PI X tg e w2) : PI X tg e (fun σ H R => w1 σ H R ∨ w2 σ H R) := ⟨fun pins s σ H R I h => by
  rcases h with h | h
  · exact h1.run pins s σ H R I h
  · exact h2.run pins s σ H R I h⟩
theorem _root_.L2.PI.imp {tg e : Expr} {w w' : TI} (h : PI X tg e w) (i : ∀ σ H R, w' σ H R → w σ H R) : PI X tg e w' := ⟨fun pins s σ H R I q => h.run pins s σ H R I (i σ H R q)⟩

/-! ### what is walked, by data -/
structure ItOk (K : PySem.W.Frag) (J : It) (w : Wk) (H0 : Hp) (ρ0 : List Addr) : Prop where
  go : ∀ (i : Nat) (d : D) (H : Hp) (ρ : List Addr) (S : Store), Ext H0 ρ0 H ρ → HRep K H ρ S → w.ok S = true → w.items[i]? = some d → J.go i H ∧ ∀ x H', J.yld i H x H' → Ext H ρ H' ρ ∧ HRep K H' ρ S ∧ Rep K H' ρ d x
  stop : ∀ (i : Nat) (H : Hp) (ρ : List Addr) (S : Store), Ext H0 ρ0 H ρ → HRep K H ρ S → w.ok S = true → i = w.items.length → J.stop i H
def tI (K : PySem.W.Frag) (f : StD → Store → Option (Wk × Store)) : TI := fun σ H R => ∃ ρ σD S w S', Cor K H ρ σ σD S ∧ f σD S = some (w, S') ∧ ∀ J H' ρ', Ext H ρ H' ρ' → HRep K H' ρ' S' → ItOk K J w H' ρ' → R J H'
theorem rangeD_get : ∀ (n : Nat) (lo : Int) (i : Nat) (d : D), (rangeD lo n)[i]? = some d → i < n ∧ d = .int (lo + i)
  | 0, lo, i, d, h => by simp [rangeD] at h
  | n + 1, lo, 0, d, h => by
    have : D.int lo = d := Option.some.inj h
    exact ⟨Nat.succ_pos _, by rw [← this]; simp⟩
  | n + 1, lo, i + 1, d, h => by
    obtain ⟨h1, h2⟩ := rangeD_get n (lo + 1) i d h
    exact ⟨Nat.succ_lt_succ h1, by rw [h2]; congr 1; omega⟩
theorem rangeD_len : ∀ (n : Nat) (lo : Int), (rangeD lo n).length = n
  | 0, _ => rfl
  | n + 1, lo => by simp [rangeD, rangeD_len n]
theorem itr_ok (K : PySem.W.Frag) (lo : Int) (n : Nat) (H0 : Hp) (ρ0 : List Addr) : ItOk K (Itr lo n) ⟨rangeD lo n, fun _ => true⟩ H0 ρ0 where
  go := fun i d H ρ S x hp _ e => by
    obtain ⟨h1, h2⟩ := rangeD_get n lo i d e
    refine ⟨h1, fun y H' hy => ?_⟩
    obtain ⟨rfl, rfl⟩ := hy
    exact ⟨Ext.refl, hp, by rw [h2]; rfl⟩
  stop := fun i H ρ S x hp _ e => by
    show n ≤ i
    rw [e]; simp [rangeD_len]
/-- the sequence at a, at every turn -/
theorem seq_stays {K : PySem.W.Frag} {H0 H : Hp} {ρ0 ρ : List Addr} {S0 S : Store} {d : D} {ds : List D} {v : V} (hp0 : HRep K H0 ρ0 S0) (r0 : Rep K H0 ρ0 d v) (x : Ext H0 ρ0 H ρ) (hp : HRep K H ρ S) (ok : stays d ds S = true) (e0 : seqOf S0 d = some ds) :
    seqOf S d = some ds ∧ Rep K H ρ d v := by
  refine ⟨?_, x.rep hp0 _ _ r0⟩
  cases d with
  | loc m =>
    unfold stays at ok
    dsimp only at ok
    split at ok
    · rename_i es hS
      unfold seqOf
      dsimp only
      rw [hS, D.beqL_eq ok]
    · cases ok
  | _ => exact e0
theorem r_seq {tg e : Expr} {f : StD → Store → Option (D × Store)} (h : PE X e (tD X.K f)) : PI X tg e (tI X.K fun σ S => bnd (f σ S) fun d S1 => bnd (opt (seqOf S1 d) S1) fun ds S2 => some (⟨ds, stays d ds⟩, S2)) := by
  refine ((pi_list h).or (pi_tup h)).imp fun σ H R ⟨ρ, σD, S, w, S', cc, e, k⟩ => ?_
  obtain ⟨d, S1, e1, e2⟩ := bnd_eq e
  obtain ⟨ds, S2, e3, e4⟩ := bnd_eq e2
  obtain ⟨e5, e6⟩ := opt_eq e3
  subst S2
  obtain ⟨rfl, rfl⟩ := inj2 e4
  have lst : ∀ {H1 : Hp} {ρ1 : List Addr} {a : Addr}, HRep X.K H1 ρ1 S1 → Rep X.K H1 ρ1 d (.ref a) → (∀ ds', d ≠ .tup ds') → ItOk X.K (Itl X.K a) ⟨ds, stays d ds⟩ H1 ρ1 := fun {H1 ρ1 a} h1 r1 nt => by
    have at_ : ∀ (H2 : Hp) (ρ2 : List Addr) (S2 : Store), Ext H1 ρ1 H2 ρ2 → HRep X.K H2 ρ2 S2 → stays d ds S2 = true → ∃ vs, SqL X.K H2 a vs ∧ RepL X.K H2 ρ2 ds vs := fun H2 ρ2 S2 x2 h2 ok => by
      obtain ⟨s1, s2⟩ := seq_stays h1 r1 x2 h2 ok e5
      cases d with
      | tup q => exact absurd rfl (nt q)
      | ro q =>
        cases s1
        obtain ⟨b, vs, eb, hb, rr⟩ := s2
        cases eb
        exact ⟨vs, hb.sq, rr⟩
      | loc m =>
        unfold seqOf at s1
        dsimp only at s1
        split at s1
        · rename_i q hS
          cases s1
          obtain ⟨b, vs, eb, _, hb, rr⟩ := lst_at h2 hS s2
          cases eb
          exact ⟨vs, .of hb, rr⟩
        · cases s1
      | _ => cases s1
    refine ⟨fun i d' H2 ρ2 S2 x2 h2 ok e => ?_, fun i H2 ρ2 S2 x2 h2 ok e => ?_⟩
    · obtain ⟨vs, q1, q2⟩ := at_ H2 ρ2 S2 x2 h2 ok
      obtain ⟨v, g1, g2⟩ := q2.get e
      refine ⟨⟨vs, v, q1, g1⟩, fun y H' hy => ?_⟩
      obtain ⟨rfl, hy⟩ := hy
      have := hy vs q1
      rw [g1] at this
      cases this
      exact ⟨Ext.refl, h2, g2⟩
    · obtain ⟨vs, q1, q2⟩ := at_ H2 ρ2 S2 x2 h2 ok
      exact ⟨vs, q1, by rw [e, ← q2.length]; exact Nat.le_refl _⟩
  cases d with
  | tup q =>
    cases e5
    refine .inr ⟨ρ, σD, S, _, _, cc, e1, fun v H1 ρ1 x1 h1 r1 => ?_⟩
    obtain ⟨a, vs, rfl, ha, rr⟩ := id r1
    refine ⟨a, rfl, ⟨vs, ha.sq⟩, k _ H1 ρ1 x1 h1 ⟨fun i d' H2 ρ2 S2 x2 h2 ok e => ?_, fun i H2 ρ2 S2 x2 h2 ok e => ?_⟩⟩
    · have ha2 := ha.ext h1 x2
      have rr2 := x2.repL h1 _ _ rr
      obtain ⟨v, g1, g2⟩ := rr2.get e
      refine ⟨⟨vs, v, ha2.sq, g1⟩, fun y H' hy => ?_⟩
      obtain ⟨rfl, hy⟩ := hy
      have := hy vs ha2.sq
      rw [g1] at this
      cases this
      exact ⟨Ext.refl, h2, g2⟩
    · exact ⟨vs, (ha.ext h1 x2).sq, by rw [e, ← rr.length]; exact Nat.le_refl _⟩
  | ro q =>
    refine .inl ⟨ρ, σD, S, _, _, cc, e1, fun v H1 ρ1 x1 h1 r1 => ?_⟩
    obtain ⟨a, vs, rfl, ha, rr⟩ := id r1
    exact ⟨a, rfl, ⟨vs, ha.sq⟩, k _ H1 ρ1 x1 h1 (lst h1 r1 fun _ z => by cases z)⟩
  | loc m =>
    refine .inl ⟨ρ, σD, S, _, _, cc, e1, fun v H1 ρ1 x1 h1 r1 => ?_⟩
    obtain ⟨a, rfl, ea⟩ := id r1
    have sq : ∃ vs, SqL X.K H1 a vs := by
      unfold seqOf at e5
      dsimp only at e5
      split at e5
      · rename_i q hS
        obtain ⟨b, vs, eb, _, hb, rr⟩ := lst_at h1 hS r1
        cases eb
        exact ⟨vs, .of hb⟩
      · cases e5
    exact ⟨a, rfl, sq, k _ H1 ρ1 x1 h1 (lst h1 r1 fun _ z => by cases z)⟩
  | _ => cases e5
theorem r_rng1 {tg a : Expr} {fa : StD → Store → Option (D × Store)} {q p : Pos} (hg : Gl X "range") (hm : X.mg "range" = none) (ha : PE X a (tD X.K fa)) (hs : starEach [a] X.env = [(false, eval a X.env)]) :
    PI X tg (.Call (.Name "range" q) [a] [] p) (tI X.K fun σ S => bnd (bnd (fa σ S) intD) fun i S1 => opt (rngD 0 i) S1) := by
  refine (pi_range1 hg hm (pa_cons ha pa_nil hs) hs).imp fun σ H R ⟨ρ, σD, S, w, S', cc, e, k⟩ => ?_
  obtain ⟨i, S1, e1, e2⟩ := bnd_eq e
  obtain ⟨x, S2, e3, e4⟩ := bnd_eq e1
  obtain ⟨e5, e6⟩ := opt_eq e2
  subst S'
  cases x <;> first | (cases e4; done) | skip
  obtain ⟨rfl, rfl⟩ := inj2 e4
  unfold rngD at e5
  split at e5
  · rename_i hb
    cases e5
    refine ⟨ρ, σD, S, _, _, cc, e3, fun v H1 ρ1 x1 h1 r1 => ⟨_, by rw [show v = V.int _ from r1], hb.2.2.1, hb.2.2.2, ?_⟩⟩
    have := k (Itr 0 _) H1 ρ1 x1 h1 (itr_ok _ _ _ _ _)
    simpa using this
  · cases e5
theorem r_rng2 {tg a b : Expr} {fa fb : StD → Store → Option (D × Store)} {q p : Pos} (hg : Gl X "range") (hm : X.mg "range" = none) (ha : PE X a (tD X.K fa)) (hb : PE X b (tD X.K fb)) (hs : starEach [a, b] X.env = [(false, eval a X.env), (false, eval b X.env)]) (hs2 : starEach [b] X.env = [(false, eval b X.env)]) :
    PI X tg (.Call (.Name "range" q) [a, b] [] p) (tI X.K fun σ S => bnd (bnd (fa σ S) intD) fun i S1 => bnd (bnd (fb σ S1) intD) fun j S2 => opt (rngD i j) S2) := by
  refine (pi_range2 hg hm (pa_cons ha (pa_cons hb pa_nil hs2) (by rw [hs, hs2])) hs hs2).imp fun σ H R ⟨ρ, σD, S, w, S', cc, e, k⟩ => ?_
  obtain ⟨i, S1, e1, e2⟩ := bnd_eq e
  obtain ⟨x, S2, e3, e4⟩ := bnd_eq e1
  obtain ⟨j, S3, e5, e6⟩ := bnd_eq e2
  obtain ⟨y, S4, e7, e8⟩ := bnd_eq e5
  obtain ⟨e9, e10⟩ := opt_eq e6
  subst S'
  cases x <;> first | (cases e4; done) | skip
  obtain ⟨rfl, rfl⟩ := inj2 e4
  cases y <;> first | (cases e8; done) | skip
  obtain ⟨rfl, rfl⟩ := inj2 e8
  unfold rngD at e9
  split at e9
  · rename_i hb
    cases e9
    refine ⟨ρ, σD, S, _, _, cc, e3, fun v H1 ρ1 x1 h1 r1 => ⟨ρ1, σD, _, _, _, cc.ext x1 h1, e7, fun v2 H2 ρ2 x2 h2 r2 => ?_⟩⟩
    exact ⟨_, _, by rw [show v = V.int _ from r1, show v2 = V.int _ from r2], ⟨hb.1, hb.2.1, hb.2.2.1, hb.2.2.2⟩, k (Itr _ _) H2 ρ2 (x1.trans x2) h2 (itr_ok _ _ _ _ _)⟩
  · cases e9
theorem stepD_get : ∀ (n : Nat) (lo c : Int) (i : Nat) (d : D), (stepD lo c n)[i]? = some d → i < n ∧ d = .int (lo + i * c)
  | 0, lo, c, i, d, h => by simp [stepD] at h
  | n + 1, lo, c, 0, d, h => by
    have : D.int lo = d := Option.some.inj h
    exact ⟨Nat.succ_pos _, by rw [← this]; simp⟩
  | n + 1, lo, c, i + 1, d, h => by
    obtain ⟨h1, h2⟩ := stepD_get n (lo + c) c i d h
    refine ⟨Nat.succ_lt_succ h1, ?_⟩
    rw [h2]; congr 1
    have e : ((i + 1 : Nat) : Int) * c = (i : Int) * c + c := by rw [Int.natCast_add, Int.add_mul]; simp
    rw [e]; omega
theorem stepD_len : ∀ (n : Nat) (lo c : Int), (stepD lo c n).length = n
  | 0, _, _ => rfl
  | n + 1, lo, c => by simp [stepD, stepD_len n]
theorem itc_ok (K : PySem.W.Frag) (lo c : Int) (n : Nat) (H0 : Hp) (ρ0 : List Addr) : ItOk K (Itc lo c n) ⟨stepD lo c n, fun _ => true⟩ H0 ρ0 where
  go := fun i d H ρ S x hp _ e => by
    obtain ⟨h1, h2⟩ := stepD_get n lo c i d e
    refine ⟨h1, fun y H' hy => ?_⟩
    obtain ⟨rfl, rfl⟩ := hy
    exact ⟨Ext.refl, hp, by rw [h2]; rfl⟩
  stop := fun i H ρ S x hp _ e => by
    show n ≤ i
    rw [e]; simp [stepD_len]
theorem r_rng3 {tg a b c : Expr} {fa fb fc : StD → Store → Option (D × Store)} {q p : Pos} (hg : Gl X "range") (hm : X.mg "range" = none) (ha : PE X a (tD X.K fa)) (hb : PE X b (tD X.K fb)) (hcc : PE X c (tD X.K fc))
    (hs : ∀ r, starEach (a :: r) X.env = (false, eval a X.env) :: starEach r X.env) (hs2 : ∀ r, starEach (b :: r) X.env = (false, eval b X.env) :: starEach r X.env) (hs3 : ∀ r, starEach (c :: r) X.env = (false, eval c X.env) :: starEach r X.env) :
    PI X tg (.Call (.Name "range" q) [a, b, c] [] p) (tI X.K fun σ S => bnd (bnd (fa σ S) intD) fun i S1 => bnd (bnd (fb σ S1) intD) fun j S2 => bnd (bnd (fc σ S2) intD) fun k S3 => opt (rng3D i j k) S3) := by
  refine (pi_range3 hg hm (pa_cons ha (pa_cons hb (pa_cons hcc pa_nil (hs3 _)) (hs2 _)) (hs _)) (hs _) (by rw [hs2, hs3]; rfl)).imp fun σ H R ⟨ρ, σD, S, w, S', cc, e, k⟩ => ?_
  obtain ⟨i, S1, e1, e2⟩ := bnd_eq e
  obtain ⟨x, S2, e3, e4⟩ := bnd_eq e1
  obtain ⟨j, S3, e5, e6⟩ := bnd_eq e2
  obtain ⟨y, S4, e7, e8⟩ := bnd_eq e5
  obtain ⟨l, S5, e9, e10⟩ := bnd_eq e6
  obtain ⟨z, S6, e11, e12⟩ := bnd_eq e9
  obtain ⟨e13, e14⟩ := opt_eq e10
  subst S'
  cases x <;> first | (cases e4; done) | skip
  obtain ⟨rfl, rfl⟩ := inj2 e4
  cases y <;> first | (cases e8; done) | skip
  obtain ⟨rfl, rfl⟩ := inj2 e8
  cases z <;> first | (cases e12; done) | skip
  obtain ⟨rfl, rfl⟩ := inj2 e12
  unfold rng3D at e13
  split at e13
  · rename_i hb
    cases e13
    obtain ⟨rfl, b1, b2, b3, b4⟩ := hb
    refine ⟨ρ, σD, S, _, _, cc, e3, fun v H1 ρ1 x1 h1 r1 => ⟨ρ1, σD, _, _, _, cc.ext x1 h1, e7, fun v2 H2 ρ2 x2 h2 r2 => ⟨ρ2, σD, _, _, _, (cc.ext x1 h1).ext x2 h2, e11, fun v3 H3 ρ3 x3 h3 r3 => ?_⟩⟩⟩
    exact ⟨_, _, _, _, by rw [show v = V.int _ from r1, show v2 = V.int _ from r2, show v3 = V.int _ from r3], RgC.neg b1 b2 b3 b4, k (Itc _ _ _) H3 ρ3 ((x1.trans x2).trans x3) h3 (itc_ok _ _ _ _ _ _)⟩
  · cases e13
theorem enumD_get : ∀ (ds : List D) (j : Int) (i : Nat) (d : D), (enumD j ds)[i]? = some d → ∃ x, ds[i]? = some x ∧ d = .tup [.int (j + i), x]
  | [], j, i, d, h => by simp [enumD] at h
  | y :: r, j, 0, d, h => by
    have : D.tup [.int j, y] = d := Option.some.inj h
    exact ⟨y, rfl, by rw [← this]; simp⟩
  | y :: r, j, i + 1, d, h => by
    obtain ⟨x, h1, h2⟩ := enumD_get r (j + 1) i d h
    refine ⟨x, h1, ?_⟩
    rw [h2]
    have : j + 1 + (i : Int) = j + ((i + 1 : Nat) : Int) := by omega
    rw [this]
theorem enumD_len : ∀ (ds : List D) (j : Int), (enumD j ds).length = ds.length
  | [], _ => rfl
  | y :: r, j => by simp [enumD, enumD_len r]
theorem r_enm {a : Expr} {fa : StD → Store → Option (D × Store)} {q p tpos : Pos} {elts : List Expr} {kk : Nat} (hg : Gl X "enumerate") (hm : X.mg "enumerate" = none) (ha : PE X a (tD X.K fa)) (hs : starEach [a] X.env = [(false, eval a X.env)]) :
    PI X (.Tuple elts kk tpos) (.Call (.Name "enumerate" q) [a] [] p) (tI X.K fun σ S => bnd (fa σ S) fun d S1 => bnd (opt (seqOf S1 d) S1) fun ds S2 => some (⟨enumD 0 ds, stays d ds⟩, S2)) := by
  refine (pi_enumF hg hm (pa_cons ha pa_nil hs) hs).imp fun σ H R ⟨ρ, σD, S, w, S', cc, e, k⟩ => ?_
  obtain ⟨d, S1, e1, e2⟩ := bnd_eq e
  obtain ⟨ds, S2, e3, e4⟩ := bnd_eq e2
  obtain ⟨e5, e6⟩ := opt_eq e3
  subst S2
  obtain ⟨rfl, rfl⟩ := inj2 e4
  refine ⟨ρ, σD, S, _, _, cc, e1, fun v H1 ρ1 x1 h1 r1 => ?_⟩
  have mk : ∀ {a : Addr} {SQ : Hp → List V → Prop}, (∀ (H2 : Hp) (ρ2 : List Addr) (S2 : Store), Ext H1 ρ1 H2 ρ2 → HRep X.K H2 ρ2 S2 → stays d ds S2 = true → ∃ vs, SQ H2 vs ∧ RepL X.K H2 ρ2 ds vs) → ItOk X.K (ItE SQ) ⟨enumD 0 ds, stays d ds⟩ H1 ρ1 := fun {a SQ} at_ => by
    refine ⟨fun i d' H2 ρ2 S2 x2 h2 ok e => ?_, fun i H2 ρ2 S2 x2 h2 ok e => ?_⟩
    · obtain ⟨vs, q1, q2⟩ := at_ H2 ρ2 S2 x2 h2 ok
      obtain ⟨x, g0, rfl⟩ := enumD_get ds 0 i d' e
      obtain ⟨v, g1, g2⟩ := q2.get g0
      refine ⟨⟨vs, v, q1, g1⟩, fun y H' hy => ?_⟩
      obtain ⟨T, o, z, rfl, hn, ho, rfl, hy⟩ := hy
      have := hy vs q1
      rw [g1] at this
      cases this
      refine ⟨Ext.newT h2 hn, h2.newT hn, T, _, rfl, .new ho, V.int i, [v], rfl, by show V.int i = V.int (0 + (i : Int)); rw [Int.zero_add], v, [], rfl, (Ext.newT h2 hn).rep h2 _ _ g2, rfl⟩
    · obtain ⟨vs, q1, q2⟩ := at_ H2 ρ2 S2 x2 h2 ok
      exact ⟨vs, q1, by rw [e, ← q2.length]; exact (enumD_len ds 0).symm⟩
  cases d with
  | tup q =>
    cases e5
    obtain ⟨a, vs, rfl, ha, rr⟩ := r1
    refine ⟨a, vs, rfl, .inr ⟨ha.sq, k _ H1 ρ1 x1 h1 (mk (a := a) fun H2 ρ2 S2 x2 h2 _ => ⟨vs, (ha.ext h1 x2).sq, x2.repL h1 _ _ rr⟩)⟩⟩
  | ro q =>
    cases e5
    obtain ⟨a, vs, rfl, ha, rr⟩ := r1
    refine ⟨a, vs, rfl, .inl ⟨ha.sq, k _ H1 ρ1 x1 h1 (mk (a := a) fun H2 ρ2 S2 x2 h2 _ => ⟨vs, (ha.ext h1 x2).sq, x2.repL h1 _ _ rr⟩)⟩⟩
  | loc m =>
    have at_ : ∀ (H2 : Hp) (ρ2 : List Addr) (S2 : Store), Ext H1 ρ1 H2 ρ2 → HRep X.K H2 ρ2 S2 → seqOf S2 (.loc m) = some ds → ∃ a vs, v = .ref a ∧ SqL X.K H2 a vs ∧ RepL X.K H2 ρ2 ds vs := fun H2 ρ2 S2 x2 h2 e => by
      unfold seqOf at e
      dsimp only at e
      split at e
      · rename_i q hS
        cases e
        obtain ⟨b, vs, eb, _, hb, rr⟩ := lst_at h2 hS (x2.rep h1 _ _ r1)
        exact ⟨b, vs, eb, .of hb, rr⟩
      · cases e
    obtain ⟨a, vs, rfl, hq, rr⟩ := at_ H1 ρ1 _ Ext.refl h1 e5
    refine ⟨a, vs, rfl, .inl ⟨hq, k _ H1 ρ1 x1 h1 (mk (a := a) fun H2 ρ2 S2 x2 h2 ok => ?_)⟩⟩
    obtain ⟨b, ws, eb, hb, r2⟩ := at_ H2 ρ2 S2 x2 h2 (seq_stays h1 r1 x2 h2 ok e5).1
    cases eb
    exact ⟨ws, hb, r2⟩
  | _ => cases e5
end
end Mi

end

section
/-! Mi6: targets, comprehensions, statements. -/
namespace Mi
open PySem PySem.Spec L2
def tG (K : PySem.W.Frag) (sl : List Nat) (f : D → StD → Store → Option (StD × Store)) : TG := fun v σ H Q => ∃ ρ σD S d σE S', Cor K H ρ σ σD S ∧ Rep K H ρ d v ∧ f d σD S = some (σE, S') ∧
  ∀ σ' H' ρ', (σ'.length = σ.length ∧ ∀ j, j ∉ sl → σ'[j]? = σ[j]?) → Ext H ρ H' ρ' → Cor K H' ρ' σ' σE S' → Q σ' H'
def tGs (K : PySem.W.Frag) (sl : List Nat) (f : List D → StD → Store → Option (StD × Store)) : TGs := fun vs σ H Q => ∃ ρ σD S ds σE S', Cor K H ρ σ σD S ∧ RepL K H ρ ds vs ∧ f ds σD S = some (σE, S') ∧
  ∀ σ' H' ρ', (σ'.length = σ.length ∧ ∀ j, j ∉ sl → σ'[j]? = σ[j]?) → Ext H ρ H' ρ' → Cor K H' ρ' σ' σE S' → Q σ' H'
section
variable {K : PySem.W.Frag} {H H' : Hp} {ρ ρ' : List Addr} {S S' : Store} {σ : L2.St} {σD : StD}
theorem Cor.set (c : Cor K H ρ σ σD S) (i : Nat) {d : D} {v : V} (r : Rep K H ρ d v) : Cor K H ρ (σ.set i (some v)) (σD.set i (some d)) S := by
  refine ⟨by simp [c.len], fun j e h => ?_, c.hp⟩
  by_cases hj : i = j
  · subst hj
    by_cases hl : i < σD.length
    · rw [List.getElem?_set_self hl] at h
      cases h
      exact ⟨v, by rw [List.getElem?_set_self (by rw [c.len]; exact hl)], r⟩
    · rw [List.getElem?_eq_none (by simpa using hl)] at h; cases h
  · rw [List.getElem?_set_ne hj] at h
    obtain ⟨w, h1, h2⟩ := c.st j e h
    exact ⟨w, by rw [List.getElem?_set_ne hj]; exact h1, h2⟩
theorem wipeD_some {σ : StD} {i : Nat} {x : D} : ∀ {vs : List Nat}, (wipeD σ vs)[i]? = some (some x) → σ[i]? = some (some x) ∧ i ∉ vs
  | [], h => ⟨h, by simp⟩
  | v :: vs, h => by
    unfold wipeD at h
    by_cases hi : v = i
    · subst hi
      by_cases hv : v < (wipeD σ vs).length
      · rw [List.getElem?_set_self hv] at h; cases h
      · rw [List.getElem?_eq_none (by simpa using hv)] at h; cases h
    · rw [List.getElem?_set_ne hi] at h
      obtain ⟨h1, h2⟩ := wipeD_some h
      exact ⟨h1, by simp only [List.mem_cons, not_or]; exact ⟨fun e => hi e.symm, h2⟩⟩
theorem wipeD_length (σ : StD) : ∀ vs : List Nat, (wipeD σ vs).length = σ.length
  | [] => rfl
  | v :: vs => by unfold wipeD; rw [List.length_set, wipeD_length σ vs]
theorem wipe_in {σ : L2.St} {i : Nat} : ∀ {vs : List Nat}, i ∈ vs → i < σ.length → (wipe σ vs)[i]? = some none
  | v :: vs, h, hl => by
    unfold wipe
    by_cases hi : v = i
    · subst hi
      rw [List.getElem?_set_self (by rw [wipe_length]; exact hl)]
    · rw [List.getElem?_set_ne hi]
      exact wipe_in ((List.mem_cons.mp h).resolve_left fun e => hi e.symm) hl
theorem Cor.wipe (c : Cor K H ρ σ σD S) (vs : List Nat) : Cor K H ρ (L2.wipe σ vs) (wipeD σD vs) S := by
  refine ⟨by rw [wipe_length, wipeD_length, c.len], fun j e h => ?_, c.hp⟩
  obtain ⟨h1, h2⟩ := wipeD_some h
  obtain ⟨w, h3, h4⟩ := c.st j e h1
  exact ⟨w, by rw [wipe_out h2]; exact h3, h4⟩
theorem wipe_same {σ τ : L2.St} {vs : List Nat} (hl : τ.length = σ.length) (h : ∀ j, j ∉ vs → τ[j]? = σ[j]?) : wipe τ vs = wipe σ vs := by
  apply List.ext_getElem?
  intro j
  by_cases hj : j ∈ vs
  · by_cases hk : j < σ.length
    · rw [wipe_in hj hk, wipe_in hj (by rw [hl]; exact hk)]
    · rw [List.getElem?_eq_none (by rw [wipe_length, hl]; omega), List.getElem?_eq_none (by rw [wipe_length]; omega)]
  · rw [wipe_out hj, wipe_out hj, h j hj]
theorem Ext.out (x : Ext H ρ H' ρ') {a : Addr} {o : HO} (n : a ∉ ρ) (e : H a = some o) : H' a = some o ∧ a ∉ ρ' :=
  ⟨x.keep a o n e, fun m => by
    have := x.new a m n
    rw [e] at this; cases this⟩
mutual
theorem Rep.updOut {a : Addr} {ws : List V} {o : HO} (e : H a = some (.lst ws)) : ∀ (d : D) (v : V), Rep K H ρ d v → Rep K (upd H a o) ρ d v
  | .non, v, h => h
  | .bl b, v, h => h
  | .int i, v, h => h
  | .str y, v, h => h
  | .tup ds, v, h => by
    obtain ⟨b, vs, ev, q, r⟩ := h
    refine ⟨b, vs, ev, ?_, Rep.updOutL e ds vs r⟩
    rcases q with ⟨ob, q, n⟩ | q
    · exact .inl ⟨ob, by rw [upd_ne (ne_of q e (by intro z; cases z))]; exact q, n⟩
    · exact .inr q
  | .ro ds, v, h => by
    obtain ⟨b, vs, ev, q, r⟩ := h
    refine ⟨b, vs, ev, ?_, Rep.updOutL e ds vs r⟩
    rcases q with ⟨ob, q⟩ | q
    · exact .inl ⟨ob, by rw [upd_ne (ne_of q e (by intro z; cases z))]; exact q⟩
    · exact .inr q
  | .loc n, v, h => h
theorem Rep.updOutL {a : Addr} {ws : List V} {o : HO} (e : H a = some (.lst ws)) : ∀ (ds : List D) (vs : List V), RepL K H ρ ds vs → RepL K (upd H a o) ρ ds vs
  | [], vs, h => h
  | d :: ds, vs, h => by
    obtain ⟨v, r, ev, h1, h2⟩ := h
    exact ⟨v, r, ev, Rep.updOut e d v h1, Rep.updOutL e ds r h2⟩
end
theorem HRep.updOut (hp : HRep K H ρ S) {a : Addr} {ws : List V} {o : HO} (n : a ∉ ρ) (e : H a = some (.lst ws)) : HRep K (upd H a o) ρ S := by
  refine ⟨hp.len, hp.nd, fun m mo b e1 e2 => ?_⟩
  have nb : b ≠ a := fun z => n (by rw [← z]; exact List.mem_of_getElem? e2)
  have r := hp.ob m mo b e1 e2
  cases mo with
  | lst ds => obtain ⟨vs, h1, h2⟩ := r; exact ⟨vs, by rw [upd_ne nb]; exact h1, Rep.updOutL e _ _ h2⟩
  | dic ds => obtain ⟨vs, h1, h2, h3⟩ := r; exact ⟨vs, by rw [upd_ne nb]; exact h1, h2, Rep.updOutL e _ _ h3⟩
  | dit ds => obtain ⟨vs, h1, h2, h3⟩ := r; exact ⟨vs, by rw [upd_ne nb]; exact h1, h2, Rep.updOutL e _ _ h3⟩
theorem Ext.updOut (x : Ext H ρ H' ρ') {a : Addr} {o : HO} (n : H a = none) : Ext H ρ (upd H' a o) ρ' :=
  ⟨x.pre, x.new, fun b u m e => by rw [upd_ne (ne_of_none e n)]; exact x.keep b u m e⟩
theorem HRep.adopt (hp : HRep K H ρ S) {a : Addr} {ws : List V} {ds : List D} (n : a ∉ ρ) (e : H a = some (.lst ws)) (r : RepL K H ρ ds ws) : HRep K H (ρ ++ [a]) (S ++ [.lst ds]) := by
  refine ⟨by simp [hp.len], ?_, fun m mo b e1 e2 => ?_⟩
  · rw [List.nodup_append]
    exact ⟨hp.nd, by simp, fun c hc b hb => by
      have : b = a := by simpa using hb
      intro z; subst z; subst this; exact n hc⟩
  · by_cases hl : m < S.length
    · rw [List.getElem?_append_left hl] at e1
      rw [List.getElem?_append_left (by rw [hp.len]; exact hl)] at e2
      exact (hp.ob m mo b e1 e2).grow
    · have hb := (List.getElem?_eq_some_iff.mp e1).1
      simp at hb
      have en : m = S.length := by omega
      subst en
      rw [List.getElem?_append_right (Nat.le_refl _), Nat.sub_self] at e1
      rw [← hp.len, List.getElem?_append_right (Nat.le_refl _), Nat.sub_self] at e2
      have e1' : MO.lst ds = mo := Option.some.inj e1
      have e2' : a = b := Option.some.inj e2
      subst e1' e2'
      exact ⟨ws, e, Rep.growL _ _ r⟩
theorem Ext.none (x : Ext H ρ H' ρ') (hp : HRep K H ρ S) (hp' : HRep K H' ρ' S') {a : Addr} (n : H' a = none) : H a = none := by
  cases q : H a with
  | none => rfl
  | some o =>
    by_cases m : a ∈ ρ
    · obtain ⟨τ, rfl⟩ := x.pre
      have := hp'.free n
      exact absurd (List.mem_append_left _ m) this
    · rw [x.keep a o m q] at n; cases n
end
section
variable {X : Cx} {p : Pos}
theorem _root_.L2.PG.imp {tg : Expr} {t t' : TG} (h : PG X tg t) (i : ∀ v σ H Q, t' v σ H Q → t v σ H Q) : PG X tg t' := ⟨fun pins s σ H v u Q I r q => h.run pins s σ H v u Q I r (i v σ H Q q)⟩
theorem _root_.L2.PGs.imp {tg : List Expr} {t t' : TGs} (h : PGs X tg t) (i : ∀ v σ H Q, t' v σ H Q → t v σ H Q) : PGs X tg t' := ⟨fun pins s σ H v u Q I r q => h.run pins s σ H v u Q I r (i v σ H Q q)⟩
theorem g_nm {i : Nat} {x : Str} (hN : X.N.Nodup) (hi : X.N[i]? = some x) (hx : Loc X.env.scope x) (hf : X.fn x = true ∨ X.env.scope.names.lookup x = some .local) : PG X (.Name x p) (tG X.K [i] fun d σ S => some (σ.set i (some d), S)) :=
  (pg_name hN hi hx hf).imp fun v σ H Q ⟨ρ, σD, S, d, σE, S', c, r, e, k⟩ => by
    obtain ⟨rfl, rfl⟩ := inj2 e
    exact k _ H ρ ⟨by simp, fun j hj => by rw [List.getElem?_set_ne]; intro z; exact hj (by simp [z])⟩ Ext.refl (c.set i r)
theorem gs_nil : PGs X [] (tGs X.K [] fun vs σ S => match vs with | [] => some (σ, S) | _ => none) :=
  pgs_nil.imp fun vs σ H Q ⟨ρ, σD, S, ds, σE, S', c, r, e, k⟩ => by
    cases ds with
    | nil =>
      cases r
      obtain ⟨rfl, rfl⟩ := inj2 e
      exact ⟨rfl, k σ H ρ ⟨rfl, fun _ _ => rfl⟩ Ext.refl c⟩
    | cons d ds => cases e
theorem gs_cons {e : Expr} {es : List Expr} {s1 s2 : List Nat} {f : D → StD → Store → Option (StD × Store)} {g : List D → StD → Store → Option (StD × Store)} (h1 : PG X e (tG X.K s1 f)) (h2 : PGs X es (tGs X.K s2 g))
    (hs : (assignEach (e :: es) X.env).map (·.2) = assign e X.env :: (assignEach es X.env).map (·.2)) :
    PGs X (e :: es) (tGs X.K (s1 ++ s2) fun vs σ S => match vs with | v :: ws => bnd (f v σ S) fun σ1 S1 => g ws σ1 S1 | [] => none) :=
  (pgs_cons h1 h2 hs).imp fun vs σ H Q ⟨ρ, σD, S, ds, σE, S', c, r, e, k⟩ => by
    cases ds with
    | nil => cases e
    | cons d ds =>
      obtain ⟨v, vr, rfl, r1, r2⟩ := r
      obtain ⟨σ1, S1, e1, e2⟩ := bnd_eq e
      refine ⟨v, vr, rfl, ρ, σD, S, d, σ1, S1, c, r1, e1, fun σ' H1 ρ1 q1 x1 c1 => ⟨ρ1, σ1, S1, ds, σE, S', c1, x1.repL c.hp _ _ r2, e2, fun σ'' H2 ρ2 q2 x2 c2 => ?_⟩⟩
      refine k σ'' H2 ρ2 ⟨q2.1.trans q1.1, fun j hj => ?_⟩ (x1.trans x2) c2
      rw [List.mem_append, not_or] at hj
      rw [q2.2 j hj.2, q1.2 j hj.1]
theorem g_tp {es : List Expr} {k n : Nat} {sl : List Nat} {g : List D → StD → Store → Option (StD × Store)} (hc : X.calm = true) (h : PGs X es (tGs X.K sl g)) (hn : (assignEach es X.env).length = n) (hst : (assignEach es X.env).findIdx? (·.1) = none)
    (hg : ∀ ds σ S r, g ds σ S = some r → ds.length = n) : PG X (.Tuple es k p) (tG X.K sl fun d σ S => bnd (opt (seqOf S d) S) fun ds S1 => g ds σ S1) := by
  refine ⟨fun pins s σ H v u Q I rv ⟨ρ, σD, S, d, σE, S', c, r, e, kk⟩ => ?_⟩
  obtain ⟨ds, S1, e1, e2⟩ := bnd_eq e
  obtain ⟨e3, e4⟩ := opt_eq e1
  subst S1
  obtain ⟨a, vs, rfl, ha, rr⟩ := seq_at c.hp e3 r
  have hl : vs.length = n := by rw [← rr.length]; exact hg _ _ _ _ e2
  rcases ha with ha | ha
  · exact (pg_unl hc h hn hst).run pins s σ H _ u Q I rv ⟨a, vs, rfl, ha, hl, ρ, σD, S, _, σE, S', c, rr, e2, kk⟩
  · exact (pg_tup hc h hn hst).run pins s σ H _ u Q I rv ⟨a, vs, rfl, ha, hl, ρ, σD, S, _, σE, S', c, rr, e2, kk⟩
theorem set_D (hu : X.A.units + 1 < cLine) : PSet X (fun o i v H Q => ∃ ρ S do_ di dv S', HRep X.K H ρ S ∧ Rep X.K H ρ do_ o ∧ Rep X.K H ρ di i ∧ Rep X.K H ρ dv v ∧ setD do_ di dv S = some S' ∧ ∀ H', Ext H ρ H' ρ → HRep X.K H' ρ S' → Q H') := by
  intro pins s σ H o i v ov iv u Q I ro ri rv ⟨ρ, S, do_, di, dv, S', hp, r1, r2, r3, e, k⟩
  have dic : ∀ {m : Nat} {kvs : List (Key × D)} {kk : Key}, do_ = .loc m → S[m]? = some (.dic kvs) → kvs.length < sizeLine → S' = S.set m (.dic (putG kvs kk dv)) → i = kV kk → wpAny (model X.prog X.w) X.A (setItem ov iv u) (fun _ s' => ∃ H', L2.Inv X pins σ H' s' ∧ Q H') X.xe s := fun {m kvs kk} h1 h2 h3 h4 h5 => by
    subst h1 h4 h5
    obtain ⟨a, ws, rfl, ea, ha, k1, k2⟩ := dic_at hp h2 r1
    have hl : ws.length = kvs.length := by simpa using congrArg List.length k1
    cases ro
    obtain ⟨p1, p2⟩ := putK_ok (k := kk) r3 k1 k2
    have wr := hp.write (o := .dK (putK ws kk v)) (mo := .dic (putG kvs kk dv)) ea ⟨_, upd_same, p1, (Ext.write hp ea).repL hp _ _ p2⟩
    exact d_setItem hu I (DPut.k (k := kk) ha (by omega)) ri rv fun s4 I4 => ⟨_, I4, k _ (Ext.write hp ea) wr⟩
  unfold setD at e
  split at e
  · rename_i m kk
    split at e
    · rename_i ds hS
      split at e
      · rename_i j hj
        cases e
        obtain ⟨a, vs, rfl, ea, ha, rs⟩ := lst_at hp hS r1
        refine set_list pins s σ H _ i v ov iv u Q I ro ri rv ⟨a, vs, kk, j, rfl, r2, ha, by rw [← rs.length]; exact hj, ?_⟩
        exact k _ (Ext.write hp ea) (hp.write ea ⟨_, upd_same, (Ext.write hp ea).repL hp _ _ (rs.set j r3)⟩)
      · cases e
    · rename_i kvs hS
      split at e
      · rename_i hz
        exact dic rfl hS hz (Option.some.inj e).symm r2
      · cases e
    · cases e
  · split at e
    · rename_i kvs hS
      split at e
      · rename_i hz
        exact dic rfl hS hz (Option.some.inj e).symm r2
      · cases e
    · cases e
  · cases e
theorem g_sb {o i : Expr} {fo fi : StD → Store → Option (D × Store)} (hu : X.A.units + 1 < cLine) (ho : PE X o (tD X.K fo)) (hi : PE X i (tD X.K fi))
    (ha : ∀ v, assign (.Subscript o i p) X.env v = (do
      let ov ← holding [v] (eval o X.env)
      let iv ← holding [v, ov] (eval i X.env)
      standAt p
      holding [v, ov, iv] (setItem ov iv v)
      release [v, ov, iv] [])) : PG X (.Subscript o i p) (tG X.K [] fun v σ S => bnd (fo σ S) fun x S1 => bnd (fi σ S1) fun y S2 => match setD x y v S2 with | some S3 => some (σ, S3) | none => none) :=
  (pg_sub ho hi (set_D hu) ha).imp fun v σ H Q ⟨ρ, σD, S, d, σE, S', c, r, e, k⟩ => by
    obtain ⟨x, S1, e1, e2⟩ := bnd_eq e
    obtain ⟨y, S2, e3, e4⟩ := bnd_eq e2
    split at e4
    · rename_i S3 hS3
      obtain ⟨rfl, rfl⟩ := inj2 e4
      refine ⟨ρ, σD, S, x, S1, c, e1, fun ov H1 ρ1 x1 h1 r1 => ⟨ρ1, σD, S1, y, S2, c.ext x1 h1, e3, fun iv H2 ρ2 x2 h2 r2 => ?_⟩⟩
      refine ⟨ρ2, S2, x, y, d, S3, h2, x2.rep h1 _ _ r1, r2, x2.rep h1 _ _ (x1.rep c.hp _ _ r), hS3, fun H' x3 h3 => ?_⟩
      exact k σ H' ρ2 ⟨rfl, fun _ _ => rfl⟩ ((x1.trans x2).trans x3) (c.ext ((x1.trans x2).trans x3) h3)
    · cases e4
end
end Mi

end

section
/-! Mi7: comprehensions, loops, statements. -/
namespace Mi
open PySem PySem.Spec L2
section
variable {X : Cx} {p : Pos}
/-- a comprehension's turns -/
theorem lc_ok {K : PySem.W.Frag} {fi : StD → Store → Option (Wk × Store)} {sl vs : List Nat} {g : D → StD → Store → Option (StD × Store)} {c : StD → Store → Option (Bool × Store)} {e : StD → Store → Option (D × Store)} (hsl : ∀ j, j ∈ sl → j ∈ vs)
    {σ : L2.St} {H : Hp} {Q : VK} (h : tD K (fun σ S => bnd (fi σ S) fun w S1 => bnd (lcD w.ok (fun x T => g x (wipeD σ vs) T) c e w.items [] S1) fun ds S2 => some (.loc S2.length, S2 ++ [.lst ds])) σ H Q) :
    tLc (tI K fi) (tG K sl g) (tDB K c) (tD K e) vs σ H Q := by
  obtain ⟨ρ, σD, S, d, S', cc, e0, k⟩ := h
  obtain ⟨w, S1, e1, e2⟩ := bnd_eq e0
  obtain ⟨ds, S2, e3, e4⟩ := bnd_eq e2
  obtain ⟨rfl, rfl⟩ := inj2 e4
  refine ⟨ρ, σD, S, w, S1, cc, e1, fun J H1 ρ1 x1 h1 ok D hD => ?_⟩
  refine ⟨fun i m Hh => ∃ ρi Si acc accV, m = w.items.length - i ∧ i ≤ w.items.length ∧ Ext H1 ρ1 Hh ρi ∧ HRep K Hh ρi Si ∧ Hh D = some (.lst accV) ∧ D ∉ ρi ∧ RepL K Hh ρi acc accV ∧
    lcD w.ok (fun x T => g x (wipeD σD vs) T) c e (w.items.drop i) acc Si = some (ds, S2), ?_, ?_⟩
  · exact ⟨_, ρ1, S1, [], [], rfl, Nat.zero_le _, Ext.newT h1 hD, h1.newT hD, upd_same, h1.free hD, rfl, e3⟩
  · rintro i m Hh ⟨ρi, Si, acc, accV, rfl, hi, xi, hpi, hDi, nDi, ri, ei⟩
    by_cases hlt : i < w.items.length
    · refine .inr ?_
      rw [List.drop_eq_getElem_cons hlt] at ei
      have eit : w.items[i]? = some w.items[i] := List.getElem?_eq_getElem hlt
      generalize w.items[i] = it at ei eit
      unfold lcD at ei
      split at ei
      · rename_i okS
        obtain ⟨go, yl⟩ := ok.go i it Hh ρi Si xi hpi okS eit
        refine ⟨go, fun H' => ∃ ρi Si acc accV, Ext H1 ρ1 H' ρi ∧ HRep K H' ρi Si ∧ H' D = some (.lst accV) ∧ D ∉ ρi ∧ RepL K H' ρi acc accV ∧
          lcD w.ok (fun x T => g x (wipeD σD vs) T) c e (w.items.drop (i + 1)) acc Si = some (ds, S2), fun H' ⟨ρi, Si, acc, accV, q1, q2, q3, q4, q5, q6⟩ => ⟨w.items.length - (i + 1), by omega, ρi, Si, acc, accV, rfl, hlt, q1, q2, q3, q4, q5, q6⟩, fun x H2 hy => ?_⟩
        obtain ⟨x2, hp2, r2⟩ := yl x H2 hy
        obtain ⟨hD2, nD2⟩ := x2.out nDi hDi
        have c2 : Cor K H2 ρi (wipe σ vs) (wipeD σD vs) Si := (cc.ext ((x1.trans xi).trans x2) hp2).wipe vs
        have ri2 := x2.repL hpi _ _ ri
        split at ei
        · rename_i σ1 T1 eg
          refine ⟨ρi, wipeD σD vs, Si, it, σ1, T1, c2, r2, eg, fun σ2 H3 ρ3 q3 x3 c3 => ⟨?_, ?_⟩⟩
          · rw [wipe_same (τ := σ2) (σ := wipe σ vs) q3.1 (fun j hj => q3.2 j fun z => hj (hsl j z))]
            exact wipe_same (by rw [wipe_length]) fun j hj => wipe_out hj
          · obtain ⟨hD3, nD3⟩ := x3.out nD2 hD2
            have ri3 := x3.repL hp2 _ _ ri2
            split at ei
            · rename_i T2 ec
              refine ⟨ρ3, σ1, T1, true, T2, c3, ec, fun H4 ρ4 x4 h4 => ?_⟩
              obtain ⟨hD4, nD4⟩ := x4.out nD3 hD3
              have ri4 := x4.repL c3.hp _ _ ri3
              rw [if_pos rfl]
              split at ei
              · rename_i y T3 ee
                split at ei
                · rename_i hz
                  refine ⟨ρ4, σ1, T2, y, T3, c3.ext x4 h4, ee, fun v H5 ρ5 x5 h5 r5 => ?_⟩
                  obtain ⟨hD5, nD5⟩ := x5.out nD4 hD4
                  have ri5 := x5.repL h4 _ _ ri4
                  refine ⟨accV, hD5, by rw [← ri5.length]; exact hz, ρ5, T3, acc ++ [y], accV ++ [v], ?_, h5.updOut nD5 hD5, upd_same, nD5, Rep.updOutL hD5 _ _ (ri5.append ⟨v, [], rfl, r5, rfl⟩), ei⟩
                  exact ((((xi.trans x2).trans x3).trans x4).trans x5).updOut hD
                · cases ei
              · cases ei
            · rename_i T2 ec
              refine ⟨ρ3, σ1, T1, false, T2, c3, ec, fun H4 ρ4 x4 h4 => ?_⟩
              obtain ⟨hD4, nD4⟩ := x4.out nD3 hD3
              have ri4 := x4.repL c3.hp _ _ ri3
              rw [if_neg Bool.false_ne_true]
              exact ⟨ρ4, T2, acc, accV, ((xi.trans x2).trans x3).trans x4, h4, hD4, nD4, ri4, ei⟩
            · cases ei
        · cases ei
      · cases ei
    · have en : i = w.items.length := by omega
      subst en
      rw [List.drop_length] at ei
      unfold lcD at ei
      split at ei
      · rename_i okS
        obtain ⟨rfl, rfl⟩ := inj2 ei
        refine .inl ⟨ok.stop _ Hh ρi _ xi hpi okS rfl, ?_⟩
        have hn : H D = none := x1.none cc.hp h1 hD
        have x := x1.trans xi
        obtain ⟨τ, eτ⟩ := x.pre
        refine k _ Hh (ρi ++ [D]) ⟨⟨τ ++ [D], by rw [eτ, List.append_assoc]⟩, fun b hb nb => ?_, x.keep⟩ (hpi.adopt nDi hDi ri) ⟨D, rfl, ?_⟩
        · rcases List.mem_append.mp hb with m1 | m1
          · exact x.new b m1 nb
          · have eb : b = D := by simpa using m1
            rw [eb]; exact hn
        · rw [← hpi.len, List.getElem?_append_right (Nat.le_refl _), Nat.sub_self]; rfl
      · cases ei

theorem _root_.L2.PTs.imp {e : List Expr} {t t' : TT} (h : PTs X e t) (i : ∀ σ H Q, t' σ H Q → t σ H Q) : PTs X e t' := ⟨fun pins s σ H Q I hw => h.run pins s σ H Q I (i σ H Q hw)⟩
theorem ts_none : PTs X [] (tDB X.K fun _ S => some (true, S)) := pts_nil.imp fun σ H Q ⟨ρ, σD, S, b, S', cc, e, k⟩ => by
  obtain ⟨rfl, rfl⟩ := inj2 e
  exact k H ρ Ext.refl cc.hp
section
variable {elt tg iter : Expr} {ifs : List Expr} {scope : Scope} {own : List (Str × Nat)} {fi : StD → Store → Option (Wk × Store)} {sl : List Nat} {g : D → StD → Store → Option (StD × Store)} {c : StD → Store → Option (Bool × Store)} {e : StD → Store → Option (D × Store)}
abbrev evLc (fi : StD → Store → Option (Wk × Store)) (vs : List Nat) (g : D → StD → Store → Option (StD × Store)) (c : StD → Store → Option (Bool × Store)) (e : StD → Store → Option (D × Store)) : StD → Store → Option (D × Store) :=
  fun σ S => bnd (fi σ S) fun w S1 => bnd (lcD w.ok (fun x T => g x (wipeD σ vs) T) c e w.items [] S1) fun ds S2 => some (.loc S2.length, S2 ++ [.lst ds])
theorem r_lc (hc : X.calm = true) (hN : X.N.Nodup) (hi : PI X tg iter (tI X.K fi)) (ok : BlkOk X.N X.env.scope scope own)
    (hg : ∀ (s : Shared) (H : Hp) (C : Addr) (cl : List (Str × Addr)) (fp : List Addr), PG (X.blk s H scope (compEnvC scope cl C X.env) fp) tg (tG X.K sl g)) (ht : ∀ (s : Shared) (H : Hp) (C : Addr) (cl : List (Str × Addr)) (fp : List Addr), PTs (X.blk s H scope (compEnvC scope cl C X.env) fp) ifs (tDB X.K c))
    (he : ∀ (s : Shared) (H : Hp) (C : Addr) (cl : List (Str × Addr)) (fp : List Addr), PE (X.blk s H scope (compEnvC scope cl C X.env) fp) elt (tD X.K e)) (hs : ∀ x, foldedSetIterable iter X.env x = pure x) (hsl : ∀ j, j ∈ sl → j ∈ own.map (·.2)) :
    PE X (.ListComp elt [⟨tg, iter, ifs, 0⟩] scope p) (tD X.K (evLc fi (own.map (·.2)) g c e)) :=
  (pe_lc hc hN hi ok hg ht he hs).imp fun σ H Q => lc_ok hsl
/-! ### statements -/
def Out (K : PySem.W.Frag) (En : Ends) (H : Hp) (ρ : List Addr) (S' : Store) : Fl → Prop
  | .next σE => ∀ σ' H' ρ', Ext H ρ H' ρ' → Cor K H' ρ' σ' σE S' → En.nx σ' H'
  | .brk σE => ∀ σ' H' ρ', Ext H ρ H' ρ' → Cor K H' ρ' σ' σE S' → En.bk σ' H'
  | .cnt σE => ∀ σ' H' ρ', Ext H ρ H' ρ' → Cor K H' ρ' σ' σE S' → En.ct σ' H'
  | .ret d => ∀ v H' ρ', Ext H ρ H' ρ' → HRep K H' ρ' S' → Rep K H' ρ' d v → En.rt v H'
def tT (K : PySem.W.Frag) (f : StD → Store → Option (Fl × Store)) : TS := fun En σ H => ∃ ρ σD S r S', Cor K H ρ σ σD S ∧ f σD S = some (r, S') ∧ Out K En H ρ S' r
theorem Out.ext {K : PySem.W.Frag} {En : Ends} {H H' : Hp} {ρ ρ' : List Addr} {S' : Store} {r : Fl} (h : Out K En H ρ S' r) (x : Ext H ρ H' ρ') : Out K En H' ρ' S' r := by
  cases r with
  | next σE => exact fun σ2 H2 ρ2 x2 c2 => h σ2 H2 ρ2 (x.trans x2) c2
  | brk σE => exact fun σ2 H2 ρ2 x2 c2 => h σ2 H2 ρ2 (x.trans x2) c2
  | cnt σE => exact fun σ2 H2 ρ2 x2 c2 => h σ2 H2 ρ2 (x.trans x2) c2
  | ret d => exact fun v H2 ρ2 x2 h2 r2 => h v H2 ρ2 (x.trans x2) h2 r2
theorem tsx_nil : PSs X [] (tT X.K fun σ S => some (.next σ, S)) := pss_nil.imp fun En σ H ⟨ρ, σD, S, r, S', cc, e, k⟩ => by
  obtain ⟨rfl, rfl⟩ := inj2 e
  exact k σ H ρ Ext.refl cc
def seqT (f g : StD → Store → Option (Fl × Store)) : StD → Store → Option (Fl × Store) := fun σ S => bnd (f σ S) fun r S1 => match r with
    | .next σ1 => g σ1 S1
    | .brk σ1 => some (.brk σ1, S1)
    | .cnt σ1 => some (.cnt σ1, S1)
    | .ret d => some (.ret d, S1)
theorem tsx_cons {st : Stmt} {rest : List Stmt} {f g' : StD → Store → Option (Fl × Store)} (h1 : PS X st (tT X.K f)) (h2 : PSs X rest (tT X.K g')) : PSs X (st :: rest) (tT X.K (seqT f g')) :=
  (pss_cons h1 h2).imp fun En σ H ⟨ρ, σD, S, r, S', cc, e, k⟩ => by
    obtain ⟨r1, S1, e1, e2⟩ := bnd_eq e
    cases r1 with
    | next σ1 => exact ⟨ρ, σD, S, .next σ1, S1, cc, e1, fun σ' H' ρ' x' c' => ⟨ρ', σ1, S1, r, S', c', e2, k.ext x'⟩⟩
    | brk σ1 => obtain ⟨rfl, rfl⟩ := inj2 e2; exact ⟨ρ, σD, S, .brk σ1, S1, cc, e1, k⟩
    | cnt σ1 => obtain ⟨rfl, rfl⟩ := inj2 e2; exact ⟨ρ, σD, S, .cnt σ1, S1, cc, e1, k⟩
    | ret d => obtain ⟨rfl, rfl⟩ := inj2 e2; exact ⟨ρ, σD, S, .ret d, S1, cc, e1, k⟩
variable {a b : Expr} {fa : StD → Store → Option (D × Store)} {q : Pos}
theorem s_ex (he : PE X a (tD X.K fa)) (hs : swapsWith a none p.line X.env = pure false) : PS X (.Expr a p) (tT X.K fun σ S => bnd (fa σ S) fun _ S1 => some (.next σ, (gc S .non S1).2)) :=
  (ps_expr he hs).imp fun En σ H ⟨ρ, σD, S, r, S', cc, e, k⟩ => by
    obtain ⟨d, S1, e1, e2⟩ := bnd_eq e
    obtain ⟨rfl, rfl⟩ := inj2 e2
    refine ⟨ρ, σD, S, d, S1, cc, e1, fun v H1 ρ1 x1 h1 r1 => ?_⟩
    obtain ⟨ρ2, x2, h2, _⟩ := gc_ok cc.hp x1 h1 (show Rep X.K H1 ρ1 .non .non from rfl)
    exact k σ H1 ρ2 x2 (cc.ext x2 h2)
theorem s_ret (he : PE X a (tD X.K fa)) : PS X (.Return (some a) p) (tT X.K fun σ S => bnd (fa σ S) fun d S1 => some (.ret d, S1)) :=
  (ps_ret he).imp fun En σ H ⟨ρ, σD, S, r, S', cc, e, k⟩ => by
    obtain ⟨d, S1, e1, e2⟩ := bnd_eq e
    obtain ⟨rfl, rfl⟩ := inj2 e2
    exact ⟨ρ, σD, S, d, _, cc, e1, fun v H1 ρ1 x1 h1 r1 => k v H1 ρ1 x1 h1 r1⟩
theorem s_retN : PS X (.Return none p) (tT X.K fun _ S => some (.ret .non, S)) :=
  ps_retN.imp fun En σ H ⟨ρ, σD, S, r, S', cc, e, k⟩ => by
    obtain ⟨rfl, rfl⟩ := inj2 e
    exact k .non H ρ Ext.refl cc.hp rfl
theorem s_pas : PS X (.Pass p) (tT X.K fun σ S => some (.next σ, S)) := ps_pass.imp fun En σ H ⟨ρ, σD, S, r, S', cc, e, k⟩ => by
  obtain ⟨rfl, rfl⟩ := inj2 e
  exact k σ H ρ Ext.refl cc
theorem s_brk : PS X (.Break p) (tT X.K fun σ S => some (.brk σ, S)) := ps_break.imp fun En σ H ⟨ρ, σD, S, r, S', cc, e, k⟩ => by
  obtain ⟨rfl, rfl⟩ := inj2 e
  exact k σ H ρ Ext.refl cc
theorem s_cnt : PS X (.Continue p) (tT X.K fun σ S => some (.cnt σ, S)) := ps_continue.imp fun En σ H ⟨ρ, σD, S, r, S', cc, e, k⟩ => by
  obtain ⟨rfl, rfl⟩ := inj2 e
  exact k σ H ρ Ext.refl cc
theorem s_nev {st : Stmt} : PS X st (tT X.K fun _ _ => none) := ⟨fun _ _ σ H En _ ⟨ρ, σD, S, r, S', cc, e, k⟩ => by cases e⟩
theorem s_iff {x y : List Stmt} {gc' : StD → Store → Option (Bool × Store)} {f g' : StD → Store → Option (Fl × Store)} (hc : PT X a (tDB X.K gc')) (hx : PSs X x (tT X.K f)) (hy : PSs X y (tT X.K g')) : PS X (.If a x y p) (tT X.K fun σ S => bnd (gc' σ S) (iteD (f σ) (g' σ))) :=
  (ps_if hc hx hy).imp fun En σ H ⟨ρ, σD, S, r, S', cc, e, k⟩ => by
    obtain ⟨z, S1, e1, e2⟩ := bnd_eq e
    refine ⟨ρ, σD, S, z, S1, cc, e1, fun H1 ρ1 x1 h1 => ?_⟩
    cases z with
    | true => rw [if_pos rfl]; exact ⟨ρ1, σD, S1, r, S', cc.ext x1 h1, e2, k.ext x1⟩
    | false => rw [if_neg Bool.false_ne_true]; exact ⟨ρ1, σD, S1, r, S', cc.ext x1 h1, e2, k.ext x1⟩
def asgT (fa : StD → Store → Option (D × Store)) (g : D → StD → Store → Option (StD × Store)) : StD → Store → Option (Fl × Store) := fun σ S => bnd (fa σ S) fun d S1 => bnd (g d σ S1) fun σ1 S2 => some (.next σ1, S2)
theorem asg_ok {K : PySem.W.Frag} {En : Ends} {σ : L2.St} {H : Hp} (h : tT K (asgT fa g) En σ H) : tAsg (tD K fa) (tG K sl g) En σ H := by
  obtain ⟨ρ, σD, S, r, S', cc, e, k⟩ := h
  obtain ⟨d, S1, e1, e2⟩ := bnd_eq e
  obtain ⟨σ1, S2, e3, e4⟩ := bnd_eq e2
  obtain ⟨rfl, rfl⟩ := inj2 e4
  exact ⟨ρ, σD, S, d, S1, cc, e1, fun v H1 ρ1 x1 h1 r1 => ⟨ρ1, σD, S1, d, σ1, _, cc.ext x1 h1, r1, e3, fun σ' H' ρ' _ x' c' => k σ' H' ρ' (x1.trans x') c'⟩⟩
theorem s_asg (he : PE X a (tD X.K fa)) (hg : PG X tg (tG X.K sl g)) (hs : swapsWithSole [tg] a p.line X.env = pure false) (hw : swappedStores [tg] a X.env = pure none) (h1 : (assignEach [tg] X.env).map (·.2) = [assign tg X.env]) : PS X (.Assign [tg] a p) (tT X.K (asgT fa g)) :=
  (ps_asg he hg hs hw h1).imp fun En σ H => asg_ok
theorem s_aug {i : Nat} {x : Str} {o : Operator} (hN : X.N.Nodup) (hi : X.N[i]? = some x) (hx : Loc X.env.scope x) (he : PE X a (tD X.K fa)) (hf : X.fn x = true ∨ X.env.scope.names.lookup x = some .local) :
    PS X (.AugAssign (.Name x q) o a p) (tT X.K fun σ S => bnd (opt (slotD σ i) S) fun x S1 => bnd (fa σ S1) fun y S2 => bnd (opt (augD o x y) S2) fun z S3 => some (.next (σ.set i (some z)), S3)) := by
  have go : ∀ {t : TIp}, PIp X o t → (∀ {K : PySem.W.Frag} {H : Hp} {ρ : List Addr} {dx dy dz : D} {v w : V} {Q : VK}, augD o dx dy = some dz → Rep K H ρ dx v → Rep K H ρ dy w → (∀ u, Rep K H ρ dz u → Q u H) → t v w H Q) →
      PS X (.AugAssign (.Name x q) o a p) (tT X.K fun σ S => bnd (opt (slotD σ i) S) fun x S1 => bnd (fa σ S1) fun y S2 => bnd (opt (augD o x y) S2) fun z S3 => some (.next (σ.set i (some z)), S3)) := fun {t} ht hh =>
    (ps_aug hN hi hx he ht hf).imp fun En σ H ⟨ρ, σD, S, r, S', cc, e, k⟩ => by
      obtain ⟨dx, S1, e1, e2⟩ := bnd_eq e
      obtain ⟨e3, e4⟩ := opt_eq e1
      subst S1
      obtain ⟨dy, S2, e5, e6⟩ := bnd_eq e2
      obtain ⟨dz, S3, e7, e8⟩ := bnd_eq e6
      obtain ⟨e9, e10⟩ := opt_eq e7
      subst S3
      obtain ⟨rfl, rfl⟩ := inj2 e8
      have e11 : σD[i]? = some (some dx) := by
        unfold slotD at e3
        split at e3
        · cases e3; assumption
        · cases e3
      obtain ⟨v, h1, h2⟩ := cc.st i dx e11
      refine ⟨v, h1, ρ, σD, S, dy, _, cc, e5, fun w H1 ρ1 x1 h1' r1 => hh e9 (x1.rep cc.hp _ _ h2) r1 fun u ru => ?_⟩
      exact k _ H1 ρ1 x1 ((cc.ext x1 h1').set i ru)
  have isInts : ∀ {dx dy dz : D} {o : Operator}, augD o dx dy = some dz → ∃ a b, dx = .int a ∧ dy = .int b := fun {dx dy dz o} h => by
    cases dx <;> cases dy <;> first | (cases h; done) | exact ⟨_, _, rfl, rfl⟩
  cases o with
  | Add =>
    exact go ip_add fun {K H ρ dx dy dz v w Q} h r1 r2 kk => by
      obtain ⟨a, b, rfl, rfl⟩ := isInts h
      cases h
      exact ⟨a, b, r1, r2, kk _ rfl⟩
  | Sub =>
    exact go ip_sub fun {K H ρ dx dy dz v w Q} h r1 r2 kk => by
      obtain ⟨a, b, rfl, rfl⟩ := isInts h
      cases h
      exact ⟨a, b, r1, r2, kk _ rfl⟩
  | _ =>
    exact ⟨fun _ _ σ H En _ ⟨ρ, σD, S, r, S', cc, e, k⟩ => by
      obtain ⟨dx, S1, e1, e2⟩ := bnd_eq e
      obtain ⟨dy, S2, e5, e6⟩ := bnd_eq e2
      obtain ⟨dz, S3, e7, e8⟩ := bnd_eq e6
      obtain ⟨e9, e10⟩ := opt_eq e7
      obtain ⟨a, b, rfl, rfl⟩ := isInts e9
      cases e9⟩
theorem s_for {body : List Stmt} {fb : StD → Store → Option (Fl × Store)} (hp : PassesOwn (model X.prog X.w) X.A X.env X.xe) (hc : X.calm = true) (hi : PI X tg iter (tI X.K fi)) (hg : PG X tg (tG X.K sl g)) (hb : PSs X body (tT X.K fb)) (hs : ∀ x, foldedSetIterable iter X.env x = pure x) :
    PS X (.For tg iter body [] p) (tT X.K fun σ S => bnd (fi σ S) fun w S1 => forD w.ok g fb w.items σ S1) := by
  refine (ps_for hp hc hi hg hb hs).imp fun En σ H ⟨ρ, σD, S, r, S', cc, e, k⟩ => ?_
  obtain ⟨w, S1, e1, e2⟩ := bnd_eq e
  refine ⟨ρ, σD, S, w, S1, cc, e1, fun J H1 ρ1 x1 h1 ok => ?_⟩
  refine ⟨fun i m τ Hh => ∃ ρi τD Si, m = w.items.length - i ∧ i ≤ w.items.length ∧ Ext H1 ρ1 Hh ρi ∧ Cor X.K Hh ρi τ τD Si ∧ forD w.ok g fb (w.items.drop i) τD Si = some (r, S'), ⟨_, ρ1, σD, S1, rfl, Nat.zero_le _, Ext.refl, cc.ext x1 h1, e2⟩, ?_⟩
  rintro i m τ Hh ⟨ρi, τD, Si, rfl, hi', xi, ci, ei⟩
  by_cases hlt : i < w.items.length
  · rw [List.drop_eq_getElem_cons hlt] at ei
    have eit : w.items[i]? = some w.items[i] := List.getElem?_eq_getElem hlt
    generalize w.items[i] = it at ei eit
    unfold forD at ei
    split at ei
    · rename_i okS
      obtain ⟨go, yl⟩ := ok.go i it Hh ρi Si xi ci.hp okS eit
      refine .inr ⟨go, fun τ' H' => ∃ ρi τD Si, Ext H1 ρ1 H' ρi ∧ Cor X.K H' ρi τ' τD Si ∧ forD w.ok g fb (w.items.drop (i + 1)) τD Si = some (r, S'), fun τ' H' ⟨ρi, τD, Si, q1, q2, q3⟩ => ⟨w.items.length - (i + 1), by omega, ρi, τD, Si, rfl, hlt, q1, q2, q3⟩, fun x H2 hy => ?_⟩
      obtain ⟨x2, hp2, r2⟩ := yl x H2 hy
      split at ei
      · rename_i τ1 T1 eg
        refine ⟨ρi, τD, Si, it, τ1, T1, ci.ext x2 hp2, r2, eg, fun τ2 H3 ρ3 _ x3 c3 => ?_⟩
        have x13 := (xi.trans x2).trans x3
        split at ei
        · rename_i τ3 T2 eb
          exact ⟨ρ3, τ1, T1, .next τ3, T2, c3, eb, fun τ4 H4 ρ4 x4 c4 => ⟨ρ4, τ3, T2, x13.trans x4, c4, ei⟩⟩
        · rename_i τ3 T2 eb
          exact ⟨ρ3, τ1, T1, .cnt τ3, T2, c3, eb, fun τ4 H4 ρ4 x4 c4 => ⟨ρ4, τ3, T2, x13.trans x4, c4, ei⟩⟩
        · rename_i τ3 T2 eb
          obtain ⟨rfl, rfl⟩ := inj2 ei
          exact ⟨ρ3, τ1, T1, .brk τ3, _, c3, eb, fun τ4 H4 ρ4 x4 c4 => k τ4 H4 ρ4 ((x1.trans x13).trans x4) c4⟩
        · rename_i dd T2 eb
          obtain ⟨rfl, rfl⟩ := inj2 ei
          exact ⟨ρ3, τ1, T1, .ret dd, _, c3, eb, fun v H4 ρ4 x4 h4 r4 => k v H4 ρ4 ((x1.trans x13).trans x4) h4 r4⟩
        · cases ei
      · cases ei
    · cases ei
  · have en : i = w.items.length := by omega
    subst en
    rw [List.drop_length] at ei
    unfold forD at ei
    split at ei
    · rename_i okS
      obtain ⟨rfl, rfl⟩ := inj2 ei
      exact .inl ⟨ok.stop _ Hh ρi _ xi ci.hp okS rfl, k τ Hh ρi (x1.trans xi) ci⟩
    · cases ei
theorem s_whl {body : List Stmt} {ft : StD → Store → Option (Bool × Store)} {fb : StD → Store → Option (Fl × Store)} (hp : PassesOwn (model X.prog X.w) X.A X.env X.xe) (ht : PT X a (tDB X.K ft)) (hb : PSs X body (tT X.K fb)) (N : Nat) :
    PS X (.While a body [] p) (tT X.K fun σ S => whlD ft fb N σ S) := by
  refine (ps_while hp ht hb).imp fun En σ H ⟨ρ, σD, S, r, S', cc, e, k⟩ => ?_
  refine ⟨fun m τ Hh => ∃ ρi τD Si, Ext H ρ Hh ρi ∧ Cor X.K Hh ρi τ τD Si ∧ whlD ft fb m τD Si = some (r, S'), ⟨N, ρ, σD, S, Ext.refl, cc, e⟩, ?_⟩
  rintro m τ Hh ⟨ρi, τD, Si, xi, ci, ei⟩
  cases m with
  | zero => cases ei
  | succ n =>
    unfold whlD at ei
    split at ei
    · rename_i T1 et
      refine ⟨ρi, τD, Si, true, T1, ci, et, fun H1 ρ1 x1 h1 => ?_⟩
      refine iteT ?_
      refine ⟨fun τ' H' => ∃ ρi τD Si, Ext H ρ H' ρi ∧ Cor X.K H' ρi τ' τD Si ∧ whlD ft fb n τD Si = some (r, S'), fun τ' H' ⟨ρi, τD, Si, q1, q2, q3⟩ => ⟨n, Nat.lt_succ_self n, ρi, τD, Si, q1, q2, q3⟩, ?_⟩
      have x01 := xi.trans x1
      split at ei
      · rename_i τ3 T2 eb
        exact ⟨ρ1, τD, T1, .next τ3, T2, ci.ext x1 h1, eb, fun τ4 H4 ρ4 x4 c4 => ⟨ρ4, τ3, T2, x01.trans x4, c4, ei⟩⟩
      · rename_i τ3 T2 eb
        exact ⟨ρ1, τD, T1, .cnt τ3, T2, ci.ext x1 h1, eb, fun τ4 H4 ρ4 x4 c4 => ⟨ρ4, τ3, T2, x01.trans x4, c4, ei⟩⟩
      · rename_i τ3 T2 eb
        obtain ⟨rfl, rfl⟩ := inj2 ei
        exact ⟨ρ1, τD, T1, .brk τ3, _, ci.ext x1 h1, eb, fun τ4 H4 ρ4 x4 c4 => k τ4 H4 ρ4 (x01.trans x4) c4⟩
      · rename_i dd T2 eb
        obtain ⟨rfl, rfl⟩ := inj2 ei
        exact ⟨ρ1, τD, T1, .ret dd, _, ci.ext x1 h1, eb, fun v H4 ρ4 x4 h4 r4 => k v H4 ρ4 (x01.trans x4) h4 r4⟩
      · cases ei
    · rename_i T1 et
      obtain ⟨rfl, rfl⟩ := inj2 ei
      refine ⟨ρi, τD, Si, false, T1, ci, et, fun H1 ρ1 x1 h1 => ?_⟩
      refine iteF ?_
      exact k τ H1 ρ1 (xi.trans x1) (ci.ext x1 h1)
    · cases ei
end
end
end Mi

end

section
/-! Mi8: calls, methods; the language is sound. -/
namespace Mi
open PySem PySem.Spec L2
/-! ### facts of the text -/
section
variable {env : Env}
theorem star_e (e : E) (r : List Expr) : starEach (embE e :: r) env = (false, eval (embE e) env) :: starEach r env := by cases e <;> rfl
theorem star_i (e : I) (r : List Expr) : starEach (embI e :: r) env = (false, eval (embI e) env) :: starEach r env := by
  cases e with
  | ex e => exact star_e e r
  | _ => rfl
theorem star_any (pos : Pos) : ∀ es : Es, (backTo pos (starEach (embEs es) env)).any (·.1) = false
  | .nil => rfl
  | .cons e r => by
    show (backTo pos (starEach (embE e :: embEs r) env)).any (·.1) = false
    rw [star_e]
    show (false || (backTo pos (starEach (embEs r) env)).any (·.1)) = false
    rw [star_any pos r]; rfl
theorem star_all (pos : Pos) : ∀ es : Es, (backTo pos (starEach (embEs es) env)).all (fun x => !x.1) = true
  | .nil => rfl
  | .cons e r => by
    show (backTo pos (starEach (embE e :: embEs r) env)).all (fun x => !x.1) = true
    rw [star_e]
    show (true && (backTo pos (starEach (embEs r) env)).all (fun x => !x.1)) = true
    rw [star_all pos r]; rfl
theorem emb_len : ∀ es : Es, (embEs es).length = es.len
  | .nil => rfl
  | .cons e r => by simp [embEs, Es.len, emb_len r]
theorem noSet (o : CmpOp) (e : E) : behindInMarks o (embE e) = false := by cases e <;> rfl
theorem noSet2 (o q : CmpOp) (e f : E) : lastMarks [o, q] [embE e, embE f] = false := by
  show behindInMarks q (embE f) = false
  exact noSet q f
theorem plainIx (e : E) : PlainIx (embE e) := by cases e <;> exact fun _ _ => rfl
theorem folded_e (e : E) (x : Value) : foldedSetIterable (embE e) env x = pure x := by cases e <;> rfl
theorem folded_i (e : I) (x : Value) : foldedSetIterable (embI e) env x = pure x := by
  cases e with
  | ex e => exact folded_e e x
  | _ => rfl
theorem base_e (e : E) (h : noCall0 e = true) (nm : Str) : attributeBase (embE e) nm env (eval (embE e) env) = eval (embE e) env := by
  cases e with
  | call f n as q p =>
    cases as with
    | nil => cases h
    | cons a r => rfl
  | bi f as q p =>
    cases as with
    | nil => cases h
    | cons a r => rfl
  | _ => rfl
theorem asg_sb (o i : E) (p : Pos) (v : Value) : assign (.Subscript (embE o) (embE i) p) env v = (do
      let ov ← holding [v] (eval (embE o) env)
      let iv ← holding [v, ov] (eval (embE i) env)
      standAt p
      holding [v, ov, iv] (setItem ov iv v)
      release [v, ov, iv] []) := by cases i <;> rfl
theorem asgE_g (g : G) (r : List Expr) : assignEach (embG g :: r) env = (false, assign (embG g) env) :: assignEach r env := by cases g <;> rfl
theorem asgE_len : ∀ gs : Gs, (assignEach (embGs gs) env).length = gs.len
  | .nil => rfl
  | .cons g r => by
    show (assignEach (embG g :: embGs r) env).length = _
    rw [asgE_g, List.length_cons, asgE_len r]; rfl
theorem asgE_star : ∀ gs : Gs, (assignEach (embGs gs) env).findIdx? (·.1) = none
  | .nil => rfl
  | .cons g r => by
    show (assignEach (embG g :: embGs r) env).findIdx? (·.1) = none
    rw [asgE_g, List.findIdx?_cons]
    simp [asgE_star r]
theorem truth_e (e : E) (h : (match e with | .not .. => false | .bop .. => false | .cmp .. => false | .chn .. => false | .ifx .. => false | _ => true) = true) (whole : Sem Value) :
    isTrue (embE e) env whole = (do let v ← whole; standAt (embE e).pos; holding [v] (truthy v)) := by
  cases e <;> first | rfl | (cases h)
end
theorem evGs_len (C : Orc) : ∀ (gs : Gs) (ds : List D) (σ : StD) (S : Store) (r : StD × Store), evGs C gs ds σ S = some r → ds.length = gs.len
  | .nil, ds, σ, S, r, h => by
    cases ds with
    | nil => rfl
    | cons d ds => cases h
  | .cons g gs, ds, σ, S, r, h => by
    cases ds with
    | nil => cases h
    | cons d ds =>
      obtain ⟨σ1, S1, e1, e2⟩ := bnd_eq (show bnd (evG C g d σ S) _ = some r from h)
      rw [List.length_cons, evGs_len C gs ds σ1 S1 r e2]; rfl

/-! ### methods -/
section
variable {X : Cx}
def liftM (K : PySem.W.Frag) (m : Mt) : V → List V → Hp → VK → Prop := fun x xs H Q => ∃ ρ S dx ds d S', HRep K H ρ S ∧ Rep K H ρ dx x ∧ RepL K H ρ ds xs ∧ mtD m dx ds S = some (d, S') ∧ After K H ρ S' d Q
def Mt.ty : Mt → String
  | .get => "dict"
  | _ => "list"
theorem recv_ty {K : PySem.W.Frag} {H : Hp} {ρ : List Addr} {S : Store} (hp : HRep K H ρ S) {m : Mt} {d : D} {v : V} (e : recvD m d S = true) (r : Rep K H ρ d v) : tyV K m.ty v H := by
  cases d with
  | loc n =>
    unfold recvD at e
    dsimp only at e
    split at e
    · rename_i ds hS
      obtain ⟨a, vs, rfl, _, ha, _⟩ := lst_at hp hS r
      have : m.ty = "list" := by cases m <;> first | rfl | (exact absurd e (by decide))
      rw [this]
      exact .inl ⟨rfl, vs, .of ha⟩
    · rename_i ds hS
      obtain ⟨a, vs, rfl, _, ha, _⟩ := dic_at hp hS r
      have : m.ty = "dict" := by cases m <;> first | rfl | (exact absurd e (by decide))
      rw [this]
      exact .inr (.inr (.inl ⟨rfl, .inl ⟨vs, ha⟩⟩))
    · cases e
  | _ => cases e
theorem mt_list {m : Mt} {dx : D} {ds : List D} {S : Store} {r : D × Store} (hm : m ≠ .get) (e : mtD m dx ds S = some r) : ∃ n xs, dx = .loc n ∧ S[n]? = some (.lst xs) := by
  cases dx with
  | loc n =>
    unfold mtD at e
    dsimp only at e
    split at e
    · rename_i xs hS; exact ⟨n, xs, rfl, hS⟩
    · split at e <;> first | contradiction | (cases e)
    · cases e
  | _ => cases e
theorem append_D : MtR X "list.append" (liftM X.K .append) := by
  intro pins s σ H x xs v us Q I rx rxs ⟨ρ, S, dx, ds, d, S', hp, r1, r2, e, k⟩
  obtain ⟨n, ys, rfl, hS⟩ := mt_list (by decide) e
  obtain ⟨a, vs, rfl, ea, ha, rs⟩ := lst_at hp hS r1
  unfold mtD at e
  dsimp only at e
  rw [hS] at e
  dsimp only at e
  split at e <;> first | contradiction | skip
  split at e
  · rename_i y _ hz
    obtain ⟨rfl, rfl⟩ := inj2 e
    obtain ⟨w, rfl, rw'⟩ := repL1 r2
    refine mt_append pins s σ H _ _ v us Q I rx rxs ⟨a, vs, w, rfl, rfl, ha, by rw [← rs.length]; exact hz, ?_⟩
    exact k _ _ ρ (Ext.write hp ea) (hp.write ea ⟨_, upd_same, (Ext.write hp ea).repL hp _ _ (rs.append ⟨w, [], rfl, rw', rfl⟩)⟩) rfl
  · cases e
theorem extend_D : MtR X "list.extend" (liftM X.K .extend) := by
  intro pins s σ H x xs v us Q I rx rxs ⟨ρ, S, dx, ds, d, S', hp, r1, r2, e, k⟩
  obtain ⟨n, ys, rfl, hS⟩ := mt_list (by decide) e
  obtain ⟨a, vs, rfl, ea, ha, rs⟩ := lst_at hp hS r1
  unfold mtD at e
  dsimp only at e
  rw [hS] at e
  dsimp only at e
  split at e <;> first | contradiction | skip
  split at e
  · rename_i m
    split at e
    · rename_i es hE
      split at e
      · rename_i hz
        obtain ⟨rfl, rfl⟩ := inj2 e
        obtain ⟨w, rfl, rw'⟩ := repL1 r2
        obtain ⟨b, ws, rfl, eb, hb, rs2⟩ := lst_at hp hE rw'
        refine mt_extend pins s σ H _ _ v us Q I rx rxs ⟨a, b, vs, ws, rfl, rfl, ha, hb, by rw [← rs.length, ← rs2.length]; exact hz, ?_⟩
        exact k _ _ ρ (Ext.write hp ea) (hp.write ea ⟨_, upd_same, (Ext.write hp ea).repL hp _ _ (rs.append rs2)⟩) rfl
      · cases e
    · cases e
  · cases e
theorem clear_D : MtR X "list.clear" (liftM X.K .clear) := by
  intro pins s σ H x xs v us Q I rx rxs ⟨ρ, S, dx, ds, d, S', hp, r1, r2, e, k⟩
  obtain ⟨n, ys, rfl, hS⟩ := mt_list (by decide) e
  obtain ⟨a, vs, rfl, ea, ha, rs⟩ := lst_at hp hS r1
  unfold mtD at e
  dsimp only at e
  rw [hS] at e
  dsimp only at e
  split at e <;> first | contradiction | skip
  obtain ⟨rfl, rfl⟩ := inj2 e
  cases r2
  refine mt_clear pins s σ H _ _ v us Q I rx rxs ⟨a, vs, rfl, rfl, ha, ?_⟩
  exact k _ _ ρ (Ext.write hp ea) (hp.write ea ⟨_, upd_same, rfl⟩) rfl
theorem pop_D : MtR X "list.pop" (liftM X.K .pop) := by
  intro pins s σ H x xs v us Q I rx rxs ⟨ρ, S, dx, ds, d, S', hp, r1, r2, e, k⟩
  obtain ⟨n, ys, rfl, hS⟩ := mt_list (by decide) e
  obtain ⟨a, vs, rfl, ea, ha, rs⟩ := lst_at hp hS r1
  unfold mtD at e
  dsimp only at e
  rw [hS] at e
  dsimp only at e
  split at e <;> first | contradiction | skip
  split at e
  · rename_i y hy
    obtain ⟨rfl, rfl⟩ := inj2 e
    cases r2
    obtain ⟨w, g1, g2⟩ := rs.get hy
    refine mt_pop pins s σ H _ _ v us Q I rx rxs ⟨a, vs, w, rfl, rfl, ha, by rw [← rs.length]; exact g1, ?_⟩
    exact k _ _ ρ (Ext.write hp ea) (hp.write ea ⟨_, upd_same, (Ext.write hp ea).repL hp _ _ rs.dropLast⟩) ((Ext.write hp ea).rep hp _ _ g2)
  · cases e
theorem flats_ok {K : PySem.W.Frag} {H : Hp} {ρ : List Addr} {a : D} {x : PyData} {v : V} (h1 : flatPy a = some x) (r : Rep K H ρ a v) : ∀ {ds : List D} {ys : List PyData} {vs : List V}, mapO flatPy ds = some ys → RepL K H ρ ds vs →
    vs.all flatV = true ∧ vs.map (fun w => eqV w v) = ys.map fun y => PyData.eqv y x
  | [], ys, vs, e, rr => by cases e; cases rr; exact ⟨rfl, rfl⟩
  | d :: ds, ys, vs, e, rr => by
    obtain ⟨w, vr, rfl, r1, r2⟩ := rr
    unfold mapO at e
    split at e
    · rename_i y hy
      split at e
      · rename_i yr hyr
        cases e
        obtain ⟨i1, i2⟩ := flats_ok h1 r hyr r2
        obtain ⟨f1, f2⟩ := flat_ok hy r1
        refine ⟨by rw [List.all_cons, f1, i1]; rfl, ?_⟩
        rw [List.map_cons, List.map_cons, f2 h1 r, i2]
      · cases e
    · cases e
theorem countP_map_id {α : Type} (f : α → Bool) (l : List α) : l.countP f = (l.map f).countP id := by rw [List.countP_map]; rfl
theorem eqU_countP {y : V} : ∀ {ys : List V} {us : List Value}, Vals ys us → ys.all flatV = true → us.countP (eqU y) = ys.countP fun z => eqV z y
  | [], us, r, h => by cases r; rfl
  | z :: ys, us, r, h => by
    cases r with
    | cons r1 r2 =>
      rw [List.all_cons, Bool.and_eq_true] at h
      rw [List.countP_cons, List.countP_cons, eqU_countP r2 h.2, eqU_of r1 h.1]
theorem count_D : MtR X "list.count" (liftM X.K .count) := by
  intro pins s σ H x xs v us Q I rx rxs ⟨ρ, S, dx, ds, d, S', hp, r1, r2, e, k⟩
  obtain ⟨n, ys, rfl, hS⟩ := mt_list (by decide) e
  obtain ⟨a, vs, rfl, ea, ha, rs⟩ := lst_at hp hS r1
  unfold mtD at e
  dsimp only at e
  rw [hS] at e
  dsimp only at e
  split at e <;> first | contradiction | skip
  rename_i y _
  obtain ⟨c, e1, e2⟩ := Option.map_eq_some_iff.mp e
  obtain ⟨rfl, rfl⟩ := Prod.mk.inj e2
  obtain ⟨w, rfl, rw'⟩ := repL1 r2
  unfold cntSeq at e1
  split at e1
  · rename_i px pys g1 g2
    cases e1
    obtain ⟨f1, f2⟩ := flats_ok g1 rw' g2 rs
    have fw := (flat_ok g1 rw').1
    cases rx
    cases rxs with
    | cons ry rt =>
      rename_i uy ut
      cases rt
      obtain ⟨its, rv, ⟨⟨cls, dd, data, sl⟩, n, ho, hc, hdn, hd⟩, hlen⟩ := I.list (SqL.of ha)
      simp only at hc hd
      subst hc hd
      refine call_meets PySem.F.slot_list_count ⟨_, ho, rfl⟩ PySem.F.entry_list_count (PySem.F.args_list_count_2 _ _)
        (SeqAt.list_countAt a its.toArray n dd sl uy (eqU w)) ⟨ho, fun u' hu' => mem_eqAt ry fw rv f1 u' (by simpa using hu'), ?_⟩
      have ec : its.toArray.toList.countP (eqU w) = pys.countP fun y => PyData.eqv y px := by
        have h1 := eqU_countP (y := w) rv f1
        rw [countP_map_id (fun z => eqV z w), f2, ← countP_map_id] at h1
        exact h1
      refine ⟨.int ((pys.countP fun y => PyData.eqv y px : Nat) : Int), H, I.tok _, ⟨s.toks, ?_⟩, k _ H ρ Ext.refl hp rfl⟩
      show Value.int ((its.toArray.toList.countP (eqU w) : Nat) : Int) s.toks = Value.int _ s.toks
      rw [ec]
  · cases e1
theorem index_D : MtR X "list.index" (liftM X.K .index) := by
  intro pins s σ H x xs v us Q I rx rxs ⟨ρ, S, dx, ds, d, S', hp, r1, r2, e, k⟩
  obtain ⟨n, ys, rfl, hS⟩ := mt_list (by decide) e
  obtain ⟨a, vs, rfl, ea, ha, rs⟩ := lst_at hp hS r1
  unfold mtD at e
  dsimp only at e
  rw [hS] at e
  dsimp only at e
  split at e <;> first | contradiction | skip
  rename_i y _
  obtain ⟨c, e1, e2⟩ := Option.map_eq_some_iff.mp e
  obtain ⟨rfl, rfl⟩ := Prod.mk.inj e2
  obtain ⟨w, rfl, rw'⟩ := repL1 r2
  unfold idxSeq at e1
  split at e1
  · rename_i px pys g1 g2
    obtain ⟨f1, f2⟩ := flats_ok g1 rw' g2 rs
    have fw := (flat_ok g1 rw').1
    have hlen : vs.length = pys.length := by
      have := congrArg List.length f2
      simpa using this
    obtain ⟨hc, hc1, hc2⟩ := List.findIdx?_eq_some_iff_getElem.mp e1
    have hcv : c < vs.length := by omega
    have hat : ∀ m (hm : m < vs.length), eqV vs[m] w = PyData.eqv (pys[m]'(by omega)) px := fun m hm => by
      have h3 := congrArg (fun l => l[m]?) f2
      simp only [List.getElem?_map] at h3
      rw [List.getElem?_eq_getElem hm, List.getElem?_eq_getElem (by omega : m < pys.length)] at h3
      exact Option.some.inj h3
    refine mt_index pins s σ H _ _ v us Q I rx rxs ⟨a, vs, w, c, vs[c], rfl, rfl, SqL.of ha, fw, f1, List.getElem?_eq_getElem hcv, ?_, fun m z hm hz => ?_, k _ H ρ Ext.refl hp rfl⟩
    · rw [hat c hcv]; exact hc1
    · have hmv : m < vs.length := by omega
      rw [List.getElem?_eq_getElem hmv] at hz
      cases hz
      rw [hat m hmv]
      have := hc2 m hm
      simpa using this
  · cases e1
theorem get_D (hu : X.A.units + 1 < cLine) : MtR X "dict.get" (liftM X.K .get) := by
  intro pins s σ H x xs v us Q I rx rxs ⟨ρ, S, dx, ds, d, S', hp, r1, r2, e, k⟩
  cases dx with
  | loc n =>
    unfold mtD at e
    dsimp only at e
    split at e
    · cases e
    · rename_i kvs hS
      obtain ⟨a, ws, rfl, ea, ha, k1, k2⟩ := dic_at hp hS r1
      cases rx
      split at e <;> first | contradiction | skip
      · rename_i kd dd _
        obtain ⟨key, hk, e2⟩ := Option.map_eq_some_iff.mp e
        injection e2 with e3 e4
        subst e3 e4
        obtain ⟨y, z, rfl, ry, rz⟩ := repL2 r2
        obtain ⟨u1, u2, rfl, ru1, ru2⟩ := vals2 rxs
        have := keyOf_ok hk ry
        subst this
        refine d_get2 hu I (DGet.k (k := key) ha) ru1 ru2 fun w' s3 I3 rw' => ⟨_, H, I3, rw', ?_⟩
        refine k _ H ρ Ext.refl hp ?_
        cases h : getG kvs key with
        | none => rw [(getG_ok k1 k2).2.1 h]; exact rz
        | some q =>
          obtain ⟨w, g1, g2⟩ := (getG_ok k1 k2).1 q h
          rw [g1]; exact g2
      · rename_i kd _
        obtain ⟨key, hk, e2⟩ := Option.map_eq_some_iff.mp e
        injection e2 with e3 e4
        subst e3 e4
        obtain ⟨y, rfl, ry⟩ := repL1 r2
        obtain ⟨u1, rfl, ru1⟩ := vals1 rxs
        have := keyOf_ok hk ry
        subst this
        refine d_get1 hu I (DGet.k (k := key) ha) ru1 fun w' s3 I3 rw' => ⟨_, H, I3, rw', ?_⟩
        refine k _ H ρ Ext.refl hp ?_
        cases h : getG kvs key with
        | none => rw [(getG_ok k1 k2).2.1 h]; exact rfl
        | some q =>
          obtain ⟨w, g1, g2⟩ := (getG_ok k1 k2).1 q h
          rw [g1]; exact g2
    · cases e
  | _ => cases e
theorem r_mt (hu : X.A.units + 1 < cLine) {o : E} {m : Mt} {as : Es} {q p : Pos} {fo : StD → Store → Option (D × Store)} {fs : StD → Store → Option (List D × Store)} (ho : PE X (embE o) (tD X.K fo)) (ha : PA X (embEs as) (tDs X.K fs))
    (hb : noCall0 o = true) (hl : (q.endLine == p.line) = true) (hlen : as.len < 20) (hnil : as = .nil → ∀ σ S, fs σ S = some ([], S)) :
    PE X (.Call (.Attribute (embE o) (Str.ofString m.name) q) (embEs as) [] p) (tD X.K fun σ S => bnd (fo σ S) fun x S1 => if recvD m x S1 then bnd (fs σ S1) fun ds S2 => bnd (mtD m x ds S2) fun d S3 => some (gc S d S3) else none) := by
  have core : PE X (.Call (.Attribute (embE o) (Str.ofString m.name) q) (embEs as) [] p) (tD X.K fun σ S => bnd (fo σ S) fun x S1 => if recvD m x S1 then bnd (fs σ S1) fun ds S2 => mtD m x ds S2 else none) := by
    have go : ∀ {id : String}, PlainAttrs m.ty → Slot m.ty (Str.ofString m.name) id → typeOf (.builtin id) = pure (.type "method_descriptor") → MtR X id (liftM X.K m) →
        PE X (.Call (.Attribute (embE o) (Str.ofString m.name) q) (embEs as) [] p) (tD X.K fun σ S => bnd (fo σ S) fun x S1 => if recvD m x S1 then bnd (fs σ S1) fun ds S2 => mtD m x ds S2 else none) := fun {id} pa slot hty hm => by
      cases as with
      | nil =>
        refine (pe_bm0 pa slot hty hm ho (base_e o hb _) hl).imp fun σ H Q ⟨ρ, σD, S, d, S', cc, e, k⟩ => ?_
        obtain ⟨x, S1, e1, e2⟩ := bnd_eq e
        split at e2
        · rename_i hr
          rw [hnil rfl] at e2
          refine ⟨ρ, σD, S, x, S1, cc, e1, fun v H1 ρ1 x1 h1 r1 => ⟨recv_ty h1 hr r1, ρ1, S1, x, [], d, S', h1, r1, rfl, e2, fun v' H' ρ' x' h' r' => k v' H' ρ' (x1.trans x') h' r'⟩⟩
        · cases e2
      | cons a r =>
        refine (pe_bm pa slot hty hm ho ha (base_e o hb _) ?_ hl (star_e a _) (star_any p r)).imp fun σ H Q ⟨ρ, σD, S, d, S', cc, e, k⟩ => ?_
        · have h1 := star_all (env := X.env) p (.cons a r)
          have h2 : (embE a :: embEs r).length < 20 := by
            have := emb_len (.cons a r)
            rw [show embEs (.cons a r) = embE a :: embEs r from rfl] at this
            omega
          rw [show embEs (.cons a r) = embE a :: embEs r from rfl] at h1
          rw [h1]
          show (true && true && decide _) = true
          rw [Bool.true_and, Bool.true_and]
          exact decide_eq_true (by
            show (embE a :: embEs r).length + 0 + 0 < 30
            omega)
        · obtain ⟨x, S1, e1, e2⟩ := bnd_eq e
          split at e2
          · rename_i hr
            obtain ⟨ds, S2, e3, e4⟩ := bnd_eq e2
            refine ⟨ρ, σD, S, x, S1, cc, e1, fun v H1 ρ1 x1 h1 r1 => ⟨recv_ty h1 hr r1, ρ1, σD, S1, ds, S2, cc.ext x1 h1, e3, fun vs H2 ρ2 x2 h2 r2 => ?_⟩⟩
            exact ⟨ρ2, S2, x, ds, d, S', h2, x2.rep h1 _ _ r1, r2, e4, fun v' H' ρ' x' h' r' => k v' H' ρ' ((x1.trans x2).trans x') h' r'⟩
          · cases e2
    cases m with
    | append => exact go PySem.F.plainAttrs_list PySem.F.slot_list_append PySem.F.type_list_append append_D
    | extend => exact go PySem.F.plainAttrs_list PySem.F.slot_list_extend PySem.F.type_list_extend extend_D
    | clear => exact go PySem.F.plainAttrs_list PySem.F.slot_list_clear PySem.F.type_list_clear clear_D
    | pop => exact go PySem.F.plainAttrs_list PySem.F.slot_list_pop PySem.F.type_list_pop pop_D
    | count => exact go PySem.F.plainAttrs_list PySem.F.slot_list_count PySem.F.type_list_count count_D
    | index => exact go PySem.F.plainAttrs_list PySem.F.slot_list_index PySem.F.type_list_index index_D
    | get => exact go PySem.F.plainAttrs_dict PySem.F.slot_dict_get PySem.F.type_dict_get (get_D hu)
  refine (pe_gc core).imp fun σ H Q ⟨ρ, σD, S, d, S', cc, e, k⟩ => ⟨ρ, σD, S, d, S', cc, ?_, k⟩
  obtain ⟨x, S1, e1, e2⟩ := bnd_eq e
  split at e2
  · rename_i hr
    obtain ⟨ds, S2, e3, e4⟩ := bnd_eq e2
    simp only [e1, bnd_some, hr, if_true, e3]
    exact e4
  · cases e2
/-! ### calls -/
/-- a def keeps what the oracle tells -/
def CallOk (P : Program) (w : World) (K : PySem.W.Frag) (mg : Str → Option Value) (base : Heap) (C : Orc) (k : Nat) (f : Str) (n : Nat) (m : Nat) : Prop :=
  ∃ (fa : Addr) (fd : FuncData) (ps : List Str) (dvs : List V) (dsV : List Value) (sp : Sp), mg f = some (.ref fa) ∧ PySem.W.keepIn K (.ref fa) = true ∧ Binds K fd ps dsV ∧ Vals dvs dsV ∧ FnOk P w K mg base CX0 k fa fd ps sp ∧
    ∀ (vs : List V) (H : Hp) (Q : VK), vs.length = m → liftN K (C n) vs H Q → sp (vs ++ dvs) H Q E0
theorem r_call {C : Orc} {k : Nat} {f : Str} {n : Nat} {as : Es} {q p : Pos} {fs : StD → Store → Option (List D × Store)} (hr : Room k X.A) (hk : CallOk X.prog X.w X.K X.mg X.base C k f n as.len) (hg : Gl X f) (hd : (f == ("__debug__" : Str)) = false)
    (ha : PA X (embEs as) (tDs X.K fs)) (hlen : ∀ σ S ds S', fs σ S = some (ds, S') → ds.length = as.len) (hnil : as = .nil → ∀ σ S, fs σ S = some ([], S)) :
    PE X (.Call (.Name f q) (embEs as) [] p) (tD X.K fun σ S => bnd (fs σ S) fun ds S1 => bnd (C n ds S1) fun d S2 => some (gc S d S2)) := by
  obtain ⟨fa, fd, ps, dvs, dsV, sp, h1, h2, h3, h4, h5, h6⟩ := hk
  have core : PE X (.Call (.Name f q) (embEs as) [] p) (tD X.K fun σ S => bnd (fs σ S) fun ds S1 => C n ds S1) := by
    have fin : ∀ {t : TE}, PE X (.Call (.Name f q) (embEs as) [] p) t → (∀ σ H Q, tCall sp dvs E0 (tDs X.K fs) σ H Q → t σ H Q) → PE X (.Call (.Name f q) (embEs as) [] p) (tD X.K fun σ S => bnd (fs σ S) fun ds S1 => C n ds S1) := fun {t} ht hi =>
      ht.imp fun σ H Q ⟨ρ, σD, S, d, S', cc, e, k⟩ => hi σ H Q (by
        obtain ⟨ds, S1, e1, e2⟩ := bnd_eq e
        refine ⟨ρ, σD, S, ds, S1, cc, e1, fun vs H1 ρ1 x1 hp1 r1 => h6 vs H1 Q (by rw [← r1.length]; exact hlen _ _ _ _ e1) ?_⟩
        exact ⟨ρ1, S1, ds, d, S', hp1, r1, e2, fun v' H' ρ' x' h' r' => k v' H' ρ' (x1.trans x') h' r'⟩)
    cases as with
    | nil =>
      refine fin (pe_call0 h5 hr hg h1 h2 h3 h4 pass0 hd) fun σ H Q ⟨ρ, σD, S, ds, S', cc, e, k⟩ => ?_
      rw [hnil rfl] at e
      obtain ⟨rfl, rfl⟩ := inj2 e
      exact k [] H ρ Ext.refl cc.hp rfl
    | cons a r => exact fin (pe_call h5 hr hg h1 h2 h3 h4 pass0 ha hd (star_e a _) (star_any p r)) fun σ H Q h => h
  refine (pe_gc core).imp fun σ H Q ⟨ρ, σD, S, d, S', cc, e, k⟩ => ⟨ρ, σD, S, d, S', cc, ?_, k⟩
  obtain ⟨ds, S1, e1, e2⟩ := bnd_eq e
  simp only [e1, bnd_some]
  exact e2
/-! ### isinstance, list(range) -/
theorem r_isi {a : Expr} {fa : StD → Store → Option (D × Store)} {t : Ty} {q tp p : Pos} (hg : Gl X "isinstance") (hm : X.mg "isinstance" = none) (hg2 : Gl X (Str.ofString t.name)) (hm2 : X.mg (Str.ofString t.name) = none) (ha : PE X a (tD X.K fa))
    (hs : ∀ r, starEach (a :: r) X.env = (false, eval a X.env) :: starEach r X.env) :
    PE X (.Call (.Name "isinstance" q) [a, .Name (Str.ofString t.name) tp] [] p) (tD X.K fun σ S => bnd (fa σ S) fun x S1 => bnd (opt (tyD S1 x) S1) fun n S2 => some (gc S (.bl (isaD n t)) S2)) := by
  have bt : bootBuiltins (Str.ofString t.name) = some (.type t.name) := by
    cases t with
    | int => exact PyProof.Rows.boot_int
    | bool => exact PyProof.Rows.boot_bool
    | str => exact PyProof.Rows.boot_str
    | list => exact PyProof.Rows.boot_list
    | tuple => exact PyProof.Rows.boot_tuple
    | dict => exact PyProof.Rows.boot_dict
  have hty : PE X (.Name (Str.ofString t.name) tp) (tC (.ty t.name)) := pe_bltn hg2 hm2 bt rfl (by cases t <;> decide) (by cases t <;> decide)
  have core : PE X (.Call (.Name "isinstance" q) [a, .Name (Str.ofString t.name) tp] [] p) (tD X.K fun σ S => bnd (fa σ S) fun x S1 => opt ((tyD S1 x).map fun n => .bl (isaD n t)) S1) := by
    refine (pe_callB call_isi hg hm PyProof.Rows.boot_isinstance (pa_cons ha (pa_cons hty pa_nil rfl) (hs _)) (by decide) (by decide) (hs _) rfl).imp fun σ H Q ⟨ρ, σD, S, d, S', cc, e, k⟩ => ?_
    obtain ⟨x, S1, e1, e2⟩ := bnd_eq e
    obtain ⟨e3, e4⟩ := opt_eq e2
    subst S'
    obtain ⟨n, e5, e6⟩ := Option.map_eq_some_iff.mp e3
    subst e6
    exact ⟨ρ, σD, S, x, S1, cc, e1, fun v H1 ρ1 x1 h1 r1 => ⟨v, .ty t.name, _, _, _, rfl, .ty _, ty_at h1 e5 r1, kit1 X.K (ty_mem e5) t, k _ H1 ρ1 x1 h1 rfl⟩⟩
  refine (pe_gc core).imp fun σ H Q ⟨ρ, σD, S, d, S', cc, e, k⟩ => ⟨ρ, σD, S, d, S', cc, ?_, k⟩
  obtain ⟨x, S1, e1, e2⟩ := bnd_eq e
  obtain ⟨n, S2, e3, e4⟩ := bnd_eq e2
  obtain ⟨e5, e6⟩ := opt_eq e3
  subst S2
  simp only [e1, bnd_some, e5, Option.map_some, opt_some]
  exact e4
theorem r_isl {a : Expr} {fa : StD → Store → Option (D × Store)} {kk : Nat} {q p1 p2 tp p : Pos} (hg : Gl X "isinstance") (hm : X.mg "isinstance" = none) (hg2 : Gl X "list") (hm2 : X.mg "list" = none) (hg3 : Gl X "tuple") (hm3 : X.mg "tuple" = none) (ha : PE X a (tD X.K fa))
    (hs : ∀ r, starEach (a :: r) X.env = (false, eval a X.env) :: starEach r X.env) :
    PE X (.Call (.Name "isinstance" q) [a, .Tuple [.Name "list" p1, .Name "tuple" p2] kk tp] [] p) (tD X.K fun σ S => bnd (fa σ S) fun x S1 => bnd (opt (tyD S1 x) S1) fun n S2 => some (gc S (.bl (isaD n .list || isaD n .tuple)) S2)) := by
  have h1 : PE X (.Name "list" p1) (tC (.ty "list")) := pe_bltn hg2 hm2 PyProof.Rows.boot_list rfl
  have h2 : PE X (.Name "tuple" p2) (tC (.ty "tuple")) := pe_bltn hg3 hm3 PyProof.Rows.boot_tuple rfl
  have core : PE X (.Call (.Name "isinstance" q) [a, .Tuple [.Name "list" p1, .Name "tuple" p2] kk tp] [] p) (tD X.K fun σ S => bnd (fa σ S) fun x S1 => opt ((tyD S1 x).map fun n => .bl (isaD n .list || isaD n .tuple)) S1) := by
    refine (pe_callB call_isiT hg hm PyProof.Rows.boot_isinstance (pa_cons ha (pa_cons (pe_tup (pa_cons h1 (pa_cons h2 pa_nil rfl) rfl)) pa_nil rfl) (hs _)) (by decide) (by decide) (hs _) rfl).imp fun σ H Q ⟨ρ, σD, S, d, S', cc, e, k⟩ => ?_
    obtain ⟨x, S1, e1, e2⟩ := bnd_eq e
    obtain ⟨e3, e4⟩ := opt_eq e2
    subst S'
    obtain ⟨n, e5, e6⟩ := Option.map_eq_some_iff.mp e3
    subst e6
    refine ⟨ρ, σD, S, x, S1, cc, e1, fun v H1 ρ1 x1 h1 r1 => ⟨by show 2 ≤ sizeLine; decide, fun pp hn => ?_⟩⟩
    have x2 := Ext.newT (o := .tup [.ty "list", .ty "tuple"]) h1 hn
    have h2 := h1.newT (o := .tup [.ty "list", .ty "tuple"]) hn
    exact ⟨v, pp, _, _, [.type "list", .type "tuple"], _, rfl, upd_same, .cons (.ty _) (.cons (.ty _) .nil), ty_at h2 e5 (x2.rep h1 _ _ r1), kit2 X.K (ty_mem e5), k _ _ ρ1 (x1.trans x2) h2 rfl⟩
  refine (pe_gc core).imp fun σ H Q ⟨ρ, σD, S, d, S', cc, e, k⟩ => ⟨ρ, σD, S, d, S', cc, ?_, k⟩
  obtain ⟨x, S1, e1, e2⟩ := bnd_eq e
  obtain ⟨n, S2, e3, e4⟩ := bnd_eq e2
  obtain ⟨e5, e6⟩ := opt_eq e3
  subst S2
  simp only [e1, bnd_some, e5, Option.map_some, opt_some]
  exact e4
theorem repL_rg {K : PySem.W.Frag} {H : Hp} {ρ : List Addr} : ∀ (n : Nat) (lo : Int), RepL K H ρ (rangeD lo n) ((List.range n).map fun i => V.int (lo + (i : Nat)))
  | 0, _ => rfl
  | n + 1, lo => by
    rw [List.range_succ_eq_map, List.map_cons, List.map_map]
    refine ⟨_, _, rfl, by show V.int (lo + ((0 : Nat) : Int)) = V.int lo; simp, ?_⟩
    have := repL_rg (K := K) (H := H) (ρ := ρ) n (lo + 1)
    have e : ((fun i : Nat => V.int (lo + (i : Int))) ∘ Nat.succ) = fun i : Nat => V.int (lo + 1 + (i : Int)) := by
      funext i
      show V.int (lo + ((i + 1 : Nat) : Int)) = _
      congr 1; omega
    rw [e]; exact this
theorem r_lrg1 {a : Expr} {fa : StD → Store → Option (D × Store)} {q2 p2 q p : Pos} (hc : X.calm = true) (hg : Gl X "list") (hm : X.mg "list" = none) (hg2 : Gl X "range") (hm2 : X.mg "range" = none) (ha : PE X a (tD X.K fa))
    (hs : ∀ r, starEach (a :: r) X.env = (false, eval a X.env) :: starEach r X.env) :
    PE X (.Call (.Name "list" q) [.Call (.Name "range" q2) [a] [] p2] [] p) (tD X.K fun σ S => bnd (bnd (fa σ S) intD) fun i S1 => bnd (opt (rngD 0 i) S1) fun w S3 =>
      if w.items.length ≤ 2 ^ 24 then some (.loc S3.length, S3 ++ [.lst w.items]) else none) := by
  refine (pe_listRg hc hg hm (prg_1 hg2 hm2 ha (hs _)) rfl).imp fun σ H R ⟨ρ, σD, S, w, S', cc, e, k⟩ => ?_
  obtain ⟨i, S1, e1, e2⟩ := bnd_eq e
  obtain ⟨x, S2, e3, e4⟩ := bnd_eq e1
  obtain ⟨ww, S5, e9, e10⟩ := bnd_eq e2
  obtain ⟨e11, e12⟩ := opt_eq e9
  subst S5
  cases x <;> first | (cases e4; done) | skip
  obtain ⟨rfl, rfl⟩ := inj2 e4
  unfold rngD at e11
  split at e11
  · rename_i hb'
    cases e11
    split at e10
    · rename_i hl
      obtain ⟨rfl, rfl⟩ := inj2 e10
      refine ⟨ρ, σD, S, _, _, cc, e3, fun v H1 ρ1 x1 h1 r1 => ?_⟩
      rw [rangeD_len] at hl
      refine ⟨_, r1, ⟨hb'.1, hb'.2.1, hb'.2.2.1, hb'.2.2.2, hl⟩, fun pp hn => ?_⟩
      exact k _ _ (ρ1 ++ [pp]) (x1.trans (Ext.newL h1 hn)) (h1.newLst hn (repL_rg _ _)) h1.newLoc
    · cases e10
  · cases e11
theorem r_lrg {a b : Expr} {fa fb : StD → Store → Option (D × Store)} {q2 p2 q p : Pos} (hc : X.calm = true) (hg : Gl X "list") (hm : X.mg "list" = none) (hg2 : Gl X "range") (hm2 : X.mg "range" = none) (ha : PE X a (tD X.K fa)) (hb : PE X b (tD X.K fb))
    (hs : ∀ r, starEach (a :: r) X.env = (false, eval a X.env) :: starEach r X.env) (hs2 : ∀ r, starEach (b :: r) X.env = (false, eval b X.env) :: starEach r X.env) :
    PE X (.Call (.Name "list" q) [.Call (.Name "range" q2) [a, b] [] p2] [] p) (tD X.K fun σ S => bnd (bnd (fa σ S) intD) fun i S1 => bnd (bnd (fb σ S1) intD) fun j S2 => bnd (opt (rngD i j) S2) fun w S3 =>
      if w.items.length ≤ 2 ^ 24 then some (.loc S3.length, S3 ++ [.lst w.items]) else none) := by
  refine (pe_listRg hc hg hm (prg_2 hg2 hm2 ha hb (hs _) (hs2 _) (by rw [hs2]; rfl)) rfl).imp fun σ H R ⟨ρ, σD, S, w, S', cc, e, k⟩ => ?_
  obtain ⟨i, S1, e1, e2⟩ := bnd_eq e
  obtain ⟨x, S2, e3, e4⟩ := bnd_eq e1
  obtain ⟨j, S3, e5, e6⟩ := bnd_eq e2
  obtain ⟨y, S4, e7, e8⟩ := bnd_eq e5
  obtain ⟨ww, S5, e9, e10⟩ := bnd_eq e6
  obtain ⟨e11, e12⟩ := opt_eq e9
  subst S5
  cases x <;> first | (cases e4; done) | skip
  obtain ⟨rfl, rfl⟩ := inj2 e4
  cases y <;> first | (cases e8; done) | skip
  obtain ⟨rfl, rfl⟩ := inj2 e8
  unfold rngD at e11
  split at e11
  · rename_i hb'
    cases e11
    split at e10
    · rename_i hl
      obtain ⟨rfl, rfl⟩ := inj2 e10
      refine ⟨ρ, σD, S, _, _, cc, e3, fun v H1 ρ1 x1 h1 r1 => ⟨ρ1, σD, _, _, _, cc.ext x1 h1, e7, fun v2 H2 ρ2 x2 h2 r2 => ?_⟩⟩
      rw [rangeD_len] at hl
      refine ⟨_, _, r1, r2, ⟨hb'.1, hb'.2.1, hb'.2.2.1, hb'.2.2.2, hl⟩, fun pp hn => ?_⟩
      exact k _ _ (ρ2 ++ [pp]) ((x1.trans x2).trans (Ext.newL h2 hn)) (h2.newLst hn (repL_rg _ _)) h2.newLoc
    · cases e10
  · cases e11
end
end Mi

end

section
/-! Mi9: the language is sound. -/
namespace Mi
open PySem PySem.Spec L2
def bltNames : List Str := ["len", "int", "tuple", "list", "min", "max", "abs", "dict", "isinstance", "range", "enumerate", "bool", "str", "sum", "any", "all", "sorted", "zip", "repr", "reversed", "set"]
/-- a tuple of the written part -/
def TupK (K : PySem.W.Frag) (a : Addr) (vs : List V) : Prop := ∃ (o : Obj) (its : Array Value) (n : Nat), K.lookup a = some o ∧ o.cls = .type "tuple" ∧ o.dict = none ∧ o.data = .seq its n ∧ its.size ≤ sizeLine ∧ Vals vs its.toList
def TupOk (K : PySem.W.Frag) (mg : Str → Option Value) (x : Str) (ds : List D) : Prop := ∃ a vs, mg x = some (.ref a) ∧ TupK K a vs ∧ ∀ H ρ, RepL K H ρ ds vs
structure Good (Γ : Tab) (C : Orc) (k : Nat) (X : Cx) : Prop where
  calm : X.calm = true
  nd : X.N.Nodup
  xe : X.xe = fun _ _ => False
  room : Room k X.A
  kind : X.env.scope.kind = .function
  blt : ∀ x ∈ bltNames, X.mg x = none
  cal : ∀ f n m, Γ.cal f n m = true → CallOk X.prog X.w X.K X.mg X.base C k f n m
  glo : ∀ x i, Γ.glo x = some i → ∃ t, X.mg x = some (.int i t)
  tup : ∀ x ds, Γ.tup x = some ds → TupOk X.K X.mg x ds
theorem Good.u1 {Γ : Tab} {C : Orc} {k : Nat} {X : Cx} (G : Good Γ C k X) : X.A.units + 1 < cLine := by have := G.room.un; omega
theorem Good.u65 {Γ : Tab} {C : Orc} {k : Nat} {X : Cx} (G : Good Γ C k X) : X.A.units + 65 < cLine := by have := G.room.un; omega
theorem Good.blk {Γ : Tab} {C : Orc} {k : Nat} {X : Cx} (G : Good Γ C k X) {scope : Scope} (hk : scope.kind = .function) (s : Shared) (H : Hp) (C' : Addr) (cl : List (Str × Addr)) (fp : List Addr) : Good Γ C k (X.blk s H scope (compEnvC scope cl C' X.env) fp) :=
  ⟨G.calm, G.nd, rfl, G.room, hk, G.blt, G.cal, G.glo, G.tup⟩
theorem relab_eq (X : Cx) (scope : Scope) (cl : List (Str × Addr)) (C' : Addr) : (compEnvC scope cl C' X.env).scope = relab X.env.scope scope := rfl
theorem gl_of {X : Cx} {x : Str} (h : glB X.env.scope x = true) : Gl X x ∧ (x == ("__debug__" : Str)) = false := by
  unfold glB at h
  rw [Bool.and_eq_true] at h
  constructor
  · have h1 := h.1
    split at h1
    · assumption
    · cases h1
  · simpa using h.2
theorem vis_of {sc : Scope} {x : Str} (h : visB sc x = true) : Vis sc x := by
  unfold visB at h
  split at h <;> first | exact .inl (by assumption) | exact .inr (.inl (by assumption)) | exact .inr (.inr (by assumption)) | cases h
theorem loc_of {sc : Scope} {fn : Str → Bool} {x : Str} (h : locB sc fn x = true) : Loc sc x ∧ (fn x = true ∨ sc.names.lookup x = some .local) := by
  unfold locB at h
  split at h
  · exact ⟨.inl (by assumption), .inr (by assumption)⟩
  · exact ⟨.inr (by assumption), .inl h⟩
  · cases h
def Bi.val : Bi → Value
  | .len => .builtin "len" | .int => .type "int" | .tuple => .type "tuple" | .list => .type "list" | .min => .builtin "min" | .max => .builtin "max" | .abs => .builtin "abs" | .dict => .type "dict" | .sum => .builtin "sum" | .any => .builtin "any" | .all => .builtin "all"
theorem bi_in (f : Bi) : Str.ofString f.name ∈ bltNames := by cases f <;> decide
section
variable {X : Cx}
theorem r_bi (hc : X.calm = true) {f : Bi} {as : Es} {q p : Pos} {fs : StD → Store → Option (List D × Store)} (hg : Gl X (Str.ofString f.name)) (hm : X.mg (Str.ofString f.name) = none) (ha : PA X (embEs as) (tDs X.K fs))
    (hlen : ∀ σ S ds S', fs σ S = some (ds, S') → ds.length = as.len) :
    PE X (.Call (.Name (Str.ofString f.name) q) (embEs as) [] p) (tD X.K fun σ S => bnd (fs σ S) fun ds S1 => bnd (biD f ds S1) fun d S2 => some (gc S d S2)) := by
  have core : PE X (.Call (.Name (Str.ofString f.name) q) (embEs as) [] p) (tD X.K fun σ S => bnd (fs σ S) fun ds S1 => biD f ds S1) := by
    cases as with
    | nil =>
      refine pe_no fun σ H Q ⟨ρ, σD, S, d, S', cc, e, k⟩ => ?_
      obtain ⟨ds, S1, e1, e2⟩ := bnd_eq e
      have el : ds = [] := List.eq_nil_of_length_eq_zero (hlen _ _ _ _ e1)
      subst el
      cases f <;> cases e2
    | cons a r =>
      have nm : Str.ofString f.name ≠ "__name__" := by cases f <;> decide
      have db : (Str.ofString f.name == ("__debug__" : Str)) = false := by cases f <;> decide
      cases f with
      | len => exact (pe_callB len_D hg hm PySem.boot_len ha nm db (star_e a _) (star_any p r)).imp fun _ _ _ => tD_N
      | int => exact (pe_callTy int_D hg hm PyProof.Rows.boot_int ha nm db (star_e a _) (star_any p r)).imp fun _ _ _ => tD_N
      | tuple => exact (pe_callTy tuple_D hg hm PyProof.Rows.boot_tuple ha nm db (star_e a _) (star_any p r)).imp fun _ _ _ => tD_N
      | list => exact (pe_callTy list_D hg hm PyProof.Rows.boot_list ha nm db (star_e a _) (star_any p r)).imp fun _ _ _ => tD_N
      | min => exact (pe_callB (min_D hc) hg hm PyProof.Rows.boot_min ha nm db (star_e a _) (star_any p r)).imp fun _ _ _ => tD_N
      | max => exact (pe_callB (max_D hc) hg hm PyProof.Rows.boot_max ha nm db (star_e a _) (star_any p r)).imp fun _ _ _ => tD_N
      | abs => exact (pe_callB abs_D hg hm PyProof.Rows.boot_abs ha nm db (star_e a _) (star_any p r)).imp fun _ _ _ => tD_N
      | sum => exact (pe_callB (sum_D hc) hg hm (by decide +kernel) ha nm db (star_e a _) (star_any p r)).imp fun _ _ _ => tD_N
      | any => exact (pe_callB (any_D hc) hg hm (by decide +kernel) ha nm db (star_e a _) (star_any p r)).imp fun _ _ _ => tD_N
      | all => exact (pe_callB (all_D hc) hg hm (by decide +kernel) ha nm db (star_e a _) (star_any p r)).imp fun _ _ _ => tD_N
      | dict => exact (pe_callTy (dict_D hc) hg hm PyProof.Rows.boot_dict ha nm db (star_e a _) (star_any p r)).imp fun _ _ _ => tD_N
  refine (pe_gc core).imp fun σ H Q ⟨ρ, σD, S, d, S', cc, e, k⟩ => ⟨ρ, σD, S, d, S', cc, ?_, k⟩
  obtain ⟨ds, S1, e1, e2⟩ := bnd_eq e
  simp only [e1, bnd_some]
  exact e2
end
theorem r_gtp {X : Cx} {x : Str} {ds : List D} {p : Pos} (hg : Gl X x) (h : TupOk X.K X.mg x ds) (hd : (x == ("__debug__" : Str)) = false) : PE X (.Name x p) (tD X.K fun _ S => some (.tup ds, S)) := by
  obtain ⟨a, vs, hm, ht, hr⟩ := h
  refine (pe_glob (v := .ref a) hg hm rfl hd).imp fun σ H Q ⟨ρ, σD, S, d, S', c, e, k⟩ => ?_
  obtain ⟨rfl, rfl⟩ := inj2 e
  exact k _ H ρ Ext.refl c.hp ⟨a, vs, rfl, .inr ht, hr H ρ⟩
theorem evEs_len (C : Orc) : ∀ (es : Es) (σ : StD) (S : Store) (ds : List D) (S' : Store), evEs C es σ S = some (ds, S') → ds.length = es.len
  | .nil, σ, S, ds, S', h => by obtain ⟨rfl, rfl⟩ := inj2 (show some ([], S) = some (ds, S') from h); rfl
  | .cons e r, σ, S, ds, S', h => by
    obtain ⟨d, S1, e1, e2⟩ := bnd_eq (show bnd ((ev C e).e σ S) _ = some (ds, S') from h)
    obtain ⟨es, S2, e3, e4⟩ := bnd_eq e2
    obtain ⟨rfl, rfl⟩ := inj2 e4
    rw [List.length_cons, evEs_len C r σ S1 es _ e3]; rfl
theorem and2 {a b : Bool} (h : (a && b) = true) : a = true ∧ b = true := by simpa using h
theorem and3 {a b c : Bool} (h : (a && b && c) = true) : a = true ∧ b = true ∧ c = true := by simp only [Bool.and_eq_true] at h; exact ⟨h.1.1, h.1.2, h.2⟩
section
variable {Γ : Tab} {C : Orc} {k : Nat}
mutual
theorem sndE : ∀ (e : E) (X : Cx) (G : Good Γ C k X), wfE Γ X.N X.env.scope X.fn e = true → PE X (embE e) (tD X.K (ev C e).e) ∧ PT X (embE e) (tDB X.K (ev C e).b)
  | .con c n p, X, G, h => have h1 : PE X _ (tD X.K _) := r_con; ⟨h1, t_truth h1 (truth_e (.con c n p) rfl)⟩
  | .var i x p, X, G, h => by
    obtain ⟨h12, h3⟩ := and2 (show (decide (X.N[i]? = some x) && visB X.env.scope x && !(x == ("__debug__" : Str)) && !(x == ("__classdict__" : Str))) = true from h)
    obtain ⟨h1, h2, h4⟩ := and3 h12
    have hh : PE X _ (tD X.K _) := r_var (p := p) (of_decide_eq_true h1) (vis_of h2) (by simpa using h4) (by simpa using h3)
    exact ⟨hh, t_truth hh (truth_e (.var i x p) rfl)⟩
  | .glo x i p, X, G, h => by
    obtain ⟨h1, h2⟩ := and2 (show (glB X.env.scope x && decide (Γ.glo x = some i)) = true from h)
    obtain ⟨t, ht⟩ := G.glo x i (of_decide_eq_true h2)
    have hh : PE X _ (tD X.K _) := r_glo (p := p) (gl_of h1).1 ht ⟨t, rfl⟩ (gl_of h1).2
    exact ⟨hh, t_truth hh (truth_e (.glo x i p) rfl)⟩
  | .tup es n p, X, G, h => by
    have hh : PE X _ (tD X.K _) := r_tup (p := p) (k := n) (sndEs es X G h)
    exact ⟨hh, t_truth hh (truth_e (.tup es n p) rfl)⟩
  | .lst es p, X, G, h => by
    have hh : PE X _ (tD X.K _) := r_lst (p := p) (sndEs es X G h)
    exact ⟨hh, t_truth hh (truth_e (.lst es p) rfl)⟩
  | .dct p, X, G, h => by
    have hh : PE X _ (tD X.K _) := r_dct (p := p)
    exact ⟨hh, t_truth hh (truth_e (.dct p) rfl)⟩
  | .op o a b p, X, G, h => by
    obtain ⟨h1, h2⟩ := and2 (show (wfE Γ X.N X.env.scope X.fn a && wfE Γ X.N X.env.scope X.fn b) = true from h)
    have hh : PE X _ (tD X.K _) := r_op (p := p) o (sndE a X G h1).1 (sndE b X G h2).1
    exact ⟨hh, t_truth hh (truth_e (.op o a b p) rfl)⟩
  | .neg a p, X, G, h => by
    have hh : PE X _ (tD X.K _) := r_neg (p := p) (sndE a X G h).1
    exact ⟨hh, t_truth hh (truth_e (.neg a p) rfl)⟩
  | .not a p, X, G, h => ⟨r_not (sndE a X G h).1, t_not (sndE a X G h).2⟩
  | .bop o es p, X, G, h => by
    obtain ⟨h1, h2⟩ := and2 (show (wfEs Γ X.N X.env.scope X.fn es && decide (0 < es.len)) = true from h)
    exact sndBop o es p X G h1 (of_decide_eq_true h2)
  | .cmp o a b p, X, G, h => by
    obtain ⟨h1, h2⟩ := and2 (show (wfE Γ X.N X.env.scope X.fn a && wfE Γ X.N X.env.scope X.fn b) = true from h)
    exact ⟨r_cmp G.u65 o (sndE a X G h1).1 (sndE b X G h2).1 (noSet o b), t_cmp G.u65 o (sndE a X G h1).1 (sndE b X G h2).1 (noSet o b)⟩
  | .chn o q a b c p, X, G, h => by
    obtain ⟨h1, h2, h3⟩ := and3 (show (wfE Γ X.N X.env.scope X.fn a && wfE Γ X.N X.env.scope X.fn b && wfE Γ X.N X.env.scope X.fn c) = true from h)
    exact ⟨r_chn G.u65 o q (sndE a X G h1).1 (sndE b X G h2).1 (sndE c X G h3).1 (noSet2 o q b c), t_chn G.u65 o q (sndE a X G h1).1 (sndE b X G h2).1 (sndE c X G h3).1 (noSet2 o q b c)⟩
  | .ifx c a b p, X, G, h => by
    obtain ⟨h1, h2, h3⟩ := and3 (show (wfE Γ X.N X.env.scope X.fn c && wfE Γ X.N X.env.scope X.fn a && wfE Γ X.N X.env.scope X.fn b) = true from h)
    exact ⟨r_ifx (sndE c X G h1).2 (sndE a X G h2).1 (sndE b X G h3).1, t_ifx (sndE c X G h1).2 (sndE a X G h2).2 (sndE b X G h3).2⟩
  | .ix a i p, X, G, h => by
    obtain ⟨h1, h2⟩ := and2 (show (wfE Γ X.N X.env.scope X.fn a && wfE Γ X.N X.env.scope X.fn i) = true from h)
    have hh : PE X _ (tD X.K _) := r_ix (p := p) G.u1 (sndE a X G h1).1 (sndE i X G h2).1 (plainIx i)
    exact ⟨hh, t_truth hh (truth_e (.ix a i p) rfl)⟩
  | .sl a lo hi q p, X, G, h => by
    obtain ⟨h1, h2, h3⟩ := and3 (show (wfE Γ X.N X.env.scope X.fn a && wfEo Γ X.N X.env.scope X.fn lo && wfEo Γ X.N X.env.scope X.fn hi) = true from h)
    have hh : PE X _ (tD X.K _) := r_sl (p := p) (p2 := q) (sndE a X G h1).1 (sndEo lo X G h2).1 (sndEo hi X G h3).1
    exact ⟨hh, t_truth hh (truth_e (.sl a lo hi q p) rfl)⟩
  | .rev a n p1 p2 p3 p, X, G, h => by
    have hh : PE X _ (tD X.K _) := r_rev (k := n) (p1 := p1) (p2 := p2) (p3 := p3) (p := p) (sndE a X G h).1
    exact ⟨hh, t_truth hh (truth_e (.rev a n p1 p2 p3 p) rfl)⟩
  | .gtp x ds p, X, G, h => by
    obtain ⟨h1, h2⟩ := and2 (show (glB X.env.scope x && (match Γ.tup x with | some es => D.beqL es ds | none => false)) = true from h)
    have h3 : Γ.tup x = some ds := by
      cases e : Γ.tup x with
      | none => rw [e] at h2; cases h2
      | some es => rw [e] at h2; rw [D.beqL_eq h2]
    have hh : PE X _ (tD X.K _) := r_gtp (p := p) (gl_of h1).1 (G.tup x ds h3) (gl_of h1).2
    exact ⟨hh, t_truth hh (truth_e (.gtp x ds p) rfl)⟩
  | .call f n as q p, X, G, h => by
    obtain ⟨h1, h2, h3⟩ := and3 (show (glB X.env.scope f && Γ.cal f n as.len && wfEs Γ X.N X.env.scope X.fn as) = true from h)
    have hh : PE X _ (tD X.K _) := r_call (q := q) (p := p) G.room (G.cal f n as.len h2) (gl_of h1).1 (gl_of h1).2 (sndEs as X G h3) (fun σ S ds S' e => evEs_len C as σ S ds S' e) (fun e σ S => by subst e; rfl)
    exact ⟨hh, t_truth hh (truth_e (.call f n as q p) rfl)⟩
  | .bi f as q p, X, G, h => by
    obtain ⟨h1, h2⟩ := and2 (show (glB X.env.scope (Str.ofString f.name) && wfEs Γ X.N X.env.scope X.fn as) = true from h)
    have hh : PE X _ (tD X.K _) := r_bi (q := q) (p := p) G.calm (gl_of h1).1 (G.blt _ (bi_in f)) (sndEs as X G h2) (fun σ S ds S' e => evEs_len C as σ S ds S' e)
    exact ⟨hh, t_truth hh (truth_e (.bi f as q p) rfl)⟩
  | .mxd gr a d q kp p, X, G, h => by
    obtain ⟨h1, h2, h3⟩ := and3 (show (glB X.env.scope (Str.ofString (if gr then "max" else "min")) && wfE Γ X.N X.env.scope X.fn a && wfE Γ X.N X.env.scope X.fn d) = true from h)
    have hh : PE X _ (tD X.K _) := r_mxd (q := q) (p := p) (kp := kp) G.calm G.u65 gr (gl_of h1).1 (G.blt _ (by cases gr <;> decide)) (sndE a X G h2).1 (sndE d X G h3).1 (star_e a [])
    exact ⟨hh, t_truth hh (truth_e (.mxd gr a d q kp p) rfl)⟩
  | .isi a t q tp p, X, G, h => by
    obtain ⟨h1, h2, h3⟩ := and3 (show (glB X.env.scope "isinstance" && glB X.env.scope (Str.ofString t.name) && wfE Γ X.N X.env.scope X.fn a) = true from h)
    have hh : PE X _ (tD X.K _) := r_isi (q := q) (tp := tp) (p := p) (gl_of h1).1 (G.blt _ (by decide)) (gl_of h2).1 (G.blt _ (by cases t <;> decide)) (sndE a X G h3).1 (star_e a)
    exact ⟨hh, t_truth hh (truth_e (.isi a t q tp p) rfl)⟩
  | .isl a n q p1 p2 tp p, X, G, h => by
    obtain ⟨h12, h3⟩ := and2 (show (glB X.env.scope "isinstance" && glB X.env.scope "list" && glB X.env.scope "tuple" && wfE Γ X.N X.env.scope X.fn a) = true from h)
    obtain ⟨h1, h2, h4⟩ := and3 h12
    have hh : PE X _ (tD X.K _) := r_isl (kk := n) (q := q) (p1 := p1) (p2 := p2) (tp := tp) (p := p) (gl_of h1).1 (G.blt _ (by decide)) (gl_of h2).1 (G.blt _ (by decide)) (gl_of h4).1 (G.blt _ (by decide)) (sndE a X G h3).1 (star_e a)
    exact ⟨hh, t_truth hh (truth_e (.isl a n q p1 p2 tp p) rfl)⟩
  | .lrg a b q2 p2 q p, X, G, h => by
    obtain ⟨h12, h3⟩ := and2 (show (glB X.env.scope "list" && glB X.env.scope "range" && wfE Γ X.N X.env.scope X.fn a && wfE Γ X.N X.env.scope X.fn b) = true from h)
    obtain ⟨h1, h2, h4⟩ := and3 h12
    have hh : PE X _ (tD X.K _) := r_lrg (q2 := q2) (p2 := p2) (q := q) (p := p) G.calm (gl_of h1).1 (G.blt _ (by decide)) (gl_of h2).1 (G.blt _ (by decide)) (sndE a X G h4).1 (sndE b X G h3).1 (star_e a) (star_e b)
    exact ⟨hh, t_truth hh (truth_e (.lrg a b q2 p2 q p) rfl)⟩
  | .lrg1 a q2 p2 q p, X, G, h => by
    obtain ⟨h1, h2, h4⟩ := and3 (show (glB X.env.scope "list" && glB X.env.scope "range" && wfE Γ X.N X.env.scope X.fn a) = true from h)
    have hh : PE X _ (tD X.K _) := r_lrg1 (q2 := q2) (p2 := p2) (q := q) (p := p) G.calm (gl_of h1).1 (G.blt _ (by decide)) (gl_of h2).1 (G.blt _ (by decide)) (sndE a X G h4).1 (star_e a)
    exact ⟨hh, t_truth hh (truth_e (.lrg1 a q2 p2 q p) rfl)⟩
  | .mt o m as q p, X, G, h => by
    obtain ⟨h123, h4, h5⟩ := and3 (show (noCall0 o && wfE Γ X.N X.env.scope X.fn o && wfEs Γ X.N X.env.scope X.fn as && (q.endLine == p.line) && decide (as.len < 20)) = true from h)
    obtain ⟨h1, h2, h3⟩ := and3 h123
    have hh : PE X _ (tD X.K _) := r_mt (m := m) G.u1 (sndE o X G h2).1 (sndEs as X G h3) h1 h4 (of_decide_eq_true h5) (fun e σ S => by subst e; rfl)
    exact ⟨hh, t_truth hh (truth_e (.mt o m as q p) rfl)⟩
  | .lc e g it c own scx p, X, G, h => by
    have hh : PE X (embE (.lc e g it c own scx p)) (tD X.K (ev C (.lc e g it c own scx p)).e) := by
      obtain ⟨h1234, h5, h6⟩ := and3 (show (wfI Γ X.N X.env.scope X.fn (isTp g) it && blkC X.N X.env.scope scx own && (slots g).all (fun j => (own.map (·.2)).contains j) &&
        wfG Γ X.N (relab X.env.scope scx) (fun x => scx.names.lookup x == some .cell) g && wfEo Γ X.N (relab X.env.scope scx) (fun x => scx.names.lookup x == some .cell) c && wfE Γ X.N (relab X.env.scope scx) (fun x => scx.names.lookup x == some .cell) e) = true from h)
      obtain ⟨h12, h3, h4⟩ := and3 h1234
      obtain ⟨h1, h2⟩ := and2 h12
      have ok := blkOk_by h2
      refine r_lc (sl := slots g) (p := p) G.calm G.nd (sndI it X G g h1) ok (fun s H C' cl fp => ?_) (fun s H C' cl fp => ?_) (fun s H C' cl fp => ?_) (folded_i it) fun j hj => ?_
      · exact sndG g _ (G.blk ok.kind s H C' cl fp) h4
      · exact (sndEo c _ (G.blk ok.kind s H C' cl fp) h5).2
      · exact (sndE e _ (G.blk ok.kind s H C' cl fp) h6).1
      · have := List.all_eq_true.mp h3 j hj
        simpa using this
    exact ⟨hh, t_truth hh (truth_e (.lc e g it c own scx p) rfl)⟩
theorem sndBop : ∀ (o : BoolOp) (es : Es) (p : Pos) (X : Cx) (G : Good Γ C k X), wfEs Γ X.N X.env.scope X.fn es = true → 0 < es.len → PE X (.BoolOp o (embEs es) p) (tD X.K (evBop C o es)) ∧ PT X (.BoolOp o (embEs es) p) (tDB X.K (evBB C o es))
  | o, .nil, p, X, G, h, hl => absurd hl (Nat.lt_irrefl 0)
  | o, .cons a .nil, p, X, G, h, hl => by
    obtain ⟨h1, h2⟩ := and2 (show (wfE Γ X.N X.env.scope X.fn a && wfEs Γ X.N X.env.scope X.fn .nil) = true from h)
    exact ⟨pe_one (sndE a X G h1).1, (w_one (sndE a X G h1).2).pt⟩
  | o, .cons a (.cons b r), p, X, G, h, hl => by
    obtain ⟨h1, h2⟩ := and2 (show (wfE Γ X.N X.env.scope X.fn a && wfEs Γ X.N X.env.scope X.fn (.cons b r)) = true from h)
    exact ⟨r_more (sndE a X G h1).1 (sndBop o (.cons b r) p X G h2 (Nat.succ_pos _)).1, (w_more (sndE a X G h1).2 (sndW o (.cons b r) p X G h2 (Nat.succ_pos _))).pt⟩
theorem sndW : ∀ (o : BoolOp) (es : Es) (p : Pos) (X : Cx) (G : Good Γ C k X), wfEs Γ X.N X.env.scope X.fn es = true → 0 < es.len → PW X (.BoolOp o (embEs es) p) (tDB X.K (evBB C o es))
  | o, .nil, p, X, G, h, hl => absurd hl (Nat.lt_irrefl 0)
  | o, .cons a .nil, p, X, G, h, hl => by
    obtain ⟨h1, h2⟩ := and2 (show (wfE Γ X.N X.env.scope X.fn a && wfEs Γ X.N X.env.scope X.fn .nil) = true from h)
    exact w_one (sndE a X G h1).2
  | o, .cons a (.cons b r), p, X, G, h, hl => by
    obtain ⟨h1, h2⟩ := and2 (show (wfE Γ X.N X.env.scope X.fn a && wfEs Γ X.N X.env.scope X.fn (.cons b r)) = true from h)
    exact w_more (sndE a X G h1).2 (sndW o (.cons b r) p X G h2 (Nat.succ_pos _))
theorem sndEs : ∀ (es : Es) (X : Cx) (G : Good Γ C k X), wfEs Γ X.N X.env.scope X.fn es = true → PA X (embEs es) (tDs X.K (evEs C es))
  | .nil, X, G, h => r_nil
  | .cons e r, X, G, h => by
    obtain ⟨h1, h2⟩ := and2 (show (wfE Γ X.N X.env.scope X.fn e && wfEs Γ X.N X.env.scope X.fn r) = true from h)
    exact r_cons (sndE e X G h1).1 (sndEs r X G h2) (star_e e _)
theorem sndEo : ∀ (eo : Eo) (X : Cx) (G : Good Γ C k X), wfEo Γ X.N X.env.scope X.fn eo = true → PO X (embEo eo) (tDo X.K (evEo C eo)) ∧ PTs X (embIf eo) (tDB X.K (evIf C eo))
  | .none, X, G, h => ⟨o_none, ts_none⟩
  | .some e, X, G, h => ⟨o_some (sndE e X G h).1, pts_one (sndE e X G h).2⟩
theorem sndI : ∀ (it : I) (X : Cx) (G : Good Γ C k X) (g : Mi.G), wfI Γ X.N X.env.scope X.fn (isTp g) it = true → PI X (embG g) (embI it) (tI X.K (evI C it))
  | .ex e, X, G, g, h => r_seq (sndE e X G h).1
  | .rng1 a q p, X, G, g, h => by
    obtain ⟨h1, h2⟩ := and2 (show (glB X.env.scope "range" && wfE Γ X.N X.env.scope X.fn a) = true from h)
    exact r_rng1 (gl_of h1).1 (G.blt _ (by decide)) (sndE a X G h2).1 (star_e a [])
  | .rng2 a b q p, X, G, g, h => by
    obtain ⟨h1, h2, h3⟩ := and3 (show (glB X.env.scope "range" && wfE Γ X.N X.env.scope X.fn a && wfE Γ X.N X.env.scope X.fn b) = true from h)
    exact r_rng2 (gl_of h1).1 (G.blt _ (by decide)) (sndE a X G h2).1 (sndE b X G h3).1 (by rw [star_e, star_e]; rfl) (star_e b [])
  | .rng3 a b c q p, X, G, g, h => by
    obtain ⟨h12, h3⟩ := and2 (show (glB X.env.scope "range" && wfE Γ X.N X.env.scope X.fn a && wfE Γ X.N X.env.scope X.fn b && wfE Γ X.N X.env.scope X.fn c) = true from h)
    obtain ⟨h1, h2, h4⟩ := and3 h12
    exact r_rng3 (gl_of h1).1 (G.blt _ (by decide)) (sndE a X G h2).1 (sndE b X G h4).1 (sndE c X G h3).1 (star_e a) (star_e b) (star_e c)
  | .enm e q p, X, G, g, h => by
    obtain ⟨h1, h2, h3⟩ := and3 (show (isTp g && glB X.env.scope "enumerate" && wfE Γ X.N X.env.scope X.fn e) = true from h)
    cases g with
    | tp gs n tp => exact r_enm (gl_of h2).1 (G.blt _ (by decide)) (sndE e X G h3).1 (star_e e [])
    | nm i x pp => cases h1
    | sb o i pp => cases h1
theorem sndG : ∀ (g : Mi.G) (X : Cx) (G : Good Γ C k X), wfG Γ X.N X.env.scope X.fn g = true → PG X (embG g) (tG X.K (slots g) (evG C g))
  | .nm i x p, X, G, h => by
    obtain ⟨h1, h2⟩ := and2 (show (decide (X.N[i]? = some x) && locB X.env.scope X.fn x) = true from h)
    exact g_nm G.nd (of_decide_eq_true h1) (loc_of h2).1 (loc_of h2).2
  | .tp gs n p, X, G, h => g_tp (n := gs.len) G.calm (sndGs gs X G h) (asgE_len gs) (asgE_star gs) (fun ds σ S r e => evGs_len C gs ds σ S r e)
  | .sb o i p, X, G, h => by
    obtain ⟨h1, h2⟩ := and2 (show (wfE Γ X.N X.env.scope X.fn o && wfE Γ X.N X.env.scope X.fn i) = true from h)
    exact g_sb G.u1 (sndE o X G h1).1 (sndE i X G h2).1 (asg_sb o i p)
theorem sndGs : ∀ (gs : Gs) (X : Cx) (G : Good Γ C k X), wfGs Γ X.N X.env.scope X.fn gs = true → PGs X (embGs gs) (tGs X.K (slotsL gs) (evGs C gs))
  | .nil, X, G, h => gs_nil
  | .cons g r, X, G, h => by
    obtain ⟨h1, h2⟩ := and2 (show (wfG Γ X.N X.env.scope X.fn g && wfGs Γ X.N X.env.scope X.fn r) = true from h)
    exact gs_cons (sndG g X G h1) (sndGs r X G h2) (by rw [asgE_g]; rfl)
end
end
end Mi

end

section
/-! Mi10: statements are sound. -/
namespace Mi
open PySem PySem.Spec L2
theorem sw_of {env : Env} {ts vs : List Expr} {k k' : Nat} {p p' : Pos} {r : Option (List Str)} (h : swKind env.scope ts vs = some r) : swappedStores [.Tuple ts k p] (.Tuple vs k' p') env = pure r := by
  have e : swappedStores [.Tuple ts k p] (.Tuple vs k' p') env = swappedStores [.Tuple ts 0 ⟨0, 0, 0, 0⟩] (.Tuple vs 0 ⟨0, 0, 0, 0⟩) { scope := env.scope, locals := 0, globals := 0, cells := [] } := rfl
  rw [e]
  unfold swKind at h
  split at h
  · rename_i q hq
    cases h
    exact hq
  · cases h
theorem loc_is {sc : Scope} {x : Str} (h : isLocal sc x = true) : sc.names.lookup x = some .local := by
  unfold isLocal at h
  split at h
  · assumption
  · cases h
section
variable {X : Cx} {p : Pos}
theorem s_par2 {C : Orc} {i j : Nat} {x y : Str} {a b : Expr} {px py pt : Pos} {kt k2 pt2} {fs : StD → Store → Option (List D × Store)} (hc : X.calm = true) (hN : X.N.Nodup) (hi : X.N[i]? = some x) (hj : X.N[j]? = some y) (hij : i ≠ j)
    (hx : X.env.scope.names.lookup x = some .local) (hy : X.env.scope.names.lookup y = some .local) (ha : PA X [a, b] (tDs X.K fs))
    (hw : swappedStores [.Tuple [.Name x px, .Name y py] kt pt] (.Tuple [a, b] k2 pt2) X.env = pure (some [x, y])) :
    PS X (.Assign [.Tuple [.Name x px, .Name y py] kt pt] (.Tuple [a, b] k2 pt2) p) (tT X.K (asgT (fun σ S => bnd (fs σ S) fun ds S1 => if ds.length ≤ sizeLine then some (.tup ds, S1) else none) (evG C (.tp (.cons (.nm i x px) (.cons (.nm j y py) .nil)) kt pt)))) :=
  (ps_par hc hN hi hj hij hx hy ha hw rfl).imp fun En σ H ⟨ρ, σD, S, r, S', cc, e, k⟩ => by
    obtain ⟨d, S1, e1, e2⟩ := bnd_eq e
    obtain ⟨σ1, S2, e3, e4⟩ := bnd_eq e2
    obtain ⟨ds, S3, e5, e6⟩ := bnd_eq e1
    obtain ⟨rfl, rfl⟩ := inj2 e4
    split at e6
    · obtain ⟨rfl, rfl⟩ := inj2 e6
      match ds, e3 with
      | [], e3 => cases e3
      | [_], e3 => cases e3
      | _ :: _ :: _ :: _, e3 => cases e3
      | [d1, d2], e3 =>
        obtain ⟨rfl, rfl⟩ := inj2 (show some ((σD.set i (some d1)).set j (some d2), S3) = some (σ1, S2) from e3)
        refine ⟨ρ, σD, S, _, _, cc, e5, fun vs H1 ρ1 x1 h1 r1 => ?_⟩
        obtain ⟨v, w, rfl, rv, rw'⟩ := repL2 r1
        exact ⟨v, w, rfl, k _ H1 ρ1 x1 (((cc.ext x1 h1).set i rv).set j rw')⟩
    · cases e6
theorem repL3 {K : PySem.W.Frag} {H : Hp} {ρ : List Addr} {d e f : D} {xs : List V} (r : RepL K H ρ [d, e, f] xs) : ∃ v w u, xs = [v, w, u] ∧ Rep K H ρ d v ∧ Rep K H ρ e w ∧ Rep K H ρ f u := by
  obtain ⟨v, r', rfl, h1, h2⟩ := r
  obtain ⟨w, u, rfl, h3, h4⟩ := repL2 h2
  exact ⟨v, w, u, rfl, h1, h3, h4⟩
theorem s_par3 {C : Orc} {i j l : Nat} {x y z : Str} {a b c : Expr} {px py pz pt : Pos} {kt k2 pt2} {fs : StD → Store → Option (List D × Store)} (hc : X.calm = true) (hN : X.N.Nodup) (hi : X.N[i]? = some x) (hj : X.N[j]? = some y) (hl : X.N[l]? = some z) (hij : i ≠ j) (hil : i ≠ l) (hjl : j ≠ l)
    (hx : X.env.scope.names.lookup x = some .local) (hy : X.env.scope.names.lookup y = some .local) (hz : X.env.scope.names.lookup z = some .local) (ha : PA X [a, b, c] (tDs X.K fs))
    (hw : swappedStores [.Tuple [.Name x px, .Name y py, .Name z pz] kt pt] (.Tuple [a, b, c] k2 pt2) X.env = pure (some [x, y, z])) :
    PS X (.Assign [.Tuple [.Name x px, .Name y py, .Name z pz] kt pt] (.Tuple [a, b, c] k2 pt2) p) (tT X.K (asgT (fun σ S => bnd (fs σ S) fun ds S1 => if ds.length ≤ sizeLine then some (.tup ds, S1) else none) (evG C (.tp (.cons (.nm i x px) (.cons (.nm j y py) (.cons (.nm l z pz) .nil))) kt pt)))) :=
  (ps_par3 hc hN hi hj hl hij hil hjl hx hy hz ha hw rfl).imp fun En σ H ⟨ρ, σD, S, r, S', cc, e, k⟩ => by
    obtain ⟨d, S1, e1, e2⟩ := bnd_eq e
    obtain ⟨σ1, S2, e3, e4⟩ := bnd_eq e2
    obtain ⟨ds, S3, e5, e6⟩ := bnd_eq e1
    obtain ⟨rfl, rfl⟩ := inj2 e4
    split at e6
    · obtain ⟨rfl, rfl⟩ := inj2 e6
      match ds, e3 with
      | [], e3 => cases e3
      | [_], e3 => cases e3
      | [_, _], e3 => cases e3
      | _ :: _ :: _ :: _ :: _, e3 => cases e3
      | [d1, d2, d3], e3 =>
        obtain ⟨rfl, rfl⟩ := inj2 (show some (((σD.set i (some d1)).set j (some d2)).set l (some d3), S3) = some (σ1, S2) from e3)
        refine ⟨ρ, σD, S, _, _, cc, e5, fun vs H1 ρ1 x1 h1 r1 => ?_⟩
        obtain ⟨v, w, u, rfl, rv, rw', ru⟩ := repL3 r1
        exact ⟨v, w, u, rfl, k _ H1 ρ1 x1 ((((cc.ext x1 h1).set i rv).set j rw').set l ru)⟩
    · cases e6
end
theorem swaps_plain {env : Env} {l : Nat} (t : Option Expr) (e : E) (h : (!isLc e) = true) : swapsWith (embE e) t l env = pure false := by
  cases e <;> first | rfl | (cases h)
theorem swapped_no {env : Env} (g : G) (e : E) (h : (match g, e with | .tp .., .tup .. => false | _, _ => true) = true) : swappedStores [embG g] (embE e) env = pure none := by
  cases g <;> cases e <;> first | rfl | (cases h)
section
variable {Γ : Tab} {C : Orc} {k : Nat}
theorem sndAsg (g : G) (e : E) (p : Pos) (X : Cx) (G : Good Γ C k X) (hf : X.fn = fun _ => true) (hg : wfG Γ X.N X.env.scope (fun _ => true) g = true) (he : wfE Γ X.N X.env.scope (fun _ => true) e = true) (hk : asgOk X.env.scope g e = true) :
    PS X (.Assign [embG g] (embE e) p) (tT X.K (asgT (ev C e).e (evG C g))) := by
  have hg' : PG X (embG g) (tG X.K (slots g) (evG C g)) := sndG g X G (by rw [hf]; exact hg)
  have he' : PE X (embE e) (tD X.K (ev C e).e) := (sndE e X G (by rw [hf]; exact he)).1
  have one : (assignEach [embG g] X.env).map (·.2) = [assign (embG g) X.env] := by rw [asgE_g]; rfl
  have plainCase : swapsWith (embE e) (some (embG g)) p.line X.env = pure false → swappedStores [embG g] (embE e) X.env = pure none → PS X (.Assign [embG g] (embE e) p) (tT X.K (asgT (ev C e).e (evG C g))) := fun h1 h2 => s_asg he' hg' h1 h2 one
  cases e with
  | lc el gg it c own scx q =>
    cases g with
    | nm i x px =>
      obtain ⟨h1, h2⟩ := and2 (show (decide (X.N[i]? = some x) && locB X.env.scope (fun _ => true) x) = true from hg)
      have sw : swapsWith (embE (.lc el gg it c own scx q)) (some (.Name x px)) p.line X.env = pure (X.env.blockKind == .function && X.env.kindOf x == some .local && px.line == q.line && !(scx.names.any fun (n, k) => n == x && (k == .local || k == .cell))) := rfl
      by_cases b : (X.env.blockKind == .function && X.env.kindOf x == some .local && px.line == q.line && !(scx.names.any fun (n, k) => n == x && (k == .local || k == .cell))) = true
      · rw [b] at sw
        have hl : X.env.scope.names.lookup x = some .local := by
          simp only [Bool.and_eq_true, beq_iff_eq] at b
          exact b.1.1.2
        obtain ⟨h1234, h5, h6⟩ := and3 (show (wfI Γ X.N X.env.scope (fun _ => true) (isTp gg) it && blkC X.N X.env.scope scx own && (slots gg).all (fun j => (own.map (·.2)).contains j) &&
          wfG Γ X.N (relab X.env.scope scx) (fun x => scx.names.lookup x == some .cell) gg && wfEo Γ X.N (relab X.env.scope scx) (fun x => scx.names.lookup x == some .cell) c && wfE Γ X.N (relab X.env.scope scx) (fun x => scx.names.lookup x == some .cell) el) = true from he)
        obtain ⟨h12, h3, h4⟩ := and3 h1234
        obtain ⟨h7, h8⟩ := and2 h12
        have ok := blkOk_by h8
        have hsl : ∀ j, j ∈ slots gg → j ∈ own.map (·.2) := fun j hj => by
          have := List.all_eq_true.mp h3 j hj
          simpa using this
        have base := ps_setLc (wi := tI X.K (evI C it)) (g := tG X.K (slots gg) (evG C gg)) (tt := tDB X.K (evIf C c)) (te := tD X.K (ev C el).e) (spos := p) G.calm G.nd (of_decide_eq_true h1) hl sw (sndI it X G gg (by rw [hf]; exact h7)) ok (fun s H C' cl fp => sndG gg _ (G.blk ok.kind s H C' cl fp) h4) (fun s H C' cl fp => (sndEo c _ (G.blk ok.kind s H C' cl fp) h5).2)
          (fun s H C' cl fp => (sndE el _ (G.blk ok.kind s H C' cl fp) h6).1) (folded_i it)
        refine base.imp fun En σ H h => ?_
        have h := asg_ok (sl := [i]) h
        have hh : tD X.K (ev C (.lc el gg it c own scx q)).e σ H (fun x H1 => gName i x σ H1 En.nx) := by
          obtain ⟨ρ, σD, S, d, S', cc, e1, kk⟩ := h
          refine ⟨ρ, σD, S, d, S', cc, e1, fun v H' ρ' x' h' r' => ?_⟩
          obtain ⟨ρ2, σ2, S2, d2, σE, S3, c2, r2, e2, k2⟩ := kk v H' ρ' x' h' r'
          obtain ⟨rfl, rfl⟩ := inj2 (show some (σ2.set i (some d2), S2) = some (σE, S3) from e2)
          exact k2 _ H' ρ2 ⟨by simp, fun j hj => by rw [List.getElem?_set_ne]; intro z; exact hj (by simp [z])⟩ Ext.refl (c2.set i r2)
        exact lc_ok (vs := own.map (·.2)) hsl hh
      · have b' : (X.env.blockKind == .function && X.env.kindOf x == some .local && px.line == q.line && !(scx.names.any fun (n, k) => n == x && (k == .local || k == .cell))) = false := eq_false_of_ne_true b
        rw [b'] at sw
        exact plainCase sw rfl
    | tp gs n pp => exact plainCase rfl rfl
    | sb o i pp => exact plainCase rfl rfl
  | tup es n q =>
    cases g with
    | tp gs m pp =>
      have hk' : asgOk X.env.scope (.tp gs m pp) (.tup es n q) = true := hk
      unfold asgOk at hk'
      dsimp only at hk'
      split at hk'
      · rename_i hs
        exact plainCase rfl (sw_of hs)
      · rename_i ns hs
        have sw := sw_of (k := m) (k' := n) (p := pp) (p' := q) hs
        split at hk'
        · rename_i i x px j y py
          simp only [Bool.and_eq_true, decide_eq_true_eq] at hk'
          obtain ⟨⟨⟨⟨e1, e2⟩, e3⟩, e4⟩, e5⟩ := hk'
          subst e1
          obtain ⟨w1, w2⟩ := and2 (show (wfG Γ X.N X.env.scope (fun _ => true) (.nm i x px) && wfGs Γ X.N X.env.scope (fun _ => true) (.cons (.nm j y py) .nil)) = true from hg)
          obtain ⟨w3, w4⟩ := and2 (show (wfG Γ X.N X.env.scope (fun _ => true) (.nm j y py) && wfGs Γ X.N X.env.scope (fun _ => true) .nil) = true from w2)
          obtain ⟨n1, _⟩ := and2 (show (decide (X.N[i]? = some x) && locB X.env.scope (fun _ => true) x) = true from w1)
          obtain ⟨n2, _⟩ := and2 (show (decide (X.N[j]? = some y) && locB X.env.scope (fun _ => true) y) = true from w3)
          have ha := sndEs es X G (by rw [hf]; exact he)
          match es, e5, ha, sw, he' with
          | .cons a (.cons b .nil), _, ha, sw, he' => exact s_par2 (C := C) G.calm G.nd (of_decide_eq_true n1) (of_decide_eq_true n2) e4 (loc_is e2) (loc_is e3) ha sw
        · rename_i i x px j y py l z pz
          simp only [Bool.and_eq_true, decide_eq_true_eq] at hk'
          obtain ⟨⟨⟨⟨⟨⟨⟨e1, e2⟩, e3⟩, e4⟩, e5⟩, e6⟩, e7⟩, e8⟩ := hk'
          subst e1
          obtain ⟨w1, w2⟩ := and2 (show (wfG Γ X.N X.env.scope (fun _ => true) (.nm i x px) && wfGs Γ X.N X.env.scope (fun _ => true) (.cons (.nm j y py) (.cons (.nm l z pz) .nil))) = true from hg)
          obtain ⟨w3, w4⟩ := and2 (show (wfG Γ X.N X.env.scope (fun _ => true) (.nm j y py) && wfGs Γ X.N X.env.scope (fun _ => true) (.cons (.nm l z pz) .nil)) = true from w2)
          obtain ⟨w5, w6⟩ := and2 (show (wfG Γ X.N X.env.scope (fun _ => true) (.nm l z pz) && wfGs Γ X.N X.env.scope (fun _ => true) .nil) = true from w4)
          obtain ⟨n1, _⟩ := and2 (show (decide (X.N[i]? = some x) && locB X.env.scope (fun _ => true) x) = true from w1)
          obtain ⟨n2, _⟩ := and2 (show (decide (X.N[j]? = some y) && locB X.env.scope (fun _ => true) y) = true from w3)
          obtain ⟨n3, _⟩ := and2 (show (decide (X.N[l]? = some z) && locB X.env.scope (fun _ => true) z) = true from w5)
          have ha := sndEs es X G (by rw [hf]; exact he)
          match es, e8, ha, sw, he' with
          | .cons a (.cons b (.cons c .nil)), _, ha, sw, he' => exact s_par3 (C := C) G.calm G.nd (of_decide_eq_true n1) (of_decide_eq_true n2) (of_decide_eq_true n3) e5 e6 e7 (loc_is e2) (loc_is e3) (loc_is e4) ha sw
        · cases hk'
      · cases hk'
    | nm i x px => exact plainCase rfl rfl
    | sb o i pp => exact plainCase rfl rfl
  | _ => exact plainCase (swaps_plain _ _ rfl) (swapped_no g _ (by cases g <;> rfl))
mutual
theorem sndT : ∀ (t : T) (X : Cx) (G : Good Γ C k X), X.fn = (fun _ => true) → wfT Γ X.N X.env.scope t = true → PS X (embT t) (tT X.K (evT C t))
  | .asg g e p, X, G, hf, h => by
    obtain ⟨h1, h2, h3⟩ := and3 (show (wfG Γ X.N X.env.scope (fun _ => true) g && wfE Γ X.N X.env.scope (fun _ => true) e && asgOk X.env.scope g e) = true from h)
    exact sndAsg g e p X G hf h1 h2 h3
  | .aug i x o e q p, X, G, hf, h => by
    obtain ⟨h1, h2, h3⟩ := and3 (show (decide (X.N[i]? = some x) && locB X.env.scope (fun _ => true) x && wfE Γ X.N X.env.scope (fun _ => true) e) = true from h)
    exact s_aug G.nd (of_decide_eq_true h1) (loc_of h2).1 (sndE e X G (by rw [hf]; exact h3)).1 (by rw [hf]; exact .inl rfl)
  | .ex e p, X, G, hf, h => by
    obtain ⟨h1, h2⟩ := and2 (show (!isLc e && wfE Γ X.N X.env.scope (fun _ => true) e) = true from h)
    exact s_ex (sndE e X G (by rw [hf]; exact h2)).1 (swaps_plain _ e h1)
  | .ret e p, X, G, hf, h => s_ret (sndE e X G (by rw [hf]; exact h)).1
  | .retN p, X, G, hf, h => s_retN
  | .iff c a b p, X, G, hf, h => by
    obtain ⟨h1, h2, h3⟩ := and3 (show (wfE Γ X.N X.env.scope (fun _ => true) c && wfTs Γ X.N X.env.scope a && wfTs Γ X.N X.env.scope b) = true from h)
    exact s_iff (sndE c X G (by rw [hf]; exact h1)).2 (sndTs a X G hf h2) (sndTs b X G hf h3)
  | .fr g it b p, X, G, hf, h => by
    obtain ⟨h1, h2, h3⟩ := and3 (show (wfI Γ X.N X.env.scope (fun _ => true) (isTp g) it && wfG Γ X.N X.env.scope (fun _ => true) g && wfTs Γ X.N X.env.scope b) = true from h)
    exact s_for (by rw [G.xe]; exact PassesOwn.never) G.calm (sndI it X G g (by rw [hf]; exact h1)) (sndG g X G (by rw [hf]; exact h2)) (sndTs b X G hf h3) (folded_i it)
  | .whl c b p, X, G, hf, h => by
    obtain ⟨h1, h2⟩ := and2 (show (wfE Γ X.N X.env.scope (fun _ => true) c && wfTs Γ X.N X.env.scope b) = true from h)
    exact s_whl (by rw [G.xe]; exact PassesOwn.never) (sndE c X G (by rw [hf]; exact h1)).2 (sndTs b X G hf h2) turns
  | .brk p, X, G, hf, h => s_brk
  | .cnt p, X, G, hf, h => s_cnt
  | .pas p, X, G, hf, h => s_pas
  | .nev s, X, G, hf, h => s_nev
theorem sndTs : ∀ (ts : Ts) (X : Cx) (G : Good Γ C k X), X.fn = (fun _ => true) → wfTs Γ X.N X.env.scope ts = true → PSs X (embTs ts) (tT X.K (evTs C ts))
  | .nil, X, G, hf, h => tsx_nil
  | .cons t r, X, G, hf, h => by
    obtain ⟨h1, h2⟩ := and2 (show (wfT Γ X.N X.env.scope t && wfTs Γ X.N X.env.scope r) = true from h)
    exact tsx_cons (sndT t X G hf h1) (sndTs r X G hf h2)
end
end
end Mi

end

section
/-! Mi11: a table of defs, what calling them is worth, every def keeps it. -/
namespace Mi
open PySem PySem.Spec L2
structure Def where
  nm : Str
  ps : List Str
  dfs : List D
  N : List Str
  sc : Scope
  body : Ts
def Def.full (d : Def) (as : List D) : List D := as ++ d.dfs.drop (as.length + d.dfs.length - d.ps.length)
def outD (S : Store) : Option (Fl × Store) → Option (D × Store)
  | some (.ret v, S') => some (gc S v S')
  | some (.next _, S') => some (gc S .non S')
  | _ => none
def startD (N : List Str) (vs : List D) : StD := vs.map some ++ List.replicate (N.length - vs.length) none
noncomputable def runFull (C : Orc) (d : Def) (vs : List D) (S : Store) : Option (D × Store) :=
  if vs.length = d.ps.length then outD S (evTs C d.body (startD d.N vs) S) else none
noncomputable def runDef (C : Orc) (d : Def) (as : List D) (S : Store) : Option (D × Store) := runFull C d (d.full as) S
noncomputable def orc (defs : List Def) : Nat → Orc
  | 0 => fun _ _ _ => none
  | k + 1 => fun n as S => match defs[n]? with
    | some d => runDef (orc defs k) d as S
    | none => none
def tabOf (defs : List Def) (gl : List (Str × Int)) (tp : List (Str × List D)) : Tab where
  cal f n m := match defs[n]? with
    | some d => d.nm == f && decide (d.ps.length ≤ m + d.dfs.length) && decide (m ≤ d.ps.length)
    | none => false
  glo x := gl.lookup x
  tup x := tp.lookup x
def DefOk (K : PySem.W.Frag) (mg : Str → Option Value) (d : Def) : Prop :=
  ∃ (fn : Str) (fa : Addr) (fd : FuncData) (params : Arguments) (dvs : List V), mg d.nm = some (.ref fa) ∧ FunD K fn fn params (embTs d.body) d.sc dvs [] fa fd ∧ FnScope d.N d.ps d.sc ∧ (∀ H ρ, RepL K H ρ d.dfs dvs) ∧
    ∀ m, d.ps.length ≤ m + d.dfs.length → m ≤ d.ps.length → ∃ ds, Vals (dvs.drop (m + d.dfs.length - d.ps.length)) ds ∧ Binds K fd d.ps ds
theorem repL_app {K : PySem.W.Frag} {H : Hp} {ρ : List Addr} : ∀ {ds es : List D} {vs ws : List V}, RepL K H ρ ds vs → RepL K H ρ es ws → RepL K H ρ (ds ++ es) (vs ++ ws)
  | [], es, vs, ws, h, g => by
    have : vs = [] := h
    subst this; exact g
  | d :: r, es, vs, ws, h, g => by
    obtain ⟨v, t, rfl, h1, h2⟩ := h
    exact ⟨v, t ++ ws, rfl, h1, repL_app h2 g⟩
theorem repL_drop {K : PySem.W.Frag} {H : Hp} {ρ : List Addr} : ∀ (n : Nat) {ds : List D} {vs : List V}, RepL K H ρ ds vs → RepL K H ρ (ds.drop n) (vs.drop n)
  | 0, _, _, h => h
  | n + 1, [], vs, h => by
    have : vs = [] := h
    subst this; exact rfl
  | n + 1, d :: r, vs, h => by
    obtain ⟨v, t, rfl, h1, h2⟩ := h
    exact repL_drop n h2
theorem repL_at {K : PySem.W.Frag} {H : Hp} {ρ : List Addr} : ∀ {ds : List D} {vs : List V} (i : Nat) (d : D), RepL K H ρ ds vs → ds[i]? = some d → ∃ v, vs[i]? = some v ∧ Rep K H ρ d v
  | [], vs, i, d, h, e => by simp at e
  | x :: r, vs, 0, d, h, e => by
    obtain ⟨v, t, rfl, h1, h2⟩ := h
    have : x = d := by simpa using e
    subst this
    exact ⟨v, rfl, h1⟩
  | x :: r, vs, i + 1, d, h, e => by
    obtain ⟨v, t, rfl, h1, h2⟩ := h
    obtain ⟨u, e1, e2⟩ := repL_at i d h2 (by simpa using e)
    exact ⟨u, by simpa using e1, e2⟩
theorem cor_start {K : PySem.W.Frag} {H : Hp} {ρ : List Addr} {S : Store} {N : List Str} {ds : List D} {vs : List V} (hp : HRep K H ρ S) (h : RepL K H ρ ds vs) : Cor K H ρ (start N vs) (startD N ds) S := by
  have hl := h.length
  refine ⟨?_, fun i d e => ?_, hp⟩
  · simp only [L2.start, startD, List.length_append, List.length_map, List.length_replicate]; omega
  · unfold startD at e
    by_cases hi : i < ds.length
    · rw [List.getElem?_append_left (by simpa using hi)] at e
      rw [List.getElem?_map] at e
      cases h2 : ds[i]? with
      | none => rw [h2] at e; cases e
      | some x =>
        rw [h2] at e
        have : x = d := by simpa using e
        subst this
        obtain ⟨v, e1, e2⟩ := repL_at i x h h2
        refine ⟨v, ?_, e2⟩
        unfold L2.start
        rw [List.getElem?_append_left (by rw [List.length_map]; omega), List.getElem?_map, e1]; rfl
    · rw [List.getElem?_append_right (by simpa using Nat.le_of_not_lt hi)] at e
      rw [List.getElem?_replicate] at e
      split at e <;> cases e
theorem fn_good {P : Program} {w : World} {K : PySem.W.Frag} {mg : Str → Option Value} {base : Heap} {Γ : Tab} {C : Orc} {k : Nat} {d : Def} {fn : Str} {fa : Addr} {fd : FuncData} {params : Arguments} {dvs : List V} (F : FunD K fn fn params (embTs d.body) d.sc dvs [] fa fd) (S : FnScope d.N d.ps d.sc)
    (hb : ∀ x ∈ bltNames, mg x = none) (hg : ∀ x i, Γ.glo x = some i → ∃ t, mg x = some (.int i t)) (ht : ∀ x ds, Γ.tup x = some ds → TupOk K mg x ds) (hw : wfTs Γ d.N d.sc d.body = true) (ih : ∀ f n m, Γ.cal f n m = true → CallOk P w K mg base C k f n m) :
    FnOk P w K mg base CX0 (k + 1) fa fd d.ps (fun vs H Q _ => vs.length = d.ps.length ∧ liftN K (runFull C d) vs H Q) := by
  refine F.ok S (fun vs H Q E z => z.1) fun cdv A outer s H vs Q E hro ⟨hl, ρ, T, es, x, T', hp, hrep, ev, af⟩ => ?_
  refine ⟨tT K (evTs C d.body), PSs.nox (sndTs (Γ := Γ) (C := C) (k := k) d.body _ ⟨rfl, S.nd, rfl, hro, S.kind, hb, ih, hg, ht⟩ rfl hw), ?_⟩
  unfold runFull at ev
  split at ev
  · cases er : evTs C d.body (startD d.N es) T with
    | none => rw [er] at ev; cases ev
    | some r =>
      obtain ⟨r, T2⟩ := r
      rw [er] at ev
      refine ⟨ρ, _, T, r, T2, cor_start hp hrep, er, ?_⟩
      cases r with
      | ret v =>
        have ev' : gc T v T2 = (x, T') := Option.some.inj ev
        refine fun v' H' ρ' x' h' r' => ?_
        obtain ⟨ρ2, y1, y2, y3⟩ := gc_ok hp x' h' r'
        rw [ev'] at y2 y3
        exact af v' H' ρ2 y1 y2 y3
      | next σ =>
        have ev' : gc T .non T2 = (x, T') := Option.some.inj ev
        refine fun σ' H' ρ' x' c' => ?_
        obtain ⟨ρ2, y1, y2, y3⟩ := gc_ok hp x' c'.hp (d := .non) (v := .non) rfl
        rw [ev'] at y2 y3
        exact af .non H' ρ2 y1 y2 y3
      | brk σ => cases ev
      | cnt σ => cases ev
  · cases ev
theorem defs_ok {P : Program} {w : World} {K : PySem.W.Frag} {mg : Str → Option Value} {base : Heap} {defs : List Def} {gl : List (Str × Int)} {tp : List (Str × List D)} (hd : ∀ d ∈ defs, DefOk K mg d) (hb : ∀ x ∈ bltNames, mg x = none)
    (hg : ∀ x i, gl.lookup x = some i → ∃ t, mg x = some (.int i t)) (ht : ∀ x ds, tp.lookup x = some ds → TupOk K mg x ds) (hw : ∀ d ∈ defs, wfTs (tabOf defs gl tp) d.N d.sc d.body = true) :
    ∀ (k : Nat) (f : Str) (n m : Nat), (tabOf defs gl tp).cal f n m = true → CallOk P w K mg base (orc defs k) k f n m
  | 0, f, n, m, h => by
    unfold tabOf at h
    dsimp only at h
    cases e : defs[n]? with
    | none => rw [e] at h; cases h
    | some d =>
      rw [e] at h
      simp only [Bool.and_eq_true, decide_eq_true_eq, beq_iff_eq] at h
      obtain ⟨⟨rfl, h1⟩, h2⟩ := h
      obtain ⟨fn, fa, fd, params, dvs, g1, F, S, hr, hbn⟩ := hd d (List.mem_of_getElem? e)
      obtain ⟨ds, v1, b1⟩ := hbn m h1 h2
      refine ⟨fa, fd, d.ps, _, ds, fun _ _ _ _ => False, g1, F.kp, b1, v1, ⟨fun _ _ _ _ z => z.elim, fun _ _ _ _ _ _ _ _ _ _ _ _ _ z => z.elim⟩, fun vs H Q hl ⟨ρ, T, es, x, T', _, _, e, _⟩ => ?_⟩
      cases e
  | k + 1, f, n, m, h => by
    have ih := defs_ok (P := P) (w := w) (base := base) hd hb hg ht hw k
    unfold tabOf at h
    dsimp only at h
    cases e : defs[n]? with
    | none => rw [e] at h; cases h
    | some d =>
      rw [e] at h
      simp only [Bool.and_eq_true, decide_eq_true_eq, beq_iff_eq] at h
      obtain ⟨⟨rfl, h1⟩, h2⟩ := h
      have hm := List.mem_of_getElem? e
      obtain ⟨fn, fa, fd, params, dvs, g1, F, S, hr, hbn⟩ := hd d hm
      obtain ⟨ds, v1, b1⟩ := hbn m h1 h2
      refine ⟨fa, fd, d.ps, _, ds, fun vs H Q _ => vs.length = d.ps.length ∧ liftN K (runFull (orc defs k) d) vs H Q, g1, F.kp, b1, v1, ?_, ?_⟩
      · exact fn_good F S hb hg ht (hw d hm) ih
      · intro vs H Q hl ⟨ρ, T, es, x, T', hp, hrep, ev, af⟩
        have el := hrep.length
        have ed := (hr H ρ).length
        have ev2 : runFull (orc defs k) d (d.full es) T = some (x, T') := by
          have : orc defs (k + 1) n es T = runDef (orc defs k) d es T := by
            show (match defs[n]? with | some d => runDef (orc defs k) d es T | none => none) = _
            rw [e]
          rw [this] at ev; exact ev
        have hrep2 : RepL K H ρ (d.full es) (vs ++ dvs.drop (m + d.dfs.length - d.ps.length)) := by
          unfold Def.full
          have : es.length = m := by omega
          rw [this]
          exact repL_app hrep (repL_drop _ (hr H ρ))
        refine ⟨?_, ρ, T, _, x, T', hp, hrep2, ev2, af⟩
        have := hrep2.length
        unfold runFull at ev2
        split at ev2
        · omega
        · cases ev2
/-! the head's facts, with tuples of the module -/
def flatB : D → Value → Bool
  | .non, .none => true
  | .bl b, .bool c => b == c
  | .int i, .int j _ => decide (i = j)
  | .str x, .str y _ => decide (x = y)
  | _, _ => false
def flatsB : List D → List Value → Bool
  | [], [] => true
  | d :: ds, u :: us => flatB d u && flatsB ds us
  | _, _ => false
def vOf : D → V
  | .bl b => .bl b
  | .int i => .int i
  | .str x => .str x
  | _ => .non
theorem flatB_ok {d : D} {u : Value} (h : flatB d u = true) : RelV (vOf d) u ∧ ∀ (K : PySem.W.Frag) (H : Hp) (ρ : List Addr), Rep K H ρ d (vOf d) := by
  cases d with
  | non => cases u <;> first | (cases h; done) | exact ⟨rfl, fun _ _ _ => rfl⟩
  | bl b =>
    cases u with
    | bool c =>
      have e : b = c := by simpa [flatB] using h
      subst e
      exact ⟨rfl, fun _ _ _ => rfl⟩
    | _ => cases h
  | int i =>
    cases u with
    | int j t =>
      have e : i = j := of_decide_eq_true h
      subst e
      exact ⟨⟨t, rfl⟩, fun _ _ _ => rfl⟩
    | _ => cases h
  | str i =>
    cases u with
    | str j t =>
      have e : i = j := of_decide_eq_true h
      subst e
      exact ⟨⟨t, rfl⟩, fun _ _ _ => rfl⟩
    | _ => cases h
  | _ => cases u <;> cases h
theorem flatsB_ok : ∀ {ds : List D} {us : List Value}, flatsB ds us = true → Vals (ds.map vOf) us ∧ ∀ (K : PySem.W.Frag) (H : Hp) (ρ : List Addr), RepL K H ρ ds (ds.map vOf)
  | [], [], _ => ⟨.nil, fun _ _ _ => rfl⟩
  | [], _ :: _, h => by cases h
  | _ :: _, [], h => by cases h
  | d :: ds, u :: us, h => by
    have h1 : (flatB d u && flatsB ds us) = true := h
    rw [Bool.and_eq_true] at h1
    obtain ⟨a1, a2⟩ := flatB_ok h1.1
    obtain ⟨b1, b2⟩ := flatsB_ok h1.2
    exact ⟨.cons a1 b1, fun K H ρ => ⟨_, _, rfl, a2 K H ρ, b2 K H ρ⟩⟩
def tupB (K : PySem.W.Frag) (x : Str) (ds : List D) : Bool :=
  match PySem.W.nsIn K mainGlobals x with
  | some (some (.ref a)) => (match K.lookup a with
    | some ⟨.type n, none, .seq its _, _⟩ => n == "tuple" && decide (its.size ≤ sizeLine) && flatsB ds its.toList
    | _ => false)
  | _ => false
theorem tupB_ok {K : PySem.W.Frag} {h : Heap} {mg : Str → Option Value} (X : K.In h) (G : h.Ns mainGlobals mg) {x : Str} {ds : List D} (c : tupB K x ds = true) : TupOk K mg x ds := by
  unfold tupB at c
  split at c
  · rename_i a e
    split at c
    · rename_i n its m sl hk
      simp only [Bool.and_eq_true, beq_iff_eq, decide_eq_true_eq] at c
      obtain ⟨⟨rfl, c2⟩, c3⟩ := c
      obtain ⟨v1, v2⟩ := flatsB_ok c3
      exact ⟨a, ds.map vOf, PySem.W.mg_of X G e, ⟨_, its, m, hk, rfl, rfl, rfl, c2, v1⟩, fun H ρ => v2 K H ρ⟩
    · cases c
  · cases c
def tupsB (tp : List (Str × List D)) (K : PySem.W.Frag) : Bool := tp.all fun p => tupB K p.1 p.2
def obsX (n : Nat) (fa : List He.Fa) (fn : List He.DefD) (tp : List (Str × List D)) (g : Addr → Option Obj) : He.AlD × Bool := (He.obsDG n fa fn g, tupsB tp (He.frG g (He.asD g n)))
def hookX (n : Nat) (fa : List He.Fa) (fn : List He.DefD) (tp : List (Str × List D)) : PySem.W.Hook where
  α := He.AlD × Bool
  obs := fun s => obsX n fa fn tp s.heap.get?
  val := fun _ => (He.valD fn, true)
  says := fun _ h => ∃ K : PySem.W.Frag, K.In h ∧ He.SaysD fa fn K ∧ tupsB tp K = true
  of := fun _ _ e => ⟨_, He.frG_in, (Prod.mk.inj e).1, (Prod.mk.inj e).2⟩
  keeps := fun _ _ _ ⟨K, hK, c⟩ k => ⟨K, PySem.W.Frag.In.keeps hK k, c⟩
theorem obsX_eq {n : Nat} {fa : List He.Fa} {fn : List He.DefD} {tp : List (Str × List D)} {g : Addr → Option Obj} {s : Shared} (h : ∀ a, g a = s.heap.get? a) : obsX n fa fn tp g = (hookX n fa fn tp).obs s := by
  have e : g = s.heap.get? := funext h
  rw [e] <;> rfl
theorem repL_ints {K : PySem.W.Frag} {H : Hp} {ρ : List Addr} : ∀ ns : List Int, RepL K H ρ (ns.map D.int) (ns.map V.int)
  | [] => rfl
  | i :: r => ⟨_, _, rfl, rfl, repL_ints r⟩
theorem vals_drop0 {n : Nat} : Vals (List.drop n []) [] := by
  rw [List.drop_nil]; exact .nil
theorem lookup_in {α β : Type} [BEq α] [LawfulBEq α] {x : α} {i : β} : ∀ {l : List (α × β)}, l.lookup x = some i → (x, i) ∈ l
  | [], h => by cases h
  | (y, j) :: r, h => by
    rw [List.lookup_cons] at h
    cases e : x == y with
    | true =>
      rw [e] at h
      have h2 := Option.some.inj h
      rw [← h2, eq_of_beq e]
      exact List.mem_cons_self ..
    | false =>
      rw [e] at h
      exact List.mem_cons_of_mem _ (lookup_in h)
theorem SaysD_facts {fa : List He.Fa} {fn : List He.DefD} {K : PySem.W.Frag} (c : He.SaysD fa fn K) {f : He.Fa} (h : f ∈ fa) : f.ok K = true := by
  obtain ⟨i, e⟩ := List.getElem?_of_mem h
  exact c.fact i e
/-- the law's call: the script is a list that nobody writes -/
theorem entry {K : PySem.W.Frag} {H : Hp} {a : Addr} {ns : List Int} {C : Orc} {d : Def} (hO : Only H) (hS : SqL K H a (ns.map V.int)) (hp : d.ps.length = 1) {S' : Store} (h : runFull C d [.ro (ns.map D.int)] [] = some (.bl true, S')) :
    [V.ref a].length = d.ps.length ∧ liftN K (runFull C d) [.ref a] H (fun v _ => v = .bl true) := by
  refine ⟨hp.symm, [], [], [.ro (ns.map D.int)], _, _, ⟨rfl, .nil, fun n mo a e => by simp at e⟩, ⟨_, _, rfl, ⟨a, ns.map V.int, rfl, ?_, ?_⟩, rfl⟩, h, fun v H' ρ' _ _ r => r⟩
  · rcases hS with h | h
    · rcases h with h | ⟨o, h⟩
      · rcases hO a with e | ⟨o, xs, e⟩
        · rw [e] at h; cases h
        · rw [e] at h; cases h
      · exact .inl ⟨o, h⟩
    · exact .inr h
  · exact repL_ints ns
end Mi

end

section
/-! Mi12: plain facts about the evaluator. -/
namespace Mi
open PySem PySem.Spec L2
@[simp] theorem keepsOld_app : ∀ (S T : Store), keepsOld S (S ++ T) = true
  | [], _ => rfl
  | a :: r, T => by
    show ((MO.beq a a || MO.pure a) && keepsOld r (r ++ T)) = true
    rw [MO.beq_self, keepsOld_app r T]; rfl
@[simp] theorem keepsOld_self (S : Store) : keepsOld S S = true := by
  have := keepsOld_app S []
  rwa [List.append_nil] at this
theorem keepsOld_set : ∀ (S : Store) (n : Nat) (mo : MO) (T : Store), MO.pure mo = true → keepsOld S (S.set n mo ++ T) = true
  | [], _, _, _, _ => rfl
  | a :: r, 0, mo, T, h => by
    show ((MO.beq a mo || MO.pure mo) && keepsOld r (r ++ T)) = true
    rw [h, keepsOld_app]; simp
  | a :: r, n + 1, mo, T, h => by
    show ((MO.beq a a || MO.pure a) && keepsOld r (r.set n mo ++ T)) = true
    rw [MO.beq_self, keepsOld_set r n mo T h]; rfl
theorem keepsOld_set0 (S : Store) (n : Nat) (mo : MO) (h : MO.pure mo = true) : keepsOld S (S.set n mo) = true := by
  have := keepsOld_set S n mo [] h
  rwa [List.append_nil] at this
theorem gc_pure {S S' : Store} {d : D} (hk : keepsOld S S' = true) (hd : D.pure d = true) : gc S d S' = (d, S'.take S.length) := by
  unfold gc; rw [if_pos hk, if_pos hd]
theorem gc_self {S : Store} {d : D} (hd : D.pure d = true) : gc S d S = (d, S) := by rw [gc_pure (keepsOld_self S) hd, List.take_length]
theorem gc_app {S T : Store} {d : D} (hd : D.pure d = true) : gc S d (S ++ T) = (d, S) := by rw [gc_pure (keepsOld_app S T) hd, List.take_left]
theorem gc_same {S : Store} {d : D} : gc S d S = (d, S) := by
  unfold gc
  rw [if_pos (keepsOld_self S)]
  split
  · rw [List.take_length]
  · cases d with
    | loc m =>
      dsimp only
      split
      · rw [List.take_length]
      · rename_i h
        rw [List.getElem?_eq_none (by omega)]
    | _ => rfl
theorem gc_set {S : Store} {n : Nat} {mo : MO} {d : D} (hm : MO.pure mo = true) (hd : D.pure d = true) : gc S d (S.set n mo) = (d, S.set n mo) := by
  rw [gc_pure (keepsOld_set0 S n mo hm) hd, List.take_of_length_le (by rw [List.length_set]; exact Nat.le_refl _)]
theorem gc_setapp {S T : Store} {n : Nat} {mo : MO} {d : D} (hm : MO.pure mo = true) (hd : D.pure d = true) : gc S d (S.set n mo ++ T) = (d, S.set n mo) := by
  rw [gc_pure (keepsOld_set S n mo T hm) hd, ← List.length_set (i := n) (a := mo), List.take_left]
theorem gc_old {S T : Store} {m : Nat} (h : m < S.length) : gc S (.loc m) (S ++ T) = (.loc m, S) := by
  unfold gc
  rw [if_pos (keepsOld_app S T), if_neg (by simp [D.pure])]
  dsimp only
  rw [if_pos h, List.take_left]
theorem gc_old0 {S : Store} {m : Nat} (h : m < S.length) : gc S (.loc m) S = (.loc m, S) := by
  have := gc_old (T := []) h
  rwa [List.append_nil] at this
/-- a fresh pure thing goes to the end -/
theorem gc_fresh {S T : Store} {m : Nat} {mo : MO} (h : S.length ≤ m) (hm : (S ++ T)[m]? = some mo) (hp : MO.pure mo = true) : gc S (.loc m) (S ++ T) = (.loc S.length, S ++ [mo]) := by
  unfold gc
  rw [if_pos (keepsOld_app S T), if_neg (by simp [D.pure])]
  dsimp only
  rw [if_neg (by omega), hm]
  dsimp only
  rw [if_pos hp, List.take_left]
theorem gc_new {S : Store} {mo : MO} (hp : MO.pure mo = true) : gc S (.loc S.length) (S ++ [mo]) = (.loc S.length, S ++ [mo]) :=
  gc_fresh (Nat.le_refl _) (by simp) hp
theorem gc_dead {S T : Store} {m : Nat} {mo : MO} (h : S.length ≤ m) (hm : (S ++ T)[m]? = some mo) (hp : MO.pure mo = false) : gc S (.loc m) (S ++ T) = (.loc m, S ++ T) := by
  unfold gc
  rw [if_pos (keepsOld_app S T), if_neg (by simp [D.pure])]
  dsimp only
  rw [if_neg (by omega), hm]
  dsimp only
  rw [hp]; rfl
@[simp] theorem pure_int (i : Int) : D.pure (.int i) = true := rfl
@[simp] theorem pure_bl (b : Bool) : D.pure (.bl b) = true := rfl
@[simp] theorem pure_non : D.pure .non = true := rfl
@[simp] theorem pure_tup (ds : List D) : D.pure (.tup ds) = D.pureL ds := rfl
@[simp] theorem pureL_nil : D.pureL [] = true := rfl
@[simp] theorem pureL_cons (d : D) (r : List D) : D.pureL (d :: r) = (D.pure d && D.pureL r) := rfl
@[simp] theorem pure_lst (ds : List D) : MO.pure (.lst ds) = D.pureL ds := rfl
theorem pureL_map {α : Type} {f : α → D} : ∀ (l : List α), (∀ x ∈ l, D.pure (f x) = true) → D.pureL (l.map f) = true
  | [], _ => rfl
  | a :: r, h => by
    show (D.pure (f a) && D.pureL (r.map f)) = true
    rw [h a (List.mem_cons_self ..), pureL_map r fun x hx => h x (List.mem_cons_of_mem _ hx)]; rfl
/-- a comprehension whose turns leave the store -/
theorem lcD_pure {α : Type} {ok : Store → Bool} {g : D → Store → Option (StD × Store)} {c : StD → Store → Option (Bool × Store)} {e : StD → Store → Option (D × Store)} {S : Store} (inj : α → D) (p : α → Bool) (f : α → D) (hok : ok S = true) :
    ∀ (xs : List α) (acc : List D), (∀ x ∈ xs, ∃ σ, g (inj x) S = some (σ, S) ∧ c σ S = some (p x, S) ∧ (p x = true → e σ S = some (f x, S))) → acc.length + xs.length ≤ sizeLine →
      lcD ok g c e (xs.map inj) acc S = some (acc ++ (xs.filter p).map f, S)
  | [], acc, _, _ => by simp [lcD, hok]
  | x :: r, acc, h, hl => by
    obtain ⟨σ, h1, h2, h3⟩ := h x (List.mem_cons_self ..)
    have hr := fun acc hl => lcD_pure (e := e) inj p f hok r acc (fun y hy => h y (List.mem_cons_of_mem _ hy)) hl
    simp only [List.length_cons] at hl
    rw [List.map_cons, lcD, if_pos hok, h1]
    dsimp only
    rw [h2]
    cases hp : p x with
    | true =>
      dsimp only
      rw [h3 hp]
      dsimp only
      rw [if_pos (by omega), hr _ (by simp; omega), List.filter_cons, hp]
      simp
    | false =>
      dsimp only
      rw [hr _ (by omega), List.filter_cons, hp]
      simp

/-! ### running it, one step after another: only what comes first is looked at -/
theorem bnd_congr {α β : Type} {x y : Option (α × Store)} {f : α → Store → Option (β × Store)} (h : x = y) : bnd x f = bnd y f := by rw [h]
def seqF (x : Option (Fl × Store)) (k : StD → Store → Option (Fl × Store)) : Option (Fl × Store) :=
  match x with
  | some (.next σ, S) => k σ S
  | some (.brk σ, S) => some (.brk σ, S)
  | some (.cnt σ, S) => some (.cnt σ, S)
  | some (.ret d, S) => some (.ret d, S)
  | none => none
theorem seqF_congr {x y : Option (Fl × Store)} {k : StD → Store → Option (Fl × Store)} (h : x = y) : seqF x k = seqF y k := by rw [h]
theorem seqF_next {k : StD → Store → Option (Fl × Store)} {σ : StD} {S : Store} : seqF (some (.next σ, S)) k = k σ S := rfl
theorem seqF_brk {k : StD → Store → Option (Fl × Store)} {σ : StD} {S : Store} : seqF (some (.brk σ, S)) k = some (.brk σ, S) := rfl
theorem seqF_cnt {k : StD → Store → Option (Fl × Store)} {σ : StD} {S : Store} : seqF (some (.cnt σ, S)) k = some (.cnt σ, S) := rfl
theorem seqF_ret {k : StD → Store → Option (Fl × Store)} {d : D} {S : Store} : seqF (some (.ret d, S)) k = some (.ret d, S) := rfl
theorem ts_nil {C : Orc} {σ : StD} {S : Store} : evTs C .nil σ S = some (.next σ, S) := rfl
theorem ts_cons {C : Orc} {t : T} {r : Ts} {σ : StD} {S : Store} : evTs C (.cons t r) σ S = seqF (evT C t σ S) (fun σ1 S1 => evTs C r σ1 S1) := by
  show bnd (evT C t σ S) _ = _
  cases evT C t σ S with
  | none => rfl
  | some p => obtain ⟨f, S1⟩ := p; cases f <;> rfl
theorem out_ret {S S' : Store} {v : D} : outD S (some (.ret v, S')) = some (gc S v S') := rfl
theorem out_next {S S' : Store} {σ : StD} : outD S (some (.next σ, S')) = some (gc S .non S') := rfl
theorem ite_t {α : Type} {k l : Store → Option (α × Store)} {S : Store} : iteD k l true S = k S := rfl
theorem ite_f {α : Type} {k l : Store → Option (α × Store)} {S : Store} : iteD k l false S = l S := rfl
theorem bop_and_t {k : Store → Option (D × Store)} {S : Store} : bopD .And k (.bl true) S = k S := rfl
theorem bop_and_f {k : Store → Option (D × Store)} {S : Store} : bopD .And k (.bl false) S = some (.bl false, S) := rfl
theorem bop_or_t {k : Store → Option (D × Store)} {S : Store} : bopD .Or k (.bl true) S = some (.bl true, S) := rfl
theorem bop_or_f {k : Store → Option (D × Store)} {S : Store} : bopD .Or k (.bl false) S = k S := rfl
theorem bb_and_t {k : Store → Option (Bool × Store)} {S : Store} : bopB .And k true S = k S := rfl
theorem bb_and_f {k : Store → Option (Bool × Store)} {S : Store} : bopB .And k false S = some (false, S) := rfl
theorem bb_or_t {k : Store → Option (Bool × Store)} {S : Store} : bopB .Or k true S = some (true, S) := rfl
theorem bb_or_f {k : Store → Option (Bool × Store)} {S : Store} : bopB .Or k false S = k S := rfl
theorem slot_0 {x : D} {r : StD} : slotD (some x :: r) 0 = some x := rfl
theorem slot_s {x : Option D} {r : StD} {n : Nat} : slotD (x :: r) (n + 1) = slotD r n := rfl
theorem e_con {c : Const} {k : Nat} {p : Pos} {C : Orc} {σ : StD} {S : Store} : (ev C (.con c k p)).e σ S = opt (conD c) S := rfl
theorem b_con {c : Const} {k : Nat} {p : Pos} {C : Orc} {σ : StD} {S : Store} : (ev C (.con c k p)).b σ S = bnd ((ev C (.con c k p)).e σ S) fun d S1 => opt (truthD S1 d) S1 := rfl
theorem e_var {i : Nat} {x : Str} {p : Pos} {C : Orc} {σ : StD} {S : Store} : (ev C (.var i x p)).e σ S = opt (slotD σ i) S := rfl
theorem b_var {i : Nat} {x : Str} {p : Pos} {C : Orc} {σ : StD} {S : Store} : (ev C (.var i x p)).b σ S = bnd ((ev C (.var i x p)).e σ S) fun d S1 => opt (truthD S1 d) S1 := rfl
theorem e_glo {x : Str} {i : Int} {p : Pos} {C : Orc} {σ : StD} {S : Store} : (ev C (.glo x i p)).e σ S = some (.int i, S) := rfl
theorem b_glo {x : Str} {i : Int} {p : Pos} {C : Orc} {σ : StD} {S : Store} : (ev C (.glo x i p)).b σ S = bnd ((ev C (.glo x i p)).e σ S) fun d S1 => opt (truthD S1 d) S1 := rfl
theorem e_tup {es : Es} {k : Nat} {p : Pos} {C : Orc} {σ : StD} {S : Store} : (ev C (.tup es k p)).e σ S = bnd (evEs C es σ S) fun ds S1 => if ds.length ≤ sizeLine then some (.tup ds, S1) else none := rfl
theorem b_tup {es : Es} {k : Nat} {p : Pos} {C : Orc} {σ : StD} {S : Store} : (ev C (.tup es k p)).b σ S = bnd ((ev C (.tup es k p)).e σ S) fun d S1 => opt (truthD S1 d) S1 := rfl
theorem e_lst {es : Es} {p : Pos} {C : Orc} {σ : StD} {S : Store} : (ev C (.lst es p)).e σ S = bnd (evEs C es σ S) fun ds S1 => if ds.length ≤ sizeLine then some (.loc S1.length, S1 ++ [.lst ds]) else none := rfl
theorem b_lst {es : Es} {p : Pos} {C : Orc} {σ : StD} {S : Store} : (ev C (.lst es p)).b σ S = bnd ((ev C (.lst es p)).e σ S) fun d S1 => opt (truthD S1 d) S1 := rfl
theorem e_dct {p : Pos} {C : Orc} {σ : StD} {S : Store} : (ev C (.dct p)).e σ S = some (.loc S.length, S ++ [.dic []]) := rfl
theorem b_dct {p : Pos} {C : Orc} {σ : StD} {S : Store} : (ev C (.dct p)).b σ S = bnd ((ev C (.dct p)).e σ S) fun d S1 => opt (truthD S1 d) S1 := rfl
theorem e_op {o : Operator} {a b : E} {p : Pos} {C : Orc} {σ : StD} {S : Store} : (ev C (.op o a b p)).e σ S = bnd ((ev C a).e σ S) fun x S1 => bnd ((ev C b).e σ S1) fun y S2 => opD o x y S2 := rfl
theorem b_op {o : Operator} {a b : E} {p : Pos} {C : Orc} {σ : StD} {S : Store} : (ev C (.op o a b p)).b σ S = bnd ((ev C (.op o a b p)).e σ S) fun d S1 => opt (truthD S1 d) S1 := rfl
theorem e_neg {a : E} {p : Pos} {C : Orc} {σ : StD} {S : Store} : (ev C (.neg a p)).e σ S = bnd ((ev C a).e σ S) negD := rfl
theorem b_neg {a : E} {p : Pos} {C : Orc} {σ : StD} {S : Store} : (ev C (.neg a p)).b σ S = bnd ((ev C (.neg a p)).e σ S) fun d S1 => opt (truthD S1 d) S1 := rfl
theorem e_not {a : E} {p : Pos} {C : Orc} {σ : StD} {S : Store} : (ev C (.not a p)).e σ S = bnd ((ev C a).e σ S) notD := rfl
theorem b_not {a : E} {p : Pos} {C : Orc} {σ : StD} {S : Store} : (ev C (.not a p)).b σ S = bnd ((ev C a).b σ S) fun b S1 => some (!b, S1) := rfl
theorem e_bop {o : BoolOp} {es : Es} {p : Pos} {C : Orc} {σ : StD} {S : Store} : (ev C (.bop o es p)).e σ S = evBop C o es σ S := rfl
theorem b_bop {o : BoolOp} {es : Es} {p : Pos} {C : Orc} {σ : StD} {S : Store} : (ev C (.bop o es p)).b σ S = evBB C o es σ S := rfl
theorem e_cmp {o : CmpOp} {a b : E} {p : Pos} {C : Orc} {σ : StD} {S : Store} : (ev C (.cmp o a b p)).e σ S = bnd ((ev C a).e σ S) fun x S1 => bnd ((ev C b).e σ S1) fun y S2 => bnd (opt (cmpD o x y S2) S2) fun k S3 => some (gc S (.bl k) S3) := rfl
theorem b_cmp {o : CmpOp} {a b : E} {p : Pos} {C : Orc} {σ : StD} {S : Store} : (ev C (.cmp o a b p)).b σ S = bnd ((ev C a).e σ S) fun x S1 => bnd ((ev C b).e σ S1) fun y S2 => bnd (opt (cmpD o x y S2) S2) fun k S3 => some (k, (gc S (.bl k) S3).2) := rfl
theorem e_chn {o q : CmpOp} {a b c : E} {p : Pos} {C : Orc} {σ : StD} {S : Store} : (ev C (.chn o q a b c p)).e σ S = bnd ((ev C a).e σ S) fun x S1 => bnd ((ev C b).e σ S1) fun y S2 => bnd (opt (cmpD o x y S2) S2) (iteD (fun S3 => bnd ((ev C c).e σ S3) fun z S4 => opt ((cmpD q y z S4).map .bl) S4) (fun S3 => some (.bl false, S3))) := rfl
theorem b_chn {o q : CmpOp} {a b c : E} {p : Pos} {C : Orc} {σ : StD} {S : Store} : (ev C (.chn o q a b c p)).b σ S = bnd ((ev C a).e σ S) fun x S1 => bnd ((ev C b).e σ S1) fun y S2 => bnd (opt (cmpD o x y S2) S2) (iteD (fun S3 => bnd ((ev C c).e σ S3) fun z S4 => opt (cmpD q y z S4) S4) (fun S3 => some (false, S3))) := rfl
theorem e_ifx {c a b : E} {p : Pos} {C : Orc} {σ : StD} {S : Store} : (ev C (.ifx c a b p)).e σ S = bnd ((ev C c).b σ S) (iteD ((ev C a).e σ) ((ev C b).e σ)) := rfl
theorem b_ifx {c a b : E} {p : Pos} {C : Orc} {σ : StD} {S : Store} : (ev C (.ifx c a b p)).b σ S = bnd ((ev C c).b σ S) (iteD ((ev C a).b σ) ((ev C b).b σ)) := rfl
theorem e_ix {a i : E} {p : Pos} {C : Orc} {σ : StD} {S : Store} : (ev C (.ix a i p)).e σ S = bnd ((ev C a).e σ S) fun x S1 => bnd ((ev C i).e σ S1) fun y S2 => bnd (opt (ixD x y S2) S2) fun z S3 => some (gc S z S3) := rfl
theorem b_ix {a i : E} {p : Pos} {C : Orc} {σ : StD} {S : Store} : (ev C (.ix a i p)).b σ S = bnd ((ev C (.ix a i p)).e σ S) fun d S1 => opt (truthD S1 d) S1 := rfl
theorem e_sl {a : E} {lo hi : Eo} {q p : Pos} {C : Orc} {σ : StD} {S : Store} : (ev C (.sl a lo hi q p)).e σ S = bnd ((ev C a).e σ S) fun x S1 => bnd (evEo C lo σ S1) fun l S2 => bnd (evEo C hi σ S2) fun h S3 => slD x l h S3 := rfl
theorem b_sl {a : E} {lo hi : Eo} {q p : Pos} {C : Orc} {σ : StD} {S : Store} : (ev C (.sl a lo hi q p)).b σ S = bnd ((ev C (.sl a lo hi q p)).e σ S) fun d S1 => opt (truthD S1 d) S1 := rfl
theorem e_call {f : Str} {n : Nat} {as : Es} {q p : Pos} {C : Orc} {σ : StD} {S : Store} : (ev C (.call f n as q p)).e σ S = bnd (evEs C as σ S) fun ds S1 => bnd (C n ds S1) fun d S2 => some (gc S d S2) := rfl
theorem b_call {f : Str} {n : Nat} {as : Es} {q p : Pos} {C : Orc} {σ : StD} {S : Store} : (ev C (.call f n as q p)).b σ S = bnd ((ev C (.call f n as q p)).e σ S) fun d S1 => opt (truthD S1 d) S1 := rfl
theorem e_bi {f : Bi} {as : Es} {q p : Pos} {C : Orc} {σ : StD} {S : Store} : (ev C (.bi f as q p)).e σ S = bnd (evEs C as σ S) fun ds S1 => bnd (biD f ds S1) fun d S2 => some (gc S d S2) := rfl
theorem b_bi {f : Bi} {as : Es} {q p : Pos} {C : Orc} {σ : StD} {S : Store} : (ev C (.bi f as q p)).b σ S = bnd ((ev C (.bi f as q p)).e σ S) fun d S1 => opt (truthD S1 d) S1 := rfl
theorem e_mxd {gr : Bool} {a d : E} {q kp p : Pos} {C : Orc} {σ : StD} {S : Store} : (ev C (.mxd gr a d q kp p)).e σ S = bnd ((ev C a).e σ S) fun x S1 => bnd ((ev C d).e σ S1) fun y S2 => bnd (opt (maxD gr x y S2) S2) fun z S3 => some (gc S z S3) := rfl
theorem b_mxd {gr : Bool} {a d : E} {q kp p : Pos} {C : Orc} {σ : StD} {S : Store} : (ev C (.mxd gr a d q kp p)).b σ S = bnd ((ev C (.mxd gr a d q kp p)).e σ S) fun d S1 => opt (truthD S1 d) S1 := rfl
theorem e_isi {a : E} {t : Ty} {q tp p : Pos} {C : Orc} {σ : StD} {S : Store} : (ev C (.isi a t q tp p)).e σ S = bnd ((ev C a).e σ S) fun x S1 => bnd (opt (tyD S1 x) S1) fun n S2 => some (gc S (.bl (isaD n t)) S2) := rfl
theorem b_isi {a : E} {t : Ty} {q tp p : Pos} {C : Orc} {σ : StD} {S : Store} : (ev C (.isi a t q tp p)).b σ S = bnd ((ev C (.isi a t q tp p)).e σ S) fun d S1 => opt (truthD S1 d) S1 := rfl
theorem e_isl {a : E} {k : Nat} {q p1 p2 tp p : Pos} {C : Orc} {σ : StD} {S : Store} : (ev C (.isl a k q p1 p2 tp p)).e σ S = bnd ((ev C a).e σ S) fun x S1 => bnd (opt (tyD S1 x) S1) fun n S2 => some (gc S (.bl (isaD n .list || isaD n .tuple)) S2) := rfl
theorem b_isl {a : E} {k : Nat} {q p1 p2 tp p : Pos} {C : Orc} {σ : StD} {S : Store} : (ev C (.isl a k q p1 p2 tp p)).b σ S = bnd ((ev C (.isl a k q p1 p2 tp p)).e σ S) fun d S1 => opt (truthD S1 d) S1 := rfl
theorem e_lrg {a b : E} {q2 p2 q p : Pos} {C : Orc} {σ : StD} {S : Store} : (ev C (.lrg a b q2 p2 q p)).e σ S = bnd (bnd ((ev C a).e σ S) intD) fun i S1 => bnd (bnd ((ev C b).e σ S1) intD) fun j S2 => bnd (opt (rngD i j) S2) fun w S3 => if w.items.length ≤ 2 ^ 24 then some (.loc S3.length, S3 ++ [.lst w.items]) else none := rfl
theorem b_lrg {a b : E} {q2 p2 q p : Pos} {C : Orc} {σ : StD} {S : Store} : (ev C (.lrg a b q2 p2 q p)).b σ S = bnd ((ev C (.lrg a b q2 p2 q p)).e σ S) fun d S1 => opt (truthD S1 d) S1 := rfl
theorem e_mt {o : E} {m : Mt} {as : Es} {q p : Pos} {C : Orc} {σ : StD} {S : Store} : (ev C (.mt o m as q p)).e σ S = bnd ((ev C o).e σ S) fun x S1 => if recvD m x S1 then bnd (evEs C as σ S1) fun ds S2 => bnd (mtD m x ds S2) fun d S3 => some (gc S d S3) else none := rfl
theorem b_mt {o : E} {m : Mt} {as : Es} {q p : Pos} {C : Orc} {σ : StD} {S : Store} : (ev C (.mt o m as q p)).b σ S = bnd ((ev C (.mt o m as q p)).e σ S) fun d S1 => opt (truthD S1 d) S1 := rfl
theorem e_lc {e : E} {g : G} {it : I} {c : Eo} {own : List (Str × Nat)} {sc : Scope} {p : Pos} {C : Orc} {σ : StD} {S : Store} : (ev C (.lc e g it c own sc p)).e σ S = bnd (evI C it σ S) fun w S1 => bnd (lcD w.ok (fun x T => evG C g x (wipeD σ (own.map (·.2))) T) (evIf C c) ((ev C e).e) w.items [] S1) fun ds S2 => some (.loc S2.length, S2 ++ [.lst ds]) := rfl
theorem b_lc {e : E} {g : G} {it : I} {c : Eo} {own : List (Str × Nat)} {sc : Scope} {p : Pos} {C : Orc} {σ : StD} {S : Store} : (ev C (.lc e g it c own sc p)).b σ S = bnd ((ev C (.lc e g it c own sc p)).e σ S) fun d S1 => opt (truthD S1 d) S1 := rfl
theorem e_rev {a : E} {k : Nat} {p1 p2 p3 p : Pos} {C : Orc} {σ : StD} {S : Store} : (ev C (.rev a k p1 p2 p3 p)).e σ S = bnd ((ev C a).e σ S) revD := rfl
theorem b_rev {a : E} {k : Nat} {p1 p2 p3 p : Pos} {C : Orc} {σ : StD} {S : Store} : (ev C (.rev a k p1 p2 p3 p)).b σ S = bnd ((ev C (.rev a k p1 p2 p3 p)).e σ S) fun d S1 => opt (truthD S1 d) S1 := rfl
theorem e_gtp {x : Str} {ds : List D} {p : Pos} {C : Orc} {σ : StD} {S : Store} : (ev C (.gtp x ds p)).e σ S = some (.tup ds, S) := rfl
theorem e_lrg1 {a : E} {q2 p2 q p : Pos} {C : Orc} {σ : StD} {S : Store} : (ev C (.lrg1 a q2 p2 q p)).e σ S = bnd (bnd ((ev C a).e σ S) intD) fun i S1 => bnd (opt (rngD 0 i) S1) fun w S3 => if w.items.length ≤ 2 ^ 24 then some (.loc S3.length, S3 ++ [.lst w.items]) else none := rfl
theorem i_rng3 {a b c : E} {q p : Pos} {C : Orc} {σ : StD} {S : Store} : evI C (.rng3 a b c q p) σ S = bnd (bnd ((ev C a).e σ S) intD) fun i S1 => bnd (bnd ((ev C b).e σ S1) intD) fun j S2 => bnd (bnd ((ev C c).e σ S2) intD) fun k S3 => opt (rng3D i j k) S3 := rfl
theorem bop_1 {C : Orc} {o : BoolOp} {a : E} {σ : StD} {S : Store} : evBop C o (.cons a .nil) σ S = (ev C a).e σ S := rfl
theorem bop_2 {C : Orc} {o : BoolOp} {a b : E} {r : Es} {σ : StD} {S : Store} : evBop C o (.cons a (.cons b r)) σ S = bnd ((ev C a).e σ S) (bopD o fun S1 => evBop C o (.cons b r) σ S1) := rfl
theorem bb_1 {C : Orc} {o : BoolOp} {a : E} {σ : StD} {S : Store} : evBB C o (.cons a .nil) σ S = (ev C a).b σ S := rfl
theorem bb_2 {C : Orc} {o : BoolOp} {a b : E} {r : Es} {σ : StD} {S : Store} : evBB C o (.cons a (.cons b r)) σ S = bnd ((ev C a).b σ S) (bopB o fun S1 => evBB C o (.cons b r) σ S1) := rfl
theorem es_nil {C : Orc} {σ : StD} {S : Store} : evEs C .nil σ S = some ([], S) := rfl
theorem es_cons {C : Orc} {e : E} {r : Es} {σ : StD} {S : Store} : evEs C (.cons e r) σ S = bnd ((ev C e).e σ S) fun d S1 => bnd (evEs C r σ S1) fun ds S2 => some (d :: ds, S2) := rfl
theorem eo_none {C : Orc} {σ : StD} {S : Store} : evEo C .none σ S = some (none, S) := rfl
theorem eo_some {C : Orc} {e : E} {σ : StD} {S : Store} : evEo C (.some e) σ S = bnd (bnd ((ev C e).e σ S) intD) fun i S1 => some (some i, S1) := rfl
theorem if_none {C : Orc} {σ : StD} {S : Store} : evIf C .none σ S = some (true, S) := rfl
theorem if_some {C : Orc} {e : E} {σ : StD} {S : Store} : evIf C (.some e) σ S = (ev C e).b σ S := rfl
theorem i_ex {C : Orc} {e : E} {σ : StD} {S : Store} : evI C (.ex e) σ S = bnd ((ev C e).e σ S) fun d S1 => bnd (opt (seqOf S1 d) S1) fun ds S2 => some (⟨ds, stays d ds⟩, S2) := rfl
theorem i_rng1 {C : Orc} {a : E} {q p : Pos} {σ : StD} {S : Store} : evI C (.rng1 a q p) σ S = bnd (bnd ((ev C a).e σ S) intD) fun i S1 => opt (rngD 0 i) S1 := rfl
theorem i_rng2 {C : Orc} {a b : E} {q p : Pos} {σ : StD} {S : Store} : evI C (.rng2 a b q p) σ S = bnd (bnd ((ev C a).e σ S) intD) fun i S1 => bnd (bnd ((ev C b).e σ S1) intD) fun j S2 => opt (rngD i j) S2 := rfl
theorem i_enm {C : Orc} {e : E} {q p : Pos} {σ : StD} {S : Store} : evI C (.enm e q p) σ S = bnd ((ev C e).e σ S) fun d S1 => bnd (opt (seqOf S1 d) S1) fun ds S2 => some (⟨enumD 0 ds, stays d ds⟩, S2) := rfl
theorem q_nm {C : Orc} {i : Nat} {x : Str} {p : Pos} {v : D} {σ : StD} {S : Store} : evG C (.nm i x p) v σ S = some (σ.set i (some v), S) := rfl
theorem q_tp {C : Orc} {gs : Gs} {k : Nat} {p : Pos} {v : D} {σ : StD} {S : Store} : evG C (.tp gs k p) v σ S = bnd (opt (seqOf S v) S) fun ds S1 => evGs C gs ds σ S1 := rfl
def setK (σ : StD) : Option Store → Option (StD × Store)
  | some S3 => some (σ, S3)
  | none => none
theorem q_sb {C : Orc} {o i : E} {p : Pos} {v : D} {σ : StD} {S : Store} : evG C (.sb o i p) v σ S = bnd ((ev C o).e σ S) fun x S1 => bnd ((ev C i).e σ S1) fun y S2 => setK σ (setD x y v S2) := by
  show bnd ((ev C o).e σ S) _ = _
  congr 1
theorem setK_some {σ : StD} {S : Store} : setK σ (some S) = some (σ, S) := rfl
theorem qs_nil {C : Orc} {σ : StD} {S : Store} : evGs C .nil [] σ S = some (σ, S) := rfl
theorem qs_cons {C : Orc} {g : G} {r : Gs} {v : D} {ws : List D} {σ : StD} {S : Store} : evGs C (.cons g r) (v :: ws) σ S = bnd (evG C g v σ S) fun σ1 S1 => evGs C r ws σ1 S1 := rfl
theorem t_asg {C : Orc} {g : G} {e : E} {p : Pos} {σ : StD} {S : Store} : evT C (.asg g e p) σ S = bnd ((ev C e).e σ S) fun d S1 => bnd (evG C g d σ S1) fun σ1 S2 => some (.next σ1, S2) := rfl
theorem t_aug {C : Orc} {i : Nat} {x : Str} {o : Operator} {e : E} {q p : Pos} {σ : StD} {S : Store} : evT C (.aug i x o e q p) σ S = bnd (opt (slotD σ i) S) fun x S1 => bnd ((ev C e).e σ S1) fun y S2 => bnd (opt (augD o x y) S2) fun z S3 => some (.next (σ.set i (some z)), S3) := rfl
theorem t_ex {C : Orc} {e : E} {p : Pos} {σ : StD} {S : Store} : evT C (.ex e p) σ S = bnd ((ev C e).e σ S) fun _ S1 => some (.next σ, (gc S .non S1).2) := rfl
theorem t_ret {C : Orc} {e : E} {p : Pos} {σ : StD} {S : Store} : evT C (.ret e p) σ S = bnd ((ev C e).e σ S) fun d S1 => some (.ret d, S1) := rfl
theorem t_retN {C : Orc} {p : Pos} {σ : StD} {S : Store} : evT C (.retN p) σ S = some (.ret .non, S) := rfl
theorem t_iff {C : Orc} {c : E} {a b : Ts} {p : Pos} {σ : StD} {S : Store} : evT C (.iff c a b p) σ S = bnd ((ev C c).b σ S) (iteD (evTs C a σ) (evTs C b σ)) := rfl
theorem t_fr {C : Orc} {g : G} {it : I} {b : Ts} {p : Pos} {σ : StD} {S : Store} : evT C (.fr g it b p) σ S = bnd (evI C it σ S) fun w S1 => forD w.ok (evG C g) (evTs C b) w.items σ S1 := rfl
theorem t_whl {C : Orc} {c : E} {b : Ts} {p : Pos} {σ : StD} {S : Store} : evT C (.whl c b p) σ S = whlD ((ev C c).b) (evTs C b) turns σ S := rfl
theorem t_brk {C : Orc} {p : Pos} {σ : StD} {S : Store} : evT C (.brk p) σ S = some (.brk σ, S) := rfl
theorem t_cnt {C : Orc} {p : Pos} {σ : StD} {S : Store} : evT C (.cnt p) σ S = some (.cnt σ, S) := rfl
theorem t_pas {C : Orc} {p : Pos} {σ : StD} {S : Store} : evT C (.pas p) σ S = some (.next σ, S) := rfl
theorem con_none : conD .none = some .non := rfl
theorem con_bool {b : Bool} : conD (.bool b) = some (.bl b) := rfl
theorem con_int {i : Int} : conD (.int i) = some (.int i) := rfl
theorem con_str {x : Str} : conD (.str x) = some (.str x) := rfl
theorem neg_int {i : Int} {S : Store} : negD (.int i) S = some (.int (-i), S) := rfl
theorem not_bl {b : Bool} {S : Store} : notD (.bl b) S = some (.bl (!b), S) := rfl
theorem int_int {i : Int} {S : Store} : intD (.int i) S = some (i, S) := rfl
theorem add_int {i j : Int} {S : Store} : opD .Add (.int i) (.int j) S = some (.int (i + j), S) := rfl
theorem sub_int {i j : Int} {S : Store} : opD .Sub (.int i) (.int j) S = some (.int (i - j), S) := rfl
theorem lt_int {i j : Int} {S : Store} : cmpD .Lt (.int i) (.int j) S = some (decide (i < j)) := rfl
theorem le_int {i j : Int} {S : Store} : cmpD .LtE (.int i) (.int j) S = some (decide (i ≤ j)) := rfl
theorem gt_int {i j : Int} {S : Store} : cmpD .Gt (.int i) (.int j) S = some (decide (j < i)) := rfl
theorem ge_int {i j : Int} {S : Store} : cmpD .GtE (.int i) (.int j) S = some (decide (j ≤ i)) := rfl
theorem eq_int {i j : Int} {S : Store} : cmpD .Eq (.int i) (.int j) S = some (decide (i = j)) := by
  show some (PyData.eqv (.int i) (.int j)) = _
  congr 1
theorem ne_int {i j : Int} {S : Store} : cmpD .NotEq (.int i) (.int j) S = some (!decide (i = j)) := by
  show Option.map _ (cmpD .Eq (.int i) (.int j) S) = _
  rw [eq_int]; rfl
theorem is_nn {S : Store} : cmpD .Is .non .non S = some true := rfl
theorem is_in {i : Int} {S : Store} : cmpD .Is (.int i) .non S = some false := rfl
theorem is_bb {a b : Bool} {S : Store} : cmpD .Is (.bl a) (.bl b) S = some (decide (a = b)) := rfl
theorem isn_nn {S : Store} : cmpD .IsNot .non .non S = some false := rfl
theorem isn_in {i : Int} {S : Store} : cmpD .IsNot (.int i) .non S = some true := rfl
theorem isn_bb {a b : Bool} {S : Store} : cmpD .IsNot (.bl a) (.bl b) S = some (!decide (a = b)) := rfl
theorem tr_non {S : Store} : truthD S .non = some false := rfl
theorem tr_bl {b : Bool} {S : Store} : truthD S (.bl b) = some b := rfl
theorem tr_int {i : Int} {S : Store} : truthD S (.int i) = some (i != 0) := rfl
theorem ty_non {S : Store} : tyD S .non = some "NoneType" := rfl
theorem ty_bl {b : Bool} {S : Store} : tyD S (.bl b) = some "bool" := rfl
theorem ty_int {i : Int} {S : Store} : tyD S (.int i) = some "int" := rfl
theorem ty_tup {ds : List D} {S : Store} : tyD S (.tup ds) = some "tuple" := rfl
theorem ty_ro {ds : List D} {S : Store} : tyD S (.ro ds) = some "list" := rfl
theorem isa_int_int : isaD "int" .int = true := rfl
theorem isa_int_bool : isaD "int" .bool = false := rfl
theorem isa_int_list : isaD "int" .list = false := rfl
theorem isa_int_tuple : isaD "int" .tuple = false := rfl
theorem isa_list_list : isaD "list" .list = true := rfl
theorem isa_list_tuple : isaD "list" .tuple = false := rfl
theorem isa_tuple_list : isaD "tuple" .list = false := rfl
theorem isa_tuple_tuple : isaD "tuple" .tuple = true := rfl
theorem sq_tup {ds : List D} {S : Store} : seqOf S (.tup ds) = some ds := rfl
theorem sq_ro {ds : List D} {S : Store} : seqOf S (.ro ds) = some ds := rfl
theorem bi_int_int {i : Int} {S : Store} : biD .int [.int i] S = some (.int i, S) := rfl
theorem bi_int_bl {b : Bool} {S : Store} : biD .int [.bl b] S = some (.int (if b then 1 else 0), S) := rfl
theorem bi_tuple_tup {ds : List D} {S : Store} : biD .tuple [.tup ds] S = some (.tup ds, S) := rfl
theorem bi_list {a : D} {S : Store} : biD .list [a] S = (seqOf S a).map fun ds => (.loc S.length, S ++ [.lst ds]) := rfl
theorem bi_min {i j : Int} {S : Store} : biD .min [.int i, .int j] S = some (.int (if j < i then j else i), S) := rfl
theorem bi_max {i j : Int} {S : Store} : biD .max [.int i, .int j] S = some (.int (if j > i then j else i), S) := rfl
theorem bi_len_tup {ds : List D} {S : Store} : biD .len [.tup ds] S = some (.int ds.length, S) := rfl
theorem bi_len_ro {ds : List D} {S : Store} : biD .len [.ro ds] S = some (.int ds.length, S) := rfl
theorem ix_tup {ds : List D} {k : Int} {S : Store} : ixD (.tup ds) (.int k) S = atI ds k := rfl
theorem ix_ro {ds : List D} {k : Int} {S : Store} : ixD (.ro ds) (.int k) S = atI ds k := rfl
theorem sl_tup {ds : List D} {lo hi : Option Int} {S : Store} : slD (.tup ds) lo hi S = some (.tup (cut ds lo hi), S) := rfl
theorem sl_ro {ds : List D} {lo hi : Option Int} {S : Store} : slD (.ro ds) lo hi S = some (.loc S.length, S ++ [.lst (cut ds lo hi)]) := rfl
section
variable {S : Store} {m : Nat} {ds : List D}
/-- the list at m -/
theorem sq_loc (h : S[m]? = some (.lst ds)) : seqOf S (.loc m) = some ds := by unfold seqOf; dsimp only; rw [h]
theorem ty_loc (h : S[m]? = some (.lst ds)) : tyD S (.loc m) = some "list" := by unfold tyD; dsimp only; rw [h]
theorem ix_loc (h : S[m]? = some (.lst ds)) {k : Int} : ixD (.loc m) (.int k) S = atI ds k := by unfold ixD; dsimp only; rw [h]
theorem len_loc (h : S[m]? = some (.lst ds)) : biD .len [.loc m] S = some (.int ds.length, S) := by unfold biD; dsimp only; rw [h]
theorem tuple_loc (h : S[m]? = some (.lst ds)) : biD .tuple [.loc m] S = some (.tup ds, S) := by unfold biD; dsimp only; rw [sq_loc h]; rfl
theorem look_app {T : Store} {mo : MO} (h : S[m]? = some mo) : (S ++ T)[m]? = some mo := by
  rw [List.getElem?_append_left (List.getElem?_eq_some_iff.mp h).1]; exact h
theorem look_new {mo : MO} : (S ++ [mo])[S.length]? = some mo := by simp
theorem stays_new {es : List D} (h : S[m]? = some (.lst ds)) : stays (.loc m) ds S = true := by unfold stays; dsimp only; rw [h]; exact D.beqL_self ds
theorem stays_tup {es : List D} : stays (.tup ds) es S = true := rfl
theorem stays_ro {es : List D} : stays (.ro ds) es S = true := rfl
theorem set_loc (h : S[m]? = some (.lst ds)) {k : Int} {v : D} {j : Nat} (hj : ixN ds.length k = some j) : setD (.loc m) (.int k) v S = some (S.set m (.lst (ds.set j v))) := by unfold setD; dsimp only; rw [h]; dsimp only; rw [hj]
end
section
variable {S : Store} {d : D} {ds : List D}
theorem sq_cases (h : seqOf S d = some ds) : d = .tup ds ∨ d = .ro ds ∨ ∃ m, d = .loc m ∧ S[m]? = some (.lst ds) := by
  cases d with
  | tup es => exact .inl (by rw [sq_tup] at h; rw [Option.some.inj h])
  | ro es => exact .inr (.inl (by rw [sq_ro] at h; rw [Option.some.inj h]))
  | loc m =>
    unfold seqOf at h
    dsimp only at h
    split at h
    · rename_i es e; exact .inr (.inr ⟨m, rfl, by rw [e, Option.some.inj h]⟩)
    · cases h
  | _ => cases h
theorem len_sq (h : seqOf S d = some ds) : biD .len [d] S = some (.int ds.length, S) := by
  rcases sq_cases h with rfl | rfl | ⟨m, rfl, e⟩
  · rfl
  · rfl
  · exact len_loc e
theorem ix_sq (h : seqOf S d = some ds) {k : Int} : ixD d (.int k) S = atI ds k := by
  rcases sq_cases h with rfl | rfl | ⟨m, rfl, e⟩
  · rfl
  · rfl
  · exact ix_loc e
theorem tuple_sq (h : seqOf S d = some ds) : biD .tuple [d] S = some (.tup ds, S) := by
  rcases sq_cases h with rfl | rfl | ⟨m, rfl, e⟩
  · rfl
  · rfl
  · exact tuple_loc e
theorem sq_app {T : Store} (h : seqOf S d = some ds) : seqOf (S ++ T) d = some ds := by
  rcases sq_cases h with rfl | rfl | ⟨m, rfl, e⟩
  · rfl
  · rfl
  · exact sq_loc (look_app e)
theorem stays_sq (h : seqOf S d = some ds) : stays d ds S = true := by
  rcases sq_cases h with rfl | rfl | ⟨m, rfl, e⟩
  · rfl
  · rfl
  · exact stays_new (es := ds) e
theorem ty_sq (h : seqOf S d = some ds) : tyD S d = some "tuple" ∨ tyD S d = some "list" := by
  rcases sq_cases h with rfl | rfl | ⟨m, rfl, e⟩
  · exact .inl rfl
  · exact .inr rfl
  · exact .inr (ty_loc e)
end
theorem at_0 {d : D} {r : List D} : atI (d :: r) 0 = some d := by
  simp [atI, ixN]
theorem at_1 {d e : D} {r : List D} : atI (d :: e :: r) 1 = some e := by
  have h : (1 : Int) < ↑r.length + 1 + 1 := by omega
  simp [atI, ixN, h]
theorem at_nat {ds : List D} {i : Nat} {d : D} (h : ds[i]? = some d) : atI ds (i : Nat) = some d := by
  have hi : i < ds.length := (List.getElem?_eq_some_iff.mp h).1
  have h2 : (i : Int) < ds.length := by omega
  simp [atI, ixN, h2, h]
theorem orc_at {defs : List Def} {k n : Nat} {as : List D} {S : Store} {d : Def} (h : defs[n]? = some d) : orc defs (k + 1) n as S = runDef (orc defs k) d as S := by
  show (match defs[n]? with | some d => runDef (orc defs k) d as S | none => none) = _
  rw [h]
section
variable {S T U V : Store} {n : Nat} {ds : List D} {i : Int} {b : Bool}
theorem gc_si : gc S (.int i) S = (.int i, S) := gc_self rfl
theorem gc_ai : gc S (.int i) (S ++ T) = (.int i, S) := gc_app rfl
theorem gc_aai : gc S (.int i) (S ++ T ++ U) = (.int i, S) := by rw [List.append_assoc]; exact gc_app rfl
theorem gc_aaai : gc S (.int i) (S ++ T ++ U ++ V) = (.int i, S) := by rw [List.append_assoc, List.append_assoc]; exact gc_app rfl
theorem gc_sb : gc S (.bl b) S = (.bl b, S) := gc_self rfl
theorem gc_ab : gc S (.bl b) (S ++ T) = (.bl b, S) := gc_app rfl
theorem gc_aab : gc S (.bl b) (S ++ T ++ U) = (.bl b, S) := by rw [List.append_assoc]; exact gc_app rfl
theorem gc_aaab : gc S (.bl b) (S ++ T ++ U ++ V) = (.bl b, S) := by rw [List.append_assoc, List.append_assoc]; exact gc_app rfl
theorem gc_sn : gc S (.non) S = (.non, S) := gc_self rfl
theorem gc_an : gc S (.non) (S ++ T) = (.non, S) := gc_app rfl
theorem gc_aan : gc S (.non) (S ++ T ++ U) = (.non, S) := by rw [List.append_assoc]; exact gc_app rfl
theorem gc_aaan : gc S (.non) (S ++ T ++ U ++ V) = (.non, S) := by rw [List.append_assoc, List.append_assoc]; exact gc_app rfl
end

theorem gc_tupa {S T : Store} {ds : List D} (h : D.pureL ds = true) : gc S (.tup ds) (S ++ T) = (.tup ds, S) := gc_app h
theorem gc_tupaa {S T U : Store} {ds : List D} (h : D.pureL ds = true) : gc S (.tup ds) (S ++ T ++ U) = (.tup ds, S) := by rw [List.append_assoc]; exact gc_app h
theorem gc_newl {S : Store} {ds : List D} (h : D.pureL ds = true) : gc S (.loc S.length) (S ++ [.lst ds]) = (.loc S.length, S ++ [.lst ds]) := gc_new h
theorem wipe_nil {σ : StD} : wipeD σ [] = σ := rfl
theorem wipe_cons {σ : StD} {v : Nat} {vs : List Nat} : wipeD σ (v :: vs) = (wipeD σ vs).set v none := rfl
/-! ### loops by an invariant -/
def stepOk (I : StD → Store → Prop) (Post : Option (Fl × Store) → Prop) : Option (Fl × Store) → Prop
  | some (.next σ, S) => I σ S
  | some (.cnt σ, S) => I σ S
  | some (.brk σ, S) => Post (some (.next σ, S))
  | some (.ret d, S) => Post (some (.ret d, S))
  | none => False
theorem forD_gen {ok : Store → Bool} {g : D → StD → Store → Option (StD × Store)} {b : StD → Store → Option (Fl × Store)} (I : List D → StD → Store → Prop) (Post : Option (Fl × Store) → Prop)
    (hend : ∀ σ S, I [] σ S → ok S = true ∧ Post (some (.next σ, S))) (hs : ∀ x r σ S, I (x :: r) σ S → ok S = true ∧ stepOk (I r) Post (bnd (g x σ S) b)) :
    ∀ (items : List D) (σ : StD) (S : Store), I items σ S → Post (forD ok g b items σ S)
  | [], σ, S, h => by
    obtain ⟨h1, h2⟩ := hend σ S h
    rw [forD, if_pos h1]; exact h2
  | x :: r, σ, S, h => by
    obtain ⟨h1, h2⟩ := hs x r σ S h
    rw [forD, if_pos h1]
    cases e : g x σ S with
    | none => rw [e] at h2; exact h2.elim
    | some p =>
      obtain ⟨σ1, S1⟩ := p
      rw [e, bnd_some] at h2
      dsimp only
      cases e2 : b σ1 S1 with
      | none => rw [e2] at h2; exact h2.elim
      | some q =>
        obtain ⟨f, S2⟩ := q
        rw [e2] at h2
        cases f with
        | next σ2 => exact forD_gen I Post hend hs r σ2 S2 h2
        | cnt σ2 => exact forD_gen I Post hend hs r σ2 S2 h2
        | brk σ2 => exact h2
        | ret d => exact h2
theorem for_X {ok : Store → Bool} {g : D → StD → Store → Option (StD × Store)} {b : StD → Store → Option (Fl × Store)} {items : List D} {σ : StD} {S : Store} {X : Option (Fl × Store)} (hX : forD ok g b items σ S = X) (I : List D → StD → Store → Prop) (Post : Option (Fl × Store) → Prop)
    (h0 : I items σ S) (hend : ∀ σ S, I [] σ S → ok S = true ∧ Post (some (.next σ, S))) (hs : ∀ x r σ S, I (x :: r) σ S → ok S = true ∧ stepOk (I r) Post (bnd (g x σ S) b)) : Post X :=
  hX ▸ forD_gen I Post hend hs items σ S h0
def stepL (I : List D → Store → Prop) (acc : List D) : Option (Option D × Store) → Prop
  | some (some y, S) => I (acc ++ [y]) S
  | some (none, S) => I acc S
  | none => False
theorem lcD_gen {ok : Store → Bool} {g : D → Store → Option (StD × Store)} {c : StD → Store → Option (Bool × Store)} {e : StD → Store → Option (D × Store)} (I : List D → List D → Store → Prop) (Post : Option (List D × Store) → Prop)
    (hend : ∀ acc S, I [] acc S → ok S = true ∧ Post (some (acc, S)))
    (hs : ∀ x r acc S, I (x :: r) acc S → ok S = true ∧ acc.length < sizeLine ∧ stepL (I r) acc (bnd (g x S) fun σ S1 => bnd (c σ S1) (iteD (fun S2 => bnd (e σ S2) fun y S3 => some (some y, S3)) (fun S2 => some (none, S2))))) :
    ∀ (items acc : List D) (S : Store), I items acc S → Post (lcD ok g c e items acc S)
  | [], acc, S, h => by
    obtain ⟨h1, h2⟩ := hend acc S h
    rw [lcD, if_pos h1]; exact h2
  | x :: r, acc, S, h => by
    obtain ⟨h1, h3, h2⟩ := hs x r acc S h
    rw [lcD, if_pos h1]
    cases eg : g x S with
    | none => rw [eg] at h2; exact h2.elim
    | some p =>
      obtain ⟨σ1, S1⟩ := p
      rw [eg, bnd_some] at h2
      dsimp only
      cases ec : c σ1 S1 with
      | none => rw [ec] at h2; exact h2.elim
      | some q =>
        obtain ⟨t, S2⟩ := q
        rw [ec, bnd_some] at h2
        cases t with
        | false => exact lcD_gen I Post hend hs r acc S2 h2
        | true =>
          dsimp only
          rw [ite_t] at h2
          cases ee : e σ1 S2 with
          | none => rw [ee] at h2; exact h2.elim
          | some z =>
            obtain ⟨y, S3⟩ := z
            rw [ee, bnd_some] at h2
            dsimp only
            rw [if_pos h3]
            exact lcD_gen I Post hend hs r (acc ++ [y]) S3 h2
theorem lc_X {ok : Store → Bool} {g : D → Store → Option (StD × Store)} {c : StD → Store → Option (Bool × Store)} {e : StD → Store → Option (D × Store)} {items acc : List D} {S : Store} {X : Option (List D × Store)} (hX : lcD ok g c e items acc S = X) (I : List D → List D → Store → Prop) (Post : Option (List D × Store) → Prop)
    (h0 : I items acc S) (hend : ∀ acc S, I [] acc S → ok S = true ∧ Post (some (acc, S)))
    (hs : ∀ x r acc S, I (x :: r) acc S → ok S = true ∧ acc.length < sizeLine ∧ stepL (I r) acc (bnd (g x S) fun σ S1 => bnd (c σ S1) (iteD (fun S2 => bnd (e σ S2) fun y S3 => some (some y, S3)) (fun S2 => some (none, S2))))) : Post X :=
  hX ▸ lcD_gen I Post hend hs items acc S h0

/-! ### equality of data -/
theorem mapO_map {α β γ : Type} {f : α → β} {g : α → γ} {F : β → Option γ} : ∀ (xs : List α), (∀ x ∈ xs, F (f x) = some (g x)) → mapO F (xs.map f) = some (xs.map g)
  | [], _ => rfl
  | x :: r, h => by
    rw [List.map_cons, mapO, h x (List.mem_cons_self ..)]
    dsimp only
    rw [mapO_map r fun y hy => h y (List.mem_cons_of_mem _ hy)]; rfl
theorem mapO_all {α β : Type} {F : α → Option β} {P : β → Prop} (h : ∀ a b, F a = some b → P b) : ∀ {xs : List α} {ys : List β}, mapO F xs = some ys → ∀ y ∈ ys, P y
  | [], ys, e => by
    have : ys = [] := (Option.some.inj e).symm
    subst this; intro y hy; cases hy
  | x :: r, ys, e => by
    rw [mapO] at e
    split at e
    · rename_i b hb
      split at e
      · rename_i bs hbs
        have := Option.some.inj e
        subst this
        intro y hy
        rcases List.mem_cons.mp hy with rfl | hy
        · exact h x _ hb
        · exact mapO_all h hbs y hy
      · cases e
    · cases e
theorem eqvAll_of : ∀ (ps : List PyData), (∀ p ∈ ps, PyData.eqv p p = true) → PyData.eqvAll ps ps = true
  | [], _ => rfl
  | p :: r, h => by
    rw [PyData.eqvAll, h p (List.mem_cons_self ..), eqvAll_of r fun q hq => h q (List.mem_cons_of_mem _ hq)]; rfl
theorem toPy_refl {S : Store} : ∀ (n : Nat) (d : D) (p : PyData), toPy S n d = some p → PyData.eqv p p = true
  | n, .non, p, h => by
    cases n <;> (simp only [toPy] at h; cases h; rfl)
  | n, .bl b, p, h => by
    cases n <;> (simp only [toPy] at h; cases h; simp [PyData.eqv])
  | n, .int i, p, h => by
    cases n <;> (simp only [toPy] at h; cases h; simp [PyData.eqv])
  | n, .str x, p, h => by
    cases n <;> (simp only [toPy] at h; split at h <;> cases h; simp [PyData.eqv])
  | 0, .tup ds, p, h => by simp [toPy] at h
  | 0, .ro ds, p, h => by simp [toPy] at h
  | 0, .loc m, p, h => by simp [toPy] at h
  | n + 1, .tup ds, p, h => by
    rw [toPy] at h
    obtain ⟨ps, h1, h2⟩ := Option.map_eq_some_iff.mp h
    subst h2
    rw [PyData.eqv]
    exact eqvAll_of ps (mapO_all (fun a b e => toPy_refl n a b e) h1)
  | n + 1, .ro ds, p, h => by
    rw [toPy] at h
    obtain ⟨ps, h1, h2⟩ := Option.map_eq_some_iff.mp h
    subst h2
    rw [PyData.eqv]
    exact eqvAll_of ps (mapO_all (fun a b e => toPy_refl n a b e) h1)
  | n + 1, .loc m, p, h => by
    rw [toPy] at h
    split at h
    · obtain ⟨ps, h1, h2⟩ := Option.map_eq_some_iff.mp h
      subst h2
      rw [PyData.eqv]
      exact eqvAll_of ps (mapO_all (fun a b e => toPy_refl n a b e) h1)
    · cases h
theorem eqD_same {S : Store} {d e : D} {p : PyData} (h1 : toPy S 60 d = some p) (h2 : toPy S 60 e = some p) : eqD S d e = some true := by
  unfold eqD; rw [h1, h2]
  dsimp only
  rw [toPy_refl 60 d p h1]
theorem toPy_loc {S : Store} {n m : Nat} {ds : List D} {ps : List PyData} (h : S[m]? = some (.lst ds)) (hp : mapO (toPy S n) ds = some ps) : toPy S (n + 1) (.loc m) = some (.list ps) := by
  rw [toPy, h]
  dsimp only
  rw [hp]; rfl
theorem toPy_tup {S : Store} {n : Nat} {ds : List D} {ps : List PyData} (hp : mapO (toPy S n) ds = some ps) : toPy S (n + 1) (.tup ds) = some (.tuple ps) := by
  rw [toPy, hp]; rfl
theorem toPy_int {S : Store} {n : Nat} {i : Int} : toPy S n (.int i) = some (.int i) := by cases n <;> rfl
theorem toPy_non {S : Store} {n : Nat} : toPy S n .non = some .none := by cases n <;> rfl
theorem toPy_bl {S : Store} {n : Nat} {b : Bool} : toPy S n (.bl b) = some (.bool b) := by cases n <;> rfl
theorem eqD_loc2 {S : Store} {a b : Nat} {ds : List D} {ps : List PyData} (ha : S[a]? = some (.lst ds)) (hb : S[b]? = some (.lst ds)) (hp : mapO (toPy S 59) ds = some ps) : eqD S (.loc a) (.loc b) = some true :=
  eqD_same (toPy_loc (n := 59) ha hp) (toPy_loc (n := 59) hb hp)
theorem mapO_len {α β : Type} {F : α → Option β} : ∀ {xs : List α} {ys : List β}, mapO F xs = some ys → xs.length = ys.length
  | [], ys, e => by
    have : ys = [] := (Option.some.inj e).symm
    subst this; rfl
  | x :: r, ys, e => by
    rw [mapO] at e
    split at e
    · split at e
      · rename_i bs hbs
        have := Option.some.inj e
        subst this
        simp [mapO_len hbs]
      · cases e
    · cases e
theorem eqD_empty {S : Store} {a b : Nat} {ds : List D} {ps : List PyData} (ha : S[a]? = some (.lst ds)) (hb : S[b]? = some (.lst [])) (hp : mapO (toPy S 59) ds = some ps) : eqD S (.loc a) (.loc b) = some ds.isEmpty := by
  unfold eqD
  rw [toPy_loc (n := 59) ha hp, toPy_loc (n := 59) hb (ps := []) rfl]
  dsimp only
  have := mapO_len hp
  cases ps <;> cases ds <;> first | rfl | (simp at this)
theorem ne_of {S : Store} {d e : D} {b : Bool} (h : eqD S d e = some b) : cmpD .NotEq d e S = some (!b) := by
  show Option.map _ (eqD S d e) = _
  rw [h]; rfl
theorem eq_of {S : Store} {d e : D} {b : Bool} (h : eqD S d e = some b) : cmpD .Eq d e S = some b := h
/-! ### ranges -/
def rangeI (lo : Int) : Nat → List Int
  | 0 => []
  | n + 1 => lo :: rangeI (lo + 1) n
theorem rangeD_eq : ∀ (n : Nat) (lo : Int), rangeD lo n = (rangeI lo n).map D.int
  | 0, _ => rfl
  | n + 1, lo => by rw [rangeD, rangeI, List.map_cons, rangeD_eq n]
theorem rangeI_len : ∀ (n : Nat) (lo : Int), (rangeI lo n).length = n
  | 0, _ => rfl
  | n + 1, lo => by rw [rangeI, List.length_cons, rangeI_len n]
theorem rangeI_ge : ∀ (n : Nat) (lo : Int), ∀ i ∈ rangeI lo n, lo ≤ i
  | 0, _, i, h => by cases h
  | n + 1, lo, i, h => by
    rcases List.mem_cons.mp h with rfl | h
    · exact Int.le_refl _
    · have := rangeI_ge n (lo + 1) i h; omega
theorem rng_small {lo hi : Int} (h1 : -1000000 ≤ lo) (h2 : lo ≤ 1000000) (h3 : -1000000 ≤ hi) (h4 : hi ≤ 1000000) : rngD lo hi = some ⟨(rangeI lo (hi - lo).toNat).map D.int, fun _ => true⟩ := by
  unfold rngD
  rw [if_pos ⟨by omega, by omega, by omega, by omega⟩, rangeD_eq]
/-! ### slices -/
theorem cut_from {α : Type} {xs : List α} {n : Nat} (h : n ≤ xs.length) : cut xs (some (n : Int)) none = xs.drop n := by
  unfold cut
  rw [HT.sIx_nat, HT.sIx_none, Nat.min_eq_left h]
  exact List.take_of_length_le (by rw [List.length_drop]; exact Nat.le_refl _)
theorem cut_upto {α : Type} {xs : List α} {n : Nat} : cut xs none (some (n : Int)) = xs.take n := by
  unfold cut
  rw [HT.sIx_nat, HT.sIx_none, List.drop_zero, Nat.sub_zero]
  rcases Nat.le_total n xs.length with h | h
  · rw [Nat.min_eq_left h]
  · rw [Nat.min_eq_right h, List.take_length, List.take_of_length_le h]
theorem sz_0 : (0 ≤ sizeLine) = True := eq_true (by decide)
theorem sz_1 : (1 ≤ sizeLine) = True := eq_true (by decide)
theorem sz_2 : (2 ≤ sizeLine) = True := eq_true (by decide)
theorem sz_3 : (3 ≤ sizeLine) = True := eq_true (by decide)
theorem sz_4 : (4 ≤ sizeLine) = True := eq_true (by decide)
theorem sz_5 : (5 ≤ sizeLine) = True := eq_true (by decide)
theorem sz_6 : (6 ≤ sizeLine) = True := eq_true (by decide)
theorem sz_7 : (7 ≤ sizeLine) = True := eq_true (by decide)
theorem sz_8 : (8 ≤ sizeLine) = True := eq_true (by decide)
theorem sz_9 : (9 ≤ sizeLine) = True := eq_true (by decide)
theorem sz_10 : (10 ≤ sizeLine) = True := eq_true (by decide)
end Mi

end

section
/-! Mi13: rows of pairs (towers) in the store. -/
namespace Mi
open PySem PySem.Spec
open L2 (atI ixN)
abbrev Tws := List (Int × Int)
/-- towers in the store: rows of pairs -/
def TwL (S : Store) : List D → Tws → Prop
  | [], [] => True
  | d :: ds, p :: tw => seqOf S d = some [.int p.1, .int p.2] ∧ TwL S ds tw
  | _, _ => False
def Fine : Tws → Prop
  | [] => True
  | p :: r => 1 ≤ p.2 ∧ (∀ q ∈ r, p.1 < q.1) ∧ Fine r
def prD (p : Int × Int) : D := .tup [.int p.1, .int p.2]
/-- what is a row of towers, as a tuple or a list, of tuples or lists -/
structure IsTw (S : Store) (v : D) (tw : Tws) : Prop where
  ex : ∃ ds, seqOf S v = some ds ∧ TwL S ds tw
  fine : Fine tw
  len : tw.length ≤ 1000
theorem TwL.app {S T : Store} : ∀ {ds : List D} {tw : Tws}, TwL S ds tw → TwL (S ++ T) ds tw
  | [], [], _ => trivial
  | _ :: _, _ :: _, ⟨h, r⟩ => ⟨sq_app h, TwL.app r⟩
theorem IsTw.app {S T : Store} {v : D} {tw : Tws} (h : IsTw S v tw) : IsTw (S ++ T) v tw := by
  obtain ⟨⟨ds, h1, h2⟩, h3, h4⟩ := h
  exact ⟨⟨ds, sq_app h1, h2.app⟩, h3, h4⟩
theorem TwL.len {S : Store} : ∀ {ds : List D} {tw : Tws}, TwL S ds tw → ds.length = tw.length
  | [], [], _ => rfl
  | _ :: _, _ :: _, ⟨_, r⟩ => congrArg (· + 1) (TwL.len r)
theorem TwL.prs {S : Store} : ∀ (tw : Tws), TwL S (tw.map prD) tw
  | [] => trivial
  | p :: r => ⟨rfl, TwL.prs r⟩
theorem IsTw.tup {S : Store} {tw : Tws} (h : Fine tw) (hl : tw.length ≤ 1000) : IsTw S (.tup (tw.map prD)) tw := ⟨⟨_, rfl, TwL.prs tw⟩, h, hl⟩
theorem prs_pure (tw : Tws) : D.pureL (tw.map prD) = true := pureL_map tw fun _ _ => rfl
theorem lcD_tw {ok : Store → Bool} {g : D → Store → Option (StD × Store)} {c : StD → Store → Option (Bool × Store)} {e : StD → Store → Option (D × Store)} {S : Store} (p : Int × Int → Bool) (f : Int × Int → D) (hok : ok S = true) :
    ∀ {ds : List D} {tw : Tws} (acc : List D), TwL S ds tw → (∀ d q, q ∈ tw → seqOf S d = some [.int q.1, .int q.2] → ∃ σ, g d S = some (σ, S) ∧ c σ S = some (p q, S) ∧ (p q = true → e σ S = some (f q, S))) → acc.length + tw.length ≤ sizeLine →
      lcD ok g c e ds acc S = some (acc ++ (tw.filter p).map f, S)
  | [], [], acc, _, _, _ => by simp [lcD, hok]
  | d :: ds, q :: tw, acc, ⟨h1, h2⟩, h, hl => by
    obtain ⟨σ, g1, g2, g3⟩ := h d q (List.mem_cons_self ..) h1
    have hr := fun acc hl => lcD_tw (e := e) p f hok acc h2 (fun d y hy => h d y (List.mem_cons_of_mem _ hy)) hl
    simp only [List.length_cons] at hl
    rw [lcD, if_pos hok, g1]
    dsimp only
    rw [g2]
    cases hp : p q with
    | true =>
      dsimp only
      rw [g3 hp]
      dsimp only
      rw [if_pos (by omega), hr _ (by simp; omega), List.filter_cons, hp]
      simp
    | false =>
      dsimp only
      rw [hr _ (by omega), List.filter_cons, hp]
      simp
theorem lcD_tw0 {ok : Store → Bool} {g : D → Store → Option (StD × Store)} {c : StD → Store → Option (Bool × Store)} {e : StD → Store → Option (D × Store)} {S : Store} (f : Int × Int → D) (hok : ok S = true)
    {ds : List D} {tw : Tws} (h : TwL S ds tw) (hs : ∀ d q, q ∈ tw → seqOf S d = some [.int q.1, .int q.2] → ∃ σ, g d S = some (σ, S) ∧ c σ S = some (true, S) ∧ e σ S = some (f q, S)) (hl : tw.length ≤ sizeLine) :
      lcD ok g c e ds [] S = some (tw.map f, S) := by
  have := lcD_tw (e := e) (fun _ => true) f hok [] h (fun d q h1 h2 => let ⟨σ, a, b, c⟩ := hs d q h1 h2; ⟨σ, a, b, fun _ => c⟩) (by simpa using hl)
  rw [this, List.filter_eq_self.mpr (fun _ _ => rfl)]; rfl
theorem small {n : Nat} (h : n ≤ 1000) : n ≤ sizeLine := Nat.le_trans h (by decide)

def hiT : Tws → Int
  | [] => 0
  | p :: r => greatest p.2 (r.map (·.2))
theorem intsOf_map {α : Type} (f : α → Int) : ∀ (xs : List α), intsOf (xs.map fun x => D.int (f x)) = some (xs.map f)
  | [] => rfl
  | x :: r => by rw [List.map_cons, intsOf, intsOf_map f r]; rfl
theorem maxD_tw {S : Store} {m : Nat} {tw : Tws} (h : S[m]? = some (.lst (tw.map fun q => D.int q.2))) : maxD true (.loc m) (.int 0) S = some (.int (hiT tw)) := by
  unfold maxD
  rw [sq_loc h]
  dsimp only
  rw [intsOf_map]
  cases tw <;> rfl
def kD : Option Int → D
  | none => .non
  | some i => .int i
theorem kD_n : kD none = .non := rfl
theorem kD_s {i : Int} : kD (some i) = .int i := rfl
def keysAt (tw : Tws) (l : Int) : List Int := (tw.filter fun p => decide (l ≤ p.2)).map (·.1)
/-- a link: where from, the level, where to -/
def linkD (tw : Tws) (from_ : Option Int) (l : Int) : D := .tup [kD from_, .int l, kD (keysAt tw l).head?]
def beyond (key : Option Int) (l : Int) (p : Int × Int) : Bool := decide (l ≤ p.2) && (match key with | none => true | some k => decide (k < p.1))
def nextK (tw : Tws) (key : Option Int) (l : Int) : Option Int := ((tw.filter (beyond key l)).map (·.1)).head?
theorem ints_py {S : Store} {n : Nat} (xs : List Int) : mapO (toPy S n) (xs.map D.int) = some (xs.map PyData.int) := mapO_map xs fun _ _ => toPy_int
theorem ints_pure (xs : List Int) : D.pureL (xs.map D.int) = true := pureL_map xs fun _ _ => rfl
@[simp] theorem pure_kD (o : Option Int) : D.pure (kD o) = true := by cases o <;> rfl

theorem head_at {xs : List Int} (h : xs.isEmpty = false) : atI (xs.map D.int) 0 = some (kD xs.head?) := by
  cases xs with
  | nil => cases h
  | cons i r => rw [List.map_cons, at_0]; rfl
theorem head_none {xs : List Int} (h : xs.isEmpty = true) : kD xs.head? = .non := by
  cases xs with
  | nil => rfl
  | cons i r => cases h
theorem isEmpty_map {α β : Type} {f : α → β} (xs : List α) : (xs.map f).isEmpty = xs.isEmpty := by cases xs <;> rfl
theorem beyond_map (tw : Tws) (key : Option Int) (l : Int) : (tw.filter (beyond key l)).map (fun q => D.int q.1) = ((tw.filter (beyond key l)).map (·.1)).map D.int := by rw [List.map_map]; rfl
theorem keysAt_map (tw : Tws) (l : Int) : (tw.filter fun q => decide (l ≤ q.2)).map (fun q => D.int q.1) = (keysAt tw l).map D.int := by rw [keysAt, List.map_map]; rfl
end Mi

end

section
/-! Mi14: the store by its end. -/
namespace Mi
open PySem PySem.Spec
open L2 (atI ixN)
def lk (S : Store) (m : Nat) : Option MO := S[m]?
section
variable {S L L1 L2 : Store} {m j : Nat} {v w mo : MO}
theorem lk_lt (h : lk S m = some mo) : m < S.length := (List.getElem?_eq_some_iff.mp h).1
theorem lk_app : lk (S ++ L) (S.length + j) = lk L j := by
  unfold lk; rw [List.getElem?_append_right (by omega)]; congr 1; omega
theorem lk_app0 : lk (S ++ L) S.length = lk L 0 := lk_app (j := 0)
theorem lk_sapp : lk (S.set m v ++ L) (S.length + j) = lk L j := by
  have := lk_app (S := S.set m v) (L := L) (j := j)
  rwa [List.length_set] at this
theorem lk_sapp0 : lk (S.set m v ++ L) S.length = lk L 0 := lk_sapp (j := 0)
theorem lk_z : lk (v :: L) 0 = some v := rfl
theorem lk_s : lk (v :: L) (j + 1) = lk L j := rfl
theorem lk_old (h : lk S m = some mo) : lk (S ++ L) m = some mo := by
  have := lk_lt h
  unfold lk at h ⊢
  rw [List.getElem?_append_left this]; exact h
theorem lk_set (h : lk S m = some mo) : lk (S.set m v) m = some v := by
  have := lk_lt h
  unfold lk; rw [List.getElem?_set_self this]
theorem lk_seta (h : lk S m = some mo) : lk (S.set m v ++ L) m = some v := lk_old (lk_set h)
theorem lk_other (h : lk S j = some mo) (hn : m ≠ j) : lk (S.set m v) j = some mo := by
  unfold lk at h ⊢; rw [List.getElem?_set_ne hn]; exact h
theorem lk_othera (h : lk S j = some mo) (hn : m ≠ j) : lk (S.set m v ++ L) j = some mo := lk_old (lk_other h hn)
theorem st_app : (S ++ L).set (S.length + j) v = S ++ L.set j v := by
  rw [List.set_append_right _ _ (by omega)]; congr 2; omega
theorem st_app0 : (S ++ L).set S.length v = S ++ L.set 0 v := st_app (j := 0)
theorem st_sapp : (S.set m w ++ L).set (S.length + j) v = S.set m w ++ L.set j v := by
  have := st_app (S := S.set m w) (L := L) (j := j) (v := v)
  rwa [List.length_set] at this
theorem st_sapp0 : (S.set m w ++ L).set S.length v = S.set m w ++ L.set 0 v := st_sapp (j := 0)
theorem st_old (h : lk S m = some mo) : (S ++ L).set m v = S.set m v ++ L := List.set_append_left _ _ (lk_lt h)
theorem st_olds (h : lk S m = some mo) : (S.set m w ++ L).set m v = S.set m v ++ L := by
  rw [List.set_append_left _ _ (by rw [List.length_set]; exact lk_lt h), List.set_set]
theorem len_set : (S.set m v).length = S.length := List.length_set
theorem set_set : (S.set m v).set m w = S.set m w := List.set_set ..
end
section
variable {S : Store} {m n : Nat}
theorem sq_lk : seqOf S (.loc m) = match lk S m with | some (.lst ds) => some ds | _ => none := rfl
theorem ix_lk {k : Int} : ixD (.loc m) (.int k) S = match lk S m with | some (.lst ds) => atI ds k | some (.dic kvs) => getG kvs (.inl k) | _ => none := rfl
theorem sl_lk {lo hi : Option Int} : slD (.loc m) lo hi S = match lk S m with | some (.lst ds) => some (.loc S.length, S ++ [.lst (cut ds lo hi)]) | _ => none := rfl
theorem len_lk : biD .len [.loc m] S = match lk S m with | some (.lst ds) => some (.int ds.length, S) | some (.dic kvs) => some (.int kvs.length, S) | _ => none := rfl
theorem tuple_lk : biD .tuple [.loc m] S = match lk S m with | some (.lst ds) => some (.tup ds, S) | _ => none := by
  show (seqOf S (.loc m)).map _ = _
  rw [sq_lk]
  cases lk S m with
  | none => rfl
  | some mo => cases mo <;> rfl
theorem list_lk : biD .list [.loc m] S = match lk S m with | some (.lst ds) => some (.loc S.length, S ++ [.lst ds]) | _ => none := by
  show (seqOf S (.loc m)).map _ = _
  rw [sq_lk]
  cases lk S m with
  | none => rfl
  | some mo => cases mo <;> rfl
theorem list_tup {ds : List D} : biD .list [.tup ds] S = some (.loc S.length, S ++ [.lst ds]) := rfl
theorem ty_lk : tyD S (.loc m) = match lk S m with | some (.lst _) => some "list" | some (.dic _) => some "dict" | some (.dit _) => some "dict" | none => none := rfl
theorem stays_lk {ds : List D} : stays (.loc m) ds S = match lk S m with | some (.lst es) => D.beqL es ds | _ => false := rfl
theorem set_lk {k : Int} {v : D} : setD (.loc m) (.int k) v S = match lk S m with
    | some (.lst ds) => (match ixN ds.length k with
      | some j => some (S.set m (.lst (ds.set j v)))
      | none => none)
    | some (.dic kvs) => if kvs.length < sizeLine then some (S.set m (.dic (putG kvs (.inl k) v))) else none
    | _ => none := rfl
theorem add_lk : opD .Add (.loc m) (.loc n) S = match lk S m, lk S n with
    | some (.lst x), some (.lst y) => if x.length + y.length ≤ sizeLine then some (.loc S.length, S ++ [.lst (x ++ y)]) else none
    | _, _ => none := rfl
theorem app_lk {x : D} : mtD .append (.loc n) [x] S = match lk S n with
    | some (.lst ds) => if ds.length < sizeLine then some (.non, S.set n (.lst (ds ++ [x]))) else none
    | _ => none := by
  unfold mtD lk
  dsimp only
  cases S[n]? with
  | none => rfl
  | some mo => cases mo <;> rfl
theorem ext_lk {p : Nat} : mtD .extend (.loc n) [.loc p] S = match lk S n, lk S p with
    | some (.lst ds), some (.lst es) => if ds.length + es.length ≤ sizeLine then some (.non, S.set n (.lst (ds ++ es))) else none
    | _, _ => none := by
  unfold mtD lk
  dsimp only
  cases S[n]? with
  | none => rfl
  | some mo => cases mo <;> first | rfl | (dsimp only; split <;> simp_all)
theorem clear_lk : mtD .clear (.loc n) [] S = match lk S n with
    | some (.lst ds) => some (.non, S.set n (.lst []))
    | _ => none := by
  unfold mtD lk
  dsimp only
  cases S[n]? with
  | none => rfl
  | some mo => cases mo <;> rfl
theorem rev_lk : revD (.loc n) S = match lk S n with
    | some (.lst ds) => some (.loc S.length, S ++ [.lst ds.reverse])
    | _ => none := by
  unfold revD lstOf seqOf lk
  dsimp only
  cases S[n]? with
  | none => rfl
  | some mo => cases mo <;> rfl
theorem max_lk : biD .max [.loc n] S = match lk S n with
    | some (.lst ds) => (match intsOf ds with
      | some (i :: r) => some (.int (greatest i r), S)
      | _ => none)
    | _ => none := by
  show mxlD true (.loc n) S = _
  unfold mxlD lstOf seqOf lk
  dsimp only
  cases S[n]? with
  | none => rfl
  | some mo => cases mo <;> rfl
theorem min_lk : biD .min [.loc n] S = match lk S n with
    | some (.lst ds) => (match intsOf ds with
      | some (i :: r) => some (.int (least i r), S)
      | _ => none)
    | _ => none := by
  show mxlD false (.loc n) S = _
  unfold mxlD lstOf seqOf lk
  dsimp only
  cases S[n]? with
  | none => rfl
  | some mo => cases mo <;> rfl
theorem sum_lk : biD .sum [.loc n] S = match lk S n with
    | some (.lst ds) => (intsOf ds).map fun ns => (.int ns.sum, S)
    | _ => none := by
  show sumD (.loc n) S = _
  unfold sumD lstOf seqOf lk
  dsimp only
  cases S[n]? with
  | none => rfl
  | some mo => cases mo <;> rfl
theorem any_lk : biD .any [.loc n] S = match lk S n with
    | some (.lst ds) => (boolsOf ds).map fun ns => (.bl (ns.any id), S)
    | _ => none := by
  show anyD (.loc n) S = _
  unfold anyD lstOf seqOf lk
  dsimp only
  cases S[n]? with
  | none => rfl
  | some mo => cases mo <;> rfl
theorem all_lk : biD .all [.loc n] S = match lk S n with
    | some (.lst ds) => (boolsOf ds).map fun ns => (.bl (ns.all id), S)
    | _ => none := by
  show allD (.loc n) S = _
  unfold allD lstOf seqOf lk
  dsimp only
  cases S[n]? with
  | none => rfl
  | some mo => cases mo <;> rfl
theorem count_lk {x : D} : mtD .count (.loc n) [x] S = match lk S n with
    | some (.lst ds) => (cntSeq x ds).map fun (n : Nat) => (.int (n : Int), S)
    | _ => none := by
  unfold mtD lk
  dsimp only
  cases S[n]? with
  | none => rfl
  | some mo => cases mo <;> rfl
theorem index_lk {x : D} : mtD .index (.loc n) [x] S = match lk S n with
    | some (.lst ds) => (idxSeq x ds).map fun (n : Nat) => (.int (n : Int), S)
    | _ => none := by
  unfold mtD lk
  dsimp only
  cases S[n]? with
  | none => rfl
  | some mo => cases mo <;> rfl
theorem pop_lk : mtD .pop (.loc n) [] S = match lk S n with
    | some (.lst ds) => (match ds[ds.length - 1]? with
        | some y => some (y, S.set n (.lst ds.dropLast))
        | none => none)
    | _ => none := by
  unfold mtD lk
  dsimp only
  cases S[n]? with
  | none => rfl
  | some mo => cases mo <;> rfl
theorem recv_lk {mt : Mt} : recvD mt (.loc n) S = match lk S n with
    | some (.lst _) => mt != .get
    | some (.dic _) => mt == .get
    | _ => false := rfl
theorem get2_lk {k d : D} : mtD .get (.loc n) [k, d] S = match lk S n with
    | some (.dic kvs) => (keyOf k).map fun k => ((getG kvs k).getD d, S)
    | _ => none := by
  unfold mtD lk
  dsimp only
  cases S[n]? with
  | none => rfl
  | some mo => cases mo <;> rfl
theorem toPy_lk {n : Nat} : toPy S (n + 1) (.loc m) = match lk S m with
    | some (.lst ds) => (mapO (toPy S n) ds).map .list
    | _ => none := by
  rw [toPy]; rfl
theorem tr_lk : truthD S (.loc m) = match lk S m with
    | some (.lst ds) => some (!ds.isEmpty)
    | some (.dic kvs) => some (!kvs.isEmpty)
    | _ => none := rfl
end
/-! ### letting go, by ends -/
section
variable {S A B L L1 L2 : Store} {m : Nat} {d : D} {v w : MO}
theorem keepsOld_two : ∀ {A B : Store}, A.length = B.length → keepsOld A B = true → keepsOld L1 L2 = true → keepsOld (A ++ L1) (B ++ L2) = true
  | [], [], _, _, h => h
  | a :: r, b :: q, hl, h1, h2 => by
    have h3 : ((MO.beq a b || MO.pure b) && keepsOld r q) = true := h1
    show ((MO.beq a b || MO.pure b) && keepsOld (r ++ L1) (q ++ L2)) = true
    rw [Bool.and_eq_true] at h3 ⊢
    exact ⟨h3.1, keepsOld_two (by simpa using hl) h3.2 h2⟩
theorem gc_gen (hl : A.length = B.length) (hk : keepsOld A B = true) (hk2 : keepsOld L1 L2 = true) (hd : D.pure d = true) : gc (A ++ L1) d (B ++ L2) = (d, B ++ L2.take L1.length) := by
  rw [gc_pure (keepsOld_two hl hk hk2) hd, List.length_append, hl, List.take_length_add_append]
theorem kset (hv : MO.pure v = true) : keepsOld S (S.set m v) = true := keepsOld_set0 S m v hv
theorem ksets (hv : MO.pure w = true) : keepsOld (S.set m v) (S.set m w) = true := by
  have := kset (S := S.set m v) (m := m) hv
  rwa [List.set_set] at this
theorem gp_0 (hd : D.pure d = true) : gc S d S = (d, S) := gc_self hd
theorem gp_1 (hd : D.pure d = true) : gc S d (S ++ L) = (d, S) := gc_app hd
theorem gp_2 (hd : D.pure d = true) (hv : MO.pure v = true) : gc S d (S.set m v) = (d, S.set m v) := gc_set hv hd
theorem gp_3 (hd : D.pure d = true) (hv : MO.pure v = true) : gc S d (S.set m v ++ L) = (d, S.set m v) := gc_setapp hv hd
theorem gp_4 (hd : D.pure d = true) (hk : keepsOld L1 L2 = true) : gc (S ++ L1) d (S ++ L2) = (d, S ++ L2.take L1.length) := gc_gen rfl (keepsOld_self S) hk hd
theorem gp_5 (hd : D.pure d = true) (hv : MO.pure v = true) (hk : keepsOld L1 L2 = true) : gc (S ++ L1) d (S.set m v ++ L2) = (d, S.set m v ++ L2.take L1.length) := gc_gen len_set.symm (kset hv) hk hd
theorem gp_6 (hd : D.pure d = true) (hv : MO.pure w = true) : gc (S.set m v) d (S.set m w) = (d, S.set m w) := by
  have := gc_set (S := S.set m v) (n := m) hv hd
  rwa [List.set_set] at this
theorem gp_7 (hd : D.pure d = true) (hv : MO.pure w = true) : gc (S.set m v) d (S.set m w ++ L) = (d, S.set m w) := by
  have := gc_setapp (S := S.set m v) (n := m) (T := L) hv hd
  rwa [List.set_set] at this
theorem gp_8 (hd : D.pure d = true) (hv : MO.pure w = true) (hk : keepsOld L1 L2 = true) : gc (S.set m v ++ L1) d (S.set m w ++ L2) = (d, S.set m w ++ L2.take L1.length) := gc_gen (by rw [len_set, len_set]) (ksets hv) hk hd
theorem ko_n : keepsOld [] L = true := by unfold keepsOld; rfl
theorem ko_s : keepsOld (v :: L1) (v :: L2) = keepsOld L1 L2 := by
  show ((MO.beq v v || MO.pure v) && keepsOld L1 L2) = _
  rw [MO.beq_self]; rfl
theorem ko_p (h : MO.pure w = true) : keepsOld (v :: L1) (w :: L2) = keepsOld L1 L2 := by
  show ((MO.beq v w || MO.pure w) && keepsOld L1 L2) = _
  rw [h, Bool.or_true]; rfl
/-- a fresh pure list -/
theorem gl_gen {j : Nat} {mo : MO} (hl : A.length = B.length) (hk : keepsOld A B = true) (hk2 : keepsOld L1 L2 = true) (hj : L1.length ≤ j) (hm : lk L2 j = some mo) (hp : MO.pure mo = true) :
    gc (A ++ L1) (.loc (A.length + j)) (B ++ L2) = (.loc (A.length + L1.length), B ++ (L2.take L1.length ++ [mo])) := by
  unfold gc
  rw [if_pos (keepsOld_two hl hk hk2), if_neg (by simp [D.pure])]
  dsimp only
  have e : (B ++ L2)[A.length + j]? = some mo := by
    have := lk_app (S := B) (L := L2) (j := j)
    rw [hm] at this
    rw [hl]; exact this
  rw [if_neg (by rw [List.length_append]; omega), e]
  dsimp only
  rw [if_pos hp, List.length_append, hl, List.take_length_add_append, List.append_assoc]
theorem gl_0 {mo : MO} (hp : MO.pure mo = true) : gc S (.loc S.length) (S ++ mo :: L) = (.loc S.length, S ++ [mo]) := by
  have := gl_gen (A := S) (B := S) (L1 := []) (L2 := mo :: L) (j := 0) rfl (keepsOld_self S) rfl (Nat.le_refl _) rfl hp
  simpa using this
theorem gl_j {mo : MO} {j : Nat} (hm : lk L j = some mo) (hp : MO.pure mo = true) : gc S (.loc (S.length + j)) (S ++ L) = (.loc S.length, S ++ [mo]) := by
  have := gl_gen (A := S) (B := S) (L1 := []) (L2 := L) (j := j) rfl (keepsOld_self S) rfl (Nat.zero_le _) hm hp
  simpa using this
theorem gl_s0 {mo : MO} (hv : MO.pure v = true) (hp : MO.pure mo = true) : gc S (.loc S.length) (S.set m v ++ mo :: L) = (.loc S.length, S.set m v ++ [mo]) := by
  have := gl_gen (A := S) (B := S.set m v) (L1 := []) (L2 := mo :: L) (j := 0) len_set.symm (kset hv) rfl (Nat.le_refl _) rfl hp
  simpa using this
theorem gl_1 {j : Nat} {mo : MO} (hk2 : keepsOld L1 L2 = true) (hj : L1.length ≤ j) (hm : lk L2 j = some mo) (hp : MO.pure mo = true) :
    gc (S ++ L1) (.loc (S.length + j)) (S ++ L2) = (.loc (S.length + L1.length), S ++ (L2.take L1.length ++ [mo])) := gl_gen rfl (keepsOld_self S) hk2 hj hm hp
theorem gl_s1 {j : Nat} {mo : MO} (hv : MO.pure v = true) (hk2 : keepsOld L1 L2 = true) (hj : L1.length ≤ j) (hm : lk L2 j = some mo) (hp : MO.pure mo = true) :
    gc (S ++ L1) (.loc (S.length + j)) (S.set m v ++ L2) = (.loc (S.length + L1.length), S.set m v ++ (L2.take L1.length ++ [mo])) := gl_gen len_set.symm (kset hv) hk2 hj hm hp
end
/-! ### arithmetic -/
section
variable {i j : Int} {S : Store}
theorem mod_int (h : 0 < j) : opD .Mod (.int i) (.int j) S = some (.int (i % j), S) := if_pos h
theorem div_int (h : 0 < j) (h2 : j.natAbs.log2 < 9000) : opD .FloorDiv (.int i) (.int j) S = some (.int (i / j), S) := if_pos ⟨h, h2⟩
theorem mul_l (h : i.natAbs < 2 ^ 64) : opD .Mult (.int i) (.int j) S = some (.int (i * j), S) := if_pos (.inl h)
theorem mul_r (h : j.natAbs < 2 ^ 64) : opD .Mult (.int i) (.int j) S = some (.int (i * j), S) := if_pos (.inr (.inl h))
theorem pow_int {n : Nat} (h : n ≤ 1000000) (h2 : i.natAbs < 2 ^ 64) : opD .Pow (.int i) (.int n) S = some (.int (i ^ n), S) := by
  have : opD .Pow (.int i) (.int n) S = some (.int (i ^ (n : Int).toNat), S) := if_pos ⟨by omega, by omega, h2⟩
  rw [this, Int.toNat_natCast]
theorem log_small {n : Nat} (h : n < 2 ^ 8999) : n.log2 < 9000 := by
  rcases Nat.eq_zero_or_pos n with rfl | hp
  · decide
  · have := (Nat.log2_lt (by omega)).mpr (Nat.lt_of_lt_of_le h (Nat.pow_le_pow_right (by omega) (by omega : 8999 ≤ 9000)))
    exact this
end
theorem at_2 {d e f : D} {r : List D} : atI (d :: e :: f :: r) 2 = some f := by
  have h : (2 : Int) < ↑r.length + 1 + 1 + 1 := by omega
  simp [atI, ixN, h]
theorem at_3 {d e f g : D} {r : List D} : atI (d :: e :: f :: g :: r) 3 = some g := by
  have h : (3 : Int) < ↑r.length + 1 + 1 + 1 + 1 := by omega
  simp [atI, ixN, h]
theorem at_in {ds : List D} {i : Int} (h0 : 0 ≤ i) (h1 : i < ds.length) : ∃ d, ds[i.toNat]? = some d ∧ atI ds i = some d := by
  have hl : i.toNat < ds.length := by omega
  refine ⟨ds[i.toNat], List.getElem?_eq_getElem hl, ?_⟩
  have := at_nat (List.getElem?_eq_getElem hl)
  rwa [Int.toNat_of_nonneg h0] at this
end Mi
namespace Mi
open PySem
theorem sz_lt : (0 < sizeLine) = True := eq_true (by decide)
theorem natAbs_01 (b : Bool) : (if b = true then (1 : Int) else 0).natAbs < 2 ^ 64 := by cases b <;> decide
theorem natAbs_lt {i : Int} {n : Nat} (h0 : 0 ≤ i) (h : i < n) (hn : n ≤ 2 ^ 64) : i.natAbs < 2 ^ 64 := by omega
end Mi
namespace Mi
/-! not by rfl: for side conditions -/
theorem nr {α : Type} {a b : α} (h : a = b) : a = b := by cases h; exact (Eq.refl a)
theorem pr_int (i : Int) : D.pure (.int i) = true := nr rfl
theorem pr_bl (b : Bool) : D.pure (.bl b) = true := nr rfl
theorem pr_non : D.pure .non = true := nr rfl
theorem pr_str (x : PySem.Str) : D.pure (.str x) = true := nr rfl
theorem pr_tup (ds : List D) : D.pure (.tup ds) = D.pureL ds := nr rfl
theorem pr_ro (ds : List D) : D.pure (.ro ds) = D.pureL ds := nr rfl
theorem pr_nil : D.pureL [] = true := nr rfl
theorem pr_cons (d : D) (r : List D) : D.pureL (d :: r) = (D.pure d && D.pureL r) := nr rfl
theorem pr_lst (ds : List D) : MO.pure (.lst ds) = D.pureL ds := nr rfl
theorem pr_ite {p : Prop} [Decidable p] {d e : D} : D.pure (if p then d else e) = if p then D.pure d else D.pure e := by split <;> rfl
theorem pr_ints (xs : List Int) : D.pureL (xs.map D.int) = true := ints_pure xs
theorem pr_prs (tw : Tws) : D.pureL (tw.map prD) = true := prs_pure tw
theorem pr_app : ∀ (a b : List D), D.pureL (a ++ b) = (D.pureL a && D.pureL b)
  | [], b => nr rfl
  | d :: r, b => by rw [List.cons_append, pr_cons, pr_cons, pr_app r b, Bool.and_assoc]
theorem pr_kD (o : Option Int) : D.pure (kD o) = true := pure_kD o
end Mi
namespace Mi
theorem pureL_mem : ∀ {ds : List D} {d : D}, D.pureL ds = true → d ∈ ds → D.pure d = true
  | x :: r, d, h, hm => by
    rw [pr_cons, Bool.and_eq_true] at h
    rcases List.mem_cons.mp hm with rfl | hm
    · exact h.1
    · exact pureL_mem h.2 hm
end Mi
namespace Mi
theorem Fine.snoc : ∀ {tw : Tws} {p : Int × Int}, Fine tw → (∀ q ∈ tw, q.1 < p.1) → 1 ≤ p.2 → Fine (tw ++ [p])
  | [], p, _, _, h => ⟨h, (fun _ z => by cases z), trivial⟩
  | q :: r, p, ⟨h1, h2, h3⟩, h4, h => by
    refine ⟨h1, fun x hx => ?_, Fine.snoc h3 (fun y hy => h4 y (List.mem_cons_of_mem _ hy)) h⟩
    rcases List.mem_append.mp hx with hx | hx
    · exact h2 x hx
    · have : x = p := by simpa using hx
      rw [this]; exact h4 q (List.mem_cons_self ..)
theorem lt_size {n : Nat} (h : n ≤ 100000) : n < PySem.sizeLine := Nat.lt_of_le_of_lt h (by decide)
theorem le_size {n : Nat} (h : n ≤ 100000) : n ≤ PySem.sizeLine := Nat.le_of_lt (lt_size h)
end Mi
namespace Mi
theorem mt_1 : (Mt.append != Mt.get) = true := rfl
theorem mt_2 : (Mt.extend != Mt.get) = true := rfl
theorem mt_3 : (Mt.clear != Mt.get) = true := rfl
theorem mt_4 : (Mt.pop != Mt.get) = true := rfl
theorem mt_5 : (Mt.get == Mt.get) = true := rfl
theorem mt_6 : (Mt.count != Mt.get) = true := rfl
theorem mt_7 : (Mt.index != Mt.get) = true := rfl
end Mi

end

section
/-! Mi15: loops over typed rows. -/
namespace Mi
open PySem PySem.Spec
open L2 (atI ixN)
section
variable {α : Type} {ok : Store → Bool} {g : D → StD → Store → Option (StD × Store)} {b : StD → Store → Option (Fl × Store)} {σ : StD} {S : Store} {X : Option (Fl × Store)} {xs : List α} {inj : α → D}
theorem for_M (hX : forD ok g b (xs.map inj) σ S = X) (I : List α → StD → Store → Prop) (Post : Option (Fl × Store) → Prop)
    (h0 : I xs σ S) (hend : ∀ σ S, I [] σ S → ok S = true ∧ Post (some (.next σ, S))) (hs : ∀ x r σ S, I (x :: r) σ S → ok S = true ∧ stepOk (I r) Post (bnd (g (inj x) σ S) b)) : Post X := by
  refine for_X hX (fun its σ S => ∃ ys, its = ys.map inj ∧ I ys σ S) Post ⟨xs, rfl, h0⟩ ?_ ?_
  · rintro σ S ⟨ys, e, h⟩
    cases ys with
    | nil => exact hend σ S h
    | cons y r => cases e
  · rintro x r σ S ⟨ys, e, h⟩
    cases ys with
    | nil => cases e
    | cons y q =>
      rw [List.map_cons] at e
      injection e with e1 e2
      subst e1 e2
      obtain ⟨h1, h2⟩ := hs y q σ S h
      refine ⟨h1, ?_⟩
      cases hb : bnd (g (inj y) σ S) b with
      | none => rw [hb] at h2; exact h2
      | some p =>
        obtain ⟨f, T⟩ := p
        rw [hb] at h2
        cases f with
        | next τ => exact ⟨q, rfl, h2⟩
        | cnt τ => exact ⟨q, rfl, h2⟩
        | brk τ => exact h2
        | ret d => exact h2
theorem for_E {i : Int} (hX : forD ok g b (enumD i (xs.map inj)) σ S = X) (I : Nat → List α → StD → Store → Prop) (Post : Option (Fl × Store) → Prop)
    (h0 : I 0 xs σ S) (hend : ∀ n σ S, I n [] σ S → ok S = true ∧ Post (some (.next σ, S))) (hs : ∀ n x r σ S, I n (x :: r) σ S → ok S = true ∧ stepOk (I (n + 1) r) Post (bnd (g (.tup [.int (i + n), inj x]) σ S) b)) : Post X := by
  refine for_X hX (fun its σ S => ∃ (n : Nat) (ys : List α), its = enumD (i + n) (ys.map inj) ∧ I n ys σ S) Post ⟨0, xs, by simp, h0⟩ ?_ ?_
  · rintro σ S ⟨n, ys, e, h⟩
    cases ys with
    | nil => exact hend n σ S h
    | cons y r => cases e
  · rintro x r σ S ⟨n, ys, e, h⟩
    cases ys with
    | nil => cases e
    | cons y q =>
      rw [List.map_cons, enumD] at e
      injection e with e1 e2
      subst e1 e2
      obtain ⟨h1, h2⟩ := hs n y q σ S h
      refine ⟨h1, ?_⟩
      have en : i + (n : Int) + 1 = i + ((n + 1 : Nat) : Int) := by omega
      rw [en]
      cases hb : bnd (g (.tup [.int (i + n), inj y]) σ S) b with
      | none => rw [hb] at h2; exact h2
      | some p =>
        obtain ⟨f, T⟩ := p
        rw [hb] at h2
        cases f with
        | next τ => exact ⟨n + 1, q, rfl, h2⟩
        | cnt τ => exact ⟨n + 1, q, rfl, h2⟩
        | brk τ => exact h2
        | ret d => exact h2
/-- a loop that only folds -/
theorem for_fold {β : Type} (enc : β → StD) (st : β → Store) (f : β → α → β) {b0 : β} (hX : forD ok g b (xs.map inj) (enc b0) (st b0) = X) (J : List α → β → Prop) (h0 : J xs b0) (hok : ∀ r c, J r c → ok (st c) = true)
    (hs : ∀ x r c, J (x :: r) c → bnd (g (inj x) (enc c) (st c)) b = some (.next (enc (f c x)), st (f c x)) ∧ J r (f c x)) : X = some (.next (enc (xs.foldl f b0)), st (xs.foldl f b0)) := by
  subst hX
  induction xs generalizing b0 with
  | nil => rw [List.map_nil, forD, if_pos (hok _ _ h0)]; rfl
  | cons x r ih =>
    obtain ⟨h1, h2⟩ := hs x r b0 h0
    rw [List.map_cons, forD, if_pos (hok _ _ h0)]
    cases hg : g (inj x) (enc b0) (st b0) with
    | none => rw [hg] at h1; cases h1
    | some p =>
      obtain ⟨σ1, S1⟩ := p
      rw [hg, bnd_some] at h1
      dsimp only
      rw [h1]
      exact ih h2
end
section
variable {α : Type} {ok : Store → Bool} {g : D → Store → Option (StD × Store)} {c : StD → Store → Option (Bool × Store)} {e : StD → Store → Option (D × Store)} {S : Store} {X : Option (List D × Store)} {xs : List α} {inj : α → D} {acc : List D}
/-- one turn of a comprehension -/
def lcS (g : D → Store → Option (StD × Store)) (c : StD → Store → Option (Bool × Store)) (e : StD → Store → Option (D × Store)) (d : D) (S : Store) : Option (Option D × Store) :=
  bnd (g d S) fun σ S1 => bnd (c σ S1) (iteD (fun S2 => bnd (e σ S2) fun y S3 => some (some y, S3)) (fun S2 => some (none, S2)))
theorem lc_F (F : α → Option D) (hX : lcD ok g c e (xs.map inj) acc S = X) (hok : ok S = true) (hl : acc.length + xs.length ≤ sizeLine) (h : ∀ x ∈ xs, lcS g c e (inj x) S = some (F x, S)) : X = some (acc ++ xs.filterMap F, S) := by
  subst hX
  induction xs generalizing acc with
  | nil => simp [lcD, hok]
  | cons x r ih =>
    have h1 := h x (List.mem_cons_self ..)
    simp only [List.length_cons] at hl
    rw [List.map_cons, lcD, if_pos hok]
    unfold lcS at h1
    cases hg : g (inj x) S with
    | none => rw [hg] at h1; cases h1
    | some p =>
      obtain ⟨σ1, S1⟩ := p
      rw [hg, bnd_some] at h1
      dsimp only
      cases hc : c σ1 S1 with
      | none => rw [hc] at h1; cases h1
      | some q =>
        obtain ⟨t, S2⟩ := q
        rw [hc, bnd_some] at h1
        cases t with
        | false =>
          rw [ite_f] at h1
          injection h1 with h1
          injection h1 with h2 h3
          subst h3
          dsimp only
          rw [ih (by omega) fun y hy => h y (List.mem_cons_of_mem _ hy), List.filterMap_cons, ← h2]
        | true =>
          rw [ite_t] at h1
          dsimp only
          cases he : e σ1 S2 with
          | none => rw [he] at h1; cases h1
          | some z =>
            obtain ⟨y, S3⟩ := z
            rw [he, bnd_some] at h1
            injection h1 with h1
            injection h1 with h2 h3
            subst h3
            dsimp only
            rw [if_pos (by omega), ih (by simp; omega) fun y hy => h y (List.mem_cons_of_mem _ hy), List.filterMap_cons, ← h2]
            simp
theorem filterMap_pf {α β : Type} (p : α → Bool) (f : α → β) : ∀ xs : List α, xs.filterMap (fun x => if p x = true then some (f x) else none) = (xs.filter p).map f
  | [] => rfl
  | x :: r => by
    rw [List.filterMap_cons, List.filter_cons]
    cases hp : p x with
    | true => simp; exact filterMap_pf p f r
    | false => simp; exact filterMap_pf p f r
theorem lc_f (f : α → D) (hX : lcD ok g c e (xs.map inj) acc S = X) (hok : ok S = true) (hl : acc.length + xs.length ≤ sizeLine) (h : ∀ x ∈ xs, lcS g c e (inj x) S = some (some (f x), S)) : X = some (acc ++ xs.map f, S) := by
  rw [lc_F (fun x => some (f x)) hX hok hl h]
  congr 3
  rw [List.filterMap_eq_map']
theorem lc_pf (p : α → Bool) (f : α → D) (hX : lcD ok g c e (xs.map inj) acc S = X) (hok : ok S = true) (hl : acc.length + xs.length ≤ sizeLine) (h : ∀ x ∈ xs, lcS g c e (inj x) S = if p x = true then some (some (f x), S) else some (none, S)) : X = some (acc ++ (xs.filter p).map f, S) := by
  rw [lc_F (fun x => if p x = true then some (f x) else none) hX hok hl fun x hx => by rw [h x hx]; split <;> rfl]
  congr 3
  exact filterMap_pf p f xs
end
/-! open tests -/
theorem ite_b {α : Type} {k l : Store → Option (α × Store)} {b : Bool} {S : Store} : iteD k l b S = if b = true then k S else l S := by cases b <;> rfl
theorem bnd_if {α β : Type} {p : Prop} [Decidable p] {x y : Option (α × Store)} {f : α → Store → Option (β × Store)} : bnd (if p then x else y) f = if p then bnd x f else bnd y f := by split <;> rfl
theorem seqF_if {p : Prop} [Decidable p] {x y : Option (Fl × Store)} {k : StD → Store → Option (Fl × Store)} : seqF (if p then x else y) k = if p then seqF x k else seqF y k := by split <;> rfl
theorem out_if {p : Prop} [Decidable p] {S : Store} {x y : Option (Fl × Store)} : outD S (if p then x else y) = if p then outD S x else outD S y := by split <;> rfl
theorem bopD_b {o : BoolOp} {k : Store → Option (D × Store)} {b : Bool} {S : Store} : bopD o k (.bl b) S = if (match o with | .And => b | .Or => !b) = true then k S else some (.bl b, S) := by cases o <;> cases b <;> rfl
theorem bopB_and {k : Store → Option (Bool × Store)} {b : Bool} {S : Store} : bopB .And k b S = if b = true then k S else some (false, S) := by cases b <;> rfl
theorem bopB_or {k : Store → Option (Bool × Store)} {b : Bool} {S : Store} : bopB .Or k b S = if b = true then some (true, S) else k S := by cases b <;> rfl
theorem bopD_and {k : Store → Option (D × Store)} {b : Bool} {S : Store} : bopD .And k (.bl b) S = if b = true then k S else some (.bl false, S) := by cases b <;> rfl
theorem bopD_or {k : Store → Option (D × Store)} {b : Bool} {S : Store} : bopD .Or k (.bl b) S = if b = true then some (.bl true, S) else k S := by cases b <;> rfl
theorem if_same_bool {S : Store} {b : Bool} {x y : Bool} : (if b = true then some (x, S) else some (y, S)) = some (if b = true then x else y, S) := by cases b <;> rfl
theorem if_bf {b : Bool} : (if b = true then true else false) = b := by cases b <;> rfl
theorem if_bx {b x : Bool} : (if b = true then x else false) = (b && x) := by cases b <;> rfl
theorem if_xt {b x : Bool} : (if b = true then true else x) = (b || x) := by cases b <;> rfl
end Mi

end

section
/-! Mi16: towers: plain facts. -/
namespace Mi
open PySem PySem.Spec
open L2 (atI ixN Key)
def kvP (p : Int × Int) : Key × D := (.inl p.1, .int p.2)
def dicT (tw : Tws) : List (Key × D) := (tw.map kvP).foldl (fun acc p => putG acc p.1 p.2) []
theorem pairKV_prs : ∀ tw : Tws, mapO pairKV (tw.map prD) = some (tw.map kvP)
  | [] => rfl
  | p :: r => by rw [List.map_cons, mapO]; dsimp only [prD, pairKV, keyOf, Option.map]; rw [show mapO pairKV (r.map prD) = _ from pairKV_prs r]; rfl
theorem dict_prs {S : Store} {tw : Tws} : biD .dict [.tup (tw.map prD)] S = some (.loc S.length, S ++ [.dic (dicT tw)]) := by
  have e : biD .dict [.tup (tw.map prD)] S = (mapO pairKV (tw.map prD)).map (fun (kvs : List (Key × D)) => (D.loc S.length, S ++ [MO.dic (kvs.foldl (fun (acc : List (Key × D)) (p : Key × D) => putG acc p.1 p.2) [])])) := rfl
  rw [e, pairKV_prs]; rfl
theorem fold_put : ∀ (tw : Tws) (acc : List (Key × D)), Fine tw → (∀ q ∈ acc, ∀ p ∈ tw, q.1 ≠ .inl p.1) → (tw.map kvP).foldl (fun acc p => putG acc p.1 p.2) acc = acc ++ tw.map kvP
  | [], acc, _, _ => by simp
  | p :: r, acc, ⟨h1, h2, h3⟩, h => by
    have hn : (acc.any fun kv => decide (kv.1 = (Sum.inl p.1 : Key))) = false := by
      rw [List.any_eq_false]
      intro q hq
      simpa using h q hq p (List.mem_cons_self ..)
    have e : putG acc (Sum.inl p.1 : Key) (.int p.2) = acc ++ [kvP p] := by
      unfold putG; rw [hn]; rfl
    rw [List.map_cons, List.foldl_cons]
    show (r.map kvP).foldl _ (putG acc (kvP p).1 (kvP p).2) = _
    rw [show putG acc (kvP p).1 (kvP p).2 = _ from e, fold_put r _ h3 ?_]
    · simp
    · intro q hq x hx
      rcases List.mem_append.mp hq with hq | hq
      · exact h q hq x (List.mem_cons_of_mem _ hx)
      · have : q = kvP p := by simpa using hq
        rw [this]
        intro z
        have z2 : p.1 = x.1 := Sum.inl.inj z
        have := h2 x hx
        omega
theorem dicT_fine {tw : Tws} (h : Fine tw) : dicT tw = tw.map kvP := by
  unfold dicT
  rw [fold_put tw [] h (fun q hq => nomatch hq)]; rfl
def hOf (tw : Tws) (key : Int) : Int := ((tw.find? fun p => decide (p.1 = key)).map (·.2)).getD 0
theorem get_kvP (key : Int) : ∀ (tw : Tws), getG (tw.map kvP) (Sum.inl key) = (tw.find? fun p => decide (p.1 = key)).map fun p => D.int p.2
  | [] => rfl
  | p :: r => by
    have ih := get_kvP key r
    unfold getG at ih ⊢
    rw [List.map_cons, List.find?_cons, List.find?_cons]
    have e : decide ((kvP p).1 = (Sum.inl key : Key)) = decide (p.1 = key) := by
      simp [kvP]
    rw [e]
    cases decide (p.1 = key) with
    | true => rfl
    | false => exact ih
theorem get_dicT {tw : Tws} (h : Fine tw) {key : Int} : (getG (dicT tw) (Sum.inl key)).getD (.int 0) = .int (hOf tw key) := by
  rw [dicT_fine h, get_kvP]
  unfold hOf
  cases tw.find? fun p => decide (p.1 = key) <;> rfl
theorem key_int {i : Int} : keyOf (.int i) = some (.inl i) := rfl
/-! all links -/
def linksR : Tws → List D
  | [] => []
  | p :: r => (rangeI 1 p.2.toNat).map (fun l => linkD r (some p.1) l) ++ linksR r
def linksT (tw : Tws) : List D := (rangeI 1 (hiT tw).toNat).map (fun l => linkD tw none l) ++ linksR tw
theorem linksR_len : ∀ {tw : Tws} {n : Nat}, (∀ p ∈ tw, p.2 ≤ n) → (linksR tw).length ≤ tw.length * n
  | [], n, _ => by simp [linksR]
  | p :: r, n, h => by
    rw [linksR, List.length_append, List.length_map, rangeI_len, List.length_cons, Nat.succ_mul]
    have := linksR_len (tw := r) (n := n) fun q hq => h q (List.mem_cons_of_mem _ hq)
    have h2 := h p (List.mem_cons_self ..)
    omega
theorem greatest_le {n : Int} : ∀ {r : List Int} {i : Int}, i ≤ n → (∀ j ∈ r, j ≤ n) → greatest i r ≤ n
  | [], i, h, _ => h
  | j :: r, i, h, h2 => by
    show List.foldl max (max i j) r ≤ n
    exact greatest_le (by have := h2 j (List.mem_cons_self ..); omega) fun x hx => h2 x (List.mem_cons_of_mem _ hx)
theorem le_greatest : ∀ {r : List Int} {i : Int}, i ≤ greatest i r ∧ ∀ j ∈ r, j ≤ greatest i r
  | [], i => ⟨Int.le_refl _, fun _ z => nomatch z⟩
  | j :: r, i => by
    have h : max i j ≤ greatest (max i j) r ∧ _ := le_greatest (r := r) (i := max i j)
    refine ⟨?_, fun x hx => ?_⟩
    · show i ≤ greatest (max i j) r
      have := h.1; omega
    · show x ≤ greatest (max i j) r
      rcases List.mem_cons.mp hx with rfl | hx
      · have := h.1; omega
      · exact h.2 x hx
theorem hiT_le {tw : Tws} {n : Int} (h0 : 0 ≤ n) (h : ∀ p ∈ tw, p.2 ≤ n) : hiT tw ≤ n := by
  cases tw with
  | nil => exact h0
  | cons p r =>
    refine greatest_le (h p (List.mem_cons_self ..)) fun j hj => ?_
    obtain ⟨q, hq, rfl⟩ := List.mem_map.mp hj
    exact h q (List.mem_cons_of_mem _ hq)
theorem le_hiT {tw : Tws} {p : Int × Int} (h : p ∈ tw) : p.2 ≤ hiT tw := by
  cases tw with
  | nil => cases h
  | cons q r =>
    rcases List.mem_cons.mp h with rfl | h
    · exact le_greatest.1
    · exact le_greatest.2 _ (List.mem_map.mpr ⟨p, h, rfl⟩)
theorem Fine.pos : ∀ {tw : Tws}, Fine tw → ∀ p ∈ tw, 1 ≤ p.2
  | q :: r, ⟨h1, h2, h3⟩, p, hp => by
    rcases List.mem_cons.mp hp with rfl | hp
    · exact h1
    · exact Fine.pos h3 p hp
theorem hiT_nn {tw : Tws} (h : Fine tw) : 0 ≤ hiT tw := by
  cases tw with
  | nil => exact Int.le_refl _
  | cons p r => have := le_hiT (tw := p :: r) (List.mem_cons_self ..); have := h.1; omega
theorem Fine.drop : ∀ {tw : Tws} (n : Nat), Fine tw → Fine (tw.drop n)
  | tw, 0, h => h
  | [], n + 1, h => trivial
  | p :: r, n + 1, h => Fine.drop n h.2.2
theorem Fine.app : ∀ {a b : Tws}, Fine (a ++ b) → Fine a ∧ Fine b ∧ ∀ p ∈ a, ∀ q ∈ b, p.1 < q.1
  | [], b, h => ⟨trivial, h, fun _ z => nomatch z⟩
  | p :: a, b, ⟨h1, h2, h3⟩ => by
    obtain ⟨i1, i2, i3⟩ := Fine.app h3
    refine ⟨⟨h1, fun q hq => h2 q (List.mem_append_left _ hq), i1⟩, i2, fun x hx q hq => ?_⟩
    rcases List.mem_cons.mp hx with rfl | hx
    · exact h2 q (List.mem_append_right _ hq)
    · exact i3 x hx q hq
/-- behind a key of the row: what follows it -/
theorem nextK_app {a r : Tws} {p : Int × Int} {l : Int} (h : Fine (a ++ p :: r)) : nextK (a ++ p :: r) (some p.1) l = (keysAt r l).head? := by
  obtain ⟨h1, ⟨h2, h3, h4⟩, h5⟩ := h.app
  unfold nextK keysAt
  have e1 : a.filter (beyond (some p.1) l) = [] := by
    rw [List.filter_eq_nil_iff]
    intro q hq
    have := h5 q hq p (List.mem_cons_self ..)
    simp [beyond]; omega
  have e2 : beyond (some p.1) l p = false := by simp [beyond]
  have e3 : r.filter (beyond (some p.1) l) = r.filter fun q => decide (l ≤ q.2) := by
    apply List.filter_congr
    intro q hq
    have := h3 q hq
    simp [beyond, this]
  rw [List.filter_append, e1, List.nil_append, List.filter_cons, e2, e3]
  simp
theorem nextK_none {tw : Tws} {l : Int} : nextK tw none l = (keysAt tw l).head? := by
  unfold nextK keysAt
  congr 3
  funext q
  simp [beyond]
theorem cut_prs {tw r : Tws} {p : Int × Int} {n : Nat} (h : tw.drop n = p :: r) : cut (tw.map prD) (some ((n : Int) + 1)) none = r.map prD := by
  have hl : n < tw.length := by
    rcases Nat.lt_or_ge n tw.length with h1 | h1
    · exact h1
    · rw [List.drop_eq_nil_of_le h1] at h; cases h
  have := cut_from (xs := tw.map prD) (n := n + 1) (by rw [List.length_map]; omega)
  rw [show ((n : Int) + 1) = ((n + 1 : Nat) : Int) by omega, this, ← List.map_drop]
  congr 1
  rw [← List.drop_drop, h]; rfl
theorem pr_linkD (tw : Tws) (o : Option Int) (l : Int) : D.pure (linkD tw o l) = true := by
  unfold linkD
  rw [pr_tup, pr_cons, pr_cons, pr_cons, pr_kD, pr_kD, pr_int, pr_nil]; rfl
theorem pr_links (tw : Tws) (o : Option Int) (ls : List Int) : D.pureL (ls.map fun l => linkD tw o l) = true := pureL_map ls fun _ _ => pr_linkD tw o _
theorem pr_linksR : ∀ tw : Tws, D.pureL (linksR tw) = true
  | [] => rfl
  | p :: r => by rw [linksR, pr_app, pr_links, pr_linksR r]; rfl
theorem pr_linksT (tw : Tws) : D.pureL (linksT tw) = true := by rw [linksT, pr_app, pr_links, pr_linksR]; rfl
end Mi
namespace Mi
open PySem
open L2 (Key)
theorem pr_dic (kvs : List (Key × D)) : MO.pure (.dic kvs) = D.pureL (kvs.map (·.2)) := nr rfl
theorem pr_dicT {tw : Tws} (h : Fine tw) : D.pureL ((dicT tw).map (·.2)) = true := by
  rw [dicT_fine h, List.map_map]; exact pureL_map tw fun _ _ => rfl
theorem linksT_len {tw : Tws} (hf : Fine tw) (hl : tw.length ≤ 1000) (hh : ∀ p ∈ tw, p.2 ≤ 1000) : (linksT tw).length ≤ 1001000 := by
  have h0 := hiT_nn hf
  have h1 := hiT_le (n := 1000) (by decide) hh
  have h2 := linksR_len (n := 1000) hh
  rw [linksT, List.length_append, List.length_map, rangeI_len]
  have : tw.length * 1000 ≤ 1000 * 1000 := Nat.mul_le_mul_right _ hl
  omega
end Mi
namespace Mi
theorem beyond_n {l : Int} {p : Int × Int} : beyond none l p = decide (l ≤ p.2) := by simp [beyond]
theorem beyond_s {q l : Int} {p : Int × Int} : beyond (some q) l p = (decide (l ≤ p.2) && decide (q < p.1)) := rfl
theorem nextK_cons {p : Int × Int} {r : Tws} {key : Option Int} {l : Int} : nextK (p :: r) key l = if beyond key l p = true then some p.1 else nextK r key l := by
  unfold nextK
  rw [List.filter_cons]
  split <;> rfl
end Mi

end

section
/-! Mi17: equality. -/
namespace Mi
open PySem PySem.Spec
open L2 (atI ixN Key)
def pyOk (S : Store) (ds : List D) : Bool := (mapO (toPy S 59) ds).isSome
def eqS (S : Store) (a b : List D) : Option Bool :=
  match mapO (toPy S 59) a, mapO (toPy S 59) b with
  | some p, some q => some (PyData.eqvAll p q)
  | _, _ => none
def eqL (S : Store) : Option MO → Option MO → Option Bool
  | some (.lst a), some (.lst b) => eqS S a b
  | _, _ => none
section
variable {S : Store} {a b : Nat} {ds es : List D}
theorem eqD_ll : eqD S (.loc a) (.loc b) = eqL S (lk S a) (lk S b) := by
  unfold eqD
  rw [toPy_lk (n := 59), toPy_lk (n := 59)]
  cases lk S a with
  | none => rfl
  | some x => cases x with
    | lst p =>
      cases lk S b with
      | none => dsimp only [eqL]; cases mapO (toPy S 59) p <;> rfl
      | some y => cases y with
        | lst q =>
          dsimp only [eqL, eqS]
          cases mapO (toPy S 59) p <;> cases mapO (toPy S 59) q <;> rfl
        | _ => dsimp only [eqL]; cases mapO (toPy S 59) p <;> rfl
    | _ => rfl
theorem eqD_tt : eqD S (.tup ds) (.tup es) = eqS S ds es := by
  unfold eqD eqS
  rw [toPy, toPy]
  cases mapO (toPy S 59) ds <;> cases mapO (toPy S 59) es <;> rfl
theorem eqL_ll : eqL S (some (.lst ds)) (some (.lst es)) = eqS S ds es := rfl
theorem eqv_all_refl {ps : List PyData} (h : PyData.eqv (.list ps) (.list ps) = true) : PyData.eqvAll ps ps = true := h
theorem eqS_same (h : pyOk S ds = true) : eqS S ds ds = some true := by
  unfold pyOk at h
  unfold eqS
  cases e : mapO (toPy S 59) ds with
  | none => rw [e] at h; cases h
  | some ps =>
    dsimp only
    congr 1
    exact eqvAll_of ps (mapO_all (fun a b e => toPy_refl 59 a b e) e)
theorem eqS_nil (h : pyOk S ds = true) : eqS S ds [] = some ds.isEmpty := by
  unfold pyOk at h
  unfold eqS
  cases e : mapO (toPy S 59) ds with
  | none => rw [e] at h; cases h
  | some ps =>
    have := mapO_len e
    have e2 : mapO (toPy S 59) ([] : List D) = some [] := rfl
    rw [e2]
    dsimp only
    cases ps <;> cases ds <;> first | rfl | (simp at this)
theorem eqvAll_ints : ∀ (xs ys : List Int), PyData.eqvAll (xs.map .int) (ys.map .int) = decide (xs = ys)
  | [], [] => rfl
  | [], y :: ys => rfl
  | x :: xs, [] => rfl
  | x :: xs, y :: ys => by
    rw [List.map_cons, List.map_cons, PyData.eqvAll, eqvAll_ints xs ys]
    have : PyData.eqv (.int x) (.int y) = decide (x = y) := by
      have h := eq_int (i := x) (j := y) (S := [])
      exact Option.some.inj h
    rw [this]
    by_cases h1 : x = y <;> by_cases h2 : xs = ys <;> simp [h1, h2]
theorem eqS_ints {xs ys : List Int} : eqS S (xs.map D.int) (ys.map D.int) = some (decide (xs = ys)) := by
  unfold eqS
  rw [ints_py, ints_py]
  dsimp only
  rw [eqvAll_ints]
end
theorem mapO_some_app {α β : Type} {F : α → Option β} : ∀ (a b : List α), (mapO F (a ++ b)).isSome = ((mapO F a).isSome && (mapO F b).isSome)
  | [], b => by simp [mapO]
  | x :: r, b => by
    rw [List.cons_append, mapO, mapO]
    have ih := mapO_some_app (F := F) r b
    cases F x with
    | none => rfl
    | some y =>
      dsimp only
      cases h1 : mapO F r <;> cases h2 : mapO F (r ++ b) <;> cases h3 : mapO F b <;> rw [h1, h2, h3] at ih <;> simp at ih ⊢
theorem py_app (S : Store) (a b : List D) : pyOk S (a ++ b) = (pyOk S a && pyOk S b) := mapO_some_app a b
theorem py_nil (S : Store) : pyOk S [] = true := nr rfl
theorem py_map {α : Type} {S : Store} {f : α → D} : ∀ {xs : List α}, (∀ x ∈ xs, (toPy S 59 (f x)).isSome = true) → pyOk S (xs.map f) = true
  | [], _ => rfl
  | x :: r, h => by
    have h1 := h x (List.mem_cons_self ..)
    have h2 := py_map (xs := r) fun y hy => h y (List.mem_cons_of_mem _ hy)
    unfold pyOk at h2 ⊢
    rw [List.map_cons, mapO]
    cases e1 : toPy S 59 (f x) with
    | none => rw [e1] at h1; cases h1
    | some p =>
      cases e2 : mapO (toPy S 59) (r.map f) with
      | none => rw [e2] at h2; cases h2
      | some q => rfl
theorem py_cons (S : Store) (d : D) (r : List D) : pyOk S (d :: r) = ((toPy S 59 d).isSome && pyOk S r) := by
  unfold pyOk
  rw [mapO]
  cases toPy S 59 d with
  | none => rfl
  | some p => cases mapO (toPy S 59) r <;> rfl
theorem py_ints (S : Store) (xs : List Int) : pyOk S (xs.map D.int) = true := py_map fun _ _ => by rw [toPy_int]; rfl
theorem py_int (S : Store) (n : Nat) (i : Int) : (toPy S n (.int i)).isSome = true := by rw [toPy_int]; rfl
theorem py_bl (S : Store) (n : Nat) (b : Bool) : (toPy S n (.bl b)).isSome = true := by rw [toPy_bl]; rfl
theorem py_non (S : Store) (n : Nat) : (toPy S n .non).isSome = true := by rw [toPy_non]; rfl
theorem py_kD (S : Store) (n : Nat) (o : Option Int) : (toPy S n (kD o)).isSome = true := by
  cases o
  · exact py_non S n
  · exact py_int S n _
/-- flat things -/
def flatD : D → Bool
  | .non => true | .bl _ => true | .int _ => true | _ => false
def flat2 : D → Bool
  | .tup ds => ds.all flatD
  | d => flatD d
theorem py_flat {S : Store} {n : Nat} {d : D} (h : flatD d = true) : (toPy S n d).isSome = true := by
  cases d with
  | non => exact py_non S n
  | bl b => exact py_bl S n b
  | int i => exact py_int S n i
  | _ => cases h
theorem mapO_isSome {α β : Type} {F : α → Option β} : ∀ {xs : List α}, (∀ x ∈ xs, (F x).isSome = true) → (mapO F xs).isSome = true
  | [], _ => rfl
  | x :: r, h => by
    have h1 := h x (List.mem_cons_self ..)
    have h2 := mapO_isSome (xs := r) fun y hy => h y (List.mem_cons_of_mem _ hy)
    rw [mapO]
    cases e1 : F x with
    | none => rw [e1] at h1; cases h1
    | some p =>
      cases e2 : mapO F r with
      | none => rw [e2] at h2; cases h2
      | some q => rfl
theorem py_flat2 {S : Store} {n : Nat} {d : D} (h : flat2 d = true) : (toPy S (n + 1) d).isSome = true := by
  cases d with
  | tup ds =>
    rw [toPy]
    have := mapO_isSome (F := toPy S n) (xs := ds) fun x hx => py_flat (List.all_eq_true.mp h x hx)
    cases e : mapO (toPy S n) ds with
    | none => rw [e] at this; cases this
    | some q => rfl
  | non => exact py_non S _
  | bl b => exact py_bl S _ b
  | int i => exact py_int S _ i
  | _ => cases h
theorem py_all2 {S : Store} {ds : List D} (h : ∀ d ∈ ds, flat2 d = true) : pyOk S ds = true := mapO_isSome fun x hx => py_flat2 (n := 58) (h x hx)
theorem flat_kD (o : Option Int) : flatD (kD o) = true := by cases o <;> rfl
theorem flat_linkD (tw : Tws) (o : Option Int) (l : Int) : flat2 (linkD tw o l) = true := by
  show ([kD o, D.int l, kD (keysAt tw l).head?].all flatD) = true
  rw [List.all_cons, List.all_cons, List.all_cons, flat_kD, flat_kD]; rfl
theorem flat_linksR : ∀ (tw : Tws), ∀ d ∈ linksR tw, flat2 d = true
  | [], d, h => by cases h
  | p :: r, d, h => by
    rw [linksR] at h
    rcases List.mem_append.mp h with h | h
    · obtain ⟨l, _, rfl⟩ := List.mem_map.mp h
      exact flat_linkD r _ l
    · exact flat_linksR r d h
theorem py_links (S : Store) (tw : Tws) : pyOk S (linksT tw) = true := by
  refine py_all2 fun d h => ?_
  rw [linksT] at h
  rcases List.mem_append.mp h with h | h
  · obtain ⟨l, _, rfl⟩ := List.mem_map.mp h
    exact flat_linkD tw _ l
  · exact flat_linksR tw d h
theorem py_prs (S : Store) (tw : Tws) : pyOk S (tw.map prD) = true := py_all2 fun d h => by
  obtain ⟨p, _, rfl⟩ := List.mem_map.mp h
  rfl
theorem eq_D {S : Store} {d e : D} : cmpD .Eq d e S = eqD S d e := rfl
theorem ne_D {S : Store} {d e : D} : cmpD .NotEq d e S = (eqD S d e).map (!·) := rfl
theorem eqD_ii {S : Store} {i j : Int} : eqD S (.int i) (.int j) = some (decide (i = j)) := eq_int (S := S)
theorem eqD_kk {S : Store} {o : Option Int} : eqD S (kD o) (kD o) = some true := by
  have h : ∃ p, toPy S 60 (kD o) = some p := by
    cases o with
    | none => exact ⟨_, toPy_non⟩
    | some i => exact ⟨_, toPy_int⟩
  obtain ⟨p, h⟩ := h
  exact eqD_same h h
end Mi
namespace Mi
theorem fm_none {α β : Type} : ∀ xs : List α, xs.filterMap (fun _ => (none : Option β)) = []
  | [] => rfl
  | _ :: r => by rw [List.filterMap_cons]; exact fm_none r
theorem kD_places (ps : List Int) : ps.map D.int ++ [D.non] = (ps.map some ++ [none]).map kD := by
  rw [List.map_append, List.map_map]; rfl
end Mi
namespace Mi
open PySem
def gcR (n : Nat) (B L1 L2 : Store) (j : Nat) : D × Store :=
  if keepsOld L1 L2 = true then
    (if j < L1.length then (.loc (n + j), B ++ L2.take L1.length)
    else match lk L2 j with
      | some mo => if MO.pure mo = true then (.loc (n + L1.length), B ++ (L2.take L1.length ++ [mo])) else (.loc (n + j), B ++ L2)
      | none => (.loc (n + j), B ++ L2))
  else (.loc (n + j), B ++ L2)
section
variable {S A B L1 L2 : Store} {m j : Nat} {v w : MO}
theorem keepsOld_eq : ∀ {A B : Store}, A.length = B.length → keepsOld (A ++ L1) (B ++ L2) = (keepsOld A B && keepsOld L1 L2)
  | [], [], _ => by simp [keepsOld]
  | a :: r, b :: q, hl => by
    show ((MO.beq a b || MO.pure b) && keepsOld (r ++ L1) (q ++ L2)) = (((MO.beq a b || MO.pure b) && keepsOld r q) && keepsOld L1 L2)
    rw [keepsOld_eq (by simpa using hl), Bool.and_assoc]
theorem gq_gen (hl : A.length = B.length) (hk : keepsOld A B = true) : gc (A ++ L1) (.loc (A.length + j)) (B ++ L2) = gcR A.length B L1 L2 j := by
  unfold gc gcR
  rw [keepsOld_eq hl, hk, Bool.true_and]
  by_cases h : keepsOld L1 L2 = true
  · rw [if_pos h, if_pos h, if_neg (by simp [D.pure])]
    dsimp only
    by_cases h2 : j < L1.length
    · rw [if_pos h2, if_pos (by rw [List.length_append]; omega), List.length_append, hl, List.take_length_add_append]
    · rw [if_neg h2, if_neg (by rw [List.length_append]; omega)]
      have e : (B ++ L2)[A.length + j]? = lk L2 j := by rw [hl]; exact lk_app
      rw [e]
      cases lk L2 j with
      | none => rfl
      | some mo =>
        dsimp only
        by_cases h3 : MO.pure mo = true
        · rw [if_pos h3, if_pos h3, List.length_append, hl, List.take_length_add_append, List.append_assoc]
        · rw [if_neg h3, if_neg h3]
  · rw [if_neg h, if_neg h]
theorem gq_1 : gc (S ++ L1) (.loc (S.length + j)) (S ++ L2) = gcR S.length S L1 L2 j := gq_gen rfl (keepsOld_self S)
theorem gq_2 : gc (S ++ L1) (.loc S.length) (S ++ L2) = gcR S.length S L1 L2 0 := gq_gen (j := 0) rfl (keepsOld_self S)
theorem gq_3 : gc S (.loc (S.length + j)) (S ++ L2) = gcR S.length S [] L2 j := by
  have := gq_1 (S := S) (L1 := []) (L2 := L2) (j := j)
  rwa [List.append_nil] at this
theorem gq_4 : gc S (.loc S.length) (S ++ L2) = gcR S.length S [] L2 0 := gq_3 (j := 0)
theorem gq_5 (hv : MO.pure v = true) : gc (S ++ L1) (.loc (S.length + j)) (S.set m v ++ L2) = gcR S.length (S.set m v) L1 L2 j := gq_gen len_set.symm (kset hv)
theorem gq_6 (hv : MO.pure v = true) : gc (S ++ L1) (.loc S.length) (S.set m v ++ L2) = gcR S.length (S.set m v) L1 L2 0 := gq_gen (j := 0) len_set.symm (kset hv)
theorem gq_7 (hv : MO.pure v = true) : gc S (.loc (S.length + j)) (S.set m v ++ L2) = gcR S.length (S.set m v) [] L2 j := by
  have := gq_5 (S := S) (L1 := []) (L2 := L2) (j := j) (m := m) hv
  rwa [List.append_nil] at this
theorem gq_8 (hv : MO.pure v = true) : gc S (.loc S.length) (S.set m v ++ L2) = gcR S.length (S.set m v) [] L2 0 := gq_7 (j := 0) hv
theorem gq_9 (hv : MO.pure w = true) : gc (S.set m v ++ L1) (.loc (S.length + j)) (S.set m w ++ L2) = gcR S.length (S.set m w) L1 L2 j := by
  have := gq_gen (A := S.set m v) (B := S.set m w) (L1 := L1) (L2 := L2) (j := j) (by rw [len_set, len_set]) (ksets hv)
  rwa [len_set] at this
theorem gq_10 (hv : MO.pure w = true) : gc (S.set m v ++ L1) (.loc S.length) (S.set m w ++ L2) = gcR S.length (S.set m w) L1 L2 0 := gq_9 (j := 0) hv
theorem gq_11 (hv : MO.pure w = true) : gc (S.set m v) (.loc (S.length + j)) (S.set m w ++ L2) = gcR S.length (S.set m w) [] L2 j := by
  have := gq_9 (S := S) (L1 := []) (L2 := L2) (j := j) (m := m) (v := v) hv
  rwa [List.append_nil] at this
theorem gq_12 (hv : MO.pure w = true) : gc (S.set m v) (.loc S.length) (S.set m w ++ L2) = gcR S.length (S.set m w) [] L2 0 := gq_11 (j := 0) hv
theorem gq_13 : gc (S.set m v ++ L1) (.loc (S.length + j)) (S.set m v ++ L2) = gcR S.length (S.set m v) L1 L2 j := by
  have := gq_gen (A := S.set m v) (B := S.set m v) (L1 := L1) (L2 := L2) (j := j) rfl (keepsOld_self _)
  rwa [len_set] at this
theorem gq_14 : gc (S.set m v ++ L1) (.loc S.length) (S.set m v ++ L2) = gcR S.length (S.set m v) L1 L2 0 := gq_13 (j := 0)
theorem gq_15 : gc (S.set m v) (.loc (S.length + j)) (S.set m v ++ L2) = gcR S.length (S.set m v) [] L2 j := by
  have := gq_13 (S := S) (L1 := []) (L2 := L2) (j := j) (m := m) (v := v)
  rwa [List.append_nil] at this
theorem gq_16 : gc (S.set m v) (.loc S.length) (S.set m v ++ L2) = gcR S.length (S.set m v) [] L2 0 := gq_15 (j := 0)
end
end Mi

end

section
/-! Mi18: rows of lists, more about stores. -/
namespace Mi
open PySem PySem.Spec
open L2 (atI ixN Key)
theorem set_lk_self {S : Store} {m : Nat} {v : MO} (h : lk S m = some v) : S.set m v = S := by
  unfold lk at h
  apply List.ext_getElem?
  intro i
  by_cases hi : m = i
  · subst hi
    rw [List.getElem?_set_self (List.getElem?_eq_some_iff.mp h).1, h]
  · rw [List.getElem?_set_ne hi]
section
variable {α : Type} {ok : Store → Bool} {g : D → Store → Option (StD × Store)} {c : StD → Store → Option (Bool × Store)} {e : StD → Store → Option (D × Store)} {X : Option (List D × Store)} {inj : α → D}
theorem lc_alloc (mk : α → MO) : ∀ {xs : List α} {acc : List D} {S : Store}, (∀ V, ok (S ++ V) = true) → acc.length + xs.length ≤ sizeLine → (∀ x ∈ xs, ∀ U V, U = S ++ V → lcS g c e (inj x) U = some (some (.loc U.length), U ++ [mk x])) →
    lcD ok g c e (xs.map inj) acc S = some (acc ++ (List.range' S.length xs.length).map D.loc, S ++ xs.map mk)
  | [], acc, S, hok, _, _ => by
    have := hok []
    rw [List.append_nil] at this
    simp [lcD, this]
  | x :: r, acc, S, hok, hl, h => by
    have h1 := h x (List.mem_cons_self ..) S [] (by rw [List.append_nil])
    have h0 := hok []
    rw [List.append_nil] at h0
    simp only [List.length_cons] at hl
    rw [List.map_cons, lcD, if_pos h0]
    unfold lcS at h1
    cases hg : g (inj x) S with
    | none => rw [hg] at h1; cases h1
    | some p =>
      obtain ⟨σ1, S1⟩ := p
      rw [hg, bnd_some] at h1
      dsimp only
      cases hc : c σ1 S1 with
      | none => rw [hc] at h1; cases h1
      | some q =>
        obtain ⟨t, S2⟩ := q
        rw [hc, bnd_some] at h1
        cases t with
        | false =>
          rw [ite_f] at h1
          injection h1 with h1
          injection h1 with h2 h3
          cases h2
        | true =>
          rw [ite_t] at h1
          dsimp only
          cases he : e σ1 S2 with
          | none => rw [he] at h1; cases h1
          | some z =>
            obtain ⟨y, S3⟩ := z
            rw [he, bnd_some] at h1
            injection h1 with h1
            injection h1 with h2 h3
            injection h2 with h2
            subst h3 h2
            dsimp only
            rw [if_pos (by omega), lc_alloc mk (xs := r) (fun V => by rw [List.append_assoc]; exact hok _) (by simp; omega) fun y hy U V hU => h y (List.mem_cons_of_mem _ hy) U ([mk x] ++ V) (by rw [hU]; simp)]
            simp [List.range'_succ]
end
def lpM (p : Int × Int) : MO := .lst [.int p.1, .int p.2]
theorem TwL_locs : ∀ {tw : Tws} {S W : Store}, TwL (S ++ tw.map lpM ++ W) ((List.range' S.length tw.length).map D.loc) tw
  | [], _, _ => trivial
  | p :: r, S, W => by
    have ih := TwL_locs (tw := r) (S := S ++ [lpM p]) (W := W)
    rw [List.length_cons, List.range'_succ, List.map_cons]
    refine ⟨?_, ?_⟩
    · rw [sq_lk]
      have : lk (S ++ lpM p :: List.map lpM r ++ W) S.length = some (lpM p) := by
        rw [List.append_assoc, lk_app0]; rfl
      rw [this]; rfl
    · have e : S ++ lpM p :: List.map lpM r ++ W = S ++ [lpM p] ++ List.map lpM r ++ W := by simp
      rw [e]
      have e2 : (S ++ [lpM p]).length = S.length + 1 := by simp
      rw [e2] at ih
      exact ih
theorem py_TwL {S : Store} {n : Nat} : ∀ {tw : Tws} {ds : List D}, TwL S ds tw → (∀ d ∈ ds, ∃ m, d = .loc m) → mapO (toPy S (n + 1)) ds = some (tw.map fun p => .list [.int p.1, .int p.2])
  | [], [], _, _ => rfl
  | p :: r, d :: ds, ⟨h1, h2⟩, h => by
    obtain ⟨m, rfl⟩ := h d (List.mem_cons_self ..)
    have ih := py_TwL (n := n) h2 fun d hd => h d (List.mem_cons_of_mem _ hd)
    rw [mapO]
    have e : toPy S (n + 1) (.loc m) = some (.list [.int p.1, .int p.2]) := by
      rw [toPy_lk]
      rw [sq_lk] at h1
      cases hm : lk S m with
      | none => rw [hm] at h1; cases h1
      | some mo =>
        rw [hm] at h1
        cases mo with
        | lst es =>
          injection h1 with h1
          subst h1
          dsimp only
          rw [mapO, toPy_int]
          dsimp only
          rw [mapO, toPy_int]; rfl
        | _ => cases h1
    rw [e]
    dsimp only
    rw [ih]; rfl
theorem eqS_TwL {S : Store} {tw : Tws} {ds es : List D} (h1 : TwL S ds tw) (h2 : TwL S es tw) (l1 : ∀ d ∈ ds, ∃ m, d = .loc m) (l2 : ∀ d ∈ es, ∃ m, d = .loc m) : eqS S ds es = some true := by
  unfold eqS
  rw [py_TwL (n := 58) h1 l1, py_TwL (n := 58) h2 l2]
  dsimp only
  congr 1
  refine eqvAll_of _ fun p hp => ?_
  obtain ⟨q, _, rfl⟩ := List.mem_map.mp hp
  simp [PyData.eqv, PyData.eqvAll]
/-- the greatest height, from 0 on -/
theorem foldl_max_eq : ∀ (l : List Int) (i : Int), l.foldl (fun a b => if b > a then b else a) i = greatest i l
  | [], i => rfl
  | j :: r, i => by
    rw [List.foldl_cons, foldl_max_eq r]
    show _ = greatest (max i j) r
    congr 1
    split <;> omega
theorem hiT_fold {tw : Tws} (h : Fine tw) : (tw.foldl (fun a p => if p.2 > a then p.2 else a) 0 : Int) = hiT tw := by
  have e : (tw.foldl (fun a p => if p.2 > a then p.2 else a) 0 : Int) = (tw.map (·.2)).foldl (fun a b => if b > a then b else a) 0 := by
    rw [List.foldl_map]
  rw [e, foldl_max_eq]
  cases tw with
  | nil => rfl
  | cons p r =>
    have := h.1
    show greatest (max 0 p.2) (r.map (·.2)) = greatest p.2 (r.map (·.2))
    congr 1
    omega
end Mi
namespace Mi
theorem py_mapi {α : Type} (S : Store) (f : α → Int) (xs : List α) : pyOk S (xs.map fun q => D.int (f q)) = true := py_map fun _ _ => py_int S 59 _
theorem pr_mapi {α : Type} (f : α → Int) (xs : List α) : D.pureL (xs.map fun q => D.int (f q)) = true := pureL_map xs fun _ _ => rfl
end Mi
namespace Mi
theorem keysAt_one {tw : Tws} (h : Fine tw) : keysAt tw 1 = tw.map (·.1) := by
  unfold keysAt
  rw [List.filter_eq_self.mpr]
  intro p hp
  simpa using h.pos p hp
end Mi
namespace Mi
theorem log_of_le {i : Int} (h1 : 0 < i) (h2 : i ≤ 2 ^ 64) : i.natAbs.log2 < 9000 := by
  have h3 : i.natAbs < 2 ^ 65 := by omega
  have := (Nat.log2_lt (n := i.natAbs) (k := 65) (by omega)).mpr h3
  omega
end Mi

end

section
/-! Mi19: places in towers, searches: plain facts. -/
namespace Mi
open PySem PySem.Spec
open L2 (atI ixN Key)
/-- the first place that is high enough, or the length -/
def fx (l : Int) : Tws → Nat
  | [] => 0
  | p :: r => if l ≤ p.2 then 0 else fx l r + 1
def nx (tw : Tws) (n : Nat) (l : Int) : Nat := n + fx l (tw.drop n)
theorem fx_le (l : Int) : ∀ tw : Tws, fx l tw ≤ tw.length
  | [] => Nat.le_refl _
  | p :: r => by
    rw [fx]; split
    · exact Nat.zero_le _
    · have := fx_le l r; simp; omega
theorem nx_ge (tw : Tws) (n : Nat) (l : Int) : n ≤ nx tw n l := Nat.le_add_right _ _
theorem nx_le {tw : Tws} {n : Nat} (h : n ≤ tw.length) (l : Int) : nx tw n l ≤ tw.length := by
  have := fx_le l (tw.drop n)
  rw [List.length_drop] at this
  unfold nx; omega
theorem nx_end {tw : Tws} {n : Nat} (h : tw.length ≤ n) (l : Int) : nx tw n l = n := by
  unfold nx; rw [List.drop_eq_nil_of_le h]; rfl
theorem nx_step {tw : Tws} {n : Nat} {p : Int × Int} (h : tw[n]? = some p) (l : Int) : nx tw n l = if l ≤ p.2 then n else nx tw (n + 1) l := by
  have hl := (List.getElem?_eq_some_iff.mp h).1
  have e : tw.drop n = p :: tw.drop (n + 1) := by
    rw [List.drop_eq_getElem_cons hl, (List.getElem?_eq_some_iff.mp h).2]
  unfold nx
  rw [e, fx]
  split
  · rfl
  · omega
theorem nx_one {tw : Tws} (hf : Fine tw) (n : Nat) : nx tw n 1 = n := by
  cases h : tw[n]? with
  | none => exact nx_end (List.getElem?_eq_none_iff.mp h) 1
  | some p => rw [nx_step h, if_pos (hf.pos p (List.mem_of_getElem? h))]
def keyAt (tw : Tws) (n : Nat) : Option Int := match n with
  | 0 => none
  | n + 1 => (tw[n]?).map (·.1)
theorem fx_head (l : Int) : ∀ tw : Tws, (keysAt tw l).head? = (tw[fx l tw]?).map (·.1)
  | [] => rfl
  | p :: r => by
    have ih := fx_head l r
    unfold keysAt at ih ⊢
    rw [List.filter_cons, fx]
    by_cases h : l ≤ p.2
    · simp [h]
    · simp only [h, decide_false, if_false, Bool.false_eq_true]
      rw [ih]; rfl
theorem nextK_at {tw : Tws} (hf : Fine tw) {n : Nat} (hn : n ≤ tw.length) (l : Int) : nextK tw (keyAt tw n) l = (tw[nx tw n l]?).map (·.1) := by
  have e : ∀ m, (tw[n + m]?) = (tw.drop n)[m]? := fun m => by rw [List.getElem?_drop]
  cases n with
  | zero => rw [keyAt, nextK_none, fx_head]; unfold nx; simp
  | succ n =>
    have hl : n < tw.length := hn
    have hd : tw = tw.take n ++ tw[n] :: tw.drop (n + 1) := by
      rw [← List.drop_eq_getElem_cons hl, List.take_append_drop]
    have hk : keyAt tw (n + 1) = some tw[n].1 := by rw [keyAt, List.getElem?_eq_getElem hl]; rfl
    rw [hk]
    unfold nx
    rw [e, ← fx_head]
    have := nextK_app (a := tw.take n) (r := tw.drop (n + 1)) (p := tw[n]) (l := l) (by rw [← hd]; exact hf)
    rwa [← hd] at this
/-- the last place below a key that is high enough, and 1 -/
def pbN (f l : Int) : Tws → Nat
  | [] => 0
  | p :: r => match pbN f l r with
    | 0 => if p.1 < f ∧ l ≤ p.2 then 1 else 0
    | m + 1 => m + 2
theorem pbN_le (f l : Int) : ∀ tw : Tws, pbN f l tw ≤ tw.length
  | [] => Nat.le_refl _
  | p :: r => by
    have := pbN_le f l r
    rw [pbN]
    cases h : pbN f l r with
    | zero => dsimp only; split <;> simp
    | succ m => rw [h] at this; simp; omega
def en (i : Int) : Tws → List (Int × (Int × Int))
  | [] => []
  | p :: r => (i, p) :: en (i + 1) r
def enD (q : Int × (Int × Int)) : D := .tup [.int q.1, prD q.2]
theorem enumD_prs : ∀ (tw : Tws) (i : Int), enumD i (tw.map prD) = (en i tw).map enD
  | [], i => rfl
  | p :: r, i => by rw [List.map_cons, enumD, en, List.map_cons, enumD_prs r]; rfl
theorem en_len : ∀ (tw : Tws) (i : Int), (en i tw).length = tw.length
  | [], _ => rfl
  | p :: r, i => by rw [en, List.length_cons, en_len r]; rfl
def belowB (f l : Int) (p : Int × Int) : Bool := decide (p.1 < f) && decide (l ≤ p.2)
theorem pbN_cons {f l : Int} {p : Int × Int} {r : Tws} : pbN f l (p :: r) = match pbN f l r with
    | 0 => if belowB f l p = true then 1 else 0
    | m + 1 => m + 2 := by
  rw [pbN]
  cases pbN f l r with
  | zero => simp [belowB]
  | succ m => rfl
theorem last_cons {α : Type} {a : α} {r : List α} : (a :: r).getLast? = match r.getLast? with | none => some a | some b => some b := by
  cases r with
  | nil => rfl
  | cons b q => rw [List.getLast?_cons_cons]; cases h : (b :: q).getLast? with
    | none => simp at h
    | some x => rfl
theorem pb_ixs (f l : Int) : ∀ (tw : Tws) (i : Int), (((en i tw).filter fun q => belowB f l q.2).map (·.1)).getLast? = match pbN f l tw with | 0 => none | m + 1 => some (i + m)
  | [], i => rfl
  | p :: r, i => by
    have ih := pb_ixs f l r (i + 1)
    rw [en, List.filter_cons, pbN_cons]
    cases hb : belowB f l p with
    | true =>
      simp only [if_true]
      rw [List.map_cons, last_cons, ih]
      cases pbN f l r with
      | zero => simp
      | succ m => simp; omega
    | false =>
      simp only [Bool.false_eq_true, if_false]
      rw [ih]
      cases pbN f l r with
      | zero => rfl
      | succ m => simp; omega
theorem pb_keys (f l : Int) : ∀ (tw : Tws), ((tw.filter (belowB f l)).map (·.1)).getLast? = keyAt tw (pbN f l tw)
  | [] => rfl
  | p :: r => by
    have ih := pb_keys f l r
    rw [List.filter_cons, pbN_cons]
    cases hb : belowB f l p with
    | true =>
      simp only [if_true]
      rw [List.map_cons, last_cons, ih]
      cases h : pbN f l r with
      | zero => simp [keyAt]
      | succ m =>
        have hl := pbN_le f l r
        rw [h] at hl
        simp [keyAt, List.getElem?_eq_getElem (show m < r.length by omega)]
    | false =>
      simp only [Bool.false_eq_true, if_false]
      rw [ih]
      cases h : pbN f l r with
      | zero => rfl
      | succ m => simp [keyAt]
/-! steps -/
inductive Stp where
  | right (l k : Int) | stop (l k : Int) | fin (l : Int) | look (k : Int) | up (l k : Int) | turn (l k : Int) | edge (l : Int)
def Stp.w : Stp → Str
  | .right .. => "right" | .stop .. => "stop" | .fin .. => "end" | .look .. => "look" | .up .. => "up" | .turn .. => "turn" | .edge .. => "edge"
def Stp.d : Stp → D
  | .right l k => .tup [.str "right", .int l, .int k]
  | .stop l k => .tup [.str "stop", .int l, .int k]
  | .fin l => .tup [.str "end", .int l]
  | .look k => .tup [.str "look", .int k]
  | .up l k => .tup [.str "up", .int l, .int k]
  | .turn l k => .tup [.str "turn", .int l, .int k]
  | .edge l => .tup [.str "edge", .int l]
/-- right as long as keys are less -/
def rr (tw : Tws) (key l : Int) (n : Nat) : List Stp × Nat :=
  match h : tw[nx tw n l]? with
  | some q => if q.1 < key then (.right l q.1 :: (rr tw key l (nx tw n l + 1)).1, (rr tw key l (nx tw n l + 1)).2) else ([], n)
  | none => ([], n)
termination_by tw.length - n
decreasing_by
  all_goals
    have h1 := (List.getElem?_eq_some_iff.mp h).1
    have h2 := nx_ge tw n l
    omega
theorem rr_right {tw : Tws} {key l : Int} {n : Nat} {q : Int × Int} (h : tw[nx tw n l]? = some q) (hq : q.1 < key) : rr tw key l n = (.right l q.1 :: (rr tw key l (nx tw n l + 1)).1, (rr tw key l (nx tw n l + 1)).2) := by
  rw [rr]
  split
  · rename_i q' h'
    rw [h] at h'; cases h'
    rw [if_pos hq]
  · rename_i h'; rw [h] at h'; cases h'
theorem rr_stay {tw : Tws} {key l : Int} {n : Nat} (h : ∀ q, tw[nx tw n l]? = some q → ¬ q.1 < key) : rr tw key l n = ([], n) := by
  rw [rr]
  split
  · rename_i q' h'
    rw [if_neg (h q' h')]
  · rfl
def seS (tw : Tws) (l : Int) (n : Nat) : Stp := match tw[nx tw n l]? with
  | some q => .stop l q.1
  | none => .fin l
def sr (tw : Tws) (key : Int) : Nat → Nat → List Stp × Nat
  | 0, n => ([], n)
  | l + 1, n => ((rr tw key (l + 1 : Nat) n).1 ++ seS tw (l + 1 : Nat) (rr tw key (l + 1 : Nat) n).2 :: (sr tw key l (rr tw key (l + 1 : Nat) n).2).1, (sr tw key l (rr tw key (l + 1 : Nat) n).2).2)
theorem sr_right {tw : Tws} {key : Int} {l n : Nat} {q : Int × Int} (h : tw[nx tw n (l + 1 : Nat)]? = some q) (hq : q.1 < key) :
    sr tw key (l + 1) n = (.right (l + 1 : Nat) q.1 :: (sr tw key (l + 1) (nx tw n (l + 1 : Nat) + 1)).1, (sr tw key (l + 1) (nx tw n (l + 1 : Nat) + 1)).2) := by
  rw [sr, sr, rr_right h hq]; rfl
theorem sr_down {tw : Tws} {key : Int} {l n : Nat} (h : ∀ q, tw[nx tw n (l + 1 : Nat)]? = some q → ¬ q.1 < key) :
    sr tw key (l + 1) n = (seS tw (l + 1 : Nat) n :: (sr tw key l n).1, (sr tw key l n).2) := by
  rw [sr, rr_stay h]; rfl
theorem rr_le {tw : Tws} {key l : Int} : ∀ (m n : Nat), tw.length - n = m → n ≤ tw.length → (rr tw key l n).2 ≤ tw.length ∧ n ≤ (rr tw key l n).2 := by
  intro m
  induction m using Nat.strongRecOn with
  | _ m ih =>
    intro n hm hn
    cases h : tw[nx tw n l]? with
    | none =>
      rw [rr_stay (fun q hq => by rw [h] at hq; cases hq)]
      exact ⟨hn, Nat.le_refl _⟩
    | some q =>
      by_cases hq : q.1 < key
      · have h1 := (List.getElem?_eq_some_iff.mp h).1
        have h2 := nx_ge tw n l
        rw [rr_right h hq]
        obtain ⟨i1, i2⟩ := ih (tw.length - (nx tw n l + 1)) (by omega) (nx tw n l + 1) rfl (by omega)
        exact ⟨i1, by dsimp only; omega⟩
      · rw [rr_stay (fun q' hq' => by rw [h] at hq'; cases hq'; exact hq)]
        exact ⟨hn, Nat.le_refl _⟩
def lookS (tw : Tws) (q : Nat) : List Stp := match tw[q]? with
  | some p => [.look p.1]
  | none => []
def srch (tw : Tws) (key : Int) (l n : Nat) : List Stp := (sr tw key l n).1 ++ lookS tw (sr tw key l n).2
theorem srch_right {tw : Tws} {key : Int} {l n : Nat} {q : Int × Int} (h : tw[nx tw n (l + 1 : Nat)]? = some q) (hq : q.1 < key) : srch tw key (l + 1) n = .right (l + 1 : Nat) q.1 :: srch tw key (l + 1) (nx tw n (l + 1 : Nat) + 1) := by
  unfold srch; rw [sr_right h hq]; rfl
theorem srch_down {tw : Tws} {key : Int} {l n : Nat} (h : ∀ q, tw[nx tw n (l + 1 : Nat)]? = some q → ¬ q.1 < key) : srch tw key (l + 1) n = seS tw (l + 1 : Nat) n :: srch tw key l n := by
  unfold srch; rw [sr_down h]; rfl
/-! a while by a measure -/
theorem whl_M {c : StD → Store → Option (Bool × Store)} {b : StD → Store → Option (Fl × Store)} (I : StD → Store → Prop) (μ : StD → Store → Nat) (Post : Option (Fl × Store) → Prop)
    (h : ∀ σ S, I σ S → ∃ r S1, c σ S = some (r, S1) ∧ (r = false → Post (some (.next σ, S1))) ∧ (r = true → stepOk (fun σ' S' => I σ' S' ∧ μ σ' S' < μ σ S) Post (b σ S1))) :
    ∀ (n : Nat) (σ : StD) (S : Store), I σ S → μ σ S < n → Post (whlD c b n σ S)
  | 0, σ, S, _, hm => absurd hm (Nat.not_lt_zero _)
  | n + 1, σ, S, hI, hm => by
    obtain ⟨r, S1, e, h0, h1⟩ := h σ S hI
    rw [whlD, e]
    cases r with
    | false => exact h0 rfl
    | true =>
      have h2 := h1 rfl
      dsimp only
      cases eb : b σ S1 with
      | none => rw [eb] at h2; exact h2.elim
      | some q =>
        obtain ⟨f, T⟩ := q
        rw [eb] at h2
        cases f with
        | next τ => exact whl_M I μ Post h n τ T h2.1 (by have := h2.2; omega)
        | cnt τ => exact whl_M I μ Post h n τ T h2.1 (by have := h2.2; omega)
        | brk τ => exact h2
        | ret d => exact h2
theorem whl_X {c : StD → Store → Option (Bool × Store)} {b : StD → Store → Option (Fl × Store)} {n : Nat} {σ : StD} {S : Store} {X : Option (Fl × Store)} (hX : whlD c b n σ S = X) (I : StD → Store → Prop) (μ : StD → Store → Nat) (Post : Option (Fl × Store) → Prop)
    (h0 : I σ S) (hm : μ σ S < n) (h : ∀ σ S, I σ S → ∃ r S1, c σ S = some (r, S1) ∧ (r = false → Post (some (.next σ, S1))) ∧ (r = true → stepOk (fun σ' S' => I σ' S' ∧ μ σ' S' < μ σ S) Post (b σ S1))) : Post X :=
  hX ▸ whl_M I μ Post h n σ S h0 hm
theorem pr_stp (s : Stp) : D.pure s.d = true := by cases s <;> rfl
theorem pr_stps (ss : List Stp) : D.pureL (ss.map Stp.d) = true := pureL_map ss fun s _ => pr_stp s
theorem prs_at {tw : Tws} {i : Nat} {p : Int × Int} (h : tw[i]? = some p) : atI (tw.map prD) (i : Nat) = some (prD p) := at_nat (by rw [List.getElem?_map, h]; rfl)
end Mi
namespace Mi
open PySem PySem.Spec
open L2 (atI ixN Key)
theorem at_last {α : Type} (xs : List α) : atI xs (-1) = xs.getLast? := by
  unfold atI ixN
  cases xs with
  | nil => rfl
  | cons a r =>
    have h1 : ¬ (0 : Int) ≤ -1 := by decide
    have h2 : -(((a :: r).length : Nat) : Int) ≤ -1 := by simp; omega
    rw [if_neg h1, if_pos h2]
    show (a :: r)[((-1 : Int) + ((a :: r).length : Nat)).toNat]? = _
    rw [List.getLast?_eq_getElem?]
    congr 1
    simp; omega
theorem rangeI_cons {m n : Nat} {q : Int} {r : List Int} (h : q :: r = rangeI m (n - m)) : m < n ∧ q = m ∧ r = rangeI ((m + 1 : Nat) : Int) (n - (m + 1)) := by
  cases e : n - m with
  | zero => rw [e] at h; cases h
  | succ j =>
    rw [e, rangeI] at h
    injection h with h1 h2
    refine ⟨by omega, h1, ?_⟩
    rw [h2]
    congr 1
    omega
theorem rangeI_nil {m n : Nat} (h : [] = rangeI m (n - m)) : n ≤ m := by
  cases e : n - m with
  | zero => omega
  | succ j => rw [e, rangeI] at h; cases h
theorem rr_len {tw : Tws} {key l : Int} : ∀ (m n : Nat), tw.length - n = m → (rr tw key l n).1.length + n ≤ (rr tw key l n).2 := by
  intro m
  induction m using Nat.strongRecOn with
  | _ m ih =>
    intro n hm
    cases h : tw[nx tw n l]? with
    | none => rw [rr_stay (fun q hq => by rw [h] at hq; cases hq)]; simp
    | some q =>
      by_cases hq : q.1 < key
      · have h1 := (List.getElem?_eq_some_iff.mp h).1
        have h2 := nx_ge tw n l
        rw [rr_right h hq]
        have := ih (tw.length - (nx tw n l + 1)) (by omega) (nx tw n l + 1) rfl
        simp only [List.length_cons]
        omega
      · rw [rr_stay (fun q' hq' => by rw [h] at hq'; cases hq'; exact hq)]; simp
theorem sr_len {tw : Tws} {key : Int} : ∀ (l n : Nat), n ≤ tw.length → (sr tw key l n).1.length + n ≤ l + (sr tw key l n).2 ∧ (sr tw key l n).2 ≤ tw.length
  | 0, n, h => ⟨by simp [sr], h⟩
  | l + 1, n, h => by
    have h1 := rr_len (tw := tw) (key := key) (l := (l + 1 : Nat)) _ n rfl
    have h2 := rr_le (tw := tw) (key := key) (l := (l + 1 : Nat)) _ n rfl h
    have h3 := sr_len l _ h2.1 (tw := tw) (key := key)
    rw [sr]
    simp only [List.length_append, List.length_cons]
    exact ⟨by omega, h3.2⟩
theorem srch_len {tw : Tws} {key : Int} {l n : Nat} (h : n ≤ tw.length) : (srch tw key l n).length ≤ l + tw.length + 1 := by
  have := sr_len l n h (tw := tw) (key := key)
  unfold srch lookS
  rw [List.length_append]
  split <;> simp <;> omega
/-! climbing -/
def crF (tw : Tws) (f key : Int) : Nat → Nat → List Stp × Nat × Nat
  | 0, l => ([], l, pbN f l tw)
  | j + 1, l => match tw[nx tw (pbN f l tw) l]? with
    | none => ([.edge l], l, pbN f l tw)
    | some q => if key ≤ q.1 then ([.turn l q.1], l, pbN f l tw) else (.up l q.1 :: (crF tw f key j (l + 1)).1, (crF tw f key j (l + 1)).2)
def clF (tw : Tws) (f key : Int) : Nat → Nat → List Stp × Nat × Nat
  | 0, l => ([], l - 1, 0)
  | j + 1, l => match keyAt tw (pbN f l tw) with
    | none => ([.edge l], l, pbN f l tw)
    | some k => if k < key then ([.turn l k], l, pbN f l tw) else (.up l k :: (clF tw f key j (l + 1)).1, (clF tw f key j (l + 1)).2)
def climb (tw : Tws) (f key : Int) : List Stp × Nat × Nat := if key > f then crF tw f key ((hiT tw).toNat - 1) 1 else clF tw f key (hiT tw).toNat 1
def sbS (tw : Tws) (f key : Int) : List Stp := if hiT tw = 0 then [] else (climb tw f key).1 ++ srch tw key (climb tw f key).2.1 (climb tw f key).2.2
def sbL (tw : Tws) (f key : Int) : Nat := if hiT tw = 0 then 0 else (climb tw f key).2.1
theorem crF_len {tw : Tws} {f key : Int} : ∀ (j l : Nat), (crF tw f key j l).1.length ≤ j ∧ l ≤ (crF tw f key j l).2.1 ∧ (crF tw f key j l).2.1 ≤ l + j ∧ (crF tw f key j l).2.2 ≤ tw.length
  | 0, l => ⟨Nat.zero_le _, Nat.le_refl _, Nat.le_refl _, pbN_le f l tw⟩
  | j + 1, l => by
    have ih := crF_len (tw := tw) (f := f) (key := key) j (l + 1)
    rw [crF]
    split
    · exact ⟨by simp, Nat.le_refl _, by dsimp only; omega, pbN_le f l tw⟩
    · split
      · exact ⟨by simp, Nat.le_refl _, by dsimp only; omega, pbN_le f l tw⟩
      · simp only [List.length_cons]; exact ⟨by omega, by omega, by omega, ih.2.2.2⟩
theorem clF_len {tw : Tws} {f key : Int} : ∀ (j l : Nat), 1 ≤ l → (clF tw f key j l).1.length ≤ j ∧ l - 1 ≤ (clF tw f key j l).2.1 ∧ (clF tw f key j l).2.1 ≤ l - 1 + j ∧ (clF tw f key j l).2.2 ≤ tw.length
  | 0, l, _ => ⟨Nat.zero_le _, Nat.le_refl _, Nat.le_refl _, Nat.zero_le _⟩
  | j + 1, l, h => by
    have ih := clF_len (tw := tw) (f := f) (key := key) j (l + 1) (by omega)
    rw [clF]
    split
    · exact ⟨by simp, by dsimp only; omega, by dsimp only; omega, pbN_le f l tw⟩
    · split
      · exact ⟨by simp, by dsimp only; omega, by dsimp only; omega, pbN_le f l tw⟩
      · simp only [List.length_cons]; exact ⟨by omega, by omega, by omega, ih.2.2.2⟩
end Mi
namespace Mi
theorem aug_add {a b : Int} : augD .Add (.int a) (.int b) = some (.int (a + b)) := rfl
theorem aug_sub {a b : Int} : augD .Sub (.int a) (.int b) = some (.int (a - b)) := rfl
theorem nat_pred (i : Nat) : ((i + 1 : Nat) : Int) - 1 = (i : Nat) := by omega
end Mi
namespace Mi
theorem nat_succ (i : Nat) : (i : Int) + 1 = ((i + 1 : Nat) : Int) := by omega
theorem pr_loc (n : Nat) : D.pure (.loc n) = false := nr rfl
theorem gt_np {S T : Store} {ds : List D} (h : D.pureL ds = false) : gc S (.tup ds) T = (.tup ds, T) := by
  have h2 : D.pure (.tup ds) = false := h
  unfold gc
  split
  · rw [h2]; rfl
  · rfl
/-- a list at a place of the end -/
theorem gl_at {S L : Store} {j : Nat} {mo : MO} (hm : lk L j = some mo) (hp : MO.pure mo = true) : gc S (.loc (S.length + j)) (S ++ L) = (.loc S.length, S ++ [mo]) := gl_j hm hp
end Mi
namespace Mi
theorem ko_app (L M : Store) : keepsOld L (L ++ M) = true := keepsOld_app L M
theorem take_left' (L M : Store) : (L ++ M).take L.length = L := List.take_left
end Mi

end

section
/-! Mi20: words and lanes of steps. -/
namespace Mi
open PySem PySem.Spec
open L2 (atI ixN Key)
theorem ix_stp {S : Store} (s : Stp) : ixD s.d (.int 0) S = some (.str s.w) := by cases s <;> rfl
def wD (s : Stp) : D := .str s.w
theorem flat_wD : ∀ ss : List Stp, mapO flatPy (ss.map wD) = some (ss.map fun s => PyData.str s.w)
  | [] => rfl
  | s :: r => by rw [List.map_cons, mapO, show flatPy (wD s) = some (PyData.str s.w) from rfl, flat_wD r]; rfl
def isW (x : Str) (s : Stp) : Bool := PyData.eqv (.str s.w) (.str x)
theorem cnt_wD {x : Str} {ss : List Stp} : cntSeq (.str x) (ss.map wD) = some (ss.countP (isW x)) := by
  unfold cntSeq
  rw [flat_wD]
  show some (List.countP _ (ss.map _)) = _
  rw [List.countP_map]; rfl
def isEE : Stp → Bool
  | .fin _ => true
  | .edge _ => true
  | _ => false
def laneOf : Stp → Option Int
  | .right l _ => some l
  | .stop l _ => some l
  | .fin l => some l
  | _ => none
theorem notin_EE {S : Store} (s : Stp) : cmpD .NotIn (wD s) (.tup [.str "end", .str "edge"]) S = some (!isEE s) := by
  cases s <;> kernel_rfl
theorem in_RSE {S : Store} (s : Stp) : cmpD .In (wD s) (.tup [.str "right", .str "stop", .str "end"]) S = some (laneOf s).isSome := by
  cases s <;> kernel_rfl
theorem isW_end (s : Stp) : isW "end" s = match s with | .fin _ => true | _ => false := by cases s <;> kernel_rfl
theorem isW_edge (s : Stp) : isW "edge" s = match s with | .edge _ => true | _ => false := by cases s <;> kernel_rfl
theorem count_EE : ∀ ss : List Stp, ((ss.countP (fun s => !isEE s) : Nat) : Int) = (ss.length : Int) - (ss.countP (isW "end") : Nat) - (ss.countP (isW "edge") : Nat)
  | [] => rfl
  | s :: r => by
    have ih := count_EE r
    rw [List.countP_cons, List.countP_cons, List.countP_cons, List.length_cons, isW_end, isW_edge]
    generalize List.countP (fun s => !isEE s) r = x at ih ⊢
    cases s <;> simp [isEE] <;> omega
theorem lane_ix {S : Store} {s : Stp} {l : Int} (h : laneOf s = some l) : ixD s.d (.int 1) S = some (.int l) := by
  cases s <;> first | (cases h; rfl) | cases h
theorem crF_lanes {tw : Tws} {f key : Int} : ∀ (j l : Nat), ∀ s ∈ (crF tw f key j l).1, laneOf s = none
  | 0, l, s, h => by cases h
  | j + 1, l, s, h => by
    have ih := crF_lanes (tw := tw) (f := f) (key := key) j (l + 1)
    rw [crF] at h
    split at h
    · have : s = .edge l := by simpa using h
      rw [this]; rfl
    · rename_i q _
      split at h
      · have : s = .turn l q.1 := by simpa using h
        rw [this]; rfl
      · rcases List.mem_cons.mp h with h | h
        · rw [h]; rfl
        · exact ih s h
theorem clF_lanes {tw : Tws} {f key : Int} : ∀ (j l : Nat), ∀ s ∈ (clF tw f key j l).1, laneOf s = none
  | 0, l, s, h => by cases h
  | j + 1, l, s, h => by
    have ih := clF_lanes (tw := tw) (f := f) (key := key) j (l + 1)
    rw [clF] at h
    split at h
    · have : s = .edge l := by simpa using h
      rw [this]; rfl
    · rename_i q _
      split at h
      · have : s = .turn l q := by simpa using h
        rw [this]; rfl
      · rcases List.mem_cons.mp h with h | h
        · rw [h]; rfl
        · exact ih s h
theorem clF_pos {tw : Tws} {f key : Int} : ∀ (j l : Nat), 1 ≤ l → 2 ≤ j + l → 1 ≤ (clF tw f key j l).2.1
  | 0, l, _, h => by rw [clF]; dsimp only; omega
  | j + 1, l, h1, h2 => by
    have ih := clF_pos (tw := tw) (f := f) (key := key) j (l + 1) (by omega) (by omega)
    rw [clF]
    split
    · exact h1
    · split
      · exact h1
      · exact ih
theorem rr_lanes {tw : Tws} {key l : Int} : ∀ (m n : Nat), tw.length - n = m → ∀ s ∈ (rr tw key l n).1, laneOf s = some l := by
  intro m
  induction m using Nat.strongRecOn with
  | _ m ih =>
    intro n hm s hs
    cases h : tw[nx tw n l]? with
    | none => rw [rr_stay (fun q hq => by rw [h] at hq; cases hq)] at hs; cases hs
    | some q =>
      by_cases hq : q.1 < key
      · have h1 := (List.getElem?_eq_some_iff.mp h).1
        have h2 := nx_ge tw n l
        rw [rr_right h hq] at hs
        rcases List.mem_cons.mp hs with hs | hs
        · rw [hs]; rfl
        · exact ih _ (by omega) (nx tw n l + 1) rfl s hs
      · rw [rr_stay (fun q' hq' => by rw [h] at hq'; cases hq'; exact hq)] at hs; cases hs
theorem seS_lane {tw : Tws} {l : Int} {n : Nat} : laneOf (seS tw l n) = some l := by
  unfold seS; split <;> rfl
theorem sr_lanes {tw : Tws} {key : Int} : ∀ (l n : Nat), ∀ s ∈ (sr tw key l n).1, ∃ i : Int, laneOf s = some i ∧ i ≤ l
  | 0, n, s, h => by cases h
  | l + 1, n, s, h => by
    rw [sr] at h
    rcases List.mem_append.mp h with h | h
    · exact ⟨_, rr_lanes _ n rfl s h, by omega⟩
    · rcases List.mem_cons.mp h with h | h
      · rw [h]; exact ⟨_, seS_lane, by omega⟩
      · obtain ⟨i, h1, h2⟩ := sr_lanes l _ s h
        exact ⟨i, h1, by omega⟩
def lanesOf (ss : List Stp) : List Int := ss.filterMap laneOf
theorem lanes_none {ss : List Stp} (h : ∀ s ∈ ss, laneOf s = none) : lanesOf ss = [] := by
  unfold lanesOf
  exact List.filterMap_eq_nil_iff.mpr h
theorem srch_lanes {tw : Tws} {key : Int} {l n : Nat} (hl : 1 ≤ l) : (∀ i ∈ lanesOf (srch tw key l n), i ≤ l) ∧ ((l : Int) ∈ lanesOf (srch tw key l n)) := by
  have hlk : lanesOf (lookS tw (sr tw key l n).2) = [] := lanes_none fun s hs => by
    unfold lookS at hs
    split at hs
    · rename_i p _
      have : s = .look p.1 := by simpa using hs
      rw [this]; rfl
    · cases hs
  have e : lanesOf (srch tw key l n) = lanesOf (sr tw key l n).1 := by
    unfold srch
    show List.filterMap laneOf _ = _
    rw [List.filterMap_append]
    show _ ++ lanesOf _ = _
    rw [hlk, List.append_nil]; rfl
  rw [e]
  refine ⟨fun i hi => ?_, ?_⟩
  · obtain ⟨s, h1, h2⟩ := List.mem_filterMap.mp hi
    obtain ⟨j, h3, h4⟩ := sr_lanes l n s h1
    rw [h2] at h3; cases h3; exact h4
  · cases l with
    | zero => omega
    | succ l =>
      refine List.mem_filterMap.mpr ⟨seS tw ((l + 1 : Nat) : Int) (rr tw key ((l + 1 : Nat) : Int) n).2, ?_, seS_lane⟩
      rw [sr]; simp
theorem greatest_eq {i m : Int} {r : List Int} (h1 : ∀ j ∈ i :: r, j ≤ m) (h2 : m ∈ i :: r) : greatest i r = m := by
  obtain ⟨g1, g2⟩ := greatest_in r i
  have := h1 _ g1; have := g2 _ h2; omega
theorem lanes_app (a b : List Stp) : lanesOf (a ++ b) = lanesOf a ++ lanesOf b := List.filterMap_append
theorem sb_lanes {tw : Tws} {f key : Int} (hf : Fine tw) : greatest 1 (lanesOf (sbS tw f key)) - 1 = if ((sbL tw f key : Nat) : Int) - 1 > 0 then ((sbL tw f key : Nat) : Int) - 1 else 0 := by
  have h0 := hiT_nn hf
  unfold sbS sbL
  by_cases hz : hiT tw = 0
  · rw [if_pos hz, if_pos hz]; rfl
  · rw [if_neg hz, if_neg hz]
    have hc : lanesOf (climb tw f key).1 = [] ∧ 1 ≤ (climb tw f key).2.1 := by
      unfold climb
      split
      · exact ⟨lanes_none (crF_lanes _ _), (crF_len _ _).2.1⟩
      · exact ⟨lanes_none (clF_lanes _ _), clF_pos _ _ (Nat.le_refl _) (by omega)⟩
    obtain ⟨g1, g2⟩ := srch_lanes (tw := tw) (key := key) (n := (climb tw f key).2.2) hc.2
    rw [lanes_app, hc.1, List.nil_append, greatest_eq (m := ((climb tw f key).2.1 : Nat)) (fun j hj => ?_) (List.mem_cons_of_mem _ g2)]
    · split <;> omega
    · rcases List.mem_cons.mp hj with h | h
      · rw [h]; omega
      · exact g1 j h
/-- what a search from a finger costs -/
def cstD (ss : List Stp) (lv : Nat) : List D := [.int (ss.countP (isW "up") : Nat), .int (ss.countP (isW "right") : Nat), .int (if ((lv : Nat) : Int) - 1 > 0 then ((lv : Nat) : Int) - 1 else 0), .int (ss.countP (fun s => !isEE s) : Nat)]
theorem len_filter {α : Type} {p : α → Bool} {f : α → D} {xs : List α} : ((xs.filter p).map f).length = xs.countP p := by rw [List.length_map, List.countP_eq_length_filter]
end Mi
namespace Mi
theorem ko_pre {L X Y : Store} : keepsOld (L ++ X) (L ++ Y) = keepsOld X Y := by rw [keepsOld_eq rfl, keepsOld_self, Bool.true_and]
theorem take_pre {L M : Store} {i : Nat} : (L ++ M).take (L.length + i) = L ++ M.take i := List.take_length_add_append i
end Mi

end

section
/-! Mi21: ranges down, lists times numbers. -/
namespace Mi
open PySem PySem.Spec
open L2 (atI ixN Key)
def desc : Nat → List Int
  | 0 => []
  | l + 1 => ((l + 1 : Nat) : Int) :: desc l
theorem stepD_desc : ∀ l : Nat, stepD (l : Int) (-1) l = (desc l).map D.int
  | 0 => rfl
  | l + 1 => by
    rw [stepD, desc, List.map_cons, ← stepD_desc l]
    congr 2
    omega
theorem rng_down {l : Nat} (h : l ≤ 100000) : rng3D (l : Int) 0 (-1) = some ⟨(desc l).map D.int, fun _ => true⟩ := by
  unfold rng3D
  rw [if_pos ⟨rfl, by omega, by omega, by omega, by omega⟩, show ((l : Int) - 0).toNat = l by omega, stepD_desc]
theorem desc_cons {i : Nat} {q : Int} {r : List Int} (h : q :: r = desc i) : ∃ j, i = j + 1 ∧ q = ((j + 1 : Nat) : Int) ∧ r = desc j := by
  cases i with
  | zero => cases h
  | succ j => rw [desc] at h; injection h with h1 h2; exact ⟨j, rfl, h1, h2⟩
theorem desc_nil {i : Nat} (h : [] = desc i) : i = 0 := by
  cases i with
  | zero => rfl
  | succ j => cases h
theorem mul_lk {S : Store} {m : Nat} {k : Nat} {x : List D} (h : lk S m = some (.lst x)) (hk : x.length * k ≤ 100000) (hk2 : k ≤ 100000) : opD .Mult (.loc m) (.int (k : Int)) S = some (.loc S.length, S ++ [.lst (List.replicate k x).flatten]) := by
  have e : opD .Mult (.loc m) (.int (k : Int)) S = (match lk S m with
    | some (.lst x) => @ite _ (-(2 ^ 63) ≤ (k : Int) ∧ (k : Int) < 2 ^ 63 ∧ x.length * (k : Int).toNat ≤ sizeLine) (Classical.propDecidable _) (some (.loc S.length, S ++ [.lst (List.replicate (k : Int).toNat x).flatten])) none
    | _ => none) := rfl
  rw [e, h]
  dsimp only
  rw [if_pos ⟨by omega, by omega, by rw [Int.toNat_natCast]; exact le_size hk⟩, Int.toNat_natCast]
theorem isnone_kD {S : Store} (o : Option Int) : cmpD .Is (kD o) .non S = some o.isNone := by cases o <;> rfl
theorem isnot_kD {S : Store} (o : Option Int) : cmpD .IsNot (kD o) .non S = some o.isSome := by cases o <;> rfl
theorem greatest0 {tw : Tws} (h : Fine tw) : greatest 0 (tw.map (·.2)) = hiT tw := by
  cases tw with
  | nil => rfl
  | cons p r =>
    have := h.1
    show greatest (max 0 p.2) (r.map (·.2)) = greatest p.2 (r.map (·.2))
    congr 1
    omega
theorem intsOf_mapi {α : Type} (f : α → Int) (xs : List α) : intsOf (xs.map fun x => D.int (f x)) = some (xs.map f) := intsOf_map f xs
theorem intsOf_cons {i : Int} {ds : List D} : intsOf (.int i :: ds) = (intsOf ds).map (i :: ·) := rfl
theorem intsOf_ints (xs : List Int) : intsOf (xs.map D.int) = some xs := by
  have := intsOf_map (fun i : Int => i) xs
  rwa [List.map_id'] at this
theorem belowB_swap {f l : Int} {p : Int × Int} : (decide (l ≤ p.2) && decide (p.1 < f)) = belowB f l p := by unfold belowB; rw [Bool.and_comm]
theorem last_kD {xs : List Int} (h : xs.isEmpty = false) : atI (xs.map D.int) (-1) = some (kD xs.getLast?) := by
  rw [at_last, List.getLast?_map]
  cases xs with
  | nil => cases h
  | cons a r =>
    rw [List.getLast?_cons]; rfl
theorem last_none {xs : List Int} (h : xs.isEmpty = true) : kD xs.getLast? = .non := by
  cases xs with
  | nil => rfl
  | cons i r => cases h
theorem fine_hi0 {tw : Tws} (h : Fine tw) (hz : hiT tw = 0) : tw = [] := by
  cases tw with
  | nil => rfl
  | cons p r => have := le_hiT (tw := p :: r) (List.mem_cons_self ..); have := h.1; omega
end Mi
namespace Mi
theorem len_aa {S : Store} {a b : Nat} : S.length + a + b = S.length + (a + b) := Nat.add_assoc ..
end Mi
namespace Mi
open PySem PySem.Spec
theorem py_stp {S : Store} (s : Stp) : (toPy S 59 s.d).isSome = true := by cases s <;> kernel_rfl
theorem py_stps (S : Store) (ss : List Stp) : pyOk S (ss.map Stp.d) = true := py_map fun s _ => py_stp s
theorem py_cst (S : Store) (ss : List Stp) (lv : Nat) : pyOk S (cstD ss lv) = true := by
  unfold cstD
  rw [py_cons, py_cons, py_cons, py_cons, py_nil, py_int, py_int, py_int, py_int]; rfl
theorem sb_len {tw : Tws} {f key : Int} (hf : Fine tw) (hl : tw.length ≤ 1000) (hh : ∀ p ∈ tw, p.2 ≤ 900) : (sbS tw f key).length ≤ 10000 := by
  have h0 := hiT_nn hf
  have h1 := hiT_le (n := 900) (by decide) hh
  unfold sbS
  split
  · simp
  · have hcl : (climb tw f key).1.length ≤ 900 ∧ (climb tw f key).2.1 ≤ 900 ∧ (climb tw f key).2.2 ≤ tw.length := by
      unfold climb
      split
      · have := crF_len (tw := tw) (f := f) (key := key) ((hiT tw).toNat - 1) 1
        omega
      · have := clF_len (tw := tw) (f := f) (key := key) (hiT tw).toNat 1 (Nat.le_refl _)
        omega
    have hb := srch_len (tw := tw) (key := key) (l := (climb tw f key).2.1) hcl.2.2
    rw [List.length_append]; omega
theorem cst_priced {tw : Tws} {f key : Int} (hf : Fine tw) : [D.int ((sbS tw f key).countP (isW "up") : Nat), D.int ((sbS tw f key).countP (isW "right") : Nat), D.int (greatest 1 (lanesOf (sbS tw f key)) - 1), D.int (((sbS tw f key).length : Int) - ((sbS tw f key).countP (isW "end") : Nat) - ((sbS tw f key).countP (isW "edge") : Nat))] = cstD (sbS tw f key) (sbL tw f key) := by
  unfold cstD
  rw [sb_lanes hf, count_EE]
end Mi

end

section
set_option maxHeartbeats 0
namespace K51
open PySem PySem.Spec PyProof.Rows L2 Mi
def top (i : Nat) : Stmt := PySem.Challenge.pw_tosslanes_k51_whole_searches_from_finger.main.body.getD i (.Pass ⟨0, 0, 0, 0⟩)
def b_is_integer : Ts := (.cons (.ret (.bop .And (.cons (.isi (.var 0 "value" ⟨16, 22, 16, 27⟩) .int ⟨16, 11, 16, 21⟩ ⟨16, 29, 16, 32⟩ ⟨16, 11, 16, 33⟩) (.cons (.not (.isi (.var 0 "value" ⟨16, 54, 16, 59⟩) .bool ⟨16, 43, 16, 53⟩ ⟨16, 61, 16, 65⟩ ⟨16, 43, 16, 66⟩) ⟨16, 39, 16, 66⟩) .nil)) ⟨16, 11, 16, 67⟩) ⟨16, 4, 16, 67⟩) .nil)
def b_is_row : Ts := (.cons (.ret (.isl (.var 0 "value" ⟨18, 22, 18, 27⟩) 0 ⟨18, 11, 18, 21⟩ ⟨18, 30, 18, 34⟩ ⟨18, 36, 18, 41⟩ ⟨18, 29, 18, 42⟩ ⟨18, 11, 18, 43⟩) ⟨18, 4, 18, 43⟩) .nil)
def b_is_pair : Ts := (.cons (.ret (.bop .And (.cons (.call "is_row" 1 (.cons (.var 0 "value" ⟨20, 18, 20, 23⟩) .nil) ⟨20, 11, 20, 17⟩ ⟨20, 11, 20, 24⟩) (.cons (.cmp .Eq (.bi .len (.cons (.var 0 "value" ⟨20, 33, 20, 38⟩) .nil) ⟨20, 29, 20, 32⟩ ⟨20, 29, 20, 39⟩) (.con (.int 2) 0 ⟨20, 43, 20, 44⟩) ⟨20, 29, 20, 44⟩) (.cons (.call "is_integer" 0 (.cons (.ix (.var 0 "value" ⟨20, 60, 20, 65⟩) (.con (.int 0) 0 ⟨20, 66, 20, 67⟩) ⟨20, 60, 20, 68⟩) .nil) ⟨20, 49, 20, 59⟩ ⟨20, 49, 20, 69⟩) (.cons (.call "is_integer" 0 (.cons (.ix (.var 0 "value" ⟨20, 85, 20, 90⟩) (.con (.int 1) 0 ⟨20, 91, 20, 92⟩) ⟨20, 85, 20, 93⟩) .nil) ⟨20, 74, 20, 84⟩ ⟨20, 74, 20, 94⟩) (.cons (.cmp .GtE (.ix (.var 0 "value" ⟨20, 100, 20, 105⟩) (.con (.int 1) 0 ⟨20, 106, 20, 107⟩) ⟨20, 100, 20, 108⟩) (.con (.int 1) 0 ⟨20, 112, 20, 113⟩) ⟨20, 100, 20, 113⟩) .nil))))) ⟨20, 11, 20, 114⟩) ⟨20, 4, 20, 114⟩) .nil)
def b_wrong_at : Ts := (.cons (.iff (.not (.call "is_row" 1 (.cons (.var 0 "thing" ⟨22, 18, 22, 23⟩) .nil) ⟨22, 11, 22, 17⟩ ⟨22, 11, 22, 24⟩) ⟨22, 7, 22, 24⟩) (.cons (.ret (.neg (.con (.int 1) 0 ⟨23, 16, 23, 17⟩) ⟨23, 15, 23, 17⟩) ⟨23, 8, 23, 17⟩) .nil) .nil ⟨22, 4, 23, 17⟩) (.cons (.fr (.tp (.cons (.nm 1 "index" ⟨24, 8, 24, 13⟩) (.cons (.nm 2 "one" ⟨24, 15, 24, 18⟩) .nil)) 0 ⟨24, 8, 24, 18⟩) (.enm (.var 0 "thing" ⟨24, 32, 24, 37⟩) ⟨24, 22, 24, 31⟩ ⟨24, 22, 24, 38⟩) (.cons (.iff (.bop .Or (.cons (.not (.call "is_pair" 2 (.cons (.var 2 "one" ⟨25, 23, 25, 26⟩) .nil) ⟨25, 15, 25, 22⟩ ⟨25, 15, 25, 27⟩) ⟨25, 11, 25, 27⟩) (.cons (.bop .And (.cons (.cmp .Gt (.var 1 "index" ⟨25, 32, 25, 37⟩) (.con (.int 0) 0 ⟨25, 40, 25, 41⟩) ⟨25, 32, 25, 41⟩) (.cons (.cmp .GtE (.ix (.ix (.var 0 "thing" ⟨25, 46, 25, 51⟩) (.op .Sub (.var 1 "index" ⟨25, 52, 25, 57⟩) (.con (.int 1) 0 ⟨25, 60, 25, 61⟩) ⟨25, 52, 25, 61⟩) ⟨25, 46, 25, 62⟩) (.con (.int 0) 0 ⟨25, 63, 25, 64⟩) ⟨25, 46, 25, 65⟩) (.ix (.var 2 "one" ⟨25, 69, 25, 72⟩) (.con (.int 0) 0 ⟨25, 73, 25, 74⟩) ⟨25, 69, 25, 75⟩) ⟨25, 46, 25, 75⟩) .nil)) ⟨25, 32, 25, 75⟩) .nil)) ⟨25, 11, 25, 76⟩) (.cons (.ret (.var 1 "index" ⟨26, 19, 26, 24⟩) ⟨26, 12, 26, 24⟩) .nil) .nil ⟨25, 8, 26, 24⟩) .nil) ⟨24, 4, 26, 24⟩) (.cons (.ret (.con .none 0 ⟨27, 11, 27, 15⟩) ⟨27, 4, 27, 15⟩) .nil)))
def b_checked : Ts := (.cons (.asg (.nm 1 "index" ⟨29, 4, 29, 9⟩) (.call "wrong_at" 3 (.cons (.var 0 "towers" ⟨29, 21, 29, 27⟩) .nil) ⟨29, 12, 29, 20⟩ ⟨29, 12, 29, 28⟩) ⟨29, 4, 29, 28⟩) (.cons (.iff (.cmp .IsNot (.var 1 "index" ⟨30, 7, 30, 12⟩) (.con .none 0 ⟨30, 20, 30, 24⟩) ⟨30, 7, 30, 24⟩) (.cons (.nev (.Raise (some (.Call (.Name "NoTowers" ⟨31, 14, 31, 22⟩) [(.Name "index" ⟨31, 23, 31, 28⟩)] [] ⟨31, 14, 31, 29⟩)) none ⟨31, 8, 31, 29⟩)) .nil) .nil ⟨30, 4, 31, 29⟩) (.cons (.ret (.bi .tuple (.cons (.lc (.tup (.cons (.var 2 "key" ⟨32, 19, 32, 22⟩) (.cons (.var 3 "height" ⟨32, 24, 32, 30⟩) .nil)) 0 ⟨32, 18, 32, 31⟩) (.tp (.cons (.nm 2 "key" ⟨32, 36, 32, 39⟩) (.cons (.nm 3 "height" ⟨32, 41, 32, 47⟩) .nil)) 0 ⟨32, 36, 32, 47⟩) (.ex (.var 0 "towers" ⟨32, 51, 32, 57⟩)) .none [("key", 2), ("height", 3)] ⟨.function, [(".0", .local), ("key", .local), ("height", .local)], false, false, []⟩ ⟨32, 17, 32, 58⟩) .nil) ⟨32, 11, 32, 16⟩ ⟨32, 11, 32, 59⟩) ⟨32, 4, 32, 59⟩) .nil)))
def b_look_key : Ts := (.cons (.iff (.not (.call "is_integer" 0 (.cons (.var 0 "key" ⟨34, 22, 34, 25⟩) .nil) ⟨34, 11, 34, 21⟩ ⟨34, 11, 34, 26⟩) ⟨34, 7, 34, 26⟩) (.cons (.nev (.Raise (some (.Call (.Name "NoKey" ⟨35, 14, 35, 19⟩) [(.Name "key" ⟨35, 20, 35, 23⟩)] [] ⟨35, 14, 35, 24⟩)) none ⟨35, 8, 35, 24⟩)) .nil) .nil ⟨34, 4, 35, 24⟩) .nil)
def b_highest : Ts := (.cons (.ret (.mxd true (.lc (.var 2 "height" ⟨37, 16, 37, 22⟩) (.tp (.cons (.nm 1 "key" ⟨37, 27, 37, 30⟩) (.cons (.nm 2 "height" ⟨37, 32, 37, 38⟩) .nil)) 0 ⟨37, 27, 37, 38⟩) (.ex (.var 0 "known" ⟨37, 42, 37, 47⟩)) .none [("key", 1), ("height", 2)] ⟨.function, [(".0", .local), ("key", .local), ("height", .local)], false, false, []⟩ ⟨37, 15, 37, 48⟩) (.con (.int 0) 0 ⟨37, 58, 37, 59⟩) ⟨37, 11, 37, 14⟩ ⟨37, 50, 37, 59⟩ ⟨37, 11, 37, 60⟩) ⟨37, 4, 37, 60⟩) .nil)
def b_next_at : Ts := (.cons (.fr (.nm 3 "place" ⟨40, 8, 40, 13⟩) (.rng2 (.op .Add (.var 1 "at" ⟨40, 23, 40, 25⟩) (.con (.int 1) 0 ⟨40, 28, 40, 29⟩) ⟨40, 23, 40, 29⟩) (.bi .len (.cons (.var 0 "rows" ⟨40, 35, 40, 39⟩) .nil) ⟨40, 31, 40, 34⟩ ⟨40, 31, 40, 40⟩) ⟨40, 17, 40, 22⟩ ⟨40, 17, 40, 41⟩) (.cons (.iff (.cmp .GtE (.ix (.ix (.var 0 "rows" ⟨41, 11, 41, 15⟩) (.var 3 "place" ⟨41, 16, 41, 21⟩) ⟨41, 11, 41, 22⟩) (.con (.int 1) 0 ⟨41, 23, 41, 24⟩) ⟨41, 11, 41, 25⟩) (.var 2 "level" ⟨41, 29, 41, 34⟩) ⟨41, 11, 41, 34⟩) (.cons (.ret (.var 3 "place" ⟨42, 19, 42, 24⟩) ⟨42, 12, 42, 24⟩) .nil) .nil ⟨41, 8, 42, 24⟩) .nil) ⟨40, 4, 42, 24⟩) (.cons (.ret (.bi .len (.cons (.var 0 "rows" ⟨43, 15, 43, 19⟩) .nil) ⟨43, 11, 43, 14⟩ ⟨43, 11, 43, 20⟩) ⟨43, 4, 43, 20⟩) .nil))
def b_place_below : Ts := (.cons (.asg (.nm 3 "found" ⟨46, 4, 46, 9⟩) (.lc (.var 4 "at" ⟨46, 13, 46, 15⟩) (.tp (.cons (.nm 4 "at" ⟨46, 20, 46, 22⟩) (.cons (.tp (.cons (.nm 5 "key" ⟨46, 25, 46, 28⟩) (.cons (.nm 6 "height" ⟨46, 30, 46, 36⟩) .nil)) 0 ⟨46, 24, 46, 37⟩) .nil)) 0 ⟨46, 20, 46, 37⟩) (.enm (.var 0 "rows" ⟨46, 51, 46, 55⟩) ⟨46, 41, 46, 50⟩ ⟨46, 41, 46, 56⟩) (.some (.bop .And (.cons (.cmp .Lt (.var 5 "key" ⟨46, 60, 46, 63⟩) (.var 1 "finger" ⟨46, 66, 46, 72⟩) ⟨46, 60, 46, 72⟩) (.cons (.cmp .GtE (.var 6 "height" ⟨46, 77, 46, 83⟩) (.var 2 "level" ⟨46, 87, 46, 92⟩) ⟨46, 77, 46, 92⟩) .nil)) ⟨46, 60, 46, 92⟩)) [("at", 4), ("key", 5), ("height", 6)] ⟨.function, [(".0", .local), ("at", .local), ("key", .local), ("height", .local), ("finger", .free), ("level", .free)], false, false, []⟩ ⟨46, 12, 46, 93⟩) ⟨46, 4, 46, 93⟩) (.cons (.ret (.ifx (.cmp .NotEq (.var 3 "found" ⟨47, 24, 47, 29⟩) (.lst .nil ⟨47, 33, 47, 35⟩) ⟨47, 24, 47, 35⟩) (.ix (.var 3 "found" ⟨47, 11, 47, 16⟩) (.neg (.con (.int 1) 0 ⟨47, 18, 47, 19⟩) ⟨47, 17, 47, 19⟩) ⟨47, 11, 47, 20⟩) (.op .Sub (.con (.int 0) 0 ⟨47, 41, 47, 42⟩) (.con (.int 1) 0 ⟨47, 45, 47, 46⟩) ⟨47, 41, 47, 46⟩) ⟨47, 11, 47, 46⟩) ⟨47, 4, 47, 46⟩) .nil))
def b_climbed_right : Ts := (.cons (.asg (.tp (.cons (.nm 4 "found" ⟨49, 4, 49, 9⟩) (.cons (.nm 5 "level" ⟨49, 11, 49, 16⟩) .nil)) 0 ⟨49, 4, 49, 16⟩) (.tup (.cons (.lst .nil ⟨49, 20, 49, 22⟩) (.cons (.con (.int 1) 0 ⟨49, 24, 49, 25⟩) .nil)) 0 ⟨49, 19, 49, 26⟩) ⟨49, 4, 49, 26⟩) (.cons (.whl (.cmp .Lt (.var 5 "level" ⟨50, 10, 50, 15⟩) (.var 1 "high" ⟨50, 18, 50, 22⟩) ⟨50, 10, 50, 22⟩) (.cons (.asg (.nm 6 "place" ⟨51, 8, 51, 13⟩) (.call "place_below" 8 (.cons (.var 0 "rows" ⟨51, 28, 51, 32⟩) (.cons (.var 2 "finger" ⟨51, 34, 51, 40⟩) (.cons (.var 5 "level" ⟨51, 42, 51, 47⟩) .nil))) ⟨51, 16, 51, 27⟩ ⟨51, 16, 51, 48⟩) ⟨51, 8, 51, 48⟩) (.cons (.asg (.nm 7 "following" ⟨52, 8, 52, 17⟩) (.call "next_at" 7 (.cons (.var 0 "rows" ⟨52, 28, 52, 32⟩) (.cons (.var 6 "place" ⟨52, 34, 52, 39⟩) (.cons (.var 5 "level" ⟨52, 41, 52, 46⟩) .nil))) ⟨52, 20, 52, 27⟩ ⟨52, 20, 52, 47⟩) ⟨52, 8, 52, 47⟩) (.cons (.iff (.cmp .Eq (.var 7 "following" ⟨53, 11, 53, 20⟩) (.bi .len (.cons (.var 0 "rows" ⟨53, 28, 53, 32⟩) .nil) ⟨53, 24, 53, 27⟩ ⟨53, 24, 53, 33⟩) ⟨53, 11, 53, 33⟩) (.cons (.ret (.tup (.cons (.op .Add (.var 4 "found" ⟨54, 20, 54, 25⟩) (.lst (.cons (.tup (.cons (.con (.str "edge") 0 ⟨54, 30, 54, 36⟩) (.cons (.var 5 "level" ⟨54, 38, 54, 43⟩) .nil)) 0 ⟨54, 29, 54, 44⟩) .nil) ⟨54, 28, 54, 45⟩) ⟨54, 20, 54, 45⟩) (.cons (.var 5 "level" ⟨54, 47, 54, 52⟩) (.cons (.var 6 "place" ⟨54, 54, 54, 59⟩) .nil))) 0 ⟨54, 19, 54, 60⟩) ⟨54, 12, 54, 60⟩) .nil) .nil ⟨53, 8, 54, 60⟩) (.cons (.iff (.cmp .GtE (.ix (.ix (.var 0 "rows" ⟨55, 11, 55, 15⟩) (.var 7 "following" ⟨55, 16, 55, 25⟩) ⟨55, 11, 55, 26⟩) (.con (.int 0) 0 ⟨55, 27, 55, 28⟩) ⟨55, 11, 55, 29⟩) (.var 3 "key" ⟨55, 33, 55, 36⟩) ⟨55, 11, 55, 36⟩) (.cons (.ret (.tup (.cons (.op .Add (.var 4 "found" ⟨56, 20, 56, 25⟩) (.lst (.cons (.tup (.cons (.con (.str "turn") 0 ⟨56, 30, 56, 36⟩) (.cons (.var 5 "level" ⟨56, 38, 56, 43⟩) (.cons (.ix (.ix (.var 0 "rows" ⟨56, 45, 56, 49⟩) (.var 7 "following" ⟨56, 50, 56, 59⟩) ⟨56, 45, 56, 60⟩) (.con (.int 0) 0 ⟨56, 61, 56, 62⟩) ⟨56, 45, 56, 63⟩) .nil))) 0 ⟨56, 29, 56, 64⟩) .nil) ⟨56, 28, 56, 65⟩) ⟨56, 20, 56, 65⟩) (.cons (.var 5 "level" ⟨56, 67, 56, 72⟩) (.cons (.var 6 "place" ⟨56, 74, 56, 79⟩) .nil))) 0 ⟨56, 19, 56, 80⟩) ⟨56, 12, 56, 80⟩) .nil) .nil ⟨55, 8, 56, 80⟩) (.cons (.ex (.mt (.var 4 "found" ⟨57, 8, 57, 13⟩) .append (.cons (.tup (.cons (.con (.str "up") 0 ⟨57, 22, 57, 26⟩) (.cons (.var 5 "level" ⟨57, 28, 57, 33⟩) (.cons (.ix (.ix (.var 0 "rows" ⟨57, 35, 57, 39⟩) (.var 7 "following" ⟨57, 40, 57, 49⟩) ⟨57, 35, 57, 50⟩) (.con (.int 0) 0 ⟨57, 51, 57, 52⟩) ⟨57, 35, 57, 53⟩) .nil))) 0 ⟨57, 21, 57, 54⟩) .nil) ⟨57, 8, 57, 20⟩ ⟨57, 8, 57, 55⟩) ⟨57, 8, 57, 55⟩) (.cons (.aug 5 "level" .Add (.con (.int 1) 0 ⟨58, 17, 58, 18⟩) ⟨58, 8, 58, 13⟩ ⟨58, 8, 58, 18⟩) .nil)))))) ⟨50, 4, 58, 18⟩) (.cons (.ret (.tup (.cons (.var 4 "found" ⟨59, 12, 59, 17⟩) (.cons (.var 5 "level" ⟨59, 19, 59, 24⟩) (.cons (.call "place_below" 8 (.cons (.var 0 "rows" ⟨59, 38, 59, 42⟩) (.cons (.var 2 "finger" ⟨59, 44, 59, 50⟩) (.cons (.var 5 "level" ⟨59, 52, 59, 57⟩) .nil))) ⟨59, 26, 59, 37⟩ ⟨59, 26, 59, 58⟩) .nil))) 0 ⟨59, 11, 59, 59⟩) ⟨59, 4, 59, 59⟩) .nil)))
def b_climbed_left : Ts := (.cons (.asg (.nm 4 "found" ⟨61, 4, 61, 9⟩) (.lst .nil ⟨61, 12, 61, 14⟩) ⟨61, 4, 61, 14⟩) (.cons (.fr (.nm 5 "level" ⟨62, 8, 62, 13⟩) (.rng2 (.con (.int 1) 0 ⟨62, 23, 62, 24⟩) (.op .Add (.var 1 "high" ⟨62, 26, 62, 30⟩) (.con (.int 1) 0 ⟨62, 33, 62, 34⟩) ⟨62, 26, 62, 34⟩) ⟨62, 17, 62, 22⟩ ⟨62, 17, 62, 35⟩) (.cons (.asg (.nm 6 "place" ⟨63, 8, 63, 13⟩) (.call "place_below" 8 (.cons (.var 0 "rows" ⟨63, 28, 63, 32⟩) (.cons (.var 2 "finger" ⟨63, 34, 63, 40⟩) (.cons (.var 5 "level" ⟨63, 42, 63, 47⟩) .nil))) ⟨63, 16, 63, 27⟩ ⟨63, 16, 63, 48⟩) ⟨63, 8, 63, 48⟩) (.cons (.iff (.cmp .Lt (.var 6 "place" ⟨64, 11, 64, 16⟩) (.con (.int 0) 0 ⟨64, 19, 64, 20⟩) ⟨64, 11, 64, 20⟩) (.cons (.ret (.tup (.cons (.op .Add (.var 4 "found" ⟨65, 20, 65, 25⟩) (.lst (.cons (.tup (.cons (.con (.str "edge") 0 ⟨65, 30, 65, 36⟩) (.cons (.var 5 "level" ⟨65, 38, 65, 43⟩) .nil)) 0 ⟨65, 29, 65, 44⟩) .nil) ⟨65, 28, 65, 45⟩) ⟨65, 20, 65, 45⟩) (.cons (.var 5 "level" ⟨65, 47, 65, 52⟩) (.cons (.var 6 "place" ⟨65, 54, 65, 59⟩) .nil))) 0 ⟨65, 19, 65, 60⟩) ⟨65, 12, 65, 60⟩) .nil) .nil ⟨64, 8, 65, 60⟩) (.cons (.iff (.cmp .Lt (.ix (.ix (.var 0 "rows" ⟨66, 11, 66, 15⟩) (.var 6 "place" ⟨66, 16, 66, 21⟩) ⟨66, 11, 66, 22⟩) (.con (.int 0) 0 ⟨66, 23, 66, 24⟩) ⟨66, 11, 66, 25⟩) (.var 3 "key" ⟨66, 28, 66, 31⟩) ⟨66, 11, 66, 31⟩) (.cons (.ret (.tup (.cons (.op .Add (.var 4 "found" ⟨67, 20, 67, 25⟩) (.lst (.cons (.tup (.cons (.con (.str "turn") 0 ⟨67, 30, 67, 36⟩) (.cons (.var 5 "level" ⟨67, 38, 67, 43⟩) (.cons (.ix (.ix (.var 0 "rows" ⟨67, 45, 67, 49⟩) (.var 6 "place" ⟨67, 50, 67, 55⟩) ⟨67, 45, 67, 56⟩) (.con (.int 0) 0 ⟨67, 57, 67, 58⟩) ⟨67, 45, 67, 59⟩) .nil))) 0 ⟨67, 29, 67, 60⟩) .nil) ⟨67, 28, 67, 61⟩) ⟨67, 20, 67, 61⟩) (.cons (.var 5 "level" ⟨67, 63, 67, 68⟩) (.cons (.var 6 "place" ⟨67, 70, 67, 75⟩) .nil))) 0 ⟨67, 19, 67, 76⟩) ⟨67, 12, 67, 76⟩) .nil) .nil ⟨66, 8, 67, 76⟩) (.cons (.ex (.mt (.var 4 "found" ⟨68, 8, 68, 13⟩) .append (.cons (.tup (.cons (.con (.str "up") 0 ⟨68, 22, 68, 26⟩) (.cons (.var 5 "level" ⟨68, 28, 68, 33⟩) (.cons (.ix (.ix (.var 0 "rows" ⟨68, 35, 68, 39⟩) (.var 6 "place" ⟨68, 40, 68, 45⟩) ⟨68, 35, 68, 46⟩) (.con (.int 0) 0 ⟨68, 47, 68, 48⟩) ⟨68, 35, 68, 49⟩) .nil))) 0 ⟨68, 21, 68, 50⟩) .nil) ⟨68, 8, 68, 20⟩ ⟨68, 8, 68, 51⟩) ⟨68, 8, 68, 51⟩) .nil)))) ⟨62, 4, 68, 51⟩) (.cons (.ret (.tup (.cons (.var 4 "found" ⟨69, 12, 69, 17⟩) (.cons (.var 1 "high" ⟨69, 19, 69, 23⟩) (.cons (.op .Sub (.con (.int 0) 0 ⟨69, 25, 69, 26⟩) (.con (.int 1) 0 ⟨69, 29, 69, 30⟩) ⟨69, 25, 69, 30⟩) .nil))) 0 ⟨69, 11, 69, 31⟩) ⟨69, 4, 69, 31⟩) .nil)))
def b_searched : Ts := (.cons (.asg (.nm 4 "found" ⟨71, 4, 71, 9⟩) (.lst .nil ⟨71, 12, 71, 14⟩) ⟨71, 4, 71, 14⟩) (.cons (.whl (.cmp .Gt (.var 1 "level" ⟨72, 10, 72, 15⟩) (.con (.int 0) 0 ⟨72, 18, 72, 19⟩) ⟨72, 10, 72, 19⟩) (.cons (.asg (.nm 5 "place" ⟨73, 8, 73, 13⟩) (.call "next_at" 7 (.cons (.var 0 "rows" ⟨73, 24, 73, 28⟩) (.cons (.var 2 "at" ⟨73, 30, 73, 32⟩) (.cons (.var 1 "level" ⟨73, 34, 73, 39⟩) .nil))) ⟨73, 16, 73, 23⟩ ⟨73, 16, 73, 40⟩) ⟨73, 8, 73, 40⟩) (.cons (.iff (.bop .And (.cons (.cmp .Lt (.var 5 "place" ⟨74, 11, 74, 16⟩) (.bi .len (.cons (.var 0 "rows" ⟨74, 23, 74, 27⟩) .nil) ⟨74, 19, 74, 22⟩ ⟨74, 19, 74, 28⟩) ⟨74, 11, 74, 28⟩) (.cons (.cmp .Lt (.ix (.ix (.var 0 "rows" ⟨74, 33, 74, 37⟩) (.var 5 "place" ⟨74, 38, 74, 43⟩) ⟨74, 33, 74, 44⟩) (.con (.int 0) 0 ⟨74, 45, 74, 46⟩) ⟨74, 33, 74, 47⟩) (.var 3 "key" ⟨74, 50, 74, 53⟩) ⟨74, 33, 74, 53⟩) .nil)) ⟨74, 11, 74, 53⟩) (.cons (.ex (.mt (.var 4 "found" ⟨75, 12, 75, 17⟩) .append (.cons (.tup (.cons (.con (.str "right") 0 ⟨75, 26, 75, 33⟩) (.cons (.var 1 "level" ⟨75, 35, 75, 40⟩) (.cons (.ix (.ix (.var 0 "rows" ⟨75, 42, 75, 46⟩) (.var 5 "place" ⟨75, 47, 75, 52⟩) ⟨75, 42, 75, 53⟩) (.con (.int 0) 0 ⟨75, 54, 75, 55⟩) ⟨75, 42, 75, 56⟩) .nil))) 0 ⟨75, 25, 75, 57⟩) .nil) ⟨75, 12, 75, 24⟩ ⟨75, 12, 75, 58⟩) ⟨75, 12, 75, 58⟩) (.cons (.asg (.nm 2 "at" ⟨76, 12, 76, 14⟩) (.var 5 "place" ⟨76, 17, 76, 22⟩) ⟨76, 12, 76, 22⟩) (.cons (.cnt ⟨77, 12, 77, 20⟩) .nil))) .nil ⟨74, 8, 77, 20⟩) (.cons (.ex (.mt (.var 4 "found" ⟨78, 8, 78, 13⟩) .append (.cons (.ifx (.cmp .Lt (.var 5 "place" ⟨78, 56, 78, 61⟩) (.bi .len (.cons (.var 0 "rows" ⟨78, 68, 78, 72⟩) .nil) ⟨78, 64, 78, 67⟩ ⟨78, 64, 78, 73⟩) ⟨78, 56, 78, 73⟩) (.tup (.cons (.con (.str "stop") 0 ⟨78, 22, 78, 28⟩) (.cons (.var 1 "level" ⟨78, 30, 78, 35⟩) (.cons (.ix (.ix (.var 0 "rows" ⟨78, 37, 78, 41⟩) (.var 5 "place" ⟨78, 42, 78, 47⟩) ⟨78, 37, 78, 48⟩) (.con (.int 0) 0 ⟨78, 49, 78, 50⟩) ⟨78, 37, 78, 51⟩) .nil))) 0 ⟨78, 21, 78, 52⟩) (.tup (.cons (.con (.str "end") 0 ⟨78, 80, 78, 85⟩) (.cons (.var 1 "level" ⟨78, 87, 78, 92⟩) .nil)) 0 ⟨78, 79, 78, 93⟩) ⟨78, 21, 78, 93⟩) .nil) ⟨78, 8, 78, 20⟩ ⟨78, 8, 78, 94⟩) ⟨78, 8, 78, 94⟩) (.cons (.aug 1 "level" .Sub (.con (.int 1) 0 ⟨79, 17, 79, 18⟩) ⟨79, 8, 79, 13⟩ ⟨79, 8, 79, 18⟩) .nil)))) ⟨72, 4, 79, 18⟩) (.cons (.iff (.cmp .Lt (.op .Add (.var 2 "at" ⟨80, 7, 80, 9⟩) (.con (.int 1) 0 ⟨80, 12, 80, 13⟩) ⟨80, 7, 80, 13⟩) (.bi .len (.cons (.var 0 "rows" ⟨80, 20, 80, 24⟩) .nil) ⟨80, 16, 80, 19⟩ ⟨80, 16, 80, 25⟩) ⟨80, 7, 80, 25⟩) (.cons (.ex (.mt (.var 4 "found" ⟨81, 8, 81, 13⟩) .append (.cons (.tup (.cons (.con (.str "look") 0 ⟨81, 22, 81, 28⟩) (.cons (.ix (.ix (.var 0 "rows" ⟨81, 30, 81, 34⟩) (.op .Add (.var 2 "at" ⟨81, 35, 81, 37⟩) (.con (.int 1) 0 ⟨81, 40, 81, 41⟩) ⟨81, 35, 81, 41⟩) ⟨81, 30, 81, 42⟩) (.con (.int 0) 0 ⟨81, 43, 81, 44⟩) ⟨81, 30, 81, 45⟩) .nil)) 0 ⟨81, 21, 81, 46⟩) .nil) ⟨81, 8, 81, 20⟩ ⟨81, 8, 81, 47⟩) ⟨81, 8, 81, 47⟩) .nil) .nil ⟨80, 4, 81, 47⟩) (.cons (.ret (.var 4 "found" ⟨82, 11, 82, 16⟩) ⟨82, 4, 82, 16⟩) .nil))))
def b_steps_between : Ts := (.cons (.asg (.nm 3 "high" ⟨84, 4, 84, 8⟩) (.call "highest" 6 (.cons (.var 0 "rows" ⟨84, 19, 84, 23⟩) .nil) ⟨84, 11, 84, 18⟩ ⟨84, 11, 84, 24⟩) ⟨84, 4, 84, 24⟩) (.cons (.iff (.cmp .Eq (.var 3 "high" ⟨85, 7, 85, 11⟩) (.con (.int 0) 0 ⟨85, 15, 85, 16⟩) ⟨85, 7, 85, 16⟩) (.cons (.ret (.tup (.cons (.lst .nil ⟨86, 16, 86, 18⟩) (.cons (.con (.int 0) 0 ⟨86, 20, 86, 21⟩) .nil)) 0 ⟨86, 15, 86, 22⟩) ⟨86, 8, 86, 22⟩) .nil) .nil ⟨85, 4, 86, 22⟩) (.cons (.iff (.cmp .Gt (.var 2 "key" ⟨87, 7, 87, 10⟩) (.var 1 "finger" ⟨87, 13, 87, 19⟩) ⟨87, 7, 87, 19⟩) (.cons (.asg (.tp (.cons (.nm 4 "found" ⟨88, 8, 88, 13⟩) (.cons (.nm 5 "level" ⟨88, 15, 88, 20⟩) (.cons (.nm 6 "place" ⟨88, 22, 88, 27⟩) .nil))) 0 ⟨88, 8, 88, 27⟩) (.call "climbed_right" 9 (.cons (.var 0 "rows" ⟨88, 44, 88, 48⟩) (.cons (.var 3 "high" ⟨88, 50, 88, 54⟩) (.cons (.var 1 "finger" ⟨88, 56, 88, 62⟩) (.cons (.var 2 "key" ⟨88, 64, 88, 67⟩) .nil)))) ⟨88, 30, 88, 43⟩ ⟨88, 30, 88, 68⟩) ⟨88, 8, 88, 68⟩) .nil) (.cons (.asg (.tp (.cons (.nm 4 "found" ⟨90, 8, 90, 13⟩) (.cons (.nm 5 "level" ⟨90, 15, 90, 20⟩) (.cons (.nm 6 "place" ⟨90, 22, 90, 27⟩) .nil))) 0 ⟨90, 8, 90, 27⟩) (.call "climbed_left" 10 (.cons (.var 0 "rows" ⟨90, 43, 90, 47⟩) (.cons (.var 3 "high" ⟨90, 49, 90, 53⟩) (.cons (.var 1 "finger" ⟨90, 55, 90, 61⟩) (.cons (.var 2 "key" ⟨90, 63, 90, 66⟩) .nil)))) ⟨90, 30, 90, 42⟩ ⟨90, 30, 90, 67⟩) ⟨90, 8, 90, 67⟩) .nil) ⟨87, 4, 90, 67⟩) (.cons (.ret (.tup (.cons (.op .Add (.var 4 "found" ⟨91, 12, 91, 17⟩) (.call "searched" 11 (.cons (.var 0 "rows" ⟨91, 29, 91, 33⟩) (.cons (.var 5 "level" ⟨91, 35, 91, 40⟩) (.cons (.var 6 "place" ⟨91, 42, 91, 47⟩) (.cons (.var 2 "key" ⟨91, 49, 91, 52⟩) .nil)))) ⟨91, 20, 91, 28⟩ ⟨91, 20, 91, 53⟩) ⟨91, 12, 91, 53⟩) (.cons (.var 5 "level" ⟨91, 55, 91, 60⟩) .nil)) 0 ⟨91, 11, 91, 61⟩) ⟨91, 4, 91, 61⟩) .nil))))
def b_cost_between : Ts := (.cons (.asg (.tp (.cons (.nm 3 "found" ⟨93, 4, 93, 9⟩) (.cons (.nm 4 "level" ⟨93, 11, 93, 16⟩) .nil)) 0 ⟨93, 4, 93, 16⟩) (.call "steps_between" 12 (.cons (.var 0 "rows" ⟨93, 33, 93, 37⟩) (.cons (.var 1 "finger" ⟨93, 39, 93, 45⟩) (.cons (.var 2 "key" ⟨93, 47, 93, 50⟩) .nil))) ⟨93, 19, 93, 32⟩ ⟨93, 19, 93, 51⟩) ⟨93, 4, 93, 51⟩) (.cons (.asg (.nm 5 "words" ⟨94, 4, 94, 9⟩) (.lc (.ix (.var 7 "step" ⟨94, 13, 94, 17⟩) (.con (.int 0) 0 ⟨94, 18, 94, 19⟩) ⟨94, 13, 94, 20⟩) (.nm 7 "step" ⟨94, 25, 94, 29⟩) (.ex (.var 3 "found" ⟨94, 33, 94, 38⟩)) .none [("step", 7)] ⟨.function, [(".0", .local), ("step", .local)], false, false, []⟩ ⟨94, 12, 94, 39⟩) ⟨94, 4, 94, 39⟩) (.cons (.asg (.nm 6 "compares" ⟨95, 4, 95, 12⟩) (.bi .len (.cons (.lc (.var 8 "word" ⟨95, 20, 95, 24⟩) (.nm 8 "word" ⟨95, 29, 95, 33⟩) (.ex (.var 5 "words" ⟨95, 37, 95, 42⟩)) (.some (.cmp .NotIn (.var 8 "word" ⟨95, 46, 95, 50⟩) (.tup (.cons (.con (.str "end") 0 ⟨95, 59, 95, 64⟩) (.cons (.con (.str "edge") 0 ⟨95, 66, 95, 72⟩) .nil)) 0 ⟨95, 58, 95, 73⟩) ⟨95, 46, 95, 73⟩)) [("word", 8)] ⟨.function, [(".0", .local), ("word", .local)], false, false, []⟩ ⟨95, 19, 95, 74⟩) .nil) ⟨95, 15, 95, 18⟩ ⟨95, 15, 95, 75⟩) ⟨95, 4, 95, 75⟩) (.cons (.ret (.tup (.cons (.mt (.var 5 "words" ⟨96, 12, 96, 17⟩) .count (.cons (.con (.str "up") 0 ⟨96, 24, 96, 28⟩) .nil) ⟨96, 12, 96, 23⟩ ⟨96, 12, 96, 29⟩) (.cons (.mt (.var 5 "words" ⟨96, 31, 96, 36⟩) .count (.cons (.con (.str "right") 0 ⟨96, 43, 96, 50⟩) .nil) ⟨96, 31, 96, 42⟩ ⟨96, 31, 96, 51⟩) (.cons (.bi .max (.cons (.con (.int 0) 0 ⟨96, 57, 96, 58⟩) (.cons (.op .Sub (.var 4 "level" ⟨96, 60, 96, 65⟩) (.con (.int 1) 0 ⟨96, 68, 96, 69⟩) ⟨96, 60, 96, 69⟩) .nil)) ⟨96, 53, 96, 56⟩ ⟨96, 53, 96, 70⟩) (.cons (.var 6 "compares" ⟨96, 72, 96, 80⟩) .nil)))) 0 ⟨96, 11, 96, 81⟩) ⟨96, 4, 96, 81⟩) .nil))))
def b_finger_steps : Ts := (.cons (.asg (.nm 3 "rows" ⟨98, 4, 98, 8⟩) (.call "checked" 4 (.cons (.var 0 "towers" ⟨98, 19, 98, 25⟩) .nil) ⟨98, 11, 98, 18⟩ ⟨98, 11, 98, 26⟩) ⟨98, 4, 98, 26⟩) (.cons (.ex (.call "look_key" 5 (.cons (.var 1 "finger" ⟨99, 13, 99, 19⟩) .nil) ⟨99, 4, 99, 12⟩ ⟨99, 4, 99, 20⟩) ⟨99, 4, 99, 20⟩) (.cons (.ex (.call "look_key" 5 (.cons (.var 2 "key" ⟨100, 13, 100, 16⟩) .nil) ⟨100, 4, 100, 12⟩ ⟨100, 4, 100, 17⟩) ⟨100, 4, 100, 17⟩) (.cons (.ret (.ix (.call "steps_between" 12 (.cons (.var 3 "rows" ⟨101, 25, 101, 29⟩) (.cons (.var 1 "finger" ⟨101, 31, 101, 37⟩) (.cons (.var 2 "key" ⟨101, 39, 101, 42⟩) .nil))) ⟨101, 11, 101, 24⟩ ⟨101, 11, 101, 43⟩) (.con (.int 0) 0 ⟨101, 44, 101, 45⟩) ⟨101, 11, 101, 46⟩) ⟨101, 4, 101, 46⟩) .nil))))
def b_finger_cost : Ts := (.cons (.asg (.nm 3 "rows" ⟨103, 4, 103, 8⟩) (.call "checked" 4 (.cons (.var 0 "towers" ⟨103, 19, 103, 25⟩) .nil) ⟨103, 11, 103, 18⟩ ⟨103, 11, 103, 26⟩) ⟨103, 4, 103, 26⟩) (.cons (.ex (.call "look_key" 5 (.cons (.var 1 "finger" ⟨104, 13, 104, 19⟩) .nil) ⟨104, 4, 104, 12⟩ ⟨104, 4, 104, 20⟩) ⟨104, 4, 104, 20⟩) (.cons (.ex (.call "look_key" 5 (.cons (.var 2 "key" ⟨105, 13, 105, 16⟩) .nil) ⟨105, 4, 105, 12⟩ ⟨105, 4, 105, 17⟩) ⟨105, 4, 105, 17⟩) (.cons (.ret (.call "cost_between" 13 (.cons (.var 3 "rows" ⟨106, 24, 106, 28⟩) (.cons (.var 1 "finger" ⟨106, 30, 106, 36⟩) (.cons (.var 2 "key" ⟨106, 38, 106, 41⟩) .nil))) ⟨106, 11, 106, 23⟩ ⟨106, 11, 106, 42⟩) ⟨106, 4, 106, 42⟩) .nil))))
def b__law_cell_at : Ts := (.cons (.ret (.ifx (.cmp .Lt (.var 1 "_law_k" ⟨109, 34, 109, 40⟩) (.bi .len (.cons (.var 0 "_law_script" ⟨109, 47, 109, 58⟩) .nil) ⟨109, 43, 109, 46⟩ ⟨109, 43, 109, 59⟩) ⟨109, 34, 109, 59⟩) (.ix (.var 0 "_law_script" ⟨109, 11, 109, 22⟩) (.var 1 "_law_k" ⟨109, 23, 109, 29⟩) ⟨109, 11, 109, 30⟩) (.con (.int 0) 0 ⟨109, 65, 109, 66⟩) ⟨109, 11, 109, 66⟩) ⟨109, 4, 109, 66⟩) .nil)
def b__law_well : Ts := (.cons (.ret (.lst (.cons (.op .Mult (.var 0 "_law_cell" ⟨111, 12, 111, 21⟩) (.bi .int (.cons (.cmp .GtE (.var 0 "_law_cell" ⟨111, 28, 111, 37⟩) (.op .Pow (.con (.int 10) 0 ⟨111, 41, 111, 43⟩) (.con (.int 18) 0 ⟨111, 47, 111, 49⟩) ⟨111, 41, 111, 49⟩) ⟨111, 28, 111, 49⟩) .nil) ⟨111, 24, 111, 27⟩ ⟨111, 24, 111, 50⟩) ⟨111, 12, 111, 50⟩) (.cons (.op .Mod (.bi .int (.cons (.var 0 "_law_cell" ⟨111, 56, 111, 65⟩) .nil) ⟨111, 52, 111, 55⟩ ⟨111, 52, 111, 66⟩) (.con (.int 2147483629) 0 ⟨111, 69, 111, 79⟩) ⟨111, 52, 111, 79⟩) (.cons (.con (.int 0) 0 ⟨111, 81, 111, 82⟩) .nil))) ⟨111, 11, 111, 83⟩) ⟨111, 4, 111, 83⟩) .nil)
def b__law_draw : Ts := (.cons (.iff (.cmp .Gt (.ix (.var 0 "_law_well_here" ⟨113, 7, 113, 21⟩) (.con (.int 0) 0 ⟨113, 22, 113, 23⟩) ⟨113, 7, 113, 24⟩) (.con (.int 0) 0 ⟨113, 27, 113, 28⟩) ⟨113, 7, 113, 28⟩) (.cons (.asg (.nm 2 "_law_digit" ⟨114, 8, 114, 18⟩) (.op .Mod (.bi .int (.cons (.ix (.var 0 "_law_well_here" ⟨114, 25, 114, 39⟩) (.con (.int 0) 0 ⟨114, 40, 114, 41⟩) ⟨114, 25, 114, 42⟩) .nil) ⟨114, 21, 114, 24⟩ ⟨114, 21, 114, 43⟩) (.var 1 "_law_bound" ⟨114, 46, 114, 56⟩) ⟨114, 21, 114, 56⟩) ⟨114, 8, 114, 56⟩) (.cons (.asg (.sb (.var 0 "_law_well_here" ⟨115, 8, 115, 22⟩) (.con (.int 0) 0 ⟨115, 23, 115, 24⟩) ⟨115, 8, 115, 25⟩) (.op .FloorDiv (.ix (.var 0 "_law_well_here" ⟨115, 28, 115, 42⟩) (.con (.int 0) 0 ⟨115, 43, 115, 44⟩) ⟨115, 28, 115, 45⟩) (.var 1 "_law_bound" ⟨115, 49, 115, 59⟩) ⟨115, 28, 115, 59⟩) ⟨115, 8, 115, 59⟩) (.cons (.ret (.var 2 "_law_digit" ⟨116, 15, 116, 25⟩) ⟨116, 8, 116, 25⟩) .nil))) .nil ⟨113, 4, 116, 25⟩) (.cons (.asg (.sb (.var 0 "_law_well_here" ⟨117, 4, 117, 18⟩) (.con (.int 2) 0 ⟨117, 19, 117, 20⟩) ⟨117, 4, 117, 21⟩) (.op .Add (.ix (.var 0 "_law_well_here" ⟨117, 24, 117, 38⟩) (.con (.int 2) 0 ⟨117, 39, 117, 40⟩) ⟨117, 24, 117, 41⟩) (.con (.int 1) 0 ⟨117, 44, 117, 45⟩) ⟨117, 24, 117, 45⟩) ⟨117, 4, 117, 45⟩) (.cons (.asg (.nm 3 "_law_stirred" ⟨118, 4, 118, 16⟩) (.op .Mod (.bi .int (.cons (.op .Mult (.op .Add (.op .Add (.ix (.var 0 "_law_well_here" ⟨118, 24, 118, 38⟩) (.con (.int 1) 0 ⟨118, 39, 118, 40⟩) ⟨118, 24, 118, 41⟩) (.op .Mult (.con (.int 9973) 0 ⟨118, 44, 118, 48⟩) (.ix (.var 0 "_law_well_here" ⟨118, 51, 118, 65⟩) (.con (.int 2) 0 ⟨118, 66, 118, 67⟩) ⟨118, 51, 118, 68⟩) ⟨118, 44, 118, 68⟩) ⟨118, 24, 118, 68⟩) (.con (.int 17) 0 ⟨118, 71, 118, 73⟩) ⟨118, 24, 118, 73⟩) (.con (.int 48271) 0 ⟨118, 77, 118, 82⟩) ⟨118, 23, 118, 82⟩) .nil) ⟨118, 19, 118, 22⟩ ⟨118, 19, 118, 83⟩) (.con (.int 2147483647) 0 ⟨118, 86, 118, 96⟩) ⟨118, 19, 118, 96⟩) ⟨118, 4, 118, 96⟩) (.cons (.asg (.nm 3 "_law_stirred" ⟨119, 4, 119, 16⟩) (.op .Mod (.bi .int (.cons (.op .Mult (.var 3 "_law_stirred" ⟨119, 23, 119, 35⟩) (.op .Add (.op .Add (.op .FloorDiv (.var 3 "_law_stirred" ⟨119, 39, 119, 51⟩) (.con (.int 1021) 0 ⟨119, 55, 119, 59⟩) ⟨119, 39, 119, 59⟩) (.con (.int 69621) 0 ⟨119, 62, 119, 67⟩) ⟨119, 39, 119, 67⟩) (.ix (.var 0 "_law_well_here" ⟨119, 70, 119, 84⟩) (.con (.int 2) 0 ⟨119, 85, 119, 86⟩) ⟨119, 70, 119, 87⟩) ⟨119, 39, 119, 87⟩) ⟨119, 23, 119, 88⟩) .nil) ⟨119, 19, 119, 22⟩ ⟨119, 19, 119, 89⟩) (.con (.int 2147483587) 0 ⟨119, 92, 119, 102⟩) ⟨119, 19, 119, 102⟩) ⟨119, 4, 119, 102⟩) (.cons (.ret (.op .Mod (.bi .int (.cons (.op .FloorDiv (.op .Mod (.bi .int (.cons (.op .Mult (.var 3 "_law_stirred" ⟨120, 19, 120, 31⟩) (.op .Add (.op .FloorDiv (.var 3 "_law_stirred" ⟨120, 35, 120, 47⟩) (.con (.int 2011) 0 ⟨120, 51, 120, 55⟩) ⟨120, 35, 120, 55⟩) (.con (.int 40692) 0 ⟨120, 58, 120, 63⟩) ⟨120, 35, 120, 63⟩) ⟨120, 19, 120, 64⟩) .nil) ⟨120, 15, 120, 18⟩ ⟨120, 15, 120, 65⟩) (.con (.int 2147483399) 0 ⟨120, 68, 120, 78⟩) ⟨120, 15, 120, 78⟩) (.con (.int 7) 0 ⟨120, 82, 120, 83⟩) ⟨120, 15, 120, 83⟩) .nil) ⟨120, 11, 120, 14⟩ ⟨120, 11, 120, 84⟩) (.var 1 "_law_bound" ⟨120, 87, 120, 97⟩) ⟨120, 11, 120, 97⟩) ⟨120, 4, 120, 97⟩) .nil)))))
def b__law_one : Ts := (.cons (.ret (.ix (.var 1 "_law_some" ⟨122, 11, 122, 20⟩) (.call "_law_draw" 18 (.cons (.var 0 "_law_well_here" ⟨122, 31, 122, 45⟩) (.cons (.bi .len (.cons (.var 1 "_law_some" ⟨122, 51, 122, 60⟩) .nil) ⟨122, 47, 122, 50⟩ ⟨122, 47, 122, 61⟩) .nil)) ⟨122, 21, 122, 30⟩ ⟨122, 21, 122, 62⟩) ⟨122, 11, 122, 63⟩) ⟨122, 4, 122, 63⟩) .nil)
def b__law_height : Ts := (.cons (.iff (.cmp .Eq (.var 1 "_law_way_so" ⟨124, 7, 124, 18⟩) (.con (.int 0) 0 ⟨124, 22, 124, 23⟩) ⟨124, 7, 124, 23⟩) (.cons (.ret (.op .Add (.con (.int 1) 0 ⟨125, 15, 125, 16⟩) (.call "_law_draw" 18 (.cons (.var 0 "_law_well_here" ⟨125, 29, 125, 43⟩) (.cons (.con (.int 3) 0 ⟨125, 45, 125, 46⟩) .nil)) ⟨125, 19, 125, 28⟩ ⟨125, 19, 125, 47⟩) ⟨125, 15, 125, 47⟩) ⟨125, 8, 125, 47⟩) .nil) .nil ⟨124, 4, 125, 47⟩) (.cons (.iff (.cmp .Eq (.var 1 "_law_way_so" ⟨126, 7, 126, 18⟩) (.con (.int 1) 0 ⟨126, 22, 126, 23⟩) ⟨126, 7, 126, 23⟩) (.cons (.ret (.call "_law_one" 19 (.cons (.var 0 "_law_well_here" ⟨127, 24, 127, 38⟩) (.cons (.lst (.cons (.con (.int 1) 0 ⟨127, 41, 127, 42⟩) (.cons (.con (.int 1) 0 ⟨127, 44, 127, 45⟩) (.cons (.con (.int 1) 0 ⟨127, 47, 127, 48⟩) (.cons (.con (.int 2) 0 ⟨127, 50, 127, 51⟩) (.cons (.con (.int 2) 0 ⟨127, 53, 127, 54⟩) (.cons (.con (.int 3) 0 ⟨127, 56, 127, 57⟩) (.cons (.con (.int 4) 0 ⟨127, 59, 127, 60⟩) (.cons (.con (.int 9) 0 ⟨127, 62, 127, 63⟩) .nil)))))))) ⟨127, 40, 127, 64⟩) .nil)) ⟨127, 15, 127, 23⟩ ⟨127, 15, 127, 65⟩) ⟨127, 8, 127, 65⟩) .nil) .nil ⟨126, 4, 127, 65⟩) (.cons (.asg (.nm 2 "_law_found" ⟨128, 4, 128, 14⟩) (.con (.int 1) 0 ⟨128, 17, 128, 18⟩) ⟨128, 4, 128, 18⟩) (.cons (.fr (.nm 3 "_law_turn" ⟨129, 8, 129, 17⟩) (.rng1 (.con (.int 6) 0 ⟨129, 27, 129, 28⟩) ⟨129, 21, 129, 26⟩ ⟨129, 21, 129, 29⟩) (.cons (.asg (.nm 2 "_law_found" ⟨130, 8, 130, 18⟩) (.op .Add (.var 2 "_law_found" ⟨130, 21, 130, 31⟩) (.bi .int (.cons (.bop .And (.cons (.cmp .Eq (.var 2 "_law_found" ⟨130, 38, 130, 48⟩) (.op .Add (.var 3 "_law_turn" ⟨130, 52, 130, 61⟩) (.con (.int 1) 0 ⟨130, 64, 130, 65⟩) ⟨130, 52, 130, 65⟩) ⟨130, 38, 130, 65⟩) (.cons (.cmp .Eq (.call "_law_draw" 18 (.cons (.var 0 "_law_well_here" ⟨130, 80, 130, 94⟩) (.cons (.con (.int 2) 0 ⟨130, 96, 130, 97⟩) .nil)) ⟨130, 70, 130, 79⟩ ⟨130, 70, 130, 98⟩) (.con (.int 1) 0 ⟨130, 102, 130, 103⟩) ⟨130, 70, 130, 103⟩) .nil)) ⟨130, 38, 130, 103⟩) .nil) ⟨130, 34, 130, 37⟩ ⟨130, 34, 130, 104⟩) ⟨130, 21, 130, 104⟩) ⟨130, 8, 130, 104⟩) .nil) ⟨129, 4, 130, 104⟩) (.cons (.ret (.var 2 "_law_found" ⟨131, 11, 131, 21⟩) ⟨131, 4, 131, 21⟩) .nil)))))
def b__law_towers : Ts := (.cons (.asg (.tp (.cons (.nm 2 "_law_key_here" ⟨133, 4, 133, 17⟩) (.cons (.nm 3 "_law_way_so" ⟨133, 19, 133, 30⟩) (.cons (.nm 4 "_law_found" ⟨133, 32, 133, 42⟩) .nil))) 0 ⟨133, 4, 133, 42⟩) (.tup (.cons (.op .Sub (.call "_law_draw" 18 (.cons (.var 0 "_law_well_here" ⟨133, 56, 133, 70⟩) (.cons (.con (.int 20) 0 ⟨133, 72, 133, 74⟩) .nil)) ⟨133, 46, 133, 55⟩ ⟨133, 46, 133, 75⟩) (.con (.int 10) 0 ⟨133, 78, 133, 80⟩) ⟨133, 46, 133, 80⟩) (.cons (.call "_law_draw" 18 (.cons (.var 0 "_law_well_here" ⟨133, 92, 133, 106⟩) (.cons (.con (.int 3) 0 ⟨133, 108, 133, 109⟩) .nil)) ⟨133, 82, 133, 91⟩ ⟨133, 82, 133, 110⟩) (.cons (.lst .nil ⟨133, 112, 133, 114⟩) .nil))) 0 ⟨133, 45, 133, 115⟩) ⟨133, 4, 133, 115⟩) (.cons (.fr (.nm 5 "_law_turn" ⟨134, 8, 134, 17⟩) (.rng1 (.call "_law_draw" 18 (.cons (.var 0 "_law_well_here" ⟨134, 37, 134, 51⟩) (.cons (.op .Add (.var 1 "_law_many_so" ⟨134, 53, 134, 65⟩) (.con (.int 1) 0 ⟨134, 68, 134, 69⟩) ⟨134, 53, 134, 69⟩) .nil)) ⟨134, 27, 134, 36⟩ ⟨134, 27, 134, 70⟩) ⟨134, 21, 134, 26⟩ ⟨134, 21, 134, 71⟩) (.cons (.asg (.nm 2 "_law_key_here" ⟨135, 8, 135, 21⟩) (.op .Add (.op .Add (.var 2 "_law_key_here" ⟨135, 24, 135, 37⟩) (.con (.int 1) 0 ⟨135, 40, 135, 41⟩) ⟨135, 24, 135, 41⟩) (.call "_law_one" 19 (.cons (.var 0 "_law_well_here" ⟨135, 53, 135, 67⟩) (.cons (.lst (.cons (.con (.int 0) 0 ⟨135, 70, 135, 71⟩) (.cons (.con (.int 0) 0 ⟨135, 73, 135, 74⟩) (.cons (.con (.int 1) 0 ⟨135, 76, 135, 77⟩) (.cons (.con (.int 4) 0 ⟨135, 79, 135, 80⟩) .nil)))) ⟨135, 69, 135, 81⟩) .nil)) ⟨135, 44, 135, 52⟩ ⟨135, 44, 135, 82⟩) ⟨135, 24, 135, 82⟩) ⟨135, 8, 135, 82⟩) (.cons (.ex (.mt (.var 4 "_law_found" ⟨136, 8, 136, 18⟩) .append (.cons (.tup (.cons (.var 2 "_law_key_here" ⟨136, 27, 136, 40⟩) (.cons (.call "_law_height" 20 (.cons (.var 0 "_law_well_here" ⟨136, 54, 136, 68⟩) (.cons (.var 3 "_law_way_so" ⟨136, 70, 136, 81⟩) .nil)) ⟨136, 42, 136, 53⟩ ⟨136, 42, 136, 82⟩) .nil)) 0 ⟨136, 26, 136, 83⟩) .nil) ⟨136, 8, 136, 25⟩ ⟨136, 8, 136, 84⟩) ⟨136, 8, 136, 84⟩) .nil)) ⟨134, 4, 136, 84⟩) (.cons (.ret (.bi .tuple (.cons (.var 4 "_law_found" ⟨137, 17, 137, 27⟩) .nil) ⟨137, 11, 137, 16⟩ ⟨137, 11, 137, 28⟩) ⟨137, 4, 137, 28⟩) .nil)))
def b__law_next : Ts := (.cons (.asg (.nm 3 "_law_some" ⟨139, 4, 139, 13⟩) (.lc (.var 4 "_law_one_here" ⟨139, 17, 139, 30⟩) (.tp (.cons (.nm 4 "_law_one_here" ⟨139, 35, 139, 48⟩) (.cons (.nm 5 "_law_height_here" ⟨139, 50, 139, 66⟩) .nil)) 0 ⟨139, 35, 139, 66⟩) (.ex (.var 0 "_law_towers_here" ⟨139, 70, 139, 86⟩)) (.some (.bop .And (.cons (.cmp .GtE (.var 5 "_law_height_here" ⟨139, 90, 139, 106⟩) (.var 2 "_law_level" ⟨139, 110, 139, 120⟩) ⟨139, 90, 139, 120⟩) (.cons (.bop .Or (.cons (.cmp .Is (.var 1 "_law_key_here" ⟨139, 126, 139, 139⟩) (.con .none 0 ⟨139, 143, 139, 147⟩) ⟨139, 126, 139, 147⟩) (.cons (.cmp .Gt (.var 4 "_law_one_here" ⟨139, 151, 139, 164⟩) (.var 1 "_law_key_here" ⟨139, 167, 139, 180⟩) ⟨139, 151, 139, 180⟩) .nil)) ⟨139, 126, 139, 180⟩) .nil)) ⟨139, 90, 139, 181⟩)) [("_law_one_here", 4), ("_law_height_here", 5)] ⟨.function, [(".0", .local), ("_law_one_here", .local), ("_law_height_here", .local), ("_law_key_here", .free), ("_law_level", .free)], false, false, []⟩ ⟨139, 16, 139, 182⟩) ⟨139, 4, 139, 182⟩) (.cons (.ret (.ifx (.cmp .NotEq (.var 3 "_law_some" ⟨140, 27, 140, 36⟩) (.lst .nil ⟨140, 40, 140, 42⟩) ⟨140, 27, 140, 42⟩) (.ix (.var 3 "_law_some" ⟨140, 11, 140, 20⟩) (.con (.int 0) 0 ⟨140, 21, 140, 22⟩) ⟨140, 11, 140, 23⟩) (.con .none 0 ⟨140, 48, 140, 52⟩) ⟨140, 11, 140, 52⟩) ⟨140, 4, 140, 52⟩) .nil))
def b__law_place : Ts := (.cons (.asg (.nm 3 "_law_some" ⟨142, 4, 142, 13⟩) (.lc (.var 4 "_law_one_here" ⟨142, 17, 142, 30⟩) (.tp (.cons (.nm 4 "_law_one_here" ⟨142, 35, 142, 48⟩) (.cons (.nm 5 "_law_height_here" ⟨142, 50, 142, 66⟩) .nil)) 0 ⟨142, 35, 142, 66⟩) (.ex (.var 0 "_law_towers_here" ⟨142, 70, 142, 86⟩)) (.some (.bop .And (.cons (.cmp .GtE (.var 5 "_law_height_here" ⟨142, 90, 142, 106⟩) (.var 2 "_law_level" ⟨142, 110, 142, 120⟩) ⟨142, 90, 142, 120⟩) (.cons (.cmp .Lt (.var 4 "_law_one_here" ⟨142, 125, 142, 138⟩) (.var 1 "_law_finger" ⟨142, 141, 142, 152⟩) ⟨142, 125, 142, 152⟩) .nil)) ⟨142, 90, 142, 152⟩)) [("_law_one_here", 4), ("_law_height_here", 5)] ⟨.function, [(".0", .local), ("_law_one_here", .local), ("_law_height_here", .local), ("_law_finger", .free), ("_law_level", .free)], false, false, []⟩ ⟨142, 16, 142, 153⟩) ⟨142, 4, 142, 153⟩) (.cons (.ret (.ifx (.cmp .NotEq (.var 3 "_law_some" ⟨143, 28, 143, 37⟩) (.lst .nil ⟨143, 41, 143, 43⟩) ⟨143, 28, 143, 43⟩) (.ix (.var 3 "_law_some" ⟨143, 11, 143, 20⟩) (.neg (.con (.int 1) 0 ⟨143, 22, 143, 23⟩) ⟨143, 21, 143, 23⟩) ⟨143, 11, 143, 24⟩) (.con .none 0 ⟨143, 49, 143, 53⟩) ⟨143, 11, 143, 53⟩) ⟨143, 4, 143, 53⟩) .nil))
def b__law_searched : Ts := (.cons (.asg (.nm 4 "_law_found" ⟨145, 4, 145, 14⟩) (.lst .nil ⟨145, 17, 145, 19⟩) ⟨145, 4, 145, 19⟩) (.cons (.fr (.nm 5 "_law_level" ⟨146, 8, 146, 18⟩) (.rng3 (.var 2 "_law_high" ⟨146, 28, 146, 37⟩) (.con (.int 0) 0 ⟨146, 39, 146, 40⟩) (.neg (.con (.int 1) 0 ⟨146, 43, 146, 44⟩) ⟨146, 42, 146, 44⟩) ⟨146, 22, 146, 27⟩ ⟨146, 22, 146, 45⟩) (.cons (.fr (.nm 6 "_law_turn" ⟨147, 12, 147, 21⟩) (.rng1 (.op .Add (.bi .len (.cons (.var 0 "_law_towers_here" ⟨147, 35, 147, 51⟩) .nil) ⟨147, 31, 147, 34⟩ ⟨147, 31, 147, 52⟩) (.con (.int 1) 0 ⟨147, 55, 147, 56⟩) ⟨147, 31, 147, 56⟩) ⟨147, 25, 147, 30⟩ ⟨147, 25, 147, 57⟩) (.cons (.asg (.nm 7 "_law_ahead" ⟨148, 12, 148, 22⟩) (.call "_law_next" 22 (.cons (.var 0 "_law_towers_here" ⟨148, 35, 148, 51⟩) (.cons (.var 1 "_law_at" ⟨148, 53, 148, 60⟩) (.cons (.var 5 "_law_level" ⟨148, 62, 148, 72⟩) .nil))) ⟨148, 25, 148, 34⟩ ⟨148, 25, 148, 73⟩) ⟨148, 12, 148, 73⟩) (.cons (.iff (.bop .Or (.cons (.cmp .Is (.var 7 "_law_ahead" ⟨149, 15, 149, 25⟩) (.con .none 0 ⟨149, 29, 149, 33⟩) ⟨149, 15, 149, 33⟩) (.cons (.cmp .GtE (.var 7 "_law_ahead" ⟨149, 37, 149, 47⟩) (.var 3 "_law_key_here" ⟨149, 51, 149, 64⟩) ⟨149, 37, 149, 64⟩) .nil)) ⟨149, 15, 149, 64⟩) (.cons (.brk ⟨150, 16, 150, 21⟩) .nil) .nil ⟨149, 12, 150, 21⟩) (.cons (.ex (.mt (.var 4 "_law_found" ⟨151, 12, 151, 22⟩) .append (.cons (.tup (.cons (.con (.str "right") 0 ⟨151, 31, 151, 38⟩) (.cons (.var 5 "_law_level" ⟨151, 40, 151, 50⟩) (.cons (.var 7 "_law_ahead" ⟨151, 52, 151, 62⟩) .nil))) 0 ⟨151, 30, 151, 63⟩) .nil) ⟨151, 12, 151, 29⟩ ⟨151, 12, 151, 64⟩) ⟨151, 12, 151, 64⟩) (.cons (.asg (.nm 1 "_law_at" ⟨152, 12, 152, 19⟩) (.var 7 "_law_ahead" ⟨152, 22, 152, 32⟩) ⟨152, 12, 152, 32⟩) .nil)))) ⟨147, 8, 152, 32⟩) (.cons (.asg (.nm 7 "_law_ahead" ⟨153, 8, 153, 18⟩) (.call "_law_next" 22 (.cons (.var 0 "_law_towers_here" ⟨153, 31, 153, 47⟩) (.cons (.var 1 "_law_at" ⟨153, 49, 153, 56⟩) (.cons (.var 5 "_law_level" ⟨153, 58, 153, 68⟩) .nil))) ⟨153, 21, 153, 30⟩ ⟨153, 21, 153, 69⟩) ⟨153, 8, 153, 69⟩) (.cons (.ex (.mt (.var 4 "_law_found" ⟨154, 8, 154, 18⟩) .append (.cons (.ifx (.cmp .Is (.var 7 "_law_ahead" ⟨154, 49, 154, 59⟩) (.con .none 0 ⟨154, 63, 154, 67⟩) ⟨154, 49, 154, 67⟩) (.tup (.cons (.con (.str "end") 0 ⟨154, 27, 154, 32⟩) (.cons (.var 5 "_law_level" ⟨154, 34, 154, 44⟩) .nil)) 0 ⟨154, 26, 154, 45⟩) (.tup (.cons (.con (.str "stop") 0 ⟨154, 74, 154, 80⟩) (.cons (.var 5 "_law_level" ⟨154, 82, 154, 92⟩) (.cons (.var 7 "_law_ahead" ⟨154, 94, 154, 104⟩) .nil))) 0 ⟨154, 73, 154, 105⟩) ⟨154, 26, 154, 105⟩) .nil) ⟨154, 8, 154, 25⟩ ⟨154, 8, 154, 106⟩) ⟨154, 8, 154, 106⟩) .nil))) ⟨146, 4, 154, 106⟩) (.cons (.asg (.nm 8 "_law_last" ⟨155, 4, 155, 13⟩) (.call "_law_next" 22 (.cons (.var 0 "_law_towers_here" ⟨155, 26, 155, 42⟩) (.cons (.var 1 "_law_at" ⟨155, 44, 155, 51⟩) (.cons (.con (.int 1) 0 ⟨155, 53, 155, 54⟩) .nil))) ⟨155, 16, 155, 25⟩ ⟨155, 16, 155, 55⟩) ⟨155, 4, 155, 55⟩) (.cons (.ret (.op .Add (.var 4 "_law_found" ⟨156, 11, 156, 21⟩) (.op .Mult (.lst (.cons (.tup (.cons (.con (.str "look") 0 ⟨156, 26, 156, 32⟩) (.cons (.var 8 "_law_last" ⟨156, 34, 156, 43⟩) .nil)) 0 ⟨156, 25, 156, 44⟩) .nil) ⟨156, 24, 156, 45⟩) (.bi .int (.cons (.cmp .IsNot (.var 8 "_law_last" ⟨156, 52, 156, 61⟩) (.con .none 0 ⟨156, 69, 156, 73⟩) ⟨156, 52, 156, 73⟩) .nil) ⟨156, 48, 156, 51⟩ ⟨156, 48, 156, 74⟩) ⟨156, 24, 156, 74⟩) ⟨156, 11, 156, 74⟩) ⟨156, 4, 156, 74⟩) .nil))))
def b__law_steps : Ts := (.cons (.asg (.tp (.cons (.nm 3 "_law_found" ⟨158, 4, 158, 14⟩) (.cons (.nm 4 "_law_high" ⟨158, 16, 158, 25⟩) .nil)) 0 ⟨158, 4, 158, 25⟩) (.tup (.cons (.lst .nil ⟨158, 29, 158, 31⟩) (.cons (.bi .max (.cons (.op .Add (.lst (.cons (.con (.int 0) 0 ⟨158, 38, 158, 39⟩) .nil) ⟨158, 37, 158, 40⟩) (.lc (.var 10 "_law_height_here" ⟨158, 44, 158, 60⟩) (.tp (.cons (.nm 9 "_law_one_here" ⟨158, 65, 158, 78⟩) (.cons (.nm 10 "_law_height_here" ⟨158, 80, 158, 96⟩) .nil)) 0 ⟨158, 65, 158, 96⟩) (.ex (.var 0 "_law_towers_here" ⟨158, 100, 158, 116⟩)) .none [("_law_one_here", 9), ("_law_height_here", 10)] ⟨.function, [(".0", .local), ("_law_one_here", .local), ("_law_height_here", .local)], false, false, []⟩ ⟨158, 43, 158, 117⟩) ⟨158, 37, 158, 117⟩) .nil) ⟨158, 33, 158, 36⟩ ⟨158, 33, 158, 118⟩) .nil)) 0 ⟨158, 28, 158, 119⟩) ⟨158, 4, 158, 119⟩) (.cons (.fr (.nm 5 "_law_level" ⟨159, 8, 159, 18⟩) (.rng2 (.con (.int 1) 0 ⟨159, 28, 159, 29⟩) (.op .Add (.var 4 "_law_high" ⟨159, 31, 159, 40⟩) (.con (.int 1) 0 ⟨159, 43, 159, 44⟩) ⟨159, 31, 159, 44⟩) ⟨159, 22, 159, 27⟩ ⟨159, 22, 159, 45⟩) (.cons (.asg (.nm 6 "_law_at" ⟨160, 8, 160, 15⟩) (.call "_law_place" 23 (.cons (.var 0 "_law_towers_here" ⟨160, 29, 160, 45⟩) (.cons (.var 1 "_law_finger" ⟨160, 47, 160, 58⟩) (.cons (.var 5 "_law_level" ⟨160, 60, 160, 70⟩) .nil))) ⟨160, 18, 160, 28⟩ ⟨160, 18, 160, 71⟩) ⟨160, 8, 160, 71⟩) (.cons (.asg (.nm 7 "_law_looked" ⟨161, 8, 161, 19⟩) (.ifx (.cmp .Gt (.var 2 "_law_key_here" ⟨161, 74, 161, 87⟩) (.var 1 "_law_finger" ⟨161, 90, 161, 101⟩) ⟨161, 74, 161, 101⟩) (.call "_law_next" 22 (.cons (.var 0 "_law_towers_here" ⟨161, 32, 161, 48⟩) (.cons (.var 6 "_law_at" ⟨161, 50, 161, 57⟩) (.cons (.var 5 "_law_level" ⟨161, 59, 161, 69⟩) .nil))) ⟨161, 22, 161, 31⟩ ⟨161, 22, 161, 70⟩) (.var 6 "_law_at" ⟨161, 107, 161, 114⟩) ⟨161, 22, 161, 114⟩) ⟨161, 8, 161, 114⟩) (.cons (.iff (.bop .And (.cons (.cmp .Gt (.var 2 "_law_key_here" ⟨162, 11, 162, 24⟩) (.var 1 "_law_finger" ⟨162, 27, 162, 38⟩) ⟨162, 11, 162, 38⟩) (.cons (.cmp .Eq (.var 5 "_law_level" ⟨162, 43, 162, 53⟩) (.var 4 "_law_high" ⟨162, 57, 162, 66⟩) ⟨162, 43, 162, 66⟩) .nil)) ⟨162, 11, 162, 66⟩) (.cons (.ret (.op .Add (.var 3 "_law_found" ⟨163, 19, 163, 29⟩) (.call "_law_searched" 24 (.cons (.var 0 "_law_towers_here" ⟨163, 46, 163, 62⟩) (.cons (.var 6 "_law_at" ⟨163, 64, 163, 71⟩) (.cons (.var 5 "_law_level" ⟨163, 73, 163, 83⟩) (.cons (.var 2 "_law_key_here" ⟨163, 85, 163, 98⟩) .nil)))) ⟨163, 32, 163, 45⟩ ⟨163, 32, 163, 99⟩) ⟨163, 19, 163, 99⟩) ⟨163, 12, 163, 99⟩) .nil) .nil ⟨162, 8, 163, 99⟩) (.cons (.iff (.bop .Or (.cons (.cmp .Is (.var 7 "_law_looked" ⟨164, 11, 164, 22⟩) (.con .none 0 ⟨164, 26, 164, 30⟩) ⟨164, 11, 164, 30⟩) (.cons (.ifx (.cmp .Gt (.var 2 "_law_key_here" ⟨164, 67, 164, 80⟩) (.var 1 "_law_finger" ⟨164, 83, 164, 94⟩) ⟨164, 67, 164, 94⟩) (.cmp .GtE (.var 7 "_law_looked" ⟨164, 35, 164, 46⟩) (.var 2 "_law_key_here" ⟨164, 50, 164, 63⟩) ⟨164, 35, 164, 63⟩) (.cmp .Lt (.var 7 "_law_looked" ⟨164, 100, 164, 111⟩) (.var 2 "_law_key_here" ⟨164, 114, 164, 127⟩) ⟨164, 100, 164, 127⟩) ⟨164, 35, 164, 127⟩) .nil)) ⟨164, 11, 164, 128⟩) (.cons (.asg (.nm 8 "_law_turned_so" ⟨165, 12, 165, 26⟩) (.ifx (.cmp .Is (.var 7 "_law_looked" ⟨165, 53, 165, 64⟩) (.con .none 0 ⟨165, 68, 165, 72⟩) ⟨165, 53, 165, 72⟩) (.tup (.cons (.con (.str "edge") 0 ⟨165, 30, 165, 36⟩) (.cons (.var 5 "_law_level" ⟨165, 38, 165, 48⟩) .nil)) 0 ⟨165, 29, 165, 49⟩) (.tup (.cons (.con (.str "turn") 0 ⟨165, 79, 165, 85⟩) (.cons (.var 5 "_law_level" ⟨165, 87, 165, 97⟩) (.cons (.var 7 "_law_looked" ⟨165, 99, 165, 110⟩) .nil))) 0 ⟨165, 78, 165, 111⟩) ⟨165, 29, 165, 111⟩) ⟨165, 12, 165, 111⟩) (.cons (.ret (.op .Add (.op .Add (.var 3 "_law_found" ⟨166, 19, 166, 29⟩) (.lst (.cons (.var 8 "_law_turned_so" ⟨166, 33, 166, 47⟩) .nil) ⟨166, 32, 166, 48⟩) ⟨166, 19, 166, 48⟩) (.call "_law_searched" 24 (.cons (.var 0 "_law_towers_here" ⟨166, 65, 166, 81⟩) (.cons (.var 6 "_law_at" ⟨166, 83, 166, 90⟩) (.cons (.var 5 "_law_level" ⟨166, 92, 166, 102⟩) (.cons (.var 2 "_law_key_here" ⟨166, 104, 166, 117⟩) .nil)))) ⟨166, 51, 166, 64⟩ ⟨166, 51, 166, 118⟩) ⟨166, 19, 166, 118⟩) ⟨166, 12, 166, 118⟩) .nil)) .nil ⟨164, 8, 166, 118⟩) (.cons (.ex (.mt (.var 3 "_law_found" ⟨167, 8, 167, 18⟩) .append (.cons (.tup (.cons (.con (.str "up") 0 ⟨167, 27, 167, 31⟩) (.cons (.var 5 "_law_level" ⟨167, 33, 167, 43⟩) (.cons (.var 7 "_law_looked" ⟨167, 45, 167, 56⟩) .nil))) 0 ⟨167, 26, 167, 57⟩) .nil) ⟨167, 8, 167, 25⟩ ⟨167, 8, 167, 58⟩) ⟨167, 8, 167, 58⟩) .nil))))) ⟨159, 4, 167, 58⟩) (.cons (.ret (.op .Add (.var 3 "_law_found" ⟨168, 11, 168, 21⟩) (.call "_law_searched" 24 (.cons (.var 0 "_law_towers_here" ⟨168, 38, 168, 54⟩) (.cons (.con .none 0 ⟨168, 56, 168, 60⟩) (.cons (.var 4 "_law_high" ⟨168, 62, 168, 71⟩) (.cons (.var 2 "_law_key_here" ⟨168, 73, 168, 86⟩) .nil)))) ⟨168, 24, 168, 37⟩ ⟨168, 24, 168, 87⟩) ⟨168, 11, 168, 87⟩) ⟨168, 4, 168, 87⟩) .nil)))
def b__law_priced : Ts := (.cons (.asg (.nm 1 "_law_words" ⟨170, 4, 170, 14⟩) (.lc (.ix (.var 4 "_law_step" ⟨170, 18, 170, 27⟩) (.con (.int 0) 0 ⟨170, 28, 170, 29⟩) ⟨170, 18, 170, 30⟩) (.nm 4 "_law_step" ⟨170, 35, 170, 44⟩) (.ex (.var 0 "_law_told_so" ⟨170, 48, 170, 60⟩)) .none [("_law_step", 4)] ⟨.function, [(".0", .local), ("_law_step", .local)], false, false, []⟩ ⟨170, 17, 170, 61⟩) ⟨170, 4, 170, 61⟩) (.cons (.asg (.nm 2 "_law_lanes" ⟨171, 4, 171, 14⟩) (.lc (.ix (.var 4 "_law_step" ⟨171, 18, 171, 27⟩) (.con (.int 1) 0 ⟨171, 28, 171, 29⟩) ⟨171, 18, 171, 30⟩) (.nm 4 "_law_step" ⟨171, 35, 171, 44⟩) (.ex (.var 0 "_law_told_so" ⟨171, 48, 171, 60⟩)) (.some (.cmp .In (.ix (.var 4 "_law_step" ⟨171, 64, 171, 73⟩) (.con (.int 0) 0 ⟨171, 74, 171, 75⟩) ⟨171, 64, 171, 76⟩) (.tup (.cons (.con (.str "right") 0 ⟨171, 81, 171, 88⟩) (.cons (.con (.str "stop") 0 ⟨171, 90, 171, 96⟩) (.cons (.con (.str "end") 0 ⟨171, 98, 171, 103⟩) .nil))) 0 ⟨171, 80, 171, 104⟩) ⟨171, 64, 171, 104⟩)) [("_law_step", 4)] ⟨.function, [(".0", .local), ("_law_step", .local)], false, false, []⟩ ⟨171, 17, 171, 105⟩) ⟨171, 4, 171, 105⟩) (.cons (.asg (.nm 3 "_law_looked_so" ⟨172, 4, 172, 18⟩) (.op .Sub (.op .Sub (.bi .len (.cons (.var 1 "_law_words" ⟨172, 25, 172, 35⟩) .nil) ⟨172, 21, 172, 24⟩ ⟨172, 21, 172, 36⟩) (.mt (.var 1 "_law_words" ⟨172, 39, 172, 49⟩) .count (.cons (.con (.str "end") 0 ⟨172, 56, 172, 61⟩) .nil) ⟨172, 39, 172, 55⟩ ⟨172, 39, 172, 62⟩) ⟨172, 21, 172, 62⟩) (.mt (.var 1 "_law_words" ⟨172, 65, 172, 75⟩) .count (.cons (.con (.str "edge") 0 ⟨172, 82, 172, 88⟩) .nil) ⟨172, 65, 172, 81⟩ ⟨172, 65, 172, 89⟩) ⟨172, 21, 172, 89⟩) ⟨172, 4, 172, 89⟩) (.cons (.ret (.tup (.cons (.mt (.var 1 "_law_words" ⟨173, 12, 173, 22⟩) .count (.cons (.con (.str "up") 0 ⟨173, 29, 173, 33⟩) .nil) ⟨173, 12, 173, 28⟩ ⟨173, 12, 173, 34⟩) (.cons (.mt (.var 1 "_law_words" ⟨173, 36, 173, 46⟩) .count (.cons (.con (.str "right") 0 ⟨173, 53, 173, 60⟩) .nil) ⟨173, 36, 173, 52⟩ ⟨173, 36, 173, 61⟩) (.cons (.op .Sub (.bi .max (.cons (.op .Add (.lst (.cons (.con (.int 1) 0 ⟨173, 68, 173, 69⟩) .nil) ⟨173, 67, 173, 70⟩) (.var 2 "_law_lanes" ⟨173, 73, 173, 83⟩) ⟨173, 67, 173, 83⟩) .nil) ⟨173, 63, 173, 66⟩ ⟨173, 63, 173, 84⟩) (.con (.int 1) 0 ⟨173, 87, 173, 88⟩) ⟨173, 63, 173, 88⟩) (.cons (.var 3 "_law_looked_so" ⟨173, 90, 173, 104⟩) .nil)))) 0 ⟨173, 11, 173, 105⟩) ⟨173, 4, 173, 105⟩) .nil))))
def b__law_key : Ts := (.cons (.asg (.nm 2 "_law_some" ⟨175, 4, 175, 13⟩) (.lst (.cons (.op .Sub (.call "_law_draw" 18 (.cons (.var 0 "_law_well_here" ⟨175, 27, 175, 41⟩) (.cons (.con (.int 80) 0 ⟨175, 43, 175, 45⟩) .nil)) ⟨175, 17, 175, 26⟩ ⟨175, 17, 175, 46⟩) (.con (.int 20) 0 ⟨175, 49, 175, 51⟩) ⟨175, 17, 175, 51⟩) (.cons (.op .Sub (.call "_law_draw" 18 (.cons (.var 0 "_law_well_here" ⟨175, 63, 175, 77⟩) (.cons (.con (.int 80) 0 ⟨175, 79, 175, 81⟩) .nil)) ⟨175, 53, 175, 62⟩ ⟨175, 53, 175, 82⟩) (.con (.int 20) 0 ⟨175, 85, 175, 87⟩) ⟨175, 53, 175, 87⟩) (.cons (.op .Pow (.con (.int 10) 0 ⟨175, 89, 175, 91⟩) (.con (.int 29) 0 ⟨175, 95, 175, 97⟩) ⟨175, 89, 175, 97⟩) (.cons (.op .Sub (.con (.int 1) 0 ⟨175, 99, 175, 100⟩) (.op .Pow (.con (.int 10) 0 ⟨175, 103, 175, 105⟩) (.con (.int 29) 0 ⟨175, 109, 175, 111⟩) ⟨175, 103, 175, 111⟩) ⟨175, 99, 175, 111⟩) .nil)))) ⟨175, 16, 175, 112⟩) ⟨175, 4, 175, 112⟩) (.cons (.ret (.call "_law_one" 19 (.cons (.var 0 "_law_well_here" ⟨176, 20, 176, 34⟩) (.cons (.op .Add (.op .Add (.var 2 "_law_some" ⟨176, 36, 176, 45⟩) (.op .Mult (.lc (.var 3 "_law_key_here" ⟨176, 49, 176, 62⟩) (.tp (.cons (.nm 3 "_law_key_here" ⟨176, 67, 176, 80⟩) (.cons (.nm 4 "_law_height_here" ⟨176, 82, 176, 98⟩) .nil)) 0 ⟨176, 67, 176, 98⟩) (.ex (.var 1 "_law_towers_here" ⟨176, 102, 176, 118⟩)) .none [("_law_key_here", 3), ("_law_height_here", 4)] ⟨.function, [(".0", .local), ("_law_key_here", .local), ("_law_height_here", .local)], false, false, []⟩ ⟨176, 48, 176, 119⟩) (.con (.int 2) 0 ⟨176, 122, 176, 123⟩) ⟨176, 48, 176, 123⟩) ⟨176, 36, 176, 123⟩) (.lc (.op .Add (.var 3 "_law_key_here" ⟨176, 127, 176, 140⟩) (.con (.int 1) 0 ⟨176, 143, 176, 144⟩) ⟨176, 127, 176, 144⟩) (.tp (.cons (.nm 3 "_law_key_here" ⟨176, 149, 176, 162⟩) (.cons (.nm 4 "_law_height_here" ⟨176, 164, 176, 180⟩) .nil)) 0 ⟨176, 149, 176, 180⟩) (.ex (.var 1 "_law_towers_here" ⟨176, 184, 176, 200⟩)) .none [("_law_key_here", 3), ("_law_height_here", 4)] ⟨.function, [(".0", .local), ("_law_key_here", .local), ("_law_height_here", .local)], false, false, []⟩ ⟨176, 126, 176, 201⟩) ⟨176, 36, 176, 201⟩) .nil)) ⟨176, 11, 176, 19⟩ ⟨176, 11, 176, 202⟩) ⟨176, 4, 176, 202⟩) .nil))
def b_law : Ts := (.cons (.fr (.nm 1 "_law_cell" ⟨178, 8, 178, 17⟩) (.ex (.op .Add (.sl (.var 0 "_law_script" ⟨178, 21, 178, 32⟩) .none (.some (.con (.int 4) 0 ⟨178, 34, 178, 35⟩)) ⟨178, 33, 178, 35⟩ ⟨178, 21, 178, 36⟩) (.lst (.cons (.con (.int 0) 0 ⟨178, 40, 178, 41⟩) .nil) ⟨178, 39, 178, 42⟩) ⟨178, 21, 178, 42⟩)) (.cons (.asg (.nm 2 "_law_well_here" ⟨179, 8, 179, 22⟩) (.call "_law_well" 17 (.cons (.var 1 "_law_cell" ⟨179, 35, 179, 44⟩) .nil) ⟨179, 25, 179, 34⟩ ⟨179, 25, 179, 45⟩) ⟨179, 8, 179, 45⟩) (.cons (.fr (.nm 3 "_law_turn" ⟨180, 12, 180, 21⟩) (.rng1 (.con (.int 8) 0 ⟨180, 31, 180, 32⟩) ⟨180, 25, 180, 30⟩ ⟨180, 25, 180, 33⟩) (.cons (.asg (.nm 4 "_law_towers_here" ⟨181, 12, 181, 28⟩) (.call "_law_towers" 21 (.cons (.var 2 "_law_well_here" ⟨181, 43, 181, 57⟩) (.cons (.call "_law_one" 19 (.cons (.var 2 "_law_well_here" ⟨181, 68, 181, 82⟩) (.cons (.lst (.cons (.con (.int 2) 0 ⟨181, 85, 181, 86⟩) (.cons (.con (.int 9) 0 ⟨181, 88, 181, 89⟩) (.cons (.con (.int 25) 0 ⟨181, 91, 181, 93⟩) .nil))) ⟨181, 84, 181, 94⟩) .nil)) ⟨181, 59, 181, 67⟩ ⟨181, 59, 181, 95⟩) .nil)) ⟨181, 31, 181, 42⟩ ⟨181, 31, 181, 96⟩) ⟨181, 12, 181, 96⟩) (.cons (.fr (.nm 5 "_law_again" ⟨182, 16, 182, 26⟩) (.rng1 (.con (.int 6) 0 ⟨182, 36, 182, 37⟩) ⟨182, 30, 182, 35⟩ ⟨182, 30, 182, 38⟩) (.cons (.asg (.nm 6 "_law_finger" ⟨183, 16, 183, 27⟩) (.call "_law_key" 27 (.cons (.var 2 "_law_well_here" ⟨183, 39, 183, 53⟩) (.cons (.var 4 "_law_towers_here" ⟨183, 55, 183, 71⟩) .nil)) ⟨183, 30, 183, 38⟩ ⟨183, 30, 183, 72⟩) ⟨183, 16, 183, 72⟩) (.cons (.asg (.nm 7 "_law_key_here" ⟨184, 16, 184, 29⟩) (.call "_law_one" 19 (.cons (.var 2 "_law_well_here" ⟨184, 41, 184, 55⟩) (.cons (.lst (.cons (.var 6 "_law_finger" ⟨184, 58, 184, 69⟩) (.cons (.call "_law_key" 27 (.cons (.var 2 "_law_well_here" ⟨184, 80, 184, 94⟩) (.cons (.var 4 "_law_towers_here" ⟨184, 96, 184, 112⟩) .nil)) ⟨184, 71, 184, 79⟩ ⟨184, 71, 184, 113⟩) (.cons (.call "_law_key" 27 (.cons (.var 2 "_law_well_here" ⟨184, 124, 184, 138⟩) (.cons (.var 4 "_law_towers_here" ⟨184, 140, 184, 156⟩) .nil)) ⟨184, 115, 184, 123⟩ ⟨184, 115, 184, 157⟩) .nil))) ⟨184, 57, 184, 158⟩) .nil)) ⟨184, 32, 184, 40⟩ ⟨184, 32, 184, 159⟩) ⟨184, 16, 184, 159⟩) (.cons (.asg (.nm 8 "_law_due" ⟨185, 16, 185, 24⟩) (.call "_law_steps" 25 (.cons (.var 4 "_law_towers_here" ⟨185, 38, 185, 54⟩) (.cons (.var 6 "_law_finger" ⟨185, 56, 185, 67⟩) (.cons (.var 7 "_law_key_here" ⟨185, 69, 185, 82⟩) .nil))) ⟨185, 27, 185, 37⟩ ⟨185, 27, 185, 83⟩) ⟨185, 16, 185, 83⟩) (.cons (.iff (.bop .Or (.cons (.cmp .NotEq (.call "finger_steps" 14 (.cons (.var 4 "_law_towers_here" ⟨186, 32, 186, 48⟩) (.cons (.var 6 "_law_finger" ⟨186, 50, 186, 61⟩) (.cons (.var 7 "_law_key_here" ⟨186, 63, 186, 76⟩) .nil))) ⟨186, 19, 186, 31⟩ ⟨186, 19, 186, 77⟩) (.var 8 "_law_due" ⟨186, 81, 186, 89⟩) ⟨186, 19, 186, 89⟩) (.cons (.cmp .NotEq (.call "finger_cost" 15 (.cons (.var 4 "_law_towers_here" ⟨186, 105, 186, 121⟩) (.cons (.var 6 "_law_finger" ⟨186, 123, 186, 134⟩) (.cons (.var 7 "_law_key_here" ⟨186, 136, 186, 149⟩) .nil))) ⟨186, 93, 186, 104⟩ ⟨186, 93, 186, 150⟩) (.call "_law_priced" 26 (.cons (.var 8 "_law_due" ⟨186, 166, 186, 174⟩) .nil) ⟨186, 154, 186, 165⟩ ⟨186, 154, 186, 175⟩) ⟨186, 93, 186, 175⟩) .nil)) ⟨186, 19, 186, 175⟩) (.cons (.ret (.con (.bool false) 0 ⟨187, 27, 187, 32⟩) ⟨187, 20, 187, 32⟩) .nil) .nil ⟨186, 16, 187, 32⟩) .nil)))) ⟨182, 12, 187, 32⟩) .nil)) ⟨180, 8, 187, 32⟩) .nil)) ⟨178, 4, 187, 32⟩) (.cons (.ret (.con (.bool true) 0 ⟨188, 11, 188, 15⟩) ⟨188, 4, 188, 15⟩) .nil))
def d_is_integer : Def := ⟨"is_integer", ["value"], [], ["value"], defScope (top 5), b_is_integer⟩
def h_is_integer : He.DefD := ⟨("is_integer", none), "is_integer", "is_integer", defArgs (top 5), defBody (top 5), defScope (top 5), [], []⟩
def d_is_row : Def := ⟨"is_row", ["value"], [], ["value"], defScope (top 6), b_is_row⟩
def h_is_row : He.DefD := ⟨("is_row", none), "is_row", "is_row", defArgs (top 6), defBody (top 6), defScope (top 6), [], []⟩
def d_is_pair : Def := ⟨"is_pair", ["value"], [], ["value"], defScope (top 7), b_is_pair⟩
def h_is_pair : He.DefD := ⟨("is_pair", none), "is_pair", "is_pair", defArgs (top 7), defBody (top 7), defScope (top 7), [], []⟩
def d_wrong_at : Def := ⟨"wrong_at", ["thing"], [], ["thing", "index", "one"], defScope (top 8), b_wrong_at⟩
def h_wrong_at : He.DefD := ⟨("wrong_at", none), "wrong_at", "wrong_at", defArgs (top 8), defBody (top 8), defScope (top 8), [], []⟩
def d_checked : Def := ⟨"checked", ["towers"], [], ["towers", "index", "key", "height"], defScope (top 9), b_checked⟩
def h_checked : He.DefD := ⟨("checked", none), "checked", "checked", defArgs (top 9), defBody (top 9), defScope (top 9), [], []⟩
def d_look_key : Def := ⟨"look_key", ["key"], [], ["key"], defScope (top 10), b_look_key⟩
def h_look_key : He.DefD := ⟨("look_key", none), "look_key", "look_key", defArgs (top 10), defBody (top 10), defScope (top 10), [], []⟩
def d_highest : Def := ⟨"highest", ["known"], [], ["known", "key", "height"], defScope (top 11), b_highest⟩
def h_highest : He.DefD := ⟨("highest", none), "highest", "highest", defArgs (top 11), defBody (top 11), defScope (top 11), [], []⟩
def d_next_at : Def := ⟨"next_at", ["rows", "at", "level"], [], ["rows", "at", "level", "place"], defScope (top 13), b_next_at⟩
def h_next_at : He.DefD := ⟨("next_at", none), "next_at", "next_at", defArgs (top 13), defBody (top 13), defScope (top 13), [], []⟩
def d_place_below : Def := ⟨"place_below", ["rows", "finger", "level"], [], ["rows", "finger", "level", "found", "at", "key", "height"], defScope (top 15), b_place_below⟩
def h_place_below : He.DefD := ⟨("place_below", none), "place_below", "place_below", defArgs (top 15), defBody (top 15), defScope (top 15), [], []⟩
def d_climbed_right : Def := ⟨"climbed_right", ["rows", "high", "finger", "key"], [], ["rows", "high", "finger", "key", "found", "level", "place", "following"], defScope (top 16), b_climbed_right⟩
def h_climbed_right : He.DefD := ⟨("climbed_right", none), "climbed_right", "climbed_right", defArgs (top 16), defBody (top 16), defScope (top 16), [], []⟩
def d_climbed_left : Def := ⟨"climbed_left", ["rows", "high", "finger", "key"], [], ["rows", "high", "finger", "key", "found", "level", "place"], defScope (top 17), b_climbed_left⟩
def h_climbed_left : He.DefD := ⟨("climbed_left", none), "climbed_left", "climbed_left", defArgs (top 17), defBody (top 17), defScope (top 17), [], []⟩
def d_searched : Def := ⟨"searched", ["rows", "level", "at", "key"], [], ["rows", "level", "at", "key", "found", "place"], defScope (top 18), b_searched⟩
def h_searched : He.DefD := ⟨("searched", none), "searched", "searched", defArgs (top 18), defBody (top 18), defScope (top 18), [], []⟩
def d_steps_between : Def := ⟨"steps_between", ["rows", "finger", "key"], [], ["rows", "finger", "key", "high", "found", "level", "place"], defScope (top 19), b_steps_between⟩
def h_steps_between : He.DefD := ⟨("steps_between", none), "steps_between", "steps_between", defArgs (top 19), defBody (top 19), defScope (top 19), [], []⟩
def d_cost_between : Def := ⟨"cost_between", ["rows", "finger", "key"], [], ["rows", "finger", "key", "found", "level", "words", "compares", "step", "word"], defScope (top 20), b_cost_between⟩
def h_cost_between : He.DefD := ⟨("cost_between", none), "cost_between", "cost_between", defArgs (top 20), defBody (top 20), defScope (top 20), [], []⟩
def d_finger_steps : Def := ⟨"finger_steps", ["towers", "finger", "key"], [], ["towers", "finger", "key", "rows"], defScope (top 21), b_finger_steps⟩
def h_finger_steps : He.DefD := ⟨("finger_steps", none), "finger_steps", "finger_steps", defArgs (top 21), defBody (top 21), defScope (top 21), [], []⟩
def d_finger_cost : Def := ⟨"finger_cost", ["towers", "finger", "key"], [], ["towers", "finger", "key", "rows"], defScope (top 22), b_finger_cost⟩
def h_finger_cost : He.DefD := ⟨("finger_cost", none), "finger_cost", "finger_cost", defArgs (top 22), defBody (top 22), defScope (top 22), [], []⟩
def d__law_cell_at : Def := ⟨"_law_cell_at", ["_law_script", "_law_k"], [], ["_law_script", "_law_k"], defScope (top 24), b__law_cell_at⟩
def h__law_cell_at : He.DefD := ⟨("_law_cell_at", none), "_law_cell_at", "_law_cell_at", defArgs (top 24), defBody (top 24), defScope (top 24), [], []⟩
def d__law_well : Def := ⟨"_law_well", ["_law_cell"], [], ["_law_cell"], defScope (top 25), b__law_well⟩
def h__law_well : He.DefD := ⟨("_law_well", none), "_law_well", "_law_well", defArgs (top 25), defBody (top 25), defScope (top 25), [], []⟩
def d__law_draw : Def := ⟨"_law_draw", ["_law_well_here", "_law_bound"], [], ["_law_well_here", "_law_bound", "_law_digit", "_law_stirred"], defScope (top 26), b__law_draw⟩
def h__law_draw : He.DefD := ⟨("_law_draw", none), "_law_draw", "_law_draw", defArgs (top 26), defBody (top 26), defScope (top 26), [], []⟩
def d__law_one : Def := ⟨"_law_one", ["_law_well_here", "_law_some"], [], ["_law_well_here", "_law_some"], defScope (top 27), b__law_one⟩
def h__law_one : He.DefD := ⟨("_law_one", none), "_law_one", "_law_one", defArgs (top 27), defBody (top 27), defScope (top 27), [], []⟩
def d__law_height : Def := ⟨"_law_height", ["_law_well_here", "_law_way_so"], [], ["_law_well_here", "_law_way_so", "_law_found", "_law_turn"], defScope (top 28), b__law_height⟩
def h__law_height : He.DefD := ⟨("_law_height", none), "_law_height", "_law_height", defArgs (top 28), defBody (top 28), defScope (top 28), [], []⟩
def d__law_towers : Def := ⟨"_law_towers", ["_law_well_here", "_law_many_so"], [], ["_law_well_here", "_law_many_so", "_law_key_here", "_law_way_so", "_law_found", "_law_turn"], defScope (top 29), b__law_towers⟩
def h__law_towers : He.DefD := ⟨("_law_towers", none), "_law_towers", "_law_towers", defArgs (top 29), defBody (top 29), defScope (top 29), [], []⟩
def d__law_next : Def := ⟨"_law_next", ["_law_towers_here", "_law_key_here", "_law_level"], [], ["_law_towers_here", "_law_key_here", "_law_level", "_law_some", "_law_one_here", "_law_height_here"], defScope (top 30), b__law_next⟩
def h__law_next : He.DefD := ⟨("_law_next", none), "_law_next", "_law_next", defArgs (top 30), defBody (top 30), defScope (top 30), [], []⟩
def d__law_place : Def := ⟨"_law_place", ["_law_towers_here", "_law_finger", "_law_level"], [], ["_law_towers_here", "_law_finger", "_law_level", "_law_some", "_law_one_here", "_law_height_here"], defScope (top 31), b__law_place⟩
def h__law_place : He.DefD := ⟨("_law_place", none), "_law_place", "_law_place", defArgs (top 31), defBody (top 31), defScope (top 31), [], []⟩
def d__law_searched : Def := ⟨"_law_searched", ["_law_towers_here", "_law_at", "_law_high", "_law_key_here"], [], ["_law_towers_here", "_law_at", "_law_high", "_law_key_here", "_law_found", "_law_level", "_law_turn", "_law_ahead", "_law_last"], defScope (top 32), b__law_searched⟩
def h__law_searched : He.DefD := ⟨("_law_searched", none), "_law_searched", "_law_searched", defArgs (top 32), defBody (top 32), defScope (top 32), [], []⟩
def d__law_steps : Def := ⟨"_law_steps", ["_law_towers_here", "_law_finger", "_law_key_here"], [], ["_law_towers_here", "_law_finger", "_law_key_here", "_law_found", "_law_high", "_law_level", "_law_at", "_law_looked", "_law_turned_so", "_law_one_here", "_law_height_here"], defScope (top 33), b__law_steps⟩
def h__law_steps : He.DefD := ⟨("_law_steps", none), "_law_steps", "_law_steps", defArgs (top 33), defBody (top 33), defScope (top 33), [], []⟩
def d__law_priced : Def := ⟨"_law_priced", ["_law_told_so"], [], ["_law_told_so", "_law_words", "_law_lanes", "_law_looked_so", "_law_step"], defScope (top 34), b__law_priced⟩
def h__law_priced : He.DefD := ⟨("_law_priced", none), "_law_priced", "_law_priced", defArgs (top 34), defBody (top 34), defScope (top 34), [], []⟩
def d__law_key : Def := ⟨"_law_key", ["_law_well_here", "_law_towers_here"], [], ["_law_well_here", "_law_towers_here", "_law_some", "_law_key_here", "_law_height_here"], defScope (top 35), b__law_key⟩
def h__law_key : He.DefD := ⟨("_law_key", none), "_law_key", "_law_key", defArgs (top 35), defBody (top 35), defScope (top 35), [], []⟩
def d_law : Def := ⟨"law", ["_law_script"], [], ["_law_script", "_law_cell", "_law_well_here", "_law_turn", "_law_towers_here", "_law_again", "_law_finger", "_law_key_here", "_law_due"], defScope (top 36), b_law⟩
def h_law : He.DefD := ⟨("law", none), "law", "law", defArgs (top 36), defBody (top 36), defScope (top 36), [], []⟩
def defs : List Def := [d_is_integer, d_is_row, d_is_pair, d_wrong_at, d_checked, d_look_key, d_highest, d_next_at, d_place_below, d_climbed_right, d_climbed_left, d_searched, d_steps_between, d_cost_between, d_finger_steps, d_finger_cost, d__law_cell_at, d__law_well, d__law_draw, d__law_one, d__law_height, d__law_towers, d__law_next, d__law_place, d__law_searched, d__law_steps, d__law_priced, d__law_key, d_law]
def fn : List He.DefD := [h_is_integer, h_is_row, h_is_pair, h_wrong_at, h_checked, h_look_key, h_highest, h_next_at, h_place_below, h_climbed_right, h_climbed_left, h_searched, h_steps_between, h_cost_between, h_finger_steps, h_finger_cost, h__law_cell_at, h__law_well, h__law_draw, h__law_one, h__law_height, h__law_towers, h__law_next, h__law_place, h__law_searched, h__law_steps, h__law_priced, h__law_key, h_law]
def gl : List (Str × Int) := []
def tp : List (Str × List D) := []
def fa : List He.Fa := [.glo "is_integer", .glo "is_row", .glo "is_pair", .glo "wrong_at", .glo "checked", .glo "look_key", .glo "highest", .glo "next_at", .glo "place_below", .glo "climbed_right", .glo "climbed_left", .glo "searched", .glo "steps_between", .glo "cost_between", .glo "finger_steps", .glo "finger_cost", .glo "_law_cell_at", .glo "_law_well", .glo "_law_draw", .glo "_law_one", .glo "_law_height", .glo "_law_towers", .glo "_law_next", .glo "_law_place", .glo "_law_searched", .glo "_law_steps", .glo "_law_priced", .glo "_law_key", .glo "law"] ++ bltNames.map .free
def loose : List Str := (["LaneError", "NoTowers", "NoKey", "is_integer", "is_row", "is_pair", "wrong_at", "checked", "look_key", "highest", "next_at", "place_below", "climbed_right", "climbed_left", "searched", "steps_between", "cost_between", "finger_steps", "finger_cost", "_law_cell_at", "_law_well", "_law_draw", "_law_one", "_law_height", "_law_towers", "_law_next", "_law_place", "_law_searched", "_law_steps", "_law_priced"] : List Str) ++ (["_law_key"] : List Str)
def lawAt : Nat := 36
section
variable {K : PySem.W.Frag} {h : Heap} {mg : Str → Option Value}
theorem s_is_integer : FnScope d_is_integer.N d_is_integer.ps d_is_integer.sc := ⟨rfl, rfl, rfl, by decide +kernel, rfl, by decide +kernel, by decide +kernel⟩
theorem ok_is_integer (X : K.In h) (G : h.Ns mainGlobals mg) (c : He.SaysD fa fn K) : DefOk K mg d_is_integer := by
  obtain ⟨fd, F⟩ := c.def_ 0 (d := h_is_integer) rfl
  have g := He.glo_ok X G (c.fact 0 (f := .glo "is_integer") rfl)
  refine ⟨_, _, fd, _, _, g, F, s_is_integer, fun H ρ => rfl, fun m h1 h2 => ?_⟩
  exact ⟨[], vals_drop0, F.bindsN fun _ _ _ _ _ _ us hl => match us, hl with | [_], _ => rfl⟩
theorem s_is_row : FnScope d_is_row.N d_is_row.ps d_is_row.sc := ⟨rfl, rfl, rfl, by decide +kernel, rfl, by decide +kernel, by decide +kernel⟩
theorem ok_is_row (X : K.In h) (G : h.Ns mainGlobals mg) (c : He.SaysD fa fn K) : DefOk K mg d_is_row := by
  obtain ⟨fd, F⟩ := c.def_ 1 (d := h_is_row) rfl
  have g := He.glo_ok X G (c.fact 1 (f := .glo "is_row") rfl)
  refine ⟨_, _, fd, _, _, g, F, s_is_row, fun H ρ => rfl, fun m h1 h2 => ?_⟩
  exact ⟨[], vals_drop0, F.bindsN fun _ _ _ _ _ _ us hl => match us, hl with | [_], _ => rfl⟩
theorem s_is_pair : FnScope d_is_pair.N d_is_pair.ps d_is_pair.sc := ⟨rfl, rfl, rfl, by decide +kernel, rfl, by decide +kernel, by decide +kernel⟩
theorem ok_is_pair (X : K.In h) (G : h.Ns mainGlobals mg) (c : He.SaysD fa fn K) : DefOk K mg d_is_pair := by
  obtain ⟨fd, F⟩ := c.def_ 2 (d := h_is_pair) rfl
  have g := He.glo_ok X G (c.fact 2 (f := .glo "is_pair") rfl)
  refine ⟨_, _, fd, _, _, g, F, s_is_pair, fun H ρ => rfl, fun m h1 h2 => ?_⟩
  exact ⟨[], vals_drop0, F.bindsN fun _ _ _ _ _ _ us hl => match us, hl with | [_], _ => rfl⟩
theorem s_wrong_at : FnScope d_wrong_at.N d_wrong_at.ps d_wrong_at.sc := ⟨rfl, rfl, rfl, by decide +kernel, rfl, by decide +kernel, by decide +kernel⟩
theorem ok_wrong_at (X : K.In h) (G : h.Ns mainGlobals mg) (c : He.SaysD fa fn K) : DefOk K mg d_wrong_at := by
  obtain ⟨fd, F⟩ := c.def_ 3 (d := h_wrong_at) rfl
  have g := He.glo_ok X G (c.fact 3 (f := .glo "wrong_at") rfl)
  refine ⟨_, _, fd, _, _, g, F, s_wrong_at, fun H ρ => rfl, fun m h1 h2 => ?_⟩
  exact ⟨[], vals_drop0, F.bindsN fun _ _ _ _ _ _ us hl => match us, hl with | [_], _ => rfl⟩
theorem s_checked : FnScope d_checked.N d_checked.ps d_checked.sc := ⟨rfl, rfl, rfl, by decide +kernel, rfl, by decide +kernel, by decide +kernel⟩
theorem ok_checked (X : K.In h) (G : h.Ns mainGlobals mg) (c : He.SaysD fa fn K) : DefOk K mg d_checked := by
  obtain ⟨fd, F⟩ := c.def_ 4 (d := h_checked) rfl
  have g := He.glo_ok X G (c.fact 4 (f := .glo "checked") rfl)
  refine ⟨_, _, fd, _, _, g, F, s_checked, fun H ρ => rfl, fun m h1 h2 => ?_⟩
  exact ⟨[], vals_drop0, F.bindsN fun _ _ _ _ _ _ us hl => match us, hl with | [_], _ => rfl⟩
theorem s_look_key : FnScope d_look_key.N d_look_key.ps d_look_key.sc := ⟨rfl, rfl, rfl, by decide +kernel, rfl, by decide +kernel, by decide +kernel⟩
theorem ok_look_key (X : K.In h) (G : h.Ns mainGlobals mg) (c : He.SaysD fa fn K) : DefOk K mg d_look_key := by
  obtain ⟨fd, F⟩ := c.def_ 5 (d := h_look_key) rfl
  have g := He.glo_ok X G (c.fact 5 (f := .glo "look_key") rfl)
  refine ⟨_, _, fd, _, _, g, F, s_look_key, fun H ρ => rfl, fun m h1 h2 => ?_⟩
  exact ⟨[], vals_drop0, F.bindsN fun _ _ _ _ _ _ us hl => match us, hl with | [_], _ => rfl⟩
theorem s_highest : FnScope d_highest.N d_highest.ps d_highest.sc := ⟨rfl, rfl, rfl, by decide +kernel, rfl, by decide +kernel, by decide +kernel⟩
theorem ok_highest (X : K.In h) (G : h.Ns mainGlobals mg) (c : He.SaysD fa fn K) : DefOk K mg d_highest := by
  obtain ⟨fd, F⟩ := c.def_ 6 (d := h_highest) rfl
  have g := He.glo_ok X G (c.fact 6 (f := .glo "highest") rfl)
  refine ⟨_, _, fd, _, _, g, F, s_highest, fun H ρ => rfl, fun m h1 h2 => ?_⟩
  exact ⟨[], vals_drop0, F.bindsN fun _ _ _ _ _ _ us hl => match us, hl with | [_], _ => rfl⟩
theorem s_next_at : FnScope d_next_at.N d_next_at.ps d_next_at.sc := ⟨rfl, rfl, rfl, by decide +kernel, rfl, by decide +kernel, by decide +kernel⟩
theorem ok_next_at (X : K.In h) (G : h.Ns mainGlobals mg) (c : He.SaysD fa fn K) : DefOk K mg d_next_at := by
  obtain ⟨fd, F⟩ := c.def_ 7 (d := h_next_at) rfl
  have g := He.glo_ok X G (c.fact 7 (f := .glo "next_at") rfl)
  refine ⟨_, _, fd, _, _, g, F, s_next_at, fun H ρ => rfl, fun m h1 h2 => ?_⟩
  exact ⟨[], vals_drop0, F.bindsN fun _ _ _ _ _ _ us hl => match us, hl with | [_, _, _], _ => rfl⟩
theorem s_place_below : FnScope d_place_below.N d_place_below.ps d_place_below.sc := ⟨rfl, rfl, rfl, by decide +kernel, rfl, by decide +kernel, by decide +kernel⟩
theorem ok_place_below (X : K.In h) (G : h.Ns mainGlobals mg) (c : He.SaysD fa fn K) : DefOk K mg d_place_below := by
  obtain ⟨fd, F⟩ := c.def_ 8 (d := h_place_below) rfl
  have g := He.glo_ok X G (c.fact 8 (f := .glo "place_below") rfl)
  refine ⟨_, _, fd, _, _, g, F, s_place_below, fun H ρ => rfl, fun m h1 h2 => ?_⟩
  exact ⟨[], vals_drop0, F.bindsN fun _ _ _ _ _ _ us hl => match us, hl with | [_, _, _], _ => rfl⟩
theorem s_climbed_right : FnScope d_climbed_right.N d_climbed_right.ps d_climbed_right.sc := ⟨rfl, rfl, rfl, by decide +kernel, rfl, by decide +kernel, by decide +kernel⟩
theorem ok_climbed_right (X : K.In h) (G : h.Ns mainGlobals mg) (c : He.SaysD fa fn K) : DefOk K mg d_climbed_right := by
  obtain ⟨fd, F⟩ := c.def_ 9 (d := h_climbed_right) rfl
  have g := He.glo_ok X G (c.fact 9 (f := .glo "climbed_right") rfl)
  refine ⟨_, _, fd, _, _, g, F, s_climbed_right, fun H ρ => rfl, fun m h1 h2 => ?_⟩
  exact ⟨[], vals_drop0, F.bindsN fun _ _ _ _ _ _ us hl => match us, hl with | [_, _, _, _], _ => rfl⟩
theorem s_climbed_left : FnScope d_climbed_left.N d_climbed_left.ps d_climbed_left.sc := ⟨rfl, rfl, rfl, by decide +kernel, rfl, by decide +kernel, by decide +kernel⟩
theorem ok_climbed_left (X : K.In h) (G : h.Ns mainGlobals mg) (c : He.SaysD fa fn K) : DefOk K mg d_climbed_left := by
  obtain ⟨fd, F⟩ := c.def_ 10 (d := h_climbed_left) rfl
  have g := He.glo_ok X G (c.fact 10 (f := .glo "climbed_left") rfl)
  refine ⟨_, _, fd, _, _, g, F, s_climbed_left, fun H ρ => rfl, fun m h1 h2 => ?_⟩
  exact ⟨[], vals_drop0, F.bindsN fun _ _ _ _ _ _ us hl => match us, hl with | [_, _, _, _], _ => rfl⟩
theorem s_searched : FnScope d_searched.N d_searched.ps d_searched.sc := ⟨rfl, rfl, rfl, by decide +kernel, rfl, by decide +kernel, by decide +kernel⟩
theorem ok_searched (X : K.In h) (G : h.Ns mainGlobals mg) (c : He.SaysD fa fn K) : DefOk K mg d_searched := by
  obtain ⟨fd, F⟩ := c.def_ 11 (d := h_searched) rfl
  have g := He.glo_ok X G (c.fact 11 (f := .glo "searched") rfl)
  refine ⟨_, _, fd, _, _, g, F, s_searched, fun H ρ => rfl, fun m h1 h2 => ?_⟩
  exact ⟨[], vals_drop0, F.bindsN fun _ _ _ _ _ _ us hl => match us, hl with | [_, _, _, _], _ => rfl⟩
theorem s_steps_between : FnScope d_steps_between.N d_steps_between.ps d_steps_between.sc := ⟨rfl, rfl, rfl, by decide +kernel, rfl, by decide +kernel, by decide +kernel⟩
theorem ok_steps_between (X : K.In h) (G : h.Ns mainGlobals mg) (c : He.SaysD fa fn K) : DefOk K mg d_steps_between := by
  obtain ⟨fd, F⟩ := c.def_ 12 (d := h_steps_between) rfl
  have g := He.glo_ok X G (c.fact 12 (f := .glo "steps_between") rfl)
  refine ⟨_, _, fd, _, _, g, F, s_steps_between, fun H ρ => rfl, fun m h1 h2 => ?_⟩
  exact ⟨[], vals_drop0, F.bindsN fun _ _ _ _ _ _ us hl => match us, hl with | [_, _, _], _ => rfl⟩
theorem s_cost_between : FnScope d_cost_between.N d_cost_between.ps d_cost_between.sc := ⟨rfl, rfl, rfl, by decide +kernel, rfl, by decide +kernel, by decide +kernel⟩
theorem ok_cost_between (X : K.In h) (G : h.Ns mainGlobals mg) (c : He.SaysD fa fn K) : DefOk K mg d_cost_between := by
  obtain ⟨fd, F⟩ := c.def_ 13 (d := h_cost_between) rfl
  have g := He.glo_ok X G (c.fact 13 (f := .glo "cost_between") rfl)
  refine ⟨_, _, fd, _, _, g, F, s_cost_between, fun H ρ => rfl, fun m h1 h2 => ?_⟩
  exact ⟨[], vals_drop0, F.bindsN fun _ _ _ _ _ _ us hl => match us, hl with | [_, _, _], _ => rfl⟩
theorem s_finger_steps : FnScope d_finger_steps.N d_finger_steps.ps d_finger_steps.sc := ⟨rfl, rfl, rfl, by decide +kernel, rfl, by decide +kernel, by decide +kernel⟩
theorem ok_finger_steps (X : K.In h) (G : h.Ns mainGlobals mg) (c : He.SaysD fa fn K) : DefOk K mg d_finger_steps := by
  obtain ⟨fd, F⟩ := c.def_ 14 (d := h_finger_steps) rfl
  have g := He.glo_ok X G (c.fact 14 (f := .glo "finger_steps") rfl)
  refine ⟨_, _, fd, _, _, g, F, s_finger_steps, fun H ρ => rfl, fun m h1 h2 => ?_⟩
  exact ⟨[], vals_drop0, F.bindsN fun _ _ _ _ _ _ us hl => match us, hl with | [_, _, _], _ => rfl⟩
theorem s_finger_cost : FnScope d_finger_cost.N d_finger_cost.ps d_finger_cost.sc := ⟨rfl, rfl, rfl, by decide +kernel, rfl, by decide +kernel, by decide +kernel⟩
theorem ok_finger_cost (X : K.In h) (G : h.Ns mainGlobals mg) (c : He.SaysD fa fn K) : DefOk K mg d_finger_cost := by
  obtain ⟨fd, F⟩ := c.def_ 15 (d := h_finger_cost) rfl
  have g := He.glo_ok X G (c.fact 15 (f := .glo "finger_cost") rfl)
  refine ⟨_, _, fd, _, _, g, F, s_finger_cost, fun H ρ => rfl, fun m h1 h2 => ?_⟩
  exact ⟨[], vals_drop0, F.bindsN fun _ _ _ _ _ _ us hl => match us, hl with | [_, _, _], _ => rfl⟩
theorem s__law_cell_at : FnScope d__law_cell_at.N d__law_cell_at.ps d__law_cell_at.sc := ⟨rfl, rfl, rfl, by decide +kernel, rfl, by decide +kernel, by decide +kernel⟩
theorem ok__law_cell_at (X : K.In h) (G : h.Ns mainGlobals mg) (c : He.SaysD fa fn K) : DefOk K mg d__law_cell_at := by
  obtain ⟨fd, F⟩ := c.def_ 16 (d := h__law_cell_at) rfl
  have g := He.glo_ok X G (c.fact 16 (f := .glo "_law_cell_at") rfl)
  refine ⟨_, _, fd, _, _, g, F, s__law_cell_at, fun H ρ => rfl, fun m h1 h2 => ?_⟩
  exact ⟨[], vals_drop0, F.bindsN fun _ _ _ _ _ _ us hl => match us, hl with | [_, _], _ => rfl⟩
theorem s__law_well : FnScope d__law_well.N d__law_well.ps d__law_well.sc := ⟨rfl, rfl, rfl, by decide +kernel, rfl, by decide +kernel, by decide +kernel⟩
theorem ok__law_well (X : K.In h) (G : h.Ns mainGlobals mg) (c : He.SaysD fa fn K) : DefOk K mg d__law_well := by
  obtain ⟨fd, F⟩ := c.def_ 17 (d := h__law_well) rfl
  have g := He.glo_ok X G (c.fact 17 (f := .glo "_law_well") rfl)
  refine ⟨_, _, fd, _, _, g, F, s__law_well, fun H ρ => rfl, fun m h1 h2 => ?_⟩
  exact ⟨[], vals_drop0, F.bindsN fun _ _ _ _ _ _ us hl => match us, hl with | [_], _ => rfl⟩
theorem s__law_draw : FnScope d__law_draw.N d__law_draw.ps d__law_draw.sc := ⟨rfl, rfl, rfl, by decide +kernel, rfl, by decide +kernel, by decide +kernel⟩
theorem ok__law_draw (X : K.In h) (G : h.Ns mainGlobals mg) (c : He.SaysD fa fn K) : DefOk K mg d__law_draw := by
  obtain ⟨fd, F⟩ := c.def_ 18 (d := h__law_draw) rfl
  have g := He.glo_ok X G (c.fact 18 (f := .glo "_law_draw") rfl)
  refine ⟨_, _, fd, _, _, g, F, s__law_draw, fun H ρ => rfl, fun m h1 h2 => ?_⟩
  exact ⟨[], vals_drop0, F.bindsN fun _ _ _ _ _ _ us hl => match us, hl with | [_, _], _ => rfl⟩
theorem s__law_one : FnScope d__law_one.N d__law_one.ps d__law_one.sc := ⟨rfl, rfl, rfl, by decide +kernel, rfl, by decide +kernel, by decide +kernel⟩
theorem ok__law_one (X : K.In h) (G : h.Ns mainGlobals mg) (c : He.SaysD fa fn K) : DefOk K mg d__law_one := by
  obtain ⟨fd, F⟩ := c.def_ 19 (d := h__law_one) rfl
  have g := He.glo_ok X G (c.fact 19 (f := .glo "_law_one") rfl)
  refine ⟨_, _, fd, _, _, g, F, s__law_one, fun H ρ => rfl, fun m h1 h2 => ?_⟩
  exact ⟨[], vals_drop0, F.bindsN fun _ _ _ _ _ _ us hl => match us, hl with | [_, _], _ => rfl⟩
theorem s__law_height : FnScope d__law_height.N d__law_height.ps d__law_height.sc := ⟨rfl, rfl, rfl, by decide +kernel, rfl, by decide +kernel, by decide +kernel⟩
theorem ok__law_height (X : K.In h) (G : h.Ns mainGlobals mg) (c : He.SaysD fa fn K) : DefOk K mg d__law_height := by
  obtain ⟨fd, F⟩ := c.def_ 20 (d := h__law_height) rfl
  have g := He.glo_ok X G (c.fact 20 (f := .glo "_law_height") rfl)
  refine ⟨_, _, fd, _, _, g, F, s__law_height, fun H ρ => rfl, fun m h1 h2 => ?_⟩
  exact ⟨[], vals_drop0, F.bindsN fun _ _ _ _ _ _ us hl => match us, hl with | [_, _], _ => rfl⟩
theorem s__law_towers : FnScope d__law_towers.N d__law_towers.ps d__law_towers.sc := ⟨rfl, rfl, rfl, by decide +kernel, rfl, by decide +kernel, by decide +kernel⟩
theorem ok__law_towers (X : K.In h) (G : h.Ns mainGlobals mg) (c : He.SaysD fa fn K) : DefOk K mg d__law_towers := by
  obtain ⟨fd, F⟩ := c.def_ 21 (d := h__law_towers) rfl
  have g := He.glo_ok X G (c.fact 21 (f := .glo "_law_towers") rfl)
  refine ⟨_, _, fd, _, _, g, F, s__law_towers, fun H ρ => rfl, fun m h1 h2 => ?_⟩
  exact ⟨[], vals_drop0, F.bindsN fun _ _ _ _ _ _ us hl => match us, hl with | [_, _], _ => rfl⟩
theorem s__law_next : FnScope d__law_next.N d__law_next.ps d__law_next.sc := ⟨rfl, rfl, rfl, by decide +kernel, rfl, by decide +kernel, by decide +kernel⟩
theorem ok__law_next (X : K.In h) (G : h.Ns mainGlobals mg) (c : He.SaysD fa fn K) : DefOk K mg d__law_next := by
  obtain ⟨fd, F⟩ := c.def_ 22 (d := h__law_next) rfl
  have g := He.glo_ok X G (c.fact 22 (f := .glo "_law_next") rfl)
  refine ⟨_, _, fd, _, _, g, F, s__law_next, fun H ρ => rfl, fun m h1 h2 => ?_⟩
  exact ⟨[], vals_drop0, F.bindsN fun _ _ _ _ _ _ us hl => match us, hl with | [_, _, _], _ => rfl⟩
theorem s__law_place : FnScope d__law_place.N d__law_place.ps d__law_place.sc := ⟨rfl, rfl, rfl, by decide +kernel, rfl, by decide +kernel, by decide +kernel⟩
theorem ok__law_place (X : K.In h) (G : h.Ns mainGlobals mg) (c : He.SaysD fa fn K) : DefOk K mg d__law_place := by
  obtain ⟨fd, F⟩ := c.def_ 23 (d := h__law_place) rfl
  have g := He.glo_ok X G (c.fact 23 (f := .glo "_law_place") rfl)
  refine ⟨_, _, fd, _, _, g, F, s__law_place, fun H ρ => rfl, fun m h1 h2 => ?_⟩
  exact ⟨[], vals_drop0, F.bindsN fun _ _ _ _ _ _ us hl => match us, hl with | [_, _, _], _ => rfl⟩
theorem s__law_searched : FnScope d__law_searched.N d__law_searched.ps d__law_searched.sc := ⟨rfl, rfl, rfl, by decide +kernel, rfl, by decide +kernel, by decide +kernel⟩
theorem ok__law_searched (X : K.In h) (G : h.Ns mainGlobals mg) (c : He.SaysD fa fn K) : DefOk K mg d__law_searched := by
  obtain ⟨fd, F⟩ := c.def_ 24 (d := h__law_searched) rfl
  have g := He.glo_ok X G (c.fact 24 (f := .glo "_law_searched") rfl)
  refine ⟨_, _, fd, _, _, g, F, s__law_searched, fun H ρ => rfl, fun m h1 h2 => ?_⟩
  exact ⟨[], vals_drop0, F.bindsN fun _ _ _ _ _ _ us hl => match us, hl with | [_, _, _, _], _ => rfl⟩
theorem s__law_steps : FnScope d__law_steps.N d__law_steps.ps d__law_steps.sc := ⟨rfl, rfl, rfl, by decide +kernel, rfl, by decide +kernel, by decide +kernel⟩
theorem ok__law_steps (X : K.In h) (G : h.Ns mainGlobals mg) (c : He.SaysD fa fn K) : DefOk K mg d__law_steps := by
  obtain ⟨fd, F⟩ := c.def_ 25 (d := h__law_steps) rfl
  have g := He.glo_ok X G (c.fact 25 (f := .glo "_law_steps") rfl)
  refine ⟨_, _, fd, _, _, g, F, s__law_steps, fun H ρ => rfl, fun m h1 h2 => ?_⟩
  exact ⟨[], vals_drop0, F.bindsN fun _ _ _ _ _ _ us hl => match us, hl with | [_, _, _], _ => rfl⟩
theorem s__law_priced : FnScope d__law_priced.N d__law_priced.ps d__law_priced.sc := ⟨rfl, rfl, rfl, by decide +kernel, rfl, by decide +kernel, by decide +kernel⟩
theorem ok__law_priced (X : K.In h) (G : h.Ns mainGlobals mg) (c : He.SaysD fa fn K) : DefOk K mg d__law_priced := by
  obtain ⟨fd, F⟩ := c.def_ 26 (d := h__law_priced) rfl
  have g := He.glo_ok X G (c.fact 26 (f := .glo "_law_priced") rfl)
  refine ⟨_, _, fd, _, _, g, F, s__law_priced, fun H ρ => rfl, fun m h1 h2 => ?_⟩
  exact ⟨[], vals_drop0, F.bindsN fun _ _ _ _ _ _ us hl => match us, hl with | [_], _ => rfl⟩
theorem s__law_key : FnScope d__law_key.N d__law_key.ps d__law_key.sc := ⟨rfl, rfl, rfl, by decide +kernel, rfl, by decide +kernel, by decide +kernel⟩
theorem ok__law_key (X : K.In h) (G : h.Ns mainGlobals mg) (c : He.SaysD fa fn K) : DefOk K mg d__law_key := by
  obtain ⟨fd, F⟩ := c.def_ 27 (d := h__law_key) rfl
  have g := He.glo_ok X G (c.fact 27 (f := .glo "_law_key") rfl)
  refine ⟨_, _, fd, _, _, g, F, s__law_key, fun H ρ => rfl, fun m h1 h2 => ?_⟩
  exact ⟨[], vals_drop0, F.bindsN fun _ _ _ _ _ _ us hl => match us, hl with | [_, _], _ => rfl⟩
theorem s_law : FnScope d_law.N d_law.ps d_law.sc := ⟨rfl, rfl, rfl, by decide +kernel, rfl, by decide +kernel, by decide +kernel⟩
theorem ok_law (X : K.In h) (G : h.Ns mainGlobals mg) (c : He.SaysD fa fn K) : DefOk K mg d_law := by
  obtain ⟨fd, F⟩ := c.def_ 28 (d := h_law) rfl
  have g := He.glo_ok X G (c.fact 28 (f := .glo "law") rfl)
  refine ⟨_, _, fd, _, _, g, F, s_law, fun H ρ => rfl, fun m h1 h2 => ?_⟩
  exact ⟨[], vals_drop0, F.bindsN fun _ _ _ _ _ _ us hl => match us, hl with | [_], _ => rfl⟩
end
theorem all_ok {K : PySem.W.Frag} {h : Heap} {mg : Str → Option Value} (X : K.In h) (G : h.Ns mainGlobals mg) (c : He.SaysD fa fn K) : ∀ d ∈ defs, DefOk K mg d := by
  intro d hd
  simp only [defs, List.mem_cons, List.not_mem_nil, or_false] at hd
  rcases hd with rfl | rfl | rfl | rfl | rfl | rfl | rfl | rfl | rfl | rfl | rfl | rfl | rfl | rfl | rfl | rfl | rfl | rfl | rfl | rfl | rfl | rfl | rfl | rfl | rfl | rfl | rfl | rfl | rfl
  · exact ok_is_integer X G c
  · exact ok_is_row X G c
  · exact ok_is_pair X G c
  · exact ok_wrong_at X G c
  · exact ok_checked X G c
  · exact ok_look_key X G c
  · exact ok_highest X G c
  · exact ok_next_at X G c
  · exact ok_place_below X G c
  · exact ok_climbed_right X G c
  · exact ok_climbed_left X G c
  · exact ok_searched X G c
  · exact ok_steps_between X G c
  · exact ok_cost_between X G c
  · exact ok_finger_steps X G c
  · exact ok_finger_cost X G c
  · exact ok__law_cell_at X G c
  · exact ok__law_well X G c
  · exact ok__law_draw X G c
  · exact ok__law_one X G c
  · exact ok__law_height X G c
  · exact ok__law_towers X G c
  · exact ok__law_next X G c
  · exact ok__law_place X G c
  · exact ok__law_searched X G c
  · exact ok__law_steps X G c
  · exact ok__law_priced X G c
  · exact ok__law_key X G c
  · exact ok_law X G c
theorem gl_fa : ∀ p ∈ gl, He.Fa.int p.1 p.2 ∈ fa := by
  intro p hp
  simp only [gl, List.mem_cons, List.not_mem_nil, or_false] at hp
theorem all_wf : ∀ d ∈ defs, wfTs (tabOf defs gl tp) d.N d.sc d.body = true := by
  have : (defs.all fun d => wfTs (tabOf defs gl tp) d.N d.sc d.body) = true := by kernel_rfl
  exact fun d hd => List.all_eq_true.mp this d hd
end K51

end

section
set_option maxHeartbeats 1000000
namespace K51
open PySem PySem.Spec Mi
open L2 (atI ixN Key)
theorem is_integer_int (k : Nat) (i : Int) (S : Store) : orc defs (k + 1) 0 [.int i] S = some (.bl true, S) := by
  rw [orc_at (d := d_is_integer) rfl]
  simp only [d_is_integer, b_is_integer, bnd_some, bnd_none, opt_some, opt_none, seqF_next, seqF_brk, seqF_cnt, seqF_ret, ts_nil, ts_cons, out_ret, out_next, ite_t, ite_f, bop_and_t, bop_and_f, bop_or_t, bop_or_f, bb_and_t, bb_and_f, bb_or_t, bb_or_f, slot_0, slot_s, e_con, b_con, e_var, b_var, e_glo, b_glo, e_tup, b_tup, e_lst, b_lst, e_dct, b_dct, e_op, b_op, e_neg, b_neg, e_not, b_not, e_bop, b_bop, e_cmp, b_cmp, e_chn, b_chn, e_ifx, b_ifx, e_ix, b_ix, e_sl, b_sl, e_call, b_call, e_bi, b_bi, e_mxd, b_mxd, e_isi, b_isi, e_isl, b_isl, e_lrg, b_lrg, e_mt, b_mt, e_lc, b_lc, e_rev, b_rev, e_gtp, e_lrg1, i_rng3, bop_1, bop_2, bb_1, bb_2, es_nil, es_cons, eo_none, eo_some, if_none, if_some, i_ex, i_rng1, i_rng2, i_enm, q_nm, q_tp, q_sb, setK_some, qs_nil, qs_cons, t_asg, t_aug, t_ex, t_ret, t_retN, t_iff, t_fr, t_whl, t_brk, t_cnt, t_pas, con_none, con_bool, con_int, con_str, neg_int, not_bl, int_int, add_int, sub_int, lt_int, le_int, gt_int, ge_int, eq_int, ne_int, is_nn, is_in, is_bb, isn_nn, isn_in, isn_bb, tr_non, tr_bl, tr_int, ty_non, ty_bl, ty_int, ty_tup, ty_ro, isa_int_int, isa_int_bool, isa_int_list, isa_int_tuple, isa_list_list, isa_list_tuple, isa_tuple_list, isa_tuple_tuple, sq_tup, sq_ro, bi_int_int, bi_int_bl, bi_tuple_tup, bi_min, bi_max, bi_len_tup, bi_len_ro, ix_tup, ix_ro, sl_tup, sl_ro, stays_tup, stays_ro, at_0, at_1, gc_ai, gc_aai, gc_aaai, gc_ab, gc_aab, gc_aaab, gc_an, gc_aan, gc_aaan, gc_same, wipe_nil, wipe_cons, sz_0, sz_1, sz_2, sz_3, sz_4, sz_5, sz_6, sz_7, sz_8, sz_9, sz_10, runDef, runFull, Def.full, startD, List.length_cons, List.length_nil, List.map_cons, List.map_nil, List.append_nil, List.nil_append, List.cons_append, List.drop_nil, List.drop_zero, List.set_cons_zero, List.set_cons_succ, List.replicate, if_true, if_false, Bool.not_true, Bool.not_false, Bool.true_or, Bool.false_or, Option.map_some, Option.map_none, Nat.zero_add, Nat.add_zero, Nat.sub_self, Nat.reduceAdd, Nat.reduceSub, ↓reduceIte, Bool.and_true, Bool.true_and, Bool.false_and, Bool.and_false, Int.cast_ofNat_Int, decide_true, decide_false, Int.reduceEq, Int.reduceLT, Int.reduceLE, Bool.false_eq_true]
theorem is_row_of (k : Nat) {d : D} {ds : List D} (S : Store) (h : seqOf S d = some ds) : orc defs (k + 1) 1 [d] S = some (.bl true, S) := by
  rw [orc_at (d := d_is_row) rfl]
  rcases ty_sq h with e | e
  · simp only [d_is_row, b_is_row, e, bnd_some, bnd_none, opt_some, opt_none, seqF_next, seqF_brk, seqF_cnt, seqF_ret, ts_nil, ts_cons, out_ret, out_next, ite_t, ite_f, bop_and_t, bop_and_f, bop_or_t, bop_or_f, bb_and_t, bb_and_f, bb_or_t, bb_or_f, slot_0, slot_s, e_con, b_con, e_var, b_var, e_glo, b_glo, e_tup, b_tup, e_lst, b_lst, e_dct, b_dct, e_op, b_op, e_neg, b_neg, e_not, b_not, e_bop, b_bop, e_cmp, b_cmp, e_chn, b_chn, e_ifx, b_ifx, e_ix, b_ix, e_sl, b_sl, e_call, b_call, e_bi, b_bi, e_mxd, b_mxd, e_isi, b_isi, e_isl, b_isl, e_lrg, b_lrg, e_mt, b_mt, e_lc, b_lc, e_rev, b_rev, e_gtp, e_lrg1, i_rng3, bop_1, bop_2, bb_1, bb_2, es_nil, es_cons, eo_none, eo_some, if_none, if_some, i_ex, i_rng1, i_rng2, i_enm, q_nm, q_tp, q_sb, setK_some, qs_nil, qs_cons, t_asg, t_aug, t_ex, t_ret, t_retN, t_iff, t_fr, t_whl, t_brk, t_cnt, t_pas, con_none, con_bool, con_int, con_str, neg_int, not_bl, int_int, add_int, sub_int, lt_int, le_int, gt_int, ge_int, eq_int, ne_int, is_nn, is_in, is_bb, isn_nn, isn_in, isn_bb, tr_non, tr_bl, tr_int, ty_non, ty_bl, ty_int, ty_tup, ty_ro, isa_int_int, isa_int_bool, isa_int_list, isa_int_tuple, isa_list_list, isa_list_tuple, isa_tuple_list, isa_tuple_tuple, sq_tup, sq_ro, bi_int_int, bi_int_bl, bi_tuple_tup, bi_min, bi_max, bi_len_tup, bi_len_ro, ix_tup, ix_ro, sl_tup, sl_ro, stays_tup, stays_ro, at_0, at_1, gc_ai, gc_aai, gc_aaai, gc_ab, gc_aab, gc_aaab, gc_an, gc_aan, gc_aaan, gc_same, wipe_nil, wipe_cons, sz_0, sz_1, sz_2, sz_3, sz_4, sz_5, sz_6, sz_7, sz_8, sz_9, sz_10, runDef, runFull, Def.full, startD, List.length_cons, List.length_nil, List.map_cons, List.map_nil, List.append_nil, List.nil_append, List.cons_append, List.drop_nil, List.drop_zero, List.set_cons_zero, List.set_cons_succ, List.replicate, if_true, if_false, Bool.not_true, Bool.not_false, Bool.true_or, Bool.false_or, Option.map_some, Option.map_none, Nat.zero_add, Nat.add_zero, Nat.sub_self, Nat.reduceAdd, Nat.reduceSub, ↓reduceIte, Bool.and_true, Bool.true_and, Bool.false_and, Bool.and_false, Int.cast_ofNat_Int, decide_true, decide_false, Int.reduceEq, Int.reduceLT, Int.reduceLE, Bool.false_eq_true]
  · simp only [d_is_row, b_is_row, e, bnd_some, bnd_none, opt_some, opt_none, seqF_next, seqF_brk, seqF_cnt, seqF_ret, ts_nil, ts_cons, out_ret, out_next, ite_t, ite_f, bop_and_t, bop_and_f, bop_or_t, bop_or_f, bb_and_t, bb_and_f, bb_or_t, bb_or_f, slot_0, slot_s, e_con, b_con, e_var, b_var, e_glo, b_glo, e_tup, b_tup, e_lst, b_lst, e_dct, b_dct, e_op, b_op, e_neg, b_neg, e_not, b_not, e_bop, b_bop, e_cmp, b_cmp, e_chn, b_chn, e_ifx, b_ifx, e_ix, b_ix, e_sl, b_sl, e_call, b_call, e_bi, b_bi, e_mxd, b_mxd, e_isi, b_isi, e_isl, b_isl, e_lrg, b_lrg, e_mt, b_mt, e_lc, b_lc, e_rev, b_rev, e_gtp, e_lrg1, i_rng3, bop_1, bop_2, bb_1, bb_2, es_nil, es_cons, eo_none, eo_some, if_none, if_some, i_ex, i_rng1, i_rng2, i_enm, q_nm, q_tp, q_sb, setK_some, qs_nil, qs_cons, t_asg, t_aug, t_ex, t_ret, t_retN, t_iff, t_fr, t_whl, t_brk, t_cnt, t_pas, con_none, con_bool, con_int, con_str, neg_int, not_bl, int_int, add_int, sub_int, lt_int, le_int, gt_int, ge_int, eq_int, ne_int, is_nn, is_in, is_bb, isn_nn, isn_in, isn_bb, tr_non, tr_bl, tr_int, ty_non, ty_bl, ty_int, ty_tup, ty_ro, isa_int_int, isa_int_bool, isa_int_list, isa_int_tuple, isa_list_list, isa_list_tuple, isa_tuple_list, isa_tuple_tuple, sq_tup, sq_ro, bi_int_int, bi_int_bl, bi_tuple_tup, bi_min, bi_max, bi_len_tup, bi_len_ro, ix_tup, ix_ro, sl_tup, sl_ro, stays_tup, stays_ro, at_0, at_1, gc_ai, gc_aai, gc_aaai, gc_ab, gc_aab, gc_aaab, gc_an, gc_aan, gc_aaan, gc_same, wipe_nil, wipe_cons, sz_0, sz_1, sz_2, sz_3, sz_4, sz_5, sz_6, sz_7, sz_8, sz_9, sz_10, runDef, runFull, Def.full, startD, List.length_cons, List.length_nil, List.map_cons, List.map_nil, List.append_nil, List.nil_append, List.cons_append, List.drop_nil, List.drop_zero, List.set_cons_zero, List.set_cons_succ, List.replicate, if_true, if_false, Bool.not_true, Bool.not_false, Bool.true_or, Bool.false_or, Option.map_some, Option.map_none, Nat.zero_add, Nat.add_zero, Nat.sub_self, Nat.reduceAdd, Nat.reduceSub, ↓reduceIte, Bool.and_true, Bool.true_and, Bool.false_and, Bool.and_false, Int.cast_ofNat_Int, decide_true, decide_false, Int.reduceEq, Int.reduceLT, Int.reduceLE, Bool.false_eq_true]
theorem is_pair_of (k : Nat) {d : D} {i j : Int} (S : Store) (h : seqOf S d = some [.int i, .int j]) (hj : 1 ≤ j) : orc defs (k + 2) 2 [d] S = some (.bl true, S) := by
  rw [orc_at (d := d_is_pair) rfl]
  simp only [d_is_pair, b_is_pair, bnd_some, bnd_none, opt_some, opt_none, seqF_next, seqF_brk, seqF_cnt, seqF_ret, ts_nil, ts_cons, out_ret, out_next, ite_t, ite_f, bop_and_t, bop_and_f, bop_or_t, bop_or_f, bb_and_t, bb_and_f, bb_or_t, bb_or_f, slot_0, slot_s, e_con, b_con, e_var, b_var, e_glo, b_glo, e_tup, b_tup, e_lst, b_lst, e_dct, b_dct, e_op, b_op, e_neg, b_neg, e_not, b_not, e_bop, b_bop, e_cmp, b_cmp, e_chn, b_chn, e_ifx, b_ifx, e_ix, b_ix, e_sl, b_sl, e_call, b_call, e_bi, b_bi, e_mxd, b_mxd, e_isi, b_isi, e_isl, b_isl, e_lrg, b_lrg, e_mt, b_mt, e_lc, b_lc, e_rev, b_rev, e_gtp, e_lrg1, i_rng3, bop_1, bop_2, bb_1, bb_2, es_nil, es_cons, eo_none, eo_some, if_none, if_some, i_ex, i_rng1, i_rng2, i_enm, q_nm, q_tp, q_sb, setK_some, qs_nil, qs_cons, t_asg, t_aug, t_ex, t_ret, t_retN, t_iff, t_fr, t_whl, t_brk, t_cnt, t_pas, con_none, con_bool, con_int, con_str, neg_int, not_bl, int_int, add_int, sub_int, lt_int, le_int, gt_int, ge_int, eq_int, ne_int, is_nn, is_in, is_bb, isn_nn, isn_in, isn_bb, tr_non, tr_bl, tr_int, ty_non, ty_bl, ty_int, ty_tup, ty_ro, isa_int_int, isa_int_bool, isa_int_list, isa_int_tuple, isa_list_list, isa_list_tuple, isa_tuple_list, isa_tuple_tuple, sq_tup, sq_ro, bi_int_int, bi_int_bl, bi_tuple_tup, bi_min, bi_max, bi_len_tup, bi_len_ro, ix_tup, ix_ro, sl_tup, sl_ro, stays_tup, stays_ro, at_0, at_1, gc_ai, gc_aai, gc_aaai, gc_ab, gc_aab, gc_aaab, gc_an, gc_aan, gc_aaan, gc_same, wipe_nil, wipe_cons, sz_0, sz_1, sz_2, sz_3, sz_4, sz_5, sz_6, sz_7, sz_8, sz_9, sz_10, runDef, runFull, Def.full, startD, List.length_cons, List.length_nil, List.map_cons, List.map_nil, List.append_nil, List.nil_append, List.cons_append, List.drop_nil, List.drop_zero, List.set_cons_zero, List.set_cons_succ, List.replicate, if_true, if_false, Bool.not_true, Bool.not_false, Bool.true_or, Bool.false_or, Option.map_some, Option.map_none, Nat.zero_add, Nat.add_zero, Nat.sub_self, Nat.reduceAdd, Nat.reduceSub, ↓reduceIte, Bool.and_true, Bool.true_and, Bool.false_and, Bool.and_false, Int.cast_ofNat_Int, decide_true, decide_false, Int.reduceEq, Int.reduceLT, Int.reduceLE, Bool.false_eq_true, is_row_of k S h, len_sq h, ix_sq h, is_integer_int, decide_eq_true hj]
/-- the walk of wrong_at: what stands ahead of the rest -/
def Last (S : Store) (ds : List D) (i : Nat) (tw : List (Int × Int)) : Prop := 0 < i → ∃ d p, ds[i - 1]? = some d ∧ seqOf S d = some [.int p.1, .int p.2] ∧ ∀ q ∈ tw, (p : Int × Int).1 < q.1
theorem wrong_at_of (k : Nat) {v : D} {tw : List (Int × Int)} {S : Store} (hv : IsTw S v tw) : orc defs (k + 3) 3 [v] S = some (.non, S) := by
  obtain ⟨⟨ds, h, ht⟩, hf, -⟩ := hv
  rw [orc_at (d := d_wrong_at) rfl]
  simp only [d_wrong_at, b_wrong_at, bnd_some, bnd_none, opt_some, opt_none, seqF_next, seqF_brk, seqF_cnt, seqF_ret, ts_nil, ts_cons, out_ret, out_next, ite_t, ite_f, bop_and_t, bop_and_f, bop_or_t, bop_or_f, bb_and_t, bb_and_f, bb_or_t, bb_or_f, slot_0, slot_s, e_con, b_con, e_var, b_var, e_glo, b_glo, e_tup, b_tup, e_lst, b_lst, e_dct, b_dct, e_op, b_op, e_neg, b_neg, e_not, b_not, e_bop, b_bop, e_cmp, b_cmp, e_chn, b_chn, e_ifx, b_ifx, e_ix, b_ix, e_sl, b_sl, e_call, b_call, e_bi, b_bi, e_mxd, b_mxd, e_isi, b_isi, e_isl, b_isl, e_lrg, b_lrg, e_mt, b_mt, e_lc, b_lc, e_rev, b_rev, e_gtp, e_lrg1, i_rng3, bop_1, bop_2, bb_1, bb_2, es_nil, es_cons, eo_none, eo_some, if_none, if_some, i_ex, i_rng1, i_rng2, i_enm, q_nm, q_tp, q_sb, setK_some, qs_nil, qs_cons, t_asg, t_aug, t_ex, t_ret, t_retN, t_iff, t_fr, t_whl, t_brk, t_cnt, t_pas, con_none, con_bool, con_int, con_str, neg_int, not_bl, int_int, add_int, sub_int, lt_int, le_int, gt_int, ge_int, eq_int, ne_int, is_nn, is_in, is_bb, isn_nn, isn_in, isn_bb, tr_non, tr_bl, tr_int, ty_non, ty_bl, ty_int, ty_tup, ty_ro, isa_int_int, isa_int_bool, isa_int_list, isa_int_tuple, isa_list_list, isa_list_tuple, isa_tuple_list, isa_tuple_tuple, sq_tup, sq_ro, bi_int_int, bi_int_bl, bi_tuple_tup, bi_min, bi_max, bi_len_tup, bi_len_ro, ix_tup, ix_ro, sl_tup, sl_ro, stays_tup, stays_ro, at_0, at_1, gc_ai, gc_aai, gc_aaai, gc_ab, gc_aab, gc_aaab, gc_an, gc_aan, gc_aaan, gc_same, wipe_nil, wipe_cons, sz_0, sz_1, sz_2, sz_3, sz_4, sz_5, sz_6, sz_7, sz_8, sz_9, sz_10, runDef, runFull, Def.full, startD, List.length_cons, List.length_nil, List.map_cons, List.map_nil, List.append_nil, List.nil_append, List.cons_append, List.drop_nil, List.drop_zero, List.set_cons_zero, List.set_cons_succ, List.replicate, if_true, if_false, Bool.not_true, Bool.not_false, Bool.true_or, Bool.false_or, Option.map_some, Option.map_none, Nat.zero_add, Nat.add_zero, Nat.sub_self, Nat.reduceAdd, Nat.reduceSub, ↓reduceIte, Bool.and_true, Bool.true_and, Bool.false_and, Bool.and_false, Int.cast_ofNat_Int, decide_true, decide_false, Int.reduceEq, Int.reduceLT, Int.reduceLE, Bool.false_eq_true, is_row_of (k + 1) S h, h]
  generalize hX : forD _ _ _ _ _ _ = X
  have key := for_X hX (fun its σ S' => S' = S ∧ (∃ a b, σ = [some v, a, b]) ∧ ∃ (i : Nat) (rest : List D) (tr : List (Int × Int)), its = enumD i rest ∧ rest = ds.drop i ∧ TwL S rest tr ∧ Fine tr ∧ Last S ds i tr)
    (fun X => ∃ σ, X = some (.next σ, S)) ⟨rfl, ⟨none, none, rfl⟩, 0, ds, tw, rfl, by simp, ht, hf, fun z => absurd z (by simp)⟩ (fun σ S' ⟨e, _⟩ => by subst e; exact ⟨stays_sq h, σ, rfl⟩) ?_
  · obtain ⟨σ, rfl⟩ := key
    simp only [bnd_some, bnd_none, opt_some, opt_none, seqF_next, seqF_brk, seqF_cnt, seqF_ret, ts_nil, ts_cons, out_ret, out_next, ite_t, ite_f, bop_and_t, bop_and_f, bop_or_t, bop_or_f, bb_and_t, bb_and_f, bb_or_t, bb_or_f, slot_0, slot_s, e_con, b_con, e_var, b_var, e_glo, b_glo, e_tup, b_tup, e_lst, b_lst, e_dct, b_dct, e_op, b_op, e_neg, b_neg, e_not, b_not, e_bop, b_bop, e_cmp, b_cmp, e_chn, b_chn, e_ifx, b_ifx, e_ix, b_ix, e_sl, b_sl, e_call, b_call, e_bi, b_bi, e_mxd, b_mxd, e_isi, b_isi, e_isl, b_isl, e_lrg, b_lrg, e_mt, b_mt, e_lc, b_lc, e_rev, b_rev, e_gtp, e_lrg1, i_rng3, bop_1, bop_2, bb_1, bb_2, es_nil, es_cons, eo_none, eo_some, if_none, if_some, i_ex, i_rng1, i_rng2, i_enm, q_nm, q_tp, q_sb, setK_some, qs_nil, qs_cons, t_asg, t_aug, t_ex, t_ret, t_retN, t_iff, t_fr, t_whl, t_brk, t_cnt, t_pas, con_none, con_bool, con_int, con_str, neg_int, not_bl, int_int, add_int, sub_int, lt_int, le_int, gt_int, ge_int, eq_int, ne_int, is_nn, is_in, is_bb, isn_nn, isn_in, isn_bb, tr_non, tr_bl, tr_int, ty_non, ty_bl, ty_int, ty_tup, ty_ro, isa_int_int, isa_int_bool, isa_int_list, isa_int_tuple, isa_list_list, isa_list_tuple, isa_tuple_list, isa_tuple_tuple, sq_tup, sq_ro, bi_int_int, bi_int_bl, bi_tuple_tup, bi_min, bi_max, bi_len_tup, bi_len_ro, ix_tup, ix_ro, sl_tup, sl_ro, stays_tup, stays_ro, at_0, at_1, gc_ai, gc_aai, gc_aaai, gc_ab, gc_aab, gc_aaab, gc_an, gc_aan, gc_aaan, gc_same, wipe_nil, wipe_cons, sz_0, sz_1, sz_2, sz_3, sz_4, sz_5, sz_6, sz_7, sz_8, sz_9, sz_10, runDef, runFull, Def.full, startD, List.length_cons, List.length_nil, List.map_cons, List.map_nil, List.append_nil, List.nil_append, List.cons_append, List.drop_nil, List.drop_zero, List.set_cons_zero, List.set_cons_succ, List.replicate, if_true, if_false, Bool.not_true, Bool.not_false, Bool.true_or, Bool.false_or, Option.map_some, Option.map_none, Nat.zero_add, Nat.add_zero, Nat.sub_self, Nat.reduceAdd, Nat.reduceSub, ↓reduceIte, Bool.and_true, Bool.true_and, Bool.false_and, Bool.and_false, Int.cast_ofNat_Int, decide_true, decide_false, Int.reduceEq, Int.reduceLT, Int.reduceLE, Bool.false_eq_true]
  · clear hX X
    rintro x r σ S' ⟨rfl, ⟨a, b, rfl⟩, i, rest, tr, e1, e2, h3, h4, h5⟩
    refine ⟨stays_sq h, ?_⟩
    cases rest with
    | nil => simp [enumD] at e1
    | cons d rest =>
      cases tr with
      | nil => exact h3.elim
      | cons p tr =>
        obtain ⟨g1, g2⟩ := h3
        obtain ⟨f1, f2, f3⟩ := h4
        rw [enumD] at e1
        injection e1 with e3 e4
        subst e3 e4
        have nxt : ∀ {X : Option (Fl × Store)}, X = some (.next [some v, some (.int i), some d], S') → stepOk (fun σ T => T = S' ∧ (∃ a b, σ = [some v, a, b]) ∧ ∃ (j : Nat) (rest' : List D) (tr : List (Int × Int)), enumD (↑i + 1) rest = enumD j rest' ∧ rest' = ds.drop j ∧ TwL S' rest' tr ∧ Fine tr ∧ Last S' ds j tr) (fun X => ∃ σ, X = some (.next σ, S')) X := by
          rintro X rfl
          refine ⟨rfl, ⟨_, _, rfl⟩, i + 1, rest, tr, by simp, ?_, g2, f3, fun _ => ⟨d, p, ?_, g1, f2⟩⟩
          · rw [← List.drop_drop, ← e2]; rfl
          · have : (ds.drop i)[0]? = some d := by rw [← e2]; rfl
            simpa using this
        cases i with
        | zero =>
          refine nxt ?_
          simp only [bnd_some, bnd_none, opt_some, opt_none, seqF_next, seqF_brk, seqF_cnt, seqF_ret, ts_nil, ts_cons, out_ret, out_next, ite_t, ite_f, bop_and_t, bop_and_f, bop_or_t, bop_or_f, bb_and_t, bb_and_f, bb_or_t, bb_or_f, slot_0, slot_s, e_con, b_con, e_var, b_var, e_glo, b_glo, e_tup, b_tup, e_lst, b_lst, e_dct, b_dct, e_op, b_op, e_neg, b_neg, e_not, b_not, e_bop, b_bop, e_cmp, b_cmp, e_chn, b_chn, e_ifx, b_ifx, e_ix, b_ix, e_sl, b_sl, e_call, b_call, e_bi, b_bi, e_mxd, b_mxd, e_isi, b_isi, e_isl, b_isl, e_lrg, b_lrg, e_mt, b_mt, e_lc, b_lc, e_rev, b_rev, e_gtp, e_lrg1, i_rng3, bop_1, bop_2, bb_1, bb_2, es_nil, es_cons, eo_none, eo_some, if_none, if_some, i_ex, i_rng1, i_rng2, i_enm, q_nm, q_tp, q_sb, setK_some, qs_nil, qs_cons, t_asg, t_aug, t_ex, t_ret, t_retN, t_iff, t_fr, t_whl, t_brk, t_cnt, t_pas, con_none, con_bool, con_int, con_str, neg_int, not_bl, int_int, add_int, sub_int, lt_int, le_int, gt_int, ge_int, eq_int, ne_int, is_nn, is_in, is_bb, isn_nn, isn_in, isn_bb, tr_non, tr_bl, tr_int, ty_non, ty_bl, ty_int, ty_tup, ty_ro, isa_int_int, isa_int_bool, isa_int_list, isa_int_tuple, isa_list_list, isa_list_tuple, isa_tuple_list, isa_tuple_tuple, sq_tup, sq_ro, bi_int_int, bi_int_bl, bi_tuple_tup, bi_min, bi_max, bi_len_tup, bi_len_ro, ix_tup, ix_ro, sl_tup, sl_ro, stays_tup, stays_ro, at_0, at_1, gc_ai, gc_aai, gc_aaai, gc_ab, gc_aab, gc_aaab, gc_an, gc_aan, gc_aaan, gc_same, wipe_nil, wipe_cons, sz_0, sz_1, sz_2, sz_3, sz_4, sz_5, sz_6, sz_7, sz_8, sz_9, sz_10, runDef, runFull, Def.full, startD, List.length_cons, List.length_nil, List.map_cons, List.map_nil, List.append_nil, List.nil_append, List.cons_append, List.drop_nil, List.drop_zero, List.set_cons_zero, List.set_cons_succ, List.replicate, if_true, if_false, Bool.not_true, Bool.not_false, Bool.true_or, Bool.false_or, Option.map_some, Option.map_none, Nat.zero_add, Nat.add_zero, Nat.sub_self, Nat.reduceAdd, Nat.reduceSub, ↓reduceIte, Bool.and_true, Bool.true_and, Bool.false_and, Bool.and_false, Int.cast_ofNat_Int, decide_true, decide_false, Int.reduceEq, Int.reduceLT, Int.reduceLE, Bool.false_eq_true, is_pair_of k S' g1 f1, Int.natCast_zero]
        | succ i =>
          obtain ⟨d', q, q1, q2, q3⟩ := h5 (by omega)
          have e5 : ((i + 1 : Nat) : Int) - 1 = (i : Nat) := by omega
          have e6 : atI ds (i : Nat) = some d' := at_nat (by simpa using q1)
          have e7 : decide ((0 : Int) < ((i + 1 : Nat) : Int)) = true := decide_eq_true (by omega)
          have e8 : decide (p.1 ≤ q.1) = false := decide_eq_false (by have := q3 p (List.mem_cons_self ..); omega)
          refine nxt ?_
          simp only [bnd_some, bnd_none, opt_some, opt_none, seqF_next, seqF_brk, seqF_cnt, seqF_ret, ts_nil, ts_cons, out_ret, out_next, ite_t, ite_f, bop_and_t, bop_and_f, bop_or_t, bop_or_f, bb_and_t, bb_and_f, bb_or_t, bb_or_f, slot_0, slot_s, e_con, b_con, e_var, b_var, e_glo, b_glo, e_tup, b_tup, e_lst, b_lst, e_dct, b_dct, e_op, b_op, e_neg, b_neg, e_not, b_not, e_bop, b_bop, e_cmp, b_cmp, e_chn, b_chn, e_ifx, b_ifx, e_ix, b_ix, e_sl, b_sl, e_call, b_call, e_bi, b_bi, e_mxd, b_mxd, e_isi, b_isi, e_isl, b_isl, e_lrg, b_lrg, e_mt, b_mt, e_lc, b_lc, e_rev, b_rev, e_gtp, e_lrg1, i_rng3, bop_1, bop_2, bb_1, bb_2, es_nil, es_cons, eo_none, eo_some, if_none, if_some, i_ex, i_rng1, i_rng2, i_enm, q_nm, q_tp, q_sb, setK_some, qs_nil, qs_cons, t_asg, t_aug, t_ex, t_ret, t_retN, t_iff, t_fr, t_whl, t_brk, t_cnt, t_pas, con_none, con_bool, con_int, con_str, neg_int, not_bl, int_int, add_int, sub_int, lt_int, le_int, gt_int, ge_int, eq_int, ne_int, is_nn, is_in, is_bb, isn_nn, isn_in, isn_bb, tr_non, tr_bl, tr_int, ty_non, ty_bl, ty_int, ty_tup, ty_ro, isa_int_int, isa_int_bool, isa_int_list, isa_int_tuple, isa_list_list, isa_list_tuple, isa_tuple_list, isa_tuple_tuple, sq_tup, sq_ro, bi_int_int, bi_int_bl, bi_tuple_tup, bi_min, bi_max, bi_len_tup, bi_len_ro, ix_tup, ix_ro, sl_tup, sl_ro, stays_tup, stays_ro, at_0, at_1, gc_ai, gc_aai, gc_aaai, gc_ab, gc_aab, gc_aaab, gc_an, gc_aan, gc_aaan, gc_same, wipe_nil, wipe_cons, sz_0, sz_1, sz_2, sz_3, sz_4, sz_5, sz_6, sz_7, sz_8, sz_9, sz_10, runDef, runFull, Def.full, startD, List.length_cons, List.length_nil, List.map_cons, List.map_nil, List.append_nil, List.nil_append, List.cons_append, List.drop_nil, List.drop_zero, List.set_cons_zero, List.set_cons_succ, List.replicate, if_true, if_false, Bool.not_true, Bool.not_false, Bool.true_or, Bool.false_or, Option.map_some, Option.map_none, Nat.zero_add, Nat.add_zero, Nat.sub_self, Nat.reduceAdd, Nat.reduceSub, ↓reduceIte, Bool.and_true, Bool.true_and, Bool.false_and, Bool.and_false, Int.cast_ofNat_Int, decide_true, decide_false, Int.reduceEq, Int.reduceLT, Int.reduceLE, Bool.false_eq_true, is_pair_of k S' g1 f1, e5, e6, e7, e8, ix_sq h, ix_sq q2, ix_sq g1]
theorem checked_of (k : Nat) {v : D} {tw : List (Int × Int)} {S : Store} (hv : IsTw S v tw) : orc defs (k + 4) 4 [v] S = some (.tup (tw.map prD), S) := by
  rw [orc_at (d := d_checked) rfl]
  have hw := wrong_at_of k hv
  obtain ⟨⟨ds, h, ht⟩, hf, hl⟩ := hv
  simp only [d_checked, b_checked, bnd_some, bnd_none, opt_some, opt_none, seqF_next, seqF_brk, seqF_cnt, seqF_ret, ts_nil, ts_cons, out_ret, out_next, ite_t, ite_f, bop_and_t, bop_and_f, bop_or_t, bop_or_f, bb_and_t, bb_and_f, bb_or_t, bb_or_f, slot_0, slot_s, e_con, b_con, e_var, b_var, e_glo, b_glo, e_tup, b_tup, e_lst, b_lst, e_dct, b_dct, e_op, b_op, e_neg, b_neg, e_not, b_not, e_bop, b_bop, e_cmp, b_cmp, e_chn, b_chn, e_ifx, b_ifx, e_ix, b_ix, e_sl, b_sl, e_call, b_call, e_bi, b_bi, e_mxd, b_mxd, e_isi, b_isi, e_isl, b_isl, e_lrg, b_lrg, e_mt, b_mt, e_lc, b_lc, e_rev, b_rev, e_gtp, e_lrg1, i_rng3, bop_1, bop_2, bb_1, bb_2, es_nil, es_cons, eo_none, eo_some, if_none, if_some, i_ex, i_rng1, i_rng2, i_enm, q_nm, q_tp, q_sb, setK_some, qs_nil, qs_cons, t_asg, t_aug, t_ex, t_ret, t_retN, t_iff, t_fr, t_whl, t_brk, t_cnt, t_pas, con_none, con_bool, con_int, con_str, neg_int, not_bl, int_int, add_int, sub_int, lt_int, le_int, gt_int, ge_int, eq_int, ne_int, is_nn, is_in, is_bb, isn_nn, isn_in, isn_bb, tr_non, tr_bl, tr_int, ty_non, ty_bl, ty_int, ty_tup, ty_ro, isa_int_int, isa_int_bool, isa_int_list, isa_int_tuple, isa_list_list, isa_list_tuple, isa_tuple_list, isa_tuple_tuple, sq_tup, sq_ro, bi_int_int, bi_int_bl, bi_tuple_tup, bi_min, bi_max, bi_len_tup, bi_len_ro, ix_tup, ix_ro, sl_tup, sl_ro, stays_tup, stays_ro, at_0, at_1, gc_ai, gc_aai, gc_aaai, gc_ab, gc_aab, gc_aaab, gc_an, gc_aan, gc_aaan, gc_same, wipe_nil, wipe_cons, sz_0, sz_1, sz_2, sz_3, sz_4, sz_5, sz_6, sz_7, sz_8, sz_9, sz_10, runDef, runFull, Def.full, startD, List.length_cons, List.length_nil, List.map_cons, List.map_nil, List.append_nil, List.nil_append, List.cons_append, List.drop_nil, List.drop_zero, List.set_cons_zero, List.set_cons_succ, List.replicate, if_true, if_false, Bool.not_true, Bool.not_false, Bool.true_or, Bool.false_or, Option.map_some, Option.map_none, Nat.zero_add, Nat.add_zero, Nat.sub_self, Nat.reduceAdd, Nat.reduceSub, ↓reduceIte, Bool.and_true, Bool.true_and, Bool.false_and, Bool.and_false, Int.cast_ofNat_Int, decide_true, decide_false, Int.reduceEq, Int.reduceLT, Int.reduceLE, Bool.false_eq_true, hw, h]
  generalize hX : lcD _ _ _ _ _ _ _ = X
  have e := hX.symm.trans (lcD_tw0 prD (stays_sq h) ht (fun d q hq hd => ⟨[some v, some .non, some (.int q.1), some (.int q.2)], by simp only [bnd_some, bnd_none, opt_some, opt_none, seqF_next, seqF_brk, seqF_cnt, seqF_ret, ts_nil, ts_cons, out_ret, out_next, ite_t, ite_f, bop_and_t, bop_and_f, bop_or_t, bop_or_f, bb_and_t, bb_and_f, bb_or_t, bb_or_f, slot_0, slot_s, e_con, b_con, e_var, b_var, e_glo, b_glo, e_tup, b_tup, e_lst, b_lst, e_dct, b_dct, e_op, b_op, e_neg, b_neg, e_not, b_not, e_bop, b_bop, e_cmp, b_cmp, e_chn, b_chn, e_ifx, b_ifx, e_ix, b_ix, e_sl, b_sl, e_call, b_call, e_bi, b_bi, e_mxd, b_mxd, e_isi, b_isi, e_isl, b_isl, e_lrg, b_lrg, e_mt, b_mt, e_lc, b_lc, e_rev, b_rev, e_gtp, e_lrg1, i_rng3, bop_1, bop_2, bb_1, bb_2, es_nil, es_cons, eo_none, eo_some, if_none, if_some, i_ex, i_rng1, i_rng2, i_enm, q_nm, q_tp, q_sb, setK_some, qs_nil, qs_cons, t_asg, t_aug, t_ex, t_ret, t_retN, t_iff, t_fr, t_whl, t_brk, t_cnt, t_pas, con_none, con_bool, con_int, con_str, neg_int, not_bl, int_int, add_int, sub_int, lt_int, le_int, gt_int, ge_int, eq_int, ne_int, is_nn, is_in, is_bb, isn_nn, isn_in, isn_bb, tr_non, tr_bl, tr_int, ty_non, ty_bl, ty_int, ty_tup, ty_ro, isa_int_int, isa_int_bool, isa_int_list, isa_int_tuple, isa_list_list, isa_list_tuple, isa_tuple_list, isa_tuple_tuple, sq_tup, sq_ro, bi_int_int, bi_int_bl, bi_tuple_tup, bi_min, bi_max, bi_len_tup, bi_len_ro, ix_tup, ix_ro, sl_tup, sl_ro, stays_tup, stays_ro, at_0, at_1, gc_ai, gc_aai, gc_aaai, gc_ab, gc_aab, gc_aaab, gc_an, gc_aan, gc_aaan, gc_same, wipe_nil, wipe_cons, sz_0, sz_1, sz_2, sz_3, sz_4, sz_5, sz_6, sz_7, sz_8, sz_9, sz_10, runDef, runFull, Def.full, startD, List.length_cons, List.length_nil, List.map_cons, List.map_nil, List.append_nil, List.nil_append, List.cons_append, List.drop_nil, List.drop_zero, List.set_cons_zero, List.set_cons_succ, List.replicate, if_true, if_false, Bool.not_true, Bool.not_false, Bool.true_or, Bool.false_or, Option.map_some, Option.map_none, Nat.zero_add, Nat.add_zero, Nat.sub_self, Nat.reduceAdd, Nat.reduceSub, ↓reduceIte, Bool.and_true, Bool.true_and, Bool.false_and, Bool.and_false, Int.cast_ofNat_Int, decide_true, decide_false, Int.reduceEq, Int.reduceLT, Int.reduceLE, Bool.false_eq_true, hd], by simp only [bnd_some, bnd_none, opt_some, opt_none, seqF_next, seqF_brk, seqF_cnt, seqF_ret, ts_nil, ts_cons, out_ret, out_next, ite_t, ite_f, bop_and_t, bop_and_f, bop_or_t, bop_or_f, bb_and_t, bb_and_f, bb_or_t, bb_or_f, slot_0, slot_s, e_con, b_con, e_var, b_var, e_glo, b_glo, e_tup, b_tup, e_lst, b_lst, e_dct, b_dct, e_op, b_op, e_neg, b_neg, e_not, b_not, e_bop, b_bop, e_cmp, b_cmp, e_chn, b_chn, e_ifx, b_ifx, e_ix, b_ix, e_sl, b_sl, e_call, b_call, e_bi, b_bi, e_mxd, b_mxd, e_isi, b_isi, e_isl, b_isl, e_lrg, b_lrg, e_mt, b_mt, e_lc, b_lc, e_rev, b_rev, e_gtp, e_lrg1, i_rng3, bop_1, bop_2, bb_1, bb_2, es_nil, es_cons, eo_none, eo_some, if_none, if_some, i_ex, i_rng1, i_rng2, i_enm, q_nm, q_tp, q_sb, setK_some, qs_nil, qs_cons, t_asg, t_aug, t_ex, t_ret, t_retN, t_iff, t_fr, t_whl, t_brk, t_cnt, t_pas, con_none, con_bool, con_int, con_str, neg_int, not_bl, int_int, add_int, sub_int, lt_int, le_int, gt_int, ge_int, eq_int, ne_int, is_nn, is_in, is_bb, isn_nn, isn_in, isn_bb, tr_non, tr_bl, tr_int, ty_non, ty_bl, ty_int, ty_tup, ty_ro, isa_int_int, isa_int_bool, isa_int_list, isa_int_tuple, isa_list_list, isa_list_tuple, isa_tuple_list, isa_tuple_tuple, sq_tup, sq_ro, bi_int_int, bi_int_bl, bi_tuple_tup, bi_min, bi_max, bi_len_tup, bi_len_ro, ix_tup, ix_ro, sl_tup, sl_ro, stays_tup, stays_ro, at_0, at_1, gc_ai, gc_aai, gc_aaai, gc_ab, gc_aab, gc_aaab, gc_an, gc_aan, gc_aaan, gc_same, wipe_nil, wipe_cons, sz_0, sz_1, sz_2, sz_3, sz_4, sz_5, sz_6, sz_7, sz_8, sz_9, sz_10, runDef, runFull, Def.full, startD, List.length_cons, List.length_nil, List.map_cons, List.map_nil, List.append_nil, List.nil_append, List.cons_append, List.drop_nil, List.drop_zero, List.set_cons_zero, List.set_cons_succ, List.replicate, if_true, if_false, Bool.not_true, Bool.not_false, Bool.true_or, Bool.false_or, Option.map_some, Option.map_none, Nat.zero_add, Nat.add_zero, Nat.sub_self, Nat.reduceAdd, Nat.reduceSub, ↓reduceIte, Bool.and_true, Bool.true_and, Bool.false_and, Bool.and_false, Int.cast_ofNat_Int, decide_true, decide_false, Int.reduceEq, Int.reduceLT, Int.reduceLE, Bool.false_eq_true], by simp only [bnd_some, bnd_none, opt_some, opt_none, seqF_next, seqF_brk, seqF_cnt, seqF_ret, ts_nil, ts_cons, out_ret, out_next, ite_t, ite_f, bop_and_t, bop_and_f, bop_or_t, bop_or_f, bb_and_t, bb_and_f, bb_or_t, bb_or_f, slot_0, slot_s, e_con, b_con, e_var, b_var, e_glo, b_glo, e_tup, b_tup, e_lst, b_lst, e_dct, b_dct, e_op, b_op, e_neg, b_neg, e_not, b_not, e_bop, b_bop, e_cmp, b_cmp, e_chn, b_chn, e_ifx, b_ifx, e_ix, b_ix, e_sl, b_sl, e_call, b_call, e_bi, b_bi, e_mxd, b_mxd, e_isi, b_isi, e_isl, b_isl, e_lrg, b_lrg, e_mt, b_mt, e_lc, b_lc, e_rev, b_rev, e_gtp, e_lrg1, i_rng3, bop_1, bop_2, bb_1, bb_2, es_nil, es_cons, eo_none, eo_some, if_none, if_some, i_ex, i_rng1, i_rng2, i_enm, q_nm, q_tp, q_sb, setK_some, qs_nil, qs_cons, t_asg, t_aug, t_ex, t_ret, t_retN, t_iff, t_fr, t_whl, t_brk, t_cnt, t_pas, con_none, con_bool, con_int, con_str, neg_int, not_bl, int_int, add_int, sub_int, lt_int, le_int, gt_int, ge_int, eq_int, ne_int, is_nn, is_in, is_bb, isn_nn, isn_in, isn_bb, tr_non, tr_bl, tr_int, ty_non, ty_bl, ty_int, ty_tup, ty_ro, isa_int_int, isa_int_bool, isa_int_list, isa_int_tuple, isa_list_list, isa_list_tuple, isa_tuple_list, isa_tuple_tuple, sq_tup, sq_ro, bi_int_int, bi_int_bl, bi_tuple_tup, bi_min, bi_max, bi_len_tup, bi_len_ro, ix_tup, ix_ro, sl_tup, sl_ro, stays_tup, stays_ro, at_0, at_1, gc_ai, gc_aai, gc_aaai, gc_ab, gc_aab, gc_aaab, gc_an, gc_aan, gc_aaan, gc_same, wipe_nil, wipe_cons, sz_0, sz_1, sz_2, sz_3, sz_4, sz_5, sz_6, sz_7, sz_8, sz_9, sz_10, runDef, runFull, Def.full, startD, List.length_cons, List.length_nil, List.map_cons, List.map_nil, List.append_nil, List.nil_append, List.cons_append, List.drop_nil, List.drop_zero, List.set_cons_zero, List.set_cons_succ, List.replicate, if_true, if_false, Bool.not_true, Bool.not_false, Bool.true_or, Bool.false_or, Option.map_some, Option.map_none, Nat.zero_add, Nat.add_zero, Nat.sub_self, Nat.reduceAdd, Nat.reduceSub, ↓reduceIte, Bool.and_true, Bool.true_and, Bool.false_and, Bool.and_false, Int.cast_ofNat_Int, decide_true, decide_false, Int.reduceEq, Int.reduceLT, Int.reduceLE, Bool.false_eq_true]; rfl⟩) (small hl))
  subst e
  simp only [bnd_some, bnd_none, opt_some, opt_none, seqF_next, seqF_brk, seqF_cnt, seqF_ret, ts_nil, ts_cons, out_ret, out_next, ite_t, ite_f, bop_and_t, bop_and_f, bop_or_t, bop_or_f, bb_and_t, bb_and_f, bb_or_t, bb_or_f, slot_0, slot_s, e_con, b_con, e_var, b_var, e_glo, b_glo, e_tup, b_tup, e_lst, b_lst, e_dct, b_dct, e_op, b_op, e_neg, b_neg, e_not, b_not, e_bop, b_bop, e_cmp, b_cmp, e_chn, b_chn, e_ifx, b_ifx, e_ix, b_ix, e_sl, b_sl, e_call, b_call, e_bi, b_bi, e_mxd, b_mxd, e_isi, b_isi, e_isl, b_isl, e_lrg, b_lrg, e_mt, b_mt, e_lc, b_lc, e_rev, b_rev, e_gtp, e_lrg1, i_rng3, bop_1, bop_2, bb_1, bb_2, es_nil, es_cons, eo_none, eo_some, if_none, if_some, i_ex, i_rng1, i_rng2, i_enm, q_nm, q_tp, q_sb, setK_some, qs_nil, qs_cons, t_asg, t_aug, t_ex, t_ret, t_retN, t_iff, t_fr, t_whl, t_brk, t_cnt, t_pas, con_none, con_bool, con_int, con_str, neg_int, not_bl, int_int, add_int, sub_int, lt_int, le_int, gt_int, ge_int, eq_int, ne_int, is_nn, is_in, is_bb, isn_nn, isn_in, isn_bb, tr_non, tr_bl, tr_int, ty_non, ty_bl, ty_int, ty_tup, ty_ro, isa_int_int, isa_int_bool, isa_int_list, isa_int_tuple, isa_list_list, isa_list_tuple, isa_tuple_list, isa_tuple_tuple, sq_tup, sq_ro, bi_int_int, bi_int_bl, bi_tuple_tup, bi_min, bi_max, bi_len_tup, bi_len_ro, ix_tup, ix_ro, sl_tup, sl_ro, stays_tup, stays_ro, at_0, at_1, gc_ai, gc_aai, gc_aaai, gc_ab, gc_aab, gc_aaab, gc_an, gc_aan, gc_aaan, gc_same, wipe_nil, wipe_cons, sz_0, sz_1, sz_2, sz_3, sz_4, sz_5, sz_6, sz_7, sz_8, sz_9, sz_10, runDef, runFull, Def.full, startD, List.length_cons, List.length_nil, List.map_cons, List.map_nil, List.append_nil, List.nil_append, List.cons_append, List.drop_nil, List.drop_zero, List.set_cons_zero, List.set_cons_succ, List.replicate, if_true, if_false, Bool.not_true, Bool.not_false, Bool.true_or, Bool.false_or, Option.map_some, Option.map_none, Nat.zero_add, Nat.add_zero, Nat.sub_self, Nat.reduceAdd, Nat.reduceSub, ↓reduceIte, Bool.and_true, Bool.true_and, Bool.false_and, Bool.and_false, Int.cast_ofNat_Int, decide_true, decide_false, Int.reduceEq, Int.reduceLT, Int.reduceLE, Bool.false_eq_true, tuple_loc look_new, gc_tupa (prs_pure tw)]
theorem look_key_of (k : Nat) {i : Int} {S : Store} : orc defs (k + 2) 5 [.int i] S = some (.non, S) := by
  rw [orc_at (d := d_look_key) rfl]
  simp only [d_look_key, b_look_key, bnd_some, bnd_none, opt_some, opt_none, seqF_next, seqF_brk, seqF_cnt, seqF_ret, ts_nil, ts_cons, out_ret, out_next, ite_t, ite_f, bop_and_t, bop_and_f, bop_or_t, bop_or_f, bb_and_t, bb_and_f, bb_or_t, bb_or_f, slot_0, slot_s, e_con, b_con, e_var, b_var, e_glo, b_glo, e_tup, b_tup, e_lst, b_lst, e_dct, b_dct, e_op, b_op, e_neg, b_neg, e_not, b_not, e_bop, b_bop, e_cmp, b_cmp, e_chn, b_chn, e_ifx, b_ifx, e_ix, b_ix, e_sl, b_sl, e_call, b_call, e_bi, b_bi, e_mxd, b_mxd, e_isi, b_isi, e_isl, b_isl, e_lrg, b_lrg, e_mt, b_mt, e_lc, b_lc, e_rev, b_rev, e_gtp, e_lrg1, i_rng3, bop_1, bop_2, bb_1, bb_2, es_nil, es_cons, eo_none, eo_some, if_none, if_some, i_ex, i_rng1, i_rng2, i_enm, q_nm, q_tp, q_sb, setK_some, qs_nil, qs_cons, t_asg, t_aug, t_ex, t_ret, t_retN, t_iff, t_fr, t_whl, t_brk, t_cnt, t_pas, con_none, con_bool, con_int, con_str, neg_int, not_bl, int_int, add_int, sub_int, lt_int, le_int, gt_int, ge_int, eq_int, ne_int, is_nn, is_in, is_bb, isn_nn, isn_in, isn_bb, tr_non, tr_bl, tr_int, ty_non, ty_bl, ty_int, ty_tup, ty_ro, isa_int_int, isa_int_bool, isa_int_list, isa_int_tuple, isa_list_list, isa_list_tuple, isa_tuple_list, isa_tuple_tuple, sq_tup, sq_ro, bi_int_int, bi_int_bl, bi_tuple_tup, bi_min, bi_max, bi_len_tup, bi_len_ro, ix_tup, ix_ro, sl_tup, sl_ro, stays_tup, stays_ro, at_0, at_1, gc_ai, gc_aai, gc_aaai, gc_ab, gc_aab, gc_aaab, gc_an, gc_aan, gc_aaan, gc_same, wipe_nil, wipe_cons, sz_0, sz_1, sz_2, sz_3, sz_4, sz_5, sz_6, sz_7, sz_8, sz_9, sz_10, runDef, runFull, Def.full, startD, List.length_cons, List.length_nil, List.map_cons, List.map_nil, List.append_nil, List.nil_append, List.cons_append, List.drop_nil, List.drop_zero, List.set_cons_zero, List.set_cons_succ, List.replicate, if_true, if_false, Bool.not_true, Bool.not_false, Bool.true_or, Bool.false_or, Option.map_some, Option.map_none, Nat.zero_add, Nat.add_zero, Nat.sub_self, Nat.reduceAdd, Nat.reduceSub, ↓reduceIte, Bool.and_true, Bool.true_and, Bool.false_and, Bool.and_false, Int.cast_ofNat_Int, decide_true, decide_false, Int.reduceEq, Int.reduceLT, Int.reduceLE, Bool.false_eq_true, is_integer_int]
theorem highest_of (k : Nat) {tw : List (Int × Int)} {S : Store} (hl : tw.length ≤ 1000) : orc defs (k + 1) 6 [.tup (tw.map prD)] S = some (.int (hiT tw), S) := by
  rw [orc_at (d := d_highest) rfl]
  simp only [d_highest, b_highest, bnd_some, bnd_none, opt_some, opt_none, seqF_next, seqF_brk, seqF_cnt, seqF_ret, ts_nil, ts_cons, out_ret, out_next, ite_t, ite_f, bop_and_t, bop_and_f, bop_or_t, bop_or_f, bb_and_t, bb_and_f, bb_or_t, bb_or_f, slot_0, slot_s, e_con, b_con, e_var, b_var, e_glo, b_glo, e_tup, b_tup, e_lst, b_lst, e_dct, b_dct, e_op, b_op, e_neg, b_neg, e_not, b_not, e_bop, b_bop, e_cmp, b_cmp, e_chn, b_chn, e_ifx, b_ifx, e_ix, b_ix, e_sl, b_sl, e_call, b_call, e_bi, b_bi, e_mxd, b_mxd, e_isi, b_isi, e_isl, b_isl, e_lrg, b_lrg, e_mt, b_mt, e_lc, b_lc, e_rev, b_rev, e_gtp, e_lrg1, i_rng3, bop_1, bop_2, bb_1, bb_2, es_nil, es_cons, eo_none, eo_some, if_none, if_some, i_ex, i_rng1, i_rng2, i_enm, q_nm, q_tp, q_sb, setK_some, qs_nil, qs_cons, t_asg, t_aug, t_ex, t_ret, t_retN, t_iff, t_fr, t_whl, t_brk, t_cnt, t_pas, con_none, con_bool, con_int, con_str, neg_int, not_bl, int_int, add_int, sub_int, lt_int, le_int, gt_int, ge_int, eq_int, ne_int, is_nn, is_in, is_bb, isn_nn, isn_in, isn_bb, tr_non, tr_bl, tr_int, ty_non, ty_bl, ty_int, ty_tup, ty_ro, isa_int_int, isa_int_bool, isa_int_list, isa_int_tuple, isa_list_list, isa_list_tuple, isa_tuple_list, isa_tuple_tuple, sq_tup, sq_ro, bi_int_int, bi_int_bl, bi_tuple_tup, bi_min, bi_max, bi_len_tup, bi_len_ro, ix_tup, ix_ro, sl_tup, sl_ro, stays_tup, stays_ro, at_0, at_1, gc_ai, gc_aai, gc_aaai, gc_ab, gc_aab, gc_aaab, gc_an, gc_aan, gc_aaan, gc_same, wipe_nil, wipe_cons, sz_0, sz_1, sz_2, sz_3, sz_4, sz_5, sz_6, sz_7, sz_8, sz_9, sz_10, runDef, runFull, Def.full, startD, List.length_cons, List.length_nil, List.map_cons, List.map_nil, List.append_nil, List.nil_append, List.cons_append, List.drop_nil, List.drop_zero, List.set_cons_zero, List.set_cons_succ, List.replicate, if_true, if_false, Bool.not_true, Bool.not_false, Bool.true_or, Bool.false_or, Option.map_some, Option.map_none, Nat.zero_add, Nat.add_zero, Nat.sub_self, Nat.reduceAdd, Nat.reduceSub, ↓reduceIte, Bool.and_true, Bool.true_and, Bool.false_and, Bool.and_false, Int.cast_ofNat_Int, decide_true, decide_false, Int.reduceEq, Int.reduceLT, Int.reduceLE, Bool.false_eq_true]
  generalize hX : lcD _ _ _ _ _ _ _ = X
  have e := hX.symm.trans (lcD_tw0 (fun q => D.int q.2) rfl (TwL.prs tw) (fun d q hq hd => ⟨[some (.tup (tw.map prD)), some (.int q.1), some (.int q.2)], by simp only [bnd_some, bnd_none, opt_some, opt_none, seqF_next, seqF_brk, seqF_cnt, seqF_ret, ts_nil, ts_cons, out_ret, out_next, ite_t, ite_f, bop_and_t, bop_and_f, bop_or_t, bop_or_f, bb_and_t, bb_and_f, bb_or_t, bb_or_f, slot_0, slot_s, e_con, b_con, e_var, b_var, e_glo, b_glo, e_tup, b_tup, e_lst, b_lst, e_dct, b_dct, e_op, b_op, e_neg, b_neg, e_not, b_not, e_bop, b_bop, e_cmp, b_cmp, e_chn, b_chn, e_ifx, b_ifx, e_ix, b_ix, e_sl, b_sl, e_call, b_call, e_bi, b_bi, e_mxd, b_mxd, e_isi, b_isi, e_isl, b_isl, e_lrg, b_lrg, e_mt, b_mt, e_lc, b_lc, e_rev, b_rev, e_gtp, e_lrg1, i_rng3, bop_1, bop_2, bb_1, bb_2, es_nil, es_cons, eo_none, eo_some, if_none, if_some, i_ex, i_rng1, i_rng2, i_enm, q_nm, q_tp, q_sb, setK_some, qs_nil, qs_cons, t_asg, t_aug, t_ex, t_ret, t_retN, t_iff, t_fr, t_whl, t_brk, t_cnt, t_pas, con_none, con_bool, con_int, con_str, neg_int, not_bl, int_int, add_int, sub_int, lt_int, le_int, gt_int, ge_int, eq_int, ne_int, is_nn, is_in, is_bb, isn_nn, isn_in, isn_bb, tr_non, tr_bl, tr_int, ty_non, ty_bl, ty_int, ty_tup, ty_ro, isa_int_int, isa_int_bool, isa_int_list, isa_int_tuple, isa_list_list, isa_list_tuple, isa_tuple_list, isa_tuple_tuple, sq_tup, sq_ro, bi_int_int, bi_int_bl, bi_tuple_tup, bi_min, bi_max, bi_len_tup, bi_len_ro, ix_tup, ix_ro, sl_tup, sl_ro, stays_tup, stays_ro, at_0, at_1, gc_ai, gc_aai, gc_aaai, gc_ab, gc_aab, gc_aaab, gc_an, gc_aan, gc_aaan, gc_same, wipe_nil, wipe_cons, sz_0, sz_1, sz_2, sz_3, sz_4, sz_5, sz_6, sz_7, sz_8, sz_9, sz_10, runDef, runFull, Def.full, startD, List.length_cons, List.length_nil, List.map_cons, List.map_nil, List.append_nil, List.nil_append, List.cons_append, List.drop_nil, List.drop_zero, List.set_cons_zero, List.set_cons_succ, List.replicate, if_true, if_false, Bool.not_true, Bool.not_false, Bool.true_or, Bool.false_or, Option.map_some, Option.map_none, Nat.zero_add, Nat.add_zero, Nat.sub_self, Nat.reduceAdd, Nat.reduceSub, ↓reduceIte, Bool.and_true, Bool.true_and, Bool.false_and, Bool.and_false, Int.cast_ofNat_Int, decide_true, decide_false, Int.reduceEq, Int.reduceLT, Int.reduceLE, Bool.false_eq_true, hd], by simp only [bnd_some, bnd_none, opt_some, opt_none, seqF_next, seqF_brk, seqF_cnt, seqF_ret, ts_nil, ts_cons, out_ret, out_next, ite_t, ite_f, bop_and_t, bop_and_f, bop_or_t, bop_or_f, bb_and_t, bb_and_f, bb_or_t, bb_or_f, slot_0, slot_s, e_con, b_con, e_var, b_var, e_glo, b_glo, e_tup, b_tup, e_lst, b_lst, e_dct, b_dct, e_op, b_op, e_neg, b_neg, e_not, b_not, e_bop, b_bop, e_cmp, b_cmp, e_chn, b_chn, e_ifx, b_ifx, e_ix, b_ix, e_sl, b_sl, e_call, b_call, e_bi, b_bi, e_mxd, b_mxd, e_isi, b_isi, e_isl, b_isl, e_lrg, b_lrg, e_mt, b_mt, e_lc, b_lc, e_rev, b_rev, e_gtp, e_lrg1, i_rng3, bop_1, bop_2, bb_1, bb_2, es_nil, es_cons, eo_none, eo_some, if_none, if_some, i_ex, i_rng1, i_rng2, i_enm, q_nm, q_tp, q_sb, setK_some, qs_nil, qs_cons, t_asg, t_aug, t_ex, t_ret, t_retN, t_iff, t_fr, t_whl, t_brk, t_cnt, t_pas, con_none, con_bool, con_int, con_str, neg_int, not_bl, int_int, add_int, sub_int, lt_int, le_int, gt_int, ge_int, eq_int, ne_int, is_nn, is_in, is_bb, isn_nn, isn_in, isn_bb, tr_non, tr_bl, tr_int, ty_non, ty_bl, ty_int, ty_tup, ty_ro, isa_int_int, isa_int_bool, isa_int_list, isa_int_tuple, isa_list_list, isa_list_tuple, isa_tuple_list, isa_tuple_tuple, sq_tup, sq_ro, bi_int_int, bi_int_bl, bi_tuple_tup, bi_min, bi_max, bi_len_tup, bi_len_ro, ix_tup, ix_ro, sl_tup, sl_ro, stays_tup, stays_ro, at_0, at_1, gc_ai, gc_aai, gc_aaai, gc_ab, gc_aab, gc_aaab, gc_an, gc_aan, gc_aaan, gc_same, wipe_nil, wipe_cons, sz_0, sz_1, sz_2, sz_3, sz_4, sz_5, sz_6, sz_7, sz_8, sz_9, sz_10, runDef, runFull, Def.full, startD, List.length_cons, List.length_nil, List.map_cons, List.map_nil, List.append_nil, List.nil_append, List.cons_append, List.drop_nil, List.drop_zero, List.set_cons_zero, List.set_cons_succ, List.replicate, if_true, if_false, Bool.not_true, Bool.not_false, Bool.true_or, Bool.false_or, Option.map_some, Option.map_none, Nat.zero_add, Nat.add_zero, Nat.sub_self, Nat.reduceAdd, Nat.reduceSub, ↓reduceIte, Bool.and_true, Bool.true_and, Bool.false_and, Bool.and_false, Int.cast_ofNat_Int, decide_true, decide_false, Int.reduceEq, Int.reduceLT, Int.reduceLE, Bool.false_eq_true], by simp only [bnd_some, bnd_none, opt_some, opt_none, seqF_next, seqF_brk, seqF_cnt, seqF_ret, ts_nil, ts_cons, out_ret, out_next, ite_t, ite_f, bop_and_t, bop_and_f, bop_or_t, bop_or_f, bb_and_t, bb_and_f, bb_or_t, bb_or_f, slot_0, slot_s, e_con, b_con, e_var, b_var, e_glo, b_glo, e_tup, b_tup, e_lst, b_lst, e_dct, b_dct, e_op, b_op, e_neg, b_neg, e_not, b_not, e_bop, b_bop, e_cmp, b_cmp, e_chn, b_chn, e_ifx, b_ifx, e_ix, b_ix, e_sl, b_sl, e_call, b_call, e_bi, b_bi, e_mxd, b_mxd, e_isi, b_isi, e_isl, b_isl, e_lrg, b_lrg, e_mt, b_mt, e_lc, b_lc, e_rev, b_rev, e_gtp, e_lrg1, i_rng3, bop_1, bop_2, bb_1, bb_2, es_nil, es_cons, eo_none, eo_some, if_none, if_some, i_ex, i_rng1, i_rng2, i_enm, q_nm, q_tp, q_sb, setK_some, qs_nil, qs_cons, t_asg, t_aug, t_ex, t_ret, t_retN, t_iff, t_fr, t_whl, t_brk, t_cnt, t_pas, con_none, con_bool, con_int, con_str, neg_int, not_bl, int_int, add_int, sub_int, lt_int, le_int, gt_int, ge_int, eq_int, ne_int, is_nn, is_in, is_bb, isn_nn, isn_in, isn_bb, tr_non, tr_bl, tr_int, ty_non, ty_bl, ty_int, ty_tup, ty_ro, isa_int_int, isa_int_bool, isa_int_list, isa_int_tuple, isa_list_list, isa_list_tuple, isa_tuple_list, isa_tuple_tuple, sq_tup, sq_ro, bi_int_int, bi_int_bl, bi_tuple_tup, bi_min, bi_max, bi_len_tup, bi_len_ro, ix_tup, ix_ro, sl_tup, sl_ro, stays_tup, stays_ro, at_0, at_1, gc_ai, gc_aai, gc_aaai, gc_ab, gc_aab, gc_aaab, gc_an, gc_aan, gc_aaan, gc_same, wipe_nil, wipe_cons, sz_0, sz_1, sz_2, sz_3, sz_4, sz_5, sz_6, sz_7, sz_8, sz_9, sz_10, runDef, runFull, Def.full, startD, List.length_cons, List.length_nil, List.map_cons, List.map_nil, List.append_nil, List.nil_append, List.cons_append, List.drop_nil, List.drop_zero, List.set_cons_zero, List.set_cons_succ, List.replicate, if_true, if_false, Bool.not_true, Bool.not_false, Bool.true_or, Bool.false_or, Option.map_some, Option.map_none, Nat.zero_add, Nat.add_zero, Nat.sub_self, Nat.reduceAdd, Nat.reduceSub, ↓reduceIte, Bool.and_true, Bool.true_and, Bool.false_and, Bool.and_false, Int.cast_ofNat_Int, decide_true, decide_false, Int.reduceEq, Int.reduceLT, Int.reduceLE, Bool.false_eq_true]⟩) (small hl))
  subst e
  simp only [bnd_some, bnd_none, opt_some, opt_none, seqF_next, seqF_brk, seqF_cnt, seqF_ret, ts_nil, ts_cons, out_ret, out_next, ite_t, ite_f, bop_and_t, bop_and_f, bop_or_t, bop_or_f, bb_and_t, bb_and_f, bb_or_t, bb_or_f, slot_0, slot_s, e_con, b_con, e_var, b_var, e_glo, b_glo, e_tup, b_tup, e_lst, b_lst, e_dct, b_dct, e_op, b_op, e_neg, b_neg, e_not, b_not, e_bop, b_bop, e_cmp, b_cmp, e_chn, b_chn, e_ifx, b_ifx, e_ix, b_ix, e_sl, b_sl, e_call, b_call, e_bi, b_bi, e_mxd, b_mxd, e_isi, b_isi, e_isl, b_isl, e_lrg, b_lrg, e_mt, b_mt, e_lc, b_lc, e_rev, b_rev, e_gtp, e_lrg1, i_rng3, bop_1, bop_2, bb_1, bb_2, es_nil, es_cons, eo_none, eo_some, if_none, if_some, i_ex, i_rng1, i_rng2, i_enm, q_nm, q_tp, q_sb, setK_some, qs_nil, qs_cons, t_asg, t_aug, t_ex, t_ret, t_retN, t_iff, t_fr, t_whl, t_brk, t_cnt, t_pas, con_none, con_bool, con_int, con_str, neg_int, not_bl, int_int, add_int, sub_int, lt_int, le_int, gt_int, ge_int, eq_int, ne_int, is_nn, is_in, is_bb, isn_nn, isn_in, isn_bb, tr_non, tr_bl, tr_int, ty_non, ty_bl, ty_int, ty_tup, ty_ro, isa_int_int, isa_int_bool, isa_int_list, isa_int_tuple, isa_list_list, isa_list_tuple, isa_tuple_list, isa_tuple_tuple, sq_tup, sq_ro, bi_int_int, bi_int_bl, bi_tuple_tup, bi_min, bi_max, bi_len_tup, bi_len_ro, ix_tup, ix_ro, sl_tup, sl_ro, stays_tup, stays_ro, at_0, at_1, gc_ai, gc_aai, gc_aaai, gc_ab, gc_aab, gc_aaab, gc_an, gc_aan, gc_aaan, gc_same, wipe_nil, wipe_cons, sz_0, sz_1, sz_2, sz_3, sz_4, sz_5, sz_6, sz_7, sz_8, sz_9, sz_10, runDef, runFull, Def.full, startD, List.length_cons, List.length_nil, List.map_cons, List.map_nil, List.append_nil, List.nil_append, List.cons_append, List.drop_nil, List.drop_zero, List.set_cons_zero, List.set_cons_succ, List.replicate, if_true, if_false, Bool.not_true, Bool.not_false, Bool.true_or, Bool.false_or, Option.map_some, Option.map_none, Nat.zero_add, Nat.add_zero, Nat.sub_self, Nat.reduceAdd, Nat.reduceSub, ↓reduceIte, Bool.and_true, Bool.true_and, Bool.false_and, Bool.and_false, Int.cast_ofNat_Int, decide_true, decide_false, Int.reduceEq, Int.reduceLT, Int.reduceLE, Bool.false_eq_true, maxD_tw look_new]
theorem gc_kDa {S T : Store} {o : Option Int} : gc S (kD o) (S ++ T) = (kD o, S) := gc_app (pure_kD o)

abbrev src (a b c : Int) : MO := .lst [.int a, .int b, .int c]
theorem well_of (k : Nat) (i : Int) (S : Store) : ∃ a b : Int, orc defs (k + 1) 17 [.int i] S = some (.loc S.length, S ++ [src a b 0]) := by
  rw [orc_at (d := d__law_well) rfl]
  have p18 : opD .Pow (.int 10) (.int 18) S = some (.int (10 ^ 18), S) := pow_int (n := 18) (by decide) (by decide)
  exact ⟨_, _, by simp only [d__law_well, b__law_well, bnd_some, bnd_none, opt_some, opt_none, seqF_next, seqF_brk, seqF_cnt, seqF_ret, ts_nil, ts_cons, out_ret, out_next, ite_t, ite_f, bop_and_t, bop_and_f, bop_or_t, bop_or_f, bb_and_t, bb_and_f, bb_or_t, bb_or_f, slot_0, slot_s, e_con, b_con, e_var, b_var, e_glo, b_glo, e_tup, b_tup, e_lst, b_lst, e_dct, b_dct, e_op, b_op, e_neg, b_neg, e_not, b_not, e_bop, b_bop, e_cmp, b_cmp, e_chn, b_chn, e_ifx, b_ifx, e_ix, b_ix, e_sl, b_sl, e_call, b_call, e_bi, b_bi, e_mxd, b_mxd, e_isi, b_isi, e_isl, b_isl, e_lrg, b_lrg, e_mt, b_mt, e_lc, b_lc, e_rev, b_rev, e_gtp, e_lrg1, i_rng3, bop_1, bop_2, bb_1, bb_2, es_nil, es_cons, eo_none, eo_some, if_none, if_some, i_ex, i_rng1, i_rng2, i_enm, q_nm, q_tp, q_sb, setK_some, qs_nil, qs_cons, t_asg, t_aug, t_ex, t_ret, t_retN, t_iff, t_fr, t_whl, t_brk, t_cnt, t_pas, con_none, con_bool, con_int, con_str, neg_int, not_bl, int_int, add_int, sub_int, lt_int, le_int, gt_int, ge_int, eq_int, ne_int, is_nn, is_in, is_bb, isn_nn, isn_in, isn_bb, tr_non, tr_bl, tr_int, ty_non, ty_bl, ty_int, ty_tup, ty_ro, isa_int_int, isa_int_bool, isa_int_list, isa_int_tuple, isa_list_list, isa_list_tuple, isa_tuple_list, isa_tuple_tuple, sq_tup, sq_ro, bi_int_int, bi_int_bl, bi_tuple_tup, bi_min, bi_max, bi_len_tup, bi_len_ro, ix_tup, ix_ro, sl_tup, sl_ro, stays_tup, stays_ro, at_0, at_1, gc_ai, gc_aai, gc_aaai, gc_ab, gc_aab, gc_aaab, gc_an, gc_aan, gc_aaan, gc_same, wipe_nil, wipe_cons, sz_0, sz_1, sz_2, sz_3, sz_4, sz_5, sz_6, sz_7, sz_8, sz_9, sz_10, runDef, runFull, Def.full, startD, List.length_cons, List.length_nil, List.map_cons, List.map_nil, List.append_nil, List.nil_append, List.cons_append, List.drop_nil, List.drop_zero, List.set_cons_zero, List.set_cons_succ, List.replicate, if_true, if_false, Bool.not_true, Bool.not_false, Bool.true_or, Bool.false_or, Option.map_some, Option.map_none, Nat.zero_add, Nat.add_zero, Nat.sub_self, Nat.reduceAdd, Nat.reduceSub, ↓reduceIte, Bool.and_true, Bool.true_and, Bool.false_and, Bool.and_false, Int.cast_ofNat_Int, decide_true, decide_false, Int.reduceEq, Int.reduceLT, Int.reduceLE, Bool.false_eq_true, List.append_assoc, List.length_append, lk_app, lk_app0, lk_sapp, lk_sapp0, lk_z, lk_s, st_app, st_app0, st_sapp, st_sapp0, len_set, set_set, sq_lk, ix_lk, sl_lk, len_lk, tuple_lk, list_lk, list_tup, ty_lk, stays_lk, set_lk, add_lk, app_lk, ext_lk, clear_lk, recv_lk, get2_lk, tr_lk, gp_0, gp_1, gp_2, gp_3, gp_4, gp_5, gp_6, gp_7, gp_8, ko_n, ko_s, ko_p, gq_1, gq_2, gq_3, gq_4, gq_5, gq_6, gq_7, gq_8, gq_9, gq_10, gq_11, gq_12, gq_13, gq_14, gq_15, gq_16, gcR, Nat.lt_irrefl, Nat.not_lt_zero, List.take_succ_cons, List.take_zero, List.take_nil, D.beqL_self, at_2, at_3, ixN, Nat.reduceLT, Nat.reduceLeDiff, Int.reduceToNat, Int.reduceNeg, Int.reduceSub, Int.reduceAdd, Int.reduceMul, sz_lt, Int.zero_add, mod_int, pr_int, pr_bl, pr_non, pr_str, pr_tup, pr_nil, pr_cons, pr_lst, pr_ints, pr_prs, pr_app, pr_kD, mt_1, mt_2, mt_3, mt_4, mt_5, mt_6, mt_7, rev_lk, max_lk, min_lk, sum_lk, any_lk, all_lk, count_lk, index_lk, pop_lk, eq_D, ne_D, eqD_ll, eqD_tt, eqL_ll, eqS_same, eqS_nil, eqS_ints, eqD_ii, eqD_kk, py_app, py_nil, py_cons, py_ints, py_int, py_bl, py_non, py_kD, py_links, py_prs, py_mapi, pr_mapi, pr_linksT, gt_np, pr_loc, pr_stps, pr_stp, aug_add, aug_sub, ko_app, take_left', len_aa, p18, mul_r (natAbs_01 _)]; rfl⟩
theorem draw_of (k : Nat) {m : Nat} {S : Store} {a b c many : Int} (hs : lk S m = some (src a b c)) (h1 : 0 < many) (h2 : many.natAbs.log2 < 9000) :
    ∃ r a' c', orc defs (k + 1) 18 [.loc m, .int many] S = some (.int r, S.set m (src a' b c')) ∧ 0 ≤ r ∧ r < many := by
  rw [orc_at (d := d__law_draw) rfl]
  by_cases h : 0 < a
  · refine ⟨a % many, a / many, c, ?_, Int.emod_nonneg _ (by omega), Int.emod_lt_of_pos _ h1⟩
    simp only [d__law_draw, b__law_draw, bnd_some, bnd_none, opt_some, opt_none, seqF_next, seqF_brk, seqF_cnt, seqF_ret, ts_nil, ts_cons, out_ret, out_next, ite_t, ite_f, bop_and_t, bop_and_f, bop_or_t, bop_or_f, bb_and_t, bb_and_f, bb_or_t, bb_or_f, slot_0, slot_s, e_con, b_con, e_var, b_var, e_glo, b_glo, e_tup, b_tup, e_lst, b_lst, e_dct, b_dct, e_op, b_op, e_neg, b_neg, e_not, b_not, e_bop, b_bop, e_cmp, b_cmp, e_chn, b_chn, e_ifx, b_ifx, e_ix, b_ix, e_sl, b_sl, e_call, b_call, e_bi, b_bi, e_mxd, b_mxd, e_isi, b_isi, e_isl, b_isl, e_lrg, b_lrg, e_mt, b_mt, e_lc, b_lc, e_rev, b_rev, e_gtp, e_lrg1, i_rng3, bop_1, bop_2, bb_1, bb_2, es_nil, es_cons, eo_none, eo_some, if_none, if_some, i_ex, i_rng1, i_rng2, i_enm, q_nm, q_tp, q_sb, setK_some, qs_nil, qs_cons, t_asg, t_aug, t_ex, t_ret, t_retN, t_iff, t_fr, t_whl, t_brk, t_cnt, t_pas, con_none, con_bool, con_int, con_str, neg_int, not_bl, int_int, add_int, sub_int, lt_int, le_int, gt_int, ge_int, eq_int, ne_int, is_nn, is_in, is_bb, isn_nn, isn_in, isn_bb, tr_non, tr_bl, tr_int, ty_non, ty_bl, ty_int, ty_tup, ty_ro, isa_int_int, isa_int_bool, isa_int_list, isa_int_tuple, isa_list_list, isa_list_tuple, isa_tuple_list, isa_tuple_tuple, sq_tup, sq_ro, bi_int_int, bi_int_bl, bi_tuple_tup, bi_min, bi_max, bi_len_tup, bi_len_ro, ix_tup, ix_ro, sl_tup, sl_ro, stays_tup, stays_ro, at_0, at_1, gc_ai, gc_aai, gc_aaai, gc_ab, gc_aab, gc_aaab, gc_an, gc_aan, gc_aaan, gc_same, wipe_nil, wipe_cons, sz_0, sz_1, sz_2, sz_3, sz_4, sz_5, sz_6, sz_7, sz_8, sz_9, sz_10, runDef, runFull, Def.full, startD, List.length_cons, List.length_nil, List.map_cons, List.map_nil, List.append_nil, List.nil_append, List.cons_append, List.drop_nil, List.drop_zero, List.set_cons_zero, List.set_cons_succ, List.replicate, if_true, if_false, Bool.not_true, Bool.not_false, Bool.true_or, Bool.false_or, Option.map_some, Option.map_none, Nat.zero_add, Nat.add_zero, Nat.sub_self, Nat.reduceAdd, Nat.reduceSub, ↓reduceIte, Bool.and_true, Bool.true_and, Bool.false_and, Bool.and_false, Int.cast_ofNat_Int, decide_true, decide_false, Int.reduceEq, Int.reduceLT, Int.reduceLE, Bool.false_eq_true, List.append_assoc, List.length_append, lk_app, lk_app0, lk_sapp, lk_sapp0, lk_z, lk_s, st_app, st_app0, st_sapp, st_sapp0, len_set, set_set, sq_lk, ix_lk, sl_lk, len_lk, tuple_lk, list_lk, list_tup, ty_lk, stays_lk, set_lk, add_lk, app_lk, ext_lk, clear_lk, recv_lk, get2_lk, tr_lk, gp_0, gp_1, gp_2, gp_3, gp_4, gp_5, gp_6, gp_7, gp_8, ko_n, ko_s, ko_p, gq_1, gq_2, gq_3, gq_4, gq_5, gq_6, gq_7, gq_8, gq_9, gq_10, gq_11, gq_12, gq_13, gq_14, gq_15, gq_16, gcR, Nat.lt_irrefl, Nat.not_lt_zero, List.take_succ_cons, List.take_zero, List.take_nil, D.beqL_self, at_2, at_3, ixN, Nat.reduceLT, Nat.reduceLeDiff, Int.reduceToNat, Int.reduceNeg, Int.reduceSub, Int.reduceAdd, Int.reduceMul, sz_lt, Int.zero_add, mod_int, pr_int, pr_bl, pr_non, pr_str, pr_tup, pr_nil, pr_cons, pr_lst, pr_ints, pr_prs, pr_app, pr_kD, mt_1, mt_2, mt_3, mt_4, mt_5, mt_6, mt_7, rev_lk, max_lk, min_lk, sum_lk, any_lk, all_lk, count_lk, index_lk, pop_lk, eq_D, ne_D, eqD_ll, eqD_tt, eqL_ll, eqS_same, eqS_nil, eqS_ints, eqD_ii, eqD_kk, py_app, py_nil, py_cons, py_ints, py_int, py_bl, py_non, py_kD, py_links, py_prs, py_mapi, pr_mapi, pr_linksT, gt_np, pr_loc, pr_stps, pr_stp, aug_add, aug_sub, ko_app, take_left', len_aa, h, hs, lk_set hs, div_int h1 h2, mod_int h1]
  · have e1 : ∀ x : Int, (x % 2147483647).natAbs < 2 ^ 64 := fun x => natAbs_lt (n := 2147483647) (Int.emod_nonneg _ (by decide)) (Int.emod_lt_of_pos _ (by decide)) (by decide)
    have e2 : ∀ x : Int, (x % 2147483587).natAbs < 2 ^ 64 := fun x => natAbs_lt (n := 2147483587) (Int.emod_nonneg _ (by decide)) (Int.emod_lt_of_pos _ (by decide)) (by decide)
    have ⟨x, hx⟩ : ∃ x : Int, runDef (orc defs k) d__law_draw [.loc m, .int many] S = some (.int (x % many), S.set m (src a b (c + 1))) := ⟨_, by
      simp only [d__law_draw, b__law_draw, bnd_some, bnd_none, opt_some, opt_none, seqF_next, seqF_brk, seqF_cnt, seqF_ret, ts_nil, ts_cons, out_ret, out_next, ite_t, ite_f, bop_and_t, bop_and_f, bop_or_t, bop_or_f, bb_and_t, bb_and_f, bb_or_t, bb_or_f, slot_0, slot_s, e_con, b_con, e_var, b_var, e_glo, b_glo, e_tup, b_tup, e_lst, b_lst, e_dct, b_dct, e_op, b_op, e_neg, b_neg, e_not, b_not, e_bop, b_bop, e_cmp, b_cmp, e_chn, b_chn, e_ifx, b_ifx, e_ix, b_ix, e_sl, b_sl, e_call, b_call, e_bi, b_bi, e_mxd, b_mxd, e_isi, b_isi, e_isl, b_isl, e_lrg, b_lrg, e_mt, b_mt, e_lc, b_lc, e_rev, b_rev, e_gtp, e_lrg1, i_rng3, bop_1, bop_2, bb_1, bb_2, es_nil, es_cons, eo_none, eo_some, if_none, if_some, i_ex, i_rng1, i_rng2, i_enm, q_nm, q_tp, q_sb, setK_some, qs_nil, qs_cons, t_asg, t_aug, t_ex, t_ret, t_retN, t_iff, t_fr, t_whl, t_brk, t_cnt, t_pas, con_none, con_bool, con_int, con_str, neg_int, not_bl, int_int, add_int, sub_int, lt_int, le_int, gt_int, ge_int, eq_int, ne_int, is_nn, is_in, is_bb, isn_nn, isn_in, isn_bb, tr_non, tr_bl, tr_int, ty_non, ty_bl, ty_int, ty_tup, ty_ro, isa_int_int, isa_int_bool, isa_int_list, isa_int_tuple, isa_list_list, isa_list_tuple, isa_tuple_list, isa_tuple_tuple, sq_tup, sq_ro, bi_int_int, bi_int_bl, bi_tuple_tup, bi_min, bi_max, bi_len_tup, bi_len_ro, ix_tup, ix_ro, sl_tup, sl_ro, stays_tup, stays_ro, at_0, at_1, gc_ai, gc_aai, gc_aaai, gc_ab, gc_aab, gc_aaab, gc_an, gc_aan, gc_aaan, gc_same, wipe_nil, wipe_cons, sz_0, sz_1, sz_2, sz_3, sz_4, sz_5, sz_6, sz_7, sz_8, sz_9, sz_10, runDef, runFull, Def.full, startD, List.length_cons, List.length_nil, List.map_cons, List.map_nil, List.append_nil, List.nil_append, List.cons_append, List.drop_nil, List.drop_zero, List.set_cons_zero, List.set_cons_succ, List.replicate, if_true, if_false, Bool.not_true, Bool.not_false, Bool.true_or, Bool.false_or, Option.map_some, Option.map_none, Nat.zero_add, Nat.add_zero, Nat.sub_self, Nat.reduceAdd, Nat.reduceSub, ↓reduceIte, Bool.and_true, Bool.true_and, Bool.false_and, Bool.and_false, Int.cast_ofNat_Int, decide_true, decide_false, Int.reduceEq, Int.reduceLT, Int.reduceLE, Bool.false_eq_true, List.append_assoc, List.length_append, lk_app, lk_app0, lk_sapp, lk_sapp0, lk_z, lk_s, st_app, st_app0, st_sapp, st_sapp0, len_set, set_set, sq_lk, ix_lk, sl_lk, len_lk, tuple_lk, list_lk, list_tup, ty_lk, stays_lk, set_lk, add_lk, app_lk, ext_lk, clear_lk, recv_lk, get2_lk, tr_lk, gp_0, gp_1, gp_2, gp_3, gp_4, gp_5, gp_6, gp_7, gp_8, ko_n, ko_s, ko_p, gq_1, gq_2, gq_3, gq_4, gq_5, gq_6, gq_7, gq_8, gq_9, gq_10, gq_11, gq_12, gq_13, gq_14, gq_15, gq_16, gcR, Nat.lt_irrefl, Nat.not_lt_zero, List.take_succ_cons, List.take_zero, List.take_nil, D.beqL_self, at_2, at_3, ixN, Nat.reduceLT, Nat.reduceLeDiff, Int.reduceToNat, Int.reduceNeg, Int.reduceSub, Int.reduceAdd, Int.reduceMul, sz_lt, Int.zero_add, mod_int, pr_int, pr_bl, pr_non, pr_str, pr_tup, pr_nil, pr_cons, pr_lst, pr_ints, pr_prs, pr_app, pr_kD, mt_1, mt_2, mt_3, mt_4, mt_5, mt_6, mt_7, rev_lk, max_lk, min_lk, sum_lk, any_lk, all_lk, count_lk, index_lk, pop_lk, eq_D, ne_D, eqD_ll, eqD_tt, eqL_ll, eqS_same, eqS_nil, eqS_ints, eqD_ii, eqD_kk, py_app, py_nil, py_cons, py_ints, py_int, py_bl, py_non, py_kD, py_links, py_prs, py_mapi, pr_mapi, pr_linksT, gt_np, pr_loc, pr_stps, pr_stp, aug_add, aug_sub, ko_app, take_left', len_aa, h, hs, lk_set hs, mod_int h1, mul_l (show (9973 : Int).natAbs < 2 ^ 64 by decide), mul_r (show (48271 : Int).natAbs < 2 ^ 64 by decide), mul_l (e1 _), mul_l (e2 _), div_int (show (0 : Int) < 1021 by decide) (by decide), div_int (show (0 : Int) < 2011 by decide) (by decide), div_int (show (0 : Int) < 7 by decide) (by decide)]
      rfl⟩
    exact ⟨_, _, _, hx, Int.emod_nonneg _ (by omega), Int.emod_lt_of_pos _ h1⟩
theorem draw_s (k : Nat) {m : Nat} {S L : Store} {mo : MO} {a b c many : Int} (hs : lk S m = some mo) (h1 : 0 < many) (h2 : many ≤ 2 ^ 64) :
    ∃ r a' c', orc defs (k + 1) 18 [.loc m, .int many] (S.set m (src a b c) ++ L) = some (.int r, S.set m (src a' b c') ++ L) ∧ 0 ≤ r ∧ r < many := by
  obtain ⟨r, a', c', e, h⟩ := draw_of k (many := many) (S := S.set m (src a b c) ++ L) (lk_seta hs) h1 (log_of_le h1 h2)
  rw [st_olds hs] at e
  exact ⟨r, a', c', e, h⟩
theorem draw_s0 (k : Nat) {m : Nat} {S : Store} {mo : MO} {a b c many : Int} (hs : lk S m = some mo) (h1 : 0 < many) (h2 : many ≤ 2 ^ 64) :
    ∃ r a' c', orc defs (k + 1) 18 [.loc m, .int many] (S.set m (src a b c)) = some (.int r, S.set m (src a' b c')) ∧ 0 ≤ r ∧ r < many := by
  have := draw_s k (L := []) (a := a) (b := b) (c := c) hs h1 h2
  simpa only [List.append_nil] using this
theorem one_of (k : Nat) {m : Nat} {S : Store} {a b c : Int} {v : D} {ds : List D} (hs : lk S m = some (src a b c)) (hv : ∀ T, T = S ∨ (∃ a' c', T = S.set m (src a' b c')) → seqOf T v = some ds) (h1 : 0 < ds.length) (h2 : ds.length ≤ 1000) (hp : D.pureL ds = true) :
    ∃ d a' c', orc defs (k + 2) 19 [.loc m, v] S = some (d, S.set m (src a' b c')) ∧ d ∈ ds := by
  rw [orc_at (d := d__law_one) rfl]
  obtain ⟨r, a', c', e, r0, r1⟩ := draw_of k (many := ds.length) hs (by omega) (log_of_le (by omega) (by omega))
  obtain ⟨d, g1, g2⟩ := at_in r0 r1
  have hd : d ∈ ds := List.mem_of_getElem? g1
  have pd : D.pure d = true := pureL_mem hp hd
  refine ⟨d, a', c', ?_, hd⟩
  simp only [d__law_one, b__law_one, bnd_some, bnd_none, opt_some, opt_none, seqF_next, seqF_brk, seqF_cnt, seqF_ret, ts_nil, ts_cons, out_ret, out_next, ite_t, ite_f, bop_and_t, bop_and_f, bop_or_t, bop_or_f, bb_and_t, bb_and_f, bb_or_t, bb_or_f, slot_0, slot_s, e_con, b_con, e_var, b_var, e_glo, b_glo, e_tup, b_tup, e_lst, b_lst, e_dct, b_dct, e_op, b_op, e_neg, b_neg, e_not, b_not, e_bop, b_bop, e_cmp, b_cmp, e_chn, b_chn, e_ifx, b_ifx, e_ix, b_ix, e_sl, b_sl, e_call, b_call, e_bi, b_bi, e_mxd, b_mxd, e_isi, b_isi, e_isl, b_isl, e_lrg, b_lrg, e_mt, b_mt, e_lc, b_lc, e_rev, b_rev, e_gtp, e_lrg1, i_rng3, bop_1, bop_2, bb_1, bb_2, es_nil, es_cons, eo_none, eo_some, if_none, if_some, i_ex, i_rng1, i_rng2, i_enm, q_nm, q_tp, q_sb, setK_some, qs_nil, qs_cons, t_asg, t_aug, t_ex, t_ret, t_retN, t_iff, t_fr, t_whl, t_brk, t_cnt, t_pas, con_none, con_bool, con_int, con_str, neg_int, not_bl, int_int, add_int, sub_int, lt_int, le_int, gt_int, ge_int, eq_int, ne_int, is_nn, is_in, is_bb, isn_nn, isn_in, isn_bb, tr_non, tr_bl, tr_int, ty_non, ty_bl, ty_int, ty_tup, ty_ro, isa_int_int, isa_int_bool, isa_int_list, isa_int_tuple, isa_list_list, isa_list_tuple, isa_tuple_list, isa_tuple_tuple, sq_tup, sq_ro, bi_int_int, bi_int_bl, bi_tuple_tup, bi_min, bi_max, bi_len_tup, bi_len_ro, ix_tup, ix_ro, sl_tup, sl_ro, stays_tup, stays_ro, at_0, at_1, gc_ai, gc_aai, gc_aaai, gc_ab, gc_aab, gc_aaab, gc_an, gc_aan, gc_aaan, gc_same, wipe_nil, wipe_cons, sz_0, sz_1, sz_2, sz_3, sz_4, sz_5, sz_6, sz_7, sz_8, sz_9, sz_10, runDef, runFull, Def.full, startD, List.length_cons, List.length_nil, List.map_cons, List.map_nil, List.append_nil, List.nil_append, List.cons_append, List.drop_nil, List.drop_zero, List.set_cons_zero, List.set_cons_succ, List.replicate, if_true, if_false, Bool.not_true, Bool.not_false, Bool.true_or, Bool.false_or, Option.map_some, Option.map_none, Nat.zero_add, Nat.add_zero, Nat.sub_self, Nat.reduceAdd, Nat.reduceSub, ↓reduceIte, Bool.and_true, Bool.true_and, Bool.false_and, Bool.and_false, Int.cast_ofNat_Int, decide_true, decide_false, Int.reduceEq, Int.reduceLT, Int.reduceLE, Bool.false_eq_true, len_sq (hv S (.inl rfl)), e, List.append_assoc, List.length_append, lk_app, lk_app0, lk_sapp, lk_sapp0, lk_z, lk_s, st_app, st_app0, st_sapp, st_sapp0, len_set, set_set, sq_lk, ix_lk, sl_lk, len_lk, tuple_lk, list_lk, list_tup, ty_lk, stays_lk, set_lk, add_lk, app_lk, ext_lk, clear_lk, recv_lk, get2_lk, tr_lk, gp_0, gp_1, gp_2, gp_3, gp_4, gp_5, gp_6, gp_7, gp_8, ko_n, ko_s, ko_p, gq_1, gq_2, gq_3, gq_4, gq_5, gq_6, gq_7, gq_8, gq_9, gq_10, gq_11, gq_12, gq_13, gq_14, gq_15, gq_16, gcR, Nat.lt_irrefl, Nat.not_lt_zero, List.take_succ_cons, List.take_zero, List.take_nil, D.beqL_self, at_2, at_3, ixN, Nat.reduceLT, Nat.reduceLeDiff, Int.reduceToNat, Int.reduceNeg, Int.reduceSub, Int.reduceAdd, Int.reduceMul, sz_lt, Int.zero_add, mod_int, pr_int, pr_bl, pr_non, pr_str, pr_tup, pr_nil, pr_cons, pr_lst, pr_ints, pr_prs, pr_app, pr_kD, mt_1, mt_2, mt_3, mt_4, mt_5, mt_6, mt_7, rev_lk, max_lk, min_lk, sum_lk, any_lk, all_lk, count_lk, index_lk, pop_lk, eq_D, ne_D, eqD_ll, eqD_tt, eqL_ll, eqS_same, eqS_nil, eqS_ints, eqD_ii, eqD_kk, py_app, py_nil, py_cons, py_ints, py_int, py_bl, py_non, py_kD, py_links, py_prs, py_mapi, pr_mapi, pr_linksT, gt_np, pr_loc, pr_stps, pr_stp, aug_add, aug_sub, ko_app, take_left', len_aa, ix_sq (hv _ (.inr ⟨a', c', rfl⟩)), g2, pd]
theorem one_s (k : Nat) {m : Nat} {S L : Store} {mo : MO} {a b c : Int} {v : D} {ds : List D} (hs : lk S m = some mo) (hv : ∀ a' c', seqOf (S.set m (src a' b c') ++ L) v = some ds) (h1 : 0 < ds.length) (h2 : ds.length ≤ 1000) (hp : D.pureL ds = true) :
    ∃ d a' c', orc defs (k + 2) 19 [.loc m, v] (S.set m (src a b c) ++ L) = some (d, S.set m (src a' b c') ++ L) ∧ d ∈ ds := by
  obtain ⟨d, a', c', e, h⟩ := one_of k (v := v) (S := S.set m (src a b c) ++ L) (lk_seta hs) (fun T hT => by
    rcases hT with rfl | ⟨a', c', rfl⟩
    · exact hv a c
    · rw [st_olds hs]; exact hv a' c') h1 h2 hp
  rw [st_olds hs] at e
  exact ⟨d, a', c', e, h⟩
theorem height_s0 (k : Nat) {m : Nat} {S : Store} {mo : MO} {a b c way : Int} (hs : lk S m = some mo) :
    ∃ h a' c', orc defs (k + 3) 20 [.loc m, .int way] (S.set m (src a b c)) = some (.int h, S.set m (src a' b c')) ∧ 1 ≤ h ∧ h ≤ 9 := by
  rw [orc_at (d := d__law_height) rfl]
  by_cases w0 : way = 0
  · obtain ⟨r, a', c', e, r0, r1⟩ := draw_s0 (k + 1) (a := a) (b := b) (c := c) (many := 3) hs (by decide) (by decide)
    refine ⟨1 + r, a', c', ?_, by omega, by omega⟩
    simp only [d__law_height, b__law_height, bnd_some, bnd_none, opt_some, opt_none, seqF_next, seqF_brk, seqF_cnt, seqF_ret, ts_nil, ts_cons, out_ret, out_next, ite_t, ite_f, bop_and_t, bop_and_f, bop_or_t, bop_or_f, bb_and_t, bb_and_f, bb_or_t, bb_or_f, slot_0, slot_s, e_con, b_con, e_var, b_var, e_glo, b_glo, e_tup, b_tup, e_lst, b_lst, e_dct, b_dct, e_op, b_op, e_neg, b_neg, e_not, b_not, e_bop, b_bop, e_cmp, b_cmp, e_chn, b_chn, e_ifx, b_ifx, e_ix, b_ix, e_sl, b_sl, e_call, b_call, e_bi, b_bi, e_mxd, b_mxd, e_isi, b_isi, e_isl, b_isl, e_lrg, b_lrg, e_mt, b_mt, e_lc, b_lc, e_rev, b_rev, e_gtp, e_lrg1, i_rng3, bop_1, bop_2, bb_1, bb_2, es_nil, es_cons, eo_none, eo_some, if_none, if_some, i_ex, i_rng1, i_rng2, i_enm, q_nm, q_tp, q_sb, setK_some, qs_nil, qs_cons, t_asg, t_aug, t_ex, t_ret, t_retN, t_iff, t_fr, t_whl, t_brk, t_cnt, t_pas, con_none, con_bool, con_int, con_str, neg_int, not_bl, int_int, add_int, sub_int, lt_int, le_int, gt_int, ge_int, eq_int, ne_int, is_nn, is_in, is_bb, isn_nn, isn_in, isn_bb, tr_non, tr_bl, tr_int, ty_non, ty_bl, ty_int, ty_tup, ty_ro, isa_int_int, isa_int_bool, isa_int_list, isa_int_tuple, isa_list_list, isa_list_tuple, isa_tuple_list, isa_tuple_tuple, sq_tup, sq_ro, bi_int_int, bi_int_bl, bi_tuple_tup, bi_min, bi_max, bi_len_tup, bi_len_ro, ix_tup, ix_ro, sl_tup, sl_ro, stays_tup, stays_ro, at_0, at_1, gc_ai, gc_aai, gc_aaai, gc_ab, gc_aab, gc_aaab, gc_an, gc_aan, gc_aaan, gc_same, wipe_nil, wipe_cons, sz_0, sz_1, sz_2, sz_3, sz_4, sz_5, sz_6, sz_7, sz_8, sz_9, sz_10, runDef, runFull, Def.full, startD, List.length_cons, List.length_nil, List.map_cons, List.map_nil, List.append_nil, List.nil_append, List.cons_append, List.drop_nil, List.drop_zero, List.set_cons_zero, List.set_cons_succ, List.replicate, if_true, if_false, Bool.not_true, Bool.not_false, Bool.true_or, Bool.false_or, Option.map_some, Option.map_none, Nat.zero_add, Nat.add_zero, Nat.sub_self, Nat.reduceAdd, Nat.reduceSub, ↓reduceIte, Bool.and_true, Bool.true_and, Bool.false_and, Bool.and_false, Int.cast_ofNat_Int, decide_true, decide_false, Int.reduceEq, Int.reduceLT, Int.reduceLE, Bool.false_eq_true, List.append_assoc, List.length_append, lk_app, lk_app0, lk_sapp, lk_sapp0, lk_z, lk_s, st_app, st_app0, st_sapp, st_sapp0, len_set, set_set, sq_lk, ix_lk, sl_lk, len_lk, tuple_lk, list_lk, list_tup, ty_lk, stays_lk, set_lk, add_lk, app_lk, ext_lk, clear_lk, recv_lk, get2_lk, tr_lk, gp_0, gp_1, gp_2, gp_3, gp_4, gp_5, gp_6, gp_7, gp_8, ko_n, ko_s, ko_p, gq_1, gq_2, gq_3, gq_4, gq_5, gq_6, gq_7, gq_8, gq_9, gq_10, gq_11, gq_12, gq_13, gq_14, gq_15, gq_16, gcR, Nat.lt_irrefl, Nat.not_lt_zero, List.take_succ_cons, List.take_zero, List.take_nil, D.beqL_self, at_2, at_3, ixN, Nat.reduceLT, Nat.reduceLeDiff, Int.reduceToNat, Int.reduceNeg, Int.reduceSub, Int.reduceAdd, Int.reduceMul, sz_lt, Int.zero_add, mod_int, pr_int, pr_bl, pr_non, pr_str, pr_tup, pr_nil, pr_cons, pr_lst, pr_ints, pr_prs, pr_app, pr_kD, mt_1, mt_2, mt_3, mt_4, mt_5, mt_6, mt_7, rev_lk, max_lk, min_lk, sum_lk, any_lk, all_lk, count_lk, index_lk, pop_lk, eq_D, ne_D, eqD_ll, eqD_tt, eqL_ll, eqS_same, eqS_nil, eqS_ints, eqD_ii, eqD_kk, py_app, py_nil, py_cons, py_ints, py_int, py_bl, py_non, py_kD, py_links, py_prs, py_mapi, pr_mapi, pr_linksT, gt_np, pr_loc, pr_stps, pr_stp, aug_add, aug_sub, ko_app, take_left', len_aa, w0, e]
  · by_cases w1 : way = 1
    · obtain ⟨d, a', c', e, hd⟩ := one_s k (L := [.lst [.int 1, .int 1, .int 1, .int 2, .int 2, .int 3, .int 4, .int 9]]) (a := a) (b := b) (c := c) (v := .loc S.length) (ds := [.int 1, .int 1, .int 1, .int 2, .int 2, .int 3, .int 4, .int 9]) hs (fun a' c' => by simp only [List.append_assoc, List.length_append, lk_app, lk_app0, lk_sapp, lk_sapp0, lk_z, lk_s, st_app, st_app0, st_sapp, st_sapp0, len_set, set_set, sq_lk, ix_lk, sl_lk, len_lk, tuple_lk, list_lk, list_tup, ty_lk, stays_lk, set_lk, add_lk, app_lk, ext_lk, clear_lk, recv_lk, get2_lk, tr_lk, gp_0, gp_1, gp_2, gp_3, gp_4, gp_5, gp_6, gp_7, gp_8, ko_n, ko_s, ko_p, gq_1, gq_2, gq_3, gq_4, gq_5, gq_6, gq_7, gq_8, gq_9, gq_10, gq_11, gq_12, gq_13, gq_14, gq_15, gq_16, gcR, Nat.lt_irrefl, Nat.not_lt_zero, List.take_succ_cons, List.take_zero, List.take_nil, D.beqL_self, at_2, at_3, ixN, Nat.reduceLT, Nat.reduceLeDiff, Int.reduceToNat, Int.reduceNeg, Int.reduceSub, Int.reduceAdd, Int.reduceMul, sz_lt, Int.zero_add, mod_int, pr_int, pr_bl, pr_non, pr_str, pr_tup, pr_nil, pr_cons, pr_lst, pr_ints, pr_prs, pr_app, pr_kD, mt_1, mt_2, mt_3, mt_4, mt_5, mt_6, mt_7, rev_lk, max_lk, min_lk, sum_lk, any_lk, all_lk, count_lk, index_lk, pop_lk, eq_D, ne_D, eqD_ll, eqD_tt, eqL_ll, eqS_same, eqS_nil, eqS_ints, eqD_ii, eqD_kk, py_app, py_nil, py_cons, py_ints, py_int, py_bl, py_non, py_kD, py_links, py_prs, py_mapi, pr_mapi, pr_linksT, gt_np, pr_loc, pr_stps, pr_stp, aug_add, aug_sub, ko_app, take_left', len_aa]) (by simp) (by simp) (by rfl)
      obtain ⟨i, rfl, i1, i2⟩ : ∃ i : Int, d = .int i ∧ 1 ≤ i ∧ i ≤ 9 := by
        simp only [List.mem_cons, List.not_mem_nil, or_false] at hd
        rcases hd with rfl | rfl | rfl | rfl | rfl | rfl | rfl | rfl <;> exact ⟨_, rfl, by omega, by omega⟩
      refine ⟨i, a', c', ?_, i1, i2⟩
      simp only [d__law_height, b__law_height, bnd_some, bnd_none, opt_some, opt_none, seqF_next, seqF_brk, seqF_cnt, seqF_ret, ts_nil, ts_cons, out_ret, out_next, ite_t, ite_f, bop_and_t, bop_and_f, bop_or_t, bop_or_f, bb_and_t, bb_and_f, bb_or_t, bb_or_f, slot_0, slot_s, e_con, b_con, e_var, b_var, e_glo, b_glo, e_tup, b_tup, e_lst, b_lst, e_dct, b_dct, e_op, b_op, e_neg, b_neg, e_not, b_not, e_bop, b_bop, e_cmp, b_cmp, e_chn, b_chn, e_ifx, b_ifx, e_ix, b_ix, e_sl, b_sl, e_call, b_call, e_bi, b_bi, e_mxd, b_mxd, e_isi, b_isi, e_isl, b_isl, e_lrg, b_lrg, e_mt, b_mt, e_lc, b_lc, e_rev, b_rev, e_gtp, e_lrg1, i_rng3, bop_1, bop_2, bb_1, bb_2, es_nil, es_cons, eo_none, eo_some, if_none, if_some, i_ex, i_rng1, i_rng2, i_enm, q_nm, q_tp, q_sb, setK_some, qs_nil, qs_cons, t_asg, t_aug, t_ex, t_ret, t_retN, t_iff, t_fr, t_whl, t_brk, t_cnt, t_pas, con_none, con_bool, con_int, con_str, neg_int, not_bl, int_int, add_int, sub_int, lt_int, le_int, gt_int, ge_int, eq_int, ne_int, is_nn, is_in, is_bb, isn_nn, isn_in, isn_bb, tr_non, tr_bl, tr_int, ty_non, ty_bl, ty_int, ty_tup, ty_ro, isa_int_int, isa_int_bool, isa_int_list, isa_int_tuple, isa_list_list, isa_list_tuple, isa_tuple_list, isa_tuple_tuple, sq_tup, sq_ro, bi_int_int, bi_int_bl, bi_tuple_tup, bi_min, bi_max, bi_len_tup, bi_len_ro, ix_tup, ix_ro, sl_tup, sl_ro, stays_tup, stays_ro, at_0, at_1, gc_ai, gc_aai, gc_aaai, gc_ab, gc_aab, gc_aaab, gc_an, gc_aan, gc_aaan, gc_same, wipe_nil, wipe_cons, sz_0, sz_1, sz_2, sz_3, sz_4, sz_5, sz_6, sz_7, sz_8, sz_9, sz_10, runDef, runFull, Def.full, startD, List.length_cons, List.length_nil, List.map_cons, List.map_nil, List.append_nil, List.nil_append, List.cons_append, List.drop_nil, List.drop_zero, List.set_cons_zero, List.set_cons_succ, List.replicate, if_true, if_false, Bool.not_true, Bool.not_false, Bool.true_or, Bool.false_or, Option.map_some, Option.map_none, Nat.zero_add, Nat.add_zero, Nat.sub_self, Nat.reduceAdd, Nat.reduceSub, ↓reduceIte, Bool.and_true, Bool.true_and, Bool.false_and, Bool.and_false, Int.cast_ofNat_Int, decide_true, decide_false, Int.reduceEq, Int.reduceLT, Int.reduceLE, Bool.false_eq_true, List.append_assoc, List.length_append, lk_app, lk_app0, lk_sapp, lk_sapp0, lk_z, lk_s, st_app, st_app0, st_sapp, st_sapp0, len_set, set_set, sq_lk, ix_lk, sl_lk, len_lk, tuple_lk, list_lk, list_tup, ty_lk, stays_lk, set_lk, add_lk, app_lk, ext_lk, clear_lk, recv_lk, get2_lk, tr_lk, gp_0, gp_1, gp_2, gp_3, gp_4, gp_5, gp_6, gp_7, gp_8, ko_n, ko_s, ko_p, gq_1, gq_2, gq_3, gq_4, gq_5, gq_6, gq_7, gq_8, gq_9, gq_10, gq_11, gq_12, gq_13, gq_14, gq_15, gq_16, gcR, Nat.lt_irrefl, Nat.not_lt_zero, List.take_succ_cons, List.take_zero, List.take_nil, D.beqL_self, at_2, at_3, ixN, Nat.reduceLT, Nat.reduceLeDiff, Int.reduceToNat, Int.reduceNeg, Int.reduceSub, Int.reduceAdd, Int.reduceMul, sz_lt, Int.zero_add, mod_int, pr_int, pr_bl, pr_non, pr_str, pr_tup, pr_nil, pr_cons, pr_lst, pr_ints, pr_prs, pr_app, pr_kD, mt_1, mt_2, mt_3, mt_4, mt_5, mt_6, mt_7, rev_lk, max_lk, min_lk, sum_lk, any_lk, all_lk, count_lk, index_lk, pop_lk, eq_D, ne_D, eqD_ll, eqD_tt, eqL_ll, eqS_same, eqS_nil, eqS_ints, eqD_ii, eqD_kk, py_app, py_nil, py_cons, py_ints, py_int, py_bl, py_non, py_kD, py_links, py_prs, py_mapi, pr_mapi, pr_linksT, gt_np, pr_loc, pr_stps, pr_stp, aug_add, aug_sub, ko_app, take_left', len_aa, w0, w1, e]
    · have er : rngD 0 6 = some ⟨(rangeI 0 6).map D.int, fun _ => true⟩ := rng_small (by decide) (by decide) (by decide) (by decide)
      simp only [d__law_height, b__law_height, bnd_some, bnd_none, opt_some, opt_none, seqF_next, seqF_brk, seqF_cnt, seqF_ret, ts_nil, ts_cons, out_ret, out_next, ite_t, ite_f, bop_and_t, bop_and_f, bop_or_t, bop_or_f, bb_and_t, bb_and_f, bb_or_t, bb_or_f, slot_0, slot_s, e_con, b_con, e_var, b_var, e_glo, b_glo, e_tup, b_tup, e_lst, b_lst, e_dct, b_dct, e_op, b_op, e_neg, b_neg, e_not, b_not, e_bop, b_bop, e_cmp, b_cmp, e_chn, b_chn, e_ifx, b_ifx, e_ix, b_ix, e_sl, b_sl, e_call, b_call, e_bi, b_bi, e_mxd, b_mxd, e_isi, b_isi, e_isl, b_isl, e_lrg, b_lrg, e_mt, b_mt, e_lc, b_lc, e_rev, b_rev, e_gtp, e_lrg1, i_rng3, bop_1, bop_2, bb_1, bb_2, es_nil, es_cons, eo_none, eo_some, if_none, if_some, i_ex, i_rng1, i_rng2, i_enm, q_nm, q_tp, q_sb, setK_some, qs_nil, qs_cons, t_asg, t_aug, t_ex, t_ret, t_retN, t_iff, t_fr, t_whl, t_brk, t_cnt, t_pas, con_none, con_bool, con_int, con_str, neg_int, not_bl, int_int, add_int, sub_int, lt_int, le_int, gt_int, ge_int, eq_int, ne_int, is_nn, is_in, is_bb, isn_nn, isn_in, isn_bb, tr_non, tr_bl, tr_int, ty_non, ty_bl, ty_int, ty_tup, ty_ro, isa_int_int, isa_int_bool, isa_int_list, isa_int_tuple, isa_list_list, isa_list_tuple, isa_tuple_list, isa_tuple_tuple, sq_tup, sq_ro, bi_int_int, bi_int_bl, bi_tuple_tup, bi_min, bi_max, bi_len_tup, bi_len_ro, ix_tup, ix_ro, sl_tup, sl_ro, stays_tup, stays_ro, at_0, at_1, gc_ai, gc_aai, gc_aaai, gc_ab, gc_aab, gc_aaab, gc_an, gc_aan, gc_aaan, gc_same, wipe_nil, wipe_cons, sz_0, sz_1, sz_2, sz_3, sz_4, sz_5, sz_6, sz_7, sz_8, sz_9, sz_10, runDef, runFull, Def.full, startD, List.length_cons, List.length_nil, List.map_cons, List.map_nil, List.append_nil, List.nil_append, List.cons_append, List.drop_nil, List.drop_zero, List.set_cons_zero, List.set_cons_succ, List.replicate, if_true, if_false, Bool.not_true, Bool.not_false, Bool.true_or, Bool.false_or, Option.map_some, Option.map_none, Nat.zero_add, Nat.add_zero, Nat.sub_self, Nat.reduceAdd, Nat.reduceSub, ↓reduceIte, Bool.and_true, Bool.true_and, Bool.false_and, Bool.and_false, Int.cast_ofNat_Int, decide_true, decide_false, Int.reduceEq, Int.reduceLT, Int.reduceLE, Bool.false_eq_true, List.append_assoc, List.length_append, lk_app, lk_app0, lk_sapp, lk_sapp0, lk_z, lk_s, st_app, st_app0, st_sapp, st_sapp0, len_set, set_set, sq_lk, ix_lk, sl_lk, len_lk, tuple_lk, list_lk, list_tup, ty_lk, stays_lk, set_lk, add_lk, app_lk, ext_lk, clear_lk, recv_lk, get2_lk, tr_lk, gp_0, gp_1, gp_2, gp_3, gp_4, gp_5, gp_6, gp_7, gp_8, ko_n, ko_s, ko_p, gq_1, gq_2, gq_3, gq_4, gq_5, gq_6, gq_7, gq_8, gq_9, gq_10, gq_11, gq_12, gq_13, gq_14, gq_15, gq_16, gcR, Nat.lt_irrefl, Nat.not_lt_zero, List.take_succ_cons, List.take_zero, List.take_nil, D.beqL_self, at_2, at_3, ixN, Nat.reduceLT, Nat.reduceLeDiff, Int.reduceToNat, Int.reduceNeg, Int.reduceSub, Int.reduceAdd, Int.reduceMul, sz_lt, Int.zero_add, mod_int, pr_int, pr_bl, pr_non, pr_str, pr_tup, pr_nil, pr_cons, pr_lst, pr_ints, pr_prs, pr_app, pr_kD, mt_1, mt_2, mt_3, mt_4, mt_5, mt_6, mt_7, rev_lk, max_lk, min_lk, sum_lk, any_lk, all_lk, count_lk, index_lk, pop_lk, eq_D, ne_D, eqD_ll, eqD_tt, eqL_ll, eqS_same, eqS_nil, eqS_ints, eqD_ii, eqD_kk, py_app, py_nil, py_cons, py_ints, py_int, py_bl, py_non, py_kD, py_links, py_prs, py_mapi, pr_mapi, pr_linksT, gt_np, pr_loc, pr_stps, pr_stp, aug_add, aug_sub, ko_app, take_left', len_aa, w0, w1, er]
      generalize hX : forD _ _ _ _ _ _ = X
      have key := for_M hX (fun r σ T => ∃ (a c h : Int) (x : Option D), σ = [some (.loc m), some (.int way), some (.int h), x] ∧ T = S.set m (src a b c) ∧ 1 ≤ h ∧ h + r.length ≤ 7)
        (fun X => ∃ (a c h : Int) (x : Option D), X = some (.next [some (.loc m), some (.int way), some (.int h), x], S.set m (src a b c)) ∧ 1 ≤ h ∧ h ≤ 7) ⟨a, c, 1, _, rfl, rfl, by decide, by decide⟩
        (fun σ T ⟨a, c, h, x, e1, e2, e3, e4⟩ => ⟨rfl, a, c, h, x, by rw [e1, e2], e3, by simpa using e4⟩) ?_
      · obtain ⟨a, c, h, x, rfl, h1, h2⟩ := key
        exact ⟨h, a, c, by simp only [bnd_some, bnd_none, opt_some, opt_none, seqF_next, seqF_brk, seqF_cnt, seqF_ret, ts_nil, ts_cons, out_ret, out_next, ite_t, ite_f, bop_and_t, bop_and_f, bop_or_t, bop_or_f, bb_and_t, bb_and_f, bb_or_t, bb_or_f, slot_0, slot_s, e_con, b_con, e_var, b_var, e_glo, b_glo, e_tup, b_tup, e_lst, b_lst, e_dct, b_dct, e_op, b_op, e_neg, b_neg, e_not, b_not, e_bop, b_bop, e_cmp, b_cmp, e_chn, b_chn, e_ifx, b_ifx, e_ix, b_ix, e_sl, b_sl, e_call, b_call, e_bi, b_bi, e_mxd, b_mxd, e_isi, b_isi, e_isl, b_isl, e_lrg, b_lrg, e_mt, b_mt, e_lc, b_lc, e_rev, b_rev, e_gtp, e_lrg1, i_rng3, bop_1, bop_2, bb_1, bb_2, es_nil, es_cons, eo_none, eo_some, if_none, if_some, i_ex, i_rng1, i_rng2, i_enm, q_nm, q_tp, q_sb, setK_some, qs_nil, qs_cons, t_asg, t_aug, t_ex, t_ret, t_retN, t_iff, t_fr, t_whl, t_brk, t_cnt, t_pas, con_none, con_bool, con_int, con_str, neg_int, not_bl, int_int, add_int, sub_int, lt_int, le_int, gt_int, ge_int, eq_int, ne_int, is_nn, is_in, is_bb, isn_nn, isn_in, isn_bb, tr_non, tr_bl, tr_int, ty_non, ty_bl, ty_int, ty_tup, ty_ro, isa_int_int, isa_int_bool, isa_int_list, isa_int_tuple, isa_list_list, isa_list_tuple, isa_tuple_list, isa_tuple_tuple, sq_tup, sq_ro, bi_int_int, bi_int_bl, bi_tuple_tup, bi_min, bi_max, bi_len_tup, bi_len_ro, ix_tup, ix_ro, sl_tup, sl_ro, stays_tup, stays_ro, at_0, at_1, gc_ai, gc_aai, gc_aaai, gc_ab, gc_aab, gc_aaab, gc_an, gc_aan, gc_aaan, gc_same, wipe_nil, wipe_cons, sz_0, sz_1, sz_2, sz_3, sz_4, sz_5, sz_6, sz_7, sz_8, sz_9, sz_10, runDef, runFull, Def.full, startD, List.length_cons, List.length_nil, List.map_cons, List.map_nil, List.append_nil, List.nil_append, List.cons_append, List.drop_nil, List.drop_zero, List.set_cons_zero, List.set_cons_succ, List.replicate, if_true, if_false, Bool.not_true, Bool.not_false, Bool.true_or, Bool.false_or, Option.map_some, Option.map_none, Nat.zero_add, Nat.add_zero, Nat.sub_self, Nat.reduceAdd, Nat.reduceSub, ↓reduceIte, Bool.and_true, Bool.true_and, Bool.false_and, Bool.and_false, Int.cast_ofNat_Int, decide_true, decide_false, Int.reduceEq, Int.reduceLT, Int.reduceLE, Bool.false_eq_true, List.append_assoc, List.length_append, lk_app, lk_app0, lk_sapp, lk_sapp0, lk_z, lk_s, st_app, st_app0, st_sapp, st_sapp0, len_set, set_set, sq_lk, ix_lk, sl_lk, len_lk, tuple_lk, list_lk, list_tup, ty_lk, stays_lk, set_lk, add_lk, app_lk, ext_lk, clear_lk, recv_lk, get2_lk, tr_lk, gp_0, gp_1, gp_2, gp_3, gp_4, gp_5, gp_6, gp_7, gp_8, ko_n, ko_s, ko_p, gq_1, gq_2, gq_3, gq_4, gq_5, gq_6, gq_7, gq_8, gq_9, gq_10, gq_11, gq_12, gq_13, gq_14, gq_15, gq_16, gcR, Nat.lt_irrefl, Nat.not_lt_zero, List.take_succ_cons, List.take_zero, List.take_nil, D.beqL_self, at_2, at_3, ixN, Nat.reduceLT, Nat.reduceLeDiff, Int.reduceToNat, Int.reduceNeg, Int.reduceSub, Int.reduceAdd, Int.reduceMul, sz_lt, Int.zero_add, mod_int, pr_int, pr_bl, pr_non, pr_str, pr_tup, pr_nil, pr_cons, pr_lst, pr_ints, pr_prs, pr_app, pr_kD, mt_1, mt_2, mt_3, mt_4, mt_5, mt_6, mt_7, rev_lk, max_lk, min_lk, sum_lk, any_lk, all_lk, count_lk, index_lk, pop_lk, eq_D, ne_D, eqD_ll, eqD_tt, eqL_ll, eqS_same, eqS_nil, eqS_ints, eqD_ii, eqD_kk, py_app, py_nil, py_cons, py_ints, py_int, py_bl, py_non, py_kD, py_links, py_prs, py_mapi, pr_mapi, pr_linksT, gt_np, pr_loc, pr_stps, pr_stp, aug_add, aug_sub, ko_app, take_left', len_aa], h1, by omega⟩
      · clear hX X
        rintro t r σ T ⟨a, c, h, x, rfl, rfl, h1, h2⟩
        refine ⟨rfl, ?_⟩
        obtain ⟨q, a', c', e, -, -⟩ := draw_s0 (k + 1) (a := a) (b := b) (c := c) (many := 2) hs (by decide) (by decide)
        simp only [List.length_cons] at h2
        by_cases ht : h = t + 1
        · by_cases hq : q = 1
          · simp only [bnd_some, bnd_none, opt_some, opt_none, seqF_next, seqF_brk, seqF_cnt, seqF_ret, ts_nil, ts_cons, out_ret, out_next, ite_t, ite_f, bop_and_t, bop_and_f, bop_or_t, bop_or_f, bb_and_t, bb_and_f, bb_or_t, bb_or_f, slot_0, slot_s, e_con, b_con, e_var, b_var, e_glo, b_glo, e_tup, b_tup, e_lst, b_lst, e_dct, b_dct, e_op, b_op, e_neg, b_neg, e_not, b_not, e_bop, b_bop, e_cmp, b_cmp, e_chn, b_chn, e_ifx, b_ifx, e_ix, b_ix, e_sl, b_sl, e_call, b_call, e_bi, b_bi, e_mxd, b_mxd, e_isi, b_isi, e_isl, b_isl, e_lrg, b_lrg, e_mt, b_mt, e_lc, b_lc, e_rev, b_rev, e_gtp, e_lrg1, i_rng3, bop_1, bop_2, bb_1, bb_2, es_nil, es_cons, eo_none, eo_some, if_none, if_some, i_ex, i_rng1, i_rng2, i_enm, q_nm, q_tp, q_sb, setK_some, qs_nil, qs_cons, t_asg, t_aug, t_ex, t_ret, t_retN, t_iff, t_fr, t_whl, t_brk, t_cnt, t_pas, con_none, con_bool, con_int, con_str, neg_int, not_bl, int_int, add_int, sub_int, lt_int, le_int, gt_int, ge_int, eq_int, ne_int, is_nn, is_in, is_bb, isn_nn, isn_in, isn_bb, tr_non, tr_bl, tr_int, ty_non, ty_bl, ty_int, ty_tup, ty_ro, isa_int_int, isa_int_bool, isa_int_list, isa_int_tuple, isa_list_list, isa_list_tuple, isa_tuple_list, isa_tuple_tuple, sq_tup, sq_ro, bi_int_int, bi_int_bl, bi_tuple_tup, bi_min, bi_max, bi_len_tup, bi_len_ro, ix_tup, ix_ro, sl_tup, sl_ro, stays_tup, stays_ro, at_0, at_1, gc_ai, gc_aai, gc_aaai, gc_ab, gc_aab, gc_aaab, gc_an, gc_aan, gc_aaan, gc_same, wipe_nil, wipe_cons, sz_0, sz_1, sz_2, sz_3, sz_4, sz_5, sz_6, sz_7, sz_8, sz_9, sz_10, runDef, runFull, Def.full, startD, List.length_cons, List.length_nil, List.map_cons, List.map_nil, List.append_nil, List.nil_append, List.cons_append, List.drop_nil, List.drop_zero, List.set_cons_zero, List.set_cons_succ, List.replicate, if_true, if_false, Bool.not_true, Bool.not_false, Bool.true_or, Bool.false_or, Option.map_some, Option.map_none, Nat.zero_add, Nat.add_zero, Nat.sub_self, Nat.reduceAdd, Nat.reduceSub, ↓reduceIte, Bool.and_true, Bool.true_and, Bool.false_and, Bool.and_false, Int.cast_ofNat_Int, decide_true, decide_false, Int.reduceEq, Int.reduceLT, Int.reduceLE, Bool.false_eq_true, List.append_assoc, List.length_append, lk_app, lk_app0, lk_sapp, lk_sapp0, lk_z, lk_s, st_app, st_app0, st_sapp, st_sapp0, len_set, set_set, sq_lk, ix_lk, sl_lk, len_lk, tuple_lk, list_lk, list_tup, ty_lk, stays_lk, set_lk, add_lk, app_lk, ext_lk, clear_lk, recv_lk, get2_lk, tr_lk, gp_0, gp_1, gp_2, gp_3, gp_4, gp_5, gp_6, gp_7, gp_8, ko_n, ko_s, ko_p, gq_1, gq_2, gq_3, gq_4, gq_5, gq_6, gq_7, gq_8, gq_9, gq_10, gq_11, gq_12, gq_13, gq_14, gq_15, gq_16, gcR, Nat.lt_irrefl, Nat.not_lt_zero, List.take_succ_cons, List.take_zero, List.take_nil, D.beqL_self, at_2, at_3, ixN, Nat.reduceLT, Nat.reduceLeDiff, Int.reduceToNat, Int.reduceNeg, Int.reduceSub, Int.reduceAdd, Int.reduceMul, sz_lt, Int.zero_add, mod_int, pr_int, pr_bl, pr_non, pr_str, pr_tup, pr_nil, pr_cons, pr_lst, pr_ints, pr_prs, pr_app, pr_kD, mt_1, mt_2, mt_3, mt_4, mt_5, mt_6, mt_7, rev_lk, max_lk, min_lk, sum_lk, any_lk, all_lk, count_lk, index_lk, pop_lk, eq_D, ne_D, eqD_ll, eqD_tt, eqL_ll, eqS_same, eqS_nil, eqS_ints, eqD_ii, eqD_kk, py_app, py_nil, py_cons, py_ints, py_int, py_bl, py_non, py_kD, py_links, py_prs, py_mapi, pr_mapi, pr_linksT, gt_np, pr_loc, pr_stps, pr_stp, aug_add, aug_sub, ko_app, take_left', len_aa, e, ht, hq]
            exact ⟨_, _, _, _, rfl, rfl, by omega, by omega⟩
          · simp only [bnd_some, bnd_none, opt_some, opt_none, seqF_next, seqF_brk, seqF_cnt, seqF_ret, ts_nil, ts_cons, out_ret, out_next, ite_t, ite_f, bop_and_t, bop_and_f, bop_or_t, bop_or_f, bb_and_t, bb_and_f, bb_or_t, bb_or_f, slot_0, slot_s, e_con, b_con, e_var, b_var, e_glo, b_glo, e_tup, b_tup, e_lst, b_lst, e_dct, b_dct, e_op, b_op, e_neg, b_neg, e_not, b_not, e_bop, b_bop, e_cmp, b_cmp, e_chn, b_chn, e_ifx, b_ifx, e_ix, b_ix, e_sl, b_sl, e_call, b_call, e_bi, b_bi, e_mxd, b_mxd, e_isi, b_isi, e_isl, b_isl, e_lrg, b_lrg, e_mt, b_mt, e_lc, b_lc, e_rev, b_rev, e_gtp, e_lrg1, i_rng3, bop_1, bop_2, bb_1, bb_2, es_nil, es_cons, eo_none, eo_some, if_none, if_some, i_ex, i_rng1, i_rng2, i_enm, q_nm, q_tp, q_sb, setK_some, qs_nil, qs_cons, t_asg, t_aug, t_ex, t_ret, t_retN, t_iff, t_fr, t_whl, t_brk, t_cnt, t_pas, con_none, con_bool, con_int, con_str, neg_int, not_bl, int_int, add_int, sub_int, lt_int, le_int, gt_int, ge_int, eq_int, ne_int, is_nn, is_in, is_bb, isn_nn, isn_in, isn_bb, tr_non, tr_bl, tr_int, ty_non, ty_bl, ty_int, ty_tup, ty_ro, isa_int_int, isa_int_bool, isa_int_list, isa_int_tuple, isa_list_list, isa_list_tuple, isa_tuple_list, isa_tuple_tuple, sq_tup, sq_ro, bi_int_int, bi_int_bl, bi_tuple_tup, bi_min, bi_max, bi_len_tup, bi_len_ro, ix_tup, ix_ro, sl_tup, sl_ro, stays_tup, stays_ro, at_0, at_1, gc_ai, gc_aai, gc_aaai, gc_ab, gc_aab, gc_aaab, gc_an, gc_aan, gc_aaan, gc_same, wipe_nil, wipe_cons, sz_0, sz_1, sz_2, sz_3, sz_4, sz_5, sz_6, sz_7, sz_8, sz_9, sz_10, runDef, runFull, Def.full, startD, List.length_cons, List.length_nil, List.map_cons, List.map_nil, List.append_nil, List.nil_append, List.cons_append, List.drop_nil, List.drop_zero, List.set_cons_zero, List.set_cons_succ, List.replicate, if_true, if_false, Bool.not_true, Bool.not_false, Bool.true_or, Bool.false_or, Option.map_some, Option.map_none, Nat.zero_add, Nat.add_zero, Nat.sub_self, Nat.reduceAdd, Nat.reduceSub, ↓reduceIte, Bool.and_true, Bool.true_and, Bool.false_and, Bool.and_false, Int.cast_ofNat_Int, decide_true, decide_false, Int.reduceEq, Int.reduceLT, Int.reduceLE, Bool.false_eq_true, List.append_assoc, List.length_append, lk_app, lk_app0, lk_sapp, lk_sapp0, lk_z, lk_s, st_app, st_app0, st_sapp, st_sapp0, len_set, set_set, sq_lk, ix_lk, sl_lk, len_lk, tuple_lk, list_lk, list_tup, ty_lk, stays_lk, set_lk, add_lk, app_lk, ext_lk, clear_lk, recv_lk, get2_lk, tr_lk, gp_0, gp_1, gp_2, gp_3, gp_4, gp_5, gp_6, gp_7, gp_8, ko_n, ko_s, ko_p, gq_1, gq_2, gq_3, gq_4, gq_5, gq_6, gq_7, gq_8, gq_9, gq_10, gq_11, gq_12, gq_13, gq_14, gq_15, gq_16, gcR, Nat.lt_irrefl, Nat.not_lt_zero, List.take_succ_cons, List.take_zero, List.take_nil, D.beqL_self, at_2, at_3, ixN, Nat.reduceLT, Nat.reduceLeDiff, Int.reduceToNat, Int.reduceNeg, Int.reduceSub, Int.reduceAdd, Int.reduceMul, sz_lt, Int.zero_add, mod_int, pr_int, pr_bl, pr_non, pr_str, pr_tup, pr_nil, pr_cons, pr_lst, pr_ints, pr_prs, pr_app, pr_kD, mt_1, mt_2, mt_3, mt_4, mt_5, mt_6, mt_7, rev_lk, max_lk, min_lk, sum_lk, any_lk, all_lk, count_lk, index_lk, pop_lk, eq_D, ne_D, eqD_ll, eqD_tt, eqL_ll, eqS_same, eqS_nil, eqS_ints, eqD_ii, eqD_kk, py_app, py_nil, py_cons, py_ints, py_int, py_bl, py_non, py_kD, py_links, py_prs, py_mapi, pr_mapi, pr_linksT, gt_np, pr_loc, pr_stps, pr_stp, aug_add, aug_sub, ko_app, take_left', len_aa, e, ht, hq]
            exact ⟨_, _, _, _, rfl, rfl, by omega, by omega⟩
        · simp only [bnd_some, bnd_none, opt_some, opt_none, seqF_next, seqF_brk, seqF_cnt, seqF_ret, ts_nil, ts_cons, out_ret, out_next, ite_t, ite_f, bop_and_t, bop_and_f, bop_or_t, bop_or_f, bb_and_t, bb_and_f, bb_or_t, bb_or_f, slot_0, slot_s, e_con, b_con, e_var, b_var, e_glo, b_glo, e_tup, b_tup, e_lst, b_lst, e_dct, b_dct, e_op, b_op, e_neg, b_neg, e_not, b_not, e_bop, b_bop, e_cmp, b_cmp, e_chn, b_chn, e_ifx, b_ifx, e_ix, b_ix, e_sl, b_sl, e_call, b_call, e_bi, b_bi, e_mxd, b_mxd, e_isi, b_isi, e_isl, b_isl, e_lrg, b_lrg, e_mt, b_mt, e_lc, b_lc, e_rev, b_rev, e_gtp, e_lrg1, i_rng3, bop_1, bop_2, bb_1, bb_2, es_nil, es_cons, eo_none, eo_some, if_none, if_some, i_ex, i_rng1, i_rng2, i_enm, q_nm, q_tp, q_sb, setK_some, qs_nil, qs_cons, t_asg, t_aug, t_ex, t_ret, t_retN, t_iff, t_fr, t_whl, t_brk, t_cnt, t_pas, con_none, con_bool, con_int, con_str, neg_int, not_bl, int_int, add_int, sub_int, lt_int, le_int, gt_int, ge_int, eq_int, ne_int, is_nn, is_in, is_bb, isn_nn, isn_in, isn_bb, tr_non, tr_bl, tr_int, ty_non, ty_bl, ty_int, ty_tup, ty_ro, isa_int_int, isa_int_bool, isa_int_list, isa_int_tuple, isa_list_list, isa_list_tuple, isa_tuple_list, isa_tuple_tuple, sq_tup, sq_ro, bi_int_int, bi_int_bl, bi_tuple_tup, bi_min, bi_max, bi_len_tup, bi_len_ro, ix_tup, ix_ro, sl_tup, sl_ro, stays_tup, stays_ro, at_0, at_1, gc_ai, gc_aai, gc_aaai, gc_ab, gc_aab, gc_aaab, gc_an, gc_aan, gc_aaan, gc_same, wipe_nil, wipe_cons, sz_0, sz_1, sz_2, sz_3, sz_4, sz_5, sz_6, sz_7, sz_8, sz_9, sz_10, runDef, runFull, Def.full, startD, List.length_cons, List.length_nil, List.map_cons, List.map_nil, List.append_nil, List.nil_append, List.cons_append, List.drop_nil, List.drop_zero, List.set_cons_zero, List.set_cons_succ, List.replicate, if_true, if_false, Bool.not_true, Bool.not_false, Bool.true_or, Bool.false_or, Option.map_some, Option.map_none, Nat.zero_add, Nat.add_zero, Nat.sub_self, Nat.reduceAdd, Nat.reduceSub, ↓reduceIte, Bool.and_true, Bool.true_and, Bool.false_and, Bool.and_false, Int.cast_ofNat_Int, decide_true, decide_false, Int.reduceEq, Int.reduceLT, Int.reduceLE, Bool.false_eq_true, List.append_assoc, List.length_append, lk_app, lk_app0, lk_sapp, lk_sapp0, lk_z, lk_s, st_app, st_app0, st_sapp, st_sapp0, len_set, set_set, sq_lk, ix_lk, sl_lk, len_lk, tuple_lk, list_lk, list_tup, ty_lk, stays_lk, set_lk, add_lk, app_lk, ext_lk, clear_lk, recv_lk, get2_lk, tr_lk, gp_0, gp_1, gp_2, gp_3, gp_4, gp_5, gp_6, gp_7, gp_8, ko_n, ko_s, ko_p, gq_1, gq_2, gq_3, gq_4, gq_5, gq_6, gq_7, gq_8, gq_9, gq_10, gq_11, gq_12, gq_13, gq_14, gq_15, gq_16, gcR, Nat.lt_irrefl, Nat.not_lt_zero, List.take_succ_cons, List.take_zero, List.take_nil, D.beqL_self, at_2, at_3, ixN, Nat.reduceLT, Nat.reduceLeDiff, Int.reduceToNat, Int.reduceNeg, Int.reduceSub, Int.reduceAdd, Int.reduceMul, sz_lt, Int.zero_add, mod_int, pr_int, pr_bl, pr_non, pr_str, pr_tup, pr_nil, pr_cons, pr_lst, pr_ints, pr_prs, pr_app, pr_kD, mt_1, mt_2, mt_3, mt_4, mt_5, mt_6, mt_7, rev_lk, max_lk, min_lk, sum_lk, any_lk, all_lk, count_lk, index_lk, pop_lk, eq_D, ne_D, eqD_ll, eqD_tt, eqL_ll, eqS_same, eqS_nil, eqS_ints, eqD_ii, eqD_kk, py_app, py_nil, py_cons, py_ints, py_int, py_bl, py_non, py_kD, py_links, py_prs, py_mapi, pr_mapi, pr_linksT, gt_np, pr_loc, pr_stps, pr_stp, aug_add, aug_sub, ko_app, take_left', len_aa, ht]
          exact ⟨_, _, _, _, rfl, rfl, by omega, by omega⟩
theorem height_s (k : Nat) {m : Nat} {S L : Store} {mo : MO} {a b c way : Int} (hs : lk S m = some mo) :
    ∃ h a' c', orc defs (k + 3) 20 [.loc m, .int way] (S.set m (src a b c) ++ L) = some (.int h, S.set m (src a' b c') ++ L) ∧ 1 ≤ h ∧ h ≤ 9 := by
  obtain ⟨h, a', c', e, h1⟩ := height_s0 k (a := a) (b := b) (c := c) (way := way) (S := S.set m (src a b c) ++ L) (lk_seta hs)
  rw [st_olds hs, st_olds hs] at e
  exact ⟨h, a', c', e, h1⟩
theorem towers_s0 (k : Nat) {m : Nat} {S : Store} {mo : MO} {a b c many : Int} (hs : lk S m = some mo) (hm : 0 ≤ many) (hm2 : many ≤ 900) :
    ∃ tw a' c', orc defs (k + 4) 21 [.loc m, .int many] (S.set m (src a b c)) = some (.tup (tw.map prD), S.set m (src a' b c')) ∧ Fine tw ∧ tw.length ≤ many.toNat ∧ ∀ p ∈ tw, p.2 ≤ 9 := by
  rw [orc_at (d := d__law_towers) rfl]
  obtain ⟨r1, a1, c1, e1, -, -⟩ := draw_s0 (k + 2) (a := a) (b := b) (c := c) (many := 20) hs (by decide) (by decide)
  obtain ⟨r2, a2, c2, e2, -, -⟩ := draw_s0 (k + 2) (a := a1) (b := b) (c := c1) (many := 3) hs (by decide) (by decide)
  obtain ⟨r3, a3, c3, e3, z1, z2⟩ := draw_s (k + 2) (L := [.lst []]) (a := a2) (b := b) (c := c2) (many := many + 1) hs (by omega) (by omega)
  have er : rngD 0 r3 = some ⟨(rangeI 0 r3.toNat).map D.int, fun _ => true⟩ := by
    rw [rng_small (by omega) (by omega) (by omega) (by omega)]; congr 5; omega
  simp only [d__law_towers, b__law_towers, bnd_some, bnd_none, opt_some, opt_none, seqF_next, seqF_brk, seqF_cnt, seqF_ret, ts_nil, ts_cons, out_ret, out_next, ite_t, ite_f, bop_and_t, bop_and_f, bop_or_t, bop_or_f, bb_and_t, bb_and_f, bb_or_t, bb_or_f, slot_0, slot_s, e_con, b_con, e_var, b_var, e_glo, b_glo, e_tup, b_tup, e_lst, b_lst, e_dct, b_dct, e_op, b_op, e_neg, b_neg, e_not, b_not, e_bop, b_bop, e_cmp, b_cmp, e_chn, b_chn, e_ifx, b_ifx, e_ix, b_ix, e_sl, b_sl, e_call, b_call, e_bi, b_bi, e_mxd, b_mxd, e_isi, b_isi, e_isl, b_isl, e_lrg, b_lrg, e_mt, b_mt, e_lc, b_lc, e_rev, b_rev, e_gtp, e_lrg1, i_rng3, bop_1, bop_2, bb_1, bb_2, es_nil, es_cons, eo_none, eo_some, if_none, if_some, i_ex, i_rng1, i_rng2, i_enm, q_nm, q_tp, q_sb, setK_some, qs_nil, qs_cons, t_asg, t_aug, t_ex, t_ret, t_retN, t_iff, t_fr, t_whl, t_brk, t_cnt, t_pas, con_none, con_bool, con_int, con_str, neg_int, not_bl, int_int, add_int, sub_int, lt_int, le_int, gt_int, ge_int, eq_int, ne_int, is_nn, is_in, is_bb, isn_nn, isn_in, isn_bb, tr_non, tr_bl, tr_int, ty_non, ty_bl, ty_int, ty_tup, ty_ro, isa_int_int, isa_int_bool, isa_int_list, isa_int_tuple, isa_list_list, isa_list_tuple, isa_tuple_list, isa_tuple_tuple, sq_tup, sq_ro, bi_int_int, bi_int_bl, bi_tuple_tup, bi_min, bi_max, bi_len_tup, bi_len_ro, ix_tup, ix_ro, sl_tup, sl_ro, stays_tup, stays_ro, at_0, at_1, gc_ai, gc_aai, gc_aaai, gc_ab, gc_aab, gc_aaab, gc_an, gc_aan, gc_aaan, gc_same, wipe_nil, wipe_cons, sz_0, sz_1, sz_2, sz_3, sz_4, sz_5, sz_6, sz_7, sz_8, sz_9, sz_10, runDef, runFull, Def.full, startD, List.length_cons, List.length_nil, List.map_cons, List.map_nil, List.append_nil, List.nil_append, List.cons_append, List.drop_nil, List.drop_zero, List.set_cons_zero, List.set_cons_succ, List.replicate, if_true, if_false, Bool.not_true, Bool.not_false, Bool.true_or, Bool.false_or, Option.map_some, Option.map_none, Nat.zero_add, Nat.add_zero, Nat.sub_self, Nat.reduceAdd, Nat.reduceSub, ↓reduceIte, Bool.and_true, Bool.true_and, Bool.false_and, Bool.and_false, Int.cast_ofNat_Int, decide_true, decide_false, Int.reduceEq, Int.reduceLT, Int.reduceLE, Bool.false_eq_true, List.append_assoc, List.length_append, lk_app, lk_app0, lk_sapp, lk_sapp0, lk_z, lk_s, st_app, st_app0, st_sapp, st_sapp0, len_set, set_set, sq_lk, ix_lk, sl_lk, len_lk, tuple_lk, list_lk, list_tup, ty_lk, stays_lk, set_lk, add_lk, app_lk, ext_lk, clear_lk, recv_lk, get2_lk, tr_lk, gp_0, gp_1, gp_2, gp_3, gp_4, gp_5, gp_6, gp_7, gp_8, ko_n, ko_s, ko_p, gq_1, gq_2, gq_3, gq_4, gq_5, gq_6, gq_7, gq_8, gq_9, gq_10, gq_11, gq_12, gq_13, gq_14, gq_15, gq_16, gcR, Nat.lt_irrefl, Nat.not_lt_zero, List.take_succ_cons, List.take_zero, List.take_nil, D.beqL_self, at_2, at_3, ixN, Nat.reduceLT, Nat.reduceLeDiff, Int.reduceToNat, Int.reduceNeg, Int.reduceSub, Int.reduceAdd, Int.reduceMul, sz_lt, Int.zero_add, mod_int, pr_int, pr_bl, pr_non, pr_str, pr_tup, pr_nil, pr_cons, pr_lst, pr_ints, pr_prs, pr_app, pr_kD, mt_1, mt_2, mt_3, mt_4, mt_5, mt_6, mt_7, rev_lk, max_lk, min_lk, sum_lk, any_lk, all_lk, count_lk, index_lk, pop_lk, eq_D, ne_D, eqD_ll, eqD_tt, eqL_ll, eqS_same, eqS_nil, eqS_ints, eqD_ii, eqD_kk, py_app, py_nil, py_cons, py_ints, py_int, py_bl, py_non, py_kD, py_links, py_prs, py_mapi, pr_mapi, pr_linksT, gt_np, pr_loc, pr_stps, pr_stp, aug_add, aug_sub, ko_app, take_left', len_aa, e1, e2, e3, er]
  generalize hX : forD _ _ _ _ _ _ = X
  have key := for_M hX (fun r σ T => ∃ (a c kk : Int) (tw : Tws) (x : Option D), σ = [some (.loc m), some (.int many), some (.int kk), some (.int r2), some (.loc S.length), x] ∧ T = S.set m (src a b c) ++ [.lst (tw.map prD)] ∧ Fine tw ∧ (∀ p ∈ tw, p.1 ≤ kk ∧ p.2 ≤ 9) ∧ r.length + tw.length ≤ many.toNat)
    (fun X => ∃ (a c kk : Int) (tw : Tws) (x : Option D), X = some (.next [some (.loc m), some (.int many), some (.int kk), some (.int r2), some (.loc S.length), x], S.set m (src a b c) ++ [.lst (tw.map prD)]) ∧ Fine tw ∧ (∀ p ∈ tw, p.2 ≤ 9) ∧ tw.length ≤ many.toNat)
    ⟨a3, c3, r1 - 10, [], none, rfl, rfl, trivial, (fun _ z => nomatch z), by simp [rangeI_len]; omega⟩
    (fun σ T ⟨a, c, kk, tw, x, h1, h2, h3, h4, h5⟩ => ⟨rfl, a, c, kk, tw, x, by rw [h1, h2], h3, fun p hp => (h4 p hp).2, by simpa using h5⟩) ?_
  · obtain ⟨a, c, kk, tw, x, rfl, h3, h4, h5⟩ := key
    refine ⟨tw, a, c, ?_, h3, h5, h4⟩
    simp only [bnd_some, bnd_none, opt_some, opt_none, seqF_next, seqF_brk, seqF_cnt, seqF_ret, ts_nil, ts_cons, out_ret, out_next, ite_t, ite_f, bop_and_t, bop_and_f, bop_or_t, bop_or_f, bb_and_t, bb_and_f, bb_or_t, bb_or_f, slot_0, slot_s, e_con, b_con, e_var, b_var, e_glo, b_glo, e_tup, b_tup, e_lst, b_lst, e_dct, b_dct, e_op, b_op, e_neg, b_neg, e_not, b_not, e_bop, b_bop, e_cmp, b_cmp, e_chn, b_chn, e_ifx, b_ifx, e_ix, b_ix, e_sl, b_sl, e_call, b_call, e_bi, b_bi, e_mxd, b_mxd, e_isi, b_isi, e_isl, b_isl, e_lrg, b_lrg, e_mt, b_mt, e_lc, b_lc, e_rev, b_rev, e_gtp, e_lrg1, i_rng3, bop_1, bop_2, bb_1, bb_2, es_nil, es_cons, eo_none, eo_some, if_none, if_some, i_ex, i_rng1, i_rng2, i_enm, q_nm, q_tp, q_sb, setK_some, qs_nil, qs_cons, t_asg, t_aug, t_ex, t_ret, t_retN, t_iff, t_fr, t_whl, t_brk, t_cnt, t_pas, con_none, con_bool, con_int, con_str, neg_int, not_bl, int_int, add_int, sub_int, lt_int, le_int, gt_int, ge_int, eq_int, ne_int, is_nn, is_in, is_bb, isn_nn, isn_in, isn_bb, tr_non, tr_bl, tr_int, ty_non, ty_bl, ty_int, ty_tup, ty_ro, isa_int_int, isa_int_bool, isa_int_list, isa_int_tuple, isa_list_list, isa_list_tuple, isa_tuple_list, isa_tuple_tuple, sq_tup, sq_ro, bi_int_int, bi_int_bl, bi_tuple_tup, bi_min, bi_max, bi_len_tup, bi_len_ro, ix_tup, ix_ro, sl_tup, sl_ro, stays_tup, stays_ro, at_0, at_1, gc_ai, gc_aai, gc_aaai, gc_ab, gc_aab, gc_aaab, gc_an, gc_aan, gc_aaan, gc_same, wipe_nil, wipe_cons, sz_0, sz_1, sz_2, sz_3, sz_4, sz_5, sz_6, sz_7, sz_8, sz_9, sz_10, runDef, runFull, Def.full, startD, List.length_cons, List.length_nil, List.map_cons, List.map_nil, List.append_nil, List.nil_append, List.cons_append, List.drop_nil, List.drop_zero, List.set_cons_zero, List.set_cons_succ, List.replicate, if_true, if_false, Bool.not_true, Bool.not_false, Bool.true_or, Bool.false_or, Option.map_some, Option.map_none, Nat.zero_add, Nat.add_zero, Nat.sub_self, Nat.reduceAdd, Nat.reduceSub, ↓reduceIte, Bool.and_true, Bool.true_and, Bool.false_and, Bool.and_false, Int.cast_ofNat_Int, decide_true, decide_false, Int.reduceEq, Int.reduceLT, Int.reduceLE, Bool.false_eq_true, List.append_assoc, List.length_append, lk_app, lk_app0, lk_sapp, lk_sapp0, lk_z, lk_s, st_app, st_app0, st_sapp, st_sapp0, len_set, set_set, sq_lk, ix_lk, sl_lk, len_lk, tuple_lk, list_lk, list_tup, ty_lk, stays_lk, set_lk, add_lk, app_lk, ext_lk, clear_lk, recv_lk, get2_lk, tr_lk, gp_0, gp_1, gp_2, gp_3, gp_4, gp_5, gp_6, gp_7, gp_8, ko_n, ko_s, ko_p, gq_1, gq_2, gq_3, gq_4, gq_5, gq_6, gq_7, gq_8, gq_9, gq_10, gq_11, gq_12, gq_13, gq_14, gq_15, gq_16, gcR, Nat.lt_irrefl, Nat.not_lt_zero, List.take_succ_cons, List.take_zero, List.take_nil, D.beqL_self, at_2, at_3, ixN, Nat.reduceLT, Nat.reduceLeDiff, Int.reduceToNat, Int.reduceNeg, Int.reduceSub, Int.reduceAdd, Int.reduceMul, sz_lt, Int.zero_add, mod_int, pr_int, pr_bl, pr_non, pr_str, pr_tup, pr_nil, pr_cons, pr_lst, pr_ints, pr_prs, pr_app, pr_kD, mt_1, mt_2, mt_3, mt_4, mt_5, mt_6, mt_7, rev_lk, max_lk, min_lk, sum_lk, any_lk, all_lk, count_lk, index_lk, pop_lk, eq_D, ne_D, eqD_ll, eqD_tt, eqL_ll, eqS_same, eqS_nil, eqS_ints, eqD_ii, eqD_kk, py_app, py_nil, py_cons, py_ints, py_int, py_bl, py_non, py_kD, py_links, py_prs, py_mapi, pr_mapi, pr_linksT, gt_np, pr_loc, pr_stps, pr_stp, aug_add, aug_sub, ko_app, take_left', len_aa]
  · clear hX X
    rintro z r σ T ⟨a, c, kk, tw, x, rfl, rfl, h3, h4, h5⟩
    refine ⟨rfl, ?_⟩
    obtain ⟨d4, a4, c4, e4, m4⟩ := one_s (k + 1) (L := [.lst (tw.map prD), .lst [.int 0, .int 0, .int 1, .int 4]]) (a := a) (b := b) (c := c) (v := .loc (S.length + 1)) (ds := [.int 0, .int 0, .int 1, .int 4]) hs (fun a' c' => by simp only [List.append_assoc, List.length_append, lk_app, lk_app0, lk_sapp, lk_sapp0, lk_z, lk_s, st_app, st_app0, st_sapp, st_sapp0, len_set, set_set, sq_lk, ix_lk, sl_lk, len_lk, tuple_lk, list_lk, list_tup, ty_lk, stays_lk, set_lk, add_lk, app_lk, ext_lk, clear_lk, recv_lk, get2_lk, tr_lk, gp_0, gp_1, gp_2, gp_3, gp_4, gp_5, gp_6, gp_7, gp_8, ko_n, ko_s, ko_p, gq_1, gq_2, gq_3, gq_4, gq_5, gq_6, gq_7, gq_8, gq_9, gq_10, gq_11, gq_12, gq_13, gq_14, gq_15, gq_16, gcR, Nat.lt_irrefl, Nat.not_lt_zero, List.take_succ_cons, List.take_zero, List.take_nil, D.beqL_self, at_2, at_3, ixN, Nat.reduceLT, Nat.reduceLeDiff, Int.reduceToNat, Int.reduceNeg, Int.reduceSub, Int.reduceAdd, Int.reduceMul, sz_lt, Int.zero_add, mod_int, pr_int, pr_bl, pr_non, pr_str, pr_tup, pr_nil, pr_cons, pr_lst, pr_ints, pr_prs, pr_app, pr_kD, mt_1, mt_2, mt_3, mt_4, mt_5, mt_6, mt_7, rev_lk, max_lk, min_lk, sum_lk, any_lk, all_lk, count_lk, index_lk, pop_lk, eq_D, ne_D, eqD_ll, eqD_tt, eqL_ll, eqS_same, eqS_nil, eqS_ints, eqD_ii, eqD_kk, py_app, py_nil, py_cons, py_ints, py_int, py_bl, py_non, py_kD, py_links, py_prs, py_mapi, pr_mapi, pr_linksT, gt_np, pr_loc, pr_stps, pr_stp, aug_add, aug_sub, ko_app, take_left', len_aa]) (by simp) (by simp) (by rfl)
    obtain ⟨i4, rfl, n4⟩ : ∃ i : Int, d4 = .int i ∧ 0 ≤ i := by
      simp only [List.mem_cons, List.not_mem_nil, or_false] at m4
      rcases m4 with rfl | rfl | rfl | rfl <;> exact ⟨_, rfl, by omega⟩
    obtain ⟨h, a5, c5, e5, n5, n6⟩ := height_s k (L := [.lst (tw.map prD)]) (a := a4) (b := b) (c := c4) (way := r2) hs
    have hl : tw.length < sizeLine := lt_size (by simp at h5; omega)
    simp only [bnd_some, bnd_none, opt_some, opt_none, seqF_next, seqF_brk, seqF_cnt, seqF_ret, ts_nil, ts_cons, out_ret, out_next, ite_t, ite_f, bop_and_t, bop_and_f, bop_or_t, bop_or_f, bb_and_t, bb_and_f, bb_or_t, bb_or_f, slot_0, slot_s, e_con, b_con, e_var, b_var, e_glo, b_glo, e_tup, b_tup, e_lst, b_lst, e_dct, b_dct, e_op, b_op, e_neg, b_neg, e_not, b_not, e_bop, b_bop, e_cmp, b_cmp, e_chn, b_chn, e_ifx, b_ifx, e_ix, b_ix, e_sl, b_sl, e_call, b_call, e_bi, b_bi, e_mxd, b_mxd, e_isi, b_isi, e_isl, b_isl, e_lrg, b_lrg, e_mt, b_mt, e_lc, b_lc, e_rev, b_rev, e_gtp, e_lrg1, i_rng3, bop_1, bop_2, bb_1, bb_2, es_nil, es_cons, eo_none, eo_some, if_none, if_some, i_ex, i_rng1, i_rng2, i_enm, q_nm, q_tp, q_sb, setK_some, qs_nil, qs_cons, t_asg, t_aug, t_ex, t_ret, t_retN, t_iff, t_fr, t_whl, t_brk, t_cnt, t_pas, con_none, con_bool, con_int, con_str, neg_int, not_bl, int_int, add_int, sub_int, lt_int, le_int, gt_int, ge_int, eq_int, ne_int, is_nn, is_in, is_bb, isn_nn, isn_in, isn_bb, tr_non, tr_bl, tr_int, ty_non, ty_bl, ty_int, ty_tup, ty_ro, isa_int_int, isa_int_bool, isa_int_list, isa_int_tuple, isa_list_list, isa_list_tuple, isa_tuple_list, isa_tuple_tuple, sq_tup, sq_ro, bi_int_int, bi_int_bl, bi_tuple_tup, bi_min, bi_max, bi_len_tup, bi_len_ro, ix_tup, ix_ro, sl_tup, sl_ro, stays_tup, stays_ro, at_0, at_1, gc_ai, gc_aai, gc_aaai, gc_ab, gc_aab, gc_aaab, gc_an, gc_aan, gc_aaan, gc_same, wipe_nil, wipe_cons, sz_0, sz_1, sz_2, sz_3, sz_4, sz_5, sz_6, sz_7, sz_8, sz_9, sz_10, runDef, runFull, Def.full, startD, List.length_cons, List.length_nil, List.map_cons, List.map_nil, List.append_nil, List.nil_append, List.cons_append, List.drop_nil, List.drop_zero, List.set_cons_zero, List.set_cons_succ, List.replicate, if_true, if_false, Bool.not_true, Bool.not_false, Bool.true_or, Bool.false_or, Option.map_some, Option.map_none, Nat.zero_add, Nat.add_zero, Nat.sub_self, Nat.reduceAdd, Nat.reduceSub, ↓reduceIte, Bool.and_true, Bool.true_and, Bool.false_and, Bool.and_false, Int.cast_ofNat_Int, decide_true, decide_false, Int.reduceEq, Int.reduceLT, Int.reduceLE, Bool.false_eq_true, List.append_assoc, List.length_append, lk_app, lk_app0, lk_sapp, lk_sapp0, lk_z, lk_s, st_app, st_app0, st_sapp, st_sapp0, len_set, set_set, sq_lk, ix_lk, sl_lk, len_lk, tuple_lk, list_lk, list_tup, ty_lk, stays_lk, set_lk, add_lk, app_lk, ext_lk, clear_lk, recv_lk, get2_lk, tr_lk, gp_0, gp_1, gp_2, gp_3, gp_4, gp_5, gp_6, gp_7, gp_8, ko_n, ko_s, ko_p, gq_1, gq_2, gq_3, gq_4, gq_5, gq_6, gq_7, gq_8, gq_9, gq_10, gq_11, gq_12, gq_13, gq_14, gq_15, gq_16, gcR, Nat.lt_irrefl, Nat.not_lt_zero, List.take_succ_cons, List.take_zero, List.take_nil, D.beqL_self, at_2, at_3, ixN, Nat.reduceLT, Nat.reduceLeDiff, Int.reduceToNat, Int.reduceNeg, Int.reduceSub, Int.reduceAdd, Int.reduceMul, sz_lt, Int.zero_add, mod_int, pr_int, pr_bl, pr_non, pr_str, pr_tup, pr_nil, pr_cons, pr_lst, pr_ints, pr_prs, pr_app, pr_kD, mt_1, mt_2, mt_3, mt_4, mt_5, mt_6, mt_7, rev_lk, max_lk, min_lk, sum_lk, any_lk, all_lk, count_lk, index_lk, pop_lk, eq_D, ne_D, eqD_ll, eqD_tt, eqL_ll, eqS_same, eqS_nil, eqS_ints, eqD_ii, eqD_kk, py_app, py_nil, py_cons, py_ints, py_int, py_bl, py_non, py_kD, py_links, py_prs, py_mapi, pr_mapi, pr_linksT, gt_np, pr_loc, pr_stps, pr_stp, aug_add, aug_sub, ko_app, take_left', len_aa, e4, e5, List.length_map, hl]
    refine ⟨a5, c5, kk + 1 + i4, tw ++ [(kk + 1 + i4, h)], _, rfl, ?_, h3.snoc (fun q hq => ?_) ?_, fun p hp => ?_, ?_⟩
    · simp only [List.map_append, List.map_cons, List.map_nil, prD]
    · have := (h4 q hq).1
      show q.1 < kk + 1 + i4
      omega
    · exact n5
    · rcases List.mem_append.mp hp with hp | hp
      · have := h4 p hp
        exact ⟨by omega, this.2⟩
      · have e : p = (kk + 1 + i4, h) := by simpa using hp
        rw [e]
        exact ⟨Int.le_refl _, n6⟩
    · simp only [List.length_append, List.length_cons, List.length_nil] at h5 ⊢
      omega
theorem towers_s (k : Nat) {m : Nat} {S L : Store} {mo : MO} {a b c many : Int} (hs : lk S m = some mo) (hm : 0 ≤ many) (hm2 : many ≤ 900) :
    ∃ tw a' c', orc defs (k + 4) 21 [.loc m, .int many] (S.set m (src a b c) ++ L) = some (.tup (tw.map prD), S.set m (src a' b c') ++ L) ∧ Fine tw ∧ tw.length ≤ many.toNat ∧ ∀ p ∈ tw, p.2 ≤ 9 := by
  obtain ⟨tw, a', c', e, h⟩ := towers_s0 k (a := a) (b := b) (c := c) (S := S.set m (src a b c) ++ L) (lk_seta hs) hm hm2
  rw [st_olds hs, st_olds hs] at e
  exact ⟨tw, a', c', e, h⟩

end K51

end

section
set_option maxHeartbeats 1000000
namespace K51
open PySem PySem.Spec Mi
open L2 (atI ixN Key)
theorem next_at_of (k : Nat) {tw : Tws} {n : Nat} {a l : Int} {S : Store} (ha : a + 1 = n) (hn : n ≤ tw.length) (hl : tw.length ≤ 1000) : orc defs (k + 1) 7 [.tup (tw.map prD), .int a, .int l] S = some (.int (nx tw n l), S) := by
  rw [orc_at (d := d_next_at) rfl]
  obtain rfl : a = (n : Int) - 1 := by omega
  have er : rngD ((n : Int) - 1 + 1) (tw.length : Int) = some ⟨(rangeI n (tw.length - n)).map D.int, fun _ => true⟩ := by
    rw [rng_small (by omega) (by omega) (by omega) (by omega)]; congr 5; omega
  simp only [d_next_at, b_next_at, bnd_some, bnd_none, opt_some, opt_none, seqF_next, seqF_brk, seqF_cnt, seqF_ret, ts_nil, ts_cons, out_ret, out_next, ite_t, ite_f, bop_and_t, bop_and_f, bop_or_t, bop_or_f, bb_and_t, bb_and_f, bb_or_t, bb_or_f, slot_0, slot_s, e_con, b_con, e_var, b_var, e_glo, b_glo, e_tup, b_tup, e_lst, b_lst, e_dct, b_dct, e_op, b_op, e_neg, b_neg, e_not, b_not, e_bop, b_bop, e_cmp, b_cmp, e_chn, b_chn, e_ifx, b_ifx, e_ix, b_ix, e_sl, b_sl, e_call, b_call, e_bi, b_bi, e_mxd, b_mxd, e_isi, b_isi, e_isl, b_isl, e_lrg, b_lrg, e_mt, b_mt, e_lc, b_lc, e_rev, b_rev, e_gtp, e_lrg1, i_rng3, bop_1, bop_2, bb_1, bb_2, es_nil, es_cons, eo_none, eo_some, if_none, if_some, i_ex, i_rng1, i_rng2, i_enm, q_nm, q_tp, q_sb, setK_some, qs_nil, qs_cons, t_asg, t_aug, t_ex, t_ret, t_retN, t_iff, t_fr, t_whl, t_brk, t_cnt, t_pas, con_none, con_bool, con_int, con_str, neg_int, not_bl, int_int, add_int, sub_int, lt_int, le_int, gt_int, ge_int, eq_int, ne_int, is_nn, is_in, is_bb, isn_nn, isn_in, isn_bb, tr_non, tr_bl, tr_int, ty_non, ty_bl, ty_int, ty_tup, ty_ro, isa_int_int, isa_int_bool, isa_int_list, isa_int_tuple, isa_list_list, isa_list_tuple, isa_tuple_list, isa_tuple_tuple, sq_tup, sq_ro, bi_int_int, bi_int_bl, bi_tuple_tup, bi_min, bi_max, bi_len_tup, bi_len_ro, ix_tup, ix_ro, sl_tup, sl_ro, stays_tup, stays_ro, at_0, at_1, gc_ai, gc_aai, gc_aaai, gc_ab, gc_aab, gc_aaab, gc_an, gc_aan, gc_aaan, gc_same, wipe_nil, wipe_cons, sz_0, sz_1, sz_2, sz_3, sz_4, sz_5, sz_6, sz_7, sz_8, sz_9, sz_10, runDef, runFull, Def.full, startD, List.length_cons, List.length_nil, List.map_cons, List.map_nil, List.append_nil, List.nil_append, List.cons_append, List.drop_nil, List.drop_zero, List.set_cons_zero, List.set_cons_succ, List.replicate, if_true, if_false, Bool.not_true, Bool.not_false, Bool.true_or, Bool.false_or, Option.map_some, Option.map_none, Nat.zero_add, Nat.add_zero, Nat.sub_self, Nat.reduceAdd, Nat.reduceSub, ↓reduceIte, Bool.and_true, Bool.true_and, Bool.false_and, Bool.and_false, Int.cast_ofNat_Int, decide_true, decide_false, Int.reduceEq, Int.reduceLT, Int.reduceLE, Bool.false_eq_true, List.append_assoc, List.length_append, lk_app, lk_app0, lk_sapp, lk_sapp0, lk_z, lk_s, st_app, st_app0, st_sapp, st_sapp0, len_set, set_set, sq_lk, ix_lk, sl_lk, len_lk, tuple_lk, list_lk, list_tup, ty_lk, stays_lk, set_lk, add_lk, app_lk, ext_lk, clear_lk, recv_lk, get2_lk, tr_lk, gp_0, gp_1, gp_2, gp_3, gp_4, gp_5, gp_6, gp_7, gp_8, ko_n, ko_s, ko_p, gq_1, gq_2, gq_3, gq_4, gq_5, gq_6, gq_7, gq_8, gq_9, gq_10, gq_11, gq_12, gq_13, gq_14, gq_15, gq_16, gcR, Nat.lt_irrefl, Nat.not_lt_zero, List.take_succ_cons, List.take_zero, List.take_nil, D.beqL_self, at_2, at_3, ixN, Nat.reduceLT, Nat.reduceLeDiff, Int.reduceToNat, Int.reduceNeg, Int.reduceSub, Int.reduceAdd, Int.reduceMul, sz_lt, Int.zero_add, mod_int, pr_int, pr_bl, pr_non, pr_str, pr_tup, pr_nil, pr_cons, pr_lst, pr_ints, pr_prs, pr_app, pr_kD, mt_1, mt_2, mt_3, mt_4, mt_5, mt_6, mt_7, rev_lk, max_lk, min_lk, sum_lk, any_lk, all_lk, count_lk, index_lk, pop_lk, eq_D, ne_D, eqD_ll, eqD_tt, eqL_ll, eqS_same, eqS_nil, eqS_ints, eqD_ii, eqD_kk, py_app, py_nil, py_cons, py_ints, py_int, py_bl, py_non, py_kD, py_links, py_prs, py_mapi, pr_mapi, pr_linksT, gt_np, pr_loc, pr_stps, pr_stp, aug_add, aug_sub, ko_app, take_left', len_aa, List.length_map, er]
  generalize hX : forD _ _ _ _ _ _ = X
  have key := for_M hX (fun r σ T => ∃ (m : Nat) (x : Option D), σ = [some (.tup (tw.map prD)), some (.int ((n : Int) - 1)), some (.int l), x] ∧ T = S ∧ r = rangeI m (tw.length - m) ∧ m ≤ tw.length ∧ nx tw m l = nx tw n l)
    (fun X => X = some (.ret (.int (nx tw n l)), S) ∨ ∃ x, X = some (.next [some (.tup (tw.map prD)), some (.int ((n : Int) - 1)), some (.int l), x], S) ∧ nx tw n l = tw.length) ⟨n, _, rfl, rfl, rfl, hn, rfl⟩ ?_ ?_
  · rcases key with rfl | ⟨x, rfl, h⟩
    · simp only [bnd_some, bnd_none, opt_some, opt_none, seqF_next, seqF_brk, seqF_cnt, seqF_ret, ts_nil, ts_cons, out_ret, out_next, ite_t, ite_f, bop_and_t, bop_and_f, bop_or_t, bop_or_f, bb_and_t, bb_and_f, bb_or_t, bb_or_f, slot_0, slot_s, e_con, b_con, e_var, b_var, e_glo, b_glo, e_tup, b_tup, e_lst, b_lst, e_dct, b_dct, e_op, b_op, e_neg, b_neg, e_not, b_not, e_bop, b_bop, e_cmp, b_cmp, e_chn, b_chn, e_ifx, b_ifx, e_ix, b_ix, e_sl, b_sl, e_call, b_call, e_bi, b_bi, e_mxd, b_mxd, e_isi, b_isi, e_isl, b_isl, e_lrg, b_lrg, e_mt, b_mt, e_lc, b_lc, e_rev, b_rev, e_gtp, e_lrg1, i_rng3, bop_1, bop_2, bb_1, bb_2, es_nil, es_cons, eo_none, eo_some, if_none, if_some, i_ex, i_rng1, i_rng2, i_enm, q_nm, q_tp, q_sb, setK_some, qs_nil, qs_cons, t_asg, t_aug, t_ex, t_ret, t_retN, t_iff, t_fr, t_whl, t_brk, t_cnt, t_pas, con_none, con_bool, con_int, con_str, neg_int, not_bl, int_int, add_int, sub_int, lt_int, le_int, gt_int, ge_int, eq_int, ne_int, is_nn, is_in, is_bb, isn_nn, isn_in, isn_bb, tr_non, tr_bl, tr_int, ty_non, ty_bl, ty_int, ty_tup, ty_ro, isa_int_int, isa_int_bool, isa_int_list, isa_int_tuple, isa_list_list, isa_list_tuple, isa_tuple_list, isa_tuple_tuple, sq_tup, sq_ro, bi_int_int, bi_int_bl, bi_tuple_tup, bi_min, bi_max, bi_len_tup, bi_len_ro, ix_tup, ix_ro, sl_tup, sl_ro, stays_tup, stays_ro, at_0, at_1, gc_ai, gc_aai, gc_aaai, gc_ab, gc_aab, gc_aaab, gc_an, gc_aan, gc_aaan, gc_same, wipe_nil, wipe_cons, sz_0, sz_1, sz_2, sz_3, sz_4, sz_5, sz_6, sz_7, sz_8, sz_9, sz_10, runDef, runFull, Def.full, startD, List.length_cons, List.length_nil, List.map_cons, List.map_nil, List.append_nil, List.nil_append, List.cons_append, List.drop_nil, List.drop_zero, List.set_cons_zero, List.set_cons_succ, List.replicate, if_true, if_false, Bool.not_true, Bool.not_false, Bool.true_or, Bool.false_or, Option.map_some, Option.map_none, Nat.zero_add, Nat.add_zero, Nat.sub_self, Nat.reduceAdd, Nat.reduceSub, ↓reduceIte, Bool.and_true, Bool.true_and, Bool.false_and, Bool.and_false, Int.cast_ofNat_Int, decide_true, decide_false, Int.reduceEq, Int.reduceLT, Int.reduceLE, Bool.false_eq_true, List.append_assoc, List.length_append, lk_app, lk_app0, lk_sapp, lk_sapp0, lk_z, lk_s, st_app, st_app0, st_sapp, st_sapp0, len_set, set_set, sq_lk, ix_lk, sl_lk, len_lk, tuple_lk, list_lk, list_tup, ty_lk, stays_lk, set_lk, add_lk, app_lk, ext_lk, clear_lk, recv_lk, get2_lk, tr_lk, gp_0, gp_1, gp_2, gp_3, gp_4, gp_5, gp_6, gp_7, gp_8, ko_n, ko_s, ko_p, gq_1, gq_2, gq_3, gq_4, gq_5, gq_6, gq_7, gq_8, gq_9, gq_10, gq_11, gq_12, gq_13, gq_14, gq_15, gq_16, gcR, Nat.lt_irrefl, Nat.not_lt_zero, List.take_succ_cons, List.take_zero, List.take_nil, D.beqL_self, at_2, at_3, ixN, Nat.reduceLT, Nat.reduceLeDiff, Int.reduceToNat, Int.reduceNeg, Int.reduceSub, Int.reduceAdd, Int.reduceMul, sz_lt, Int.zero_add, mod_int, pr_int, pr_bl, pr_non, pr_str, pr_tup, pr_nil, pr_cons, pr_lst, pr_ints, pr_prs, pr_app, pr_kD, mt_1, mt_2, mt_3, mt_4, mt_5, mt_6, mt_7, rev_lk, max_lk, min_lk, sum_lk, any_lk, all_lk, count_lk, index_lk, pop_lk, eq_D, ne_D, eqD_ll, eqD_tt, eqL_ll, eqS_same, eqS_nil, eqS_ints, eqD_ii, eqD_kk, py_app, py_nil, py_cons, py_ints, py_int, py_bl, py_non, py_kD, py_links, py_prs, py_mapi, pr_mapi, pr_linksT, gt_np, pr_loc, pr_stps, pr_stp, aug_add, aug_sub, ko_app, take_left', len_aa]
    · simp only [bnd_some, bnd_none, opt_some, opt_none, seqF_next, seqF_brk, seqF_cnt, seqF_ret, ts_nil, ts_cons, out_ret, out_next, ite_t, ite_f, bop_and_t, bop_and_f, bop_or_t, bop_or_f, bb_and_t, bb_and_f, bb_or_t, bb_or_f, slot_0, slot_s, e_con, b_con, e_var, b_var, e_glo, b_glo, e_tup, b_tup, e_lst, b_lst, e_dct, b_dct, e_op, b_op, e_neg, b_neg, e_not, b_not, e_bop, b_bop, e_cmp, b_cmp, e_chn, b_chn, e_ifx, b_ifx, e_ix, b_ix, e_sl, b_sl, e_call, b_call, e_bi, b_bi, e_mxd, b_mxd, e_isi, b_isi, e_isl, b_isl, e_lrg, b_lrg, e_mt, b_mt, e_lc, b_lc, e_rev, b_rev, e_gtp, e_lrg1, i_rng3, bop_1, bop_2, bb_1, bb_2, es_nil, es_cons, eo_none, eo_some, if_none, if_some, i_ex, i_rng1, i_rng2, i_enm, q_nm, q_tp, q_sb, setK_some, qs_nil, qs_cons, t_asg, t_aug, t_ex, t_ret, t_retN, t_iff, t_fr, t_whl, t_brk, t_cnt, t_pas, con_none, con_bool, con_int, con_str, neg_int, not_bl, int_int, add_int, sub_int, lt_int, le_int, gt_int, ge_int, eq_int, ne_int, is_nn, is_in, is_bb, isn_nn, isn_in, isn_bb, tr_non, tr_bl, tr_int, ty_non, ty_bl, ty_int, ty_tup, ty_ro, isa_int_int, isa_int_bool, isa_int_list, isa_int_tuple, isa_list_list, isa_list_tuple, isa_tuple_list, isa_tuple_tuple, sq_tup, sq_ro, bi_int_int, bi_int_bl, bi_tuple_tup, bi_min, bi_max, bi_len_tup, bi_len_ro, ix_tup, ix_ro, sl_tup, sl_ro, stays_tup, stays_ro, at_0, at_1, gc_ai, gc_aai, gc_aaai, gc_ab, gc_aab, gc_aaab, gc_an, gc_aan, gc_aaan, gc_same, wipe_nil, wipe_cons, sz_0, sz_1, sz_2, sz_3, sz_4, sz_5, sz_6, sz_7, sz_8, sz_9, sz_10, runDef, runFull, Def.full, startD, List.length_cons, List.length_nil, List.map_cons, List.map_nil, List.append_nil, List.nil_append, List.cons_append, List.drop_nil, List.drop_zero, List.set_cons_zero, List.set_cons_succ, List.replicate, if_true, if_false, Bool.not_true, Bool.not_false, Bool.true_or, Bool.false_or, Option.map_some, Option.map_none, Nat.zero_add, Nat.add_zero, Nat.sub_self, Nat.reduceAdd, Nat.reduceSub, ↓reduceIte, Bool.and_true, Bool.true_and, Bool.false_and, Bool.and_false, Int.cast_ofNat_Int, decide_true, decide_false, Int.reduceEq, Int.reduceLT, Int.reduceLE, Bool.false_eq_true, List.append_assoc, List.length_append, lk_app, lk_app0, lk_sapp, lk_sapp0, lk_z, lk_s, st_app, st_app0, st_sapp, st_sapp0, len_set, set_set, sq_lk, ix_lk, sl_lk, len_lk, tuple_lk, list_lk, list_tup, ty_lk, stays_lk, set_lk, add_lk, app_lk, ext_lk, clear_lk, recv_lk, get2_lk, tr_lk, gp_0, gp_1, gp_2, gp_3, gp_4, gp_5, gp_6, gp_7, gp_8, ko_n, ko_s, ko_p, gq_1, gq_2, gq_3, gq_4, gq_5, gq_6, gq_7, gq_8, gq_9, gq_10, gq_11, gq_12, gq_13, gq_14, gq_15, gq_16, gcR, Nat.lt_irrefl, Nat.not_lt_zero, List.take_succ_cons, List.take_zero, List.take_nil, D.beqL_self, at_2, at_3, ixN, Nat.reduceLT, Nat.reduceLeDiff, Int.reduceToNat, Int.reduceNeg, Int.reduceSub, Int.reduceAdd, Int.reduceMul, sz_lt, Int.zero_add, mod_int, pr_int, pr_bl, pr_non, pr_str, pr_tup, pr_nil, pr_cons, pr_lst, pr_ints, pr_prs, pr_app, pr_kD, mt_1, mt_2, mt_3, mt_4, mt_5, mt_6, mt_7, rev_lk, max_lk, min_lk, sum_lk, any_lk, all_lk, count_lk, index_lk, pop_lk, eq_D, ne_D, eqD_ll, eqD_tt, eqL_ll, eqS_same, eqS_nil, eqS_ints, eqD_ii, eqD_kk, py_app, py_nil, py_cons, py_ints, py_int, py_bl, py_non, py_kD, py_links, py_prs, py_mapi, pr_mapi, pr_linksT, gt_np, pr_loc, pr_stps, pr_stp, aug_add, aug_sub, ko_app, take_left', len_aa, List.length_map, h]
  · rintro σ T ⟨m, x, rfl, rfl, e, hm, e2⟩
    have h1 := rangeI_nil e
    exact ⟨rfl, .inr ⟨x, rfl, by rw [← e2, nx_end h1]; omega⟩⟩
  · clear hX X
    rintro q r σ T ⟨m, x, rfl, rfl, e, hm, e2⟩
    obtain ⟨h1, rfl, h3⟩ := rangeI_cons e
    refine ⟨rfl, ?_⟩
    have hp := List.getElem?_eq_getElem h1
    rw [nx_step hp] at e2
    by_cases hq : l ≤ tw[m].2
    · rw [if_pos hq] at e2
      simp only [bnd_some, bnd_none, opt_some, opt_none, seqF_next, seqF_brk, seqF_cnt, seqF_ret, ts_nil, ts_cons, out_ret, out_next, ite_t, ite_f, bop_and_t, bop_and_f, bop_or_t, bop_or_f, bb_and_t, bb_and_f, bb_or_t, bb_or_f, slot_0, slot_s, e_con, b_con, e_var, b_var, e_glo, b_glo, e_tup, b_tup, e_lst, b_lst, e_dct, b_dct, e_op, b_op, e_neg, b_neg, e_not, b_not, e_bop, b_bop, e_cmp, b_cmp, e_chn, b_chn, e_ifx, b_ifx, e_ix, b_ix, e_sl, b_sl, e_call, b_call, e_bi, b_bi, e_mxd, b_mxd, e_isi, b_isi, e_isl, b_isl, e_lrg, b_lrg, e_mt, b_mt, e_lc, b_lc, e_rev, b_rev, e_gtp, e_lrg1, i_rng3, bop_1, bop_2, bb_1, bb_2, es_nil, es_cons, eo_none, eo_some, if_none, if_some, i_ex, i_rng1, i_rng2, i_enm, q_nm, q_tp, q_sb, setK_some, qs_nil, qs_cons, t_asg, t_aug, t_ex, t_ret, t_retN, t_iff, t_fr, t_whl, t_brk, t_cnt, t_pas, con_none, con_bool, con_int, con_str, neg_int, not_bl, int_int, add_int, sub_int, lt_int, le_int, gt_int, ge_int, eq_int, ne_int, is_nn, is_in, is_bb, isn_nn, isn_in, isn_bb, tr_non, tr_bl, tr_int, ty_non, ty_bl, ty_int, ty_tup, ty_ro, isa_int_int, isa_int_bool, isa_int_list, isa_int_tuple, isa_list_list, isa_list_tuple, isa_tuple_list, isa_tuple_tuple, sq_tup, sq_ro, bi_int_int, bi_int_bl, bi_tuple_tup, bi_min, bi_max, bi_len_tup, bi_len_ro, ix_tup, ix_ro, sl_tup, sl_ro, stays_tup, stays_ro, at_0, at_1, gc_ai, gc_aai, gc_aaai, gc_ab, gc_aab, gc_aaab, gc_an, gc_aan, gc_aaan, gc_same, wipe_nil, wipe_cons, sz_0, sz_1, sz_2, sz_3, sz_4, sz_5, sz_6, sz_7, sz_8, sz_9, sz_10, runDef, runFull, Def.full, startD, List.length_cons, List.length_nil, List.map_cons, List.map_nil, List.append_nil, List.nil_append, List.cons_append, List.drop_nil, List.drop_zero, List.set_cons_zero, List.set_cons_succ, List.replicate, if_true, if_false, Bool.not_true, Bool.not_false, Bool.true_or, Bool.false_or, Option.map_some, Option.map_none, Nat.zero_add, Nat.add_zero, Nat.sub_self, Nat.reduceAdd, Nat.reduceSub, ↓reduceIte, Bool.and_true, Bool.true_and, Bool.false_and, Bool.and_false, Int.cast_ofNat_Int, decide_true, decide_false, Int.reduceEq, Int.reduceLT, Int.reduceLE, Bool.false_eq_true, List.append_assoc, List.length_append, lk_app, lk_app0, lk_sapp, lk_sapp0, lk_z, lk_s, st_app, st_app0, st_sapp, st_sapp0, len_set, set_set, sq_lk, ix_lk, sl_lk, len_lk, tuple_lk, list_lk, list_tup, ty_lk, stays_lk, set_lk, add_lk, app_lk, ext_lk, clear_lk, recv_lk, get2_lk, tr_lk, gp_0, gp_1, gp_2, gp_3, gp_4, gp_5, gp_6, gp_7, gp_8, ko_n, ko_s, ko_p, gq_1, gq_2, gq_3, gq_4, gq_5, gq_6, gq_7, gq_8, gq_9, gq_10, gq_11, gq_12, gq_13, gq_14, gq_15, gq_16, gcR, Nat.lt_irrefl, Nat.not_lt_zero, List.take_succ_cons, List.take_zero, List.take_nil, D.beqL_self, at_2, at_3, ixN, Nat.reduceLT, Nat.reduceLeDiff, Int.reduceToNat, Int.reduceNeg, Int.reduceSub, Int.reduceAdd, Int.reduceMul, sz_lt, Int.zero_add, mod_int, pr_int, pr_bl, pr_non, pr_str, pr_tup, pr_nil, pr_cons, pr_lst, pr_ints, pr_prs, pr_app, pr_kD, mt_1, mt_2, mt_3, mt_4, mt_5, mt_6, mt_7, rev_lk, max_lk, min_lk, sum_lk, any_lk, all_lk, count_lk, index_lk, pop_lk, eq_D, ne_D, eqD_ll, eqD_tt, eqL_ll, eqS_same, eqS_nil, eqS_ints, eqD_ii, eqD_kk, py_app, py_nil, py_cons, py_ints, py_int, py_bl, py_non, py_kD, py_links, py_prs, py_mapi, pr_mapi, pr_linksT, gt_np, pr_loc, pr_stps, pr_stp, aug_add, aug_sub, ko_app, take_left', len_aa, prs_at hp, prD, hq]
      exact .inl (by rw [← e2])
    · rw [if_neg hq] at e2
      simp only [bnd_some, bnd_none, opt_some, opt_none, seqF_next, seqF_brk, seqF_cnt, seqF_ret, ts_nil, ts_cons, out_ret, out_next, ite_t, ite_f, bop_and_t, bop_and_f, bop_or_t, bop_or_f, bb_and_t, bb_and_f, bb_or_t, bb_or_f, slot_0, slot_s, e_con, b_con, e_var, b_var, e_glo, b_glo, e_tup, b_tup, e_lst, b_lst, e_dct, b_dct, e_op, b_op, e_neg, b_neg, e_not, b_not, e_bop, b_bop, e_cmp, b_cmp, e_chn, b_chn, e_ifx, b_ifx, e_ix, b_ix, e_sl, b_sl, e_call, b_call, e_bi, b_bi, e_mxd, b_mxd, e_isi, b_isi, e_isl, b_isl, e_lrg, b_lrg, e_mt, b_mt, e_lc, b_lc, e_rev, b_rev, e_gtp, e_lrg1, i_rng3, bop_1, bop_2, bb_1, bb_2, es_nil, es_cons, eo_none, eo_some, if_none, if_some, i_ex, i_rng1, i_rng2, i_enm, q_nm, q_tp, q_sb, setK_some, qs_nil, qs_cons, t_asg, t_aug, t_ex, t_ret, t_retN, t_iff, t_fr, t_whl, t_brk, t_cnt, t_pas, con_none, con_bool, con_int, con_str, neg_int, not_bl, int_int, add_int, sub_int, lt_int, le_int, gt_int, ge_int, eq_int, ne_int, is_nn, is_in, is_bb, isn_nn, isn_in, isn_bb, tr_non, tr_bl, tr_int, ty_non, ty_bl, ty_int, ty_tup, ty_ro, isa_int_int, isa_int_bool, isa_int_list, isa_int_tuple, isa_list_list, isa_list_tuple, isa_tuple_list, isa_tuple_tuple, sq_tup, sq_ro, bi_int_int, bi_int_bl, bi_tuple_tup, bi_min, bi_max, bi_len_tup, bi_len_ro, ix_tup, ix_ro, sl_tup, sl_ro, stays_tup, stays_ro, at_0, at_1, gc_ai, gc_aai, gc_aaai, gc_ab, gc_aab, gc_aaab, gc_an, gc_aan, gc_aaan, gc_same, wipe_nil, wipe_cons, sz_0, sz_1, sz_2, sz_3, sz_4, sz_5, sz_6, sz_7, sz_8, sz_9, sz_10, runDef, runFull, Def.full, startD, List.length_cons, List.length_nil, List.map_cons, List.map_nil, List.append_nil, List.nil_append, List.cons_append, List.drop_nil, List.drop_zero, List.set_cons_zero, List.set_cons_succ, List.replicate, if_true, if_false, Bool.not_true, Bool.not_false, Bool.true_or, Bool.false_or, Option.map_some, Option.map_none, Nat.zero_add, Nat.add_zero, Nat.sub_self, Nat.reduceAdd, Nat.reduceSub, ↓reduceIte, Bool.and_true, Bool.true_and, Bool.false_and, Bool.and_false, Int.cast_ofNat_Int, decide_true, decide_false, Int.reduceEq, Int.reduceLT, Int.reduceLE, Bool.false_eq_true, List.append_assoc, List.length_append, lk_app, lk_app0, lk_sapp, lk_sapp0, lk_z, lk_s, st_app, st_app0, st_sapp, st_sapp0, len_set, set_set, sq_lk, ix_lk, sl_lk, len_lk, tuple_lk, list_lk, list_tup, ty_lk, stays_lk, set_lk, add_lk, app_lk, ext_lk, clear_lk, recv_lk, get2_lk, tr_lk, gp_0, gp_1, gp_2, gp_3, gp_4, gp_5, gp_6, gp_7, gp_8, ko_n, ko_s, ko_p, gq_1, gq_2, gq_3, gq_4, gq_5, gq_6, gq_7, gq_8, gq_9, gq_10, gq_11, gq_12, gq_13, gq_14, gq_15, gq_16, gcR, Nat.lt_irrefl, Nat.not_lt_zero, List.take_succ_cons, List.take_zero, List.take_nil, D.beqL_self, at_2, at_3, ixN, Nat.reduceLT, Nat.reduceLeDiff, Int.reduceToNat, Int.reduceNeg, Int.reduceSub, Int.reduceAdd, Int.reduceMul, sz_lt, Int.zero_add, mod_int, pr_int, pr_bl, pr_non, pr_str, pr_tup, pr_nil, pr_cons, pr_lst, pr_ints, pr_prs, pr_app, pr_kD, mt_1, mt_2, mt_3, mt_4, mt_5, mt_6, mt_7, rev_lk, max_lk, min_lk, sum_lk, any_lk, all_lk, count_lk, index_lk, pop_lk, eq_D, ne_D, eqD_ll, eqD_tt, eqL_ll, eqS_same, eqS_nil, eqS_ints, eqD_ii, eqD_kk, py_app, py_nil, py_cons, py_ints, py_int, py_bl, py_non, py_kD, py_links, py_prs, py_mapi, pr_mapi, pr_linksT, gt_np, pr_loc, pr_stps, pr_stp, aug_add, aug_sub, ko_app, take_left', len_aa, prs_at hp, prD, hq]
      exact ⟨m + 1, _, rfl, rfl, h3, h1, e2⟩
theorem place_below_of (k : Nat) {tw : Tws} {f l : Int} {S : Store} (hl : tw.length ≤ 1000) : orc defs (k + 1) 8 [.tup (tw.map prD), .int f, .int l] S = some (.int ((pbN f l tw : Nat) - 1), S) := by
  rw [orc_at (d := d_place_below) rfl]
  simp only [d_place_below, b_place_below, bnd_some, bnd_none, opt_some, opt_none, seqF_next, seqF_brk, seqF_cnt, seqF_ret, ts_nil, ts_cons, out_ret, out_next, ite_t, ite_f, bop_and_t, bop_and_f, bop_or_t, bop_or_f, bb_and_t, bb_and_f, bb_or_t, bb_or_f, slot_0, slot_s, e_con, b_con, e_var, b_var, e_glo, b_glo, e_tup, b_tup, e_lst, b_lst, e_dct, b_dct, e_op, b_op, e_neg, b_neg, e_not, b_not, e_bop, b_bop, e_cmp, b_cmp, e_chn, b_chn, e_ifx, b_ifx, e_ix, b_ix, e_sl, b_sl, e_call, b_call, e_bi, b_bi, e_mxd, b_mxd, e_isi, b_isi, e_isl, b_isl, e_lrg, b_lrg, e_mt, b_mt, e_lc, b_lc, e_rev, b_rev, e_gtp, e_lrg1, i_rng3, bop_1, bop_2, bb_1, bb_2, es_nil, es_cons, eo_none, eo_some, if_none, if_some, i_ex, i_rng1, i_rng2, i_enm, q_nm, q_tp, q_sb, setK_some, qs_nil, qs_cons, t_asg, t_aug, t_ex, t_ret, t_retN, t_iff, t_fr, t_whl, t_brk, t_cnt, t_pas, con_none, con_bool, con_int, con_str, neg_int, not_bl, int_int, add_int, sub_int, lt_int, le_int, gt_int, ge_int, eq_int, ne_int, is_nn, is_in, is_bb, isn_nn, isn_in, isn_bb, tr_non, tr_bl, tr_int, ty_non, ty_bl, ty_int, ty_tup, ty_ro, isa_int_int, isa_int_bool, isa_int_list, isa_int_tuple, isa_list_list, isa_list_tuple, isa_tuple_list, isa_tuple_tuple, sq_tup, sq_ro, bi_int_int, bi_int_bl, bi_tuple_tup, bi_min, bi_max, bi_len_tup, bi_len_ro, ix_tup, ix_ro, sl_tup, sl_ro, stays_tup, stays_ro, at_0, at_1, gc_ai, gc_aai, gc_aaai, gc_ab, gc_aab, gc_aaab, gc_an, gc_aan, gc_aaan, gc_same, wipe_nil, wipe_cons, sz_0, sz_1, sz_2, sz_3, sz_4, sz_5, sz_6, sz_7, sz_8, sz_9, sz_10, runDef, runFull, Def.full, startD, List.length_cons, List.length_nil, List.map_cons, List.map_nil, List.append_nil, List.nil_append, List.cons_append, List.drop_nil, List.drop_zero, List.set_cons_zero, List.set_cons_succ, List.replicate, if_true, if_false, Bool.not_true, Bool.not_false, Bool.true_or, Bool.false_or, Option.map_some, Option.map_none, Nat.zero_add, Nat.add_zero, Nat.sub_self, Nat.reduceAdd, Nat.reduceSub, ↓reduceIte, Bool.and_true, Bool.true_and, Bool.false_and, Bool.and_false, Int.cast_ofNat_Int, decide_true, decide_false, Int.reduceEq, Int.reduceLT, Int.reduceLE, Bool.false_eq_true, List.append_assoc, List.length_append, lk_app, lk_app0, lk_sapp, lk_sapp0, lk_z, lk_s, st_app, st_app0, st_sapp, st_sapp0, len_set, set_set, sq_lk, ix_lk, sl_lk, len_lk, tuple_lk, list_lk, list_tup, ty_lk, stays_lk, set_lk, add_lk, app_lk, ext_lk, clear_lk, recv_lk, get2_lk, tr_lk, gp_0, gp_1, gp_2, gp_3, gp_4, gp_5, gp_6, gp_7, gp_8, ko_n, ko_s, ko_p, gq_1, gq_2, gq_3, gq_4, gq_5, gq_6, gq_7, gq_8, gq_9, gq_10, gq_11, gq_12, gq_13, gq_14, gq_15, gq_16, gcR, Nat.lt_irrefl, Nat.not_lt_zero, List.take_succ_cons, List.take_zero, List.take_nil, D.beqL_self, at_2, at_3, ixN, Nat.reduceLT, Nat.reduceLeDiff, Int.reduceToNat, Int.reduceNeg, Int.reduceSub, Int.reduceAdd, Int.reduceMul, sz_lt, Int.zero_add, mod_int, pr_int, pr_bl, pr_non, pr_str, pr_tup, pr_nil, pr_cons, pr_lst, pr_ints, pr_prs, pr_app, pr_kD, mt_1, mt_2, mt_3, mt_4, mt_5, mt_6, mt_7, rev_lk, max_lk, min_lk, sum_lk, any_lk, all_lk, count_lk, index_lk, pop_lk, eq_D, ne_D, eqD_ll, eqD_tt, eqL_ll, eqS_same, eqS_nil, eqS_ints, eqD_ii, eqD_kk, py_app, py_nil, py_cons, py_ints, py_int, py_bl, py_non, py_kD, py_links, py_prs, py_mapi, pr_mapi, pr_linksT, gt_np, pr_loc, pr_stps, pr_stp, aug_add, aug_sub, ko_app, take_left', len_aa, enumD_prs]
  generalize hX : lcD _ _ _ _ _ _ _ = X
  have e := lc_pf (fun q : Int × (Int × Int) => belowB f l q.2) (fun q => D.int q.1) hX rfl (le_size (by rw [en_len]; simp; omega)) (fun q hq => by simp only [bnd_some, bnd_none, opt_some, opt_none, seqF_next, seqF_brk, seqF_cnt, seqF_ret, ts_nil, ts_cons, out_ret, out_next, ite_t, ite_f, bop_and_t, bop_and_f, bop_or_t, bop_or_f, bb_and_t, bb_and_f, bb_or_t, bb_or_f, slot_0, slot_s, e_con, b_con, e_var, b_var, e_glo, b_glo, e_tup, b_tup, e_lst, b_lst, e_dct, b_dct, e_op, b_op, e_neg, b_neg, e_not, b_not, e_bop, b_bop, e_cmp, b_cmp, e_chn, b_chn, e_ifx, b_ifx, e_ix, b_ix, e_sl, b_sl, e_call, b_call, e_bi, b_bi, e_mxd, b_mxd, e_isi, b_isi, e_isl, b_isl, e_lrg, b_lrg, e_mt, b_mt, e_lc, b_lc, e_rev, b_rev, e_gtp, e_lrg1, i_rng3, bop_1, bop_2, bb_1, bb_2, es_nil, es_cons, eo_none, eo_some, if_none, if_some, i_ex, i_rng1, i_rng2, i_enm, q_nm, q_tp, q_sb, setK_some, qs_nil, qs_cons, t_asg, t_aug, t_ex, t_ret, t_retN, t_iff, t_fr, t_whl, t_brk, t_cnt, t_pas, con_none, con_bool, con_int, con_str, neg_int, not_bl, int_int, add_int, sub_int, lt_int, le_int, gt_int, ge_int, eq_int, ne_int, is_nn, is_in, is_bb, isn_nn, isn_in, isn_bb, tr_non, tr_bl, tr_int, ty_non, ty_bl, ty_int, ty_tup, ty_ro, isa_int_int, isa_int_bool, isa_int_list, isa_int_tuple, isa_list_list, isa_list_tuple, isa_tuple_list, isa_tuple_tuple, sq_tup, sq_ro, bi_int_int, bi_int_bl, bi_tuple_tup, bi_min, bi_max, bi_len_tup, bi_len_ro, ix_tup, ix_ro, sl_tup, sl_ro, stays_tup, stays_ro, at_0, at_1, gc_ai, gc_aai, gc_aaai, gc_ab, gc_aab, gc_aaab, gc_an, gc_aan, gc_aaan, gc_same, wipe_nil, wipe_cons, sz_0, sz_1, sz_2, sz_3, sz_4, sz_5, sz_6, sz_7, sz_8, sz_9, sz_10, runDef, runFull, Def.full, startD, List.length_cons, List.length_nil, List.map_cons, List.map_nil, List.append_nil, List.nil_append, List.cons_append, List.drop_nil, List.drop_zero, List.set_cons_zero, List.set_cons_succ, List.replicate, if_true, if_false, Bool.not_true, Bool.not_false, Bool.true_or, Bool.false_or, Option.map_some, Option.map_none, Nat.zero_add, Nat.add_zero, Nat.sub_self, Nat.reduceAdd, Nat.reduceSub, ↓reduceIte, Bool.and_true, Bool.true_and, Bool.false_and, Bool.and_false, Int.cast_ofNat_Int, decide_true, decide_false, Int.reduceEq, Int.reduceLT, Int.reduceLE, Bool.false_eq_true, List.append_assoc, List.length_append, lk_app, lk_app0, lk_sapp, lk_sapp0, lk_z, lk_s, st_app, st_app0, st_sapp, st_sapp0, len_set, set_set, sq_lk, ix_lk, sl_lk, len_lk, tuple_lk, list_lk, list_tup, ty_lk, stays_lk, set_lk, add_lk, app_lk, ext_lk, clear_lk, recv_lk, get2_lk, tr_lk, gp_0, gp_1, gp_2, gp_3, gp_4, gp_5, gp_6, gp_7, gp_8, ko_n, ko_s, ko_p, gq_1, gq_2, gq_3, gq_4, gq_5, gq_6, gq_7, gq_8, gq_9, gq_10, gq_11, gq_12, gq_13, gq_14, gq_15, gq_16, gcR, Nat.lt_irrefl, Nat.not_lt_zero, List.take_succ_cons, List.take_zero, List.take_nil, D.beqL_self, at_2, at_3, ixN, Nat.reduceLT, Nat.reduceLeDiff, Int.reduceToNat, Int.reduceNeg, Int.reduceSub, Int.reduceAdd, Int.reduceMul, sz_lt, Int.zero_add, mod_int, pr_int, pr_bl, pr_non, pr_str, pr_tup, pr_nil, pr_cons, pr_lst, pr_ints, pr_prs, pr_app, pr_kD, mt_1, mt_2, mt_3, mt_4, mt_5, mt_6, mt_7, rev_lk, max_lk, min_lk, sum_lk, any_lk, all_lk, count_lk, index_lk, pop_lk, eq_D, ne_D, eqD_ll, eqD_tt, eqL_ll, eqS_same, eqS_nil, eqS_ints, eqD_ii, eqD_kk, py_app, py_nil, py_cons, py_ints, py_int, py_bl, py_non, py_kD, py_links, py_prs, py_mapi, pr_mapi, pr_linksT, gt_np, pr_loc, pr_stps, pr_stp, aug_add, aug_sub, ko_app, take_left', len_aa, lcS, ite_b, bnd_if, seqF_if, out_if, bopB_and, bopB_or, bopD_and, bopD_or, if_same_bool, if_bf, if_bx, if_xt, enD, prD, belowB]; all_goals rfl)
  subst e
  have e2 : ((en 0 tw).filter fun q => belowB f l q.2).map (fun q => D.int q.1) = (((en 0 tw).filter fun q => belowB f l q.2).map (·.1)).map D.int := by rw [List.map_map]; rfl
  have e3 := pb_ixs f l tw 0
  simp only [bnd_some, bnd_none, opt_some, opt_none, seqF_next, seqF_brk, seqF_cnt, seqF_ret, ts_nil, ts_cons, out_ret, out_next, ite_t, ite_f, bop_and_t, bop_and_f, bop_or_t, bop_or_f, bb_and_t, bb_and_f, bb_or_t, bb_or_f, slot_0, slot_s, e_con, b_con, e_var, b_var, e_glo, b_glo, e_tup, b_tup, e_lst, b_lst, e_dct, b_dct, e_op, b_op, e_neg, b_neg, e_not, b_not, e_bop, b_bop, e_cmp, b_cmp, e_chn, b_chn, e_ifx, b_ifx, e_ix, b_ix, e_sl, b_sl, e_call, b_call, e_bi, b_bi, e_mxd, b_mxd, e_isi, b_isi, e_isl, b_isl, e_lrg, b_lrg, e_mt, b_mt, e_lc, b_lc, e_rev, b_rev, e_gtp, e_lrg1, i_rng3, bop_1, bop_2, bb_1, bb_2, es_nil, es_cons, eo_none, eo_some, if_none, if_some, i_ex, i_rng1, i_rng2, i_enm, q_nm, q_tp, q_sb, setK_some, qs_nil, qs_cons, t_asg, t_aug, t_ex, t_ret, t_retN, t_iff, t_fr, t_whl, t_brk, t_cnt, t_pas, con_none, con_bool, con_int, con_str, neg_int, not_bl, int_int, add_int, sub_int, lt_int, le_int, gt_int, ge_int, eq_int, ne_int, is_nn, is_in, is_bb, isn_nn, isn_in, isn_bb, tr_non, tr_bl, tr_int, ty_non, ty_bl, ty_int, ty_tup, ty_ro, isa_int_int, isa_int_bool, isa_int_list, isa_int_tuple, isa_list_list, isa_list_tuple, isa_tuple_list, isa_tuple_tuple, sq_tup, sq_ro, bi_int_int, bi_int_bl, bi_tuple_tup, bi_min, bi_max, bi_len_tup, bi_len_ro, ix_tup, ix_ro, sl_tup, sl_ro, stays_tup, stays_ro, at_0, at_1, gc_ai, gc_aai, gc_aaai, gc_ab, gc_aab, gc_aaab, gc_an, gc_aan, gc_aaan, gc_same, wipe_nil, wipe_cons, sz_0, sz_1, sz_2, sz_3, sz_4, sz_5, sz_6, sz_7, sz_8, sz_9, sz_10, runDef, runFull, Def.full, startD, List.length_cons, List.length_nil, List.map_cons, List.map_nil, List.append_nil, List.nil_append, List.cons_append, List.drop_nil, List.drop_zero, List.set_cons_zero, List.set_cons_succ, List.replicate, if_true, if_false, Bool.not_true, Bool.not_false, Bool.true_or, Bool.false_or, Option.map_some, Option.map_none, Nat.zero_add, Nat.add_zero, Nat.sub_self, Nat.reduceAdd, Nat.reduceSub, ↓reduceIte, Bool.and_true, Bool.true_and, Bool.false_and, Bool.and_false, Int.cast_ofNat_Int, decide_true, decide_false, Int.reduceEq, Int.reduceLT, Int.reduceLE, Bool.false_eq_true, List.append_assoc, List.length_append, lk_app, lk_app0, lk_sapp, lk_sapp0, lk_z, lk_s, st_app, st_app0, st_sapp, st_sapp0, len_set, set_set, sq_lk, ix_lk, sl_lk, len_lk, tuple_lk, list_lk, list_tup, ty_lk, stays_lk, set_lk, add_lk, app_lk, ext_lk, clear_lk, recv_lk, get2_lk, tr_lk, gp_0, gp_1, gp_2, gp_3, gp_4, gp_5, gp_6, gp_7, gp_8, ko_n, ko_s, ko_p, gq_1, gq_2, gq_3, gq_4, gq_5, gq_6, gq_7, gq_8, gq_9, gq_10, gq_11, gq_12, gq_13, gq_14, gq_15, gq_16, gcR, Nat.lt_irrefl, Nat.not_lt_zero, List.take_succ_cons, List.take_zero, List.take_nil, D.beqL_self, at_2, at_3, ixN, Nat.reduceLT, Nat.reduceLeDiff, Int.reduceToNat, Int.reduceNeg, Int.reduceSub, Int.reduceAdd, Int.reduceMul, sz_lt, Int.zero_add, mod_int, pr_int, pr_bl, pr_non, pr_str, pr_tup, pr_nil, pr_cons, pr_lst, pr_ints, pr_prs, pr_app, pr_kD, mt_1, mt_2, mt_3, mt_4, mt_5, mt_6, mt_7, rev_lk, max_lk, min_lk, sum_lk, any_lk, all_lk, count_lk, index_lk, pop_lk, eq_D, ne_D, eqD_ll, eqD_tt, eqL_ll, eqS_same, eqS_nil, eqS_ints, eqD_ii, eqD_kk, py_app, py_nil, py_cons, py_ints, py_int, py_bl, py_non, py_kD, py_links, py_prs, py_mapi, pr_mapi, pr_linksT, gt_np, pr_loc, pr_stps, pr_stp, aug_add, aug_sub, ko_app, take_left', len_aa, e2]
  cases h : pbN f l tw with
  | zero =>
    rw [h] at e3
    rw [List.getLast?_eq_none_iff.mp e3]
    simp only [bnd_some, bnd_none, opt_some, opt_none, seqF_next, seqF_brk, seqF_cnt, seqF_ret, ts_nil, ts_cons, out_ret, out_next, ite_t, ite_f, bop_and_t, bop_and_f, bop_or_t, bop_or_f, bb_and_t, bb_and_f, bb_or_t, bb_or_f, slot_0, slot_s, e_con, b_con, e_var, b_var, e_glo, b_glo, e_tup, b_tup, e_lst, b_lst, e_dct, b_dct, e_op, b_op, e_neg, b_neg, e_not, b_not, e_bop, b_bop, e_cmp, b_cmp, e_chn, b_chn, e_ifx, b_ifx, e_ix, b_ix, e_sl, b_sl, e_call, b_call, e_bi, b_bi, e_mxd, b_mxd, e_isi, b_isi, e_isl, b_isl, e_lrg, b_lrg, e_mt, b_mt, e_lc, b_lc, e_rev, b_rev, e_gtp, e_lrg1, i_rng3, bop_1, bop_2, bb_1, bb_2, es_nil, es_cons, eo_none, eo_some, if_none, if_some, i_ex, i_rng1, i_rng2, i_enm, q_nm, q_tp, q_sb, setK_some, qs_nil, qs_cons, t_asg, t_aug, t_ex, t_ret, t_retN, t_iff, t_fr, t_whl, t_brk, t_cnt, t_pas, con_none, con_bool, con_int, con_str, neg_int, not_bl, int_int, add_int, sub_int, lt_int, le_int, gt_int, ge_int, eq_int, ne_int, is_nn, is_in, is_bb, isn_nn, isn_in, isn_bb, tr_non, tr_bl, tr_int, ty_non, ty_bl, ty_int, ty_tup, ty_ro, isa_int_int, isa_int_bool, isa_int_list, isa_int_tuple, isa_list_list, isa_list_tuple, isa_tuple_list, isa_tuple_tuple, sq_tup, sq_ro, bi_int_int, bi_int_bl, bi_tuple_tup, bi_min, bi_max, bi_len_tup, bi_len_ro, ix_tup, ix_ro, sl_tup, sl_ro, stays_tup, stays_ro, at_0, at_1, gc_ai, gc_aai, gc_aaai, gc_ab, gc_aab, gc_aaab, gc_an, gc_aan, gc_aaan, gc_same, wipe_nil, wipe_cons, sz_0, sz_1, sz_2, sz_3, sz_4, sz_5, sz_6, sz_7, sz_8, sz_9, sz_10, runDef, runFull, Def.full, startD, List.length_cons, List.length_nil, List.map_cons, List.map_nil, List.append_nil, List.nil_append, List.cons_append, List.drop_nil, List.drop_zero, List.set_cons_zero, List.set_cons_succ, List.replicate, if_true, if_false, Bool.not_true, Bool.not_false, Bool.true_or, Bool.false_or, Option.map_some, Option.map_none, Nat.zero_add, Nat.add_zero, Nat.sub_self, Nat.reduceAdd, Nat.reduceSub, ↓reduceIte, Bool.and_true, Bool.true_and, Bool.false_and, Bool.and_false, Int.cast_ofNat_Int, decide_true, decide_false, Int.reduceEq, Int.reduceLT, Int.reduceLE, Bool.false_eq_true, List.append_assoc, List.length_append, lk_app, lk_app0, lk_sapp, lk_sapp0, lk_z, lk_s, st_app, st_app0, st_sapp, st_sapp0, len_set, set_set, sq_lk, ix_lk, sl_lk, len_lk, tuple_lk, list_lk, list_tup, ty_lk, stays_lk, set_lk, add_lk, app_lk, ext_lk, clear_lk, recv_lk, get2_lk, tr_lk, gp_0, gp_1, gp_2, gp_3, gp_4, gp_5, gp_6, gp_7, gp_8, ko_n, ko_s, ko_p, gq_1, gq_2, gq_3, gq_4, gq_5, gq_6, gq_7, gq_8, gq_9, gq_10, gq_11, gq_12, gq_13, gq_14, gq_15, gq_16, gcR, Nat.lt_irrefl, Nat.not_lt_zero, List.take_succ_cons, List.take_zero, List.take_nil, D.beqL_self, at_2, at_3, ixN, Nat.reduceLT, Nat.reduceLeDiff, Int.reduceToNat, Int.reduceNeg, Int.reduceSub, Int.reduceAdd, Int.reduceMul, sz_lt, Int.zero_add, mod_int, pr_int, pr_bl, pr_non, pr_str, pr_tup, pr_nil, pr_cons, pr_lst, pr_ints, pr_prs, pr_app, pr_kD, mt_1, mt_2, mt_3, mt_4, mt_5, mt_6, mt_7, rev_lk, max_lk, min_lk, sum_lk, any_lk, all_lk, count_lk, index_lk, pop_lk, eq_D, ne_D, eqD_ll, eqD_tt, eqL_ll, eqS_same, eqS_nil, eqS_ints, eqD_ii, eqD_kk, py_app, py_nil, py_cons, py_ints, py_int, py_bl, py_non, py_kD, py_links, py_prs, py_mapi, pr_mapi, pr_linksT, gt_np, pr_loc, pr_stps, pr_stp, aug_add, aug_sub, ko_app, take_left', len_aa, List.isEmpty_nil]
    all_goals rfl
  | succ m =>
    rw [h] at e3
    have hne : ((((en 0 tw).filter fun q => belowB f l q.2).map (·.1)).map D.int).isEmpty = false := by
      cases hh : (((en 0 tw).filter fun q => belowB f l q.2).map (·.1)) with
      | nil => rw [hh] at e3; cases e3
      | cons a r => rfl
    have hla : atI ((((en 0 tw).filter fun q => belowB f l q.2).map (·.1)).map D.int) (-1) = some (.int m) := by
      rw [at_last, List.getLast?_map, e3]; simp
    simp only [bnd_some, bnd_none, opt_some, opt_none, seqF_next, seqF_brk, seqF_cnt, seqF_ret, ts_nil, ts_cons, out_ret, out_next, ite_t, ite_f, bop_and_t, bop_and_f, bop_or_t, bop_or_f, bb_and_t, bb_and_f, bb_or_t, bb_or_f, slot_0, slot_s, e_con, b_con, e_var, b_var, e_glo, b_glo, e_tup, b_tup, e_lst, b_lst, e_dct, b_dct, e_op, b_op, e_neg, b_neg, e_not, b_not, e_bop, b_bop, e_cmp, b_cmp, e_chn, b_chn, e_ifx, b_ifx, e_ix, b_ix, e_sl, b_sl, e_call, b_call, e_bi, b_bi, e_mxd, b_mxd, e_isi, b_isi, e_isl, b_isl, e_lrg, b_lrg, e_mt, b_mt, e_lc, b_lc, e_rev, b_rev, e_gtp, e_lrg1, i_rng3, bop_1, bop_2, bb_1, bb_2, es_nil, es_cons, eo_none, eo_some, if_none, if_some, i_ex, i_rng1, i_rng2, i_enm, q_nm, q_tp, q_sb, setK_some, qs_nil, qs_cons, t_asg, t_aug, t_ex, t_ret, t_retN, t_iff, t_fr, t_whl, t_brk, t_cnt, t_pas, con_none, con_bool, con_int, con_str, neg_int, not_bl, int_int, add_int, sub_int, lt_int, le_int, gt_int, ge_int, eq_int, ne_int, is_nn, is_in, is_bb, isn_nn, isn_in, isn_bb, tr_non, tr_bl, tr_int, ty_non, ty_bl, ty_int, ty_tup, ty_ro, isa_int_int, isa_int_bool, isa_int_list, isa_int_tuple, isa_list_list, isa_list_tuple, isa_tuple_list, isa_tuple_tuple, sq_tup, sq_ro, bi_int_int, bi_int_bl, bi_tuple_tup, bi_min, bi_max, bi_len_tup, bi_len_ro, ix_tup, ix_ro, sl_tup, sl_ro, stays_tup, stays_ro, at_0, at_1, gc_ai, gc_aai, gc_aaai, gc_ab, gc_aab, gc_aaab, gc_an, gc_aan, gc_aaan, gc_same, wipe_nil, wipe_cons, sz_0, sz_1, sz_2, sz_3, sz_4, sz_5, sz_6, sz_7, sz_8, sz_9, sz_10, runDef, runFull, Def.full, startD, List.length_cons, List.length_nil, List.map_cons, List.map_nil, List.append_nil, List.nil_append, List.cons_append, List.drop_nil, List.drop_zero, List.set_cons_zero, List.set_cons_succ, List.replicate, if_true, if_false, Bool.not_true, Bool.not_false, Bool.true_or, Bool.false_or, Option.map_some, Option.map_none, Nat.zero_add, Nat.add_zero, Nat.sub_self, Nat.reduceAdd, Nat.reduceSub, ↓reduceIte, Bool.and_true, Bool.true_and, Bool.false_and, Bool.and_false, Int.cast_ofNat_Int, decide_true, decide_false, Int.reduceEq, Int.reduceLT, Int.reduceLE, Bool.false_eq_true, List.append_assoc, List.length_append, lk_app, lk_app0, lk_sapp, lk_sapp0, lk_z, lk_s, st_app, st_app0, st_sapp, st_sapp0, len_set, set_set, sq_lk, ix_lk, sl_lk, len_lk, tuple_lk, list_lk, list_tup, ty_lk, stays_lk, set_lk, add_lk, app_lk, ext_lk, clear_lk, recv_lk, get2_lk, tr_lk, gp_0, gp_1, gp_2, gp_3, gp_4, gp_5, gp_6, gp_7, gp_8, ko_n, ko_s, ko_p, gq_1, gq_2, gq_3, gq_4, gq_5, gq_6, gq_7, gq_8, gq_9, gq_10, gq_11, gq_12, gq_13, gq_14, gq_15, gq_16, gcR, Nat.lt_irrefl, Nat.not_lt_zero, List.take_succ_cons, List.take_zero, List.take_nil, D.beqL_self, at_2, at_3, ixN, Nat.reduceLT, Nat.reduceLeDiff, Int.reduceToNat, Int.reduceNeg, Int.reduceSub, Int.reduceAdd, Int.reduceMul, sz_lt, Int.zero_add, mod_int, pr_int, pr_bl, pr_non, pr_str, pr_tup, pr_nil, pr_cons, pr_lst, pr_ints, pr_prs, pr_app, pr_kD, mt_1, mt_2, mt_3, mt_4, mt_5, mt_6, mt_7, rev_lk, max_lk, min_lk, sum_lk, any_lk, all_lk, count_lk, index_lk, pop_lk, eq_D, ne_D, eqD_ll, eqD_tt, eqL_ll, eqS_same, eqS_nil, eqS_ints, eqD_ii, eqD_kk, py_app, py_nil, py_cons, py_ints, py_int, py_bl, py_non, py_kD, py_links, py_prs, py_mapi, pr_mapi, pr_linksT, gt_np, pr_loc, pr_stps, pr_stp, aug_add, aug_sub, ko_app, take_left', len_aa, hne, hla]
    all_goals simp
theorem searched_of (k : Nat) {tw : Tws} (l n : Nat) {a key : Int} {S : Store} (ha : a + 1 = n) (hn : n ≤ tw.length) (hl : tw.length ≤ 1000) (hl2 : l ≤ 1000) : orc defs (k + 2) 11 [.tup (tw.map prD), .int l, .int a, .int key] S = some (.loc S.length, S ++ [.lst ((srch tw key l n).map Stp.d)]) := by
  rw [orc_at (d := d_searched) rfl]
  simp only [d_searched, b_searched, bnd_some, bnd_none, opt_some, opt_none, seqF_next, seqF_brk, seqF_cnt, seqF_ret, ts_nil, ts_cons, out_ret, out_next, ite_t, ite_f, bop_and_t, bop_and_f, bop_or_t, bop_or_f, bb_and_t, bb_and_f, bb_or_t, bb_or_f, slot_0, slot_s, e_con, b_con, e_var, b_var, e_glo, b_glo, e_tup, b_tup, e_lst, b_lst, e_dct, b_dct, e_op, b_op, e_neg, b_neg, e_not, b_not, e_bop, b_bop, e_cmp, b_cmp, e_chn, b_chn, e_ifx, b_ifx, e_ix, b_ix, e_sl, b_sl, e_call, b_call, e_bi, b_bi, e_mxd, b_mxd, e_isi, b_isi, e_isl, b_isl, e_lrg, b_lrg, e_mt, b_mt, e_lc, b_lc, e_rev, b_rev, e_gtp, e_lrg1, i_rng3, bop_1, bop_2, bb_1, bb_2, es_nil, es_cons, eo_none, eo_some, if_none, if_some, i_ex, i_rng1, i_rng2, i_enm, q_nm, q_tp, q_sb, setK_some, qs_nil, qs_cons, t_asg, t_aug, t_ex, t_ret, t_retN, t_iff, t_fr, t_whl, t_brk, t_cnt, t_pas, con_none, con_bool, con_int, con_str, neg_int, not_bl, int_int, add_int, sub_int, lt_int, le_int, gt_int, ge_int, eq_int, ne_int, is_nn, is_in, is_bb, isn_nn, isn_in, isn_bb, tr_non, tr_bl, tr_int, ty_non, ty_bl, ty_int, ty_tup, ty_ro, isa_int_int, isa_int_bool, isa_int_list, isa_int_tuple, isa_list_list, isa_list_tuple, isa_tuple_list, isa_tuple_tuple, sq_tup, sq_ro, bi_int_int, bi_int_bl, bi_tuple_tup, bi_min, bi_max, bi_len_tup, bi_len_ro, ix_tup, ix_ro, sl_tup, sl_ro, stays_tup, stays_ro, at_0, at_1, gc_ai, gc_aai, gc_aaai, gc_ab, gc_aab, gc_aaab, gc_an, gc_aan, gc_aaan, gc_same, wipe_nil, wipe_cons, sz_0, sz_1, sz_2, sz_3, sz_4, sz_5, sz_6, sz_7, sz_8, sz_9, sz_10, runDef, runFull, Def.full, startD, List.length_cons, List.length_nil, List.map_cons, List.map_nil, List.append_nil, List.nil_append, List.cons_append, List.drop_nil, List.drop_zero, List.set_cons_zero, List.set_cons_succ, List.replicate, if_true, if_false, Bool.not_true, Bool.not_false, Bool.true_or, Bool.false_or, Option.map_some, Option.map_none, Nat.zero_add, Nat.add_zero, Nat.sub_self, Nat.reduceAdd, Nat.reduceSub, ↓reduceIte, Bool.and_true, Bool.true_and, Bool.false_and, Bool.and_false, Int.cast_ofNat_Int, decide_true, decide_false, Int.reduceEq, Int.reduceLT, Int.reduceLE, Bool.false_eq_true, List.append_assoc, List.length_append, lk_app, lk_app0, lk_sapp, lk_sapp0, lk_z, lk_s, st_app, st_app0, st_sapp, st_sapp0, len_set, set_set, sq_lk, ix_lk, sl_lk, len_lk, tuple_lk, list_lk, list_tup, ty_lk, stays_lk, set_lk, add_lk, app_lk, ext_lk, clear_lk, recv_lk, get2_lk, tr_lk, gp_0, gp_1, gp_2, gp_3, gp_4, gp_5, gp_6, gp_7, gp_8, ko_n, ko_s, ko_p, gq_1, gq_2, gq_3, gq_4, gq_5, gq_6, gq_7, gq_8, gq_9, gq_10, gq_11, gq_12, gq_13, gq_14, gq_15, gq_16, gcR, Nat.lt_irrefl, Nat.not_lt_zero, List.take_succ_cons, List.take_zero, List.take_nil, D.beqL_self, at_2, at_3, ixN, Nat.reduceLT, Nat.reduceLeDiff, Int.reduceToNat, Int.reduceNeg, Int.reduceSub, Int.reduceAdd, Int.reduceMul, sz_lt, Int.zero_add, mod_int, pr_int, pr_bl, pr_non, pr_str, pr_tup, pr_nil, pr_cons, pr_lst, pr_ints, pr_prs, pr_app, pr_kD, mt_1, mt_2, mt_3, mt_4, mt_5, mt_6, mt_7, rev_lk, max_lk, min_lk, sum_lk, any_lk, all_lk, count_lk, index_lk, pop_lk, eq_D, ne_D, eqD_ll, eqD_tt, eqL_ll, eqS_same, eqS_nil, eqS_ints, eqD_ii, eqD_kk, py_app, py_nil, py_cons, py_ints, py_int, py_bl, py_non, py_kD, py_links, py_prs, py_mapi, pr_mapi, pr_linksT, gt_np, pr_loc, pr_stps, pr_stp, aug_add, aug_sub, ko_app, take_left', len_aa]
  generalize hX : whlD _ _ _ _ _ = X
  have hb := srch_len (tw := tw) (key := key) (l := l) hn
  have key := whl_X hX (fun σ T => ∃ (i m : Nat) (a : Int) (acc : List Stp) (x : Option D), σ = [some (.tup (tw.map prD)), some (.int i), some (.int a), some (.int key), some (.loc S.length), x] ∧ a + 1 = m ∧ m ≤ tw.length ∧ i ≤ 1000 ∧ T = S ++ [.lst (acc.map Stp.d)] ∧ acc ++ srch tw key i m = srch tw key l n)
    (fun σ T => match σ with | [_, some (.int i), some (.int a), _, _, _] => i.toNat * 2000 + (1500 - (a + 1).toNat) | _ => 0)
    (fun X => ∃ (m : Nat) (a : Int) (acc : List Stp) (x : Option D), X = some (.next [some (.tup (tw.map prD)), some (.int 0), some (.int a), some (.int key), some (.loc S.length), x], S ++ [.lst (acc.map Stp.d)]) ∧ a + 1 = m ∧ m ≤ tw.length ∧ acc ++ srch tw key 0 m = srch tw key l n)
    ⟨l, n, a, [], _, rfl, ha, hn, hl2, rfl, rfl⟩ ?_ ?_
  · obtain ⟨m, a, acc, x, rfl, h1, h2, h3⟩ := key
    have hlk : srch tw key 0 m = lookS tw m := rfl
    rw [hlk] at h3
    have h4 := congrArg List.length h3
    rw [List.length_append] at h4
    have hz : acc.length < sizeLine := lt_size (by omega)
    cases h5 : tw[m]? with
    | none =>
      have hml := List.getElem?_eq_none_iff.mp h5
      have hlt : ¬ a + 1 < (tw.length : Int) := by omega
      have e5 : lookS tw m = [] := by unfold lookS; rw [h5]
      rw [e5, List.append_nil] at h3
      simp only [bnd_some, bnd_none, opt_some, opt_none, seqF_next, seqF_brk, seqF_cnt, seqF_ret, ts_nil, ts_cons, out_ret, out_next, ite_t, ite_f, bop_and_t, bop_and_f, bop_or_t, bop_or_f, bb_and_t, bb_and_f, bb_or_t, bb_or_f, slot_0, slot_s, e_con, b_con, e_var, b_var, e_glo, b_glo, e_tup, b_tup, e_lst, b_lst, e_dct, b_dct, e_op, b_op, e_neg, b_neg, e_not, b_not, e_bop, b_bop, e_cmp, b_cmp, e_chn, b_chn, e_ifx, b_ifx, e_ix, b_ix, e_sl, b_sl, e_call, b_call, e_bi, b_bi, e_mxd, b_mxd, e_isi, b_isi, e_isl, b_isl, e_lrg, b_lrg, e_mt, b_mt, e_lc, b_lc, e_rev, b_rev, e_gtp, e_lrg1, i_rng3, bop_1, bop_2, bb_1, bb_2, es_nil, es_cons, eo_none, eo_some, if_none, if_some, i_ex, i_rng1, i_rng2, i_enm, q_nm, q_tp, q_sb, setK_some, qs_nil, qs_cons, t_asg, t_aug, t_ex, t_ret, t_retN, t_iff, t_fr, t_whl, t_brk, t_cnt, t_pas, con_none, con_bool, con_int, con_str, neg_int, not_bl, int_int, add_int, sub_int, lt_int, le_int, gt_int, ge_int, eq_int, ne_int, is_nn, is_in, is_bb, isn_nn, isn_in, isn_bb, tr_non, tr_bl, tr_int, ty_non, ty_bl, ty_int, ty_tup, ty_ro, isa_int_int, isa_int_bool, isa_int_list, isa_int_tuple, isa_list_list, isa_list_tuple, isa_tuple_list, isa_tuple_tuple, sq_tup, sq_ro, bi_int_int, bi_int_bl, bi_tuple_tup, bi_min, bi_max, bi_len_tup, bi_len_ro, ix_tup, ix_ro, sl_tup, sl_ro, stays_tup, stays_ro, at_0, at_1, gc_ai, gc_aai, gc_aaai, gc_ab, gc_aab, gc_aaab, gc_an, gc_aan, gc_aaan, gc_same, wipe_nil, wipe_cons, sz_0, sz_1, sz_2, sz_3, sz_4, sz_5, sz_6, sz_7, sz_8, sz_9, sz_10, runDef, runFull, Def.full, startD, List.length_cons, List.length_nil, List.map_cons, List.map_nil, List.append_nil, List.nil_append, List.cons_append, List.drop_nil, List.drop_zero, List.set_cons_zero, List.set_cons_succ, List.replicate, if_true, if_false, Bool.not_true, Bool.not_false, Bool.true_or, Bool.false_or, Option.map_some, Option.map_none, Nat.zero_add, Nat.add_zero, Nat.sub_self, Nat.reduceAdd, Nat.reduceSub, ↓reduceIte, Bool.and_true, Bool.true_and, Bool.false_and, Bool.and_false, Int.cast_ofNat_Int, decide_true, decide_false, Int.reduceEq, Int.reduceLT, Int.reduceLE, Bool.false_eq_true, List.append_assoc, List.length_append, lk_app, lk_app0, lk_sapp, lk_sapp0, lk_z, lk_s, st_app, st_app0, st_sapp, st_sapp0, len_set, set_set, sq_lk, ix_lk, sl_lk, len_lk, tuple_lk, list_lk, list_tup, ty_lk, stays_lk, set_lk, add_lk, app_lk, ext_lk, clear_lk, recv_lk, get2_lk, tr_lk, gp_0, gp_1, gp_2, gp_3, gp_4, gp_5, gp_6, gp_7, gp_8, ko_n, ko_s, ko_p, gq_1, gq_2, gq_3, gq_4, gq_5, gq_6, gq_7, gq_8, gq_9, gq_10, gq_11, gq_12, gq_13, gq_14, gq_15, gq_16, gcR, Nat.lt_irrefl, Nat.not_lt_zero, List.take_succ_cons, List.take_zero, List.take_nil, D.beqL_self, at_2, at_3, ixN, Nat.reduceLT, Nat.reduceLeDiff, Int.reduceToNat, Int.reduceNeg, Int.reduceSub, Int.reduceAdd, Int.reduceMul, sz_lt, Int.zero_add, mod_int, pr_int, pr_bl, pr_non, pr_str, pr_tup, pr_nil, pr_cons, pr_lst, pr_ints, pr_prs, pr_app, pr_kD, mt_1, mt_2, mt_3, mt_4, mt_5, mt_6, mt_7, rev_lk, max_lk, min_lk, sum_lk, any_lk, all_lk, count_lk, index_lk, pop_lk, eq_D, ne_D, eqD_ll, eqD_tt, eqL_ll, eqS_same, eqS_nil, eqS_ints, eqD_ii, eqD_kk, py_app, py_nil, py_cons, py_ints, py_int, py_bl, py_non, py_kD, py_links, py_prs, py_mapi, pr_mapi, pr_linksT, gt_np, pr_loc, pr_stps, pr_stp, aug_add, aug_sub, ko_app, take_left', len_aa, List.length_map, hlt, h3, pr_stps]
    | some p =>
      have hml := (List.getElem?_eq_some_iff.mp h5).1
      have hlt : a + 1 < (tw.length : Int) := by omega
      have e5 : lookS tw m = [.look p.1] := by unfold lookS; rw [h5]
      rw [e5] at h3
      have e6 : atI (tw.map prD) (a + 1) = some (prD p) := by rw [h1]; exact prs_at h5
      have e7 : acc.map Stp.d ++ [D.tup [D.str "look", D.int p.1]] = (srch tw key l n).map Stp.d := by rw [← h3, List.map_append]; rfl
      have e8 : D.pureL (acc.map Stp.d ++ [D.tup [D.str "look", D.int p.1]]) = true := by rw [e7]; exact pr_stps _
      simp only [bnd_some, bnd_none, opt_some, opt_none, seqF_next, seqF_brk, seqF_cnt, seqF_ret, ts_nil, ts_cons, out_ret, out_next, ite_t, ite_f, bop_and_t, bop_and_f, bop_or_t, bop_or_f, bb_and_t, bb_and_f, bb_or_t, bb_or_f, slot_0, slot_s, e_con, b_con, e_var, b_var, e_glo, b_glo, e_tup, b_tup, e_lst, b_lst, e_dct, b_dct, e_op, b_op, e_neg, b_neg, e_not, b_not, e_bop, b_bop, e_cmp, b_cmp, e_chn, b_chn, e_ifx, b_ifx, e_ix, b_ix, e_sl, b_sl, e_call, b_call, e_bi, b_bi, e_mxd, b_mxd, e_isi, b_isi, e_isl, b_isl, e_lrg, b_lrg, e_mt, b_mt, e_lc, b_lc, e_rev, b_rev, e_gtp, e_lrg1, i_rng3, bop_1, bop_2, bb_1, bb_2, es_nil, es_cons, eo_none, eo_some, if_none, if_some, i_ex, i_rng1, i_rng2, i_enm, q_nm, q_tp, q_sb, setK_some, qs_nil, qs_cons, t_asg, t_aug, t_ex, t_ret, t_retN, t_iff, t_fr, t_whl, t_brk, t_cnt, t_pas, con_none, con_bool, con_int, con_str, neg_int, not_bl, int_int, add_int, sub_int, lt_int, le_int, gt_int, ge_int, eq_int, ne_int, is_nn, is_in, is_bb, isn_nn, isn_in, isn_bb, tr_non, tr_bl, tr_int, ty_non, ty_bl, ty_int, ty_tup, ty_ro, isa_int_int, isa_int_bool, isa_int_list, isa_int_tuple, isa_list_list, isa_list_tuple, isa_tuple_list, isa_tuple_tuple, sq_tup, sq_ro, bi_int_int, bi_int_bl, bi_tuple_tup, bi_min, bi_max, bi_len_tup, bi_len_ro, ix_tup, ix_ro, sl_tup, sl_ro, stays_tup, stays_ro, at_0, at_1, gc_ai, gc_aai, gc_aaai, gc_ab, gc_aab, gc_aaab, gc_an, gc_aan, gc_aaan, gc_same, wipe_nil, wipe_cons, sz_0, sz_1, sz_2, sz_3, sz_4, sz_5, sz_6, sz_7, sz_8, sz_9, sz_10, runDef, runFull, Def.full, startD, List.length_cons, List.length_nil, List.map_cons, List.map_nil, List.append_nil, List.nil_append, List.cons_append, List.drop_nil, List.drop_zero, List.set_cons_zero, List.set_cons_succ, List.replicate, if_true, if_false, Bool.not_true, Bool.not_false, Bool.true_or, Bool.false_or, Option.map_some, Option.map_none, Nat.zero_add, Nat.add_zero, Nat.sub_self, Nat.reduceAdd, Nat.reduceSub, ↓reduceIte, Bool.and_true, Bool.true_and, Bool.false_and, Bool.and_false, Int.cast_ofNat_Int, decide_true, decide_false, Int.reduceEq, Int.reduceLT, Int.reduceLE, Bool.false_eq_true, List.append_assoc, List.length_append, lk_app, lk_app0, lk_sapp, lk_sapp0, lk_z, lk_s, st_app, st_app0, st_sapp, st_sapp0, len_set, set_set, sq_lk, ix_lk, sl_lk, len_lk, tuple_lk, list_lk, list_tup, ty_lk, stays_lk, set_lk, add_lk, app_lk, ext_lk, clear_lk, recv_lk, get2_lk, tr_lk, gp_0, gp_1, gp_2, gp_3, gp_4, gp_5, gp_6, gp_7, gp_8, ko_n, ko_s, ko_p, gq_1, gq_2, gq_3, gq_4, gq_5, gq_6, gq_7, gq_8, gq_9, gq_10, gq_11, gq_12, gq_13, gq_14, gq_15, gq_16, gcR, Nat.lt_irrefl, Nat.not_lt_zero, List.take_succ_cons, List.take_zero, List.take_nil, D.beqL_self, at_2, at_3, ixN, Nat.reduceLT, Nat.reduceLeDiff, Int.reduceToNat, Int.reduceNeg, Int.reduceSub, Int.reduceAdd, Int.reduceMul, sz_lt, Int.zero_add, mod_int, pr_int, pr_bl, pr_non, pr_str, pr_tup, pr_nil, pr_cons, pr_lst, pr_ints, pr_prs, pr_app, pr_kD, mt_1, mt_2, mt_3, mt_4, mt_5, mt_6, mt_7, rev_lk, max_lk, min_lk, sum_lk, any_lk, all_lk, count_lk, index_lk, pop_lk, eq_D, ne_D, eqD_ll, eqD_tt, eqL_ll, eqS_same, eqS_nil, eqS_ints, eqD_ii, eqD_kk, py_app, py_nil, py_cons, py_ints, py_int, py_bl, py_non, py_kD, py_links, py_prs, py_mapi, pr_mapi, pr_linksT, gt_np, pr_loc, pr_stps, pr_stp, aug_add, aug_sub, ko_app, take_left', len_aa, List.length_map, hlt, e6, prD, hz, pr_stps]
      simp only [← e7, pr_stps]
      all_goals simp only [bnd_some, bnd_none, opt_some, opt_none, seqF_next, seqF_brk, seqF_cnt, seqF_ret, ts_nil, ts_cons, out_ret, out_next, ite_t, ite_f, bop_and_t, bop_and_f, bop_or_t, bop_or_f, bb_and_t, bb_and_f, bb_or_t, bb_or_f, slot_0, slot_s, e_con, b_con, e_var, b_var, e_glo, b_glo, e_tup, b_tup, e_lst, b_lst, e_dct, b_dct, e_op, b_op, e_neg, b_neg, e_not, b_not, e_bop, b_bop, e_cmp, b_cmp, e_chn, b_chn, e_ifx, b_ifx, e_ix, b_ix, e_sl, b_sl, e_call, b_call, e_bi, b_bi, e_mxd, b_mxd, e_isi, b_isi, e_isl, b_isl, e_lrg, b_lrg, e_mt, b_mt, e_lc, b_lc, e_rev, b_rev, e_gtp, e_lrg1, i_rng3, bop_1, bop_2, bb_1, bb_2, es_nil, es_cons, eo_none, eo_some, if_none, if_some, i_ex, i_rng1, i_rng2, i_enm, q_nm, q_tp, q_sb, setK_some, qs_nil, qs_cons, t_asg, t_aug, t_ex, t_ret, t_retN, t_iff, t_fr, t_whl, t_brk, t_cnt, t_pas, con_none, con_bool, con_int, con_str, neg_int, not_bl, int_int, add_int, sub_int, lt_int, le_int, gt_int, ge_int, eq_int, ne_int, is_nn, is_in, is_bb, isn_nn, isn_in, isn_bb, tr_non, tr_bl, tr_int, ty_non, ty_bl, ty_int, ty_tup, ty_ro, isa_int_int, isa_int_bool, isa_int_list, isa_int_tuple, isa_list_list, isa_list_tuple, isa_tuple_list, isa_tuple_tuple, sq_tup, sq_ro, bi_int_int, bi_int_bl, bi_tuple_tup, bi_min, bi_max, bi_len_tup, bi_len_ro, ix_tup, ix_ro, sl_tup, sl_ro, stays_tup, stays_ro, at_0, at_1, gc_ai, gc_aai, gc_aaai, gc_ab, gc_aab, gc_aaab, gc_an, gc_aan, gc_aaan, gc_same, wipe_nil, wipe_cons, sz_0, sz_1, sz_2, sz_3, sz_4, sz_5, sz_6, sz_7, sz_8, sz_9, sz_10, runDef, runFull, Def.full, startD, List.length_cons, List.length_nil, List.map_cons, List.map_nil, List.append_nil, List.nil_append, List.cons_append, List.drop_nil, List.drop_zero, List.set_cons_zero, List.set_cons_succ, List.replicate, if_true, if_false, Bool.not_true, Bool.not_false, Bool.true_or, Bool.false_or, Option.map_some, Option.map_none, Nat.zero_add, Nat.add_zero, Nat.sub_self, Nat.reduceAdd, Nat.reduceSub, ↓reduceIte, Bool.and_true, Bool.true_and, Bool.false_and, Bool.and_false, Int.cast_ofNat_Int, decide_true, decide_false, Int.reduceEq, Int.reduceLT, Int.reduceLE, Bool.false_eq_true, List.append_assoc, List.length_append, lk_app, lk_app0, lk_sapp, lk_sapp0, lk_z, lk_s, st_app, st_app0, st_sapp, st_sapp0, len_set, set_set, sq_lk, ix_lk, sl_lk, len_lk, tuple_lk, list_lk, list_tup, ty_lk, stays_lk, set_lk, add_lk, app_lk, ext_lk, clear_lk, recv_lk, get2_lk, tr_lk, gp_0, gp_1, gp_2, gp_3, gp_4, gp_5, gp_6, gp_7, gp_8, ko_n, ko_s, ko_p, gq_1, gq_2, gq_3, gq_4, gq_5, gq_6, gq_7, gq_8, gq_9, gq_10, gq_11, gq_12, gq_13, gq_14, gq_15, gq_16, gcR, Nat.lt_irrefl, Nat.not_lt_zero, List.take_succ_cons, List.take_zero, List.take_nil, D.beqL_self, at_2, at_3, ixN, Nat.reduceLT, Nat.reduceLeDiff, Int.reduceToNat, Int.reduceNeg, Int.reduceSub, Int.reduceAdd, Int.reduceMul, sz_lt, Int.zero_add, mod_int, pr_int, pr_bl, pr_non, pr_str, pr_tup, pr_nil, pr_cons, pr_lst, pr_ints, pr_prs, pr_app, pr_kD, mt_1, mt_2, mt_3, mt_4, mt_5, mt_6, mt_7, rev_lk, max_lk, min_lk, sum_lk, any_lk, all_lk, count_lk, index_lk, pop_lk, eq_D, ne_D, eqD_ll, eqD_tt, eqL_ll, eqS_same, eqS_nil, eqS_ints, eqD_ii, eqD_kk, py_app, py_nil, py_cons, py_ints, py_int, py_bl, py_non, py_kD, py_links, py_prs, py_mapi, pr_mapi, pr_linksT, gt_np, pr_loc, pr_stps, pr_stp, aug_add, aug_sub, ko_app, take_left', len_aa, e7, pr_stps]
  · show l * 2000 + (1500 - (a + 1).toNat) < turns
    have : turns = 2 ^ 40 := rfl
    omega
  · clear hX X
    rintro σ T ⟨i, m, a, acc, x, rfl, h1, h2, h3, rfl, h4⟩
    cases i with
    | zero => exact ⟨false, _, by simp only [bnd_some, bnd_none, opt_some, opt_none, seqF_next, seqF_brk, seqF_cnt, seqF_ret, ts_nil, ts_cons, out_ret, out_next, ite_t, ite_f, bop_and_t, bop_and_f, bop_or_t, bop_or_f, bb_and_t, bb_and_f, bb_or_t, bb_or_f, slot_0, slot_s, e_con, b_con, e_var, b_var, e_glo, b_glo, e_tup, b_tup, e_lst, b_lst, e_dct, b_dct, e_op, b_op, e_neg, b_neg, e_not, b_not, e_bop, b_bop, e_cmp, b_cmp, e_chn, b_chn, e_ifx, b_ifx, e_ix, b_ix, e_sl, b_sl, e_call, b_call, e_bi, b_bi, e_mxd, b_mxd, e_isi, b_isi, e_isl, b_isl, e_lrg, b_lrg, e_mt, b_mt, e_lc, b_lc, e_rev, b_rev, e_gtp, e_lrg1, i_rng3, bop_1, bop_2, bb_1, bb_2, es_nil, es_cons, eo_none, eo_some, if_none, if_some, i_ex, i_rng1, i_rng2, i_enm, q_nm, q_tp, q_sb, setK_some, qs_nil, qs_cons, t_asg, t_aug, t_ex, t_ret, t_retN, t_iff, t_fr, t_whl, t_brk, t_cnt, t_pas, con_none, con_bool, con_int, con_str, neg_int, not_bl, int_int, add_int, sub_int, lt_int, le_int, gt_int, ge_int, eq_int, ne_int, is_nn, is_in, is_bb, isn_nn, isn_in, isn_bb, tr_non, tr_bl, tr_int, ty_non, ty_bl, ty_int, ty_tup, ty_ro, isa_int_int, isa_int_bool, isa_int_list, isa_int_tuple, isa_list_list, isa_list_tuple, isa_tuple_list, isa_tuple_tuple, sq_tup, sq_ro, bi_int_int, bi_int_bl, bi_tuple_tup, bi_min, bi_max, bi_len_tup, bi_len_ro, ix_tup, ix_ro, sl_tup, sl_ro, stays_tup, stays_ro, at_0, at_1, gc_ai, gc_aai, gc_aaai, gc_ab, gc_aab, gc_aaab, gc_an, gc_aan, gc_aaan, gc_same, wipe_nil, wipe_cons, sz_0, sz_1, sz_2, sz_3, sz_4, sz_5, sz_6, sz_7, sz_8, sz_9, sz_10, runDef, runFull, Def.full, startD, List.length_cons, List.length_nil, List.map_cons, List.map_nil, List.append_nil, List.nil_append, List.cons_append, List.drop_nil, List.drop_zero, List.set_cons_zero, List.set_cons_succ, List.replicate, if_true, if_false, Bool.not_true, Bool.not_false, Bool.true_or, Bool.false_or, Option.map_some, Option.map_none, Nat.zero_add, Nat.add_zero, Nat.sub_self, Nat.reduceAdd, Nat.reduceSub, ↓reduceIte, Bool.and_true, Bool.true_and, Bool.false_and, Bool.and_false, Int.cast_ofNat_Int, decide_true, decide_false, Int.reduceEq, Int.reduceLT, Int.reduceLE, Bool.false_eq_true, List.append_assoc, List.length_append, lk_app, lk_app0, lk_sapp, lk_sapp0, lk_z, lk_s, st_app, st_app0, st_sapp, st_sapp0, len_set, set_set, sq_lk, ix_lk, sl_lk, len_lk, tuple_lk, list_lk, list_tup, ty_lk, stays_lk, set_lk, add_lk, app_lk, ext_lk, clear_lk, recv_lk, get2_lk, tr_lk, gp_0, gp_1, gp_2, gp_3, gp_4, gp_5, gp_6, gp_7, gp_8, ko_n, ko_s, ko_p, gq_1, gq_2, gq_3, gq_4, gq_5, gq_6, gq_7, gq_8, gq_9, gq_10, gq_11, gq_12, gq_13, gq_14, gq_15, gq_16, gcR, Nat.lt_irrefl, Nat.not_lt_zero, List.take_succ_cons, List.take_zero, List.take_nil, D.beqL_self, at_2, at_3, ixN, Nat.reduceLT, Nat.reduceLeDiff, Int.reduceToNat, Int.reduceNeg, Int.reduceSub, Int.reduceAdd, Int.reduceMul, sz_lt, Int.zero_add, mod_int, pr_int, pr_bl, pr_non, pr_str, pr_tup, pr_nil, pr_cons, pr_lst, pr_ints, pr_prs, pr_app, pr_kD, mt_1, mt_2, mt_3, mt_4, mt_5, mt_6, mt_7, rev_lk, max_lk, min_lk, sum_lk, any_lk, all_lk, count_lk, index_lk, pop_lk, eq_D, ne_D, eqD_ll, eqD_tt, eqL_ll, eqS_same, eqS_nil, eqS_ints, eqD_ii, eqD_kk, py_app, py_nil, py_cons, py_ints, py_int, py_bl, py_non, py_kD, py_links, py_prs, py_mapi, pr_mapi, pr_linksT, gt_np, pr_loc, pr_stps, pr_stp, aug_add, aug_sub, ko_app, take_left', len_aa], fun _ => ⟨m, a, acc, x, rfl, h1, h2, h4⟩, fun z => nomatch z⟩
    | succ i =>
      have hpos : (0 : Int) < ((i + 1 : Nat) : Int) := by omega
      have en := next_at_of k (l := ((i + 1 : Nat) : Int)) (S := S ++ [.lst (acc.map Stp.d)]) h1 h2 hl
      have h4l := congrArg List.length h4
      rw [List.length_append] at h4l
      have hz : acc.length < sizeLine := lt_size (by omega)
      have hne := nx_le h2 ((i + 1 : Nat) : Int)
      have hng := nx_ge tw m ((i + 1 : Nat) : Int)
      refine ⟨true, S ++ [.lst (acc.map Stp.d)], by simp only [bnd_some, bnd_none, opt_some, opt_none, seqF_next, seqF_brk, seqF_cnt, seqF_ret, ts_nil, ts_cons, out_ret, out_next, ite_t, ite_f, bop_and_t, bop_and_f, bop_or_t, bop_or_f, bb_and_t, bb_and_f, bb_or_t, bb_or_f, slot_0, slot_s, e_con, b_con, e_var, b_var, e_glo, b_glo, e_tup, b_tup, e_lst, b_lst, e_dct, b_dct, e_op, b_op, e_neg, b_neg, e_not, b_not, e_bop, b_bop, e_cmp, b_cmp, e_chn, b_chn, e_ifx, b_ifx, e_ix, b_ix, e_sl, b_sl, e_call, b_call, e_bi, b_bi, e_mxd, b_mxd, e_isi, b_isi, e_isl, b_isl, e_lrg, b_lrg, e_mt, b_mt, e_lc, b_lc, e_rev, b_rev, e_gtp, e_lrg1, i_rng3, bop_1, bop_2, bb_1, bb_2, es_nil, es_cons, eo_none, eo_some, if_none, if_some, i_ex, i_rng1, i_rng2, i_enm, q_nm, q_tp, q_sb, setK_some, qs_nil, qs_cons, t_asg, t_aug, t_ex, t_ret, t_retN, t_iff, t_fr, t_whl, t_brk, t_cnt, t_pas, con_none, con_bool, con_int, con_str, neg_int, not_bl, int_int, add_int, sub_int, lt_int, le_int, gt_int, ge_int, eq_int, ne_int, is_nn, is_in, is_bb, isn_nn, isn_in, isn_bb, tr_non, tr_bl, tr_int, ty_non, ty_bl, ty_int, ty_tup, ty_ro, isa_int_int, isa_int_bool, isa_int_list, isa_int_tuple, isa_list_list, isa_list_tuple, isa_tuple_list, isa_tuple_tuple, sq_tup, sq_ro, bi_int_int, bi_int_bl, bi_tuple_tup, bi_min, bi_max, bi_len_tup, bi_len_ro, ix_tup, ix_ro, sl_tup, sl_ro, stays_tup, stays_ro, at_0, at_1, gc_ai, gc_aai, gc_aaai, gc_ab, gc_aab, gc_aaab, gc_an, gc_aan, gc_aaan, gc_same, wipe_nil, wipe_cons, sz_0, sz_1, sz_2, sz_3, sz_4, sz_5, sz_6, sz_7, sz_8, sz_9, sz_10, runDef, runFull, Def.full, startD, List.length_cons, List.length_nil, List.map_cons, List.map_nil, List.append_nil, List.nil_append, List.cons_append, List.drop_nil, List.drop_zero, List.set_cons_zero, List.set_cons_succ, List.replicate, if_true, if_false, Bool.not_true, Bool.not_false, Bool.true_or, Bool.false_or, Option.map_some, Option.map_none, Nat.zero_add, Nat.add_zero, Nat.sub_self, Nat.reduceAdd, Nat.reduceSub, ↓reduceIte, Bool.and_true, Bool.true_and, Bool.false_and, Bool.and_false, Int.cast_ofNat_Int, decide_true, decide_false, Int.reduceEq, Int.reduceLT, Int.reduceLE, Bool.false_eq_true, List.append_assoc, List.length_append, lk_app, lk_app0, lk_sapp, lk_sapp0, lk_z, lk_s, st_app, st_app0, st_sapp, st_sapp0, len_set, set_set, sq_lk, ix_lk, sl_lk, len_lk, tuple_lk, list_lk, list_tup, ty_lk, stays_lk, set_lk, add_lk, app_lk, ext_lk, clear_lk, recv_lk, get2_lk, tr_lk, gp_0, gp_1, gp_2, gp_3, gp_4, gp_5, gp_6, gp_7, gp_8, ko_n, ko_s, ko_p, gq_1, gq_2, gq_3, gq_4, gq_5, gq_6, gq_7, gq_8, gq_9, gq_10, gq_11, gq_12, gq_13, gq_14, gq_15, gq_16, gcR, Nat.lt_irrefl, Nat.not_lt_zero, List.take_succ_cons, List.take_zero, List.take_nil, D.beqL_self, at_2, at_3, ixN, Nat.reduceLT, Nat.reduceLeDiff, Int.reduceToNat, Int.reduceNeg, Int.reduceSub, Int.reduceAdd, Int.reduceMul, sz_lt, Int.zero_add, mod_int, pr_int, pr_bl, pr_non, pr_str, pr_tup, pr_nil, pr_cons, pr_lst, pr_ints, pr_prs, pr_app, pr_kD, mt_1, mt_2, mt_3, mt_4, mt_5, mt_6, mt_7, rev_lk, max_lk, min_lk, sum_lk, any_lk, all_lk, count_lk, index_lk, pop_lk, eq_D, ne_D, eqD_ll, eqD_tt, eqL_ll, eqS_same, eqS_nil, eqS_ints, eqD_ii, eqD_kk, py_app, py_nil, py_cons, py_ints, py_int, py_bl, py_non, py_kD, py_links, py_prs, py_mapi, pr_mapi, pr_linksT, gt_np, pr_loc, pr_stps, pr_stp, aug_add, aug_sub, ko_app, take_left', len_aa, hpos], (fun z => nomatch z), fun _ => ?_⟩
      cases h5 : tw[nx tw m ((i + 1 : Nat) : Int)]? with
      | none =>
        have h6 := List.getElem?_eq_none_iff.mp h5
        have hlt : ¬ ((nx tw m ((i + 1 : Nat) : Int) : Nat) : Int) < (tw.length : Int) := by omega
        rw [srch_down (fun q hq => by rw [h5] at hq; cases hq), show seS tw ((i + 1 : Nat) : Int) m = .fin ((i + 1 : Nat) : Int) by unfold seS; rw [h5]] at h4
        simp only [bnd_some, bnd_none, opt_some, opt_none, seqF_next, seqF_brk, seqF_cnt, seqF_ret, ts_nil, ts_cons, out_ret, out_next, ite_t, ite_f, bop_and_t, bop_and_f, bop_or_t, bop_or_f, bb_and_t, bb_and_f, bb_or_t, bb_or_f, slot_0, slot_s, e_con, b_con, e_var, b_var, e_glo, b_glo, e_tup, b_tup, e_lst, b_lst, e_dct, b_dct, e_op, b_op, e_neg, b_neg, e_not, b_not, e_bop, b_bop, e_cmp, b_cmp, e_chn, b_chn, e_ifx, b_ifx, e_ix, b_ix, e_sl, b_sl, e_call, b_call, e_bi, b_bi, e_mxd, b_mxd, e_isi, b_isi, e_isl, b_isl, e_lrg, b_lrg, e_mt, b_mt, e_lc, b_lc, e_rev, b_rev, e_gtp, e_lrg1, i_rng3, bop_1, bop_2, bb_1, bb_2, es_nil, es_cons, eo_none, eo_some, if_none, if_some, i_ex, i_rng1, i_rng2, i_enm, q_nm, q_tp, q_sb, setK_some, qs_nil, qs_cons, t_asg, t_aug, t_ex, t_ret, t_retN, t_iff, t_fr, t_whl, t_brk, t_cnt, t_pas, con_none, con_bool, con_int, con_str, neg_int, not_bl, int_int, add_int, sub_int, lt_int, le_int, gt_int, ge_int, eq_int, ne_int, is_nn, is_in, is_bb, isn_nn, isn_in, isn_bb, tr_non, tr_bl, tr_int, ty_non, ty_bl, ty_int, ty_tup, ty_ro, isa_int_int, isa_int_bool, isa_int_list, isa_int_tuple, isa_list_list, isa_list_tuple, isa_tuple_list, isa_tuple_tuple, sq_tup, sq_ro, bi_int_int, bi_int_bl, bi_tuple_tup, bi_min, bi_max, bi_len_tup, bi_len_ro, ix_tup, ix_ro, sl_tup, sl_ro, stays_tup, stays_ro, at_0, at_1, gc_ai, gc_aai, gc_aaai, gc_ab, gc_aab, gc_aaab, gc_an, gc_aan, gc_aaan, gc_same, wipe_nil, wipe_cons, sz_0, sz_1, sz_2, sz_3, sz_4, sz_5, sz_6, sz_7, sz_8, sz_9, sz_10, runDef, runFull, Def.full, startD, List.length_cons, List.length_nil, List.map_cons, List.map_nil, List.append_nil, List.nil_append, List.cons_append, List.drop_nil, List.drop_zero, List.set_cons_zero, List.set_cons_succ, List.replicate, if_true, if_false, Bool.not_true, Bool.not_false, Bool.true_or, Bool.false_or, Option.map_some, Option.map_none, Nat.zero_add, Nat.add_zero, Nat.sub_self, Nat.reduceAdd, Nat.reduceSub, ↓reduceIte, Bool.and_true, Bool.true_and, Bool.false_and, Bool.and_false, Int.cast_ofNat_Int, decide_true, decide_false, Int.reduceEq, Int.reduceLT, Int.reduceLE, Bool.false_eq_true, List.append_assoc, List.length_append, lk_app, lk_app0, lk_sapp, lk_sapp0, lk_z, lk_s, st_app, st_app0, st_sapp, st_sapp0, len_set, set_set, sq_lk, ix_lk, sl_lk, len_lk, tuple_lk, list_lk, list_tup, ty_lk, stays_lk, set_lk, add_lk, app_lk, ext_lk, clear_lk, recv_lk, get2_lk, tr_lk, gp_0, gp_1, gp_2, gp_3, gp_4, gp_5, gp_6, gp_7, gp_8, ko_n, ko_s, ko_p, gq_1, gq_2, gq_3, gq_4, gq_5, gq_6, gq_7, gq_8, gq_9, gq_10, gq_11, gq_12, gq_13, gq_14, gq_15, gq_16, gcR, Nat.lt_irrefl, Nat.not_lt_zero, List.take_succ_cons, List.take_zero, List.take_nil, D.beqL_self, at_2, at_3, ixN, Nat.reduceLT, Nat.reduceLeDiff, Int.reduceToNat, Int.reduceNeg, Int.reduceSub, Int.reduceAdd, Int.reduceMul, sz_lt, Int.zero_add, mod_int, pr_int, pr_bl, pr_non, pr_str, pr_tup, pr_nil, pr_cons, pr_lst, pr_ints, pr_prs, pr_app, pr_kD, mt_1, mt_2, mt_3, mt_4, mt_5, mt_6, mt_7, rev_lk, max_lk, min_lk, sum_lk, any_lk, all_lk, count_lk, index_lk, pop_lk, eq_D, ne_D, eqD_ll, eqD_tt, eqL_ll, eqS_same, eqS_nil, eqS_ints, eqD_ii, eqD_kk, py_app, py_nil, py_cons, py_ints, py_int, py_bl, py_non, py_kD, py_links, py_prs, py_mapi, pr_mapi, pr_linksT, gt_np, pr_loc, pr_stps, pr_stp, aug_add, aug_sub, ko_app, take_left', len_aa, en, List.length_map, hlt, hz, pr_stps, aug_sub, nat_pred]
        refine ⟨⟨i, m, a, acc ++ [.fin ((i + 1 : Nat) : Int)], _, rfl, h1, h2, by omega, ?_, by rw [← h4]; simp⟩, ?_⟩
        · rw [List.map_append]; rfl
        · show (i : Int).toNat * 2000 + _ < ((i + 1 : Nat) : Int).toNat * 2000 + _
          simp only [Int.toNat_natCast]; omega
      | some q =>
        have h6 := (List.getElem?_eq_some_iff.mp h5).1
        have hlt : ((nx tw m ((i + 1 : Nat) : Int) : Nat) : Int) < (tw.length : Int) := by omega
        have e6 := prs_at h5
        by_cases hq : q.1 < key
        · rw [srch_right h5 hq] at h4
          simp only [bnd_some, bnd_none, opt_some, opt_none, seqF_next, seqF_brk, seqF_cnt, seqF_ret, ts_nil, ts_cons, out_ret, out_next, ite_t, ite_f, bop_and_t, bop_and_f, bop_or_t, bop_or_f, bb_and_t, bb_and_f, bb_or_t, bb_or_f, slot_0, slot_s, e_con, b_con, e_var, b_var, e_glo, b_glo, e_tup, b_tup, e_lst, b_lst, e_dct, b_dct, e_op, b_op, e_neg, b_neg, e_not, b_not, e_bop, b_bop, e_cmp, b_cmp, e_chn, b_chn, e_ifx, b_ifx, e_ix, b_ix, e_sl, b_sl, e_call, b_call, e_bi, b_bi, e_mxd, b_mxd, e_isi, b_isi, e_isl, b_isl, e_lrg, b_lrg, e_mt, b_mt, e_lc, b_lc, e_rev, b_rev, e_gtp, e_lrg1, i_rng3, bop_1, bop_2, bb_1, bb_2, es_nil, es_cons, eo_none, eo_some, if_none, if_some, i_ex, i_rng1, i_rng2, i_enm, q_nm, q_tp, q_sb, setK_some, qs_nil, qs_cons, t_asg, t_aug, t_ex, t_ret, t_retN, t_iff, t_fr, t_whl, t_brk, t_cnt, t_pas, con_none, con_bool, con_int, con_str, neg_int, not_bl, int_int, add_int, sub_int, lt_int, le_int, gt_int, ge_int, eq_int, ne_int, is_nn, is_in, is_bb, isn_nn, isn_in, isn_bb, tr_non, tr_bl, tr_int, ty_non, ty_bl, ty_int, ty_tup, ty_ro, isa_int_int, isa_int_bool, isa_int_list, isa_int_tuple, isa_list_list, isa_list_tuple, isa_tuple_list, isa_tuple_tuple, sq_tup, sq_ro, bi_int_int, bi_int_bl, bi_tuple_tup, bi_min, bi_max, bi_len_tup, bi_len_ro, ix_tup, ix_ro, sl_tup, sl_ro, stays_tup, stays_ro, at_0, at_1, gc_ai, gc_aai, gc_aaai, gc_ab, gc_aab, gc_aaab, gc_an, gc_aan, gc_aaan, gc_same, wipe_nil, wipe_cons, sz_0, sz_1, sz_2, sz_3, sz_4, sz_5, sz_6, sz_7, sz_8, sz_9, sz_10, runDef, runFull, Def.full, startD, List.length_cons, List.length_nil, List.map_cons, List.map_nil, List.append_nil, List.nil_append, List.cons_append, List.drop_nil, List.drop_zero, List.set_cons_zero, List.set_cons_succ, List.replicate, if_true, if_false, Bool.not_true, Bool.not_false, Bool.true_or, Bool.false_or, Option.map_some, Option.map_none, Nat.zero_add, Nat.add_zero, Nat.sub_self, Nat.reduceAdd, Nat.reduceSub, ↓reduceIte, Bool.and_true, Bool.true_and, Bool.false_and, Bool.and_false, Int.cast_ofNat_Int, decide_true, decide_false, Int.reduceEq, Int.reduceLT, Int.reduceLE, Bool.false_eq_true, List.append_assoc, List.length_append, lk_app, lk_app0, lk_sapp, lk_sapp0, lk_z, lk_s, st_app, st_app0, st_sapp, st_sapp0, len_set, set_set, sq_lk, ix_lk, sl_lk, len_lk, tuple_lk, list_lk, list_tup, ty_lk, stays_lk, set_lk, add_lk, app_lk, ext_lk, clear_lk, recv_lk, get2_lk, tr_lk, gp_0, gp_1, gp_2, gp_3, gp_4, gp_5, gp_6, gp_7, gp_8, ko_n, ko_s, ko_p, gq_1, gq_2, gq_3, gq_4, gq_5, gq_6, gq_7, gq_8, gq_9, gq_10, gq_11, gq_12, gq_13, gq_14, gq_15, gq_16, gcR, Nat.lt_irrefl, Nat.not_lt_zero, List.take_succ_cons, List.take_zero, List.take_nil, D.beqL_self, at_2, at_3, ixN, Nat.reduceLT, Nat.reduceLeDiff, Int.reduceToNat, Int.reduceNeg, Int.reduceSub, Int.reduceAdd, Int.reduceMul, sz_lt, Int.zero_add, mod_int, pr_int, pr_bl, pr_non, pr_str, pr_tup, pr_nil, pr_cons, pr_lst, pr_ints, pr_prs, pr_app, pr_kD, mt_1, mt_2, mt_3, mt_4, mt_5, mt_6, mt_7, rev_lk, max_lk, min_lk, sum_lk, any_lk, all_lk, count_lk, index_lk, pop_lk, eq_D, ne_D, eqD_ll, eqD_tt, eqL_ll, eqS_same, eqS_nil, eqS_ints, eqD_ii, eqD_kk, py_app, py_nil, py_cons, py_ints, py_int, py_bl, py_non, py_kD, py_links, py_prs, py_mapi, pr_mapi, pr_linksT, gt_np, pr_loc, pr_stps, pr_stp, aug_add, aug_sub, ko_app, take_left', len_aa, en, List.length_map, hlt, hz, pr_stps, e6, prD, hq]
          refine ⟨⟨i + 1, nx tw m ((i + 1 : Nat) : Int) + 1, _, acc ++ [.right ((i + 1 : Nat) : Int) q.1], _, rfl, rfl, by omega, h3, ?_, by rw [← h4]; simp⟩, ?_⟩
          · rw [List.map_append]; rfl
          · show ((i + 1 : Nat) : Int).toNat * 2000 + (1500 - (((nx tw m ((i + 1 : Nat) : Int) : Nat) : Int) + 1).toNat) < ((i + 1 : Nat) : Int).toNat * 2000 + (1500 - (a + 1).toNat)
            omega
        · rw [srch_down (fun q' hq' => by rw [h5] at hq'; cases hq'; exact hq), show seS tw ((i + 1 : Nat) : Int) m = .stop ((i + 1 : Nat) : Int) q.1 by unfold seS; rw [h5]] at h4
          simp only [bnd_some, bnd_none, opt_some, opt_none, seqF_next, seqF_brk, seqF_cnt, seqF_ret, ts_nil, ts_cons, out_ret, out_next, ite_t, ite_f, bop_and_t, bop_and_f, bop_or_t, bop_or_f, bb_and_t, bb_and_f, bb_or_t, bb_or_f, slot_0, slot_s, e_con, b_con, e_var, b_var, e_glo, b_glo, e_tup, b_tup, e_lst, b_lst, e_dct, b_dct, e_op, b_op, e_neg, b_neg, e_not, b_not, e_bop, b_bop, e_cmp, b_cmp, e_chn, b_chn, e_ifx, b_ifx, e_ix, b_ix, e_sl, b_sl, e_call, b_call, e_bi, b_bi, e_mxd, b_mxd, e_isi, b_isi, e_isl, b_isl, e_lrg, b_lrg, e_mt, b_mt, e_lc, b_lc, e_rev, b_rev, e_gtp, e_lrg1, i_rng3, bop_1, bop_2, bb_1, bb_2, es_nil, es_cons, eo_none, eo_some, if_none, if_some, i_ex, i_rng1, i_rng2, i_enm, q_nm, q_tp, q_sb, setK_some, qs_nil, qs_cons, t_asg, t_aug, t_ex, t_ret, t_retN, t_iff, t_fr, t_whl, t_brk, t_cnt, t_pas, con_none, con_bool, con_int, con_str, neg_int, not_bl, int_int, add_int, sub_int, lt_int, le_int, gt_int, ge_int, eq_int, ne_int, is_nn, is_in, is_bb, isn_nn, isn_in, isn_bb, tr_non, tr_bl, tr_int, ty_non, ty_bl, ty_int, ty_tup, ty_ro, isa_int_int, isa_int_bool, isa_int_list, isa_int_tuple, isa_list_list, isa_list_tuple, isa_tuple_list, isa_tuple_tuple, sq_tup, sq_ro, bi_int_int, bi_int_bl, bi_tuple_tup, bi_min, bi_max, bi_len_tup, bi_len_ro, ix_tup, ix_ro, sl_tup, sl_ro, stays_tup, stays_ro, at_0, at_1, gc_ai, gc_aai, gc_aaai, gc_ab, gc_aab, gc_aaab, gc_an, gc_aan, gc_aaan, gc_same, wipe_nil, wipe_cons, sz_0, sz_1, sz_2, sz_3, sz_4, sz_5, sz_6, sz_7, sz_8, sz_9, sz_10, runDef, runFull, Def.full, startD, List.length_cons, List.length_nil, List.map_cons, List.map_nil, List.append_nil, List.nil_append, List.cons_append, List.drop_nil, List.drop_zero, List.set_cons_zero, List.set_cons_succ, List.replicate, if_true, if_false, Bool.not_true, Bool.not_false, Bool.true_or, Bool.false_or, Option.map_some, Option.map_none, Nat.zero_add, Nat.add_zero, Nat.sub_self, Nat.reduceAdd, Nat.reduceSub, ↓reduceIte, Bool.and_true, Bool.true_and, Bool.false_and, Bool.and_false, Int.cast_ofNat_Int, decide_true, decide_false, Int.reduceEq, Int.reduceLT, Int.reduceLE, Bool.false_eq_true, List.append_assoc, List.length_append, lk_app, lk_app0, lk_sapp, lk_sapp0, lk_z, lk_s, st_app, st_app0, st_sapp, st_sapp0, len_set, set_set, sq_lk, ix_lk, sl_lk, len_lk, tuple_lk, list_lk, list_tup, ty_lk, stays_lk, set_lk, add_lk, app_lk, ext_lk, clear_lk, recv_lk, get2_lk, tr_lk, gp_0, gp_1, gp_2, gp_3, gp_4, gp_5, gp_6, gp_7, gp_8, ko_n, ko_s, ko_p, gq_1, gq_2, gq_3, gq_4, gq_5, gq_6, gq_7, gq_8, gq_9, gq_10, gq_11, gq_12, gq_13, gq_14, gq_15, gq_16, gcR, Nat.lt_irrefl, Nat.not_lt_zero, List.take_succ_cons, List.take_zero, List.take_nil, D.beqL_self, at_2, at_3, ixN, Nat.reduceLT, Nat.reduceLeDiff, Int.reduceToNat, Int.reduceNeg, Int.reduceSub, Int.reduceAdd, Int.reduceMul, sz_lt, Int.zero_add, mod_int, pr_int, pr_bl, pr_non, pr_str, pr_tup, pr_nil, pr_cons, pr_lst, pr_ints, pr_prs, pr_app, pr_kD, mt_1, mt_2, mt_3, mt_4, mt_5, mt_6, mt_7, rev_lk, max_lk, min_lk, sum_lk, any_lk, all_lk, count_lk, index_lk, pop_lk, eq_D, ne_D, eqD_ll, eqD_tt, eqL_ll, eqS_same, eqS_nil, eqS_ints, eqD_ii, eqD_kk, py_app, py_nil, py_cons, py_ints, py_int, py_bl, py_non, py_kD, py_links, py_prs, py_mapi, pr_mapi, pr_linksT, gt_np, pr_loc, pr_stps, pr_stp, aug_add, aug_sub, ko_app, take_left', len_aa, en, List.length_map, hlt, hz, pr_stps, e6, prD, hq, aug_sub, nat_pred]
          refine ⟨⟨i, m, a, acc ++ [.stop ((i + 1 : Nat) : Int) q.1], _, rfl, h1, h2, by omega, ?_, by rw [← h4]; simp⟩, ?_⟩
          · rw [List.map_append]; rfl
          · show (i : Int).toNat * 2000 + _ < ((i + 1 : Nat) : Int).toNat * 2000 + _
            simp only [Int.toNat_natCast]; omega
theorem climbed_right_of (k : Nat) {tw : Tws} {h : Nat} {f key : Int} {S : Store} (hl : tw.length ≤ 1000) (h1 : 1 ≤ h) (hh : h ≤ 1000) :
    ∃ L j, orc defs (k + 2) 9 [.tup (tw.map prD), .int h, .int f, .int key] S = some (.tup [.loc (S.length + j), .int ((crF tw f key (h - 1) 1).2.1 : Nat), .int (((crF tw f key (h - 1) 1).2.2 : Nat) - 1)], S ++ L) ∧ lk L j = some (.lst ((crF tw f key (h - 1) 1).1.map Stp.d)) := by
  rw [orc_at (d := d_climbed_right) rfl]
  simp only [d_climbed_right, b_climbed_right, bnd_some, bnd_none, opt_some, opt_none, seqF_next, seqF_brk, seqF_cnt, seqF_ret, ts_nil, ts_cons, out_ret, out_next, ite_t, ite_f, bop_and_t, bop_and_f, bop_or_t, bop_or_f, bb_and_t, bb_and_f, bb_or_t, bb_or_f, slot_0, slot_s, e_con, b_con, e_var, b_var, e_glo, b_glo, e_tup, b_tup, e_lst, b_lst, e_dct, b_dct, e_op, b_op, e_neg, b_neg, e_not, b_not, e_bop, b_bop, e_cmp, b_cmp, e_chn, b_chn, e_ifx, b_ifx, e_ix, b_ix, e_sl, b_sl, e_call, b_call, e_bi, b_bi, e_mxd, b_mxd, e_isi, b_isi, e_isl, b_isl, e_lrg, b_lrg, e_mt, b_mt, e_lc, b_lc, e_rev, b_rev, e_gtp, e_lrg1, i_rng3, bop_1, bop_2, bb_1, bb_2, es_nil, es_cons, eo_none, eo_some, if_none, if_some, i_ex, i_rng1, i_rng2, i_enm, q_nm, q_tp, q_sb, setK_some, qs_nil, qs_cons, t_asg, t_aug, t_ex, t_ret, t_retN, t_iff, t_fr, t_whl, t_brk, t_cnt, t_pas, con_none, con_bool, con_int, con_str, neg_int, not_bl, int_int, add_int, sub_int, lt_int, le_int, gt_int, ge_int, eq_int, ne_int, is_nn, is_in, is_bb, isn_nn, isn_in, isn_bb, tr_non, tr_bl, tr_int, ty_non, ty_bl, ty_int, ty_tup, ty_ro, isa_int_int, isa_int_bool, isa_int_list, isa_int_tuple, isa_list_list, isa_list_tuple, isa_tuple_list, isa_tuple_tuple, sq_tup, sq_ro, bi_int_int, bi_int_bl, bi_tuple_tup, bi_min, bi_max, bi_len_tup, bi_len_ro, ix_tup, ix_ro, sl_tup, sl_ro, stays_tup, stays_ro, at_0, at_1, gc_ai, gc_aai, gc_aaai, gc_ab, gc_aab, gc_aaab, gc_an, gc_aan, gc_aaan, gc_same, wipe_nil, wipe_cons, sz_0, sz_1, sz_2, sz_3, sz_4, sz_5, sz_6, sz_7, sz_8, sz_9, sz_10, runDef, runFull, Def.full, startD, List.length_cons, List.length_nil, List.map_cons, List.map_nil, List.append_nil, List.nil_append, List.cons_append, List.drop_nil, List.drop_zero, List.set_cons_zero, List.set_cons_succ, List.replicate, if_true, if_false, Bool.not_true, Bool.not_false, Bool.true_or, Bool.false_or, Option.map_some, Option.map_none, Nat.zero_add, Nat.add_zero, Nat.sub_self, Nat.reduceAdd, Nat.reduceSub, ↓reduceIte, Bool.and_true, Bool.true_and, Bool.false_and, Bool.and_false, Int.cast_ofNat_Int, decide_true, decide_false, Int.reduceEq, Int.reduceLT, Int.reduceLE, Bool.false_eq_true, List.append_assoc, List.length_append, lk_app, lk_app0, lk_sapp, lk_sapp0, lk_z, lk_s, st_app, st_app0, st_sapp, st_sapp0, len_set, set_set, sq_lk, ix_lk, sl_lk, len_lk, tuple_lk, list_lk, list_tup, ty_lk, stays_lk, set_lk, add_lk, app_lk, ext_lk, clear_lk, recv_lk, get2_lk, tr_lk, gp_0, gp_1, gp_2, gp_3, gp_4, gp_5, gp_6, gp_7, gp_8, ko_n, ko_s, ko_p, gq_1, gq_2, gq_3, gq_4, gq_5, gq_6, gq_7, gq_8, gq_9, gq_10, gq_11, gq_12, gq_13, gq_14, gq_15, gq_16, gcR, Nat.lt_irrefl, Nat.not_lt_zero, List.take_succ_cons, List.take_zero, List.take_nil, D.beqL_self, at_2, at_3, ixN, Nat.reduceLT, Nat.reduceLeDiff, Int.reduceToNat, Int.reduceNeg, Int.reduceSub, Int.reduceAdd, Int.reduceMul, sz_lt, Int.zero_add, mod_int, pr_int, pr_bl, pr_non, pr_str, pr_tup, pr_nil, pr_cons, pr_lst, pr_ints, pr_prs, pr_app, pr_kD, mt_1, mt_2, mt_3, mt_4, mt_5, mt_6, mt_7, rev_lk, max_lk, min_lk, sum_lk, any_lk, all_lk, count_lk, index_lk, pop_lk, eq_D, ne_D, eqD_ll, eqD_tt, eqL_ll, eqS_same, eqS_nil, eqS_ints, eqD_ii, eqD_kk, py_app, py_nil, py_cons, py_ints, py_int, py_bl, py_non, py_kD, py_links, py_prs, py_mapi, pr_mapi, pr_linksT, gt_np, pr_loc, pr_stps, pr_stp, aug_add, aug_sub, ko_app, take_left', len_aa]
  generalize hX : whlD _ _ _ _ _ = X
  have hb := (crF_len (tw := tw) (f := f) (key := key) (h - 1) 1).1
  have key := whl_X hX (fun σ T => ∃ (i : Nat) (acc : List Stp) (x y : Option D), σ = [some (.tup (tw.map prD)), some (.int h), some (.int f), some (.int key), some (.loc S.length), some (.int i), x, y] ∧ 1 ≤ i ∧ i ≤ h ∧ T = S ++ [.lst (acc.map Stp.d)] ∧ acc ++ (crF tw f key (h - i) i).1 = (crF tw f key (h - 1) 1).1 ∧ (crF tw f key (h - i) i).2 = (crF tw f key (h - 1) 1).2)
    (fun σ T => match σ with | [_, _, _, _, _, some (.int i), _, _] => h - i.toNat | _ => 0)
    (fun X => (∃ L j, X = some (.ret (.tup [.loc (S.length + j), .int ((crF tw f key (h - 1) 1).2.1 : Nat), .int (((crF tw f key (h - 1) 1).2.2 : Nat) - 1)]), S ++ L) ∧ lk L j = some (.lst ((crF tw f key (h - 1) 1).1.map Stp.d))) ∨
      ∃ (acc : List Stp) (x y : Option D), X = some (.next [some (.tup (tw.map prD)), some (.int h), some (.int f), some (.int key), some (.loc S.length), some (.int h), x, y], S ++ [.lst (acc.map Stp.d)]) ∧ acc = (crF tw f key (h - 1) 1).1 ∧ (h, pbN f h tw) = (crF tw f key (h - 1) 1).2)
    ⟨1, [], _, _, rfl, Nat.le_refl _, h1, rfl, rfl, rfl⟩ ?_ ?_
  · rcases key with ⟨L, j, rfl, e⟩ | ⟨acc, x, y, rfl, e1, e2⟩
    · exact ⟨L, j, by simp only [bnd_some, bnd_none, opt_some, opt_none, seqF_next, seqF_brk, seqF_cnt, seqF_ret, ts_nil, ts_cons, out_ret, out_next, ite_t, ite_f, bop_and_t, bop_and_f, bop_or_t, bop_or_f, bb_and_t, bb_and_f, bb_or_t, bb_or_f, slot_0, slot_s, e_con, b_con, e_var, b_var, e_glo, b_glo, e_tup, b_tup, e_lst, b_lst, e_dct, b_dct, e_op, b_op, e_neg, b_neg, e_not, b_not, e_bop, b_bop, e_cmp, b_cmp, e_chn, b_chn, e_ifx, b_ifx, e_ix, b_ix, e_sl, b_sl, e_call, b_call, e_bi, b_bi, e_mxd, b_mxd, e_isi, b_isi, e_isl, b_isl, e_lrg, b_lrg, e_mt, b_mt, e_lc, b_lc, e_rev, b_rev, e_gtp, e_lrg1, i_rng3, bop_1, bop_2, bb_1, bb_2, es_nil, es_cons, eo_none, eo_some, if_none, if_some, i_ex, i_rng1, i_rng2, i_enm, q_nm, q_tp, q_sb, setK_some, qs_nil, qs_cons, t_asg, t_aug, t_ex, t_ret, t_retN, t_iff, t_fr, t_whl, t_brk, t_cnt, t_pas, con_none, con_bool, con_int, con_str, neg_int, not_bl, int_int, add_int, sub_int, lt_int, le_int, gt_int, ge_int, eq_int, ne_int, is_nn, is_in, is_bb, isn_nn, isn_in, isn_bb, tr_non, tr_bl, tr_int, ty_non, ty_bl, ty_int, ty_tup, ty_ro, isa_int_int, isa_int_bool, isa_int_list, isa_int_tuple, isa_list_list, isa_list_tuple, isa_tuple_list, isa_tuple_tuple, sq_tup, sq_ro, bi_int_int, bi_int_bl, bi_tuple_tup, bi_min, bi_max, bi_len_tup, bi_len_ro, ix_tup, ix_ro, sl_tup, sl_ro, stays_tup, stays_ro, at_0, at_1, gc_ai, gc_aai, gc_aaai, gc_ab, gc_aab, gc_aaab, gc_an, gc_aan, gc_aaan, gc_same, wipe_nil, wipe_cons, sz_0, sz_1, sz_2, sz_3, sz_4, sz_5, sz_6, sz_7, sz_8, sz_9, sz_10, runDef, runFull, Def.full, startD, List.length_cons, List.length_nil, List.map_cons, List.map_nil, List.append_nil, List.nil_append, List.cons_append, List.drop_nil, List.drop_zero, List.set_cons_zero, List.set_cons_succ, List.replicate, if_true, if_false, Bool.not_true, Bool.not_false, Bool.true_or, Bool.false_or, Option.map_some, Option.map_none, Nat.zero_add, Nat.add_zero, Nat.sub_self, Nat.reduceAdd, Nat.reduceSub, ↓reduceIte, Bool.and_true, Bool.true_and, Bool.false_and, Bool.and_false, Int.cast_ofNat_Int, decide_true, decide_false, Int.reduceEq, Int.reduceLT, Int.reduceLE, Bool.false_eq_true, List.append_assoc, List.length_append, lk_app, lk_app0, lk_sapp, lk_sapp0, lk_z, lk_s, st_app, st_app0, st_sapp, st_sapp0, len_set, set_set, sq_lk, ix_lk, sl_lk, len_lk, tuple_lk, list_lk, list_tup, ty_lk, stays_lk, set_lk, add_lk, app_lk, ext_lk, clear_lk, recv_lk, get2_lk, tr_lk, gp_0, gp_1, gp_2, gp_3, gp_4, gp_5, gp_6, gp_7, gp_8, ko_n, ko_s, ko_p, gq_1, gq_2, gq_3, gq_4, gq_5, gq_6, gq_7, gq_8, gq_9, gq_10, gq_11, gq_12, gq_13, gq_14, gq_15, gq_16, gcR, Nat.lt_irrefl, Nat.not_lt_zero, List.take_succ_cons, List.take_zero, List.take_nil, D.beqL_self, at_2, at_3, ixN, Nat.reduceLT, Nat.reduceLeDiff, Int.reduceToNat, Int.reduceNeg, Int.reduceSub, Int.reduceAdd, Int.reduceMul, sz_lt, Int.zero_add, mod_int, pr_int, pr_bl, pr_non, pr_str, pr_tup, pr_nil, pr_cons, pr_lst, pr_ints, pr_prs, pr_app, pr_kD, mt_1, mt_2, mt_3, mt_4, mt_5, mt_6, mt_7, rev_lk, max_lk, min_lk, sum_lk, any_lk, all_lk, count_lk, index_lk, pop_lk, eq_D, ne_D, eqD_ll, eqD_tt, eqL_ll, eqS_same, eqS_nil, eqS_ints, eqD_ii, eqD_kk, py_app, py_nil, py_cons, py_ints, py_int, py_bl, py_non, py_kD, py_links, py_prs, py_mapi, pr_mapi, pr_linksT, gt_np, pr_loc, pr_stps, pr_stp, aug_add, aug_sub, ko_app, take_left', len_aa], e⟩
    · refine ⟨[.lst (acc.map Stp.d)], 0, ?_, by rw [e1]; rfl⟩
      rw [← e2]
      simp only [bnd_some, bnd_none, opt_some, opt_none, seqF_next, seqF_brk, seqF_cnt, seqF_ret, ts_nil, ts_cons, out_ret, out_next, ite_t, ite_f, bop_and_t, bop_and_f, bop_or_t, bop_or_f, bb_and_t, bb_and_f, bb_or_t, bb_or_f, slot_0, slot_s, e_con, b_con, e_var, b_var, e_glo, b_glo, e_tup, b_tup, e_lst, b_lst, e_dct, b_dct, e_op, b_op, e_neg, b_neg, e_not, b_not, e_bop, b_bop, e_cmp, b_cmp, e_chn, b_chn, e_ifx, b_ifx, e_ix, b_ix, e_sl, b_sl, e_call, b_call, e_bi, b_bi, e_mxd, b_mxd, e_isi, b_isi, e_isl, b_isl, e_lrg, b_lrg, e_mt, b_mt, e_lc, b_lc, e_rev, b_rev, e_gtp, e_lrg1, i_rng3, bop_1, bop_2, bb_1, bb_2, es_nil, es_cons, eo_none, eo_some, if_none, if_some, i_ex, i_rng1, i_rng2, i_enm, q_nm, q_tp, q_sb, setK_some, qs_nil, qs_cons, t_asg, t_aug, t_ex, t_ret, t_retN, t_iff, t_fr, t_whl, t_brk, t_cnt, t_pas, con_none, con_bool, con_int, con_str, neg_int, not_bl, int_int, add_int, sub_int, lt_int, le_int, gt_int, ge_int, eq_int, ne_int, is_nn, is_in, is_bb, isn_nn, isn_in, isn_bb, tr_non, tr_bl, tr_int, ty_non, ty_bl, ty_int, ty_tup, ty_ro, isa_int_int, isa_int_bool, isa_int_list, isa_int_tuple, isa_list_list, isa_list_tuple, isa_tuple_list, isa_tuple_tuple, sq_tup, sq_ro, bi_int_int, bi_int_bl, bi_tuple_tup, bi_min, bi_max, bi_len_tup, bi_len_ro, ix_tup, ix_ro, sl_tup, sl_ro, stays_tup, stays_ro, at_0, at_1, gc_ai, gc_aai, gc_aaai, gc_ab, gc_aab, gc_aaab, gc_an, gc_aan, gc_aaan, gc_same, wipe_nil, wipe_cons, sz_0, sz_1, sz_2, sz_3, sz_4, sz_5, sz_6, sz_7, sz_8, sz_9, sz_10, runDef, runFull, Def.full, startD, List.length_cons, List.length_nil, List.map_cons, List.map_nil, List.append_nil, List.nil_append, List.cons_append, List.drop_nil, List.drop_zero, List.set_cons_zero, List.set_cons_succ, List.replicate, if_true, if_false, Bool.not_true, Bool.not_false, Bool.true_or, Bool.false_or, Option.map_some, Option.map_none, Nat.zero_add, Nat.add_zero, Nat.sub_self, Nat.reduceAdd, Nat.reduceSub, ↓reduceIte, Bool.and_true, Bool.true_and, Bool.false_and, Bool.and_false, Int.cast_ofNat_Int, decide_true, decide_false, Int.reduceEq, Int.reduceLT, Int.reduceLE, Bool.false_eq_true, List.append_assoc, List.length_append, lk_app, lk_app0, lk_sapp, lk_sapp0, lk_z, lk_s, st_app, st_app0, st_sapp, st_sapp0, len_set, set_set, sq_lk, ix_lk, sl_lk, len_lk, tuple_lk, list_lk, list_tup, ty_lk, stays_lk, set_lk, add_lk, app_lk, ext_lk, clear_lk, recv_lk, get2_lk, tr_lk, gp_0, gp_1, gp_2, gp_3, gp_4, gp_5, gp_6, gp_7, gp_8, ko_n, ko_s, ko_p, gq_1, gq_2, gq_3, gq_4, gq_5, gq_6, gq_7, gq_8, gq_9, gq_10, gq_11, gq_12, gq_13, gq_14, gq_15, gq_16, gcR, Nat.lt_irrefl, Nat.not_lt_zero, List.take_succ_cons, List.take_zero, List.take_nil, D.beqL_self, at_2, at_3, ixN, Nat.reduceLT, Nat.reduceLeDiff, Int.reduceToNat, Int.reduceNeg, Int.reduceSub, Int.reduceAdd, Int.reduceMul, sz_lt, Int.zero_add, mod_int, pr_int, pr_bl, pr_non, pr_str, pr_tup, pr_nil, pr_cons, pr_lst, pr_ints, pr_prs, pr_app, pr_kD, mt_1, mt_2, mt_3, mt_4, mt_5, mt_6, mt_7, rev_lk, max_lk, min_lk, sum_lk, any_lk, all_lk, count_lk, index_lk, pop_lk, eq_D, ne_D, eqD_ll, eqD_tt, eqL_ll, eqS_same, eqS_nil, eqS_ints, eqD_ii, eqD_kk, py_app, py_nil, py_cons, py_ints, py_int, py_bl, py_non, py_kD, py_links, py_prs, py_mapi, pr_mapi, pr_linksT, gt_np, pr_loc, pr_stps, pr_stp, aug_add, aug_sub, ko_app, take_left', len_aa, place_below_of k hl]
  · show h - (1 : Int).toNat < turns
    have : turns = 2 ^ 40 := rfl
    omega
  · clear hX X
    rintro σ T ⟨i, acc, x, y, rfl, i1, i2, rfl, e1, e2⟩
    by_cases hi : i = h
    · subst hi
      have hn : ¬ (i : Int) < (i : Int) := by omega
      rw [Nat.sub_self, crF] at e1 e2
      exact ⟨false, _, by simp only [bnd_some, bnd_none, opt_some, opt_none, seqF_next, seqF_brk, seqF_cnt, seqF_ret, ts_nil, ts_cons, out_ret, out_next, ite_t, ite_f, bop_and_t, bop_and_f, bop_or_t, bop_or_f, bb_and_t, bb_and_f, bb_or_t, bb_or_f, slot_0, slot_s, e_con, b_con, e_var, b_var, e_glo, b_glo, e_tup, b_tup, e_lst, b_lst, e_dct, b_dct, e_op, b_op, e_neg, b_neg, e_not, b_not, e_bop, b_bop, e_cmp, b_cmp, e_chn, b_chn, e_ifx, b_ifx, e_ix, b_ix, e_sl, b_sl, e_call, b_call, e_bi, b_bi, e_mxd, b_mxd, e_isi, b_isi, e_isl, b_isl, e_lrg, b_lrg, e_mt, b_mt, e_lc, b_lc, e_rev, b_rev, e_gtp, e_lrg1, i_rng3, bop_1, bop_2, bb_1, bb_2, es_nil, es_cons, eo_none, eo_some, if_none, if_some, i_ex, i_rng1, i_rng2, i_enm, q_nm, q_tp, q_sb, setK_some, qs_nil, qs_cons, t_asg, t_aug, t_ex, t_ret, t_retN, t_iff, t_fr, t_whl, t_brk, t_cnt, t_pas, con_none, con_bool, con_int, con_str, neg_int, not_bl, int_int, add_int, sub_int, lt_int, le_int, gt_int, ge_int, eq_int, ne_int, is_nn, is_in, is_bb, isn_nn, isn_in, isn_bb, tr_non, tr_bl, tr_int, ty_non, ty_bl, ty_int, ty_tup, ty_ro, isa_int_int, isa_int_bool, isa_int_list, isa_int_tuple, isa_list_list, isa_list_tuple, isa_tuple_list, isa_tuple_tuple, sq_tup, sq_ro, bi_int_int, bi_int_bl, bi_tuple_tup, bi_min, bi_max, bi_len_tup, bi_len_ro, ix_tup, ix_ro, sl_tup, sl_ro, stays_tup, stays_ro, at_0, at_1, gc_ai, gc_aai, gc_aaai, gc_ab, gc_aab, gc_aaab, gc_an, gc_aan, gc_aaan, gc_same, wipe_nil, wipe_cons, sz_0, sz_1, sz_2, sz_3, sz_4, sz_5, sz_6, sz_7, sz_8, sz_9, sz_10, runDef, runFull, Def.full, startD, List.length_cons, List.length_nil, List.map_cons, List.map_nil, List.append_nil, List.nil_append, List.cons_append, List.drop_nil, List.drop_zero, List.set_cons_zero, List.set_cons_succ, List.replicate, if_true, if_false, Bool.not_true, Bool.not_false, Bool.true_or, Bool.false_or, Option.map_some, Option.map_none, Nat.zero_add, Nat.add_zero, Nat.sub_self, Nat.reduceAdd, Nat.reduceSub, ↓reduceIte, Bool.and_true, Bool.true_and, Bool.false_and, Bool.and_false, Int.cast_ofNat_Int, decide_true, decide_false, Int.reduceEq, Int.reduceLT, Int.reduceLE, Bool.false_eq_true, List.append_assoc, List.length_append, lk_app, lk_app0, lk_sapp, lk_sapp0, lk_z, lk_s, st_app, st_app0, st_sapp, st_sapp0, len_set, set_set, sq_lk, ix_lk, sl_lk, len_lk, tuple_lk, list_lk, list_tup, ty_lk, stays_lk, set_lk, add_lk, app_lk, ext_lk, clear_lk, recv_lk, get2_lk, tr_lk, gp_0, gp_1, gp_2, gp_3, gp_4, gp_5, gp_6, gp_7, gp_8, ko_n, ko_s, ko_p, gq_1, gq_2, gq_3, gq_4, gq_5, gq_6, gq_7, gq_8, gq_9, gq_10, gq_11, gq_12, gq_13, gq_14, gq_15, gq_16, gcR, Nat.lt_irrefl, Nat.not_lt_zero, List.take_succ_cons, List.take_zero, List.take_nil, D.beqL_self, at_2, at_3, ixN, Nat.reduceLT, Nat.reduceLeDiff, Int.reduceToNat, Int.reduceNeg, Int.reduceSub, Int.reduceAdd, Int.reduceMul, sz_lt, Int.zero_add, mod_int, pr_int, pr_bl, pr_non, pr_str, pr_tup, pr_nil, pr_cons, pr_lst, pr_ints, pr_prs, pr_app, pr_kD, mt_1, mt_2, mt_3, mt_4, mt_5, mt_6, mt_7, rev_lk, max_lk, min_lk, sum_lk, any_lk, all_lk, count_lk, index_lk, pop_lk, eq_D, ne_D, eqD_ll, eqD_tt, eqL_ll, eqS_same, eqS_nil, eqS_ints, eqD_ii, eqD_kk, py_app, py_nil, py_cons, py_ints, py_int, py_bl, py_non, py_kD, py_links, py_prs, py_mapi, pr_mapi, pr_linksT, gt_np, pr_loc, pr_stps, pr_stp, aug_add, aug_sub, ko_app, take_left', len_aa, hn], fun _ => .inr ⟨acc, x, y, rfl, by rw [← e1, List.append_nil], e2⟩, fun z => nomatch z⟩
    · have hp : (i : Int) < (h : Int) := by omega
      refine ⟨true, S ++ [.lst (acc.map Stp.d)], by simp only [bnd_some, bnd_none, opt_some, opt_none, seqF_next, seqF_brk, seqF_cnt, seqF_ret, ts_nil, ts_cons, out_ret, out_next, ite_t, ite_f, bop_and_t, bop_and_f, bop_or_t, bop_or_f, bb_and_t, bb_and_f, bb_or_t, bb_or_f, slot_0, slot_s, e_con, b_con, e_var, b_var, e_glo, b_glo, e_tup, b_tup, e_lst, b_lst, e_dct, b_dct, e_op, b_op, e_neg, b_neg, e_not, b_not, e_bop, b_bop, e_cmp, b_cmp, e_chn, b_chn, e_ifx, b_ifx, e_ix, b_ix, e_sl, b_sl, e_call, b_call, e_bi, b_bi, e_mxd, b_mxd, e_isi, b_isi, e_isl, b_isl, e_lrg, b_lrg, e_mt, b_mt, e_lc, b_lc, e_rev, b_rev, e_gtp, e_lrg1, i_rng3, bop_1, bop_2, bb_1, bb_2, es_nil, es_cons, eo_none, eo_some, if_none, if_some, i_ex, i_rng1, i_rng2, i_enm, q_nm, q_tp, q_sb, setK_some, qs_nil, qs_cons, t_asg, t_aug, t_ex, t_ret, t_retN, t_iff, t_fr, t_whl, t_brk, t_cnt, t_pas, con_none, con_bool, con_int, con_str, neg_int, not_bl, int_int, add_int, sub_int, lt_int, le_int, gt_int, ge_int, eq_int, ne_int, is_nn, is_in, is_bb, isn_nn, isn_in, isn_bb, tr_non, tr_bl, tr_int, ty_non, ty_bl, ty_int, ty_tup, ty_ro, isa_int_int, isa_int_bool, isa_int_list, isa_int_tuple, isa_list_list, isa_list_tuple, isa_tuple_list, isa_tuple_tuple, sq_tup, sq_ro, bi_int_int, bi_int_bl, bi_tuple_tup, bi_min, bi_max, bi_len_tup, bi_len_ro, ix_tup, ix_ro, sl_tup, sl_ro, stays_tup, stays_ro, at_0, at_1, gc_ai, gc_aai, gc_aaai, gc_ab, gc_aab, gc_aaab, gc_an, gc_aan, gc_aaan, gc_same, wipe_nil, wipe_cons, sz_0, sz_1, sz_2, sz_3, sz_4, sz_5, sz_6, sz_7, sz_8, sz_9, sz_10, runDef, runFull, Def.full, startD, List.length_cons, List.length_nil, List.map_cons, List.map_nil, List.append_nil, List.nil_append, List.cons_append, List.drop_nil, List.drop_zero, List.set_cons_zero, List.set_cons_succ, List.replicate, if_true, if_false, Bool.not_true, Bool.not_false, Bool.true_or, Bool.false_or, Option.map_some, Option.map_none, Nat.zero_add, Nat.add_zero, Nat.sub_self, Nat.reduceAdd, Nat.reduceSub, ↓reduceIte, Bool.and_true, Bool.true_and, Bool.false_and, Bool.and_false, Int.cast_ofNat_Int, decide_true, decide_false, Int.reduceEq, Int.reduceLT, Int.reduceLE, Bool.false_eq_true, List.append_assoc, List.length_append, lk_app, lk_app0, lk_sapp, lk_sapp0, lk_z, lk_s, st_app, st_app0, st_sapp, st_sapp0, len_set, set_set, sq_lk, ix_lk, sl_lk, len_lk, tuple_lk, list_lk, list_tup, ty_lk, stays_lk, set_lk, add_lk, app_lk, ext_lk, clear_lk, recv_lk, get2_lk, tr_lk, gp_0, gp_1, gp_2, gp_3, gp_4, gp_5, gp_6, gp_7, gp_8, ko_n, ko_s, ko_p, gq_1, gq_2, gq_3, gq_4, gq_5, gq_6, gq_7, gq_8, gq_9, gq_10, gq_11, gq_12, gq_13, gq_14, gq_15, gq_16, gcR, Nat.lt_irrefl, Nat.not_lt_zero, List.take_succ_cons, List.take_zero, List.take_nil, D.beqL_self, at_2, at_3, ixN, Nat.reduceLT, Nat.reduceLeDiff, Int.reduceToNat, Int.reduceNeg, Int.reduceSub, Int.reduceAdd, Int.reduceMul, sz_lt, Int.zero_add, mod_int, pr_int, pr_bl, pr_non, pr_str, pr_tup, pr_nil, pr_cons, pr_lst, pr_ints, pr_prs, pr_app, pr_kD, mt_1, mt_2, mt_3, mt_4, mt_5, mt_6, mt_7, rev_lk, max_lk, min_lk, sum_lk, any_lk, all_lk, count_lk, index_lk, pop_lk, eq_D, ne_D, eqD_ll, eqD_tt, eqL_ll, eqS_same, eqS_nil, eqS_ints, eqD_ii, eqD_kk, py_app, py_nil, py_cons, py_ints, py_int, py_bl, py_non, py_kD, py_links, py_prs, py_mapi, pr_mapi, pr_linksT, gt_np, pr_loc, pr_stps, pr_stp, aug_add, aug_sub, ko_app, take_left', len_aa, hp], (fun z => nomatch z), fun _ => ?_⟩
      have hj : h - i = (h - (i + 1)) + 1 := by omega
      have e1l := congrArg List.length e1
      rw [List.length_append] at e1l
      have hz : acc.length < sizeLine := lt_size (by omega)
      have hz1 : acc.length + 1 ≤ sizeLine := le_size (by omega)
      have hpl := pbN_le f i tw
      have ep : ∀ T, _ := fun T => place_below_of k (f := f) (l := i) (S := T) hl
      have en : ∀ T, _ := fun T => next_at_of k (a := ((pbN f i tw : Nat) : Int) - 1) (n := pbN f i tw) (l := i) (S := T) (by omega) hpl hl
      have hne := nx_le hpl (i : Int)
      rw [hj, crF] at e1 e2
      cases h5 : tw[nx tw (pbN f i tw) i]? with
      | none =>
        rw [h5] at e1 e2
        have h6 := List.getElem?_eq_none_iff.mp h5
        have h7 : ((nx tw (pbN f i tw) i : Nat) : Int) = (tw.length : Int) := by omega
        simp only [bnd_some, bnd_none, opt_some, opt_none, seqF_next, seqF_brk, seqF_cnt, seqF_ret, ts_nil, ts_cons, out_ret, out_next, ite_t, ite_f, bop_and_t, bop_and_f, bop_or_t, bop_or_f, bb_and_t, bb_and_f, bb_or_t, bb_or_f, slot_0, slot_s, e_con, b_con, e_var, b_var, e_glo, b_glo, e_tup, b_tup, e_lst, b_lst, e_dct, b_dct, e_op, b_op, e_neg, b_neg, e_not, b_not, e_bop, b_bop, e_cmp, b_cmp, e_chn, b_chn, e_ifx, b_ifx, e_ix, b_ix, e_sl, b_sl, e_call, b_call, e_bi, b_bi, e_mxd, b_mxd, e_isi, b_isi, e_isl, b_isl, e_lrg, b_lrg, e_mt, b_mt, e_lc, b_lc, e_rev, b_rev, e_gtp, e_lrg1, i_rng3, bop_1, bop_2, bb_1, bb_2, es_nil, es_cons, eo_none, eo_some, if_none, if_some, i_ex, i_rng1, i_rng2, i_enm, q_nm, q_tp, q_sb, setK_some, qs_nil, qs_cons, t_asg, t_aug, t_ex, t_ret, t_retN, t_iff, t_fr, t_whl, t_brk, t_cnt, t_pas, con_none, con_bool, con_int, con_str, neg_int, not_bl, int_int, add_int, sub_int, lt_int, le_int, gt_int, ge_int, eq_int, ne_int, is_nn, is_in, is_bb, isn_nn, isn_in, isn_bb, tr_non, tr_bl, tr_int, ty_non, ty_bl, ty_int, ty_tup, ty_ro, isa_int_int, isa_int_bool, isa_int_list, isa_int_tuple, isa_list_list, isa_list_tuple, isa_tuple_list, isa_tuple_tuple, sq_tup, sq_ro, bi_int_int, bi_int_bl, bi_tuple_tup, bi_min, bi_max, bi_len_tup, bi_len_ro, ix_tup, ix_ro, sl_tup, sl_ro, stays_tup, stays_ro, at_0, at_1, gc_ai, gc_aai, gc_aaai, gc_ab, gc_aab, gc_aaab, gc_an, gc_aan, gc_aaan, gc_same, wipe_nil, wipe_cons, sz_0, sz_1, sz_2, sz_3, sz_4, sz_5, sz_6, sz_7, sz_8, sz_9, sz_10, runDef, runFull, Def.full, startD, List.length_cons, List.length_nil, List.map_cons, List.map_nil, List.append_nil, List.nil_append, List.cons_append, List.drop_nil, List.drop_zero, List.set_cons_zero, List.set_cons_succ, List.replicate, if_true, if_false, Bool.not_true, Bool.not_false, Bool.true_or, Bool.false_or, Option.map_some, Option.map_none, Nat.zero_add, Nat.add_zero, Nat.sub_self, Nat.reduceAdd, Nat.reduceSub, ↓reduceIte, Bool.and_true, Bool.true_and, Bool.false_and, Bool.and_false, Int.cast_ofNat_Int, decide_true, decide_false, Int.reduceEq, Int.reduceLT, Int.reduceLE, Bool.false_eq_true, List.append_assoc, List.length_append, lk_app, lk_app0, lk_sapp, lk_sapp0, lk_z, lk_s, st_app, st_app0, st_sapp, st_sapp0, len_set, set_set, sq_lk, ix_lk, sl_lk, len_lk, tuple_lk, list_lk, list_tup, ty_lk, stays_lk, set_lk, add_lk, app_lk, ext_lk, clear_lk, recv_lk, get2_lk, tr_lk, gp_0, gp_1, gp_2, gp_3, gp_4, gp_5, gp_6, gp_7, gp_8, ko_n, ko_s, ko_p, gq_1, gq_2, gq_3, gq_4, gq_5, gq_6, gq_7, gq_8, gq_9, gq_10, gq_11, gq_12, gq_13, gq_14, gq_15, gq_16, gcR, Nat.lt_irrefl, Nat.not_lt_zero, List.take_succ_cons, List.take_zero, List.take_nil, D.beqL_self, at_2, at_3, ixN, Nat.reduceLT, Nat.reduceLeDiff, Int.reduceToNat, Int.reduceNeg, Int.reduceSub, Int.reduceAdd, Int.reduceMul, sz_lt, Int.zero_add, mod_int, pr_int, pr_bl, pr_non, pr_str, pr_tup, pr_nil, pr_cons, pr_lst, pr_ints, pr_prs, pr_app, pr_kD, mt_1, mt_2, mt_3, mt_4, mt_5, mt_6, mt_7, rev_lk, max_lk, min_lk, sum_lk, any_lk, all_lk, count_lk, index_lk, pop_lk, eq_D, ne_D, eqD_ll, eqD_tt, eqL_ll, eqS_same, eqS_nil, eqS_ints, eqD_ii, eqD_kk, py_app, py_nil, py_cons, py_ints, py_int, py_bl, py_non, py_kD, py_links, py_prs, py_mapi, pr_mapi, pr_linksT, gt_np, pr_loc, pr_stps, pr_stp, aug_add, aug_sub, ko_app, take_left', len_aa, ep, en, h7, List.length_map, hz1]
        refine .inl ⟨[.lst (acc.map Stp.d), .lst [Stp.d (.edge i)], .lst (acc.map Stp.d ++ [Stp.d (.edge i)])], 2, ?_, ?_⟩
        · rw [← e2]; rfl
        · rw [← e1, List.map_append]; rfl
      | some q =>
        rw [h5] at e1 e2
        have h6 := (List.getElem?_eq_some_iff.mp h5).1
        have h7 : ¬ ((nx tw (pbN f i tw) i : Nat) : Int) = (tw.length : Int) := by omega
        have e6 := prs_at h5
        dsimp only at e1 e2
        by_cases hq : key ≤ q.1
        · rw [if_pos hq] at e1 e2
          simp only [bnd_some, bnd_none, opt_some, opt_none, seqF_next, seqF_brk, seqF_cnt, seqF_ret, ts_nil, ts_cons, out_ret, out_next, ite_t, ite_f, bop_and_t, bop_and_f, bop_or_t, bop_or_f, bb_and_t, bb_and_f, bb_or_t, bb_or_f, slot_0, slot_s, e_con, b_con, e_var, b_var, e_glo, b_glo, e_tup, b_tup, e_lst, b_lst, e_dct, b_dct, e_op, b_op, e_neg, b_neg, e_not, b_not, e_bop, b_bop, e_cmp, b_cmp, e_chn, b_chn, e_ifx, b_ifx, e_ix, b_ix, e_sl, b_sl, e_call, b_call, e_bi, b_bi, e_mxd, b_mxd, e_isi, b_isi, e_isl, b_isl, e_lrg, b_lrg, e_mt, b_mt, e_lc, b_lc, e_rev, b_rev, e_gtp, e_lrg1, i_rng3, bop_1, bop_2, bb_1, bb_2, es_nil, es_cons, eo_none, eo_some, if_none, if_some, i_ex, i_rng1, i_rng2, i_enm, q_nm, q_tp, q_sb, setK_some, qs_nil, qs_cons, t_asg, t_aug, t_ex, t_ret, t_retN, t_iff, t_fr, t_whl, t_brk, t_cnt, t_pas, con_none, con_bool, con_int, con_str, neg_int, not_bl, int_int, add_int, sub_int, lt_int, le_int, gt_int, ge_int, eq_int, ne_int, is_nn, is_in, is_bb, isn_nn, isn_in, isn_bb, tr_non, tr_bl, tr_int, ty_non, ty_bl, ty_int, ty_tup, ty_ro, isa_int_int, isa_int_bool, isa_int_list, isa_int_tuple, isa_list_list, isa_list_tuple, isa_tuple_list, isa_tuple_tuple, sq_tup, sq_ro, bi_int_int, bi_int_bl, bi_tuple_tup, bi_min, bi_max, bi_len_tup, bi_len_ro, ix_tup, ix_ro, sl_tup, sl_ro, stays_tup, stays_ro, at_0, at_1, gc_ai, gc_aai, gc_aaai, gc_ab, gc_aab, gc_aaab, gc_an, gc_aan, gc_aaan, gc_same, wipe_nil, wipe_cons, sz_0, sz_1, sz_2, sz_3, sz_4, sz_5, sz_6, sz_7, sz_8, sz_9, sz_10, runDef, runFull, Def.full, startD, List.length_cons, List.length_nil, List.map_cons, List.map_nil, List.append_nil, List.nil_append, List.cons_append, List.drop_nil, List.drop_zero, List.set_cons_zero, List.set_cons_succ, List.replicate, if_true, if_false, Bool.not_true, Bool.not_false, Bool.true_or, Bool.false_or, Option.map_some, Option.map_none, Nat.zero_add, Nat.add_zero, Nat.sub_self, Nat.reduceAdd, Nat.reduceSub, ↓reduceIte, Bool.and_true, Bool.true_and, Bool.false_and, Bool.and_false, Int.cast_ofNat_Int, decide_true, decide_false, Int.reduceEq, Int.reduceLT, Int.reduceLE, Bool.false_eq_true, List.append_assoc, List.length_append, lk_app, lk_app0, lk_sapp, lk_sapp0, lk_z, lk_s, st_app, st_app0, st_sapp, st_sapp0, len_set, set_set, sq_lk, ix_lk, sl_lk, len_lk, tuple_lk, list_lk, list_tup, ty_lk, stays_lk, set_lk, add_lk, app_lk, ext_lk, clear_lk, recv_lk, get2_lk, tr_lk, gp_0, gp_1, gp_2, gp_3, gp_4, gp_5, gp_6, gp_7, gp_8, ko_n, ko_s, ko_p, gq_1, gq_2, gq_3, gq_4, gq_5, gq_6, gq_7, gq_8, gq_9, gq_10, gq_11, gq_12, gq_13, gq_14, gq_15, gq_16, gcR, Nat.lt_irrefl, Nat.not_lt_zero, List.take_succ_cons, List.take_zero, List.take_nil, D.beqL_self, at_2, at_3, ixN, Nat.reduceLT, Nat.reduceLeDiff, Int.reduceToNat, Int.reduceNeg, Int.reduceSub, Int.reduceAdd, Int.reduceMul, sz_lt, Int.zero_add, mod_int, pr_int, pr_bl, pr_non, pr_str, pr_tup, pr_nil, pr_cons, pr_lst, pr_ints, pr_prs, pr_app, pr_kD, mt_1, mt_2, mt_3, mt_4, mt_5, mt_6, mt_7, rev_lk, max_lk, min_lk, sum_lk, any_lk, all_lk, count_lk, index_lk, pop_lk, eq_D, ne_D, eqD_ll, eqD_tt, eqL_ll, eqS_same, eqS_nil, eqS_ints, eqD_ii, eqD_kk, py_app, py_nil, py_cons, py_ints, py_int, py_bl, py_non, py_kD, py_links, py_prs, py_mapi, pr_mapi, pr_linksT, gt_np, pr_loc, pr_stps, pr_stp, aug_add, aug_sub, ko_app, take_left', len_aa, ep, en, h7, List.length_map, hz1, e6, prD, hq]
          refine .inl ⟨[.lst (acc.map Stp.d), .lst [Stp.d (.turn i q.1)], .lst (acc.map Stp.d ++ [Stp.d (.turn i q.1)])], 2, ?_, ?_⟩
          · rw [← e2]; rfl
          · rw [← e1, List.map_append]; rfl
        · rw [if_neg hq] at e1 e2
          simp only [bnd_some, bnd_none, opt_some, opt_none, seqF_next, seqF_brk, seqF_cnt, seqF_ret, ts_nil, ts_cons, out_ret, out_next, ite_t, ite_f, bop_and_t, bop_and_f, bop_or_t, bop_or_f, bb_and_t, bb_and_f, bb_or_t, bb_or_f, slot_0, slot_s, e_con, b_con, e_var, b_var, e_glo, b_glo, e_tup, b_tup, e_lst, b_lst, e_dct, b_dct, e_op, b_op, e_neg, b_neg, e_not, b_not, e_bop, b_bop, e_cmp, b_cmp, e_chn, b_chn, e_ifx, b_ifx, e_ix, b_ix, e_sl, b_sl, e_call, b_call, e_bi, b_bi, e_mxd, b_mxd, e_isi, b_isi, e_isl, b_isl, e_lrg, b_lrg, e_mt, b_mt, e_lc, b_lc, e_rev, b_rev, e_gtp, e_lrg1, i_rng3, bop_1, bop_2, bb_1, bb_2, es_nil, es_cons, eo_none, eo_some, if_none, if_some, i_ex, i_rng1, i_rng2, i_enm, q_nm, q_tp, q_sb, setK_some, qs_nil, qs_cons, t_asg, t_aug, t_ex, t_ret, t_retN, t_iff, t_fr, t_whl, t_brk, t_cnt, t_pas, con_none, con_bool, con_int, con_str, neg_int, not_bl, int_int, add_int, sub_int, lt_int, le_int, gt_int, ge_int, eq_int, ne_int, is_nn, is_in, is_bb, isn_nn, isn_in, isn_bb, tr_non, tr_bl, tr_int, ty_non, ty_bl, ty_int, ty_tup, ty_ro, isa_int_int, isa_int_bool, isa_int_list, isa_int_tuple, isa_list_list, isa_list_tuple, isa_tuple_list, isa_tuple_tuple, sq_tup, sq_ro, bi_int_int, bi_int_bl, bi_tuple_tup, bi_min, bi_max, bi_len_tup, bi_len_ro, ix_tup, ix_ro, sl_tup, sl_ro, stays_tup, stays_ro, at_0, at_1, gc_ai, gc_aai, gc_aaai, gc_ab, gc_aab, gc_aaab, gc_an, gc_aan, gc_aaan, gc_same, wipe_nil, wipe_cons, sz_0, sz_1, sz_2, sz_3, sz_4, sz_5, sz_6, sz_7, sz_8, sz_9, sz_10, runDef, runFull, Def.full, startD, List.length_cons, List.length_nil, List.map_cons, List.map_nil, List.append_nil, List.nil_append, List.cons_append, List.drop_nil, List.drop_zero, List.set_cons_zero, List.set_cons_succ, List.replicate, if_true, if_false, Bool.not_true, Bool.not_false, Bool.true_or, Bool.false_or, Option.map_some, Option.map_none, Nat.zero_add, Nat.add_zero, Nat.sub_self, Nat.reduceAdd, Nat.reduceSub, ↓reduceIte, Bool.and_true, Bool.true_and, Bool.false_and, Bool.and_false, Int.cast_ofNat_Int, decide_true, decide_false, Int.reduceEq, Int.reduceLT, Int.reduceLE, Bool.false_eq_true, List.append_assoc, List.length_append, lk_app, lk_app0, lk_sapp, lk_sapp0, lk_z, lk_s, st_app, st_app0, st_sapp, st_sapp0, len_set, set_set, sq_lk, ix_lk, sl_lk, len_lk, tuple_lk, list_lk, list_tup, ty_lk, stays_lk, set_lk, add_lk, app_lk, ext_lk, clear_lk, recv_lk, get2_lk, tr_lk, gp_0, gp_1, gp_2, gp_3, gp_4, gp_5, gp_6, gp_7, gp_8, ko_n, ko_s, ko_p, gq_1, gq_2, gq_3, gq_4, gq_5, gq_6, gq_7, gq_8, gq_9, gq_10, gq_11, gq_12, gq_13, gq_14, gq_15, gq_16, gcR, Nat.lt_irrefl, Nat.not_lt_zero, List.take_succ_cons, List.take_zero, List.take_nil, D.beqL_self, at_2, at_3, ixN, Nat.reduceLT, Nat.reduceLeDiff, Int.reduceToNat, Int.reduceNeg, Int.reduceSub, Int.reduceAdd, Int.reduceMul, sz_lt, Int.zero_add, mod_int, pr_int, pr_bl, pr_non, pr_str, pr_tup, pr_nil, pr_cons, pr_lst, pr_ints, pr_prs, pr_app, pr_kD, mt_1, mt_2, mt_3, mt_4, mt_5, mt_6, mt_7, rev_lk, max_lk, min_lk, sum_lk, any_lk, all_lk, count_lk, index_lk, pop_lk, eq_D, ne_D, eqD_ll, eqD_tt, eqL_ll, eqS_same, eqS_nil, eqS_ints, eqD_ii, eqD_kk, py_app, py_nil, py_cons, py_ints, py_int, py_bl, py_non, py_kD, py_links, py_prs, py_mapi, pr_mapi, pr_linksT, gt_np, pr_loc, pr_stps, pr_stp, aug_add, aug_sub, ko_app, take_left', len_aa, ep, en, h7, List.length_map, hz, e6, prD, hq, nat_succ]
          refine ⟨⟨i + 1, acc ++ [.up i q.1], _, _, rfl, by omega, by omega, ?_, ?_, e2⟩, ?_⟩
          · rw [List.map_append]; rfl
          · rw [← e1]; simp
          · show h - ((i + 1 : Nat) : Int).toNat < h - (i : Int).toNat
            omega
theorem climbed_left_of (k : Nat) {tw : Tws} {h : Nat} {f key : Int} {S : Store} (hl : tw.length ≤ 1000) (hh : h ≤ 1000) :
    ∃ L j, orc defs (k + 2) 10 [.tup (tw.map prD), .int h, .int f, .int key] S = some (.tup [.loc (S.length + j), .int ((clF tw f key h 1).2.1 : Nat), .int (((clF tw f key h 1).2.2 : Nat) - 1)], S ++ L) ∧ lk L j = some (.lst ((clF tw f key h 1).1.map Stp.d)) := by
  rw [orc_at (d := d_climbed_left) rfl]
  have er : rngD 1 ((h : Int) + 1) = some ⟨(rangeI 1 h).map D.int, fun _ => true⟩ := by
    rw [rng_small (by omega) (by omega) (by omega) (by omega)]; congr 5; omega
  simp only [d_climbed_left, b_climbed_left, bnd_some, bnd_none, opt_some, opt_none, seqF_next, seqF_brk, seqF_cnt, seqF_ret, ts_nil, ts_cons, out_ret, out_next, ite_t, ite_f, bop_and_t, bop_and_f, bop_or_t, bop_or_f, bb_and_t, bb_and_f, bb_or_t, bb_or_f, slot_0, slot_s, e_con, b_con, e_var, b_var, e_glo, b_glo, e_tup, b_tup, e_lst, b_lst, e_dct, b_dct, e_op, b_op, e_neg, b_neg, e_not, b_not, e_bop, b_bop, e_cmp, b_cmp, e_chn, b_chn, e_ifx, b_ifx, e_ix, b_ix, e_sl, b_sl, e_call, b_call, e_bi, b_bi, e_mxd, b_mxd, e_isi, b_isi, e_isl, b_isl, e_lrg, b_lrg, e_mt, b_mt, e_lc, b_lc, e_rev, b_rev, e_gtp, e_lrg1, i_rng3, bop_1, bop_2, bb_1, bb_2, es_nil, es_cons, eo_none, eo_some, if_none, if_some, i_ex, i_rng1, i_rng2, i_enm, q_nm, q_tp, q_sb, setK_some, qs_nil, qs_cons, t_asg, t_aug, t_ex, t_ret, t_retN, t_iff, t_fr, t_whl, t_brk, t_cnt, t_pas, con_none, con_bool, con_int, con_str, neg_int, not_bl, int_int, add_int, sub_int, lt_int, le_int, gt_int, ge_int, eq_int, ne_int, is_nn, is_in, is_bb, isn_nn, isn_in, isn_bb, tr_non, tr_bl, tr_int, ty_non, ty_bl, ty_int, ty_tup, ty_ro, isa_int_int, isa_int_bool, isa_int_list, isa_int_tuple, isa_list_list, isa_list_tuple, isa_tuple_list, isa_tuple_tuple, sq_tup, sq_ro, bi_int_int, bi_int_bl, bi_tuple_tup, bi_min, bi_max, bi_len_tup, bi_len_ro, ix_tup, ix_ro, sl_tup, sl_ro, stays_tup, stays_ro, at_0, at_1, gc_ai, gc_aai, gc_aaai, gc_ab, gc_aab, gc_aaab, gc_an, gc_aan, gc_aaan, gc_same, wipe_nil, wipe_cons, sz_0, sz_1, sz_2, sz_3, sz_4, sz_5, sz_6, sz_7, sz_8, sz_9, sz_10, runDef, runFull, Def.full, startD, List.length_cons, List.length_nil, List.map_cons, List.map_nil, List.append_nil, List.nil_append, List.cons_append, List.drop_nil, List.drop_zero, List.set_cons_zero, List.set_cons_succ, List.replicate, if_true, if_false, Bool.not_true, Bool.not_false, Bool.true_or, Bool.false_or, Option.map_some, Option.map_none, Nat.zero_add, Nat.add_zero, Nat.sub_self, Nat.reduceAdd, Nat.reduceSub, ↓reduceIte, Bool.and_true, Bool.true_and, Bool.false_and, Bool.and_false, Int.cast_ofNat_Int, decide_true, decide_false, Int.reduceEq, Int.reduceLT, Int.reduceLE, Bool.false_eq_true, List.append_assoc, List.length_append, lk_app, lk_app0, lk_sapp, lk_sapp0, lk_z, lk_s, st_app, st_app0, st_sapp, st_sapp0, len_set, set_set, sq_lk, ix_lk, sl_lk, len_lk, tuple_lk, list_lk, list_tup, ty_lk, stays_lk, set_lk, add_lk, app_lk, ext_lk, clear_lk, recv_lk, get2_lk, tr_lk, gp_0, gp_1, gp_2, gp_3, gp_4, gp_5, gp_6, gp_7, gp_8, ko_n, ko_s, ko_p, gq_1, gq_2, gq_3, gq_4, gq_5, gq_6, gq_7, gq_8, gq_9, gq_10, gq_11, gq_12, gq_13, gq_14, gq_15, gq_16, gcR, Nat.lt_irrefl, Nat.not_lt_zero, List.take_succ_cons, List.take_zero, List.take_nil, D.beqL_self, at_2, at_3, ixN, Nat.reduceLT, Nat.reduceLeDiff, Int.reduceToNat, Int.reduceNeg, Int.reduceSub, Int.reduceAdd, Int.reduceMul, sz_lt, Int.zero_add, mod_int, pr_int, pr_bl, pr_non, pr_str, pr_tup, pr_nil, pr_cons, pr_lst, pr_ints, pr_prs, pr_app, pr_kD, mt_1, mt_2, mt_3, mt_4, mt_5, mt_6, mt_7, rev_lk, max_lk, min_lk, sum_lk, any_lk, all_lk, count_lk, index_lk, pop_lk, eq_D, ne_D, eqD_ll, eqD_tt, eqL_ll, eqS_same, eqS_nil, eqS_ints, eqD_ii, eqD_kk, py_app, py_nil, py_cons, py_ints, py_int, py_bl, py_non, py_kD, py_links, py_prs, py_mapi, pr_mapi, pr_linksT, gt_np, pr_loc, pr_stps, pr_stp, aug_add, aug_sub, ko_app, take_left', len_aa, er]
  generalize hX : forD _ _ _ _ _ _ = X
  have hb := (clF_len (tw := tw) (f := f) (key := key) h 1 (Nat.le_refl _)).1
  have key := for_M hX (fun r σ T => ∃ (i : Nat) (acc : List Stp) (x y : Option D), σ = [some (.tup (tw.map prD)), some (.int h), some (.int f), some (.int key), some (.loc S.length), x, y] ∧ 1 ≤ i ∧ r = rangeI (i : Int) (h + 1 - i) ∧ i ≤ h + 1 ∧ T = S ++ [.lst (acc.map Stp.d)] ∧ acc ++ (clF tw f key (h + 1 - i) i).1 = (clF tw f key h 1).1 ∧ (clF tw f key (h + 1 - i) i).2 = (clF tw f key h 1).2)
    (fun X => (∃ L j, X = some (.ret (.tup [.loc (S.length + j), .int ((clF tw f key h 1).2.1 : Nat), .int (((clF tw f key h 1).2.2 : Nat) - 1)]), S ++ L) ∧ lk L j = some (.lst ((clF tw f key h 1).1.map Stp.d))) ∨
      ∃ (acc : List Stp) (x y : Option D), X = some (.next [some (.tup (tw.map prD)), some (.int h), some (.int f), some (.int key), some (.loc S.length), x, y], S ++ [.lst (acc.map Stp.d)]) ∧ acc = (clF tw f key h 1).1 ∧ (h, 0) = (clF tw f key h 1).2)
    ⟨1, [], _, _, rfl, Nat.le_refl _, by rw [Nat.add_sub_cancel]; rfl, by omega, rfl, by rw [Nat.add_sub_cancel, List.nil_append], by rw [Nat.add_sub_cancel]⟩ ?_ ?_
  · rcases key with ⟨L, j, rfl, e⟩ | ⟨acc, x, y, rfl, e1, e2⟩
    · exact ⟨L, j, by simp only [bnd_some, bnd_none, opt_some, opt_none, seqF_next, seqF_brk, seqF_cnt, seqF_ret, ts_nil, ts_cons, out_ret, out_next, ite_t, ite_f, bop_and_t, bop_and_f, bop_or_t, bop_or_f, bb_and_t, bb_and_f, bb_or_t, bb_or_f, slot_0, slot_s, e_con, b_con, e_var, b_var, e_glo, b_glo, e_tup, b_tup, e_lst, b_lst, e_dct, b_dct, e_op, b_op, e_neg, b_neg, e_not, b_not, e_bop, b_bop, e_cmp, b_cmp, e_chn, b_chn, e_ifx, b_ifx, e_ix, b_ix, e_sl, b_sl, e_call, b_call, e_bi, b_bi, e_mxd, b_mxd, e_isi, b_isi, e_isl, b_isl, e_lrg, b_lrg, e_mt, b_mt, e_lc, b_lc, e_rev, b_rev, e_gtp, e_lrg1, i_rng3, bop_1, bop_2, bb_1, bb_2, es_nil, es_cons, eo_none, eo_some, if_none, if_some, i_ex, i_rng1, i_rng2, i_enm, q_nm, q_tp, q_sb, setK_some, qs_nil, qs_cons, t_asg, t_aug, t_ex, t_ret, t_retN, t_iff, t_fr, t_whl, t_brk, t_cnt, t_pas, con_none, con_bool, con_int, con_str, neg_int, not_bl, int_int, add_int, sub_int, lt_int, le_int, gt_int, ge_int, eq_int, ne_int, is_nn, is_in, is_bb, isn_nn, isn_in, isn_bb, tr_non, tr_bl, tr_int, ty_non, ty_bl, ty_int, ty_tup, ty_ro, isa_int_int, isa_int_bool, isa_int_list, isa_int_tuple, isa_list_list, isa_list_tuple, isa_tuple_list, isa_tuple_tuple, sq_tup, sq_ro, bi_int_int, bi_int_bl, bi_tuple_tup, bi_min, bi_max, bi_len_tup, bi_len_ro, ix_tup, ix_ro, sl_tup, sl_ro, stays_tup, stays_ro, at_0, at_1, gc_ai, gc_aai, gc_aaai, gc_ab, gc_aab, gc_aaab, gc_an, gc_aan, gc_aaan, gc_same, wipe_nil, wipe_cons, sz_0, sz_1, sz_2, sz_3, sz_4, sz_5, sz_6, sz_7, sz_8, sz_9, sz_10, runDef, runFull, Def.full, startD, List.length_cons, List.length_nil, List.map_cons, List.map_nil, List.append_nil, List.nil_append, List.cons_append, List.drop_nil, List.drop_zero, List.set_cons_zero, List.set_cons_succ, List.replicate, if_true, if_false, Bool.not_true, Bool.not_false, Bool.true_or, Bool.false_or, Option.map_some, Option.map_none, Nat.zero_add, Nat.add_zero, Nat.sub_self, Nat.reduceAdd, Nat.reduceSub, ↓reduceIte, Bool.and_true, Bool.true_and, Bool.false_and, Bool.and_false, Int.cast_ofNat_Int, decide_true, decide_false, Int.reduceEq, Int.reduceLT, Int.reduceLE, Bool.false_eq_true, List.append_assoc, List.length_append, lk_app, lk_app0, lk_sapp, lk_sapp0, lk_z, lk_s, st_app, st_app0, st_sapp, st_sapp0, len_set, set_set, sq_lk, ix_lk, sl_lk, len_lk, tuple_lk, list_lk, list_tup, ty_lk, stays_lk, set_lk, add_lk, app_lk, ext_lk, clear_lk, recv_lk, get2_lk, tr_lk, gp_0, gp_1, gp_2, gp_3, gp_4, gp_5, gp_6, gp_7, gp_8, ko_n, ko_s, ko_p, gq_1, gq_2, gq_3, gq_4, gq_5, gq_6, gq_7, gq_8, gq_9, gq_10, gq_11, gq_12, gq_13, gq_14, gq_15, gq_16, gcR, Nat.lt_irrefl, Nat.not_lt_zero, List.take_succ_cons, List.take_zero, List.take_nil, D.beqL_self, at_2, at_3, ixN, Nat.reduceLT, Nat.reduceLeDiff, Int.reduceToNat, Int.reduceNeg, Int.reduceSub, Int.reduceAdd, Int.reduceMul, sz_lt, Int.zero_add, mod_int, pr_int, pr_bl, pr_non, pr_str, pr_tup, pr_nil, pr_cons, pr_lst, pr_ints, pr_prs, pr_app, pr_kD, mt_1, mt_2, mt_3, mt_4, mt_5, mt_6, mt_7, rev_lk, max_lk, min_lk, sum_lk, any_lk, all_lk, count_lk, index_lk, pop_lk, eq_D, ne_D, eqD_ll, eqD_tt, eqL_ll, eqS_same, eqS_nil, eqS_ints, eqD_ii, eqD_kk, py_app, py_nil, py_cons, py_ints, py_int, py_bl, py_non, py_kD, py_links, py_prs, py_mapi, pr_mapi, pr_linksT, gt_np, pr_loc, pr_stps, pr_stp, aug_add, aug_sub, ko_app, take_left', len_aa], e⟩
    · refine ⟨[.lst (acc.map Stp.d)], 0, ?_, by rw [e1]; rfl⟩
      rw [← e2]
      simp only [bnd_some, bnd_none, opt_some, opt_none, seqF_next, seqF_brk, seqF_cnt, seqF_ret, ts_nil, ts_cons, out_ret, out_next, ite_t, ite_f, bop_and_t, bop_and_f, bop_or_t, bop_or_f, bb_and_t, bb_and_f, bb_or_t, bb_or_f, slot_0, slot_s, e_con, b_con, e_var, b_var, e_glo, b_glo, e_tup, b_tup, e_lst, b_lst, e_dct, b_dct, e_op, b_op, e_neg, b_neg, e_not, b_not, e_bop, b_bop, e_cmp, b_cmp, e_chn, b_chn, e_ifx, b_ifx, e_ix, b_ix, e_sl, b_sl, e_call, b_call, e_bi, b_bi, e_mxd, b_mxd, e_isi, b_isi, e_isl, b_isl, e_lrg, b_lrg, e_mt, b_mt, e_lc, b_lc, e_rev, b_rev, e_gtp, e_lrg1, i_rng3, bop_1, bop_2, bb_1, bb_2, es_nil, es_cons, eo_none, eo_some, if_none, if_some, i_ex, i_rng1, i_rng2, i_enm, q_nm, q_tp, q_sb, setK_some, qs_nil, qs_cons, t_asg, t_aug, t_ex, t_ret, t_retN, t_iff, t_fr, t_whl, t_brk, t_cnt, t_pas, con_none, con_bool, con_int, con_str, neg_int, not_bl, int_int, add_int, sub_int, lt_int, le_int, gt_int, ge_int, eq_int, ne_int, is_nn, is_in, is_bb, isn_nn, isn_in, isn_bb, tr_non, tr_bl, tr_int, ty_non, ty_bl, ty_int, ty_tup, ty_ro, isa_int_int, isa_int_bool, isa_int_list, isa_int_tuple, isa_list_list, isa_list_tuple, isa_tuple_list, isa_tuple_tuple, sq_tup, sq_ro, bi_int_int, bi_int_bl, bi_tuple_tup, bi_min, bi_max, bi_len_tup, bi_len_ro, ix_tup, ix_ro, sl_tup, sl_ro, stays_tup, stays_ro, at_0, at_1, gc_ai, gc_aai, gc_aaai, gc_ab, gc_aab, gc_aaab, gc_an, gc_aan, gc_aaan, gc_same, wipe_nil, wipe_cons, sz_0, sz_1, sz_2, sz_3, sz_4, sz_5, sz_6, sz_7, sz_8, sz_9, sz_10, runDef, runFull, Def.full, startD, List.length_cons, List.length_nil, List.map_cons, List.map_nil, List.append_nil, List.nil_append, List.cons_append, List.drop_nil, List.drop_zero, List.set_cons_zero, List.set_cons_succ, List.replicate, if_true, if_false, Bool.not_true, Bool.not_false, Bool.true_or, Bool.false_or, Option.map_some, Option.map_none, Nat.zero_add, Nat.add_zero, Nat.sub_self, Nat.reduceAdd, Nat.reduceSub, ↓reduceIte, Bool.and_true, Bool.true_and, Bool.false_and, Bool.and_false, Int.cast_ofNat_Int, decide_true, decide_false, Int.reduceEq, Int.reduceLT, Int.reduceLE, Bool.false_eq_true, List.append_assoc, List.length_append, lk_app, lk_app0, lk_sapp, lk_sapp0, lk_z, lk_s, st_app, st_app0, st_sapp, st_sapp0, len_set, set_set, sq_lk, ix_lk, sl_lk, len_lk, tuple_lk, list_lk, list_tup, ty_lk, stays_lk, set_lk, add_lk, app_lk, ext_lk, clear_lk, recv_lk, get2_lk, tr_lk, gp_0, gp_1, gp_2, gp_3, gp_4, gp_5, gp_6, gp_7, gp_8, ko_n, ko_s, ko_p, gq_1, gq_2, gq_3, gq_4, gq_5, gq_6, gq_7, gq_8, gq_9, gq_10, gq_11, gq_12, gq_13, gq_14, gq_15, gq_16, gcR, Nat.lt_irrefl, Nat.not_lt_zero, List.take_succ_cons, List.take_zero, List.take_nil, D.beqL_self, at_2, at_3, ixN, Nat.reduceLT, Nat.reduceLeDiff, Int.reduceToNat, Int.reduceNeg, Int.reduceSub, Int.reduceAdd, Int.reduceMul, sz_lt, Int.zero_add, mod_int, pr_int, pr_bl, pr_non, pr_str, pr_tup, pr_nil, pr_cons, pr_lst, pr_ints, pr_prs, pr_app, pr_kD, mt_1, mt_2, mt_3, mt_4, mt_5, mt_6, mt_7, rev_lk, max_lk, min_lk, sum_lk, any_lk, all_lk, count_lk, index_lk, pop_lk, eq_D, ne_D, eqD_ll, eqD_tt, eqL_ll, eqS_same, eqS_nil, eqS_ints, eqD_ii, eqD_kk, py_app, py_nil, py_cons, py_ints, py_int, py_bl, py_non, py_kD, py_links, py_prs, py_mapi, pr_mapi, pr_linksT, gt_np, pr_loc, pr_stps, pr_stp, aug_add, aug_sub, ko_app, take_left', len_aa]
      all_goals rfl
  · rintro σ T ⟨i, acc, x, y, rfl, i1, i2, i3, rfl, e1, e2⟩
    have h1 := rangeI_nil i2
    have hi : i = h + 1 := by omega
    subst hi
    rw [Nat.sub_self, clF] at e1 e2
    exact ⟨rfl, .inr ⟨acc, x, y, rfl, by rw [← e1, List.append_nil], e2⟩⟩
  · clear hX X
    rintro q r σ T ⟨i, acc, x, y, rfl, i1, i2, i3, rfl, e1, e2⟩
    obtain ⟨h1, rfl, h3⟩ := rangeI_cons i2
    refine ⟨rfl, ?_⟩
    have hj : h + 1 - i = (h + 1 - (i + 1)) + 1 := by omega
    have e1l := congrArg List.length e1
    rw [List.length_append] at e1l
    have hz : acc.length < sizeLine := lt_size (by omega)
    have hz1 : acc.length + 1 ≤ sizeLine := le_size (by omega)
    have hpl := pbN_le f i tw
    have ep : ∀ T, _ := fun T => place_below_of k (f := f) (l := i) (S := T) hl
    rw [hj, clF] at e1 e2
    cases h5 : pbN f i tw with
    | zero =>
      rw [h5] at e1 e2 ep
      have h7 : (((0 : Nat) : Int) - 1 < 0) := by omega
      simp only [bnd_some, bnd_none, opt_some, opt_none, seqF_next, seqF_brk, seqF_cnt, seqF_ret, ts_nil, ts_cons, out_ret, out_next, ite_t, ite_f, bop_and_t, bop_and_f, bop_or_t, bop_or_f, bb_and_t, bb_and_f, bb_or_t, bb_or_f, slot_0, slot_s, e_con, b_con, e_var, b_var, e_glo, b_glo, e_tup, b_tup, e_lst, b_lst, e_dct, b_dct, e_op, b_op, e_neg, b_neg, e_not, b_not, e_bop, b_bop, e_cmp, b_cmp, e_chn, b_chn, e_ifx, b_ifx, e_ix, b_ix, e_sl, b_sl, e_call, b_call, e_bi, b_bi, e_mxd, b_mxd, e_isi, b_isi, e_isl, b_isl, e_lrg, b_lrg, e_mt, b_mt, e_lc, b_lc, e_rev, b_rev, e_gtp, e_lrg1, i_rng3, bop_1, bop_2, bb_1, bb_2, es_nil, es_cons, eo_none, eo_some, if_none, if_some, i_ex, i_rng1, i_rng2, i_enm, q_nm, q_tp, q_sb, setK_some, qs_nil, qs_cons, t_asg, t_aug, t_ex, t_ret, t_retN, t_iff, t_fr, t_whl, t_brk, t_cnt, t_pas, con_none, con_bool, con_int, con_str, neg_int, not_bl, int_int, add_int, sub_int, lt_int, le_int, gt_int, ge_int, eq_int, ne_int, is_nn, is_in, is_bb, isn_nn, isn_in, isn_bb, tr_non, tr_bl, tr_int, ty_non, ty_bl, ty_int, ty_tup, ty_ro, isa_int_int, isa_int_bool, isa_int_list, isa_int_tuple, isa_list_list, isa_list_tuple, isa_tuple_list, isa_tuple_tuple, sq_tup, sq_ro, bi_int_int, bi_int_bl, bi_tuple_tup, bi_min, bi_max, bi_len_tup, bi_len_ro, ix_tup, ix_ro, sl_tup, sl_ro, stays_tup, stays_ro, at_0, at_1, gc_ai, gc_aai, gc_aaai, gc_ab, gc_aab, gc_aaab, gc_an, gc_aan, gc_aaan, gc_same, wipe_nil, wipe_cons, sz_0, sz_1, sz_2, sz_3, sz_4, sz_5, sz_6, sz_7, sz_8, sz_9, sz_10, runDef, runFull, Def.full, startD, List.length_cons, List.length_nil, List.map_cons, List.map_nil, List.append_nil, List.nil_append, List.cons_append, List.drop_nil, List.drop_zero, List.set_cons_zero, List.set_cons_succ, List.replicate, if_true, if_false, Bool.not_true, Bool.not_false, Bool.true_or, Bool.false_or, Option.map_some, Option.map_none, Nat.zero_add, Nat.add_zero, Nat.sub_self, Nat.reduceAdd, Nat.reduceSub, ↓reduceIte, Bool.and_true, Bool.true_and, Bool.false_and, Bool.and_false, Int.cast_ofNat_Int, decide_true, decide_false, Int.reduceEq, Int.reduceLT, Int.reduceLE, Bool.false_eq_true, List.append_assoc, List.length_append, lk_app, lk_app0, lk_sapp, lk_sapp0, lk_z, lk_s, st_app, st_app0, st_sapp, st_sapp0, len_set, set_set, sq_lk, ix_lk, sl_lk, len_lk, tuple_lk, list_lk, list_tup, ty_lk, stays_lk, set_lk, add_lk, app_lk, ext_lk, clear_lk, recv_lk, get2_lk, tr_lk, gp_0, gp_1, gp_2, gp_3, gp_4, gp_5, gp_6, gp_7, gp_8, ko_n, ko_s, ko_p, gq_1, gq_2, gq_3, gq_4, gq_5, gq_6, gq_7, gq_8, gq_9, gq_10, gq_11, gq_12, gq_13, gq_14, gq_15, gq_16, gcR, Nat.lt_irrefl, Nat.not_lt_zero, List.take_succ_cons, List.take_zero, List.take_nil, D.beqL_self, at_2, at_3, ixN, Nat.reduceLT, Nat.reduceLeDiff, Int.reduceToNat, Int.reduceNeg, Int.reduceSub, Int.reduceAdd, Int.reduceMul, sz_lt, Int.zero_add, mod_int, pr_int, pr_bl, pr_non, pr_str, pr_tup, pr_nil, pr_cons, pr_lst, pr_ints, pr_prs, pr_app, pr_kD, mt_1, mt_2, mt_3, mt_4, mt_5, mt_6, mt_7, rev_lk, max_lk, min_lk, sum_lk, any_lk, all_lk, count_lk, index_lk, pop_lk, eq_D, ne_D, eqD_ll, eqD_tt, eqL_ll, eqS_same, eqS_nil, eqS_ints, eqD_ii, eqD_kk, py_app, py_nil, py_cons, py_ints, py_int, py_bl, py_non, py_kD, py_links, py_prs, py_mapi, pr_mapi, pr_linksT, gt_np, pr_loc, pr_stps, pr_stp, aug_add, aug_sub, ko_app, take_left', len_aa, ep, h7, List.length_map, hz1]
      refine .inl ⟨[.lst (acc.map Stp.d), .lst [Stp.d (.edge i)], .lst (acc.map Stp.d ++ [Stp.d (.edge i)])], 2, ?_, ?_⟩
      · rw [← e2]; rfl
      · rw [← e1, List.map_append]; rfl
    | succ m =>
      rw [h5] at e1 e2 ep hpl
      have hm : m < tw.length := hpl
      have hp := List.getElem?_eq_getElem hm
      have h7 : ¬ (m : Int) < 0 := by omega
      have e6 := prs_at hp
      have ek : keyAt tw (m + 1) = some tw[m].1 := by rw [keyAt, hp]; rfl
      rw [ek] at e1 e2
      dsimp only at e1 e2
      simp only [nat_pred] at ep
      by_cases hq : tw[m].1 < key
      · rw [if_pos hq] at e1 e2
        simp only [bnd_some, bnd_none, opt_some, opt_none, seqF_next, seqF_brk, seqF_cnt, seqF_ret, ts_nil, ts_cons, out_ret, out_next, ite_t, ite_f, bop_and_t, bop_and_f, bop_or_t, bop_or_f, bb_and_t, bb_and_f, bb_or_t, bb_or_f, slot_0, slot_s, e_con, b_con, e_var, b_var, e_glo, b_glo, e_tup, b_tup, e_lst, b_lst, e_dct, b_dct, e_op, b_op, e_neg, b_neg, e_not, b_not, e_bop, b_bop, e_cmp, b_cmp, e_chn, b_chn, e_ifx, b_ifx, e_ix, b_ix, e_sl, b_sl, e_call, b_call, e_bi, b_bi, e_mxd, b_mxd, e_isi, b_isi, e_isl, b_isl, e_lrg, b_lrg, e_mt, b_mt, e_lc, b_lc, e_rev, b_rev, e_gtp, e_lrg1, i_rng3, bop_1, bop_2, bb_1, bb_2, es_nil, es_cons, eo_none, eo_some, if_none, if_some, i_ex, i_rng1, i_rng2, i_enm, q_nm, q_tp, q_sb, setK_some, qs_nil, qs_cons, t_asg, t_aug, t_ex, t_ret, t_retN, t_iff, t_fr, t_whl, t_brk, t_cnt, t_pas, con_none, con_bool, con_int, con_str, neg_int, not_bl, int_int, add_int, sub_int, lt_int, le_int, gt_int, ge_int, eq_int, ne_int, is_nn, is_in, is_bb, isn_nn, isn_in, isn_bb, tr_non, tr_bl, tr_int, ty_non, ty_bl, ty_int, ty_tup, ty_ro, isa_int_int, isa_int_bool, isa_int_list, isa_int_tuple, isa_list_list, isa_list_tuple, isa_tuple_list, isa_tuple_tuple, sq_tup, sq_ro, bi_int_int, bi_int_bl, bi_tuple_tup, bi_min, bi_max, bi_len_tup, bi_len_ro, ix_tup, ix_ro, sl_tup, sl_ro, stays_tup, stays_ro, at_0, at_1, gc_ai, gc_aai, gc_aaai, gc_ab, gc_aab, gc_aaab, gc_an, gc_aan, gc_aaan, gc_same, wipe_nil, wipe_cons, sz_0, sz_1, sz_2, sz_3, sz_4, sz_5, sz_6, sz_7, sz_8, sz_9, sz_10, runDef, runFull, Def.full, startD, List.length_cons, List.length_nil, List.map_cons, List.map_nil, List.append_nil, List.nil_append, List.cons_append, List.drop_nil, List.drop_zero, List.set_cons_zero, List.set_cons_succ, List.replicate, if_true, if_false, Bool.not_true, Bool.not_false, Bool.true_or, Bool.false_or, Option.map_some, Option.map_none, Nat.zero_add, Nat.add_zero, Nat.sub_self, Nat.reduceAdd, Nat.reduceSub, ↓reduceIte, Bool.and_true, Bool.true_and, Bool.false_and, Bool.and_false, Int.cast_ofNat_Int, decide_true, decide_false, Int.reduceEq, Int.reduceLT, Int.reduceLE, Bool.false_eq_true, List.append_assoc, List.length_append, lk_app, lk_app0, lk_sapp, lk_sapp0, lk_z, lk_s, st_app, st_app0, st_sapp, st_sapp0, len_set, set_set, sq_lk, ix_lk, sl_lk, len_lk, tuple_lk, list_lk, list_tup, ty_lk, stays_lk, set_lk, add_lk, app_lk, ext_lk, clear_lk, recv_lk, get2_lk, tr_lk, gp_0, gp_1, gp_2, gp_3, gp_4, gp_5, gp_6, gp_7, gp_8, ko_n, ko_s, ko_p, gq_1, gq_2, gq_3, gq_4, gq_5, gq_6, gq_7, gq_8, gq_9, gq_10, gq_11, gq_12, gq_13, gq_14, gq_15, gq_16, gcR, Nat.lt_irrefl, Nat.not_lt_zero, List.take_succ_cons, List.take_zero, List.take_nil, D.beqL_self, at_2, at_3, ixN, Nat.reduceLT, Nat.reduceLeDiff, Int.reduceToNat, Int.reduceNeg, Int.reduceSub, Int.reduceAdd, Int.reduceMul, sz_lt, Int.zero_add, mod_int, pr_int, pr_bl, pr_non, pr_str, pr_tup, pr_nil, pr_cons, pr_lst, pr_ints, pr_prs, pr_app, pr_kD, mt_1, mt_2, mt_3, mt_4, mt_5, mt_6, mt_7, rev_lk, max_lk, min_lk, sum_lk, any_lk, all_lk, count_lk, index_lk, pop_lk, eq_D, ne_D, eqD_ll, eqD_tt, eqL_ll, eqS_same, eqS_nil, eqS_ints, eqD_ii, eqD_kk, py_app, py_nil, py_cons, py_ints, py_int, py_bl, py_non, py_kD, py_links, py_prs, py_mapi, pr_mapi, pr_linksT, gt_np, pr_loc, pr_stps, pr_stp, aug_add, aug_sub, ko_app, take_left', len_aa, ep, h7, List.length_map, hz1, e6, prD, hq]
        refine .inl ⟨[.lst (acc.map Stp.d), .lst [Stp.d (.turn i tw[m].1)], .lst (acc.map Stp.d ++ [Stp.d (.turn i tw[m].1)])], 2, ?_, ?_⟩
        · rw [← e2]
          show _ = some (Fl.ret (D.tup [_, _, D.int (((m + 1 : Nat) : Int) - 1)]), _)
          rw [nat_pred]; rfl
        · rw [← e1, List.map_append]; rfl
      · rw [if_neg hq] at e1 e2
        simp only [bnd_some, bnd_none, opt_some, opt_none, seqF_next, seqF_brk, seqF_cnt, seqF_ret, ts_nil, ts_cons, out_ret, out_next, ite_t, ite_f, bop_and_t, bop_and_f, bop_or_t, bop_or_f, bb_and_t, bb_and_f, bb_or_t, bb_or_f, slot_0, slot_s, e_con, b_con, e_var, b_var, e_glo, b_glo, e_tup, b_tup, e_lst, b_lst, e_dct, b_dct, e_op, b_op, e_neg, b_neg, e_not, b_not, e_bop, b_bop, e_cmp, b_cmp, e_chn, b_chn, e_ifx, b_ifx, e_ix, b_ix, e_sl, b_sl, e_call, b_call, e_bi, b_bi, e_mxd, b_mxd, e_isi, b_isi, e_isl, b_isl, e_lrg, b_lrg, e_mt, b_mt, e_lc, b_lc, e_rev, b_rev, e_gtp, e_lrg1, i_rng3, bop_1, bop_2, bb_1, bb_2, es_nil, es_cons, eo_none, eo_some, if_none, if_some, i_ex, i_rng1, i_rng2, i_enm, q_nm, q_tp, q_sb, setK_some, qs_nil, qs_cons, t_asg, t_aug, t_ex, t_ret, t_retN, t_iff, t_fr, t_whl, t_brk, t_cnt, t_pas, con_none, con_bool, con_int, con_str, neg_int, not_bl, int_int, add_int, sub_int, lt_int, le_int, gt_int, ge_int, eq_int, ne_int, is_nn, is_in, is_bb, isn_nn, isn_in, isn_bb, tr_non, tr_bl, tr_int, ty_non, ty_bl, ty_int, ty_tup, ty_ro, isa_int_int, isa_int_bool, isa_int_list, isa_int_tuple, isa_list_list, isa_list_tuple, isa_tuple_list, isa_tuple_tuple, sq_tup, sq_ro, bi_int_int, bi_int_bl, bi_tuple_tup, bi_min, bi_max, bi_len_tup, bi_len_ro, ix_tup, ix_ro, sl_tup, sl_ro, stays_tup, stays_ro, at_0, at_1, gc_ai, gc_aai, gc_aaai, gc_ab, gc_aab, gc_aaab, gc_an, gc_aan, gc_aaan, gc_same, wipe_nil, wipe_cons, sz_0, sz_1, sz_2, sz_3, sz_4, sz_5, sz_6, sz_7, sz_8, sz_9, sz_10, runDef, runFull, Def.full, startD, List.length_cons, List.length_nil, List.map_cons, List.map_nil, List.append_nil, List.nil_append, List.cons_append, List.drop_nil, List.drop_zero, List.set_cons_zero, List.set_cons_succ, List.replicate, if_true, if_false, Bool.not_true, Bool.not_false, Bool.true_or, Bool.false_or, Option.map_some, Option.map_none, Nat.zero_add, Nat.add_zero, Nat.sub_self, Nat.reduceAdd, Nat.reduceSub, ↓reduceIte, Bool.and_true, Bool.true_and, Bool.false_and, Bool.and_false, Int.cast_ofNat_Int, decide_true, decide_false, Int.reduceEq, Int.reduceLT, Int.reduceLE, Bool.false_eq_true, List.append_assoc, List.length_append, lk_app, lk_app0, lk_sapp, lk_sapp0, lk_z, lk_s, st_app, st_app0, st_sapp, st_sapp0, len_set, set_set, sq_lk, ix_lk, sl_lk, len_lk, tuple_lk, list_lk, list_tup, ty_lk, stays_lk, set_lk, add_lk, app_lk, ext_lk, clear_lk, recv_lk, get2_lk, tr_lk, gp_0, gp_1, gp_2, gp_3, gp_4, gp_5, gp_6, gp_7, gp_8, ko_n, ko_s, ko_p, gq_1, gq_2, gq_3, gq_4, gq_5, gq_6, gq_7, gq_8, gq_9, gq_10, gq_11, gq_12, gq_13, gq_14, gq_15, gq_16, gcR, Nat.lt_irrefl, Nat.not_lt_zero, List.take_succ_cons, List.take_zero, List.take_nil, D.beqL_self, at_2, at_3, ixN, Nat.reduceLT, Nat.reduceLeDiff, Int.reduceToNat, Int.reduceNeg, Int.reduceSub, Int.reduceAdd, Int.reduceMul, sz_lt, Int.zero_add, mod_int, pr_int, pr_bl, pr_non, pr_str, pr_tup, pr_nil, pr_cons, pr_lst, pr_ints, pr_prs, pr_app, pr_kD, mt_1, mt_2, mt_3, mt_4, mt_5, mt_6, mt_7, rev_lk, max_lk, min_lk, sum_lk, any_lk, all_lk, count_lk, index_lk, pop_lk, eq_D, ne_D, eqD_ll, eqD_tt, eqL_ll, eqS_same, eqS_nil, eqS_ints, eqD_ii, eqD_kk, py_app, py_nil, py_cons, py_ints, py_int, py_bl, py_non, py_kD, py_links, py_prs, py_mapi, pr_mapi, pr_linksT, gt_np, pr_loc, pr_stps, pr_stp, aug_add, aug_sub, ko_app, take_left', len_aa, ep, h7, List.length_map, hz, e6, prD, hq]
        refine ⟨i + 1, acc ++ [.up i tw[m].1], _, _, rfl, by omega, h3, by omega, ?_, ?_, e2⟩
        · rw [List.map_append]; rfl
        · rw [← e1]; simp

end K51

end

section
set_option maxHeartbeats 1000000
namespace K51
open PySem PySem.Spec Mi
open L2 (atI ixN Key)
theorem steps_between_of (k : Nat) {tw : Tws} {f key : Int} {S : Store} (hf : Fine tw) (hl : tw.length ≤ 1000) (hh : ∀ p ∈ tw, p.2 ≤ 900) :
    ∃ L j, orc defs (k + 4) 12 [.tup (tw.map prD), .int f, .int key] S = some (.tup [.loc (S.length + j), .int (sbL tw f key : Nat)], S ++ L) ∧ lk L j = some (.lst ((sbS tw f key).map Stp.d)) := by
  rw [orc_at (d := d_steps_between) rfl]
  have h0 := hiT_nn hf
  have h1 := hiT_le (n := 900) (by decide) hh
  have hi : hiT tw = (((hiT tw).toNat : Nat) : Int) := by omega
  by_cases hz : hiT tw = 0
  · refine ⟨[.lst []], 0, ?_, by unfold sbS; rw [if_pos hz]; rfl⟩
    unfold sbL; rw [if_pos hz]
    simp only [d_steps_between, b_steps_between, bnd_some, bnd_none, opt_some, opt_none, seqF_next, seqF_brk, seqF_cnt, seqF_ret, ts_nil, ts_cons, out_ret, out_next, ite_t, ite_f, bop_and_t, bop_and_f, bop_or_t, bop_or_f, bb_and_t, bb_and_f, bb_or_t, bb_or_f, slot_0, slot_s, e_con, b_con, e_var, b_var, e_glo, b_glo, e_tup, b_tup, e_lst, b_lst, e_dct, b_dct, e_op, b_op, e_neg, b_neg, e_not, b_not, e_bop, b_bop, e_cmp, b_cmp, e_chn, b_chn, e_ifx, b_ifx, e_ix, b_ix, e_sl, b_sl, e_call, b_call, e_bi, b_bi, e_mxd, b_mxd, e_isi, b_isi, e_isl, b_isl, e_lrg, b_lrg, e_mt, b_mt, e_lc, b_lc, e_rev, b_rev, e_gtp, e_lrg1, i_rng3, bop_1, bop_2, bb_1, bb_2, es_nil, es_cons, eo_none, eo_some, if_none, if_some, i_ex, i_rng1, i_rng2, i_enm, q_nm, q_tp, q_sb, setK_some, qs_nil, qs_cons, t_asg, t_aug, t_ex, t_ret, t_retN, t_iff, t_fr, t_whl, t_brk, t_cnt, t_pas, con_none, con_bool, con_int, con_str, neg_int, not_bl, int_int, add_int, sub_int, lt_int, le_int, gt_int, ge_int, eq_int, ne_int, is_nn, is_in, is_bb, isn_nn, isn_in, isn_bb, tr_non, tr_bl, tr_int, ty_non, ty_bl, ty_int, ty_tup, ty_ro, isa_int_int, isa_int_bool, isa_int_list, isa_int_tuple, isa_list_list, isa_list_tuple, isa_tuple_list, isa_tuple_tuple, sq_tup, sq_ro, bi_int_int, bi_int_bl, bi_tuple_tup, bi_min, bi_max, bi_len_tup, bi_len_ro, ix_tup, ix_ro, sl_tup, sl_ro, stays_tup, stays_ro, at_0, at_1, gc_ai, gc_aai, gc_aaai, gc_ab, gc_aab, gc_aaab, gc_an, gc_aan, gc_aaan, gc_same, wipe_nil, wipe_cons, sz_0, sz_1, sz_2, sz_3, sz_4, sz_5, sz_6, sz_7, sz_8, sz_9, sz_10, runDef, runFull, Def.full, startD, List.length_cons, List.length_nil, List.map_cons, List.map_nil, List.append_nil, List.nil_append, List.cons_append, List.drop_nil, List.drop_zero, List.set_cons_zero, List.set_cons_succ, List.replicate, if_true, if_false, Bool.not_true, Bool.not_false, Bool.true_or, Bool.false_or, Option.map_some, Option.map_none, Nat.zero_add, Nat.add_zero, Nat.sub_self, Nat.reduceAdd, Nat.reduceSub, ↓reduceIte, Bool.and_true, Bool.true_and, Bool.false_and, Bool.and_false, Int.cast_ofNat_Int, decide_true, decide_false, Int.reduceEq, Int.reduceLT, Int.reduceLE, Bool.false_eq_true, List.append_assoc, List.length_append, lk_app, lk_app0, lk_sapp, lk_sapp0, lk_z, lk_s, st_app, st_app0, st_sapp, st_sapp0, len_set, set_set, sq_lk, ix_lk, sl_lk, len_lk, tuple_lk, list_lk, list_tup, ty_lk, stays_lk, set_lk, add_lk, app_lk, ext_lk, clear_lk, recv_lk, get2_lk, tr_lk, gp_0, gp_1, gp_2, gp_3, gp_4, gp_5, gp_6, gp_7, gp_8, ko_n, ko_s, ko_p, gq_1, gq_2, gq_3, gq_4, gq_5, gq_6, gq_7, gq_8, gq_9, gq_10, gq_11, gq_12, gq_13, gq_14, gq_15, gq_16, gcR, Nat.lt_irrefl, Nat.not_lt_zero, List.take_succ_cons, List.take_zero, List.take_nil, D.beqL_self, at_2, at_3, ixN, Nat.reduceLT, Nat.reduceLeDiff, Int.reduceToNat, Int.reduceNeg, Int.reduceSub, Int.reduceAdd, Int.reduceMul, sz_lt, Int.zero_add, mod_int, pr_int, pr_bl, pr_non, pr_str, pr_tup, pr_nil, pr_cons, pr_lst, pr_ints, pr_prs, pr_app, pr_kD, mt_1, mt_2, mt_3, mt_4, mt_5, mt_6, mt_7, rev_lk, max_lk, min_lk, sum_lk, any_lk, all_lk, count_lk, index_lk, pop_lk, eq_D, ne_D, eqD_ll, eqD_tt, eqL_ll, eqS_same, eqS_nil, eqS_ints, eqD_ii, eqD_kk, py_app, py_nil, py_cons, py_ints, py_int, py_bl, py_non, py_kD, py_links, py_prs, py_mapi, pr_mapi, pr_linksT, gt_np, pr_loc, pr_stps, pr_stp, aug_add, aug_sub, ko_app, take_left', len_aa, highest_of (k + 2) hl, hz]
    all_goals rfl
  · have hs : sbS tw f key = (climb tw f key).1 ++ srch tw key (climb tw f key).2.1 (climb tw f key).2.2 := by unfold sbS; rw [if_neg hz]
    have hlv : sbL tw f key = (climb tw f key).2.1 := by unfold sbL; rw [if_neg hz]
    have hcl : (climb tw f key).1.length ≤ 900 ∧ (climb tw f key).2.1 ≤ 900 ∧ (climb tw f key).2.2 ≤ tw.length := by
      unfold climb
      split
      · have := crF_len (tw := tw) (f := f) (key := key) ((hiT tw).toNat - 1) 1
        omega
      · have := clF_len (tw := tw) (f := f) (key := key) (hiT tw).toNat 1 (Nat.le_refl _)
        omega
    have hb := srch_len (tw := tw) (key := key) (l := (climb tw f key).2.1) hcl.2.2
    have hsz : (climb tw f key).1.length + (srch tw key (climb tw f key).2.1 (climb tw f key).2.2).length ≤ sizeLine := le_size (by omega)
    have es : ∀ T, _ := fun T => searched_of (k + 1) (climb tw f key).2.1 (climb tw f key).2.2 (a := (((climb tw f key).2.2 : Nat) : Int) - 1) (key := key) (S := T) (by omega) hcl.2.2 hl (by omega)
    by_cases hk : key > f
    · obtain ⟨L, j, e1, e2⟩ := climbed_right_of (k + 1) (h := (hiT tw).toNat) (f := f) (key := key) (S := S) hl (by omega) (by omega)
      have hcc : crF tw f key ((hiT tw).toNat - 1) 1 = climb tw f key := by unfold climb; rw [if_pos hk]
      rw [← hi, hcc] at e1
      rw [hcc] at e2
      have hk2 : f < key := hk
      refine ⟨L ++ [.lst ((srch tw key (climb tw f key).2.1 (climb tw f key).2.2).map Stp.d), .lst ((sbS tw f key).map Stp.d)], L.length + 1, ?_, lk_app⟩
      rw [hlv, hs, List.map_append]
      simp only [d_steps_between, b_steps_between, bnd_some, bnd_none, opt_some, opt_none, seqF_next, seqF_brk, seqF_cnt, seqF_ret, ts_nil, ts_cons, out_ret, out_next, ite_t, ite_f, bop_and_t, bop_and_f, bop_or_t, bop_or_f, bb_and_t, bb_and_f, bb_or_t, bb_or_f, slot_0, slot_s, e_con, b_con, e_var, b_var, e_glo, b_glo, e_tup, b_tup, e_lst, b_lst, e_dct, b_dct, e_op, b_op, e_neg, b_neg, e_not, b_not, e_bop, b_bop, e_cmp, b_cmp, e_chn, b_chn, e_ifx, b_ifx, e_ix, b_ix, e_sl, b_sl, e_call, b_call, e_bi, b_bi, e_mxd, b_mxd, e_isi, b_isi, e_isl, b_isl, e_lrg, b_lrg, e_mt, b_mt, e_lc, b_lc, e_rev, b_rev, e_gtp, e_lrg1, i_rng3, bop_1, bop_2, bb_1, bb_2, es_nil, es_cons, eo_none, eo_some, if_none, if_some, i_ex, i_rng1, i_rng2, i_enm, q_nm, q_tp, q_sb, setK_some, qs_nil, qs_cons, t_asg, t_aug, t_ex, t_ret, t_retN, t_iff, t_fr, t_whl, t_brk, t_cnt, t_pas, con_none, con_bool, con_int, con_str, neg_int, not_bl, int_int, add_int, sub_int, lt_int, le_int, gt_int, ge_int, eq_int, ne_int, is_nn, is_in, is_bb, isn_nn, isn_in, isn_bb, tr_non, tr_bl, tr_int, ty_non, ty_bl, ty_int, ty_tup, ty_ro, isa_int_int, isa_int_bool, isa_int_list, isa_int_tuple, isa_list_list, isa_list_tuple, isa_tuple_list, isa_tuple_tuple, sq_tup, sq_ro, bi_int_int, bi_int_bl, bi_tuple_tup, bi_min, bi_max, bi_len_tup, bi_len_ro, ix_tup, ix_ro, sl_tup, sl_ro, stays_tup, stays_ro, at_0, at_1, gc_ai, gc_aai, gc_aaai, gc_ab, gc_aab, gc_aaab, gc_an, gc_aan, gc_aaan, gc_same, wipe_nil, wipe_cons, sz_0, sz_1, sz_2, sz_3, sz_4, sz_5, sz_6, sz_7, sz_8, sz_9, sz_10, runDef, runFull, Def.full, startD, List.length_cons, List.length_nil, List.map_cons, List.map_nil, List.append_nil, List.nil_append, List.cons_append, List.drop_nil, List.drop_zero, List.set_cons_zero, List.set_cons_succ, List.replicate, if_true, if_false, Bool.not_true, Bool.not_false, Bool.true_or, Bool.false_or, Option.map_some, Option.map_none, Nat.zero_add, Nat.add_zero, Nat.sub_self, Nat.reduceAdd, Nat.reduceSub, ↓reduceIte, Bool.and_true, Bool.true_and, Bool.false_and, Bool.and_false, Int.cast_ofNat_Int, decide_true, decide_false, Int.reduceEq, Int.reduceLT, Int.reduceLE, Bool.false_eq_true, List.append_assoc, List.length_append, lk_app, lk_app0, lk_sapp, lk_sapp0, lk_z, lk_s, st_app, st_app0, st_sapp, st_sapp0, len_set, set_set, sq_lk, ix_lk, sl_lk, len_lk, tuple_lk, list_lk, list_tup, ty_lk, stays_lk, set_lk, add_lk, app_lk, ext_lk, clear_lk, recv_lk, get2_lk, tr_lk, gp_0, gp_1, gp_2, gp_3, gp_4, gp_5, gp_6, gp_7, gp_8, ko_n, ko_s, ko_p, gq_1, gq_2, gq_3, gq_4, gq_5, gq_6, gq_7, gq_8, gq_9, gq_10, gq_11, gq_12, gq_13, gq_14, gq_15, gq_16, gcR, Nat.lt_irrefl, Nat.not_lt_zero, List.take_succ_cons, List.take_zero, List.take_nil, D.beqL_self, at_2, at_3, ixN, Nat.reduceLT, Nat.reduceLeDiff, Int.reduceToNat, Int.reduceNeg, Int.reduceSub, Int.reduceAdd, Int.reduceMul, sz_lt, Int.zero_add, mod_int, pr_int, pr_bl, pr_non, pr_str, pr_tup, pr_nil, pr_cons, pr_lst, pr_ints, pr_prs, pr_app, pr_kD, mt_1, mt_2, mt_3, mt_4, mt_5, mt_6, mt_7, rev_lk, max_lk, min_lk, sum_lk, any_lk, all_lk, count_lk, index_lk, pop_lk, eq_D, ne_D, eqD_ll, eqD_tt, eqL_ll, eqS_same, eqS_nil, eqS_ints, eqD_ii, eqD_kk, py_app, py_nil, py_cons, py_ints, py_int, py_bl, py_non, py_kD, py_links, py_prs, py_mapi, pr_mapi, pr_linksT, gt_np, pr_loc, pr_stps, pr_stp, aug_add, aug_sub, ko_app, take_left', len_aa, highest_of (k + 2) hl, hz, hk2, e1, es, lk_old e2, List.length_map, hsz]
    · obtain ⟨L, j, e1, e2⟩ := climbed_left_of (k + 1) (h := (hiT tw).toNat) (f := f) (key := key) (S := S) hl (by omega)
      have hcc : clF tw f key (hiT tw).toNat 1 = climb tw f key := by unfold climb; rw [if_neg hk]
      rw [← hi, hcc] at e1
      rw [hcc] at e2
      have hk2 : ¬ f < key := hk
      refine ⟨L ++ [.lst ((srch tw key (climb tw f key).2.1 (climb tw f key).2.2).map Stp.d), .lst ((sbS tw f key).map Stp.d)], L.length + 1, ?_, lk_app⟩
      rw [hlv, hs, List.map_append]
      simp only [d_steps_between, b_steps_between, bnd_some, bnd_none, opt_some, opt_none, seqF_next, seqF_brk, seqF_cnt, seqF_ret, ts_nil, ts_cons, out_ret, out_next, ite_t, ite_f, bop_and_t, bop_and_f, bop_or_t, bop_or_f, bb_and_t, bb_and_f, bb_or_t, bb_or_f, slot_0, slot_s, e_con, b_con, e_var, b_var, e_glo, b_glo, e_tup, b_tup, e_lst, b_lst, e_dct, b_dct, e_op, b_op, e_neg, b_neg, e_not, b_not, e_bop, b_bop, e_cmp, b_cmp, e_chn, b_chn, e_ifx, b_ifx, e_ix, b_ix, e_sl, b_sl, e_call, b_call, e_bi, b_bi, e_mxd, b_mxd, e_isi, b_isi, e_isl, b_isl, e_lrg, b_lrg, e_mt, b_mt, e_lc, b_lc, e_rev, b_rev, e_gtp, e_lrg1, i_rng3, bop_1, bop_2, bb_1, bb_2, es_nil, es_cons, eo_none, eo_some, if_none, if_some, i_ex, i_rng1, i_rng2, i_enm, q_nm, q_tp, q_sb, setK_some, qs_nil, qs_cons, t_asg, t_aug, t_ex, t_ret, t_retN, t_iff, t_fr, t_whl, t_brk, t_cnt, t_pas, con_none, con_bool, con_int, con_str, neg_int, not_bl, int_int, add_int, sub_int, lt_int, le_int, gt_int, ge_int, eq_int, ne_int, is_nn, is_in, is_bb, isn_nn, isn_in, isn_bb, tr_non, tr_bl, tr_int, ty_non, ty_bl, ty_int, ty_tup, ty_ro, isa_int_int, isa_int_bool, isa_int_list, isa_int_tuple, isa_list_list, isa_list_tuple, isa_tuple_list, isa_tuple_tuple, sq_tup, sq_ro, bi_int_int, bi_int_bl, bi_tuple_tup, bi_min, bi_max, bi_len_tup, bi_len_ro, ix_tup, ix_ro, sl_tup, sl_ro, stays_tup, stays_ro, at_0, at_1, gc_ai, gc_aai, gc_aaai, gc_ab, gc_aab, gc_aaab, gc_an, gc_aan, gc_aaan, gc_same, wipe_nil, wipe_cons, sz_0, sz_1, sz_2, sz_3, sz_4, sz_5, sz_6, sz_7, sz_8, sz_9, sz_10, runDef, runFull, Def.full, startD, List.length_cons, List.length_nil, List.map_cons, List.map_nil, List.append_nil, List.nil_append, List.cons_append, List.drop_nil, List.drop_zero, List.set_cons_zero, List.set_cons_succ, List.replicate, if_true, if_false, Bool.not_true, Bool.not_false, Bool.true_or, Bool.false_or, Option.map_some, Option.map_none, Nat.zero_add, Nat.add_zero, Nat.sub_self, Nat.reduceAdd, Nat.reduceSub, ↓reduceIte, Bool.and_true, Bool.true_and, Bool.false_and, Bool.and_false, Int.cast_ofNat_Int, decide_true, decide_false, Int.reduceEq, Int.reduceLT, Int.reduceLE, Bool.false_eq_true, List.append_assoc, List.length_append, lk_app, lk_app0, lk_sapp, lk_sapp0, lk_z, lk_s, st_app, st_app0, st_sapp, st_sapp0, len_set, set_set, sq_lk, ix_lk, sl_lk, len_lk, tuple_lk, list_lk, list_tup, ty_lk, stays_lk, set_lk, add_lk, app_lk, ext_lk, clear_lk, recv_lk, get2_lk, tr_lk, gp_0, gp_1, gp_2, gp_3, gp_4, gp_5, gp_6, gp_7, gp_8, ko_n, ko_s, ko_p, gq_1, gq_2, gq_3, gq_4, gq_5, gq_6, gq_7, gq_8, gq_9, gq_10, gq_11, gq_12, gq_13, gq_14, gq_15, gq_16, gcR, Nat.lt_irrefl, Nat.not_lt_zero, List.take_succ_cons, List.take_zero, List.take_nil, D.beqL_self, at_2, at_3, ixN, Nat.reduceLT, Nat.reduceLeDiff, Int.reduceToNat, Int.reduceNeg, Int.reduceSub, Int.reduceAdd, Int.reduceMul, sz_lt, Int.zero_add, mod_int, pr_int, pr_bl, pr_non, pr_str, pr_tup, pr_nil, pr_cons, pr_lst, pr_ints, pr_prs, pr_app, pr_kD, mt_1, mt_2, mt_3, mt_4, mt_5, mt_6, mt_7, rev_lk, max_lk, min_lk, sum_lk, any_lk, all_lk, count_lk, index_lk, pop_lk, eq_D, ne_D, eqD_ll, eqD_tt, eqL_ll, eqS_same, eqS_nil, eqS_ints, eqD_ii, eqD_kk, py_app, py_nil, py_cons, py_ints, py_int, py_bl, py_non, py_kD, py_links, py_prs, py_mapi, pr_mapi, pr_linksT, gt_np, pr_loc, pr_stps, pr_stp, aug_add, aug_sub, ko_app, take_left', len_aa, highest_of (k + 2) hl, hz, hk2, e1, es, lk_old e2, List.length_map, hsz]
theorem finger_steps_of (k : Nat) {v : D} {tw : Tws} {f key : Int} {S : Store} (hv : IsTw S v tw) (hh : ∀ p ∈ tw, p.2 ≤ 900) : orc defs (k + 5) 14 [v, .int f, .int key] S = some (.loc S.length, S ++ [.lst ((sbS tw f key).map Stp.d)]) := by
  rw [orc_at (d := d_finger_steps) rfl]
  obtain ⟨L, j, e1, e2⟩ := steps_between_of k (f := f) (key := key) (S := S) hv.fine hv.len hh
  simp only [d_finger_steps, b_finger_steps, bnd_some, bnd_none, opt_some, opt_none, seqF_next, seqF_brk, seqF_cnt, seqF_ret, ts_nil, ts_cons, out_ret, out_next, ite_t, ite_f, bop_and_t, bop_and_f, bop_or_t, bop_or_f, bb_and_t, bb_and_f, bb_or_t, bb_or_f, slot_0, slot_s, e_con, b_con, e_var, b_var, e_glo, b_glo, e_tup, b_tup, e_lst, b_lst, e_dct, b_dct, e_op, b_op, e_neg, b_neg, e_not, b_not, e_bop, b_bop, e_cmp, b_cmp, e_chn, b_chn, e_ifx, b_ifx, e_ix, b_ix, e_sl, b_sl, e_call, b_call, e_bi, b_bi, e_mxd, b_mxd, e_isi, b_isi, e_isl, b_isl, e_lrg, b_lrg, e_mt, b_mt, e_lc, b_lc, e_rev, b_rev, e_gtp, e_lrg1, i_rng3, bop_1, bop_2, bb_1, bb_2, es_nil, es_cons, eo_none, eo_some, if_none, if_some, i_ex, i_rng1, i_rng2, i_enm, q_nm, q_tp, q_sb, setK_some, qs_nil, qs_cons, t_asg, t_aug, t_ex, t_ret, t_retN, t_iff, t_fr, t_whl, t_brk, t_cnt, t_pas, con_none, con_bool, con_int, con_str, neg_int, not_bl, int_int, add_int, sub_int, lt_int, le_int, gt_int, ge_int, eq_int, ne_int, is_nn, is_in, is_bb, isn_nn, isn_in, isn_bb, tr_non, tr_bl, tr_int, ty_non, ty_bl, ty_int, ty_tup, ty_ro, isa_int_int, isa_int_bool, isa_int_list, isa_int_tuple, isa_list_list, isa_list_tuple, isa_tuple_list, isa_tuple_tuple, sq_tup, sq_ro, bi_int_int, bi_int_bl, bi_tuple_tup, bi_min, bi_max, bi_len_tup, bi_len_ro, ix_tup, ix_ro, sl_tup, sl_ro, stays_tup, stays_ro, at_0, at_1, gc_ai, gc_aai, gc_aaai, gc_ab, gc_aab, gc_aaab, gc_an, gc_aan, gc_aaan, gc_same, wipe_nil, wipe_cons, sz_0, sz_1, sz_2, sz_3, sz_4, sz_5, sz_6, sz_7, sz_8, sz_9, sz_10, runDef, runFull, Def.full, startD, List.length_cons, List.length_nil, List.map_cons, List.map_nil, List.append_nil, List.nil_append, List.cons_append, List.drop_nil, List.drop_zero, List.set_cons_zero, List.set_cons_succ, List.replicate, if_true, if_false, Bool.not_true, Bool.not_false, Bool.true_or, Bool.false_or, Option.map_some, Option.map_none, Nat.zero_add, Nat.add_zero, Nat.sub_self, Nat.reduceAdd, Nat.reduceSub, ↓reduceIte, Bool.and_true, Bool.true_and, Bool.false_and, Bool.and_false, Int.cast_ofNat_Int, decide_true, decide_false, Int.reduceEq, Int.reduceLT, Int.reduceLE, Bool.false_eq_true, List.append_assoc, List.length_append, lk_app, lk_app0, lk_sapp, lk_sapp0, lk_z, lk_s, st_app, st_app0, st_sapp, st_sapp0, len_set, set_set, sq_lk, ix_lk, sl_lk, len_lk, tuple_lk, list_lk, list_tup, ty_lk, stays_lk, set_lk, add_lk, app_lk, ext_lk, clear_lk, recv_lk, get2_lk, tr_lk, gp_0, gp_1, gp_2, gp_3, gp_4, gp_5, gp_6, gp_7, gp_8, ko_n, ko_s, ko_p, gq_1, gq_2, gq_3, gq_4, gq_5, gq_6, gq_7, gq_8, gq_9, gq_10, gq_11, gq_12, gq_13, gq_14, gq_15, gq_16, gcR, Nat.lt_irrefl, Nat.not_lt_zero, List.take_succ_cons, List.take_zero, List.take_nil, D.beqL_self, at_2, at_3, ixN, Nat.reduceLT, Nat.reduceLeDiff, Int.reduceToNat, Int.reduceNeg, Int.reduceSub, Int.reduceAdd, Int.reduceMul, sz_lt, Int.zero_add, mod_int, pr_int, pr_bl, pr_non, pr_str, pr_tup, pr_nil, pr_cons, pr_lst, pr_ints, pr_prs, pr_app, pr_kD, mt_1, mt_2, mt_3, mt_4, mt_5, mt_6, mt_7, rev_lk, max_lk, min_lk, sum_lk, any_lk, all_lk, count_lk, index_lk, pop_lk, eq_D, ne_D, eqD_ll, eqD_tt, eqL_ll, eqS_same, eqS_nil, eqS_ints, eqD_ii, eqD_kk, py_app, py_nil, py_cons, py_ints, py_int, py_bl, py_non, py_kD, py_links, py_prs, py_mapi, pr_mapi, pr_linksT, gt_np, pr_loc, pr_stps, pr_stp, aug_add, aug_sub, ko_app, take_left', len_aa, checked_of k hv, look_key_of (k + 2), e1, e2, Nat.add_zero]

end K51

end

section
set_option maxHeartbeats 1000000
namespace K51
open PySem PySem.Spec Mi
open L2 (atI ixN Key)
theorem cost_between_of (k : Nat) {tw : Tws} {f key : Int} {S : Store} (hf : Fine tw) (hl : tw.length ≤ 1000) (hh : ∀ p ∈ tw, p.2 ≤ 900) (hb : (sbS tw f key).length ≤ 10000) :
    orc defs (k + 5) 13 [.tup (tw.map prD), .int f, .int key] S = some (.tup (cstD (sbS tw f key) (sbL tw f key)), S) := by
  rw [orc_at (d := d_cost_between) rfl]
  obtain ⟨L, j, e1, e2⟩ := steps_between_of k (f := f) (key := key) (S := S) hf hl hh
  simp only [d_cost_between, b_cost_between, bnd_some, bnd_none, opt_some, opt_none, seqF_next, seqF_brk, seqF_cnt, seqF_ret, ts_nil, ts_cons, out_ret, out_next, ite_t, ite_f, bop_and_t, bop_and_f, bop_or_t, bop_or_f, bb_and_t, bb_and_f, bb_or_t, bb_or_f, slot_0, slot_s, e_con, b_con, e_var, b_var, e_glo, b_glo, e_tup, b_tup, e_lst, b_lst, e_dct, b_dct, e_op, b_op, e_neg, b_neg, e_not, b_not, e_bop, b_bop, e_cmp, b_cmp, e_chn, b_chn, e_ifx, b_ifx, e_ix, b_ix, e_sl, b_sl, e_call, b_call, e_bi, b_bi, e_mxd, b_mxd, e_isi, b_isi, e_isl, b_isl, e_lrg, b_lrg, e_mt, b_mt, e_lc, b_lc, e_rev, b_rev, e_gtp, e_lrg1, i_rng3, bop_1, bop_2, bb_1, bb_2, es_nil, es_cons, eo_none, eo_some, if_none, if_some, i_ex, i_rng1, i_rng2, i_enm, q_nm, q_tp, q_sb, setK_some, qs_nil, qs_cons, t_asg, t_aug, t_ex, t_ret, t_retN, t_iff, t_fr, t_whl, t_brk, t_cnt, t_pas, con_none, con_bool, con_int, con_str, neg_int, not_bl, int_int, add_int, sub_int, lt_int, le_int, gt_int, ge_int, eq_int, ne_int, is_nn, is_in, is_bb, isn_nn, isn_in, isn_bb, tr_non, tr_bl, tr_int, ty_non, ty_bl, ty_int, ty_tup, ty_ro, isa_int_int, isa_int_bool, isa_int_list, isa_int_tuple, isa_list_list, isa_list_tuple, isa_tuple_list, isa_tuple_tuple, sq_tup, sq_ro, bi_int_int, bi_int_bl, bi_tuple_tup, bi_min, bi_max, bi_len_tup, bi_len_ro, ix_tup, ix_ro, sl_tup, sl_ro, stays_tup, stays_ro, at_0, at_1, gc_ai, gc_aai, gc_aaai, gc_ab, gc_aab, gc_aaab, gc_an, gc_aan, gc_aaan, gc_same, wipe_nil, wipe_cons, sz_0, sz_1, sz_2, sz_3, sz_4, sz_5, sz_6, sz_7, sz_8, sz_9, sz_10, runDef, runFull, Def.full, startD, List.length_cons, List.length_nil, List.map_cons, List.map_nil, List.append_nil, List.nil_append, List.cons_append, List.drop_nil, List.drop_zero, List.set_cons_zero, List.set_cons_succ, List.replicate, if_true, if_false, Bool.not_true, Bool.not_false, Bool.true_or, Bool.false_or, Option.map_some, Option.map_none, Nat.zero_add, Nat.add_zero, Nat.sub_self, Nat.reduceAdd, Nat.reduceSub, ↓reduceIte, Bool.and_true, Bool.true_and, Bool.false_and, Bool.and_false, Int.cast_ofNat_Int, decide_true, decide_false, Int.reduceEq, Int.reduceLT, Int.reduceLE, Bool.false_eq_true, List.append_assoc, List.length_append, lk_app, lk_app0, lk_sapp, lk_sapp0, lk_z, lk_s, st_app, st_app0, st_sapp, st_sapp0, len_set, set_set, sq_lk, ix_lk, sl_lk, len_lk, tuple_lk, list_lk, list_tup, ty_lk, stays_lk, set_lk, add_lk, app_lk, ext_lk, clear_lk, recv_lk, get2_lk, tr_lk, gp_0, gp_1, gp_2, gp_3, gp_4, gp_5, gp_6, gp_7, gp_8, ko_n, ko_s, ko_p, gq_1, gq_2, gq_3, gq_4, gq_5, gq_6, gq_7, gq_8, gq_9, gq_10, gq_11, gq_12, gq_13, gq_14, gq_15, gq_16, gcR, Nat.lt_irrefl, Nat.not_lt_zero, List.take_succ_cons, List.take_zero, List.take_nil, D.beqL_self, at_2, at_3, ixN, Nat.reduceLT, Nat.reduceLeDiff, Int.reduceToNat, Int.reduceNeg, Int.reduceSub, Int.reduceAdd, Int.reduceMul, sz_lt, Int.zero_add, mod_int, pr_int, pr_bl, pr_non, pr_str, pr_tup, pr_nil, pr_cons, pr_lst, pr_ints, pr_prs, pr_app, pr_kD, mt_1, mt_2, mt_3, mt_4, mt_5, mt_6, mt_7, rev_lk, max_lk, min_lk, sum_lk, any_lk, all_lk, count_lk, index_lk, pop_lk, eq_D, ne_D, eqD_ll, eqD_tt, eqL_ll, eqS_same, eqS_nil, eqS_ints, eqD_ii, eqD_kk, py_app, py_nil, py_cons, py_ints, py_int, py_bl, py_non, py_kD, py_links, py_prs, py_mapi, pr_mapi, pr_linksT, gt_np, pr_loc, pr_stps, pr_stp, aug_add, aug_sub, ko_app, take_left', len_aa, e1, e2]
  generalize hX : lcD _ _ _ _ _ _ _ = X
  have e := lc_f wD hX (by simp only [List.append_assoc, List.length_append, lk_app, lk_app0, lk_sapp, lk_sapp0, lk_z, lk_s, st_app, st_app0, st_sapp, st_sapp0, len_set, set_set, sq_lk, ix_lk, sl_lk, len_lk, tuple_lk, list_lk, list_tup, ty_lk, stays_lk, set_lk, add_lk, app_lk, ext_lk, clear_lk, recv_lk, get2_lk, tr_lk, gp_0, gp_1, gp_2, gp_3, gp_4, gp_5, gp_6, gp_7, gp_8, ko_n, ko_s, ko_p, gq_1, gq_2, gq_3, gq_4, gq_5, gq_6, gq_7, gq_8, gq_9, gq_10, gq_11, gq_12, gq_13, gq_14, gq_15, gq_16, gcR, Nat.lt_irrefl, Nat.not_lt_zero, List.take_succ_cons, List.take_zero, List.take_nil, D.beqL_self, at_2, at_3, ixN, Nat.reduceLT, Nat.reduceLeDiff, Int.reduceToNat, Int.reduceNeg, Int.reduceSub, Int.reduceAdd, Int.reduceMul, sz_lt, Int.zero_add, mod_int, pr_int, pr_bl, pr_non, pr_str, pr_tup, pr_nil, pr_cons, pr_lst, pr_ints, pr_prs, pr_app, pr_kD, mt_1, mt_2, mt_3, mt_4, mt_5, mt_6, mt_7, rev_lk, max_lk, min_lk, sum_lk, any_lk, all_lk, count_lk, index_lk, pop_lk, eq_D, ne_D, eqD_ll, eqD_tt, eqL_ll, eqS_same, eqS_nil, eqS_ints, eqD_ii, eqD_kk, py_app, py_nil, py_cons, py_ints, py_int, py_bl, py_non, py_kD, py_links, py_prs, py_mapi, pr_mapi, pr_linksT, gt_np, pr_loc, pr_stps, pr_stp, aug_add, aug_sub, ko_app, take_left', len_aa, e2]) (le_size (by simp; omega)) (fun s hs => by simp only [bnd_some, bnd_none, opt_some, opt_none, seqF_next, seqF_brk, seqF_cnt, seqF_ret, ts_nil, ts_cons, out_ret, out_next, ite_t, ite_f, bop_and_t, bop_and_f, bop_or_t, bop_or_f, bb_and_t, bb_and_f, bb_or_t, bb_or_f, slot_0, slot_s, e_con, b_con, e_var, b_var, e_glo, b_glo, e_tup, b_tup, e_lst, b_lst, e_dct, b_dct, e_op, b_op, e_neg, b_neg, e_not, b_not, e_bop, b_bop, e_cmp, b_cmp, e_chn, b_chn, e_ifx, b_ifx, e_ix, b_ix, e_sl, b_sl, e_call, b_call, e_bi, b_bi, e_mxd, b_mxd, e_isi, b_isi, e_isl, b_isl, e_lrg, b_lrg, e_mt, b_mt, e_lc, b_lc, e_rev, b_rev, e_gtp, e_lrg1, i_rng3, bop_1, bop_2, bb_1, bb_2, es_nil, es_cons, eo_none, eo_some, if_none, if_some, i_ex, i_rng1, i_rng2, i_enm, q_nm, q_tp, q_sb, setK_some, qs_nil, qs_cons, t_asg, t_aug, t_ex, t_ret, t_retN, t_iff, t_fr, t_whl, t_brk, t_cnt, t_pas, con_none, con_bool, con_int, con_str, neg_int, not_bl, int_int, add_int, sub_int, lt_int, le_int, gt_int, ge_int, eq_int, ne_int, is_nn, is_in, is_bb, isn_nn, isn_in, isn_bb, tr_non, tr_bl, tr_int, ty_non, ty_bl, ty_int, ty_tup, ty_ro, isa_int_int, isa_int_bool, isa_int_list, isa_int_tuple, isa_list_list, isa_list_tuple, isa_tuple_list, isa_tuple_tuple, sq_tup, sq_ro, bi_int_int, bi_int_bl, bi_tuple_tup, bi_min, bi_max, bi_len_tup, bi_len_ro, ix_tup, ix_ro, sl_tup, sl_ro, stays_tup, stays_ro, at_0, at_1, gc_ai, gc_aai, gc_aaai, gc_ab, gc_aab, gc_aaab, gc_an, gc_aan, gc_aaan, gc_same, wipe_nil, wipe_cons, sz_0, sz_1, sz_2, sz_3, sz_4, sz_5, sz_6, sz_7, sz_8, sz_9, sz_10, runDef, runFull, Def.full, startD, List.length_cons, List.length_nil, List.map_cons, List.map_nil, List.append_nil, List.nil_append, List.cons_append, List.drop_nil, List.drop_zero, List.set_cons_zero, List.set_cons_succ, List.replicate, if_true, if_false, Bool.not_true, Bool.not_false, Bool.true_or, Bool.false_or, Option.map_some, Option.map_none, Nat.zero_add, Nat.add_zero, Nat.sub_self, Nat.reduceAdd, Nat.reduceSub, ↓reduceIte, Bool.and_true, Bool.true_and, Bool.false_and, Bool.and_false, Int.cast_ofNat_Int, decide_true, decide_false, Int.reduceEq, Int.reduceLT, Int.reduceLE, Bool.false_eq_true, List.append_assoc, List.length_append, lk_app, lk_app0, lk_sapp, lk_sapp0, lk_z, lk_s, st_app, st_app0, st_sapp, st_sapp0, len_set, set_set, sq_lk, ix_lk, sl_lk, len_lk, tuple_lk, list_lk, list_tup, ty_lk, stays_lk, set_lk, add_lk, app_lk, ext_lk, clear_lk, recv_lk, get2_lk, tr_lk, gp_0, gp_1, gp_2, gp_3, gp_4, gp_5, gp_6, gp_7, gp_8, ko_n, ko_s, ko_p, gq_1, gq_2, gq_3, gq_4, gq_5, gq_6, gq_7, gq_8, gq_9, gq_10, gq_11, gq_12, gq_13, gq_14, gq_15, gq_16, gcR, Nat.lt_irrefl, Nat.not_lt_zero, List.take_succ_cons, List.take_zero, List.take_nil, D.beqL_self, at_2, at_3, ixN, Nat.reduceLT, Nat.reduceLeDiff, Int.reduceToNat, Int.reduceNeg, Int.reduceSub, Int.reduceAdd, Int.reduceMul, sz_lt, Int.zero_add, mod_int, pr_int, pr_bl, pr_non, pr_str, pr_tup, pr_nil, pr_cons, pr_lst, pr_ints, pr_prs, pr_app, pr_kD, mt_1, mt_2, mt_3, mt_4, mt_5, mt_6, mt_7, rev_lk, max_lk, min_lk, sum_lk, any_lk, all_lk, count_lk, index_lk, pop_lk, eq_D, ne_D, eqD_ll, eqD_tt, eqL_ll, eqS_same, eqS_nil, eqS_ints, eqD_ii, eqD_kk, py_app, py_nil, py_cons, py_ints, py_int, py_bl, py_non, py_kD, py_links, py_prs, py_mapi, pr_mapi, pr_linksT, gt_np, pr_loc, pr_stps, pr_stp, aug_add, aug_sub, ko_app, take_left', len_aa, lcS, ite_b, bnd_if, seqF_if, out_if, bopB_and, bopB_or, bopD_and, bopD_or, if_same_bool, if_bf, if_bx, if_xt, ix_stp, wD])
  subst e
  clear hX
  simp only [bnd_some, bnd_none, opt_some, opt_none, seqF_next, seqF_brk, seqF_cnt, seqF_ret, ts_nil, ts_cons, out_ret, out_next, ite_t, ite_f, bop_and_t, bop_and_f, bop_or_t, bop_or_f, bb_and_t, bb_and_f, bb_or_t, bb_or_f, slot_0, slot_s, e_con, b_con, e_var, b_var, e_glo, b_glo, e_tup, b_tup, e_lst, b_lst, e_dct, b_dct, e_op, b_op, e_neg, b_neg, e_not, b_not, e_bop, b_bop, e_cmp, b_cmp, e_chn, b_chn, e_ifx, b_ifx, e_ix, b_ix, e_sl, b_sl, e_call, b_call, e_bi, b_bi, e_mxd, b_mxd, e_isi, b_isi, e_isl, b_isl, e_lrg, b_lrg, e_mt, b_mt, e_lc, b_lc, e_rev, b_rev, e_gtp, e_lrg1, i_rng3, bop_1, bop_2, bb_1, bb_2, es_nil, es_cons, eo_none, eo_some, if_none, if_some, i_ex, i_rng1, i_rng2, i_enm, q_nm, q_tp, q_sb, setK_some, qs_nil, qs_cons, t_asg, t_aug, t_ex, t_ret, t_retN, t_iff, t_fr, t_whl, t_brk, t_cnt, t_pas, con_none, con_bool, con_int, con_str, neg_int, not_bl, int_int, add_int, sub_int, lt_int, le_int, gt_int, ge_int, eq_int, ne_int, is_nn, is_in, is_bb, isn_nn, isn_in, isn_bb, tr_non, tr_bl, tr_int, ty_non, ty_bl, ty_int, ty_tup, ty_ro, isa_int_int, isa_int_bool, isa_int_list, isa_int_tuple, isa_list_list, isa_list_tuple, isa_tuple_list, isa_tuple_tuple, sq_tup, sq_ro, bi_int_int, bi_int_bl, bi_tuple_tup, bi_min, bi_max, bi_len_tup, bi_len_ro, ix_tup, ix_ro, sl_tup, sl_ro, stays_tup, stays_ro, at_0, at_1, gc_ai, gc_aai, gc_aaai, gc_ab, gc_aab, gc_aaab, gc_an, gc_aan, gc_aaan, gc_same, wipe_nil, wipe_cons, sz_0, sz_1, sz_2, sz_3, sz_4, sz_5, sz_6, sz_7, sz_8, sz_9, sz_10, runDef, runFull, Def.full, startD, List.length_cons, List.length_nil, List.map_cons, List.map_nil, List.append_nil, List.nil_append, List.cons_append, List.drop_nil, List.drop_zero, List.set_cons_zero, List.set_cons_succ, List.replicate, if_true, if_false, Bool.not_true, Bool.not_false, Bool.true_or, Bool.false_or, Option.map_some, Option.map_none, Nat.zero_add, Nat.add_zero, Nat.sub_self, Nat.reduceAdd, Nat.reduceSub, ↓reduceIte, Bool.and_true, Bool.true_and, Bool.false_and, Bool.and_false, Int.cast_ofNat_Int, decide_true, decide_false, Int.reduceEq, Int.reduceLT, Int.reduceLE, Bool.false_eq_true, List.append_assoc, List.length_append, lk_app, lk_app0, lk_sapp, lk_sapp0, lk_z, lk_s, st_app, st_app0, st_sapp, st_sapp0, len_set, set_set, sq_lk, ix_lk, sl_lk, len_lk, tuple_lk, list_lk, list_tup, ty_lk, stays_lk, set_lk, add_lk, app_lk, ext_lk, clear_lk, recv_lk, get2_lk, tr_lk, gp_0, gp_1, gp_2, gp_3, gp_4, gp_5, gp_6, gp_7, gp_8, ko_n, ko_s, ko_p, gq_1, gq_2, gq_3, gq_4, gq_5, gq_6, gq_7, gq_8, gq_9, gq_10, gq_11, gq_12, gq_13, gq_14, gq_15, gq_16, gcR, Nat.lt_irrefl, Nat.not_lt_zero, List.take_succ_cons, List.take_zero, List.take_nil, D.beqL_self, at_2, at_3, ixN, Nat.reduceLT, Nat.reduceLeDiff, Int.reduceToNat, Int.reduceNeg, Int.reduceSub, Int.reduceAdd, Int.reduceMul, sz_lt, Int.zero_add, mod_int, pr_int, pr_bl, pr_non, pr_str, pr_tup, pr_nil, pr_cons, pr_lst, pr_ints, pr_prs, pr_app, pr_kD, mt_1, mt_2, mt_3, mt_4, mt_5, mt_6, mt_7, rev_lk, max_lk, min_lk, sum_lk, any_lk, all_lk, count_lk, index_lk, pop_lk, eq_D, ne_D, eqD_ll, eqD_tt, eqL_ll, eqS_same, eqS_nil, eqS_ints, eqD_ii, eqD_kk, py_app, py_nil, py_cons, py_ints, py_int, py_bl, py_non, py_kD, py_links, py_prs, py_mapi, pr_mapi, pr_linksT, gt_np, pr_loc, pr_stps, pr_stp, aug_add, aug_sub, ko_app, take_left', len_aa]
  generalize hX : lcD _ _ _ _ _ _ _ = X
  have e := lc_pf (fun s => !isEE s) wD hX (by simp only [List.append_assoc, List.length_append, lk_app, lk_app0, lk_sapp, lk_sapp0, lk_z, lk_s, st_app, st_app0, st_sapp, st_sapp0, len_set, set_set, sq_lk, ix_lk, sl_lk, len_lk, tuple_lk, list_lk, list_tup, ty_lk, stays_lk, set_lk, add_lk, app_lk, ext_lk, clear_lk, recv_lk, get2_lk, tr_lk, gp_0, gp_1, gp_2, gp_3, gp_4, gp_5, gp_6, gp_7, gp_8, ko_n, ko_s, ko_p, gq_1, gq_2, gq_3, gq_4, gq_5, gq_6, gq_7, gq_8, gq_9, gq_10, gq_11, gq_12, gq_13, gq_14, gq_15, gq_16, gcR, Nat.lt_irrefl, Nat.not_lt_zero, List.take_succ_cons, List.take_zero, List.take_nil, D.beqL_self, at_2, at_3, ixN, Nat.reduceLT, Nat.reduceLeDiff, Int.reduceToNat, Int.reduceNeg, Int.reduceSub, Int.reduceAdd, Int.reduceMul, sz_lt, Int.zero_add, mod_int, pr_int, pr_bl, pr_non, pr_str, pr_tup, pr_nil, pr_cons, pr_lst, pr_ints, pr_prs, pr_app, pr_kD, mt_1, mt_2, mt_3, mt_4, mt_5, mt_6, mt_7, rev_lk, max_lk, min_lk, sum_lk, any_lk, all_lk, count_lk, index_lk, pop_lk, eq_D, ne_D, eqD_ll, eqD_tt, eqL_ll, eqS_same, eqS_nil, eqS_ints, eqD_ii, eqD_kk, py_app, py_nil, py_cons, py_ints, py_int, py_bl, py_non, py_kD, py_links, py_prs, py_mapi, pr_mapi, pr_linksT, gt_np, pr_loc, pr_stps, pr_stp, aug_add, aug_sub, ko_app, take_left', len_aa]) (le_size (by simp; omega)) (fun s hs => by simp only [bnd_some, bnd_none, opt_some, opt_none, seqF_next, seqF_brk, seqF_cnt, seqF_ret, ts_nil, ts_cons, out_ret, out_next, ite_t, ite_f, bop_and_t, bop_and_f, bop_or_t, bop_or_f, bb_and_t, bb_and_f, bb_or_t, bb_or_f, slot_0, slot_s, e_con, b_con, e_var, b_var, e_glo, b_glo, e_tup, b_tup, e_lst, b_lst, e_dct, b_dct, e_op, b_op, e_neg, b_neg, e_not, b_not, e_bop, b_bop, e_cmp, b_cmp, e_chn, b_chn, e_ifx, b_ifx, e_ix, b_ix, e_sl, b_sl, e_call, b_call, e_bi, b_bi, e_mxd, b_mxd, e_isi, b_isi, e_isl, b_isl, e_lrg, b_lrg, e_mt, b_mt, e_lc, b_lc, e_rev, b_rev, e_gtp, e_lrg1, i_rng3, bop_1, bop_2, bb_1, bb_2, es_nil, es_cons, eo_none, eo_some, if_none, if_some, i_ex, i_rng1, i_rng2, i_enm, q_nm, q_tp, q_sb, setK_some, qs_nil, qs_cons, t_asg, t_aug, t_ex, t_ret, t_retN, t_iff, t_fr, t_whl, t_brk, t_cnt, t_pas, con_none, con_bool, con_int, con_str, neg_int, not_bl, int_int, add_int, sub_int, lt_int, le_int, gt_int, ge_int, eq_int, ne_int, is_nn, is_in, is_bb, isn_nn, isn_in, isn_bb, tr_non, tr_bl, tr_int, ty_non, ty_bl, ty_int, ty_tup, ty_ro, isa_int_int, isa_int_bool, isa_int_list, isa_int_tuple, isa_list_list, isa_list_tuple, isa_tuple_list, isa_tuple_tuple, sq_tup, sq_ro, bi_int_int, bi_int_bl, bi_tuple_tup, bi_min, bi_max, bi_len_tup, bi_len_ro, ix_tup, ix_ro, sl_tup, sl_ro, stays_tup, stays_ro, at_0, at_1, gc_ai, gc_aai, gc_aaai, gc_ab, gc_aab, gc_aaab, gc_an, gc_aan, gc_aaan, gc_same, wipe_nil, wipe_cons, sz_0, sz_1, sz_2, sz_3, sz_4, sz_5, sz_6, sz_7, sz_8, sz_9, sz_10, runDef, runFull, Def.full, startD, List.length_cons, List.length_nil, List.map_cons, List.map_nil, List.append_nil, List.nil_append, List.cons_append, List.drop_nil, List.drop_zero, List.set_cons_zero, List.set_cons_succ, List.replicate, if_true, if_false, Bool.not_true, Bool.not_false, Bool.true_or, Bool.false_or, Option.map_some, Option.map_none, Nat.zero_add, Nat.add_zero, Nat.sub_self, Nat.reduceAdd, Nat.reduceSub, ↓reduceIte, Bool.and_true, Bool.true_and, Bool.false_and, Bool.and_false, Int.cast_ofNat_Int, decide_true, decide_false, Int.reduceEq, Int.reduceLT, Int.reduceLE, Bool.false_eq_true, List.append_assoc, List.length_append, lk_app, lk_app0, lk_sapp, lk_sapp0, lk_z, lk_s, st_app, st_app0, st_sapp, st_sapp0, len_set, set_set, sq_lk, ix_lk, sl_lk, len_lk, tuple_lk, list_lk, list_tup, ty_lk, stays_lk, set_lk, add_lk, app_lk, ext_lk, clear_lk, recv_lk, get2_lk, tr_lk, gp_0, gp_1, gp_2, gp_3, gp_4, gp_5, gp_6, gp_7, gp_8, ko_n, ko_s, ko_p, gq_1, gq_2, gq_3, gq_4, gq_5, gq_6, gq_7, gq_8, gq_9, gq_10, gq_11, gq_12, gq_13, gq_14, gq_15, gq_16, gcR, Nat.lt_irrefl, Nat.not_lt_zero, List.take_succ_cons, List.take_zero, List.take_nil, D.beqL_self, at_2, at_3, ixN, Nat.reduceLT, Nat.reduceLeDiff, Int.reduceToNat, Int.reduceNeg, Int.reduceSub, Int.reduceAdd, Int.reduceMul, sz_lt, Int.zero_add, mod_int, pr_int, pr_bl, pr_non, pr_str, pr_tup, pr_nil, pr_cons, pr_lst, pr_ints, pr_prs, pr_app, pr_kD, mt_1, mt_2, mt_3, mt_4, mt_5, mt_6, mt_7, rev_lk, max_lk, min_lk, sum_lk, any_lk, all_lk, count_lk, index_lk, pop_lk, eq_D, ne_D, eqD_ll, eqD_tt, eqL_ll, eqS_same, eqS_nil, eqS_ints, eqD_ii, eqD_kk, py_app, py_nil, py_cons, py_ints, py_int, py_bl, py_non, py_kD, py_links, py_prs, py_mapi, pr_mapi, pr_linksT, gt_np, pr_loc, pr_stps, pr_stp, aug_add, aug_sub, ko_app, take_left', len_aa, lcS, ite_b, bnd_if, seqF_if, out_if, bopB_and, bopB_or, bopD_and, bopD_or, if_same_bool, if_bf, if_bx, if_xt, notin_EE])
  subst e
  clear hX
  simp only [bnd_some, bnd_none, opt_some, opt_none, seqF_next, seqF_brk, seqF_cnt, seqF_ret, ts_nil, ts_cons, out_ret, out_next, ite_t, ite_f, bop_and_t, bop_and_f, bop_or_t, bop_or_f, bb_and_t, bb_and_f, bb_or_t, bb_or_f, slot_0, slot_s, e_con, b_con, e_var, b_var, e_glo, b_glo, e_tup, b_tup, e_lst, b_lst, e_dct, b_dct, e_op, b_op, e_neg, b_neg, e_not, b_not, e_bop, b_bop, e_cmp, b_cmp, e_chn, b_chn, e_ifx, b_ifx, e_ix, b_ix, e_sl, b_sl, e_call, b_call, e_bi, b_bi, e_mxd, b_mxd, e_isi, b_isi, e_isl, b_isl, e_lrg, b_lrg, e_mt, b_mt, e_lc, b_lc, e_rev, b_rev, e_gtp, e_lrg1, i_rng3, bop_1, bop_2, bb_1, bb_2, es_nil, es_cons, eo_none, eo_some, if_none, if_some, i_ex, i_rng1, i_rng2, i_enm, q_nm, q_tp, q_sb, setK_some, qs_nil, qs_cons, t_asg, t_aug, t_ex, t_ret, t_retN, t_iff, t_fr, t_whl, t_brk, t_cnt, t_pas, con_none, con_bool, con_int, con_str, neg_int, not_bl, int_int, add_int, sub_int, lt_int, le_int, gt_int, ge_int, eq_int, ne_int, is_nn, is_in, is_bb, isn_nn, isn_in, isn_bb, tr_non, tr_bl, tr_int, ty_non, ty_bl, ty_int, ty_tup, ty_ro, isa_int_int, isa_int_bool, isa_int_list, isa_int_tuple, isa_list_list, isa_list_tuple, isa_tuple_list, isa_tuple_tuple, sq_tup, sq_ro, bi_int_int, bi_int_bl, bi_tuple_tup, bi_min, bi_max, bi_len_tup, bi_len_ro, ix_tup, ix_ro, sl_tup, sl_ro, stays_tup, stays_ro, at_0, at_1, gc_ai, gc_aai, gc_aaai, gc_ab, gc_aab, gc_aaab, gc_an, gc_aan, gc_aaan, gc_same, wipe_nil, wipe_cons, sz_0, sz_1, sz_2, sz_3, sz_4, sz_5, sz_6, sz_7, sz_8, sz_9, sz_10, runDef, runFull, Def.full, startD, List.length_cons, List.length_nil, List.map_cons, List.map_nil, List.append_nil, List.nil_append, List.cons_append, List.drop_nil, List.drop_zero, List.set_cons_zero, List.set_cons_succ, List.replicate, if_true, if_false, Bool.not_true, Bool.not_false, Bool.true_or, Bool.false_or, Option.map_some, Option.map_none, Nat.zero_add, Nat.add_zero, Nat.sub_self, Nat.reduceAdd, Nat.reduceSub, ↓reduceIte, Bool.and_true, Bool.true_and, Bool.false_and, Bool.and_false, Int.cast_ofNat_Int, decide_true, decide_false, Int.reduceEq, Int.reduceLT, Int.reduceLE, Bool.false_eq_true, List.append_assoc, List.length_append, lk_app, lk_app0, lk_sapp, lk_sapp0, lk_z, lk_s, st_app, st_app0, st_sapp, st_sapp0, len_set, set_set, sq_lk, ix_lk, sl_lk, len_lk, tuple_lk, list_lk, list_tup, ty_lk, stays_lk, set_lk, add_lk, app_lk, ext_lk, clear_lk, recv_lk, get2_lk, tr_lk, gp_0, gp_1, gp_2, gp_3, gp_4, gp_5, gp_6, gp_7, gp_8, ko_n, ko_s, ko_p, gq_1, gq_2, gq_3, gq_4, gq_5, gq_6, gq_7, gq_8, gq_9, gq_10, gq_11, gq_12, gq_13, gq_14, gq_15, gq_16, gcR, Nat.lt_irrefl, Nat.not_lt_zero, List.take_succ_cons, List.take_zero, List.take_nil, D.beqL_self, at_2, at_3, ixN, Nat.reduceLT, Nat.reduceLeDiff, Int.reduceToNat, Int.reduceNeg, Int.reduceSub, Int.reduceAdd, Int.reduceMul, sz_lt, Int.zero_add, mod_int, pr_int, pr_bl, pr_non, pr_str, pr_tup, pr_nil, pr_cons, pr_lst, pr_ints, pr_prs, pr_app, pr_kD, mt_1, mt_2, mt_3, mt_4, mt_5, mt_6, mt_7, rev_lk, max_lk, min_lk, sum_lk, any_lk, all_lk, count_lk, index_lk, pop_lk, eq_D, ne_D, eqD_ll, eqD_tt, eqL_ll, eqS_same, eqS_nil, eqS_ints, eqD_ii, eqD_kk, py_app, py_nil, py_cons, py_ints, py_int, py_bl, py_non, py_kD, py_links, py_prs, py_mapi, pr_mapi, pr_linksT, gt_np, pr_loc, pr_stps, pr_stp, aug_add, aug_sub, ko_app, take_left', len_aa, cnt_wD, len_filter, ko_pre, take_pre]
  all_goals rfl
theorem finger_cost_of (k : Nat) {v : D} {tw : Tws} {f key : Int} {S : Store} (hv : IsTw S v tw) (hh : ∀ p ∈ tw, p.2 ≤ 900) (hb : (sbS tw f key).length ≤ 10000) : orc defs (k + 6) 15 [v, .int f, .int key] S = some (.tup (cstD (sbS tw f key) (sbL tw f key)), S) := by
  rw [orc_at (d := d_finger_cost) rfl]
  simp only [d_finger_cost, b_finger_cost, bnd_some, bnd_none, opt_some, opt_none, seqF_next, seqF_brk, seqF_cnt, seqF_ret, ts_nil, ts_cons, out_ret, out_next, ite_t, ite_f, bop_and_t, bop_and_f, bop_or_t, bop_or_f, bb_and_t, bb_and_f, bb_or_t, bb_or_f, slot_0, slot_s, e_con, b_con, e_var, b_var, e_glo, b_glo, e_tup, b_tup, e_lst, b_lst, e_dct, b_dct, e_op, b_op, e_neg, b_neg, e_not, b_not, e_bop, b_bop, e_cmp, b_cmp, e_chn, b_chn, e_ifx, b_ifx, e_ix, b_ix, e_sl, b_sl, e_call, b_call, e_bi, b_bi, e_mxd, b_mxd, e_isi, b_isi, e_isl, b_isl, e_lrg, b_lrg, e_mt, b_mt, e_lc, b_lc, e_rev, b_rev, e_gtp, e_lrg1, i_rng3, bop_1, bop_2, bb_1, bb_2, es_nil, es_cons, eo_none, eo_some, if_none, if_some, i_ex, i_rng1, i_rng2, i_enm, q_nm, q_tp, q_sb, setK_some, qs_nil, qs_cons, t_asg, t_aug, t_ex, t_ret, t_retN, t_iff, t_fr, t_whl, t_brk, t_cnt, t_pas, con_none, con_bool, con_int, con_str, neg_int, not_bl, int_int, add_int, sub_int, lt_int, le_int, gt_int, ge_int, eq_int, ne_int, is_nn, is_in, is_bb, isn_nn, isn_in, isn_bb, tr_non, tr_bl, tr_int, ty_non, ty_bl, ty_int, ty_tup, ty_ro, isa_int_int, isa_int_bool, isa_int_list, isa_int_tuple, isa_list_list, isa_list_tuple, isa_tuple_list, isa_tuple_tuple, sq_tup, sq_ro, bi_int_int, bi_int_bl, bi_tuple_tup, bi_min, bi_max, bi_len_tup, bi_len_ro, ix_tup, ix_ro, sl_tup, sl_ro, stays_tup, stays_ro, at_0, at_1, gc_ai, gc_aai, gc_aaai, gc_ab, gc_aab, gc_aaab, gc_an, gc_aan, gc_aaan, gc_same, wipe_nil, wipe_cons, sz_0, sz_1, sz_2, sz_3, sz_4, sz_5, sz_6, sz_7, sz_8, sz_9, sz_10, runDef, runFull, Def.full, startD, List.length_cons, List.length_nil, List.map_cons, List.map_nil, List.append_nil, List.nil_append, List.cons_append, List.drop_nil, List.drop_zero, List.set_cons_zero, List.set_cons_succ, List.replicate, if_true, if_false, Bool.not_true, Bool.not_false, Bool.true_or, Bool.false_or, Option.map_some, Option.map_none, Nat.zero_add, Nat.add_zero, Nat.sub_self, Nat.reduceAdd, Nat.reduceSub, ↓reduceIte, Bool.and_true, Bool.true_and, Bool.false_and, Bool.and_false, Int.cast_ofNat_Int, decide_true, decide_false, Int.reduceEq, Int.reduceLT, Int.reduceLE, Bool.false_eq_true, List.append_assoc, List.length_append, lk_app, lk_app0, lk_sapp, lk_sapp0, lk_z, lk_s, st_app, st_app0, st_sapp, st_sapp0, len_set, set_set, sq_lk, ix_lk, sl_lk, len_lk, tuple_lk, list_lk, list_tup, ty_lk, stays_lk, set_lk, add_lk, app_lk, ext_lk, clear_lk, recv_lk, get2_lk, tr_lk, gp_0, gp_1, gp_2, gp_3, gp_4, gp_5, gp_6, gp_7, gp_8, ko_n, ko_s, ko_p, gq_1, gq_2, gq_3, gq_4, gq_5, gq_6, gq_7, gq_8, gq_9, gq_10, gq_11, gq_12, gq_13, gq_14, gq_15, gq_16, gcR, Nat.lt_irrefl, Nat.not_lt_zero, List.take_succ_cons, List.take_zero, List.take_nil, D.beqL_self, at_2, at_3, ixN, Nat.reduceLT, Nat.reduceLeDiff, Int.reduceToNat, Int.reduceNeg, Int.reduceSub, Int.reduceAdd, Int.reduceMul, sz_lt, Int.zero_add, mod_int, pr_int, pr_bl, pr_non, pr_str, pr_tup, pr_nil, pr_cons, pr_lst, pr_ints, pr_prs, pr_app, pr_kD, mt_1, mt_2, mt_3, mt_4, mt_5, mt_6, mt_7, rev_lk, max_lk, min_lk, sum_lk, any_lk, all_lk, count_lk, index_lk, pop_lk, eq_D, ne_D, eqD_ll, eqD_tt, eqL_ll, eqS_same, eqS_nil, eqS_ints, eqD_ii, eqD_kk, py_app, py_nil, py_cons, py_ints, py_int, py_bl, py_non, py_kD, py_links, py_prs, py_mapi, pr_mapi, pr_linksT, gt_np, pr_loc, pr_stps, pr_stp, aug_add, aug_sub, ko_app, take_left', len_aa, checked_of (k + 1) hv, look_key_of (k + 3), cost_between_of k hv.fine hv.len hh hb]

end K51

end

section
set_option maxHeartbeats 1000000
namespace K51
open PySem PySem.Spec Mi
open L2 (atI ixN Key)
theorem lnext_of (k : Nat) {tw : Tws} {S : Store} {key : Option Int} {l : Int} (hl : tw.length ≤ 1000) : orc defs (k + 1) 22 [.tup (tw.map prD), kD key, .int l] S = some (kD (nextK tw key l), S) := by
  rw [orc_at (d := d__law_next) rfl]
  simp only [d__law_next, b__law_next, bnd_some, bnd_none, opt_some, opt_none, seqF_next, seqF_brk, seqF_cnt, seqF_ret, ts_nil, ts_cons, out_ret, out_next, ite_t, ite_f, bop_and_t, bop_and_f, bop_or_t, bop_or_f, bb_and_t, bb_and_f, bb_or_t, bb_or_f, slot_0, slot_s, e_con, b_con, e_var, b_var, e_glo, b_glo, e_tup, b_tup, e_lst, b_lst, e_dct, b_dct, e_op, b_op, e_neg, b_neg, e_not, b_not, e_bop, b_bop, e_cmp, b_cmp, e_chn, b_chn, e_ifx, b_ifx, e_ix, b_ix, e_sl, b_sl, e_call, b_call, e_bi, b_bi, e_mxd, b_mxd, e_isi, b_isi, e_isl, b_isl, e_lrg, b_lrg, e_mt, b_mt, e_lc, b_lc, e_rev, b_rev, e_gtp, e_lrg1, i_rng3, bop_1, bop_2, bb_1, bb_2, es_nil, es_cons, eo_none, eo_some, if_none, if_some, i_ex, i_rng1, i_rng2, i_enm, q_nm, q_tp, q_sb, setK_some, qs_nil, qs_cons, t_asg, t_aug, t_ex, t_ret, t_retN, t_iff, t_fr, t_whl, t_brk, t_cnt, t_pas, con_none, con_bool, con_int, con_str, neg_int, not_bl, int_int, add_int, sub_int, lt_int, le_int, gt_int, ge_int, eq_int, ne_int, is_nn, is_in, is_bb, isn_nn, isn_in, isn_bb, tr_non, tr_bl, tr_int, ty_non, ty_bl, ty_int, ty_tup, ty_ro, isa_int_int, isa_int_bool, isa_int_list, isa_int_tuple, isa_list_list, isa_list_tuple, isa_tuple_list, isa_tuple_tuple, sq_tup, sq_ro, bi_int_int, bi_int_bl, bi_tuple_tup, bi_min, bi_max, bi_len_tup, bi_len_ro, ix_tup, ix_ro, sl_tup, sl_ro, stays_tup, stays_ro, at_0, at_1, gc_ai, gc_aai, gc_aaai, gc_ab, gc_aab, gc_aaab, gc_an, gc_aan, gc_aaan, gc_same, wipe_nil, wipe_cons, sz_0, sz_1, sz_2, sz_3, sz_4, sz_5, sz_6, sz_7, sz_8, sz_9, sz_10, runDef, runFull, Def.full, startD, List.length_cons, List.length_nil, List.map_cons, List.map_nil, List.append_nil, List.nil_append, List.cons_append, List.drop_nil, List.drop_zero, List.set_cons_zero, List.set_cons_succ, List.replicate, if_true, if_false, Bool.not_true, Bool.not_false, Bool.true_or, Bool.false_or, Option.map_some, Option.map_none, Nat.zero_add, Nat.add_zero, Nat.sub_self, Nat.reduceAdd, Nat.reduceSub, ↓reduceIte, Bool.and_true, Bool.true_and, Bool.false_and, Bool.and_false, Int.cast_ofNat_Int, decide_true, decide_false, Int.reduceEq, Int.reduceLT, Int.reduceLE, Bool.false_eq_true, List.append_assoc, List.length_append, lk_app, lk_app0, lk_sapp, lk_sapp0, lk_z, lk_s, st_app, st_app0, st_sapp, st_sapp0, len_set, set_set, sq_lk, ix_lk, sl_lk, len_lk, tuple_lk, list_lk, list_tup, ty_lk, stays_lk, set_lk, add_lk, app_lk, ext_lk, clear_lk, recv_lk, get2_lk, tr_lk, gp_0, gp_1, gp_2, gp_3, gp_4, gp_5, gp_6, gp_7, gp_8, ko_n, ko_s, ko_p, gq_1, gq_2, gq_3, gq_4, gq_5, gq_6, gq_7, gq_8, gq_9, gq_10, gq_11, gq_12, gq_13, gq_14, gq_15, gq_16, gcR, Nat.lt_irrefl, Nat.not_lt_zero, List.take_succ_cons, List.take_zero, List.take_nil, D.beqL_self, at_2, at_3, ixN, Nat.reduceLT, Nat.reduceLeDiff, Int.reduceToNat, Int.reduceNeg, Int.reduceSub, Int.reduceAdd, Int.reduceMul, sz_lt, Int.zero_add, mod_int, pr_int, pr_bl, pr_non, pr_str, pr_tup, pr_nil, pr_cons, pr_lst, pr_ints, pr_prs, pr_app, pr_kD, mt_1, mt_2, mt_3, mt_4, mt_5, mt_6, mt_7, rev_lk, max_lk, min_lk, sum_lk, any_lk, all_lk, count_lk, index_lk, pop_lk, eq_D, ne_D, eqD_ll, eqD_tt, eqL_ll, eqS_same, eqS_nil, eqS_ints, eqD_ii, eqD_kk, py_app, py_nil, py_cons, py_ints, py_int, py_bl, py_non, py_kD, py_links, py_prs, py_mapi, pr_mapi, pr_linksT, gt_np, pr_loc, pr_stps, pr_stp, aug_add, aug_sub, ko_app, take_left', len_aa]
  generalize hX : lcD _ _ _ _ _ _ _ = X
  have e := lc_pf (beyond key l) (fun q : Int × Int => D.int q.1) hX rfl (le_size (by simp; omega)) (fun q hq => by
    cases key with
    | none => simp only [bnd_some, bnd_none, opt_some, opt_none, seqF_next, seqF_brk, seqF_cnt, seqF_ret, ts_nil, ts_cons, out_ret, out_next, ite_t, ite_f, bop_and_t, bop_and_f, bop_or_t, bop_or_f, bb_and_t, bb_and_f, bb_or_t, bb_or_f, slot_0, slot_s, e_con, b_con, e_var, b_var, e_glo, b_glo, e_tup, b_tup, e_lst, b_lst, e_dct, b_dct, e_op, b_op, e_neg, b_neg, e_not, b_not, e_bop, b_bop, e_cmp, b_cmp, e_chn, b_chn, e_ifx, b_ifx, e_ix, b_ix, e_sl, b_sl, e_call, b_call, e_bi, b_bi, e_mxd, b_mxd, e_isi, b_isi, e_isl, b_isl, e_lrg, b_lrg, e_mt, b_mt, e_lc, b_lc, e_rev, b_rev, e_gtp, e_lrg1, i_rng3, bop_1, bop_2, bb_1, bb_2, es_nil, es_cons, eo_none, eo_some, if_none, if_some, i_ex, i_rng1, i_rng2, i_enm, q_nm, q_tp, q_sb, setK_some, qs_nil, qs_cons, t_asg, t_aug, t_ex, t_ret, t_retN, t_iff, t_fr, t_whl, t_brk, t_cnt, t_pas, con_none, con_bool, con_int, con_str, neg_int, not_bl, int_int, add_int, sub_int, lt_int, le_int, gt_int, ge_int, eq_int, ne_int, is_nn, is_in, is_bb, isn_nn, isn_in, isn_bb, tr_non, tr_bl, tr_int, ty_non, ty_bl, ty_int, ty_tup, ty_ro, isa_int_int, isa_int_bool, isa_int_list, isa_int_tuple, isa_list_list, isa_list_tuple, isa_tuple_list, isa_tuple_tuple, sq_tup, sq_ro, bi_int_int, bi_int_bl, bi_tuple_tup, bi_min, bi_max, bi_len_tup, bi_len_ro, ix_tup, ix_ro, sl_tup, sl_ro, stays_tup, stays_ro, at_0, at_1, gc_ai, gc_aai, gc_aaai, gc_ab, gc_aab, gc_aaab, gc_an, gc_aan, gc_aaan, gc_same, wipe_nil, wipe_cons, sz_0, sz_1, sz_2, sz_3, sz_4, sz_5, sz_6, sz_7, sz_8, sz_9, sz_10, runDef, runFull, Def.full, startD, List.length_cons, List.length_nil, List.map_cons, List.map_nil, List.append_nil, List.nil_append, List.cons_append, List.drop_nil, List.drop_zero, List.set_cons_zero, List.set_cons_succ, List.replicate, if_true, if_false, Bool.not_true, Bool.not_false, Bool.true_or, Bool.false_or, Option.map_some, Option.map_none, Nat.zero_add, Nat.add_zero, Nat.sub_self, Nat.reduceAdd, Nat.reduceSub, ↓reduceIte, Bool.and_true, Bool.true_and, Bool.false_and, Bool.and_false, Int.cast_ofNat_Int, decide_true, decide_false, Int.reduceEq, Int.reduceLT, Int.reduceLE, Bool.false_eq_true, List.append_assoc, List.length_append, lk_app, lk_app0, lk_sapp, lk_sapp0, lk_z, lk_s, st_app, st_app0, st_sapp, st_sapp0, len_set, set_set, sq_lk, ix_lk, sl_lk, len_lk, tuple_lk, list_lk, list_tup, ty_lk, stays_lk, set_lk, add_lk, app_lk, ext_lk, clear_lk, recv_lk, get2_lk, tr_lk, gp_0, gp_1, gp_2, gp_3, gp_4, gp_5, gp_6, gp_7, gp_8, ko_n, ko_s, ko_p, gq_1, gq_2, gq_3, gq_4, gq_5, gq_6, gq_7, gq_8, gq_9, gq_10, gq_11, gq_12, gq_13, gq_14, gq_15, gq_16, gcR, Nat.lt_irrefl, Nat.not_lt_zero, List.take_succ_cons, List.take_zero, List.take_nil, D.beqL_self, at_2, at_3, ixN, Nat.reduceLT, Nat.reduceLeDiff, Int.reduceToNat, Int.reduceNeg, Int.reduceSub, Int.reduceAdd, Int.reduceMul, sz_lt, Int.zero_add, mod_int, pr_int, pr_bl, pr_non, pr_str, pr_tup, pr_nil, pr_cons, pr_lst, pr_ints, pr_prs, pr_app, pr_kD, mt_1, mt_2, mt_3, mt_4, mt_5, mt_6, mt_7, rev_lk, max_lk, min_lk, sum_lk, any_lk, all_lk, count_lk, index_lk, pop_lk, eq_D, ne_D, eqD_ll, eqD_tt, eqL_ll, eqS_same, eqS_nil, eqS_ints, eqD_ii, eqD_kk, py_app, py_nil, py_cons, py_ints, py_int, py_bl, py_non, py_kD, py_links, py_prs, py_mapi, pr_mapi, pr_linksT, gt_np, pr_loc, pr_stps, pr_stp, aug_add, aug_sub, ko_app, take_left', len_aa, lcS, ite_b, bnd_if, seqF_if, out_if, bopB_and, bopB_or, bopD_and, bopD_or, if_same_bool, if_bf, if_bx, if_xt, prD, kD_n, beyond_n]; all_goals rfl
    | some y => simp only [bnd_some, bnd_none, opt_some, opt_none, seqF_next, seqF_brk, seqF_cnt, seqF_ret, ts_nil, ts_cons, out_ret, out_next, ite_t, ite_f, bop_and_t, bop_and_f, bop_or_t, bop_or_f, bb_and_t, bb_and_f, bb_or_t, bb_or_f, slot_0, slot_s, e_con, b_con, e_var, b_var, e_glo, b_glo, e_tup, b_tup, e_lst, b_lst, e_dct, b_dct, e_op, b_op, e_neg, b_neg, e_not, b_not, e_bop, b_bop, e_cmp, b_cmp, e_chn, b_chn, e_ifx, b_ifx, e_ix, b_ix, e_sl, b_sl, e_call, b_call, e_bi, b_bi, e_mxd, b_mxd, e_isi, b_isi, e_isl, b_isl, e_lrg, b_lrg, e_mt, b_mt, e_lc, b_lc, e_rev, b_rev, e_gtp, e_lrg1, i_rng3, bop_1, bop_2, bb_1, bb_2, es_nil, es_cons, eo_none, eo_some, if_none, if_some, i_ex, i_rng1, i_rng2, i_enm, q_nm, q_tp, q_sb, setK_some, qs_nil, qs_cons, t_asg, t_aug, t_ex, t_ret, t_retN, t_iff, t_fr, t_whl, t_brk, t_cnt, t_pas, con_none, con_bool, con_int, con_str, neg_int, not_bl, int_int, add_int, sub_int, lt_int, le_int, gt_int, ge_int, eq_int, ne_int, is_nn, is_in, is_bb, isn_nn, isn_in, isn_bb, tr_non, tr_bl, tr_int, ty_non, ty_bl, ty_int, ty_tup, ty_ro, isa_int_int, isa_int_bool, isa_int_list, isa_int_tuple, isa_list_list, isa_list_tuple, isa_tuple_list, isa_tuple_tuple, sq_tup, sq_ro, bi_int_int, bi_int_bl, bi_tuple_tup, bi_min, bi_max, bi_len_tup, bi_len_ro, ix_tup, ix_ro, sl_tup, sl_ro, stays_tup, stays_ro, at_0, at_1, gc_ai, gc_aai, gc_aaai, gc_ab, gc_aab, gc_aaab, gc_an, gc_aan, gc_aaan, gc_same, wipe_nil, wipe_cons, sz_0, sz_1, sz_2, sz_3, sz_4, sz_5, sz_6, sz_7, sz_8, sz_9, sz_10, runDef, runFull, Def.full, startD, List.length_cons, List.length_nil, List.map_cons, List.map_nil, List.append_nil, List.nil_append, List.cons_append, List.drop_nil, List.drop_zero, List.set_cons_zero, List.set_cons_succ, List.replicate, if_true, if_false, Bool.not_true, Bool.not_false, Bool.true_or, Bool.false_or, Option.map_some, Option.map_none, Nat.zero_add, Nat.add_zero, Nat.sub_self, Nat.reduceAdd, Nat.reduceSub, ↓reduceIte, Bool.and_true, Bool.true_and, Bool.false_and, Bool.and_false, Int.cast_ofNat_Int, decide_true, decide_false, Int.reduceEq, Int.reduceLT, Int.reduceLE, Bool.false_eq_true, List.append_assoc, List.length_append, lk_app, lk_app0, lk_sapp, lk_sapp0, lk_z, lk_s, st_app, st_app0, st_sapp, st_sapp0, len_set, set_set, sq_lk, ix_lk, sl_lk, len_lk, tuple_lk, list_lk, list_tup, ty_lk, stays_lk, set_lk, add_lk, app_lk, ext_lk, clear_lk, recv_lk, get2_lk, tr_lk, gp_0, gp_1, gp_2, gp_3, gp_4, gp_5, gp_6, gp_7, gp_8, ko_n, ko_s, ko_p, gq_1, gq_2, gq_3, gq_4, gq_5, gq_6, gq_7, gq_8, gq_9, gq_10, gq_11, gq_12, gq_13, gq_14, gq_15, gq_16, gcR, Nat.lt_irrefl, Nat.not_lt_zero, List.take_succ_cons, List.take_zero, List.take_nil, D.beqL_self, at_2, at_3, ixN, Nat.reduceLT, Nat.reduceLeDiff, Int.reduceToNat, Int.reduceNeg, Int.reduceSub, Int.reduceAdd, Int.reduceMul, sz_lt, Int.zero_add, mod_int, pr_int, pr_bl, pr_non, pr_str, pr_tup, pr_nil, pr_cons, pr_lst, pr_ints, pr_prs, pr_app, pr_kD, mt_1, mt_2, mt_3, mt_4, mt_5, mt_6, mt_7, rev_lk, max_lk, min_lk, sum_lk, any_lk, all_lk, count_lk, index_lk, pop_lk, eq_D, ne_D, eqD_ll, eqD_tt, eqL_ll, eqS_same, eqS_nil, eqS_ints, eqD_ii, eqD_kk, py_app, py_nil, py_cons, py_ints, py_int, py_bl, py_non, py_kD, py_links, py_prs, py_mapi, pr_mapi, pr_linksT, gt_np, pr_loc, pr_stps, pr_stp, aug_add, aug_sub, ko_app, take_left', len_aa, lcS, ite_b, bnd_if, seqF_if, out_if, bopB_and, bopB_or, bopD_and, bopD_or, if_same_bool, if_bf, if_bx, if_xt, prD, kD_s, beyond_s]; all_goals rfl)
  subst e
  simp only [bnd_some, bnd_none, opt_some, opt_none, seqF_next, seqF_brk, seqF_cnt, seqF_ret, ts_nil, ts_cons, out_ret, out_next, ite_t, ite_f, bop_and_t, bop_and_f, bop_or_t, bop_or_f, bb_and_t, bb_and_f, bb_or_t, bb_or_f, slot_0, slot_s, e_con, b_con, e_var, b_var, e_glo, b_glo, e_tup, b_tup, e_lst, b_lst, e_dct, b_dct, e_op, b_op, e_neg, b_neg, e_not, b_not, e_bop, b_bop, e_cmp, b_cmp, e_chn, b_chn, e_ifx, b_ifx, e_ix, b_ix, e_sl, b_sl, e_call, b_call, e_bi, b_bi, e_mxd, b_mxd, e_isi, b_isi, e_isl, b_isl, e_lrg, b_lrg, e_mt, b_mt, e_lc, b_lc, e_rev, b_rev, e_gtp, e_lrg1, i_rng3, bop_1, bop_2, bb_1, bb_2, es_nil, es_cons, eo_none, eo_some, if_none, if_some, i_ex, i_rng1, i_rng2, i_enm, q_nm, q_tp, q_sb, setK_some, qs_nil, qs_cons, t_asg, t_aug, t_ex, t_ret, t_retN, t_iff, t_fr, t_whl, t_brk, t_cnt, t_pas, con_none, con_bool, con_int, con_str, neg_int, not_bl, int_int, add_int, sub_int, lt_int, le_int, gt_int, ge_int, eq_int, ne_int, is_nn, is_in, is_bb, isn_nn, isn_in, isn_bb, tr_non, tr_bl, tr_int, ty_non, ty_bl, ty_int, ty_tup, ty_ro, isa_int_int, isa_int_bool, isa_int_list, isa_int_tuple, isa_list_list, isa_list_tuple, isa_tuple_list, isa_tuple_tuple, sq_tup, sq_ro, bi_int_int, bi_int_bl, bi_tuple_tup, bi_min, bi_max, bi_len_tup, bi_len_ro, ix_tup, ix_ro, sl_tup, sl_ro, stays_tup, stays_ro, at_0, at_1, gc_ai, gc_aai, gc_aaai, gc_ab, gc_aab, gc_aaab, gc_an, gc_aan, gc_aaan, gc_same, wipe_nil, wipe_cons, sz_0, sz_1, sz_2, sz_3, sz_4, sz_5, sz_6, sz_7, sz_8, sz_9, sz_10, runDef, runFull, Def.full, startD, List.length_cons, List.length_nil, List.map_cons, List.map_nil, List.append_nil, List.nil_append, List.cons_append, List.drop_nil, List.drop_zero, List.set_cons_zero, List.set_cons_succ, List.replicate, if_true, if_false, Bool.not_true, Bool.not_false, Bool.true_or, Bool.false_or, Option.map_some, Option.map_none, Nat.zero_add, Nat.add_zero, Nat.sub_self, Nat.reduceAdd, Nat.reduceSub, ↓reduceIte, Bool.and_true, Bool.true_and, Bool.false_and, Bool.and_false, Int.cast_ofNat_Int, decide_true, decide_false, Int.reduceEq, Int.reduceLT, Int.reduceLE, Bool.false_eq_true, List.append_assoc, List.length_append, lk_app, lk_app0, lk_sapp, lk_sapp0, lk_z, lk_s, st_app, st_app0, st_sapp, st_sapp0, len_set, set_set, sq_lk, ix_lk, sl_lk, len_lk, tuple_lk, list_lk, list_tup, ty_lk, stays_lk, set_lk, add_lk, app_lk, ext_lk, clear_lk, recv_lk, get2_lk, tr_lk, gp_0, gp_1, gp_2, gp_3, gp_4, gp_5, gp_6, gp_7, gp_8, ko_n, ko_s, ko_p, gq_1, gq_2, gq_3, gq_4, gq_5, gq_6, gq_7, gq_8, gq_9, gq_10, gq_11, gq_12, gq_13, gq_14, gq_15, gq_16, gcR, Nat.lt_irrefl, Nat.not_lt_zero, List.take_succ_cons, List.take_zero, List.take_nil, D.beqL_self, at_2, at_3, ixN, Nat.reduceLT, Nat.reduceLeDiff, Int.reduceToNat, Int.reduceNeg, Int.reduceSub, Int.reduceAdd, Int.reduceMul, sz_lt, Int.zero_add, mod_int, pr_int, pr_bl, pr_non, pr_str, pr_tup, pr_nil, pr_cons, pr_lst, pr_ints, pr_prs, pr_app, pr_kD, mt_1, mt_2, mt_3, mt_4, mt_5, mt_6, mt_7, rev_lk, max_lk, min_lk, sum_lk, any_lk, all_lk, count_lk, index_lk, pop_lk, eq_D, ne_D, eqD_ll, eqD_tt, eqL_ll, eqS_same, eqS_nil, eqS_ints, eqD_ii, eqD_kk, py_app, py_nil, py_cons, py_ints, py_int, py_bl, py_non, py_kD, py_links, py_prs, py_mapi, pr_mapi, pr_linksT, gt_np, pr_loc, pr_stps, pr_stp, aug_add, aug_sub, ko_app, take_left', len_aa, beyond_map]
  cases he : ((tw.filter (beyond key l)).map (·.1)).isEmpty with
  | true =>
    have h2 : (((tw.filter (beyond key l)).map (·.1)).map D.int).isEmpty = true := by rw [isEmpty_map]; exact he
    simp only [bnd_some, bnd_none, opt_some, opt_none, seqF_next, seqF_brk, seqF_cnt, seqF_ret, ts_nil, ts_cons, out_ret, out_next, ite_t, ite_f, bop_and_t, bop_and_f, bop_or_t, bop_or_f, bb_and_t, bb_and_f, bb_or_t, bb_or_f, slot_0, slot_s, e_con, b_con, e_var, b_var, e_glo, b_glo, e_tup, b_tup, e_lst, b_lst, e_dct, b_dct, e_op, b_op, e_neg, b_neg, e_not, b_not, e_bop, b_bop, e_cmp, b_cmp, e_chn, b_chn, e_ifx, b_ifx, e_ix, b_ix, e_sl, b_sl, e_call, b_call, e_bi, b_bi, e_mxd, b_mxd, e_isi, b_isi, e_isl, b_isl, e_lrg, b_lrg, e_mt, b_mt, e_lc, b_lc, e_rev, b_rev, e_gtp, e_lrg1, i_rng3, bop_1, bop_2, bb_1, bb_2, es_nil, es_cons, eo_none, eo_some, if_none, if_some, i_ex, i_rng1, i_rng2, i_enm, q_nm, q_tp, q_sb, setK_some, qs_nil, qs_cons, t_asg, t_aug, t_ex, t_ret, t_retN, t_iff, t_fr, t_whl, t_brk, t_cnt, t_pas, con_none, con_bool, con_int, con_str, neg_int, not_bl, int_int, add_int, sub_int, lt_int, le_int, gt_int, ge_int, eq_int, ne_int, is_nn, is_in, is_bb, isn_nn, isn_in, isn_bb, tr_non, tr_bl, tr_int, ty_non, ty_bl, ty_int, ty_tup, ty_ro, isa_int_int, isa_int_bool, isa_int_list, isa_int_tuple, isa_list_list, isa_list_tuple, isa_tuple_list, isa_tuple_tuple, sq_tup, sq_ro, bi_int_int, bi_int_bl, bi_tuple_tup, bi_min, bi_max, bi_len_tup, bi_len_ro, ix_tup, ix_ro, sl_tup, sl_ro, stays_tup, stays_ro, at_0, at_1, gc_ai, gc_aai, gc_aaai, gc_ab, gc_aab, gc_aaab, gc_an, gc_aan, gc_aaan, gc_same, wipe_nil, wipe_cons, sz_0, sz_1, sz_2, sz_3, sz_4, sz_5, sz_6, sz_7, sz_8, sz_9, sz_10, runDef, runFull, Def.full, startD, List.length_cons, List.length_nil, List.map_cons, List.map_nil, List.append_nil, List.nil_append, List.cons_append, List.drop_nil, List.drop_zero, List.set_cons_zero, List.set_cons_succ, List.replicate, if_true, if_false, Bool.not_true, Bool.not_false, Bool.true_or, Bool.false_or, Option.map_some, Option.map_none, Nat.zero_add, Nat.add_zero, Nat.sub_self, Nat.reduceAdd, Nat.reduceSub, ↓reduceIte, Bool.and_true, Bool.true_and, Bool.false_and, Bool.and_false, Int.cast_ofNat_Int, decide_true, decide_false, Int.reduceEq, Int.reduceLT, Int.reduceLE, Bool.false_eq_true, List.append_assoc, List.length_append, lk_app, lk_app0, lk_sapp, lk_sapp0, lk_z, lk_s, st_app, st_app0, st_sapp, st_sapp0, len_set, set_set, sq_lk, ix_lk, sl_lk, len_lk, tuple_lk, list_lk, list_tup, ty_lk, stays_lk, set_lk, add_lk, app_lk, ext_lk, clear_lk, recv_lk, get2_lk, tr_lk, gp_0, gp_1, gp_2, gp_3, gp_4, gp_5, gp_6, gp_7, gp_8, ko_n, ko_s, ko_p, gq_1, gq_2, gq_3, gq_4, gq_5, gq_6, gq_7, gq_8, gq_9, gq_10, gq_11, gq_12, gq_13, gq_14, gq_15, gq_16, gcR, Nat.lt_irrefl, Nat.not_lt_zero, List.take_succ_cons, List.take_zero, List.take_nil, D.beqL_self, at_2, at_3, ixN, Nat.reduceLT, Nat.reduceLeDiff, Int.reduceToNat, Int.reduceNeg, Int.reduceSub, Int.reduceAdd, Int.reduceMul, sz_lt, Int.zero_add, mod_int, pr_int, pr_bl, pr_non, pr_str, pr_tup, pr_nil, pr_cons, pr_lst, pr_ints, pr_prs, pr_app, pr_kD, mt_1, mt_2, mt_3, mt_4, mt_5, mt_6, mt_7, rev_lk, max_lk, min_lk, sum_lk, any_lk, all_lk, count_lk, index_lk, pop_lk, eq_D, ne_D, eqD_ll, eqD_tt, eqL_ll, eqS_same, eqS_nil, eqS_ints, eqD_ii, eqD_kk, py_app, py_nil, py_cons, py_ints, py_int, py_bl, py_non, py_kD, py_links, py_prs, py_mapi, pr_mapi, pr_linksT, gt_np, pr_loc, pr_stps, pr_stp, aug_add, aug_sub, ko_app, take_left', len_aa, nextK, head_none he, h2]
  | false =>
    have h2 : (((tw.filter (beyond key l)).map (·.1)).map D.int).isEmpty = false := by rw [isEmpty_map]; exact he
    simp only [bnd_some, bnd_none, opt_some, opt_none, seqF_next, seqF_brk, seqF_cnt, seqF_ret, ts_nil, ts_cons, out_ret, out_next, ite_t, ite_f, bop_and_t, bop_and_f, bop_or_t, bop_or_f, bb_and_t, bb_and_f, bb_or_t, bb_or_f, slot_0, slot_s, e_con, b_con, e_var, b_var, e_glo, b_glo, e_tup, b_tup, e_lst, b_lst, e_dct, b_dct, e_op, b_op, e_neg, b_neg, e_not, b_not, e_bop, b_bop, e_cmp, b_cmp, e_chn, b_chn, e_ifx, b_ifx, e_ix, b_ix, e_sl, b_sl, e_call, b_call, e_bi, b_bi, e_mxd, b_mxd, e_isi, b_isi, e_isl, b_isl, e_lrg, b_lrg, e_mt, b_mt, e_lc, b_lc, e_rev, b_rev, e_gtp, e_lrg1, i_rng3, bop_1, bop_2, bb_1, bb_2, es_nil, es_cons, eo_none, eo_some, if_none, if_some, i_ex, i_rng1, i_rng2, i_enm, q_nm, q_tp, q_sb, setK_some, qs_nil, qs_cons, t_asg, t_aug, t_ex, t_ret, t_retN, t_iff, t_fr, t_whl, t_brk, t_cnt, t_pas, con_none, con_bool, con_int, con_str, neg_int, not_bl, int_int, add_int, sub_int, lt_int, le_int, gt_int, ge_int, eq_int, ne_int, is_nn, is_in, is_bb, isn_nn, isn_in, isn_bb, tr_non, tr_bl, tr_int, ty_non, ty_bl, ty_int, ty_tup, ty_ro, isa_int_int, isa_int_bool, isa_int_list, isa_int_tuple, isa_list_list, isa_list_tuple, isa_tuple_list, isa_tuple_tuple, sq_tup, sq_ro, bi_int_int, bi_int_bl, bi_tuple_tup, bi_min, bi_max, bi_len_tup, bi_len_ro, ix_tup, ix_ro, sl_tup, sl_ro, stays_tup, stays_ro, at_0, at_1, gc_ai, gc_aai, gc_aaai, gc_ab, gc_aab, gc_aaab, gc_an, gc_aan, gc_aaan, gc_same, wipe_nil, wipe_cons, sz_0, sz_1, sz_2, sz_3, sz_4, sz_5, sz_6, sz_7, sz_8, sz_9, sz_10, runDef, runFull, Def.full, startD, List.length_cons, List.length_nil, List.map_cons, List.map_nil, List.append_nil, List.nil_append, List.cons_append, List.drop_nil, List.drop_zero, List.set_cons_zero, List.set_cons_succ, List.replicate, if_true, if_false, Bool.not_true, Bool.not_false, Bool.true_or, Bool.false_or, Option.map_some, Option.map_none, Nat.zero_add, Nat.add_zero, Nat.sub_self, Nat.reduceAdd, Nat.reduceSub, ↓reduceIte, Bool.and_true, Bool.true_and, Bool.false_and, Bool.and_false, Int.cast_ofNat_Int, decide_true, decide_false, Int.reduceEq, Int.reduceLT, Int.reduceLE, Bool.false_eq_true, List.append_assoc, List.length_append, lk_app, lk_app0, lk_sapp, lk_sapp0, lk_z, lk_s, st_app, st_app0, st_sapp, st_sapp0, len_set, set_set, sq_lk, ix_lk, sl_lk, len_lk, tuple_lk, list_lk, list_tup, ty_lk, stays_lk, set_lk, add_lk, app_lk, ext_lk, clear_lk, recv_lk, get2_lk, tr_lk, gp_0, gp_1, gp_2, gp_3, gp_4, gp_5, gp_6, gp_7, gp_8, ko_n, ko_s, ko_p, gq_1, gq_2, gq_3, gq_4, gq_5, gq_6, gq_7, gq_8, gq_9, gq_10, gq_11, gq_12, gq_13, gq_14, gq_15, gq_16, gcR, Nat.lt_irrefl, Nat.not_lt_zero, List.take_succ_cons, List.take_zero, List.take_nil, D.beqL_self, at_2, at_3, ixN, Nat.reduceLT, Nat.reduceLeDiff, Int.reduceToNat, Int.reduceNeg, Int.reduceSub, Int.reduceAdd, Int.reduceMul, sz_lt, Int.zero_add, mod_int, pr_int, pr_bl, pr_non, pr_str, pr_tup, pr_nil, pr_cons, pr_lst, pr_ints, pr_prs, pr_app, pr_kD, mt_1, mt_2, mt_3, mt_4, mt_5, mt_6, mt_7, rev_lk, max_lk, min_lk, sum_lk, any_lk, all_lk, count_lk, index_lk, pop_lk, eq_D, ne_D, eqD_ll, eqD_tt, eqL_ll, eqS_same, eqS_nil, eqS_ints, eqD_ii, eqD_kk, py_app, py_nil, py_cons, py_ints, py_int, py_bl, py_non, py_kD, py_links, py_prs, py_mapi, pr_mapi, pr_linksT, gt_np, pr_loc, pr_stps, pr_stp, aug_add, aug_sub, ko_app, take_left', len_aa, nextK, head_at he, h2]
theorem lplace_of (k : Nat) {tw : Tws} {S : Store} {f l : Int} (hl : tw.length ≤ 1000) : orc defs (k + 1) 23 [.tup (tw.map prD), .int f, .int l] S = some (kD (keyAt tw (pbN f l tw)), S) := by
  rw [orc_at (d := d__law_place) rfl]
  simp only [d__law_place, b__law_place, bnd_some, bnd_none, opt_some, opt_none, seqF_next, seqF_brk, seqF_cnt, seqF_ret, ts_nil, ts_cons, out_ret, out_next, ite_t, ite_f, bop_and_t, bop_and_f, bop_or_t, bop_or_f, bb_and_t, bb_and_f, bb_or_t, bb_or_f, slot_0, slot_s, e_con, b_con, e_var, b_var, e_glo, b_glo, e_tup, b_tup, e_lst, b_lst, e_dct, b_dct, e_op, b_op, e_neg, b_neg, e_not, b_not, e_bop, b_bop, e_cmp, b_cmp, e_chn, b_chn, e_ifx, b_ifx, e_ix, b_ix, e_sl, b_sl, e_call, b_call, e_bi, b_bi, e_mxd, b_mxd, e_isi, b_isi, e_isl, b_isl, e_lrg, b_lrg, e_mt, b_mt, e_lc, b_lc, e_rev, b_rev, e_gtp, e_lrg1, i_rng3, bop_1, bop_2, bb_1, bb_2, es_nil, es_cons, eo_none, eo_some, if_none, if_some, i_ex, i_rng1, i_rng2, i_enm, q_nm, q_tp, q_sb, setK_some, qs_nil, qs_cons, t_asg, t_aug, t_ex, t_ret, t_retN, t_iff, t_fr, t_whl, t_brk, t_cnt, t_pas, con_none, con_bool, con_int, con_str, neg_int, not_bl, int_int, add_int, sub_int, lt_int, le_int, gt_int, ge_int, eq_int, ne_int, is_nn, is_in, is_bb, isn_nn, isn_in, isn_bb, tr_non, tr_bl, tr_int, ty_non, ty_bl, ty_int, ty_tup, ty_ro, isa_int_int, isa_int_bool, isa_int_list, isa_int_tuple, isa_list_list, isa_list_tuple, isa_tuple_list, isa_tuple_tuple, sq_tup, sq_ro, bi_int_int, bi_int_bl, bi_tuple_tup, bi_min, bi_max, bi_len_tup, bi_len_ro, ix_tup, ix_ro, sl_tup, sl_ro, stays_tup, stays_ro, at_0, at_1, gc_ai, gc_aai, gc_aaai, gc_ab, gc_aab, gc_aaab, gc_an, gc_aan, gc_aaan, gc_same, wipe_nil, wipe_cons, sz_0, sz_1, sz_2, sz_3, sz_4, sz_5, sz_6, sz_7, sz_8, sz_9, sz_10, runDef, runFull, Def.full, startD, List.length_cons, List.length_nil, List.map_cons, List.map_nil, List.append_nil, List.nil_append, List.cons_append, List.drop_nil, List.drop_zero, List.set_cons_zero, List.set_cons_succ, List.replicate, if_true, if_false, Bool.not_true, Bool.not_false, Bool.true_or, Bool.false_or, Option.map_some, Option.map_none, Nat.zero_add, Nat.add_zero, Nat.sub_self, Nat.reduceAdd, Nat.reduceSub, ↓reduceIte, Bool.and_true, Bool.true_and, Bool.false_and, Bool.and_false, Int.cast_ofNat_Int, decide_true, decide_false, Int.reduceEq, Int.reduceLT, Int.reduceLE, Bool.false_eq_true, List.append_assoc, List.length_append, lk_app, lk_app0, lk_sapp, lk_sapp0, lk_z, lk_s, st_app, st_app0, st_sapp, st_sapp0, len_set, set_set, sq_lk, ix_lk, sl_lk, len_lk, tuple_lk, list_lk, list_tup, ty_lk, stays_lk, set_lk, add_lk, app_lk, ext_lk, clear_lk, recv_lk, get2_lk, tr_lk, gp_0, gp_1, gp_2, gp_3, gp_4, gp_5, gp_6, gp_7, gp_8, ko_n, ko_s, ko_p, gq_1, gq_2, gq_3, gq_4, gq_5, gq_6, gq_7, gq_8, gq_9, gq_10, gq_11, gq_12, gq_13, gq_14, gq_15, gq_16, gcR, Nat.lt_irrefl, Nat.not_lt_zero, List.take_succ_cons, List.take_zero, List.take_nil, D.beqL_self, at_2, at_3, ixN, Nat.reduceLT, Nat.reduceLeDiff, Int.reduceToNat, Int.reduceNeg, Int.reduceSub, Int.reduceAdd, Int.reduceMul, sz_lt, Int.zero_add, mod_int, pr_int, pr_bl, pr_non, pr_str, pr_tup, pr_nil, pr_cons, pr_lst, pr_ints, pr_prs, pr_app, pr_kD, mt_1, mt_2, mt_3, mt_4, mt_5, mt_6, mt_7, rev_lk, max_lk, min_lk, sum_lk, any_lk, all_lk, count_lk, index_lk, pop_lk, eq_D, ne_D, eqD_ll, eqD_tt, eqL_ll, eqS_same, eqS_nil, eqS_ints, eqD_ii, eqD_kk, py_app, py_nil, py_cons, py_ints, py_int, py_bl, py_non, py_kD, py_links, py_prs, py_mapi, pr_mapi, pr_linksT, gt_np, pr_loc, pr_stps, pr_stp, aug_add, aug_sub, ko_app, take_left', len_aa]
  generalize hX : lcD _ _ _ _ _ _ _ = X
  have e := lc_pf (belowB f l) (fun q : Int × Int => D.int q.1) hX rfl (le_size (by simp; omega)) (fun q hq => by simp only [bnd_some, bnd_none, opt_some, opt_none, seqF_next, seqF_brk, seqF_cnt, seqF_ret, ts_nil, ts_cons, out_ret, out_next, ite_t, ite_f, bop_and_t, bop_and_f, bop_or_t, bop_or_f, bb_and_t, bb_and_f, bb_or_t, bb_or_f, slot_0, slot_s, e_con, b_con, e_var, b_var, e_glo, b_glo, e_tup, b_tup, e_lst, b_lst, e_dct, b_dct, e_op, b_op, e_neg, b_neg, e_not, b_not, e_bop, b_bop, e_cmp, b_cmp, e_chn, b_chn, e_ifx, b_ifx, e_ix, b_ix, e_sl, b_sl, e_call, b_call, e_bi, b_bi, e_mxd, b_mxd, e_isi, b_isi, e_isl, b_isl, e_lrg, b_lrg, e_mt, b_mt, e_lc, b_lc, e_rev, b_rev, e_gtp, e_lrg1, i_rng3, bop_1, bop_2, bb_1, bb_2, es_nil, es_cons, eo_none, eo_some, if_none, if_some, i_ex, i_rng1, i_rng2, i_enm, q_nm, q_tp, q_sb, setK_some, qs_nil, qs_cons, t_asg, t_aug, t_ex, t_ret, t_retN, t_iff, t_fr, t_whl, t_brk, t_cnt, t_pas, con_none, con_bool, con_int, con_str, neg_int, not_bl, int_int, add_int, sub_int, lt_int, le_int, gt_int, ge_int, eq_int, ne_int, is_nn, is_in, is_bb, isn_nn, isn_in, isn_bb, tr_non, tr_bl, tr_int, ty_non, ty_bl, ty_int, ty_tup, ty_ro, isa_int_int, isa_int_bool, isa_int_list, isa_int_tuple, isa_list_list, isa_list_tuple, isa_tuple_list, isa_tuple_tuple, sq_tup, sq_ro, bi_int_int, bi_int_bl, bi_tuple_tup, bi_min, bi_max, bi_len_tup, bi_len_ro, ix_tup, ix_ro, sl_tup, sl_ro, stays_tup, stays_ro, at_0, at_1, gc_ai, gc_aai, gc_aaai, gc_ab, gc_aab, gc_aaab, gc_an, gc_aan, gc_aaan, gc_same, wipe_nil, wipe_cons, sz_0, sz_1, sz_2, sz_3, sz_4, sz_5, sz_6, sz_7, sz_8, sz_9, sz_10, runDef, runFull, Def.full, startD, List.length_cons, List.length_nil, List.map_cons, List.map_nil, List.append_nil, List.nil_append, List.cons_append, List.drop_nil, List.drop_zero, List.set_cons_zero, List.set_cons_succ, List.replicate, if_true, if_false, Bool.not_true, Bool.not_false, Bool.true_or, Bool.false_or, Option.map_some, Option.map_none, Nat.zero_add, Nat.add_zero, Nat.sub_self, Nat.reduceAdd, Nat.reduceSub, ↓reduceIte, Bool.and_true, Bool.true_and, Bool.false_and, Bool.and_false, Int.cast_ofNat_Int, decide_true, decide_false, Int.reduceEq, Int.reduceLT, Int.reduceLE, Bool.false_eq_true, List.append_assoc, List.length_append, lk_app, lk_app0, lk_sapp, lk_sapp0, lk_z, lk_s, st_app, st_app0, st_sapp, st_sapp0, len_set, set_set, sq_lk, ix_lk, sl_lk, len_lk, tuple_lk, list_lk, list_tup, ty_lk, stays_lk, set_lk, add_lk, app_lk, ext_lk, clear_lk, recv_lk, get2_lk, tr_lk, gp_0, gp_1, gp_2, gp_3, gp_4, gp_5, gp_6, gp_7, gp_8, ko_n, ko_s, ko_p, gq_1, gq_2, gq_3, gq_4, gq_5, gq_6, gq_7, gq_8, gq_9, gq_10, gq_11, gq_12, gq_13, gq_14, gq_15, gq_16, gcR, Nat.lt_irrefl, Nat.not_lt_zero, List.take_succ_cons, List.take_zero, List.take_nil, D.beqL_self, at_2, at_3, ixN, Nat.reduceLT, Nat.reduceLeDiff, Int.reduceToNat, Int.reduceNeg, Int.reduceSub, Int.reduceAdd, Int.reduceMul, sz_lt, Int.zero_add, mod_int, pr_int, pr_bl, pr_non, pr_str, pr_tup, pr_nil, pr_cons, pr_lst, pr_ints, pr_prs, pr_app, pr_kD, mt_1, mt_2, mt_3, mt_4, mt_5, mt_6, mt_7, rev_lk, max_lk, min_lk, sum_lk, any_lk, all_lk, count_lk, index_lk, pop_lk, eq_D, ne_D, eqD_ll, eqD_tt, eqL_ll, eqS_same, eqS_nil, eqS_ints, eqD_ii, eqD_kk, py_app, py_nil, py_cons, py_ints, py_int, py_bl, py_non, py_kD, py_links, py_prs, py_mapi, pr_mapi, pr_linksT, gt_np, pr_loc, pr_stps, pr_stp, aug_add, aug_sub, ko_app, take_left', len_aa, lcS, ite_b, bnd_if, seqF_if, out_if, bopB_and, bopB_or, bopD_and, bopD_or, if_same_bool, if_bf, if_bx, if_xt, prD, belowB_swap]; all_goals rfl)
  subst e
  have e2 : (tw.filter (belowB f l)).map (fun q => D.int q.1) = ((tw.filter (belowB f l)).map (·.1)).map D.int := by rw [List.map_map]; rfl
  rw [← pb_keys]
  simp only [bnd_some, bnd_none, opt_some, opt_none, seqF_next, seqF_brk, seqF_cnt, seqF_ret, ts_nil, ts_cons, out_ret, out_next, ite_t, ite_f, bop_and_t, bop_and_f, bop_or_t, bop_or_f, bb_and_t, bb_and_f, bb_or_t, bb_or_f, slot_0, slot_s, e_con, b_con, e_var, b_var, e_glo, b_glo, e_tup, b_tup, e_lst, b_lst, e_dct, b_dct, e_op, b_op, e_neg, b_neg, e_not, b_not, e_bop, b_bop, e_cmp, b_cmp, e_chn, b_chn, e_ifx, b_ifx, e_ix, b_ix, e_sl, b_sl, e_call, b_call, e_bi, b_bi, e_mxd, b_mxd, e_isi, b_isi, e_isl, b_isl, e_lrg, b_lrg, e_mt, b_mt, e_lc, b_lc, e_rev, b_rev, e_gtp, e_lrg1, i_rng3, bop_1, bop_2, bb_1, bb_2, es_nil, es_cons, eo_none, eo_some, if_none, if_some, i_ex, i_rng1, i_rng2, i_enm, q_nm, q_tp, q_sb, setK_some, qs_nil, qs_cons, t_asg, t_aug, t_ex, t_ret, t_retN, t_iff, t_fr, t_whl, t_brk, t_cnt, t_pas, con_none, con_bool, con_int, con_str, neg_int, not_bl, int_int, add_int, sub_int, lt_int, le_int, gt_int, ge_int, eq_int, ne_int, is_nn, is_in, is_bb, isn_nn, isn_in, isn_bb, tr_non, tr_bl, tr_int, ty_non, ty_bl, ty_int, ty_tup, ty_ro, isa_int_int, isa_int_bool, isa_int_list, isa_int_tuple, isa_list_list, isa_list_tuple, isa_tuple_list, isa_tuple_tuple, sq_tup, sq_ro, bi_int_int, bi_int_bl, bi_tuple_tup, bi_min, bi_max, bi_len_tup, bi_len_ro, ix_tup, ix_ro, sl_tup, sl_ro, stays_tup, stays_ro, at_0, at_1, gc_ai, gc_aai, gc_aaai, gc_ab, gc_aab, gc_aaab, gc_an, gc_aan, gc_aaan, gc_same, wipe_nil, wipe_cons, sz_0, sz_1, sz_2, sz_3, sz_4, sz_5, sz_6, sz_7, sz_8, sz_9, sz_10, runDef, runFull, Def.full, startD, List.length_cons, List.length_nil, List.map_cons, List.map_nil, List.append_nil, List.nil_append, List.cons_append, List.drop_nil, List.drop_zero, List.set_cons_zero, List.set_cons_succ, List.replicate, if_true, if_false, Bool.not_true, Bool.not_false, Bool.true_or, Bool.false_or, Option.map_some, Option.map_none, Nat.zero_add, Nat.add_zero, Nat.sub_self, Nat.reduceAdd, Nat.reduceSub, ↓reduceIte, Bool.and_true, Bool.true_and, Bool.false_and, Bool.and_false, Int.cast_ofNat_Int, decide_true, decide_false, Int.reduceEq, Int.reduceLT, Int.reduceLE, Bool.false_eq_true, List.append_assoc, List.length_append, lk_app, lk_app0, lk_sapp, lk_sapp0, lk_z, lk_s, st_app, st_app0, st_sapp, st_sapp0, len_set, set_set, sq_lk, ix_lk, sl_lk, len_lk, tuple_lk, list_lk, list_tup, ty_lk, stays_lk, set_lk, add_lk, app_lk, ext_lk, clear_lk, recv_lk, get2_lk, tr_lk, gp_0, gp_1, gp_2, gp_3, gp_4, gp_5, gp_6, gp_7, gp_8, ko_n, ko_s, ko_p, gq_1, gq_2, gq_3, gq_4, gq_5, gq_6, gq_7, gq_8, gq_9, gq_10, gq_11, gq_12, gq_13, gq_14, gq_15, gq_16, gcR, Nat.lt_irrefl, Nat.not_lt_zero, List.take_succ_cons, List.take_zero, List.take_nil, D.beqL_self, at_2, at_3, ixN, Nat.reduceLT, Nat.reduceLeDiff, Int.reduceToNat, Int.reduceNeg, Int.reduceSub, Int.reduceAdd, Int.reduceMul, sz_lt, Int.zero_add, mod_int, pr_int, pr_bl, pr_non, pr_str, pr_tup, pr_nil, pr_cons, pr_lst, pr_ints, pr_prs, pr_app, pr_kD, mt_1, mt_2, mt_3, mt_4, mt_5, mt_6, mt_7, rev_lk, max_lk, min_lk, sum_lk, any_lk, all_lk, count_lk, index_lk, pop_lk, eq_D, ne_D, eqD_ll, eqD_tt, eqL_ll, eqS_same, eqS_nil, eqS_ints, eqD_ii, eqD_kk, py_app, py_nil, py_cons, py_ints, py_int, py_bl, py_non, py_kD, py_links, py_prs, py_mapi, pr_mapi, pr_linksT, gt_np, pr_loc, pr_stps, pr_stp, aug_add, aug_sub, ko_app, take_left', len_aa, e2]
  cases he : ((tw.filter (belowB f l)).map (·.1)).isEmpty with
  | true =>
    have h2 : (((tw.filter (belowB f l)).map (·.1)).map D.int).isEmpty = true := by rw [isEmpty_map]; exact he
    simp only [bnd_some, bnd_none, opt_some, opt_none, seqF_next, seqF_brk, seqF_cnt, seqF_ret, ts_nil, ts_cons, out_ret, out_next, ite_t, ite_f, bop_and_t, bop_and_f, bop_or_t, bop_or_f, bb_and_t, bb_and_f, bb_or_t, bb_or_f, slot_0, slot_s, e_con, b_con, e_var, b_var, e_glo, b_glo, e_tup, b_tup, e_lst, b_lst, e_dct, b_dct, e_op, b_op, e_neg, b_neg, e_not, b_not, e_bop, b_bop, e_cmp, b_cmp, e_chn, b_chn, e_ifx, b_ifx, e_ix, b_ix, e_sl, b_sl, e_call, b_call, e_bi, b_bi, e_mxd, b_mxd, e_isi, b_isi, e_isl, b_isl, e_lrg, b_lrg, e_mt, b_mt, e_lc, b_lc, e_rev, b_rev, e_gtp, e_lrg1, i_rng3, bop_1, bop_2, bb_1, bb_2, es_nil, es_cons, eo_none, eo_some, if_none, if_some, i_ex, i_rng1, i_rng2, i_enm, q_nm, q_tp, q_sb, setK_some, qs_nil, qs_cons, t_asg, t_aug, t_ex, t_ret, t_retN, t_iff, t_fr, t_whl, t_brk, t_cnt, t_pas, con_none, con_bool, con_int, con_str, neg_int, not_bl, int_int, add_int, sub_int, lt_int, le_int, gt_int, ge_int, eq_int, ne_int, is_nn, is_in, is_bb, isn_nn, isn_in, isn_bb, tr_non, tr_bl, tr_int, ty_non, ty_bl, ty_int, ty_tup, ty_ro, isa_int_int, isa_int_bool, isa_int_list, isa_int_tuple, isa_list_list, isa_list_tuple, isa_tuple_list, isa_tuple_tuple, sq_tup, sq_ro, bi_int_int, bi_int_bl, bi_tuple_tup, bi_min, bi_max, bi_len_tup, bi_len_ro, ix_tup, ix_ro, sl_tup, sl_ro, stays_tup, stays_ro, at_0, at_1, gc_ai, gc_aai, gc_aaai, gc_ab, gc_aab, gc_aaab, gc_an, gc_aan, gc_aaan, gc_same, wipe_nil, wipe_cons, sz_0, sz_1, sz_2, sz_3, sz_4, sz_5, sz_6, sz_7, sz_8, sz_9, sz_10, runDef, runFull, Def.full, startD, List.length_cons, List.length_nil, List.map_cons, List.map_nil, List.append_nil, List.nil_append, List.cons_append, List.drop_nil, List.drop_zero, List.set_cons_zero, List.set_cons_succ, List.replicate, if_true, if_false, Bool.not_true, Bool.not_false, Bool.true_or, Bool.false_or, Option.map_some, Option.map_none, Nat.zero_add, Nat.add_zero, Nat.sub_self, Nat.reduceAdd, Nat.reduceSub, ↓reduceIte, Bool.and_true, Bool.true_and, Bool.false_and, Bool.and_false, Int.cast_ofNat_Int, decide_true, decide_false, Int.reduceEq, Int.reduceLT, Int.reduceLE, Bool.false_eq_true, List.append_assoc, List.length_append, lk_app, lk_app0, lk_sapp, lk_sapp0, lk_z, lk_s, st_app, st_app0, st_sapp, st_sapp0, len_set, set_set, sq_lk, ix_lk, sl_lk, len_lk, tuple_lk, list_lk, list_tup, ty_lk, stays_lk, set_lk, add_lk, app_lk, ext_lk, clear_lk, recv_lk, get2_lk, tr_lk, gp_0, gp_1, gp_2, gp_3, gp_4, gp_5, gp_6, gp_7, gp_8, ko_n, ko_s, ko_p, gq_1, gq_2, gq_3, gq_4, gq_5, gq_6, gq_7, gq_8, gq_9, gq_10, gq_11, gq_12, gq_13, gq_14, gq_15, gq_16, gcR, Nat.lt_irrefl, Nat.not_lt_zero, List.take_succ_cons, List.take_zero, List.take_nil, D.beqL_self, at_2, at_3, ixN, Nat.reduceLT, Nat.reduceLeDiff, Int.reduceToNat, Int.reduceNeg, Int.reduceSub, Int.reduceAdd, Int.reduceMul, sz_lt, Int.zero_add, mod_int, pr_int, pr_bl, pr_non, pr_str, pr_tup, pr_nil, pr_cons, pr_lst, pr_ints, pr_prs, pr_app, pr_kD, mt_1, mt_2, mt_3, mt_4, mt_5, mt_6, mt_7, rev_lk, max_lk, min_lk, sum_lk, any_lk, all_lk, count_lk, index_lk, pop_lk, eq_D, ne_D, eqD_ll, eqD_tt, eqL_ll, eqS_same, eqS_nil, eqS_ints, eqD_ii, eqD_kk, py_app, py_nil, py_cons, py_ints, py_int, py_bl, py_non, py_kD, py_links, py_prs, py_mapi, pr_mapi, pr_linksT, gt_np, pr_loc, pr_stps, pr_stp, aug_add, aug_sub, ko_app, take_left', len_aa, last_none he, h2]
  | false =>
    have h2 : (((tw.filter (belowB f l)).map (·.1)).map D.int).isEmpty = false := by rw [isEmpty_map]; exact he
    simp only [bnd_some, bnd_none, opt_some, opt_none, seqF_next, seqF_brk, seqF_cnt, seqF_ret, ts_nil, ts_cons, out_ret, out_next, ite_t, ite_f, bop_and_t, bop_and_f, bop_or_t, bop_or_f, bb_and_t, bb_and_f, bb_or_t, bb_or_f, slot_0, slot_s, e_con, b_con, e_var, b_var, e_glo, b_glo, e_tup, b_tup, e_lst, b_lst, e_dct, b_dct, e_op, b_op, e_neg, b_neg, e_not, b_not, e_bop, b_bop, e_cmp, b_cmp, e_chn, b_chn, e_ifx, b_ifx, e_ix, b_ix, e_sl, b_sl, e_call, b_call, e_bi, b_bi, e_mxd, b_mxd, e_isi, b_isi, e_isl, b_isl, e_lrg, b_lrg, e_mt, b_mt, e_lc, b_lc, e_rev, b_rev, e_gtp, e_lrg1, i_rng3, bop_1, bop_2, bb_1, bb_2, es_nil, es_cons, eo_none, eo_some, if_none, if_some, i_ex, i_rng1, i_rng2, i_enm, q_nm, q_tp, q_sb, setK_some, qs_nil, qs_cons, t_asg, t_aug, t_ex, t_ret, t_retN, t_iff, t_fr, t_whl, t_brk, t_cnt, t_pas, con_none, con_bool, con_int, con_str, neg_int, not_bl, int_int, add_int, sub_int, lt_int, le_int, gt_int, ge_int, eq_int, ne_int, is_nn, is_in, is_bb, isn_nn, isn_in, isn_bb, tr_non, tr_bl, tr_int, ty_non, ty_bl, ty_int, ty_tup, ty_ro, isa_int_int, isa_int_bool, isa_int_list, isa_int_tuple, isa_list_list, isa_list_tuple, isa_tuple_list, isa_tuple_tuple, sq_tup, sq_ro, bi_int_int, bi_int_bl, bi_tuple_tup, bi_min, bi_max, bi_len_tup, bi_len_ro, ix_tup, ix_ro, sl_tup, sl_ro, stays_tup, stays_ro, at_0, at_1, gc_ai, gc_aai, gc_aaai, gc_ab, gc_aab, gc_aaab, gc_an, gc_aan, gc_aaan, gc_same, wipe_nil, wipe_cons, sz_0, sz_1, sz_2, sz_3, sz_4, sz_5, sz_6, sz_7, sz_8, sz_9, sz_10, runDef, runFull, Def.full, startD, List.length_cons, List.length_nil, List.map_cons, List.map_nil, List.append_nil, List.nil_append, List.cons_append, List.drop_nil, List.drop_zero, List.set_cons_zero, List.set_cons_succ, List.replicate, if_true, if_false, Bool.not_true, Bool.not_false, Bool.true_or, Bool.false_or, Option.map_some, Option.map_none, Nat.zero_add, Nat.add_zero, Nat.sub_self, Nat.reduceAdd, Nat.reduceSub, ↓reduceIte, Bool.and_true, Bool.true_and, Bool.false_and, Bool.and_false, Int.cast_ofNat_Int, decide_true, decide_false, Int.reduceEq, Int.reduceLT, Int.reduceLE, Bool.false_eq_true, List.append_assoc, List.length_append, lk_app, lk_app0, lk_sapp, lk_sapp0, lk_z, lk_s, st_app, st_app0, st_sapp, st_sapp0, len_set, set_set, sq_lk, ix_lk, sl_lk, len_lk, tuple_lk, list_lk, list_tup, ty_lk, stays_lk, set_lk, add_lk, app_lk, ext_lk, clear_lk, recv_lk, get2_lk, tr_lk, gp_0, gp_1, gp_2, gp_3, gp_4, gp_5, gp_6, gp_7, gp_8, ko_n, ko_s, ko_p, gq_1, gq_2, gq_3, gq_4, gq_5, gq_6, gq_7, gq_8, gq_9, gq_10, gq_11, gq_12, gq_13, gq_14, gq_15, gq_16, gcR, Nat.lt_irrefl, Nat.not_lt_zero, List.take_succ_cons, List.take_zero, List.take_nil, D.beqL_self, at_2, at_3, ixN, Nat.reduceLT, Nat.reduceLeDiff, Int.reduceToNat, Int.reduceNeg, Int.reduceSub, Int.reduceAdd, Int.reduceMul, sz_lt, Int.zero_add, mod_int, pr_int, pr_bl, pr_non, pr_str, pr_tup, pr_nil, pr_cons, pr_lst, pr_ints, pr_prs, pr_app, pr_kD, mt_1, mt_2, mt_3, mt_4, mt_5, mt_6, mt_7, rev_lk, max_lk, min_lk, sum_lk, any_lk, all_lk, count_lk, index_lk, pop_lk, eq_D, ne_D, eqD_ll, eqD_tt, eqL_ll, eqS_same, eqS_nil, eqS_ints, eqD_ii, eqD_kk, py_app, py_nil, py_cons, py_ints, py_int, py_bl, py_non, py_kD, py_links, py_prs, py_mapi, pr_mapi, pr_linksT, gt_np, pr_loc, pr_stps, pr_stp, aug_add, aug_sub, ko_app, take_left', len_aa, last_kD he, h2]
theorem lsearched_of (k : Nat) {tw : Tws} (l n : Nat) {key : Int} {S : Store} (hf : Fine tw) (hn : n ≤ tw.length) (hl : tw.length ≤ 1000) (hl2 : l ≤ 1000) : orc defs (k + 2) 24 [.tup (tw.map prD), kD (keyAt tw n), .int l, .int key] S = some (.loc S.length, S ++ [.lst ((srch tw key l n).map Stp.d)]) := by
  rw [orc_at (d := d__law_searched) rfl]
  simp only [d__law_searched, b__law_searched, bnd_some, bnd_none, opt_some, opt_none, seqF_next, seqF_brk, seqF_cnt, seqF_ret, ts_nil, ts_cons, out_ret, out_next, ite_t, ite_f, bop_and_t, bop_and_f, bop_or_t, bop_or_f, bb_and_t, bb_and_f, bb_or_t, bb_or_f, slot_0, slot_s, e_con, b_con, e_var, b_var, e_glo, b_glo, e_tup, b_tup, e_lst, b_lst, e_dct, b_dct, e_op, b_op, e_neg, b_neg, e_not, b_not, e_bop, b_bop, e_cmp, b_cmp, e_chn, b_chn, e_ifx, b_ifx, e_ix, b_ix, e_sl, b_sl, e_call, b_call, e_bi, b_bi, e_mxd, b_mxd, e_isi, b_isi, e_isl, b_isl, e_lrg, b_lrg, e_mt, b_mt, e_lc, b_lc, e_rev, b_rev, e_gtp, e_lrg1, i_rng3, bop_1, bop_2, bb_1, bb_2, es_nil, es_cons, eo_none, eo_some, if_none, if_some, i_ex, i_rng1, i_rng2, i_enm, q_nm, q_tp, q_sb, setK_some, qs_nil, qs_cons, t_asg, t_aug, t_ex, t_ret, t_retN, t_iff, t_fr, t_whl, t_brk, t_cnt, t_pas, con_none, con_bool, con_int, con_str, neg_int, not_bl, int_int, add_int, sub_int, lt_int, le_int, gt_int, ge_int, eq_int, ne_int, is_nn, is_in, is_bb, isn_nn, isn_in, isn_bb, tr_non, tr_bl, tr_int, ty_non, ty_bl, ty_int, ty_tup, ty_ro, isa_int_int, isa_int_bool, isa_int_list, isa_int_tuple, isa_list_list, isa_list_tuple, isa_tuple_list, isa_tuple_tuple, sq_tup, sq_ro, bi_int_int, bi_int_bl, bi_tuple_tup, bi_min, bi_max, bi_len_tup, bi_len_ro, ix_tup, ix_ro, sl_tup, sl_ro, stays_tup, stays_ro, at_0, at_1, gc_ai, gc_aai, gc_aaai, gc_ab, gc_aab, gc_aaab, gc_an, gc_aan, gc_aaan, gc_same, wipe_nil, wipe_cons, sz_0, sz_1, sz_2, sz_3, sz_4, sz_5, sz_6, sz_7, sz_8, sz_9, sz_10, runDef, runFull, Def.full, startD, List.length_cons, List.length_nil, List.map_cons, List.map_nil, List.append_nil, List.nil_append, List.cons_append, List.drop_nil, List.drop_zero, List.set_cons_zero, List.set_cons_succ, List.replicate, if_true, if_false, Bool.not_true, Bool.not_false, Bool.true_or, Bool.false_or, Option.map_some, Option.map_none, Nat.zero_add, Nat.add_zero, Nat.sub_self, Nat.reduceAdd, Nat.reduceSub, ↓reduceIte, Bool.and_true, Bool.true_and, Bool.false_and, Bool.and_false, Int.cast_ofNat_Int, decide_true, decide_false, Int.reduceEq, Int.reduceLT, Int.reduceLE, Bool.false_eq_true, List.append_assoc, List.length_append, lk_app, lk_app0, lk_sapp, lk_sapp0, lk_z, lk_s, st_app, st_app0, st_sapp, st_sapp0, len_set, set_set, sq_lk, ix_lk, sl_lk, len_lk, tuple_lk, list_lk, list_tup, ty_lk, stays_lk, set_lk, add_lk, app_lk, ext_lk, clear_lk, recv_lk, get2_lk, tr_lk, gp_0, gp_1, gp_2, gp_3, gp_4, gp_5, gp_6, gp_7, gp_8, ko_n, ko_s, ko_p, gq_1, gq_2, gq_3, gq_4, gq_5, gq_6, gq_7, gq_8, gq_9, gq_10, gq_11, gq_12, gq_13, gq_14, gq_15, gq_16, gcR, Nat.lt_irrefl, Nat.not_lt_zero, List.take_succ_cons, List.take_zero, List.take_nil, D.beqL_self, at_2, at_3, ixN, Nat.reduceLT, Nat.reduceLeDiff, Int.reduceToNat, Int.reduceNeg, Int.reduceSub, Int.reduceAdd, Int.reduceMul, sz_lt, Int.zero_add, mod_int, pr_int, pr_bl, pr_non, pr_str, pr_tup, pr_nil, pr_cons, pr_lst, pr_ints, pr_prs, pr_app, pr_kD, mt_1, mt_2, mt_3, mt_4, mt_5, mt_6, mt_7, rev_lk, max_lk, min_lk, sum_lk, any_lk, all_lk, count_lk, index_lk, pop_lk, eq_D, ne_D, eqD_ll, eqD_tt, eqL_ll, eqS_same, eqS_nil, eqS_ints, eqD_ii, eqD_kk, py_app, py_nil, py_cons, py_ints, py_int, py_bl, py_non, py_kD, py_links, py_prs, py_mapi, pr_mapi, pr_linksT, gt_np, pr_loc, pr_stps, pr_stp, aug_add, aug_sub, ko_app, take_left', len_aa, rng_down (show l ≤ 100000 by omega)]
  generalize hX : forD _ _ _ _ _ _ = X
  have hb := srch_len (tw := tw) (key := key) (l := l) hn
  have hb2 := sr_len l n hn (tw := tw) (key := key)
  have key := for_M hX (fun r σ T => ∃ (i m : Nat) (acc : List Stp) (x y z w : Option D), r = desc i ∧ σ = [some (.tup (tw.map prD)), some (kD (keyAt tw m)), some (.int l), some (.int key), some (.loc S.length), x, y, z, w] ∧ m ≤ tw.length ∧ i ≤ 1000 ∧ T = S ++ [.lst (acc.map Stp.d)] ∧ acc ++ (sr tw key i m).1 = (sr tw key l n).1 ∧ (sr tw key i m).2 = (sr tw key l n).2)
    (fun X => ∃ (x y z w : Option D), X = some (.next [some (.tup (tw.map prD)), some (kD (keyAt tw (sr tw key l n).2)), some (.int l), some (.int key), some (.loc S.length), x, y, z, w], S ++ [.lst ((sr tw key l n).1.map Stp.d)])) ⟨l, n, [], _, _, _, _, rfl, rfl, hn, hl2, rfl, rfl, rfl⟩ ?_ ?_
  · obtain ⟨x, y, z, w, rfl⟩ := key
    have ek := lnext_of k (tw := tw) (S := S ++ [.lst ((sr tw key l n).1.map Stp.d)]) (key := keyAt tw (sr tw key l n).2) (l := 1) hl
    rw [nextK_at hf hb2.2, nx_one hf] at ek
    have hz : (sr tw key l n).1.length ≤ 10000 := by omega
    cases h5 : tw[(sr tw key l n).2]? with
    | none =>
      have e5 : srch tw key l n = (sr tw key l n).1 := by unfold srch lookS; rw [h5, List.append_nil]
      rw [h5] at ek
      have em := mul_lk (S := S ++ [.lst ((sr tw key l n).1.map Stp.d), .lst [.tup [.str "look", kD none]]]) (m := S.length + 1) (k := 0) (x := [.tup [.str "look", kD none]]) lk_app (by simp) (by omega)
      rw [show ((0 : Nat) : Int) = 0 from rfl] at em
      have hz0 : (sr tw key l n).1.length + 0 ≤ sizeLine := le_size (by omega)
      simp only [bnd_some, bnd_none, opt_some, opt_none, seqF_next, seqF_brk, seqF_cnt, seqF_ret, ts_nil, ts_cons, out_ret, out_next, ite_t, ite_f, bop_and_t, bop_and_f, bop_or_t, bop_or_f, bb_and_t, bb_and_f, bb_or_t, bb_or_f, slot_0, slot_s, e_con, b_con, e_var, b_var, e_glo, b_glo, e_tup, b_tup, e_lst, b_lst, e_dct, b_dct, e_op, b_op, e_neg, b_neg, e_not, b_not, e_bop, b_bop, e_cmp, b_cmp, e_chn, b_chn, e_ifx, b_ifx, e_ix, b_ix, e_sl, b_sl, e_call, b_call, e_bi, b_bi, e_mxd, b_mxd, e_isi, b_isi, e_isl, b_isl, e_lrg, b_lrg, e_mt, b_mt, e_lc, b_lc, e_rev, b_rev, e_gtp, e_lrg1, i_rng3, bop_1, bop_2, bb_1, bb_2, es_nil, es_cons, eo_none, eo_some, if_none, if_some, i_ex, i_rng1, i_rng2, i_enm, q_nm, q_tp, q_sb, setK_some, qs_nil, qs_cons, t_asg, t_aug, t_ex, t_ret, t_retN, t_iff, t_fr, t_whl, t_brk, t_cnt, t_pas, con_none, con_bool, con_int, con_str, neg_int, not_bl, int_int, add_int, sub_int, lt_int, le_int, gt_int, ge_int, eq_int, ne_int, is_nn, is_in, is_bb, isn_nn, isn_in, isn_bb, tr_non, tr_bl, tr_int, ty_non, ty_bl, ty_int, ty_tup, ty_ro, isa_int_int, isa_int_bool, isa_int_list, isa_int_tuple, isa_list_list, isa_list_tuple, isa_tuple_list, isa_tuple_tuple, sq_tup, sq_ro, bi_int_int, bi_int_bl, bi_tuple_tup, bi_min, bi_max, bi_len_tup, bi_len_ro, ix_tup, ix_ro, sl_tup, sl_ro, stays_tup, stays_ro, at_0, at_1, gc_ai, gc_aai, gc_aaai, gc_ab, gc_aab, gc_aaab, gc_an, gc_aan, gc_aaan, gc_same, wipe_nil, wipe_cons, sz_0, sz_1, sz_2, sz_3, sz_4, sz_5, sz_6, sz_7, sz_8, sz_9, sz_10, runDef, runFull, Def.full, startD, List.length_cons, List.length_nil, List.map_cons, List.map_nil, List.append_nil, List.nil_append, List.cons_append, List.drop_nil, List.drop_zero, List.set_cons_zero, List.set_cons_succ, List.replicate, if_true, if_false, Bool.not_true, Bool.not_false, Bool.true_or, Bool.false_or, Option.map_some, Option.map_none, Nat.zero_add, Nat.add_zero, Nat.sub_self, Nat.reduceAdd, Nat.reduceSub, ↓reduceIte, Bool.and_true, Bool.true_and, Bool.false_and, Bool.and_false, Int.cast_ofNat_Int, decide_true, decide_false, Int.reduceEq, Int.reduceLT, Int.reduceLE, Bool.false_eq_true, List.append_assoc, List.length_append, lk_app, lk_app0, lk_sapp, lk_sapp0, lk_z, lk_s, st_app, st_app0, st_sapp, st_sapp0, len_set, set_set, sq_lk, ix_lk, sl_lk, len_lk, tuple_lk, list_lk, list_tup, ty_lk, stays_lk, set_lk, add_lk, app_lk, ext_lk, clear_lk, recv_lk, get2_lk, tr_lk, gp_0, gp_1, gp_2, gp_3, gp_4, gp_5, gp_6, gp_7, gp_8, ko_n, ko_s, ko_p, gq_1, gq_2, gq_3, gq_4, gq_5, gq_6, gq_7, gq_8, gq_9, gq_10, gq_11, gq_12, gq_13, gq_14, gq_15, gq_16, gcR, Nat.lt_irrefl, Nat.not_lt_zero, List.take_succ_cons, List.take_zero, List.take_nil, D.beqL_self, at_2, at_3, ixN, Nat.reduceLT, Nat.reduceLeDiff, Int.reduceToNat, Int.reduceNeg, Int.reduceSub, Int.reduceAdd, Int.reduceMul, sz_lt, Int.zero_add, mod_int, pr_int, pr_bl, pr_non, pr_str, pr_tup, pr_nil, pr_cons, pr_lst, pr_ints, pr_prs, pr_app, pr_kD, mt_1, mt_2, mt_3, mt_4, mt_5, mt_6, mt_7, rev_lk, max_lk, min_lk, sum_lk, any_lk, all_lk, count_lk, index_lk, pop_lk, eq_D, ne_D, eqD_ll, eqD_tt, eqL_ll, eqS_same, eqS_nil, eqS_ints, eqD_ii, eqD_kk, py_app, py_nil, py_cons, py_ints, py_int, py_bl, py_non, py_kD, py_links, py_prs, py_mapi, pr_mapi, pr_linksT, gt_np, pr_loc, pr_stps, pr_stp, aug_add, aug_sub, ko_app, take_left', len_aa, ek, isnot_kD, Option.map_none, Option.isSome_none, em, List.replicate_zero, List.flatten_nil, List.length_map, hz0, le_size (show (sr tw key l n).1.length ≤ 100000 by omega), e5]
    | some p =>
      have e5 : srch tw key l n = (sr tw key l n).1 ++ [.look p.1] := by unfold srch lookS; rw [h5]
      rw [h5] at ek
      have em := mul_lk (S := S ++ [.lst ((sr tw key l n).1.map Stp.d), .lst [.tup [.str "look", kD (some p.1)]]]) (m := S.length + 1) (k := 1) (x := [.tup [.str "look", kD (some p.1)]]) lk_app (by simp) (by omega)
      rw [show ((1 : Nat) : Int) = 1 from rfl] at em
      have hz1 : (sr tw key l n).1.length + 1 ≤ sizeLine := le_size (by omega)
      have e7 : (sr tw key l n).1.map Stp.d ++ [D.tup [D.str "look", kD (some p.1)]] = (srch tw key l n).map Stp.d := by rw [e5, List.map_append]; rfl
      simp only [bnd_some, bnd_none, opt_some, opt_none, seqF_next, seqF_brk, seqF_cnt, seqF_ret, ts_nil, ts_cons, out_ret, out_next, ite_t, ite_f, bop_and_t, bop_and_f, bop_or_t, bop_or_f, bb_and_t, bb_and_f, bb_or_t, bb_or_f, slot_0, slot_s, e_con, b_con, e_var, b_var, e_glo, b_glo, e_tup, b_tup, e_lst, b_lst, e_dct, b_dct, e_op, b_op, e_neg, b_neg, e_not, b_not, e_bop, b_bop, e_cmp, b_cmp, e_chn, b_chn, e_ifx, b_ifx, e_ix, b_ix, e_sl, b_sl, e_call, b_call, e_bi, b_bi, e_mxd, b_mxd, e_isi, b_isi, e_isl, b_isl, e_lrg, b_lrg, e_mt, b_mt, e_lc, b_lc, e_rev, b_rev, e_gtp, e_lrg1, i_rng3, bop_1, bop_2, bb_1, bb_2, es_nil, es_cons, eo_none, eo_some, if_none, if_some, i_ex, i_rng1, i_rng2, i_enm, q_nm, q_tp, q_sb, setK_some, qs_nil, qs_cons, t_asg, t_aug, t_ex, t_ret, t_retN, t_iff, t_fr, t_whl, t_brk, t_cnt, t_pas, con_none, con_bool, con_int, con_str, neg_int, not_bl, int_int, add_int, sub_int, lt_int, le_int, gt_int, ge_int, eq_int, ne_int, is_nn, is_in, is_bb, isn_nn, isn_in, isn_bb, tr_non, tr_bl, tr_int, ty_non, ty_bl, ty_int, ty_tup, ty_ro, isa_int_int, isa_int_bool, isa_int_list, isa_int_tuple, isa_list_list, isa_list_tuple, isa_tuple_list, isa_tuple_tuple, sq_tup, sq_ro, bi_int_int, bi_int_bl, bi_tuple_tup, bi_min, bi_max, bi_len_tup, bi_len_ro, ix_tup, ix_ro, sl_tup, sl_ro, stays_tup, stays_ro, at_0, at_1, gc_ai, gc_aai, gc_aaai, gc_ab, gc_aab, gc_aaab, gc_an, gc_aan, gc_aaan, gc_same, wipe_nil, wipe_cons, sz_0, sz_1, sz_2, sz_3, sz_4, sz_5, sz_6, sz_7, sz_8, sz_9, sz_10, runDef, runFull, Def.full, startD, List.length_cons, List.length_nil, List.map_cons, List.map_nil, List.append_nil, List.nil_append, List.cons_append, List.drop_nil, List.drop_zero, List.set_cons_zero, List.set_cons_succ, List.replicate, if_true, if_false, Bool.not_true, Bool.not_false, Bool.true_or, Bool.false_or, Option.map_some, Option.map_none, Nat.zero_add, Nat.add_zero, Nat.sub_self, Nat.reduceAdd, Nat.reduceSub, ↓reduceIte, Bool.and_true, Bool.true_and, Bool.false_and, Bool.and_false, Int.cast_ofNat_Int, decide_true, decide_false, Int.reduceEq, Int.reduceLT, Int.reduceLE, Bool.false_eq_true, List.append_assoc, List.length_append, lk_app, lk_app0, lk_sapp, lk_sapp0, lk_z, lk_s, st_app, st_app0, st_sapp, st_sapp0, len_set, set_set, sq_lk, ix_lk, sl_lk, len_lk, tuple_lk, list_lk, list_tup, ty_lk, stays_lk, set_lk, add_lk, app_lk, ext_lk, clear_lk, recv_lk, get2_lk, tr_lk, gp_0, gp_1, gp_2, gp_3, gp_4, gp_5, gp_6, gp_7, gp_8, ko_n, ko_s, ko_p, gq_1, gq_2, gq_3, gq_4, gq_5, gq_6, gq_7, gq_8, gq_9, gq_10, gq_11, gq_12, gq_13, gq_14, gq_15, gq_16, gcR, Nat.lt_irrefl, Nat.not_lt_zero, List.take_succ_cons, List.take_zero, List.take_nil, D.beqL_self, at_2, at_3, ixN, Nat.reduceLT, Nat.reduceLeDiff, Int.reduceToNat, Int.reduceNeg, Int.reduceSub, Int.reduceAdd, Int.reduceMul, sz_lt, Int.zero_add, mod_int, pr_int, pr_bl, pr_non, pr_str, pr_tup, pr_nil, pr_cons, pr_lst, pr_ints, pr_prs, pr_app, pr_kD, mt_1, mt_2, mt_3, mt_4, mt_5, mt_6, mt_7, rev_lk, max_lk, min_lk, sum_lk, any_lk, all_lk, count_lk, index_lk, pop_lk, eq_D, ne_D, eqD_ll, eqD_tt, eqL_ll, eqS_same, eqS_nil, eqS_ints, eqD_ii, eqD_kk, py_app, py_nil, py_cons, py_ints, py_int, py_bl, py_non, py_kD, py_links, py_prs, py_mapi, pr_mapi, pr_linksT, gt_np, pr_loc, pr_stps, pr_stp, aug_add, aug_sub, ko_app, take_left', len_aa, ek, isnot_kD, Option.map_some, Option.isSome_some, em, List.flatten_cons, List.flatten_nil, List.length_map, hz1, e7]
  · rintro σ T ⟨i, m, acc, x, y, z, w, e, rfl, h1, h2, rfl, e1, e2⟩
    have hi := desc_nil e
    subst hi
    rw [sr] at e1 e2
    rw [List.append_nil] at e1
    refine ⟨rfl, x, y, z, w, ?_⟩
    rw [← e1, ← e2]
  · clear hX X
    rintro q r σ T ⟨i, m, acc, x, y, z, w, e, rfl, h1, h2, rfl, e1, e2⟩
    obtain ⟨i, rfl, rfl, hr⟩ := desc_cons e
    refine ⟨rfl, ?_⟩
    have er : rngD 0 ((tw.length : Int) + 1) = some ⟨(rangeI 0 (tw.length + 1)).map D.int, fun _ => true⟩ := by
      rw [rng_small (by omega) (by omega) (by omega) (by omega)]; congr 5 <;> omega
    simp only [bnd_some, bnd_none, opt_some, opt_none, seqF_next, seqF_brk, seqF_cnt, seqF_ret, ts_nil, ts_cons, out_ret, out_next, ite_t, ite_f, bop_and_t, bop_and_f, bop_or_t, bop_or_f, bb_and_t, bb_and_f, bb_or_t, bb_or_f, slot_0, slot_s, e_con, b_con, e_var, b_var, e_glo, b_glo, e_tup, b_tup, e_lst, b_lst, e_dct, b_dct, e_op, b_op, e_neg, b_neg, e_not, b_not, e_bop, b_bop, e_cmp, b_cmp, e_chn, b_chn, e_ifx, b_ifx, e_ix, b_ix, e_sl, b_sl, e_call, b_call, e_bi, b_bi, e_mxd, b_mxd, e_isi, b_isi, e_isl, b_isl, e_lrg, b_lrg, e_mt, b_mt, e_lc, b_lc, e_rev, b_rev, e_gtp, e_lrg1, i_rng3, bop_1, bop_2, bb_1, bb_2, es_nil, es_cons, eo_none, eo_some, if_none, if_some, i_ex, i_rng1, i_rng2, i_enm, q_nm, q_tp, q_sb, setK_some, qs_nil, qs_cons, t_asg, t_aug, t_ex, t_ret, t_retN, t_iff, t_fr, t_whl, t_brk, t_cnt, t_pas, con_none, con_bool, con_int, con_str, neg_int, not_bl, int_int, add_int, sub_int, lt_int, le_int, gt_int, ge_int, eq_int, ne_int, is_nn, is_in, is_bb, isn_nn, isn_in, isn_bb, tr_non, tr_bl, tr_int, ty_non, ty_bl, ty_int, ty_tup, ty_ro, isa_int_int, isa_int_bool, isa_int_list, isa_int_tuple, isa_list_list, isa_list_tuple, isa_tuple_list, isa_tuple_tuple, sq_tup, sq_ro, bi_int_int, bi_int_bl, bi_tuple_tup, bi_min, bi_max, bi_len_tup, bi_len_ro, ix_tup, ix_ro, sl_tup, sl_ro, stays_tup, stays_ro, at_0, at_1, gc_ai, gc_aai, gc_aaai, gc_ab, gc_aab, gc_aaab, gc_an, gc_aan, gc_aaan, gc_same, wipe_nil, wipe_cons, sz_0, sz_1, sz_2, sz_3, sz_4, sz_5, sz_6, sz_7, sz_8, sz_9, sz_10, runDef, runFull, Def.full, startD, List.length_cons, List.length_nil, List.map_cons, List.map_nil, List.append_nil, List.nil_append, List.cons_append, List.drop_nil, List.drop_zero, List.set_cons_zero, List.set_cons_succ, List.replicate, if_true, if_false, Bool.not_true, Bool.not_false, Bool.true_or, Bool.false_or, Option.map_some, Option.map_none, Nat.zero_add, Nat.add_zero, Nat.sub_self, Nat.reduceAdd, Nat.reduceSub, ↓reduceIte, Bool.and_true, Bool.true_and, Bool.false_and, Bool.and_false, Int.cast_ofNat_Int, decide_true, decide_false, Int.reduceEq, Int.reduceLT, Int.reduceLE, Bool.false_eq_true, List.append_assoc, List.length_append, lk_app, lk_app0, lk_sapp, lk_sapp0, lk_z, lk_s, st_app, st_app0, st_sapp, st_sapp0, len_set, set_set, sq_lk, ix_lk, sl_lk, len_lk, tuple_lk, list_lk, list_tup, ty_lk, stays_lk, set_lk, add_lk, app_lk, ext_lk, clear_lk, recv_lk, get2_lk, tr_lk, gp_0, gp_1, gp_2, gp_3, gp_4, gp_5, gp_6, gp_7, gp_8, ko_n, ko_s, ko_p, gq_1, gq_2, gq_3, gq_4, gq_5, gq_6, gq_7, gq_8, gq_9, gq_10, gq_11, gq_12, gq_13, gq_14, gq_15, gq_16, gcR, Nat.lt_irrefl, Nat.not_lt_zero, List.take_succ_cons, List.take_zero, List.take_nil, D.beqL_self, at_2, at_3, ixN, Nat.reduceLT, Nat.reduceLeDiff, Int.reduceToNat, Int.reduceNeg, Int.reduceSub, Int.reduceAdd, Int.reduceMul, sz_lt, Int.zero_add, mod_int, pr_int, pr_bl, pr_non, pr_str, pr_tup, pr_nil, pr_cons, pr_lst, pr_ints, pr_prs, pr_app, pr_kD, mt_1, mt_2, mt_3, mt_4, mt_5, mt_6, mt_7, rev_lk, max_lk, min_lk, sum_lk, any_lk, all_lk, count_lk, index_lk, pop_lk, eq_D, ne_D, eqD_ll, eqD_tt, eqL_ll, eqS_same, eqS_nil, eqS_ints, eqD_ii, eqD_kk, py_app, py_nil, py_cons, py_ints, py_int, py_bl, py_non, py_kD, py_links, py_prs, py_mapi, pr_mapi, pr_linksT, gt_np, pr_loc, pr_stps, pr_stp, aug_add, aug_sub, ko_app, take_left', len_aa, List.length_map, er]
    generalize hX : forD _ _ _ _ _ _ = X
    have hrl := rr_le (tw := tw) (key := key) (l := ((i + 1 : Nat) : Int)) _ m rfl h1
    have e1l := congrArg List.length e1
    rw [sr] at e1 e2 e1l
    simp only [List.length_append, List.length_cons] at e1l
    have key := for_M hX (fun r σ T => ∃ (c : Nat) (ac : List Stp) (y z : Option D), σ = [some (.tup (tw.map prD)), some (kD (keyAt tw c)), some (.int l), some (.int key), some (.loc S.length), some (.int ((i + 1 : Nat) : Int)), y, z, w] ∧ c ≤ tw.length ∧ T = S ++ [.lst ((acc ++ ac).map Stp.d)] ∧ ac ++ (rr tw key ((i + 1 : Nat) : Int) c).1 = (rr tw key ((i + 1 : Nat) : Int) m).1 ∧ (rr tw key ((i + 1 : Nat) : Int) c).2 = (rr tw key ((i + 1 : Nat) : Int) m).2 ∧ tw.length - c + 1 ≤ r.length)
      (fun X => ∃ (y z : Option D), X = some (.next [some (.tup (tw.map prD)), some (kD (keyAt tw (rr tw key ((i + 1 : Nat) : Int) m).2)), some (.int l), some (.int key), some (.loc S.length), some (.int ((i + 1 : Nat) : Int)), y, z, w], S ++ [.lst ((acc ++ (rr tw key ((i + 1 : Nat) : Int) m).1).map Stp.d)])) ⟨m, [], _, _, rfl, h1, by rw [List.append_nil], rfl, rfl, by rw [rangeI_len]; omega⟩ ?_ ?_
    · obtain ⟨y, z, rfl⟩ := key
      have ek := lnext_of k (tw := tw) (S := S ++ [.lst ((acc ++ (rr tw key ((i + 1 : Nat) : Int) m).1).map Stp.d)]) (key := keyAt tw (rr tw key ((i + 1 : Nat) : Int) m).2) (l := ((i + 1 : Nat) : Int)) hl
      rw [nextK_at hf hrl.1] at ek
      have hz : acc.length + (rr tw key ((i + 1 : Nat) : Int) m).1.length < sizeLine := lt_size (by omega)
      have e3 : (acc ++ (rr tw key ((i + 1 : Nat) : Int) m).1 ++ [seS tw ((i + 1 : Nat) : Int) (rr tw key ((i + 1 : Nat) : Int) m).2]) ++ (sr tw key i (rr tw key ((i + 1 : Nat) : Int) m).2).1 = (sr tw key l n).1 := by rw [← e1]; simp
      cases h5 : tw[nx tw (rr tw key ((i + 1 : Nat) : Int) m).2 ((i + 1 : Nat) : Int)]? with
      | none =>
        rw [h5] at ek
        rw [show seS tw ((i + 1 : Nat) : Int) (rr tw key ((i + 1 : Nat) : Int) m).2 = .fin ((i + 1 : Nat) : Int) by unfold seS; rw [h5]] at e3
        simp only [bnd_some, bnd_none, opt_some, opt_none, seqF_next, seqF_brk, seqF_cnt, seqF_ret, ts_nil, ts_cons, out_ret, out_next, ite_t, ite_f, bop_and_t, bop_and_f, bop_or_t, bop_or_f, bb_and_t, bb_and_f, bb_or_t, bb_or_f, slot_0, slot_s, e_con, b_con, e_var, b_var, e_glo, b_glo, e_tup, b_tup, e_lst, b_lst, e_dct, b_dct, e_op, b_op, e_neg, b_neg, e_not, b_not, e_bop, b_bop, e_cmp, b_cmp, e_chn, b_chn, e_ifx, b_ifx, e_ix, b_ix, e_sl, b_sl, e_call, b_call, e_bi, b_bi, e_mxd, b_mxd, e_isi, b_isi, e_isl, b_isl, e_lrg, b_lrg, e_mt, b_mt, e_lc, b_lc, e_rev, b_rev, e_gtp, e_lrg1, i_rng3, bop_1, bop_2, bb_1, bb_2, es_nil, es_cons, eo_none, eo_some, if_none, if_some, i_ex, i_rng1, i_rng2, i_enm, q_nm, q_tp, q_sb, setK_some, qs_nil, qs_cons, t_asg, t_aug, t_ex, t_ret, t_retN, t_iff, t_fr, t_whl, t_brk, t_cnt, t_pas, con_none, con_bool, con_int, con_str, neg_int, not_bl, int_int, add_int, sub_int, lt_int, le_int, gt_int, ge_int, eq_int, ne_int, is_nn, is_in, is_bb, isn_nn, isn_in, isn_bb, tr_non, tr_bl, tr_int, ty_non, ty_bl, ty_int, ty_tup, ty_ro, isa_int_int, isa_int_bool, isa_int_list, isa_int_tuple, isa_list_list, isa_list_tuple, isa_tuple_list, isa_tuple_tuple, sq_tup, sq_ro, bi_int_int, bi_int_bl, bi_tuple_tup, bi_min, bi_max, bi_len_tup, bi_len_ro, ix_tup, ix_ro, sl_tup, sl_ro, stays_tup, stays_ro, at_0, at_1, gc_ai, gc_aai, gc_aaai, gc_ab, gc_aab, gc_aaab, gc_an, gc_aan, gc_aaan, gc_same, wipe_nil, wipe_cons, sz_0, sz_1, sz_2, sz_3, sz_4, sz_5, sz_6, sz_7, sz_8, sz_9, sz_10, runDef, runFull, Def.full, startD, List.length_cons, List.length_nil, List.map_cons, List.map_nil, List.append_nil, List.nil_append, List.cons_append, List.drop_nil, List.drop_zero, List.set_cons_zero, List.set_cons_succ, List.replicate, if_true, if_false, Bool.not_true, Bool.not_false, Bool.true_or, Bool.false_or, Option.map_some, Option.map_none, Nat.zero_add, Nat.add_zero, Nat.sub_self, Nat.reduceAdd, Nat.reduceSub, ↓reduceIte, Bool.and_true, Bool.true_and, Bool.false_and, Bool.and_false, Int.cast_ofNat_Int, decide_true, decide_false, Int.reduceEq, Int.reduceLT, Int.reduceLE, Bool.false_eq_true, List.append_assoc, List.length_append, lk_app, lk_app0, lk_sapp, lk_sapp0, lk_z, lk_s, st_app, st_app0, st_sapp, st_sapp0, len_set, set_set, sq_lk, ix_lk, sl_lk, len_lk, tuple_lk, list_lk, list_tup, ty_lk, stays_lk, set_lk, add_lk, app_lk, ext_lk, clear_lk, recv_lk, get2_lk, tr_lk, gp_0, gp_1, gp_2, gp_3, gp_4, gp_5, gp_6, gp_7, gp_8, ko_n, ko_s, ko_p, gq_1, gq_2, gq_3, gq_4, gq_5, gq_6, gq_7, gq_8, gq_9, gq_10, gq_11, gq_12, gq_13, gq_14, gq_15, gq_16, gcR, Nat.lt_irrefl, Nat.not_lt_zero, List.take_succ_cons, List.take_zero, List.take_nil, D.beqL_self, at_2, at_3, ixN, Nat.reduceLT, Nat.reduceLeDiff, Int.reduceToNat, Int.reduceNeg, Int.reduceSub, Int.reduceAdd, Int.reduceMul, sz_lt, Int.zero_add, mod_int, pr_int, pr_bl, pr_non, pr_str, pr_tup, pr_nil, pr_cons, pr_lst, pr_ints, pr_prs, pr_app, pr_kD, mt_1, mt_2, mt_3, mt_4, mt_5, mt_6, mt_7, rev_lk, max_lk, min_lk, sum_lk, any_lk, all_lk, count_lk, index_lk, pop_lk, eq_D, ne_D, eqD_ll, eqD_tt, eqL_ll, eqS_same, eqS_nil, eqS_ints, eqD_ii, eqD_kk, py_app, py_nil, py_cons, py_ints, py_int, py_bl, py_non, py_kD, py_links, py_prs, py_mapi, pr_mapi, pr_linksT, gt_np, pr_loc, pr_stps, pr_stp, aug_add, aug_sub, ko_app, take_left', len_aa, ek, isnone_kD, Option.map_none, Option.isNone_none, List.length_map, hz]
        refine ⟨i, _, _, _, _, _, _, hr, rfl, hrl.1, by omega, ?_, e3, e2⟩
        rw [List.map_append, List.map_append, List.map_append]; simp; rfl
      | some p =>
        rw [h5] at ek
        rw [show seS tw ((i + 1 : Nat) : Int) (rr tw key ((i + 1 : Nat) : Int) m).2 = .stop ((i + 1 : Nat) : Int) p.1 by unfold seS; rw [h5]] at e3
        simp only [bnd_some, bnd_none, opt_some, opt_none, seqF_next, seqF_brk, seqF_cnt, seqF_ret, ts_nil, ts_cons, out_ret, out_next, ite_t, ite_f, bop_and_t, bop_and_f, bop_or_t, bop_or_f, bb_and_t, bb_and_f, bb_or_t, bb_or_f, slot_0, slot_s, e_con, b_con, e_var, b_var, e_glo, b_glo, e_tup, b_tup, e_lst, b_lst, e_dct, b_dct, e_op, b_op, e_neg, b_neg, e_not, b_not, e_bop, b_bop, e_cmp, b_cmp, e_chn, b_chn, e_ifx, b_ifx, e_ix, b_ix, e_sl, b_sl, e_call, b_call, e_bi, b_bi, e_mxd, b_mxd, e_isi, b_isi, e_isl, b_isl, e_lrg, b_lrg, e_mt, b_mt, e_lc, b_lc, e_rev, b_rev, e_gtp, e_lrg1, i_rng3, bop_1, bop_2, bb_1, bb_2, es_nil, es_cons, eo_none, eo_some, if_none, if_some, i_ex, i_rng1, i_rng2, i_enm, q_nm, q_tp, q_sb, setK_some, qs_nil, qs_cons, t_asg, t_aug, t_ex, t_ret, t_retN, t_iff, t_fr, t_whl, t_brk, t_cnt, t_pas, con_none, con_bool, con_int, con_str, neg_int, not_bl, int_int, add_int, sub_int, lt_int, le_int, gt_int, ge_int, eq_int, ne_int, is_nn, is_in, is_bb, isn_nn, isn_in, isn_bb, tr_non, tr_bl, tr_int, ty_non, ty_bl, ty_int, ty_tup, ty_ro, isa_int_int, isa_int_bool, isa_int_list, isa_int_tuple, isa_list_list, isa_list_tuple, isa_tuple_list, isa_tuple_tuple, sq_tup, sq_ro, bi_int_int, bi_int_bl, bi_tuple_tup, bi_min, bi_max, bi_len_tup, bi_len_ro, ix_tup, ix_ro, sl_tup, sl_ro, stays_tup, stays_ro, at_0, at_1, gc_ai, gc_aai, gc_aaai, gc_ab, gc_aab, gc_aaab, gc_an, gc_aan, gc_aaan, gc_same, wipe_nil, wipe_cons, sz_0, sz_1, sz_2, sz_3, sz_4, sz_5, sz_6, sz_7, sz_8, sz_9, sz_10, runDef, runFull, Def.full, startD, List.length_cons, List.length_nil, List.map_cons, List.map_nil, List.append_nil, List.nil_append, List.cons_append, List.drop_nil, List.drop_zero, List.set_cons_zero, List.set_cons_succ, List.replicate, if_true, if_false, Bool.not_true, Bool.not_false, Bool.true_or, Bool.false_or, Option.map_some, Option.map_none, Nat.zero_add, Nat.add_zero, Nat.sub_self, Nat.reduceAdd, Nat.reduceSub, ↓reduceIte, Bool.and_true, Bool.true_and, Bool.false_and, Bool.and_false, Int.cast_ofNat_Int, decide_true, decide_false, Int.reduceEq, Int.reduceLT, Int.reduceLE, Bool.false_eq_true, List.append_assoc, List.length_append, lk_app, lk_app0, lk_sapp, lk_sapp0, lk_z, lk_s, st_app, st_app0, st_sapp, st_sapp0, len_set, set_set, sq_lk, ix_lk, sl_lk, len_lk, tuple_lk, list_lk, list_tup, ty_lk, stays_lk, set_lk, add_lk, app_lk, ext_lk, clear_lk, recv_lk, get2_lk, tr_lk, gp_0, gp_1, gp_2, gp_3, gp_4, gp_5, gp_6, gp_7, gp_8, ko_n, ko_s, ko_p, gq_1, gq_2, gq_3, gq_4, gq_5, gq_6, gq_7, gq_8, gq_9, gq_10, gq_11, gq_12, gq_13, gq_14, gq_15, gq_16, gcR, Nat.lt_irrefl, Nat.not_lt_zero, List.take_succ_cons, List.take_zero, List.take_nil, D.beqL_self, at_2, at_3, ixN, Nat.reduceLT, Nat.reduceLeDiff, Int.reduceToNat, Int.reduceNeg, Int.reduceSub, Int.reduceAdd, Int.reduceMul, sz_lt, Int.zero_add, mod_int, pr_int, pr_bl, pr_non, pr_str, pr_tup, pr_nil, pr_cons, pr_lst, pr_ints, pr_prs, pr_app, pr_kD, mt_1, mt_2, mt_3, mt_4, mt_5, mt_6, mt_7, rev_lk, max_lk, min_lk, sum_lk, any_lk, all_lk, count_lk, index_lk, pop_lk, eq_D, ne_D, eqD_ll, eqD_tt, eqL_ll, eqS_same, eqS_nil, eqS_ints, eqD_ii, eqD_kk, py_app, py_nil, py_cons, py_ints, py_int, py_bl, py_non, py_kD, py_links, py_prs, py_mapi, pr_mapi, pr_linksT, gt_np, pr_loc, pr_stps, pr_stp, aug_add, aug_sub, ko_app, take_left', len_aa, ek, isnone_kD, Option.map_some, Option.isNone_some, List.length_map, hz]
        refine ⟨i, _, _, _, _, _, _, hr, rfl, hrl.1, by omega, ?_, e3, e2⟩
        rw [List.map_append, List.map_append, List.map_append]; simp; rfl
    · rintro σ T ⟨c, ac, y, z, rfl, g1, rfl, g2, g3, g4⟩
      simp at g4
    · clear hX X
      rintro t ts σ T ⟨c, ac, y, z, rfl, g1, rfl, g2, g3, g4⟩
      refine ⟨rfl, ?_⟩
      have ek := lnext_of k (tw := tw) (S := S ++ [.lst ((acc ++ ac).map Stp.d)]) (key := keyAt tw c) (l := ((i + 1 : Nat) : Int)) hl
      rw [nextK_at hf g1] at ek
      have g2l := congrArg List.length g2
      rw [List.length_append] at g2l
      have hz : acc.length + ac.length < sizeLine := lt_size (by omega)
      have hng := nx_ge tw c ((i + 1 : Nat) : Int)
      simp only [List.length_cons] at g4
      cases h5 : tw[nx tw c ((i + 1 : Nat) : Int)]? with
      | none =>
        rw [h5] at ek
        rw [rr_stay (fun q hq => by rw [h5] at hq; cases hq)] at g2 g3
        simp only [bnd_some, bnd_none, opt_some, opt_none, seqF_next, seqF_brk, seqF_cnt, seqF_ret, ts_nil, ts_cons, out_ret, out_next, ite_t, ite_f, bop_and_t, bop_and_f, bop_or_t, bop_or_f, bb_and_t, bb_and_f, bb_or_t, bb_or_f, slot_0, slot_s, e_con, b_con, e_var, b_var, e_glo, b_glo, e_tup, b_tup, e_lst, b_lst, e_dct, b_dct, e_op, b_op, e_neg, b_neg, e_not, b_not, e_bop, b_bop, e_cmp, b_cmp, e_chn, b_chn, e_ifx, b_ifx, e_ix, b_ix, e_sl, b_sl, e_call, b_call, e_bi, b_bi, e_mxd, b_mxd, e_isi, b_isi, e_isl, b_isl, e_lrg, b_lrg, e_mt, b_mt, e_lc, b_lc, e_rev, b_rev, e_gtp, e_lrg1, i_rng3, bop_1, bop_2, bb_1, bb_2, es_nil, es_cons, eo_none, eo_some, if_none, if_some, i_ex, i_rng1, i_rng2, i_enm, q_nm, q_tp, q_sb, setK_some, qs_nil, qs_cons, t_asg, t_aug, t_ex, t_ret, t_retN, t_iff, t_fr, t_whl, t_brk, t_cnt, t_pas, con_none, con_bool, con_int, con_str, neg_int, not_bl, int_int, add_int, sub_int, lt_int, le_int, gt_int, ge_int, eq_int, ne_int, is_nn, is_in, is_bb, isn_nn, isn_in, isn_bb, tr_non, tr_bl, tr_int, ty_non, ty_bl, ty_int, ty_tup, ty_ro, isa_int_int, isa_int_bool, isa_int_list, isa_int_tuple, isa_list_list, isa_list_tuple, isa_tuple_list, isa_tuple_tuple, sq_tup, sq_ro, bi_int_int, bi_int_bl, bi_tuple_tup, bi_min, bi_max, bi_len_tup, bi_len_ro, ix_tup, ix_ro, sl_tup, sl_ro, stays_tup, stays_ro, at_0, at_1, gc_ai, gc_aai, gc_aaai, gc_ab, gc_aab, gc_aaab, gc_an, gc_aan, gc_aaan, gc_same, wipe_nil, wipe_cons, sz_0, sz_1, sz_2, sz_3, sz_4, sz_5, sz_6, sz_7, sz_8, sz_9, sz_10, runDef, runFull, Def.full, startD, List.length_cons, List.length_nil, List.map_cons, List.map_nil, List.append_nil, List.nil_append, List.cons_append, List.drop_nil, List.drop_zero, List.set_cons_zero, List.set_cons_succ, List.replicate, if_true, if_false, Bool.not_true, Bool.not_false, Bool.true_or, Bool.false_or, Option.map_some, Option.map_none, Nat.zero_add, Nat.add_zero, Nat.sub_self, Nat.reduceAdd, Nat.reduceSub, ↓reduceIte, Bool.and_true, Bool.true_and, Bool.false_and, Bool.and_false, Int.cast_ofNat_Int, decide_true, decide_false, Int.reduceEq, Int.reduceLT, Int.reduceLE, Bool.false_eq_true, List.append_assoc, List.length_append, lk_app, lk_app0, lk_sapp, lk_sapp0, lk_z, lk_s, st_app, st_app0, st_sapp, st_sapp0, len_set, set_set, sq_lk, ix_lk, sl_lk, len_lk, tuple_lk, list_lk, list_tup, ty_lk, stays_lk, set_lk, add_lk, app_lk, ext_lk, clear_lk, recv_lk, get2_lk, tr_lk, gp_0, gp_1, gp_2, gp_3, gp_4, gp_5, gp_6, gp_7, gp_8, ko_n, ko_s, ko_p, gq_1, gq_2, gq_3, gq_4, gq_5, gq_6, gq_7, gq_8, gq_9, gq_10, gq_11, gq_12, gq_13, gq_14, gq_15, gq_16, gcR, Nat.lt_irrefl, Nat.not_lt_zero, List.take_succ_cons, List.take_zero, List.take_nil, D.beqL_self, at_2, at_3, ixN, Nat.reduceLT, Nat.reduceLeDiff, Int.reduceToNat, Int.reduceNeg, Int.reduceSub, Int.reduceAdd, Int.reduceMul, sz_lt, Int.zero_add, mod_int, pr_int, pr_bl, pr_non, pr_str, pr_tup, pr_nil, pr_cons, pr_lst, pr_ints, pr_prs, pr_app, pr_kD, mt_1, mt_2, mt_3, mt_4, mt_5, mt_6, mt_7, rev_lk, max_lk, min_lk, sum_lk, any_lk, all_lk, count_lk, index_lk, pop_lk, eq_D, ne_D, eqD_ll, eqD_tt, eqL_ll, eqS_same, eqS_nil, eqS_ints, eqD_ii, eqD_kk, py_app, py_nil, py_cons, py_ints, py_int, py_bl, py_non, py_kD, py_links, py_prs, py_mapi, pr_mapi, pr_linksT, gt_np, pr_loc, pr_stps, pr_stp, aug_add, aug_sub, ko_app, take_left', len_aa, ek, isnone_kD, Option.map_none, Option.isNone_none]
        refine ⟨some (.int t), some (kD none), ?_⟩
        rw [← g2, ← g3, List.append_nil]
      | some p =>
        rw [h5] at ek
        have h6 := (List.getElem?_eq_some_iff.mp h5).1
        by_cases hq : p.1 < key
        · rw [rr_right h5 hq] at g2 g3
          have hq2 : ¬ key ≤ p.1 := by omega
          have hk2 : keyAt tw (nx tw c ((i + 1 : Nat) : Int) + 1) = some p.1 := by rw [keyAt, h5]; rfl
          simp only [bnd_some, bnd_none, opt_some, opt_none, seqF_next, seqF_brk, seqF_cnt, seqF_ret, ts_nil, ts_cons, out_ret, out_next, ite_t, ite_f, bop_and_t, bop_and_f, bop_or_t, bop_or_f, bb_and_t, bb_and_f, bb_or_t, bb_or_f, slot_0, slot_s, e_con, b_con, e_var, b_var, e_glo, b_glo, e_tup, b_tup, e_lst, b_lst, e_dct, b_dct, e_op, b_op, e_neg, b_neg, e_not, b_not, e_bop, b_bop, e_cmp, b_cmp, e_chn, b_chn, e_ifx, b_ifx, e_ix, b_ix, e_sl, b_sl, e_call, b_call, e_bi, b_bi, e_mxd, b_mxd, e_isi, b_isi, e_isl, b_isl, e_lrg, b_lrg, e_mt, b_mt, e_lc, b_lc, e_rev, b_rev, e_gtp, e_lrg1, i_rng3, bop_1, bop_2, bb_1, bb_2, es_nil, es_cons, eo_none, eo_some, if_none, if_some, i_ex, i_rng1, i_rng2, i_enm, q_nm, q_tp, q_sb, setK_some, qs_nil, qs_cons, t_asg, t_aug, t_ex, t_ret, t_retN, t_iff, t_fr, t_whl, t_brk, t_cnt, t_pas, con_none, con_bool, con_int, con_str, neg_int, not_bl, int_int, add_int, sub_int, lt_int, le_int, gt_int, ge_int, eq_int, ne_int, is_nn, is_in, is_bb, isn_nn, isn_in, isn_bb, tr_non, tr_bl, tr_int, ty_non, ty_bl, ty_int, ty_tup, ty_ro, isa_int_int, isa_int_bool, isa_int_list, isa_int_tuple, isa_list_list, isa_list_tuple, isa_tuple_list, isa_tuple_tuple, sq_tup, sq_ro, bi_int_int, bi_int_bl, bi_tuple_tup, bi_min, bi_max, bi_len_tup, bi_len_ro, ix_tup, ix_ro, sl_tup, sl_ro, stays_tup, stays_ro, at_0, at_1, gc_ai, gc_aai, gc_aaai, gc_ab, gc_aab, gc_aaab, gc_an, gc_aan, gc_aaan, gc_same, wipe_nil, wipe_cons, sz_0, sz_1, sz_2, sz_3, sz_4, sz_5, sz_6, sz_7, sz_8, sz_9, sz_10, runDef, runFull, Def.full, startD, List.length_cons, List.length_nil, List.map_cons, List.map_nil, List.append_nil, List.nil_append, List.cons_append, List.drop_nil, List.drop_zero, List.set_cons_zero, List.set_cons_succ, List.replicate, if_true, if_false, Bool.not_true, Bool.not_false, Bool.true_or, Bool.false_or, Option.map_some, Option.map_none, Nat.zero_add, Nat.add_zero, Nat.sub_self, Nat.reduceAdd, Nat.reduceSub, ↓reduceIte, Bool.and_true, Bool.true_and, Bool.false_and, Bool.and_false, Int.cast_ofNat_Int, decide_true, decide_false, Int.reduceEq, Int.reduceLT, Int.reduceLE, Bool.false_eq_true, List.append_assoc, List.length_append, lk_app, lk_app0, lk_sapp, lk_sapp0, lk_z, lk_s, st_app, st_app0, st_sapp, st_sapp0, len_set, set_set, sq_lk, ix_lk, sl_lk, len_lk, tuple_lk, list_lk, list_tup, ty_lk, stays_lk, set_lk, add_lk, app_lk, ext_lk, clear_lk, recv_lk, get2_lk, tr_lk, gp_0, gp_1, gp_2, gp_3, gp_4, gp_5, gp_6, gp_7, gp_8, ko_n, ko_s, ko_p, gq_1, gq_2, gq_3, gq_4, gq_5, gq_6, gq_7, gq_8, gq_9, gq_10, gq_11, gq_12, gq_13, gq_14, gq_15, gq_16, gcR, Nat.lt_irrefl, Nat.not_lt_zero, List.take_succ_cons, List.take_zero, List.take_nil, D.beqL_self, at_2, at_3, ixN, Nat.reduceLT, Nat.reduceLeDiff, Int.reduceToNat, Int.reduceNeg, Int.reduceSub, Int.reduceAdd, Int.reduceMul, sz_lt, Int.zero_add, mod_int, pr_int, pr_bl, pr_non, pr_str, pr_tup, pr_nil, pr_cons, pr_lst, pr_ints, pr_prs, pr_app, pr_kD, mt_1, mt_2, mt_3, mt_4, mt_5, mt_6, mt_7, rev_lk, max_lk, min_lk, sum_lk, any_lk, all_lk, count_lk, index_lk, pop_lk, eq_D, ne_D, eqD_ll, eqD_tt, eqL_ll, eqS_same, eqS_nil, eqS_ints, eqD_ii, eqD_kk, py_app, py_nil, py_cons, py_ints, py_int, py_bl, py_non, py_kD, py_links, py_prs, py_mapi, pr_mapi, pr_linksT, gt_np, pr_loc, pr_stps, pr_stp, aug_add, aug_sub, ko_app, take_left', len_aa, ek, isnone_kD, Option.map_some, Option.isNone_some, kD_s, hq2, List.length_map, hz]
          refine ⟨nx tw c ((i + 1 : Nat) : Int) + 1, ac ++ [.right ((i + 1 : Nat) : Int) p.1], some (.int t), some (.int p.1), ?_, by omega, ?_, ?_, g3, by omega⟩
          · rw [hk2, kD_s]
          · rw [List.map_append, List.map_append, List.map_append]; simp; rfl
          · rw [← g2]; simp
        · rw [rr_stay (fun q' hq' => by rw [h5] at hq'; cases hq'; exact hq)] at g2 g3
          have hq2 : key ≤ p.1 := by omega
          simp only [bnd_some, bnd_none, opt_some, opt_none, seqF_next, seqF_brk, seqF_cnt, seqF_ret, ts_nil, ts_cons, out_ret, out_next, ite_t, ite_f, bop_and_t, bop_and_f, bop_or_t, bop_or_f, bb_and_t, bb_and_f, bb_or_t, bb_or_f, slot_0, slot_s, e_con, b_con, e_var, b_var, e_glo, b_glo, e_tup, b_tup, e_lst, b_lst, e_dct, b_dct, e_op, b_op, e_neg, b_neg, e_not, b_not, e_bop, b_bop, e_cmp, b_cmp, e_chn, b_chn, e_ifx, b_ifx, e_ix, b_ix, e_sl, b_sl, e_call, b_call, e_bi, b_bi, e_mxd, b_mxd, e_isi, b_isi, e_isl, b_isl, e_lrg, b_lrg, e_mt, b_mt, e_lc, b_lc, e_rev, b_rev, e_gtp, e_lrg1, i_rng3, bop_1, bop_2, bb_1, bb_2, es_nil, es_cons, eo_none, eo_some, if_none, if_some, i_ex, i_rng1, i_rng2, i_enm, q_nm, q_tp, q_sb, setK_some, qs_nil, qs_cons, t_asg, t_aug, t_ex, t_ret, t_retN, t_iff, t_fr, t_whl, t_brk, t_cnt, t_pas, con_none, con_bool, con_int, con_str, neg_int, not_bl, int_int, add_int, sub_int, lt_int, le_int, gt_int, ge_int, eq_int, ne_int, is_nn, is_in, is_bb, isn_nn, isn_in, isn_bb, tr_non, tr_bl, tr_int, ty_non, ty_bl, ty_int, ty_tup, ty_ro, isa_int_int, isa_int_bool, isa_int_list, isa_int_tuple, isa_list_list, isa_list_tuple, isa_tuple_list, isa_tuple_tuple, sq_tup, sq_ro, bi_int_int, bi_int_bl, bi_tuple_tup, bi_min, bi_max, bi_len_tup, bi_len_ro, ix_tup, ix_ro, sl_tup, sl_ro, stays_tup, stays_ro, at_0, at_1, gc_ai, gc_aai, gc_aaai, gc_ab, gc_aab, gc_aaab, gc_an, gc_aan, gc_aaan, gc_same, wipe_nil, wipe_cons, sz_0, sz_1, sz_2, sz_3, sz_4, sz_5, sz_6, sz_7, sz_8, sz_9, sz_10, runDef, runFull, Def.full, startD, List.length_cons, List.length_nil, List.map_cons, List.map_nil, List.append_nil, List.nil_append, List.cons_append, List.drop_nil, List.drop_zero, List.set_cons_zero, List.set_cons_succ, List.replicate, if_true, if_false, Bool.not_true, Bool.not_false, Bool.true_or, Bool.false_or, Option.map_some, Option.map_none, Nat.zero_add, Nat.add_zero, Nat.sub_self, Nat.reduceAdd, Nat.reduceSub, ↓reduceIte, Bool.and_true, Bool.true_and, Bool.false_and, Bool.and_false, Int.cast_ofNat_Int, decide_true, decide_false, Int.reduceEq, Int.reduceLT, Int.reduceLE, Bool.false_eq_true, List.append_assoc, List.length_append, lk_app, lk_app0, lk_sapp, lk_sapp0, lk_z, lk_s, st_app, st_app0, st_sapp, st_sapp0, len_set, set_set, sq_lk, ix_lk, sl_lk, len_lk, tuple_lk, list_lk, list_tup, ty_lk, stays_lk, set_lk, add_lk, app_lk, ext_lk, clear_lk, recv_lk, get2_lk, tr_lk, gp_0, gp_1, gp_2, gp_3, gp_4, gp_5, gp_6, gp_7, gp_8, ko_n, ko_s, ko_p, gq_1, gq_2, gq_3, gq_4, gq_5, gq_6, gq_7, gq_8, gq_9, gq_10, gq_11, gq_12, gq_13, gq_14, gq_15, gq_16, gcR, Nat.lt_irrefl, Nat.not_lt_zero, List.take_succ_cons, List.take_zero, List.take_nil, D.beqL_self, at_2, at_3, ixN, Nat.reduceLT, Nat.reduceLeDiff, Int.reduceToNat, Int.reduceNeg, Int.reduceSub, Int.reduceAdd, Int.reduceMul, sz_lt, Int.zero_add, mod_int, pr_int, pr_bl, pr_non, pr_str, pr_tup, pr_nil, pr_cons, pr_lst, pr_ints, pr_prs, pr_app, pr_kD, mt_1, mt_2, mt_3, mt_4, mt_5, mt_6, mt_7, rev_lk, max_lk, min_lk, sum_lk, any_lk, all_lk, count_lk, index_lk, pop_lk, eq_D, ne_D, eqD_ll, eqD_tt, eqL_ll, eqS_same, eqS_nil, eqS_ints, eqD_ii, eqD_kk, py_app, py_nil, py_cons, py_ints, py_int, py_bl, py_non, py_kD, py_links, py_prs, py_mapi, pr_mapi, pr_linksT, gt_np, pr_loc, pr_stps, pr_stp, aug_add, aug_sub, ko_app, take_left', len_aa, ek, isnone_kD, Option.map_some, Option.isNone_some, kD_s, hq2]
          refine ⟨some (.int t), some (.int p.1), ?_⟩
          rw [← g2, ← g3, List.append_nil]
end K51

end

section
set_option maxHeartbeats 1000000
namespace K51
open PySem PySem.Spec Mi
open L2 (atI ixN Key)
theorem lsteps_of (k : Nat) {tw : Tws} {f key : Int} {S : Store} (hf : Fine tw) (hl : tw.length ≤ 1000) (hh : ∀ p ∈ tw, p.2 ≤ 900) : orc defs (k + 3) 25 [.tup (tw.map prD), .int f, .int key] S = some (.loc S.length, S ++ [.lst ((sbS tw f key).map Stp.d)]) := by
  rw [orc_at (d := d__law_steps) rfl]
  have h0 := hiT_nn hf
  have h1 := hiT_le (n := 900) (by decide) hh
  obtain ⟨h, hh2⟩ : ∃ h : Nat, hiT tw = (h : Int) := ⟨(hiT tw).toNat, by omega⟩
  simp only [d__law_steps, b__law_steps, bnd_some, bnd_none, opt_some, opt_none, seqF_next, seqF_brk, seqF_cnt, seqF_ret, ts_nil, ts_cons, out_ret, out_next, ite_t, ite_f, bop_and_t, bop_and_f, bop_or_t, bop_or_f, bb_and_t, bb_and_f, bb_or_t, bb_or_f, slot_0, slot_s, e_con, b_con, e_var, b_var, e_glo, b_glo, e_tup, b_tup, e_lst, b_lst, e_dct, b_dct, e_op, b_op, e_neg, b_neg, e_not, b_not, e_bop, b_bop, e_cmp, b_cmp, e_chn, b_chn, e_ifx, b_ifx, e_ix, b_ix, e_sl, b_sl, e_call, b_call, e_bi, b_bi, e_mxd, b_mxd, e_isi, b_isi, e_isl, b_isl, e_lrg, b_lrg, e_mt, b_mt, e_lc, b_lc, e_rev, b_rev, e_gtp, e_lrg1, i_rng3, bop_1, bop_2, bb_1, bb_2, es_nil, es_cons, eo_none, eo_some, if_none, if_some, i_ex, i_rng1, i_rng2, i_enm, q_nm, q_tp, q_sb, setK_some, qs_nil, qs_cons, t_asg, t_aug, t_ex, t_ret, t_retN, t_iff, t_fr, t_whl, t_brk, t_cnt, t_pas, con_none, con_bool, con_int, con_str, neg_int, not_bl, int_int, add_int, sub_int, lt_int, le_int, gt_int, ge_int, eq_int, ne_int, is_nn, is_in, is_bb, isn_nn, isn_in, isn_bb, tr_non, tr_bl, tr_int, ty_non, ty_bl, ty_int, ty_tup, ty_ro, isa_int_int, isa_int_bool, isa_int_list, isa_int_tuple, isa_list_list, isa_list_tuple, isa_tuple_list, isa_tuple_tuple, sq_tup, sq_ro, bi_int_int, bi_int_bl, bi_tuple_tup, bi_min, bi_max, bi_len_tup, bi_len_ro, ix_tup, ix_ro, sl_tup, sl_ro, stays_tup, stays_ro, at_0, at_1, gc_ai, gc_aai, gc_aaai, gc_ab, gc_aab, gc_aaab, gc_an, gc_aan, gc_aaan, gc_same, wipe_nil, wipe_cons, sz_0, sz_1, sz_2, sz_3, sz_4, sz_5, sz_6, sz_7, sz_8, sz_9, sz_10, runDef, runFull, Def.full, startD, List.length_cons, List.length_nil, List.map_cons, List.map_nil, List.append_nil, List.nil_append, List.cons_append, List.drop_nil, List.drop_zero, List.set_cons_zero, List.set_cons_succ, List.replicate, if_true, if_false, Bool.not_true, Bool.not_false, Bool.true_or, Bool.false_or, Option.map_some, Option.map_none, Nat.zero_add, Nat.add_zero, Nat.sub_self, Nat.reduceAdd, Nat.reduceSub, ↓reduceIte, Bool.and_true, Bool.true_and, Bool.false_and, Bool.and_false, Int.cast_ofNat_Int, decide_true, decide_false, Int.reduceEq, Int.reduceLT, Int.reduceLE, Bool.false_eq_true, List.append_assoc, List.length_append, lk_app, lk_app0, lk_sapp, lk_sapp0, lk_z, lk_s, st_app, st_app0, st_sapp, st_sapp0, len_set, set_set, sq_lk, ix_lk, sl_lk, len_lk, tuple_lk, list_lk, list_tup, ty_lk, stays_lk, set_lk, add_lk, app_lk, ext_lk, clear_lk, recv_lk, get2_lk, tr_lk, gp_0, gp_1, gp_2, gp_3, gp_4, gp_5, gp_6, gp_7, gp_8, ko_n, ko_s, ko_p, gq_1, gq_2, gq_3, gq_4, gq_5, gq_6, gq_7, gq_8, gq_9, gq_10, gq_11, gq_12, gq_13, gq_14, gq_15, gq_16, gcR, Nat.lt_irrefl, Nat.not_lt_zero, List.take_succ_cons, List.take_zero, List.take_nil, D.beqL_self, at_2, at_3, ixN, Nat.reduceLT, Nat.reduceLeDiff, Int.reduceToNat, Int.reduceNeg, Int.reduceSub, Int.reduceAdd, Int.reduceMul, sz_lt, Int.zero_add, mod_int, pr_int, pr_bl, pr_non, pr_str, pr_tup, pr_nil, pr_cons, pr_lst, pr_ints, pr_prs, pr_app, pr_kD, mt_1, mt_2, mt_3, mt_4, mt_5, mt_6, mt_7, rev_lk, max_lk, min_lk, sum_lk, any_lk, all_lk, count_lk, index_lk, pop_lk, eq_D, ne_D, eqD_ll, eqD_tt, eqL_ll, eqS_same, eqS_nil, eqS_ints, eqD_ii, eqD_kk, py_app, py_nil, py_cons, py_ints, py_int, py_bl, py_non, py_kD, py_links, py_prs, py_mapi, pr_mapi, pr_linksT, gt_np, pr_loc, pr_stps, pr_stp, aug_add, aug_sub, ko_app, take_left', len_aa]
  generalize hX : lcD _ _ _ _ _ _ _ = X
  have e := lc_f (fun q : Int × Int => D.int q.2) hX rfl (le_size (by simp; omega)) (fun p hp => by simp only [bnd_some, bnd_none, opt_some, opt_none, seqF_next, seqF_brk, seqF_cnt, seqF_ret, ts_nil, ts_cons, out_ret, out_next, ite_t, ite_f, bop_and_t, bop_and_f, bop_or_t, bop_or_f, bb_and_t, bb_and_f, bb_or_t, bb_or_f, slot_0, slot_s, e_con, b_con, e_var, b_var, e_glo, b_glo, e_tup, b_tup, e_lst, b_lst, e_dct, b_dct, e_op, b_op, e_neg, b_neg, e_not, b_not, e_bop, b_bop, e_cmp, b_cmp, e_chn, b_chn, e_ifx, b_ifx, e_ix, b_ix, e_sl, b_sl, e_call, b_call, e_bi, b_bi, e_mxd, b_mxd, e_isi, b_isi, e_isl, b_isl, e_lrg, b_lrg, e_mt, b_mt, e_lc, b_lc, e_rev, b_rev, e_gtp, e_lrg1, i_rng3, bop_1, bop_2, bb_1, bb_2, es_nil, es_cons, eo_none, eo_some, if_none, if_some, i_ex, i_rng1, i_rng2, i_enm, q_nm, q_tp, q_sb, setK_some, qs_nil, qs_cons, t_asg, t_aug, t_ex, t_ret, t_retN, t_iff, t_fr, t_whl, t_brk, t_cnt, t_pas, con_none, con_bool, con_int, con_str, neg_int, not_bl, int_int, add_int, sub_int, lt_int, le_int, gt_int, ge_int, eq_int, ne_int, is_nn, is_in, is_bb, isn_nn, isn_in, isn_bb, tr_non, tr_bl, tr_int, ty_non, ty_bl, ty_int, ty_tup, ty_ro, isa_int_int, isa_int_bool, isa_int_list, isa_int_tuple, isa_list_list, isa_list_tuple, isa_tuple_list, isa_tuple_tuple, sq_tup, sq_ro, bi_int_int, bi_int_bl, bi_tuple_tup, bi_min, bi_max, bi_len_tup, bi_len_ro, ix_tup, ix_ro, sl_tup, sl_ro, stays_tup, stays_ro, at_0, at_1, gc_ai, gc_aai, gc_aaai, gc_ab, gc_aab, gc_aaab, gc_an, gc_aan, gc_aaan, gc_same, wipe_nil, wipe_cons, sz_0, sz_1, sz_2, sz_3, sz_4, sz_5, sz_6, sz_7, sz_8, sz_9, sz_10, runDef, runFull, Def.full, startD, List.length_cons, List.length_nil, List.map_cons, List.map_nil, List.append_nil, List.nil_append, List.cons_append, List.drop_nil, List.drop_zero, List.set_cons_zero, List.set_cons_succ, List.replicate, if_true, if_false, Bool.not_true, Bool.not_false, Bool.true_or, Bool.false_or, Option.map_some, Option.map_none, Nat.zero_add, Nat.add_zero, Nat.sub_self, Nat.reduceAdd, Nat.reduceSub, ↓reduceIte, Bool.and_true, Bool.true_and, Bool.false_and, Bool.and_false, Int.cast_ofNat_Int, decide_true, decide_false, Int.reduceEq, Int.reduceLT, Int.reduceLE, Bool.false_eq_true, List.append_assoc, List.length_append, lk_app, lk_app0, lk_sapp, lk_sapp0, lk_z, lk_s, st_app, st_app0, st_sapp, st_sapp0, len_set, set_set, sq_lk, ix_lk, sl_lk, len_lk, tuple_lk, list_lk, list_tup, ty_lk, stays_lk, set_lk, add_lk, app_lk, ext_lk, clear_lk, recv_lk, get2_lk, tr_lk, gp_0, gp_1, gp_2, gp_3, gp_4, gp_5, gp_6, gp_7, gp_8, ko_n, ko_s, ko_p, gq_1, gq_2, gq_3, gq_4, gq_5, gq_6, gq_7, gq_8, gq_9, gq_10, gq_11, gq_12, gq_13, gq_14, gq_15, gq_16, gcR, Nat.lt_irrefl, Nat.not_lt_zero, List.take_succ_cons, List.take_zero, List.take_nil, D.beqL_self, at_2, at_3, ixN, Nat.reduceLT, Nat.reduceLeDiff, Int.reduceToNat, Int.reduceNeg, Int.reduceSub, Int.reduceAdd, Int.reduceMul, sz_lt, Int.zero_add, mod_int, pr_int, pr_bl, pr_non, pr_str, pr_tup, pr_nil, pr_cons, pr_lst, pr_ints, pr_prs, pr_app, pr_kD, mt_1, mt_2, mt_3, mt_4, mt_5, mt_6, mt_7, rev_lk, max_lk, min_lk, sum_lk, any_lk, all_lk, count_lk, index_lk, pop_lk, eq_D, ne_D, eqD_ll, eqD_tt, eqL_ll, eqS_same, eqS_nil, eqS_ints, eqD_ii, eqD_kk, py_app, py_nil, py_cons, py_ints, py_int, py_bl, py_non, py_kD, py_links, py_prs, py_mapi, pr_mapi, pr_linksT, gt_np, pr_loc, pr_stps, pr_stp, aug_add, aug_sub, ko_app, take_left', len_aa, lcS, ite_b, bnd_if, seqF_if, out_if, bopB_and, bopB_or, bopD_and, bopD_or, if_same_bool, if_bf, if_bx, if_xt, prD])
  subst e
  clear hX
  have hz : 1 + tw.length ≤ sizeLine := le_size (by omega)
  have er : rngD 1 ((h : Int) + 1) = some ⟨(rangeI 1 h).map D.int, fun _ => true⟩ := by
    rw [rng_small (by omega) (by omega) (by omega) (by omega)]; congr 5 <;> omega
  simp only [bnd_some, bnd_none, opt_some, opt_none, seqF_next, seqF_brk, seqF_cnt, seqF_ret, ts_nil, ts_cons, out_ret, out_next, ite_t, ite_f, bop_and_t, bop_and_f, bop_or_t, bop_or_f, bb_and_t, bb_and_f, bb_or_t, bb_or_f, slot_0, slot_s, e_con, b_con, e_var, b_var, e_glo, b_glo, e_tup, b_tup, e_lst, b_lst, e_dct, b_dct, e_op, b_op, e_neg, b_neg, e_not, b_not, e_bop, b_bop, e_cmp, b_cmp, e_chn, b_chn, e_ifx, b_ifx, e_ix, b_ix, e_sl, b_sl, e_call, b_call, e_bi, b_bi, e_mxd, b_mxd, e_isi, b_isi, e_isl, b_isl, e_lrg, b_lrg, e_mt, b_mt, e_lc, b_lc, e_rev, b_rev, e_gtp, e_lrg1, i_rng3, bop_1, bop_2, bb_1, bb_2, es_nil, es_cons, eo_none, eo_some, if_none, if_some, i_ex, i_rng1, i_rng2, i_enm, q_nm, q_tp, q_sb, setK_some, qs_nil, qs_cons, t_asg, t_aug, t_ex, t_ret, t_retN, t_iff, t_fr, t_whl, t_brk, t_cnt, t_pas, con_none, con_bool, con_int, con_str, neg_int, not_bl, int_int, add_int, sub_int, lt_int, le_int, gt_int, ge_int, eq_int, ne_int, is_nn, is_in, is_bb, isn_nn, isn_in, isn_bb, tr_non, tr_bl, tr_int, ty_non, ty_bl, ty_int, ty_tup, ty_ro, isa_int_int, isa_int_bool, isa_int_list, isa_int_tuple, isa_list_list, isa_list_tuple, isa_tuple_list, isa_tuple_tuple, sq_tup, sq_ro, bi_int_int, bi_int_bl, bi_tuple_tup, bi_min, bi_max, bi_len_tup, bi_len_ro, ix_tup, ix_ro, sl_tup, sl_ro, stays_tup, stays_ro, at_0, at_1, gc_ai, gc_aai, gc_aaai, gc_ab, gc_aab, gc_aaab, gc_an, gc_aan, gc_aaan, gc_same, wipe_nil, wipe_cons, sz_0, sz_1, sz_2, sz_3, sz_4, sz_5, sz_6, sz_7, sz_8, sz_9, sz_10, runDef, runFull, Def.full, startD, List.length_cons, List.length_nil, List.map_cons, List.map_nil, List.append_nil, List.nil_append, List.cons_append, List.drop_nil, List.drop_zero, List.set_cons_zero, List.set_cons_succ, List.replicate, if_true, if_false, Bool.not_true, Bool.not_false, Bool.true_or, Bool.false_or, Option.map_some, Option.map_none, Nat.zero_add, Nat.add_zero, Nat.sub_self, Nat.reduceAdd, Nat.reduceSub, ↓reduceIte, Bool.and_true, Bool.true_and, Bool.false_and, Bool.and_false, Int.cast_ofNat_Int, decide_true, decide_false, Int.reduceEq, Int.reduceLT, Int.reduceLE, Bool.false_eq_true, List.append_assoc, List.length_append, lk_app, lk_app0, lk_sapp, lk_sapp0, lk_z, lk_s, st_app, st_app0, st_sapp, st_sapp0, len_set, set_set, sq_lk, ix_lk, sl_lk, len_lk, tuple_lk, list_lk, list_tup, ty_lk, stays_lk, set_lk, add_lk, app_lk, ext_lk, clear_lk, recv_lk, get2_lk, tr_lk, gp_0, gp_1, gp_2, gp_3, gp_4, gp_5, gp_6, gp_7, gp_8, ko_n, ko_s, ko_p, gq_1, gq_2, gq_3, gq_4, gq_5, gq_6, gq_7, gq_8, gq_9, gq_10, gq_11, gq_12, gq_13, gq_14, gq_15, gq_16, gcR, Nat.lt_irrefl, Nat.not_lt_zero, List.take_succ_cons, List.take_zero, List.take_nil, D.beqL_self, at_2, at_3, ixN, Nat.reduceLT, Nat.reduceLeDiff, Int.reduceToNat, Int.reduceNeg, Int.reduceSub, Int.reduceAdd, Int.reduceMul, sz_lt, Int.zero_add, mod_int, pr_int, pr_bl, pr_non, pr_str, pr_tup, pr_nil, pr_cons, pr_lst, pr_ints, pr_prs, pr_app, pr_kD, mt_1, mt_2, mt_3, mt_4, mt_5, mt_6, mt_7, rev_lk, max_lk, min_lk, sum_lk, any_lk, all_lk, count_lk, index_lk, pop_lk, eq_D, ne_D, eqD_ll, eqD_tt, eqL_ll, eqS_same, eqS_nil, eqS_ints, eqD_ii, eqD_kk, py_app, py_nil, py_cons, py_ints, py_int, py_bl, py_non, py_kD, py_links, py_prs, py_mapi, pr_mapi, pr_linksT, gt_np, pr_loc, pr_stps, pr_stp, aug_add, aug_sub, ko_app, take_left', len_aa, List.length_map, hz, intsOf_cons, intsOf_mapi, greatest0 hf, hh2, er]
  generalize hX : forD _ _ _ _ _ _ = X
  have hso : sbS tw f key = if h = 0 then [] else (climb tw f key).1 ++ srch tw key (climb tw f key).2.1 (climb tw f key).2.2 := by
    unfold sbS
    by_cases hz : h = 0
    · rw [if_pos hz, if_pos (by omega)]
    · rw [if_neg hz, if_neg (by omega)]
  by_cases hk : key > f
  · have hk2 : f < key := hk
    have hcl : climb tw f key = crF tw f key (h - 1) 1 := by unfold climb; rw [if_pos hk, hh2]; rfl
    rw [hcl] at hso
    have key := for_M hX (fun r σ T => ∃ (i : Nat) (acc : List Stp) (x5 x6 x7 x8 x9 x10 : Option D), r = rangeI (i : Int) (h + 1 - i) ∧ σ = [some (.tup (tw.map prD)), some (.int f), some (.int key), some (.loc S.length), some (.int h), x5, x6, x7, x8, x9, x10] ∧ 1 ≤ i ∧ T = S ++ [.lst (acc.map Stp.d)] ∧ (0 < h → i ≤ h ∧ acc.length ≤ i ∧ acc ++ ((crF tw f key (h - i) i).1 ++ srch tw key (crF tw f key (h - i) i).2.1 (crF tw f key (h - i) i).2.2) = sbS tw f key) ∧ (h = 0 → acc = []))
      (fun X => (∃ L j, X = some (.ret (.loc (S.length + j)), S ++ L) ∧ lk L j = some (.lst ((sbS tw f key).map Stp.d))) ∨ (h = 0 ∧ ∃ (x5 x6 x7 x8 x9 x10 : Option D), X = some (.next [some (.tup (tw.map prD)), some (.int f), some (.int key), some (.loc S.length), some (.int h), x5, x6, x7, x8, x9, x10], S ++ [.lst []]))) ⟨1, [], _, _, _, _, _, _, ?_, rfl, Nat.le_refl _, rfl, fun h3 => ⟨h3, by simp, ?_⟩, fun _ => rfl⟩ ?_ ?_
    · rcases key with ⟨L, j, rfl, e⟩ | ⟨h3, x5, x6, x7, x8, x9, x10, rfl⟩
      · simp only [bnd_some, bnd_none, opt_some, opt_none, seqF_next, seqF_brk, seqF_cnt, seqF_ret, ts_nil, ts_cons, out_ret, out_next, ite_t, ite_f, bop_and_t, bop_and_f, bop_or_t, bop_or_f, bb_and_t, bb_and_f, bb_or_t, bb_or_f, slot_0, slot_s, e_con, b_con, e_var, b_var, e_glo, b_glo, e_tup, b_tup, e_lst, b_lst, e_dct, b_dct, e_op, b_op, e_neg, b_neg, e_not, b_not, e_bop, b_bop, e_cmp, b_cmp, e_chn, b_chn, e_ifx, b_ifx, e_ix, b_ix, e_sl, b_sl, e_call, b_call, e_bi, b_bi, e_mxd, b_mxd, e_isi, b_isi, e_isl, b_isl, e_lrg, b_lrg, e_mt, b_mt, e_lc, b_lc, e_rev, b_rev, e_gtp, e_lrg1, i_rng3, bop_1, bop_2, bb_1, bb_2, es_nil, es_cons, eo_none, eo_some, if_none, if_some, i_ex, i_rng1, i_rng2, i_enm, q_nm, q_tp, q_sb, setK_some, qs_nil, qs_cons, t_asg, t_aug, t_ex, t_ret, t_retN, t_iff, t_fr, t_whl, t_brk, t_cnt, t_pas, con_none, con_bool, con_int, con_str, neg_int, not_bl, int_int, add_int, sub_int, lt_int, le_int, gt_int, ge_int, eq_int, ne_int, is_nn, is_in, is_bb, isn_nn, isn_in, isn_bb, tr_non, tr_bl, tr_int, ty_non, ty_bl, ty_int, ty_tup, ty_ro, isa_int_int, isa_int_bool, isa_int_list, isa_int_tuple, isa_list_list, isa_list_tuple, isa_tuple_list, isa_tuple_tuple, sq_tup, sq_ro, bi_int_int, bi_int_bl, bi_tuple_tup, bi_min, bi_max, bi_len_tup, bi_len_ro, ix_tup, ix_ro, sl_tup, sl_ro, stays_tup, stays_ro, at_0, at_1, gc_ai, gc_aai, gc_aaai, gc_ab, gc_aab, gc_aaab, gc_an, gc_aan, gc_aaan, gc_same, wipe_nil, wipe_cons, sz_0, sz_1, sz_2, sz_3, sz_4, sz_5, sz_6, sz_7, sz_8, sz_9, sz_10, runDef, runFull, Def.full, startD, List.length_cons, List.length_nil, List.map_cons, List.map_nil, List.append_nil, List.nil_append, List.cons_append, List.drop_nil, List.drop_zero, List.set_cons_zero, List.set_cons_succ, List.replicate, if_true, if_false, Bool.not_true, Bool.not_false, Bool.true_or, Bool.false_or, Option.map_some, Option.map_none, Nat.zero_add, Nat.add_zero, Nat.sub_self, Nat.reduceAdd, Nat.reduceSub, ↓reduceIte, Bool.and_true, Bool.true_and, Bool.false_and, Bool.and_false, Int.cast_ofNat_Int, decide_true, decide_false, Int.reduceEq, Int.reduceLT, Int.reduceLE, Bool.false_eq_true, List.append_assoc, List.length_append, lk_app, lk_app0, lk_sapp, lk_sapp0, lk_z, lk_s, st_app, st_app0, st_sapp, st_sapp0, len_set, set_set, sq_lk, ix_lk, sl_lk, len_lk, tuple_lk, list_lk, list_tup, ty_lk, stays_lk, set_lk, add_lk, app_lk, ext_lk, clear_lk, recv_lk, get2_lk, tr_lk, gp_0, gp_1, gp_2, gp_3, gp_4, gp_5, gp_6, gp_7, gp_8, ko_n, ko_s, ko_p, gq_1, gq_2, gq_3, gq_4, gq_5, gq_6, gq_7, gq_8, gq_9, gq_10, gq_11, gq_12, gq_13, gq_14, gq_15, gq_16, gcR, Nat.lt_irrefl, Nat.not_lt_zero, List.take_succ_cons, List.take_zero, List.take_nil, D.beqL_self, at_2, at_3, ixN, Nat.reduceLT, Nat.reduceLeDiff, Int.reduceToNat, Int.reduceNeg, Int.reduceSub, Int.reduceAdd, Int.reduceMul, sz_lt, Int.zero_add, mod_int, pr_int, pr_bl, pr_non, pr_str, pr_tup, pr_nil, pr_cons, pr_lst, pr_ints, pr_prs, pr_app, pr_kD, mt_1, mt_2, mt_3, mt_4, mt_5, mt_6, mt_7, rev_lk, max_lk, min_lk, sum_lk, any_lk, all_lk, count_lk, index_lk, pop_lk, eq_D, ne_D, eqD_ll, eqD_tt, eqL_ll, eqS_same, eqS_nil, eqS_ints, eqD_ii, eqD_kk, py_app, py_nil, py_cons, py_ints, py_int, py_bl, py_non, py_kD, py_links, py_prs, py_mapi, pr_mapi, pr_linksT, gt_np, pr_loc, pr_stps, pr_stp, aug_add, aug_sub, ko_app, take_left', len_aa, e, Nat.add_zero]
      · subst h3
        have htw := fine_hi0 hf (by rw [hh2]; rfl)
        have es := lsearched_of k 0 0 (tw := tw) (key := key) (S := S ++ [.lst []]) hf (Nat.zero_le _) hl (by omega)
        have e0 : srch tw key 0 0 = [] := by rw [htw]; rfl
        rw [e0] at es
        have e1 : sbS tw f key = [] := by rw [hso, if_pos rfl]
        have es2 : orc defs (k + 2) 24 [.tup (tw.map prD), .non, .int 0, .int key] (S ++ [.lst []]) = _ := es
        simp only [bnd_some, bnd_none, opt_some, opt_none, seqF_next, seqF_brk, seqF_cnt, seqF_ret, ts_nil, ts_cons, out_ret, out_next, ite_t, ite_f, bop_and_t, bop_and_f, bop_or_t, bop_or_f, bb_and_t, bb_and_f, bb_or_t, bb_or_f, slot_0, slot_s, e_con, b_con, e_var, b_var, e_glo, b_glo, e_tup, b_tup, e_lst, b_lst, e_dct, b_dct, e_op, b_op, e_neg, b_neg, e_not, b_not, e_bop, b_bop, e_cmp, b_cmp, e_chn, b_chn, e_ifx, b_ifx, e_ix, b_ix, e_sl, b_sl, e_call, b_call, e_bi, b_bi, e_mxd, b_mxd, e_isi, b_isi, e_isl, b_isl, e_lrg, b_lrg, e_mt, b_mt, e_lc, b_lc, e_rev, b_rev, e_gtp, e_lrg1, i_rng3, bop_1, bop_2, bb_1, bb_2, es_nil, es_cons, eo_none, eo_some, if_none, if_some, i_ex, i_rng1, i_rng2, i_enm, q_nm, q_tp, q_sb, setK_some, qs_nil, qs_cons, t_asg, t_aug, t_ex, t_ret, t_retN, t_iff, t_fr, t_whl, t_brk, t_cnt, t_pas, con_none, con_bool, con_int, con_str, neg_int, not_bl, int_int, add_int, sub_int, lt_int, le_int, gt_int, ge_int, eq_int, ne_int, is_nn, is_in, is_bb, isn_nn, isn_in, isn_bb, tr_non, tr_bl, tr_int, ty_non, ty_bl, ty_int, ty_tup, ty_ro, isa_int_int, isa_int_bool, isa_int_list, isa_int_tuple, isa_list_list, isa_list_tuple, isa_tuple_list, isa_tuple_tuple, sq_tup, sq_ro, bi_int_int, bi_int_bl, bi_tuple_tup, bi_min, bi_max, bi_len_tup, bi_len_ro, ix_tup, ix_ro, sl_tup, sl_ro, stays_tup, stays_ro, at_0, at_1, gc_ai, gc_aai, gc_aaai, gc_ab, gc_aab, gc_aaab, gc_an, gc_aan, gc_aaan, gc_same, wipe_nil, wipe_cons, sz_0, sz_1, sz_2, sz_3, sz_4, sz_5, sz_6, sz_7, sz_8, sz_9, sz_10, runDef, runFull, Def.full, startD, List.length_cons, List.length_nil, List.map_cons, List.map_nil, List.append_nil, List.nil_append, List.cons_append, List.drop_nil, List.drop_zero, List.set_cons_zero, List.set_cons_succ, List.replicate, if_true, if_false, Bool.not_true, Bool.not_false, Bool.true_or, Bool.false_or, Option.map_some, Option.map_none, Nat.zero_add, Nat.add_zero, Nat.sub_self, Nat.reduceAdd, Nat.reduceSub, ↓reduceIte, Bool.and_true, Bool.true_and, Bool.false_and, Bool.and_false, Int.cast_ofNat_Int, decide_true, decide_false, Int.reduceEq, Int.reduceLT, Int.reduceLE, Bool.false_eq_true, List.append_assoc, List.length_append, lk_app, lk_app0, lk_sapp, lk_sapp0, lk_z, lk_s, st_app, st_app0, st_sapp, st_sapp0, len_set, set_set, sq_lk, ix_lk, sl_lk, len_lk, tuple_lk, list_lk, list_tup, ty_lk, stays_lk, set_lk, add_lk, app_lk, ext_lk, clear_lk, recv_lk, get2_lk, tr_lk, gp_0, gp_1, gp_2, gp_3, gp_4, gp_5, gp_6, gp_7, gp_8, ko_n, ko_s, ko_p, gq_1, gq_2, gq_3, gq_4, gq_5, gq_6, gq_7, gq_8, gq_9, gq_10, gq_11, gq_12, gq_13, gq_14, gq_15, gq_16, gcR, Nat.lt_irrefl, Nat.not_lt_zero, List.take_succ_cons, List.take_zero, List.take_nil, D.beqL_self, at_2, at_3, ixN, Nat.reduceLT, Nat.reduceLeDiff, Int.reduceToNat, Int.reduceNeg, Int.reduceSub, Int.reduceAdd, Int.reduceMul, sz_lt, Int.zero_add, mod_int, pr_int, pr_bl, pr_non, pr_str, pr_tup, pr_nil, pr_cons, pr_lst, pr_ints, pr_prs, pr_app, pr_kD, mt_1, mt_2, mt_3, mt_4, mt_5, mt_6, mt_7, rev_lk, max_lk, min_lk, sum_lk, any_lk, all_lk, count_lk, index_lk, pop_lk, eq_D, ne_D, eqD_ll, eqD_tt, eqL_ll, eqS_same, eqS_nil, eqS_ints, eqD_ii, eqD_kk, py_app, py_nil, py_cons, py_ints, py_int, py_bl, py_non, py_kD, py_links, py_prs, py_mapi, pr_mapi, pr_linksT, gt_np, pr_loc, pr_stps, pr_stp, aug_add, aug_sub, ko_app, take_left', len_aa, es2, e1]
    · rw [Nat.add_sub_cancel]; rfl
    · rw [hso, if_neg (by omega)]; rfl
    · rintro σ T ⟨i, acc, x5, x6, x7, x8, x9, x10, e, rfl, i1, rfl, e1, e2⟩
      have h3 := rangeI_nil e
      have hz0 : h = 0 := by
        rcases Nat.eq_zero_or_pos h with h4 | h4
        · exact h4
        · have := (e1 h4).1; omega
      refine ⟨rfl, .inr ⟨hz0, x5, x6, x7, x8, x9, x10, ?_⟩⟩
      rw [e2 hz0]; rfl
    · clear hX X
      rintro q r σ T ⟨i, acc, x5, x6, x7, x8, x9, x10, e, rfl, i1, rfl, e1, -⟩
      obtain ⟨g1, rfl, g3⟩ := rangeI_cons e
      obtain ⟨g4, g5, g6⟩ := e1 (by omega)
      refine ⟨rfl, ?_⟩
      have hpl := pbN_le f i tw
      have ep : ∀ T, _ := fun T => lplace_of (k + 1) (tw := tw) (f := f) (l := (i : Int)) (S := T) hl
      have en : ∀ T, orc defs (k + 2) 22 [.tup (tw.map prD), kD (keyAt tw (pbN f i tw)), .int i] T = some (kD ((tw[nx tw (pbN f i tw) i]?).map (·.1)), T) := fun T => by
        rw [lnext_of (k + 1) hl, nextK_at hf hpl]
      have es : ∀ T, _ := fun T => lsearched_of k i (pbN f i tw) (tw := tw) (key := key) (S := T) hf hpl hl (by omega)
      have hsl := srch_len (tw := tw) (key := key) (l := i) hpl
      have hz1 : acc.length + (srch tw key i (pbN f i tw)).length ≤ sizeLine := le_size (by omega)
      have hz2 : acc.length + 1 ≤ sizeLine := le_size (by omega)
      have hz3 : acc.length + (1 + (srch tw key i (pbN f i tw)).length) ≤ sizeLine := le_size (by omega)
      have hz4 : acc.length + 1 + (srch tw key i (pbN f i tw)).length ≤ sizeLine := le_size (by omega)
      have hz5 : acc.length < sizeLine := lt_size (by omega)
      by_cases hi : i = h
      · subst hi
        rw [Nat.sub_self, crF] at g6
        simp only [bnd_some, bnd_none, opt_some, opt_none, seqF_next, seqF_brk, seqF_cnt, seqF_ret, ts_nil, ts_cons, out_ret, out_next, ite_t, ite_f, bop_and_t, bop_and_f, bop_or_t, bop_or_f, bb_and_t, bb_and_f, bb_or_t, bb_or_f, slot_0, slot_s, e_con, b_con, e_var, b_var, e_glo, b_glo, e_tup, b_tup, e_lst, b_lst, e_dct, b_dct, e_op, b_op, e_neg, b_neg, e_not, b_not, e_bop, b_bop, e_cmp, b_cmp, e_chn, b_chn, e_ifx, b_ifx, e_ix, b_ix, e_sl, b_sl, e_call, b_call, e_bi, b_bi, e_mxd, b_mxd, e_isi, b_isi, e_isl, b_isl, e_lrg, b_lrg, e_mt, b_mt, e_lc, b_lc, e_rev, b_rev, e_gtp, e_lrg1, i_rng3, bop_1, bop_2, bb_1, bb_2, es_nil, es_cons, eo_none, eo_some, if_none, if_some, i_ex, i_rng1, i_rng2, i_enm, q_nm, q_tp, q_sb, setK_some, qs_nil, qs_cons, t_asg, t_aug, t_ex, t_ret, t_retN, t_iff, t_fr, t_whl, t_brk, t_cnt, t_pas, con_none, con_bool, con_int, con_str, neg_int, not_bl, int_int, add_int, sub_int, lt_int, le_int, gt_int, ge_int, eq_int, ne_int, is_nn, is_in, is_bb, isn_nn, isn_in, isn_bb, tr_non, tr_bl, tr_int, ty_non, ty_bl, ty_int, ty_tup, ty_ro, isa_int_int, isa_int_bool, isa_int_list, isa_int_tuple, isa_list_list, isa_list_tuple, isa_tuple_list, isa_tuple_tuple, sq_tup, sq_ro, bi_int_int, bi_int_bl, bi_tuple_tup, bi_min, bi_max, bi_len_tup, bi_len_ro, ix_tup, ix_ro, sl_tup, sl_ro, stays_tup, stays_ro, at_0, at_1, gc_ai, gc_aai, gc_aaai, gc_ab, gc_aab, gc_aaab, gc_an, gc_aan, gc_aaan, gc_same, wipe_nil, wipe_cons, sz_0, sz_1, sz_2, sz_3, sz_4, sz_5, sz_6, sz_7, sz_8, sz_9, sz_10, runDef, runFull, Def.full, startD, List.length_cons, List.length_nil, List.map_cons, List.map_nil, List.append_nil, List.nil_append, List.cons_append, List.drop_nil, List.drop_zero, List.set_cons_zero, List.set_cons_succ, List.replicate, if_true, if_false, Bool.not_true, Bool.not_false, Bool.true_or, Bool.false_or, Option.map_some, Option.map_none, Nat.zero_add, Nat.add_zero, Nat.sub_self, Nat.reduceAdd, Nat.reduceSub, ↓reduceIte, Bool.and_true, Bool.true_and, Bool.false_and, Bool.and_false, Int.cast_ofNat_Int, decide_true, decide_false, Int.reduceEq, Int.reduceLT, Int.reduceLE, Bool.false_eq_true, List.append_assoc, List.length_append, lk_app, lk_app0, lk_sapp, lk_sapp0, lk_z, lk_s, st_app, st_app0, st_sapp, st_sapp0, len_set, set_set, sq_lk, ix_lk, sl_lk, len_lk, tuple_lk, list_lk, list_tup, ty_lk, stays_lk, set_lk, add_lk, app_lk, ext_lk, clear_lk, recv_lk, get2_lk, tr_lk, gp_0, gp_1, gp_2, gp_3, gp_4, gp_5, gp_6, gp_7, gp_8, ko_n, ko_s, ko_p, gq_1, gq_2, gq_3, gq_4, gq_5, gq_6, gq_7, gq_8, gq_9, gq_10, gq_11, gq_12, gq_13, gq_14, gq_15, gq_16, gcR, Nat.lt_irrefl, Nat.not_lt_zero, List.take_succ_cons, List.take_zero, List.take_nil, D.beqL_self, at_2, at_3, ixN, Nat.reduceLT, Nat.reduceLeDiff, Int.reduceToNat, Int.reduceNeg, Int.reduceSub, Int.reduceAdd, Int.reduceMul, sz_lt, Int.zero_add, mod_int, pr_int, pr_bl, pr_non, pr_str, pr_tup, pr_nil, pr_cons, pr_lst, pr_ints, pr_prs, pr_app, pr_kD, mt_1, mt_2, mt_3, mt_4, mt_5, mt_6, mt_7, rev_lk, max_lk, min_lk, sum_lk, any_lk, all_lk, count_lk, index_lk, pop_lk, eq_D, ne_D, eqD_ll, eqD_tt, eqL_ll, eqS_same, eqS_nil, eqS_ints, eqD_ii, eqD_kk, py_app, py_nil, py_cons, py_ints, py_int, py_bl, py_non, py_kD, py_links, py_prs, py_mapi, pr_mapi, pr_linksT, gt_np, pr_loc, pr_stps, pr_stp, aug_add, aug_sub, ko_app, take_left', len_aa, ep, en, hk2, es, List.length_map, hz1]
        refine .inl ⟨[.lst (acc.map Stp.d), .lst ((srch tw key i (pbN f i tw)).map Stp.d), .lst (acc.map Stp.d ++ (srch tw key i (pbN f i tw)).map Stp.d)], 2, rfl, ?_⟩
        rw [← g6, List.map_append]; rfl
      · have hi2 : ¬ (i : Int) = (h : Int) := by omega
        have hj : h - i = (h - (i + 1)) + 1 := by omega
        rw [hj, crF] at g6
        cases h5 : tw[nx tw (pbN f i tw) i]? with
        | none =>
          rw [h5] at g6 en
          simp only [bnd_some, bnd_none, opt_some, opt_none, seqF_next, seqF_brk, seqF_cnt, seqF_ret, ts_nil, ts_cons, out_ret, out_next, ite_t, ite_f, bop_and_t, bop_and_f, bop_or_t, bop_or_f, bb_and_t, bb_and_f, bb_or_t, bb_or_f, slot_0, slot_s, e_con, b_con, e_var, b_var, e_glo, b_glo, e_tup, b_tup, e_lst, b_lst, e_dct, b_dct, e_op, b_op, e_neg, b_neg, e_not, b_not, e_bop, b_bop, e_cmp, b_cmp, e_chn, b_chn, e_ifx, b_ifx, e_ix, b_ix, e_sl, b_sl, e_call, b_call, e_bi, b_bi, e_mxd, b_mxd, e_isi, b_isi, e_isl, b_isl, e_lrg, b_lrg, e_mt, b_mt, e_lc, b_lc, e_rev, b_rev, e_gtp, e_lrg1, i_rng3, bop_1, bop_2, bb_1, bb_2, es_nil, es_cons, eo_none, eo_some, if_none, if_some, i_ex, i_rng1, i_rng2, i_enm, q_nm, q_tp, q_sb, setK_some, qs_nil, qs_cons, t_asg, t_aug, t_ex, t_ret, t_retN, t_iff, t_fr, t_whl, t_brk, t_cnt, t_pas, con_none, con_bool, con_int, con_str, neg_int, not_bl, int_int, add_int, sub_int, lt_int, le_int, gt_int, ge_int, eq_int, ne_int, is_nn, is_in, is_bb, isn_nn, isn_in, isn_bb, tr_non, tr_bl, tr_int, ty_non, ty_bl, ty_int, ty_tup, ty_ro, isa_int_int, isa_int_bool, isa_int_list, isa_int_tuple, isa_list_list, isa_list_tuple, isa_tuple_list, isa_tuple_tuple, sq_tup, sq_ro, bi_int_int, bi_int_bl, bi_tuple_tup, bi_min, bi_max, bi_len_tup, bi_len_ro, ix_tup, ix_ro, sl_tup, sl_ro, stays_tup, stays_ro, at_0, at_1, gc_ai, gc_aai, gc_aaai, gc_ab, gc_aab, gc_aaab, gc_an, gc_aan, gc_aaan, gc_same, wipe_nil, wipe_cons, sz_0, sz_1, sz_2, sz_3, sz_4, sz_5, sz_6, sz_7, sz_8, sz_9, sz_10, runDef, runFull, Def.full, startD, List.length_cons, List.length_nil, List.map_cons, List.map_nil, List.append_nil, List.nil_append, List.cons_append, List.drop_nil, List.drop_zero, List.set_cons_zero, List.set_cons_succ, List.replicate, if_true, if_false, Bool.not_true, Bool.not_false, Bool.true_or, Bool.false_or, Option.map_some, Option.map_none, Nat.zero_add, Nat.add_zero, Nat.sub_self, Nat.reduceAdd, Nat.reduceSub, ↓reduceIte, Bool.and_true, Bool.true_and, Bool.false_and, Bool.and_false, Int.cast_ofNat_Int, decide_true, decide_false, Int.reduceEq, Int.reduceLT, Int.reduceLE, Bool.false_eq_true, List.append_assoc, List.length_append, lk_app, lk_app0, lk_sapp, lk_sapp0, lk_z, lk_s, st_app, st_app0, st_sapp, st_sapp0, len_set, set_set, sq_lk, ix_lk, sl_lk, len_lk, tuple_lk, list_lk, list_tup, ty_lk, stays_lk, set_lk, add_lk, app_lk, ext_lk, clear_lk, recv_lk, get2_lk, tr_lk, gp_0, gp_1, gp_2, gp_3, gp_4, gp_5, gp_6, gp_7, gp_8, ko_n, ko_s, ko_p, gq_1, gq_2, gq_3, gq_4, gq_5, gq_6, gq_7, gq_8, gq_9, gq_10, gq_11, gq_12, gq_13, gq_14, gq_15, gq_16, gcR, Nat.lt_irrefl, Nat.not_lt_zero, List.take_succ_cons, List.take_zero, List.take_nil, D.beqL_self, at_2, at_3, ixN, Nat.reduceLT, Nat.reduceLeDiff, Int.reduceToNat, Int.reduceNeg, Int.reduceSub, Int.reduceAdd, Int.reduceMul, sz_lt, Int.zero_add, mod_int, pr_int, pr_bl, pr_non, pr_str, pr_tup, pr_nil, pr_cons, pr_lst, pr_ints, pr_prs, pr_app, pr_kD, mt_1, mt_2, mt_3, mt_4, mt_5, mt_6, mt_7, rev_lk, max_lk, min_lk, sum_lk, any_lk, all_lk, count_lk, index_lk, pop_lk, eq_D, ne_D, eqD_ll, eqD_tt, eqL_ll, eqS_same, eqS_nil, eqS_ints, eqD_ii, eqD_kk, py_app, py_nil, py_cons, py_ints, py_int, py_bl, py_non, py_kD, py_links, py_prs, py_mapi, pr_mapi, pr_linksT, gt_np, pr_loc, pr_stps, pr_stp, aug_add, aug_sub, ko_app, take_left', len_aa, ep, en, hk2, hi2, isnone_kD, Option.map_none, Option.isNone_none, List.length_map, hz2, es, hz3, hz4]
          refine .inl ⟨[.lst (acc.map Stp.d), .lst [Stp.d (.edge i)], .lst (acc.map Stp.d ++ [Stp.d (.edge i)]), .lst ((srch tw key i (pbN f i tw)).map Stp.d), .lst (acc.map Stp.d ++ Stp.d (.edge i) :: (srch tw key i (pbN f i tw)).map Stp.d)], 4, rfl, ?_⟩
          rw [← g6, List.map_append, List.map_append]; rfl
        | some p =>
          rw [h5] at g6 en
          dsimp only at g6
          by_cases hq : key ≤ p.1
          · rw [if_pos hq] at g6
            simp only [bnd_some, bnd_none, opt_some, opt_none, seqF_next, seqF_brk, seqF_cnt, seqF_ret, ts_nil, ts_cons, out_ret, out_next, ite_t, ite_f, bop_and_t, bop_and_f, bop_or_t, bop_or_f, bb_and_t, bb_and_f, bb_or_t, bb_or_f, slot_0, slot_s, e_con, b_con, e_var, b_var, e_glo, b_glo, e_tup, b_tup, e_lst, b_lst, e_dct, b_dct, e_op, b_op, e_neg, b_neg, e_not, b_not, e_bop, b_bop, e_cmp, b_cmp, e_chn, b_chn, e_ifx, b_ifx, e_ix, b_ix, e_sl, b_sl, e_call, b_call, e_bi, b_bi, e_mxd, b_mxd, e_isi, b_isi, e_isl, b_isl, e_lrg, b_lrg, e_mt, b_mt, e_lc, b_lc, e_rev, b_rev, e_gtp, e_lrg1, i_rng3, bop_1, bop_2, bb_1, bb_2, es_nil, es_cons, eo_none, eo_some, if_none, if_some, i_ex, i_rng1, i_rng2, i_enm, q_nm, q_tp, q_sb, setK_some, qs_nil, qs_cons, t_asg, t_aug, t_ex, t_ret, t_retN, t_iff, t_fr, t_whl, t_brk, t_cnt, t_pas, con_none, con_bool, con_int, con_str, neg_int, not_bl, int_int, add_int, sub_int, lt_int, le_int, gt_int, ge_int, eq_int, ne_int, is_nn, is_in, is_bb, isn_nn, isn_in, isn_bb, tr_non, tr_bl, tr_int, ty_non, ty_bl, ty_int, ty_tup, ty_ro, isa_int_int, isa_int_bool, isa_int_list, isa_int_tuple, isa_list_list, isa_list_tuple, isa_tuple_list, isa_tuple_tuple, sq_tup, sq_ro, bi_int_int, bi_int_bl, bi_tuple_tup, bi_min, bi_max, bi_len_tup, bi_len_ro, ix_tup, ix_ro, sl_tup, sl_ro, stays_tup, stays_ro, at_0, at_1, gc_ai, gc_aai, gc_aaai, gc_ab, gc_aab, gc_aaab, gc_an, gc_aan, gc_aaan, gc_same, wipe_nil, wipe_cons, sz_0, sz_1, sz_2, sz_3, sz_4, sz_5, sz_6, sz_7, sz_8, sz_9, sz_10, runDef, runFull, Def.full, startD, List.length_cons, List.length_nil, List.map_cons, List.map_nil, List.append_nil, List.nil_append, List.cons_append, List.drop_nil, List.drop_zero, List.set_cons_zero, List.set_cons_succ, List.replicate, if_true, if_false, Bool.not_true, Bool.not_false, Bool.true_or, Bool.false_or, Option.map_some, Option.map_none, Nat.zero_add, Nat.add_zero, Nat.sub_self, Nat.reduceAdd, Nat.reduceSub, ↓reduceIte, Bool.and_true, Bool.true_and, Bool.false_and, Bool.and_false, Int.cast_ofNat_Int, decide_true, decide_false, Int.reduceEq, Int.reduceLT, Int.reduceLE, Bool.false_eq_true, List.append_assoc, List.length_append, lk_app, lk_app0, lk_sapp, lk_sapp0, lk_z, lk_s, st_app, st_app0, st_sapp, st_sapp0, len_set, set_set, sq_lk, ix_lk, sl_lk, len_lk, tuple_lk, list_lk, list_tup, ty_lk, stays_lk, set_lk, add_lk, app_lk, ext_lk, clear_lk, recv_lk, get2_lk, tr_lk, gp_0, gp_1, gp_2, gp_3, gp_4, gp_5, gp_6, gp_7, gp_8, ko_n, ko_s, ko_p, gq_1, gq_2, gq_3, gq_4, gq_5, gq_6, gq_7, gq_8, gq_9, gq_10, gq_11, gq_12, gq_13, gq_14, gq_15, gq_16, gcR, Nat.lt_irrefl, Nat.not_lt_zero, List.take_succ_cons, List.take_zero, List.take_nil, D.beqL_self, at_2, at_3, ixN, Nat.reduceLT, Nat.reduceLeDiff, Int.reduceToNat, Int.reduceNeg, Int.reduceSub, Int.reduceAdd, Int.reduceMul, sz_lt, Int.zero_add, mod_int, pr_int, pr_bl, pr_non, pr_str, pr_tup, pr_nil, pr_cons, pr_lst, pr_ints, pr_prs, pr_app, pr_kD, mt_1, mt_2, mt_3, mt_4, mt_5, mt_6, mt_7, rev_lk, max_lk, min_lk, sum_lk, any_lk, all_lk, count_lk, index_lk, pop_lk, eq_D, ne_D, eqD_ll, eqD_tt, eqL_ll, eqS_same, eqS_nil, eqS_ints, eqD_ii, eqD_kk, py_app, py_nil, py_cons, py_ints, py_int, py_bl, py_non, py_kD, py_links, py_prs, py_mapi, pr_mapi, pr_linksT, gt_np, pr_loc, pr_stps, pr_stp, aug_add, aug_sub, ko_app, take_left', len_aa, ep, en, hk2, hi2, isnone_kD, Option.map_some, Option.isNone_some, kD_s, hq, List.length_map, hz2, es, hz3, hz4]
            refine .inl ⟨[.lst (acc.map Stp.d), .lst [Stp.d (.turn i p.1)], .lst (acc.map Stp.d ++ [Stp.d (.turn i p.1)]), .lst ((srch tw key i (pbN f i tw)).map Stp.d), .lst (acc.map Stp.d ++ Stp.d (.turn i p.1) :: (srch tw key i (pbN f i tw)).map Stp.d)], 4, rfl, ?_⟩
            rw [← g6, List.map_append, List.map_append]; rfl
          · rw [if_neg hq] at g6
            simp only [bnd_some, bnd_none, opt_some, opt_none, seqF_next, seqF_brk, seqF_cnt, seqF_ret, ts_nil, ts_cons, out_ret, out_next, ite_t, ite_f, bop_and_t, bop_and_f, bop_or_t, bop_or_f, bb_and_t, bb_and_f, bb_or_t, bb_or_f, slot_0, slot_s, e_con, b_con, e_var, b_var, e_glo, b_glo, e_tup, b_tup, e_lst, b_lst, e_dct, b_dct, e_op, b_op, e_neg, b_neg, e_not, b_not, e_bop, b_bop, e_cmp, b_cmp, e_chn, b_chn, e_ifx, b_ifx, e_ix, b_ix, e_sl, b_sl, e_call, b_call, e_bi, b_bi, e_mxd, b_mxd, e_isi, b_isi, e_isl, b_isl, e_lrg, b_lrg, e_mt, b_mt, e_lc, b_lc, e_rev, b_rev, e_gtp, e_lrg1, i_rng3, bop_1, bop_2, bb_1, bb_2, es_nil, es_cons, eo_none, eo_some, if_none, if_some, i_ex, i_rng1, i_rng2, i_enm, q_nm, q_tp, q_sb, setK_some, qs_nil, qs_cons, t_asg, t_aug, t_ex, t_ret, t_retN, t_iff, t_fr, t_whl, t_brk, t_cnt, t_pas, con_none, con_bool, con_int, con_str, neg_int, not_bl, int_int, add_int, sub_int, lt_int, le_int, gt_int, ge_int, eq_int, ne_int, is_nn, is_in, is_bb, isn_nn, isn_in, isn_bb, tr_non, tr_bl, tr_int, ty_non, ty_bl, ty_int, ty_tup, ty_ro, isa_int_int, isa_int_bool, isa_int_list, isa_int_tuple, isa_list_list, isa_list_tuple, isa_tuple_list, isa_tuple_tuple, sq_tup, sq_ro, bi_int_int, bi_int_bl, bi_tuple_tup, bi_min, bi_max, bi_len_tup, bi_len_ro, ix_tup, ix_ro, sl_tup, sl_ro, stays_tup, stays_ro, at_0, at_1, gc_ai, gc_aai, gc_aaai, gc_ab, gc_aab, gc_aaab, gc_an, gc_aan, gc_aaan, gc_same, wipe_nil, wipe_cons, sz_0, sz_1, sz_2, sz_3, sz_4, sz_5, sz_6, sz_7, sz_8, sz_9, sz_10, runDef, runFull, Def.full, startD, List.length_cons, List.length_nil, List.map_cons, List.map_nil, List.append_nil, List.nil_append, List.cons_append, List.drop_nil, List.drop_zero, List.set_cons_zero, List.set_cons_succ, List.replicate, if_true, if_false, Bool.not_true, Bool.not_false, Bool.true_or, Bool.false_or, Option.map_some, Option.map_none, Nat.zero_add, Nat.add_zero, Nat.sub_self, Nat.reduceAdd, Nat.reduceSub, ↓reduceIte, Bool.and_true, Bool.true_and, Bool.false_and, Bool.and_false, Int.cast_ofNat_Int, decide_true, decide_false, Int.reduceEq, Int.reduceLT, Int.reduceLE, Bool.false_eq_true, List.append_assoc, List.length_append, lk_app, lk_app0, lk_sapp, lk_sapp0, lk_z, lk_s, st_app, st_app0, st_sapp, st_sapp0, len_set, set_set, sq_lk, ix_lk, sl_lk, len_lk, tuple_lk, list_lk, list_tup, ty_lk, stays_lk, set_lk, add_lk, app_lk, ext_lk, clear_lk, recv_lk, get2_lk, tr_lk, gp_0, gp_1, gp_2, gp_3, gp_4, gp_5, gp_6, gp_7, gp_8, ko_n, ko_s, ko_p, gq_1, gq_2, gq_3, gq_4, gq_5, gq_6, gq_7, gq_8, gq_9, gq_10, gq_11, gq_12, gq_13, gq_14, gq_15, gq_16, gcR, Nat.lt_irrefl, Nat.not_lt_zero, List.take_succ_cons, List.take_zero, List.take_nil, D.beqL_self, at_2, at_3, ixN, Nat.reduceLT, Nat.reduceLeDiff, Int.reduceToNat, Int.reduceNeg, Int.reduceSub, Int.reduceAdd, Int.reduceMul, sz_lt, Int.zero_add, mod_int, pr_int, pr_bl, pr_non, pr_str, pr_tup, pr_nil, pr_cons, pr_lst, pr_ints, pr_prs, pr_app, pr_kD, mt_1, mt_2, mt_3, mt_4, mt_5, mt_6, mt_7, rev_lk, max_lk, min_lk, sum_lk, any_lk, all_lk, count_lk, index_lk, pop_lk, eq_D, ne_D, eqD_ll, eqD_tt, eqL_ll, eqS_same, eqS_nil, eqS_ints, eqD_ii, eqD_kk, py_app, py_nil, py_cons, py_ints, py_int, py_bl, py_non, py_kD, py_links, py_prs, py_mapi, pr_mapi, pr_linksT, gt_np, pr_loc, pr_stps, pr_stp, aug_add, aug_sub, ko_app, take_left', len_aa, ep, en, hk2, hi2, isnone_kD, Option.map_some, Option.isNone_some, kD_s, hq, List.length_map, hz5]
            refine ⟨i + 1, acc ++ [.up i p.1], _, _, _, _, _, _, g3, rfl, by omega, ?_, fun _ => ⟨by omega, by simp; omega, ?_⟩, fun z => by omega⟩
            · rw [List.map_append]; rfl
            · rw [← g6]; simp
  · have hk2 : ¬ f < key := hk
    have hcl : climb tw f key = clF tw f key h 1 := by unfold climb; rw [if_neg hk, hh2]; rfl
    rw [hcl] at hso
    have key := for_M hX (fun r σ T => ∃ (i : Nat) (acc : List Stp) (x5 x6 x7 x8 x9 x10 : Option D), r = rangeI (i : Int) (h + 1 - i) ∧ σ = [some (.tup (tw.map prD)), some (.int f), some (.int key), some (.loc S.length), some (.int h), x5, x6, x7, x8, x9, x10] ∧ 1 ≤ i ∧ i ≤ h + 1 ∧ acc.length ≤ i ∧ T = S ++ [.lst (acc.map Stp.d)] ∧ acc ++ ((clF tw f key (h + 1 - i) i).1 ++ srch tw key (clF tw f key (h + 1 - i) i).2.1 (clF tw f key (h + 1 - i) i).2.2) = sbS tw f key)
      (fun X => (∃ L j, X = some (.ret (.loc (S.length + j)), S ++ L) ∧ lk L j = some (.lst ((sbS tw f key).map Stp.d))) ∨ ∃ (acc : List Stp) (x5 x6 x7 x8 x9 x10 : Option D), X = some (.next [some (.tup (tw.map prD)), some (.int f), some (.int key), some (.loc S.length), some (.int h), x5, x6, x7, x8, x9, x10], S ++ [.lst (acc.map Stp.d)]) ∧ acc.length ≤ h + 1 ∧ acc ++ srch tw key h 0 = sbS tw f key) ⟨1, [], _, _, _, _, _, _, ?_, rfl, Nat.le_refl _, by omega, by simp, rfl, ?_⟩ ?_ ?_
    · rcases key with ⟨L, j, rfl, e⟩ | ⟨acc, x5, x6, x7, x8, x9, x10, rfl, g1, g2⟩
      · simp only [bnd_some, bnd_none, opt_some, opt_none, seqF_next, seqF_brk, seqF_cnt, seqF_ret, ts_nil, ts_cons, out_ret, out_next, ite_t, ite_f, bop_and_t, bop_and_f, bop_or_t, bop_or_f, bb_and_t, bb_and_f, bb_or_t, bb_or_f, slot_0, slot_s, e_con, b_con, e_var, b_var, e_glo, b_glo, e_tup, b_tup, e_lst, b_lst, e_dct, b_dct, e_op, b_op, e_neg, b_neg, e_not, b_not, e_bop, b_bop, e_cmp, b_cmp, e_chn, b_chn, e_ifx, b_ifx, e_ix, b_ix, e_sl, b_sl, e_call, b_call, e_bi, b_bi, e_mxd, b_mxd, e_isi, b_isi, e_isl, b_isl, e_lrg, b_lrg, e_mt, b_mt, e_lc, b_lc, e_rev, b_rev, e_gtp, e_lrg1, i_rng3, bop_1, bop_2, bb_1, bb_2, es_nil, es_cons, eo_none, eo_some, if_none, if_some, i_ex, i_rng1, i_rng2, i_enm, q_nm, q_tp, q_sb, setK_some, qs_nil, qs_cons, t_asg, t_aug, t_ex, t_ret, t_retN, t_iff, t_fr, t_whl, t_brk, t_cnt, t_pas, con_none, con_bool, con_int, con_str, neg_int, not_bl, int_int, add_int, sub_int, lt_int, le_int, gt_int, ge_int, eq_int, ne_int, is_nn, is_in, is_bb, isn_nn, isn_in, isn_bb, tr_non, tr_bl, tr_int, ty_non, ty_bl, ty_int, ty_tup, ty_ro, isa_int_int, isa_int_bool, isa_int_list, isa_int_tuple, isa_list_list, isa_list_tuple, isa_tuple_list, isa_tuple_tuple, sq_tup, sq_ro, bi_int_int, bi_int_bl, bi_tuple_tup, bi_min, bi_max, bi_len_tup, bi_len_ro, ix_tup, ix_ro, sl_tup, sl_ro, stays_tup, stays_ro, at_0, at_1, gc_ai, gc_aai, gc_aaai, gc_ab, gc_aab, gc_aaab, gc_an, gc_aan, gc_aaan, gc_same, wipe_nil, wipe_cons, sz_0, sz_1, sz_2, sz_3, sz_4, sz_5, sz_6, sz_7, sz_8, sz_9, sz_10, runDef, runFull, Def.full, startD, List.length_cons, List.length_nil, List.map_cons, List.map_nil, List.append_nil, List.nil_append, List.cons_append, List.drop_nil, List.drop_zero, List.set_cons_zero, List.set_cons_succ, List.replicate, if_true, if_false, Bool.not_true, Bool.not_false, Bool.true_or, Bool.false_or, Option.map_some, Option.map_none, Nat.zero_add, Nat.add_zero, Nat.sub_self, Nat.reduceAdd, Nat.reduceSub, ↓reduceIte, Bool.and_true, Bool.true_and, Bool.false_and, Bool.and_false, Int.cast_ofNat_Int, decide_true, decide_false, Int.reduceEq, Int.reduceLT, Int.reduceLE, Bool.false_eq_true, List.append_assoc, List.length_append, lk_app, lk_app0, lk_sapp, lk_sapp0, lk_z, lk_s, st_app, st_app0, st_sapp, st_sapp0, len_set, set_set, sq_lk, ix_lk, sl_lk, len_lk, tuple_lk, list_lk, list_tup, ty_lk, stays_lk, set_lk, add_lk, app_lk, ext_lk, clear_lk, recv_lk, get2_lk, tr_lk, gp_0, gp_1, gp_2, gp_3, gp_4, gp_5, gp_6, gp_7, gp_8, ko_n, ko_s, ko_p, gq_1, gq_2, gq_3, gq_4, gq_5, gq_6, gq_7, gq_8, gq_9, gq_10, gq_11, gq_12, gq_13, gq_14, gq_15, gq_16, gcR, Nat.lt_irrefl, Nat.not_lt_zero, List.take_succ_cons, List.take_zero, List.take_nil, D.beqL_self, at_2, at_3, ixN, Nat.reduceLT, Nat.reduceLeDiff, Int.reduceToNat, Int.reduceNeg, Int.reduceSub, Int.reduceAdd, Int.reduceMul, sz_lt, Int.zero_add, mod_int, pr_int, pr_bl, pr_non, pr_str, pr_tup, pr_nil, pr_cons, pr_lst, pr_ints, pr_prs, pr_app, pr_kD, mt_1, mt_2, mt_3, mt_4, mt_5, mt_6, mt_7, rev_lk, max_lk, min_lk, sum_lk, any_lk, all_lk, count_lk, index_lk, pop_lk, eq_D, ne_D, eqD_ll, eqD_tt, eqL_ll, eqS_same, eqS_nil, eqS_ints, eqD_ii, eqD_kk, py_app, py_nil, py_cons, py_ints, py_int, py_bl, py_non, py_kD, py_links, py_prs, py_mapi, pr_mapi, pr_linksT, gt_np, pr_loc, pr_stps, pr_stp, aug_add, aug_sub, ko_app, take_left', len_aa, e, Nat.add_zero]
      · have es := lsearched_of k h 0 (tw := tw) (key := key) (S := S ++ [.lst (acc.map Stp.d)]) hf (Nat.zero_le _) hl (by omega)
        rw [show kD (keyAt tw 0) = .non from rfl] at es
        have hsl := srch_len (tw := tw) (key := key) (l := h) (n := 0) (Nat.zero_le _)
        have hz1 : acc.length + (srch tw key h 0).length ≤ sizeLine := le_size (by omega)
        have e7 : acc.map Stp.d ++ (srch tw key h 0).map Stp.d = (sbS tw f key).map Stp.d := by rw [← g2, List.map_append]
        simp only [bnd_some, bnd_none, opt_some, opt_none, seqF_next, seqF_brk, seqF_cnt, seqF_ret, ts_nil, ts_cons, out_ret, out_next, ite_t, ite_f, bop_and_t, bop_and_f, bop_or_t, bop_or_f, bb_and_t, bb_and_f, bb_or_t, bb_or_f, slot_0, slot_s, e_con, b_con, e_var, b_var, e_glo, b_glo, e_tup, b_tup, e_lst, b_lst, e_dct, b_dct, e_op, b_op, e_neg, b_neg, e_not, b_not, e_bop, b_bop, e_cmp, b_cmp, e_chn, b_chn, e_ifx, b_ifx, e_ix, b_ix, e_sl, b_sl, e_call, b_call, e_bi, b_bi, e_mxd, b_mxd, e_isi, b_isi, e_isl, b_isl, e_lrg, b_lrg, e_mt, b_mt, e_lc, b_lc, e_rev, b_rev, e_gtp, e_lrg1, i_rng3, bop_1, bop_2, bb_1, bb_2, es_nil, es_cons, eo_none, eo_some, if_none, if_some, i_ex, i_rng1, i_rng2, i_enm, q_nm, q_tp, q_sb, setK_some, qs_nil, qs_cons, t_asg, t_aug, t_ex, t_ret, t_retN, t_iff, t_fr, t_whl, t_brk, t_cnt, t_pas, con_none, con_bool, con_int, con_str, neg_int, not_bl, int_int, add_int, sub_int, lt_int, le_int, gt_int, ge_int, eq_int, ne_int, is_nn, is_in, is_bb, isn_nn, isn_in, isn_bb, tr_non, tr_bl, tr_int, ty_non, ty_bl, ty_int, ty_tup, ty_ro, isa_int_int, isa_int_bool, isa_int_list, isa_int_tuple, isa_list_list, isa_list_tuple, isa_tuple_list, isa_tuple_tuple, sq_tup, sq_ro, bi_int_int, bi_int_bl, bi_tuple_tup, bi_min, bi_max, bi_len_tup, bi_len_ro, ix_tup, ix_ro, sl_tup, sl_ro, stays_tup, stays_ro, at_0, at_1, gc_ai, gc_aai, gc_aaai, gc_ab, gc_aab, gc_aaab, gc_an, gc_aan, gc_aaan, gc_same, wipe_nil, wipe_cons, sz_0, sz_1, sz_2, sz_3, sz_4, sz_5, sz_6, sz_7, sz_8, sz_9, sz_10, runDef, runFull, Def.full, startD, List.length_cons, List.length_nil, List.map_cons, List.map_nil, List.append_nil, List.nil_append, List.cons_append, List.drop_nil, List.drop_zero, List.set_cons_zero, List.set_cons_succ, List.replicate, if_true, if_false, Bool.not_true, Bool.not_false, Bool.true_or, Bool.false_or, Option.map_some, Option.map_none, Nat.zero_add, Nat.add_zero, Nat.sub_self, Nat.reduceAdd, Nat.reduceSub, ↓reduceIte, Bool.and_true, Bool.true_and, Bool.false_and, Bool.and_false, Int.cast_ofNat_Int, decide_true, decide_false, Int.reduceEq, Int.reduceLT, Int.reduceLE, Bool.false_eq_true, List.append_assoc, List.length_append, lk_app, lk_app0, lk_sapp, lk_sapp0, lk_z, lk_s, st_app, st_app0, st_sapp, st_sapp0, len_set, set_set, sq_lk, ix_lk, sl_lk, len_lk, tuple_lk, list_lk, list_tup, ty_lk, stays_lk, set_lk, add_lk, app_lk, ext_lk, clear_lk, recv_lk, get2_lk, tr_lk, gp_0, gp_1, gp_2, gp_3, gp_4, gp_5, gp_6, gp_7, gp_8, ko_n, ko_s, ko_p, gq_1, gq_2, gq_3, gq_4, gq_5, gq_6, gq_7, gq_8, gq_9, gq_10, gq_11, gq_12, gq_13, gq_14, gq_15, gq_16, gcR, Nat.lt_irrefl, Nat.not_lt_zero, List.take_succ_cons, List.take_zero, List.take_nil, D.beqL_self, at_2, at_3, ixN, Nat.reduceLT, Nat.reduceLeDiff, Int.reduceToNat, Int.reduceNeg, Int.reduceSub, Int.reduceAdd, Int.reduceMul, sz_lt, Int.zero_add, mod_int, pr_int, pr_bl, pr_non, pr_str, pr_tup, pr_nil, pr_cons, pr_lst, pr_ints, pr_prs, pr_app, pr_kD, mt_1, mt_2, mt_3, mt_4, mt_5, mt_6, mt_7, rev_lk, max_lk, min_lk, sum_lk, any_lk, all_lk, count_lk, index_lk, pop_lk, eq_D, ne_D, eqD_ll, eqD_tt, eqL_ll, eqS_same, eqS_nil, eqS_ints, eqD_ii, eqD_kk, py_app, py_nil, py_cons, py_ints, py_int, py_bl, py_non, py_kD, py_links, py_prs, py_mapi, pr_mapi, pr_linksT, gt_np, pr_loc, pr_stps, pr_stp, aug_add, aug_sub, ko_app, take_left', len_aa, es, List.length_map, hz1, e7]
    · rw [Nat.add_sub_cancel]; rfl
    · rw [Nat.add_sub_cancel, List.nil_append, hso]
      by_cases hz0 : h = 0
      · rw [if_pos hz0]
        have htw := fine_hi0 hf (by rw [hh2, hz0]; rfl)
        subst hz0
        rw [htw]; rfl
      · rw [if_neg hz0]
    · rintro σ T ⟨i, acc, x5, x6, x7, x8, x9, x10, e, rfl, i1, i2, i3, rfl, e1⟩
      have h3 := rangeI_nil e
      have hi : i = h + 1 := by omega
      subst hi
      rw [Nat.sub_self, clF] at e1
      exact ⟨rfl, .inr ⟨acc, x5, x6, x7, x8, x9, x10, rfl, i3, e1⟩⟩
    · clear hX X
      rintro q r σ T ⟨i, acc, x5, x6, x7, x8, x9, x10, e, rfl, i1, i2, i3, rfl, g6⟩
      obtain ⟨g1, rfl, g3⟩ := rangeI_cons e
      refine ⟨rfl, ?_⟩
      have hpl := pbN_le f i tw
      have ep : ∀ T, _ := fun T => lplace_of (k + 1) (tw := tw) (f := f) (l := (i : Int)) (S := T) hl
      have es : ∀ T, _ := fun T => lsearched_of k i (pbN f i tw) (tw := tw) (key := key) (S := T) hf hpl hl (by omega)
      have hsl := srch_len (tw := tw) (key := key) (l := i) hpl
      have hz2 : acc.length + 1 ≤ sizeLine := le_size (by omega)
      have hz3 : acc.length + (1 + (srch tw key i (pbN f i tw)).length) ≤ sizeLine := le_size (by omega)
      have hz4 : acc.length + 1 + (srch tw key i (pbN f i tw)).length ≤ sizeLine := le_size (by omega)
      have hz5 : acc.length < sizeLine := lt_size (by omega)
      have hj : h + 1 - i = (h + 1 - (i + 1)) + 1 := by omega
      rw [hj, clF] at g6
      cases h5 : keyAt tw (pbN f i tw) with
      | none =>
        rw [h5] at g6 ep es
        simp only [bnd_some, bnd_none, opt_some, opt_none, seqF_next, seqF_brk, seqF_cnt, seqF_ret, ts_nil, ts_cons, out_ret, out_next, ite_t, ite_f, bop_and_t, bop_and_f, bop_or_t, bop_or_f, bb_and_t, bb_and_f, bb_or_t, bb_or_f, slot_0, slot_s, e_con, b_con, e_var, b_var, e_glo, b_glo, e_tup, b_tup, e_lst, b_lst, e_dct, b_dct, e_op, b_op, e_neg, b_neg, e_not, b_not, e_bop, b_bop, e_cmp, b_cmp, e_chn, b_chn, e_ifx, b_ifx, e_ix, b_ix, e_sl, b_sl, e_call, b_call, e_bi, b_bi, e_mxd, b_mxd, e_isi, b_isi, e_isl, b_isl, e_lrg, b_lrg, e_mt, b_mt, e_lc, b_lc, e_rev, b_rev, e_gtp, e_lrg1, i_rng3, bop_1, bop_2, bb_1, bb_2, es_nil, es_cons, eo_none, eo_some, if_none, if_some, i_ex, i_rng1, i_rng2, i_enm, q_nm, q_tp, q_sb, setK_some, qs_nil, qs_cons, t_asg, t_aug, t_ex, t_ret, t_retN, t_iff, t_fr, t_whl, t_brk, t_cnt, t_pas, con_none, con_bool, con_int, con_str, neg_int, not_bl, int_int, add_int, sub_int, lt_int, le_int, gt_int, ge_int, eq_int, ne_int, is_nn, is_in, is_bb, isn_nn, isn_in, isn_bb, tr_non, tr_bl, tr_int, ty_non, ty_bl, ty_int, ty_tup, ty_ro, isa_int_int, isa_int_bool, isa_int_list, isa_int_tuple, isa_list_list, isa_list_tuple, isa_tuple_list, isa_tuple_tuple, sq_tup, sq_ro, bi_int_int, bi_int_bl, bi_tuple_tup, bi_min, bi_max, bi_len_tup, bi_len_ro, ix_tup, ix_ro, sl_tup, sl_ro, stays_tup, stays_ro, at_0, at_1, gc_ai, gc_aai, gc_aaai, gc_ab, gc_aab, gc_aaab, gc_an, gc_aan, gc_aaan, gc_same, wipe_nil, wipe_cons, sz_0, sz_1, sz_2, sz_3, sz_4, sz_5, sz_6, sz_7, sz_8, sz_9, sz_10, runDef, runFull, Def.full, startD, List.length_cons, List.length_nil, List.map_cons, List.map_nil, List.append_nil, List.nil_append, List.cons_append, List.drop_nil, List.drop_zero, List.set_cons_zero, List.set_cons_succ, List.replicate, if_true, if_false, Bool.not_true, Bool.not_false, Bool.true_or, Bool.false_or, Option.map_some, Option.map_none, Nat.zero_add, Nat.add_zero, Nat.sub_self, Nat.reduceAdd, Nat.reduceSub, ↓reduceIte, Bool.and_true, Bool.true_and, Bool.false_and, Bool.and_false, Int.cast_ofNat_Int, decide_true, decide_false, Int.reduceEq, Int.reduceLT, Int.reduceLE, Bool.false_eq_true, List.append_assoc, List.length_append, lk_app, lk_app0, lk_sapp, lk_sapp0, lk_z, lk_s, st_app, st_app0, st_sapp, st_sapp0, len_set, set_set, sq_lk, ix_lk, sl_lk, len_lk, tuple_lk, list_lk, list_tup, ty_lk, stays_lk, set_lk, add_lk, app_lk, ext_lk, clear_lk, recv_lk, get2_lk, tr_lk, gp_0, gp_1, gp_2, gp_3, gp_4, gp_5, gp_6, gp_7, gp_8, ko_n, ko_s, ko_p, gq_1, gq_2, gq_3, gq_4, gq_5, gq_6, gq_7, gq_8, gq_9, gq_10, gq_11, gq_12, gq_13, gq_14, gq_15, gq_16, gcR, Nat.lt_irrefl, Nat.not_lt_zero, List.take_succ_cons, List.take_zero, List.take_nil, D.beqL_self, at_2, at_3, ixN, Nat.reduceLT, Nat.reduceLeDiff, Int.reduceToNat, Int.reduceNeg, Int.reduceSub, Int.reduceAdd, Int.reduceMul, sz_lt, Int.zero_add, mod_int, pr_int, pr_bl, pr_non, pr_str, pr_tup, pr_nil, pr_cons, pr_lst, pr_ints, pr_prs, pr_app, pr_kD, mt_1, mt_2, mt_3, mt_4, mt_5, mt_6, mt_7, rev_lk, max_lk, min_lk, sum_lk, any_lk, all_lk, count_lk, index_lk, pop_lk, eq_D, ne_D, eqD_ll, eqD_tt, eqL_ll, eqS_same, eqS_nil, eqS_ints, eqD_ii, eqD_kk, py_app, py_nil, py_cons, py_ints, py_int, py_bl, py_non, py_kD, py_links, py_prs, py_mapi, pr_mapi, pr_linksT, gt_np, pr_loc, pr_stps, pr_stp, aug_add, aug_sub, ko_app, take_left', len_aa, ep, hk2, isnone_kD, Option.isNone_none, List.length_map, hz2, es, hz3, hz4]
        refine .inl ⟨[.lst (acc.map Stp.d), .lst [Stp.d (.edge i)], .lst (acc.map Stp.d ++ [Stp.d (.edge i)]), .lst ((srch tw key i (pbN f i tw)).map Stp.d), .lst (acc.map Stp.d ++ Stp.d (.edge i) :: (srch tw key i (pbN f i tw)).map Stp.d)], 4, rfl, ?_⟩
        rw [← g6, List.map_append, List.map_append]; rfl
      | some p =>
        rw [h5] at g6 ep es
        dsimp only at g6
        simp only [kD_s] at ep es
        by_cases hq : p < key
        · rw [if_pos hq] at g6
          simp only [bnd_some, bnd_none, opt_some, opt_none, seqF_next, seqF_brk, seqF_cnt, seqF_ret, ts_nil, ts_cons, out_ret, out_next, ite_t, ite_f, bop_and_t, bop_and_f, bop_or_t, bop_or_f, bb_and_t, bb_and_f, bb_or_t, bb_or_f, slot_0, slot_s, e_con, b_con, e_var, b_var, e_glo, b_glo, e_tup, b_tup, e_lst, b_lst, e_dct, b_dct, e_op, b_op, e_neg, b_neg, e_not, b_not, e_bop, b_bop, e_cmp, b_cmp, e_chn, b_chn, e_ifx, b_ifx, e_ix, b_ix, e_sl, b_sl, e_call, b_call, e_bi, b_bi, e_mxd, b_mxd, e_isi, b_isi, e_isl, b_isl, e_lrg, b_lrg, e_mt, b_mt, e_lc, b_lc, e_rev, b_rev, e_gtp, e_lrg1, i_rng3, bop_1, bop_2, bb_1, bb_2, es_nil, es_cons, eo_none, eo_some, if_none, if_some, i_ex, i_rng1, i_rng2, i_enm, q_nm, q_tp, q_sb, setK_some, qs_nil, qs_cons, t_asg, t_aug, t_ex, t_ret, t_retN, t_iff, t_fr, t_whl, t_brk, t_cnt, t_pas, con_none, con_bool, con_int, con_str, neg_int, not_bl, int_int, add_int, sub_int, lt_int, le_int, gt_int, ge_int, eq_int, ne_int, is_nn, is_in, is_bb, isn_nn, isn_in, isn_bb, tr_non, tr_bl, tr_int, ty_non, ty_bl, ty_int, ty_tup, ty_ro, isa_int_int, isa_int_bool, isa_int_list, isa_int_tuple, isa_list_list, isa_list_tuple, isa_tuple_list, isa_tuple_tuple, sq_tup, sq_ro, bi_int_int, bi_int_bl, bi_tuple_tup, bi_min, bi_max, bi_len_tup, bi_len_ro, ix_tup, ix_ro, sl_tup, sl_ro, stays_tup, stays_ro, at_0, at_1, gc_ai, gc_aai, gc_aaai, gc_ab, gc_aab, gc_aaab, gc_an, gc_aan, gc_aaan, gc_same, wipe_nil, wipe_cons, sz_0, sz_1, sz_2, sz_3, sz_4, sz_5, sz_6, sz_7, sz_8, sz_9, sz_10, runDef, runFull, Def.full, startD, List.length_cons, List.length_nil, List.map_cons, List.map_nil, List.append_nil, List.nil_append, List.cons_append, List.drop_nil, List.drop_zero, List.set_cons_zero, List.set_cons_succ, List.replicate, if_true, if_false, Bool.not_true, Bool.not_false, Bool.true_or, Bool.false_or, Option.map_some, Option.map_none, Nat.zero_add, Nat.add_zero, Nat.sub_self, Nat.reduceAdd, Nat.reduceSub, ↓reduceIte, Bool.and_true, Bool.true_and, Bool.false_and, Bool.and_false, Int.cast_ofNat_Int, decide_true, decide_false, Int.reduceEq, Int.reduceLT, Int.reduceLE, Bool.false_eq_true, List.append_assoc, List.length_append, lk_app, lk_app0, lk_sapp, lk_sapp0, lk_z, lk_s, st_app, st_app0, st_sapp, st_sapp0, len_set, set_set, sq_lk, ix_lk, sl_lk, len_lk, tuple_lk, list_lk, list_tup, ty_lk, stays_lk, set_lk, add_lk, app_lk, ext_lk, clear_lk, recv_lk, get2_lk, tr_lk, gp_0, gp_1, gp_2, gp_3, gp_4, gp_5, gp_6, gp_7, gp_8, ko_n, ko_s, ko_p, gq_1, gq_2, gq_3, gq_4, gq_5, gq_6, gq_7, gq_8, gq_9, gq_10, gq_11, gq_12, gq_13, gq_14, gq_15, gq_16, gcR, Nat.lt_irrefl, Nat.not_lt_zero, List.take_succ_cons, List.take_zero, List.take_nil, D.beqL_self, at_2, at_3, ixN, Nat.reduceLT, Nat.reduceLeDiff, Int.reduceToNat, Int.reduceNeg, Int.reduceSub, Int.reduceAdd, Int.reduceMul, sz_lt, Int.zero_add, mod_int, pr_int, pr_bl, pr_non, pr_str, pr_tup, pr_nil, pr_cons, pr_lst, pr_ints, pr_prs, pr_app, pr_kD, mt_1, mt_2, mt_3, mt_4, mt_5, mt_6, mt_7, rev_lk, max_lk, min_lk, sum_lk, any_lk, all_lk, count_lk, index_lk, pop_lk, eq_D, ne_D, eqD_ll, eqD_tt, eqL_ll, eqS_same, eqS_nil, eqS_ints, eqD_ii, eqD_kk, py_app, py_nil, py_cons, py_ints, py_int, py_bl, py_non, py_kD, py_links, py_prs, py_mapi, pr_mapi, pr_linksT, gt_np, pr_loc, pr_stps, pr_stp, aug_add, aug_sub, ko_app, take_left', len_aa, ep, hk2, hq, List.length_map, hz2, es, hz3, hz4]
          refine .inl ⟨[.lst (acc.map Stp.d), .lst [Stp.d (.turn i p)], .lst (acc.map Stp.d ++ [Stp.d (.turn i p)]), .lst ((srch tw key i (pbN f i tw)).map Stp.d), .lst (acc.map Stp.d ++ Stp.d (.turn i p) :: (srch tw key i (pbN f i tw)).map Stp.d)], 4, rfl, ?_⟩
          rw [← g6, List.map_append, List.map_append]; rfl
        · rw [if_neg hq] at g6
          simp only [bnd_some, bnd_none, opt_some, opt_none, seqF_next, seqF_brk, seqF_cnt, seqF_ret, ts_nil, ts_cons, out_ret, out_next, ite_t, ite_f, bop_and_t, bop_and_f, bop_or_t, bop_or_f, bb_and_t, bb_and_f, bb_or_t, bb_or_f, slot_0, slot_s, e_con, b_con, e_var, b_var, e_glo, b_glo, e_tup, b_tup, e_lst, b_lst, e_dct, b_dct, e_op, b_op, e_neg, b_neg, e_not, b_not, e_bop, b_bop, e_cmp, b_cmp, e_chn, b_chn, e_ifx, b_ifx, e_ix, b_ix, e_sl, b_sl, e_call, b_call, e_bi, b_bi, e_mxd, b_mxd, e_isi, b_isi, e_isl, b_isl, e_lrg, b_lrg, e_mt, b_mt, e_lc, b_lc, e_rev, b_rev, e_gtp, e_lrg1, i_rng3, bop_1, bop_2, bb_1, bb_2, es_nil, es_cons, eo_none, eo_some, if_none, if_some, i_ex, i_rng1, i_rng2, i_enm, q_nm, q_tp, q_sb, setK_some, qs_nil, qs_cons, t_asg, t_aug, t_ex, t_ret, t_retN, t_iff, t_fr, t_whl, t_brk, t_cnt, t_pas, con_none, con_bool, con_int, con_str, neg_int, not_bl, int_int, add_int, sub_int, lt_int, le_int, gt_int, ge_int, eq_int, ne_int, is_nn, is_in, is_bb, isn_nn, isn_in, isn_bb, tr_non, tr_bl, tr_int, ty_non, ty_bl, ty_int, ty_tup, ty_ro, isa_int_int, isa_int_bool, isa_int_list, isa_int_tuple, isa_list_list, isa_list_tuple, isa_tuple_list, isa_tuple_tuple, sq_tup, sq_ro, bi_int_int, bi_int_bl, bi_tuple_tup, bi_min, bi_max, bi_len_tup, bi_len_ro, ix_tup, ix_ro, sl_tup, sl_ro, stays_tup, stays_ro, at_0, at_1, gc_ai, gc_aai, gc_aaai, gc_ab, gc_aab, gc_aaab, gc_an, gc_aan, gc_aaan, gc_same, wipe_nil, wipe_cons, sz_0, sz_1, sz_2, sz_3, sz_4, sz_5, sz_6, sz_7, sz_8, sz_9, sz_10, runDef, runFull, Def.full, startD, List.length_cons, List.length_nil, List.map_cons, List.map_nil, List.append_nil, List.nil_append, List.cons_append, List.drop_nil, List.drop_zero, List.set_cons_zero, List.set_cons_succ, List.replicate, if_true, if_false, Bool.not_true, Bool.not_false, Bool.true_or, Bool.false_or, Option.map_some, Option.map_none, Nat.zero_add, Nat.add_zero, Nat.sub_self, Nat.reduceAdd, Nat.reduceSub, ↓reduceIte, Bool.and_true, Bool.true_and, Bool.false_and, Bool.and_false, Int.cast_ofNat_Int, decide_true, decide_false, Int.reduceEq, Int.reduceLT, Int.reduceLE, Bool.false_eq_true, List.append_assoc, List.length_append, lk_app, lk_app0, lk_sapp, lk_sapp0, lk_z, lk_s, st_app, st_app0, st_sapp, st_sapp0, len_set, set_set, sq_lk, ix_lk, sl_lk, len_lk, tuple_lk, list_lk, list_tup, ty_lk, stays_lk, set_lk, add_lk, app_lk, ext_lk, clear_lk, recv_lk, get2_lk, tr_lk, gp_0, gp_1, gp_2, gp_3, gp_4, gp_5, gp_6, gp_7, gp_8, ko_n, ko_s, ko_p, gq_1, gq_2, gq_3, gq_4, gq_5, gq_6, gq_7, gq_8, gq_9, gq_10, gq_11, gq_12, gq_13, gq_14, gq_15, gq_16, gcR, Nat.lt_irrefl, Nat.not_lt_zero, List.take_succ_cons, List.take_zero, List.take_nil, D.beqL_self, at_2, at_3, ixN, Nat.reduceLT, Nat.reduceLeDiff, Int.reduceToNat, Int.reduceNeg, Int.reduceSub, Int.reduceAdd, Int.reduceMul, sz_lt, Int.zero_add, mod_int, pr_int, pr_bl, pr_non, pr_str, pr_tup, pr_nil, pr_cons, pr_lst, pr_ints, pr_prs, pr_app, pr_kD, mt_1, mt_2, mt_3, mt_4, mt_5, mt_6, mt_7, rev_lk, max_lk, min_lk, sum_lk, any_lk, all_lk, count_lk, index_lk, pop_lk, eq_D, ne_D, eqD_ll, eqD_tt, eqL_ll, eqS_same, eqS_nil, eqS_ints, eqD_ii, eqD_kk, py_app, py_nil, py_cons, py_ints, py_int, py_bl, py_non, py_kD, py_links, py_prs, py_mapi, pr_mapi, pr_linksT, gt_np, pr_loc, pr_stps, pr_stp, aug_add, aug_sub, ko_app, take_left', len_aa, ep, hk2, hq, List.length_map, hz5]
          refine ⟨i + 1, acc ++ [.up i p], _, _, _, _, _, _, g3, rfl, by omega, by omega, by simp; omega, ?_, ?_⟩
          · rw [List.map_append]; rfl
          · rw [← g6]; simp
theorem lpriced_of (k : Nat) {ss : List Stp} {m : Nat} {S : Store} (h : lk S m = some (.lst (ss.map Stp.d))) (hb : ss.length ≤ 10000) : orc defs (k + 1) 26 [.loc m] S = some (.tup [.int (ss.countP (isW "up") : Nat), .int (ss.countP (isW "right") : Nat), .int (greatest 1 (lanesOf ss) - 1), .int ((ss.length : Int) - (ss.countP (isW "end") : Nat) - (ss.countP (isW "edge") : Nat))], S) := by
  rw [orc_at (d := d__law_priced) rfl]
  simp only [d__law_priced, b__law_priced, bnd_some, bnd_none, opt_some, opt_none, seqF_next, seqF_brk, seqF_cnt, seqF_ret, ts_nil, ts_cons, out_ret, out_next, ite_t, ite_f, bop_and_t, bop_and_f, bop_or_t, bop_or_f, bb_and_t, bb_and_f, bb_or_t, bb_or_f, slot_0, slot_s, e_con, b_con, e_var, b_var, e_glo, b_glo, e_tup, b_tup, e_lst, b_lst, e_dct, b_dct, e_op, b_op, e_neg, b_neg, e_not, b_not, e_bop, b_bop, e_cmp, b_cmp, e_chn, b_chn, e_ifx, b_ifx, e_ix, b_ix, e_sl, b_sl, e_call, b_call, e_bi, b_bi, e_mxd, b_mxd, e_isi, b_isi, e_isl, b_isl, e_lrg, b_lrg, e_mt, b_mt, e_lc, b_lc, e_rev, b_rev, e_gtp, e_lrg1, i_rng3, bop_1, bop_2, bb_1, bb_2, es_nil, es_cons, eo_none, eo_some, if_none, if_some, i_ex, i_rng1, i_rng2, i_enm, q_nm, q_tp, q_sb, setK_some, qs_nil, qs_cons, t_asg, t_aug, t_ex, t_ret, t_retN, t_iff, t_fr, t_whl, t_brk, t_cnt, t_pas, con_none, con_bool, con_int, con_str, neg_int, not_bl, int_int, add_int, sub_int, lt_int, le_int, gt_int, ge_int, eq_int, ne_int, is_nn, is_in, is_bb, isn_nn, isn_in, isn_bb, tr_non, tr_bl, tr_int, ty_non, ty_bl, ty_int, ty_tup, ty_ro, isa_int_int, isa_int_bool, isa_int_list, isa_int_tuple, isa_list_list, isa_list_tuple, isa_tuple_list, isa_tuple_tuple, sq_tup, sq_ro, bi_int_int, bi_int_bl, bi_tuple_tup, bi_min, bi_max, bi_len_tup, bi_len_ro, ix_tup, ix_ro, sl_tup, sl_ro, stays_tup, stays_ro, at_0, at_1, gc_ai, gc_aai, gc_aaai, gc_ab, gc_aab, gc_aaab, gc_an, gc_aan, gc_aaan, gc_same, wipe_nil, wipe_cons, sz_0, sz_1, sz_2, sz_3, sz_4, sz_5, sz_6, sz_7, sz_8, sz_9, sz_10, runDef, runFull, Def.full, startD, List.length_cons, List.length_nil, List.map_cons, List.map_nil, List.append_nil, List.nil_append, List.cons_append, List.drop_nil, List.drop_zero, List.set_cons_zero, List.set_cons_succ, List.replicate, if_true, if_false, Bool.not_true, Bool.not_false, Bool.true_or, Bool.false_or, Option.map_some, Option.map_none, Nat.zero_add, Nat.add_zero, Nat.sub_self, Nat.reduceAdd, Nat.reduceSub, ↓reduceIte, Bool.and_true, Bool.true_and, Bool.false_and, Bool.and_false, Int.cast_ofNat_Int, decide_true, decide_false, Int.reduceEq, Int.reduceLT, Int.reduceLE, Bool.false_eq_true, List.append_assoc, List.length_append, lk_app, lk_app0, lk_sapp, lk_sapp0, lk_z, lk_s, st_app, st_app0, st_sapp, st_sapp0, len_set, set_set, sq_lk, ix_lk, sl_lk, len_lk, tuple_lk, list_lk, list_tup, ty_lk, stays_lk, set_lk, add_lk, app_lk, ext_lk, clear_lk, recv_lk, get2_lk, tr_lk, gp_0, gp_1, gp_2, gp_3, gp_4, gp_5, gp_6, gp_7, gp_8, ko_n, ko_s, ko_p, gq_1, gq_2, gq_3, gq_4, gq_5, gq_6, gq_7, gq_8, gq_9, gq_10, gq_11, gq_12, gq_13, gq_14, gq_15, gq_16, gcR, Nat.lt_irrefl, Nat.not_lt_zero, List.take_succ_cons, List.take_zero, List.take_nil, D.beqL_self, at_2, at_3, ixN, Nat.reduceLT, Nat.reduceLeDiff, Int.reduceToNat, Int.reduceNeg, Int.reduceSub, Int.reduceAdd, Int.reduceMul, sz_lt, Int.zero_add, mod_int, pr_int, pr_bl, pr_non, pr_str, pr_tup, pr_nil, pr_cons, pr_lst, pr_ints, pr_prs, pr_app, pr_kD, mt_1, mt_2, mt_3, mt_4, mt_5, mt_6, mt_7, rev_lk, max_lk, min_lk, sum_lk, any_lk, all_lk, count_lk, index_lk, pop_lk, eq_D, ne_D, eqD_ll, eqD_tt, eqL_ll, eqS_same, eqS_nil, eqS_ints, eqD_ii, eqD_kk, py_app, py_nil, py_cons, py_ints, py_int, py_bl, py_non, py_kD, py_links, py_prs, py_mapi, pr_mapi, pr_linksT, gt_np, pr_loc, pr_stps, pr_stp, aug_add, aug_sub, ko_app, take_left', len_aa, h]
  generalize hX : lcD _ _ _ _ _ _ _ = X
  have e := lc_f wD hX (by simp only [List.append_assoc, List.length_append, lk_app, lk_app0, lk_sapp, lk_sapp0, lk_z, lk_s, st_app, st_app0, st_sapp, st_sapp0, len_set, set_set, sq_lk, ix_lk, sl_lk, len_lk, tuple_lk, list_lk, list_tup, ty_lk, stays_lk, set_lk, add_lk, app_lk, ext_lk, clear_lk, recv_lk, get2_lk, tr_lk, gp_0, gp_1, gp_2, gp_3, gp_4, gp_5, gp_6, gp_7, gp_8, ko_n, ko_s, ko_p, gq_1, gq_2, gq_3, gq_4, gq_5, gq_6, gq_7, gq_8, gq_9, gq_10, gq_11, gq_12, gq_13, gq_14, gq_15, gq_16, gcR, Nat.lt_irrefl, Nat.not_lt_zero, List.take_succ_cons, List.take_zero, List.take_nil, D.beqL_self, at_2, at_3, ixN, Nat.reduceLT, Nat.reduceLeDiff, Int.reduceToNat, Int.reduceNeg, Int.reduceSub, Int.reduceAdd, Int.reduceMul, sz_lt, Int.zero_add, mod_int, pr_int, pr_bl, pr_non, pr_str, pr_tup, pr_nil, pr_cons, pr_lst, pr_ints, pr_prs, pr_app, pr_kD, mt_1, mt_2, mt_3, mt_4, mt_5, mt_6, mt_7, rev_lk, max_lk, min_lk, sum_lk, any_lk, all_lk, count_lk, index_lk, pop_lk, eq_D, ne_D, eqD_ll, eqD_tt, eqL_ll, eqS_same, eqS_nil, eqS_ints, eqD_ii, eqD_kk, py_app, py_nil, py_cons, py_ints, py_int, py_bl, py_non, py_kD, py_links, py_prs, py_mapi, pr_mapi, pr_linksT, gt_np, pr_loc, pr_stps, pr_stp, aug_add, aug_sub, ko_app, take_left', len_aa, h]) (le_size (by simp; omega)) (fun s hs => by simp only [bnd_some, bnd_none, opt_some, opt_none, seqF_next, seqF_brk, seqF_cnt, seqF_ret, ts_nil, ts_cons, out_ret, out_next, ite_t, ite_f, bop_and_t, bop_and_f, bop_or_t, bop_or_f, bb_and_t, bb_and_f, bb_or_t, bb_or_f, slot_0, slot_s, e_con, b_con, e_var, b_var, e_glo, b_glo, e_tup, b_tup, e_lst, b_lst, e_dct, b_dct, e_op, b_op, e_neg, b_neg, e_not, b_not, e_bop, b_bop, e_cmp, b_cmp, e_chn, b_chn, e_ifx, b_ifx, e_ix, b_ix, e_sl, b_sl, e_call, b_call, e_bi, b_bi, e_mxd, b_mxd, e_isi, b_isi, e_isl, b_isl, e_lrg, b_lrg, e_mt, b_mt, e_lc, b_lc, e_rev, b_rev, e_gtp, e_lrg1, i_rng3, bop_1, bop_2, bb_1, bb_2, es_nil, es_cons, eo_none, eo_some, if_none, if_some, i_ex, i_rng1, i_rng2, i_enm, q_nm, q_tp, q_sb, setK_some, qs_nil, qs_cons, t_asg, t_aug, t_ex, t_ret, t_retN, t_iff, t_fr, t_whl, t_brk, t_cnt, t_pas, con_none, con_bool, con_int, con_str, neg_int, not_bl, int_int, add_int, sub_int, lt_int, le_int, gt_int, ge_int, eq_int, ne_int, is_nn, is_in, is_bb, isn_nn, isn_in, isn_bb, tr_non, tr_bl, tr_int, ty_non, ty_bl, ty_int, ty_tup, ty_ro, isa_int_int, isa_int_bool, isa_int_list, isa_int_tuple, isa_list_list, isa_list_tuple, isa_tuple_list, isa_tuple_tuple, sq_tup, sq_ro, bi_int_int, bi_int_bl, bi_tuple_tup, bi_min, bi_max, bi_len_tup, bi_len_ro, ix_tup, ix_ro, sl_tup, sl_ro, stays_tup, stays_ro, at_0, at_1, gc_ai, gc_aai, gc_aaai, gc_ab, gc_aab, gc_aaab, gc_an, gc_aan, gc_aaan, gc_same, wipe_nil, wipe_cons, sz_0, sz_1, sz_2, sz_3, sz_4, sz_5, sz_6, sz_7, sz_8, sz_9, sz_10, runDef, runFull, Def.full, startD, List.length_cons, List.length_nil, List.map_cons, List.map_nil, List.append_nil, List.nil_append, List.cons_append, List.drop_nil, List.drop_zero, List.set_cons_zero, List.set_cons_succ, List.replicate, if_true, if_false, Bool.not_true, Bool.not_false, Bool.true_or, Bool.false_or, Option.map_some, Option.map_none, Nat.zero_add, Nat.add_zero, Nat.sub_self, Nat.reduceAdd, Nat.reduceSub, ↓reduceIte, Bool.and_true, Bool.true_and, Bool.false_and, Bool.and_false, Int.cast_ofNat_Int, decide_true, decide_false, Int.reduceEq, Int.reduceLT, Int.reduceLE, Bool.false_eq_true, List.append_assoc, List.length_append, lk_app, lk_app0, lk_sapp, lk_sapp0, lk_z, lk_s, st_app, st_app0, st_sapp, st_sapp0, len_set, set_set, sq_lk, ix_lk, sl_lk, len_lk, tuple_lk, list_lk, list_tup, ty_lk, stays_lk, set_lk, add_lk, app_lk, ext_lk, clear_lk, recv_lk, get2_lk, tr_lk, gp_0, gp_1, gp_2, gp_3, gp_4, gp_5, gp_6, gp_7, gp_8, ko_n, ko_s, ko_p, gq_1, gq_2, gq_3, gq_4, gq_5, gq_6, gq_7, gq_8, gq_9, gq_10, gq_11, gq_12, gq_13, gq_14, gq_15, gq_16, gcR, Nat.lt_irrefl, Nat.not_lt_zero, List.take_succ_cons, List.take_zero, List.take_nil, D.beqL_self, at_2, at_3, ixN, Nat.reduceLT, Nat.reduceLeDiff, Int.reduceToNat, Int.reduceNeg, Int.reduceSub, Int.reduceAdd, Int.reduceMul, sz_lt, Int.zero_add, mod_int, pr_int, pr_bl, pr_non, pr_str, pr_tup, pr_nil, pr_cons, pr_lst, pr_ints, pr_prs, pr_app, pr_kD, mt_1, mt_2, mt_3, mt_4, mt_5, mt_6, mt_7, rev_lk, max_lk, min_lk, sum_lk, any_lk, all_lk, count_lk, index_lk, pop_lk, eq_D, ne_D, eqD_ll, eqD_tt, eqL_ll, eqS_same, eqS_nil, eqS_ints, eqD_ii, eqD_kk, py_app, py_nil, py_cons, py_ints, py_int, py_bl, py_non, py_kD, py_links, py_prs, py_mapi, pr_mapi, pr_linksT, gt_np, pr_loc, pr_stps, pr_stp, aug_add, aug_sub, ko_app, take_left', len_aa, lcS, ite_b, bnd_if, seqF_if, out_if, bopB_and, bopB_or, bopD_and, bopD_or, if_same_bool, if_bf, if_bx, if_xt, ix_stp, wD])
  subst e
  clear hX
  simp only [bnd_some, bnd_none, opt_some, opt_none, seqF_next, seqF_brk, seqF_cnt, seqF_ret, ts_nil, ts_cons, out_ret, out_next, ite_t, ite_f, bop_and_t, bop_and_f, bop_or_t, bop_or_f, bb_and_t, bb_and_f, bb_or_t, bb_or_f, slot_0, slot_s, e_con, b_con, e_var, b_var, e_glo, b_glo, e_tup, b_tup, e_lst, b_lst, e_dct, b_dct, e_op, b_op, e_neg, b_neg, e_not, b_not, e_bop, b_bop, e_cmp, b_cmp, e_chn, b_chn, e_ifx, b_ifx, e_ix, b_ix, e_sl, b_sl, e_call, b_call, e_bi, b_bi, e_mxd, b_mxd, e_isi, b_isi, e_isl, b_isl, e_lrg, b_lrg, e_mt, b_mt, e_lc, b_lc, e_rev, b_rev, e_gtp, e_lrg1, i_rng3, bop_1, bop_2, bb_1, bb_2, es_nil, es_cons, eo_none, eo_some, if_none, if_some, i_ex, i_rng1, i_rng2, i_enm, q_nm, q_tp, q_sb, setK_some, qs_nil, qs_cons, t_asg, t_aug, t_ex, t_ret, t_retN, t_iff, t_fr, t_whl, t_brk, t_cnt, t_pas, con_none, con_bool, con_int, con_str, neg_int, not_bl, int_int, add_int, sub_int, lt_int, le_int, gt_int, ge_int, eq_int, ne_int, is_nn, is_in, is_bb, isn_nn, isn_in, isn_bb, tr_non, tr_bl, tr_int, ty_non, ty_bl, ty_int, ty_tup, ty_ro, isa_int_int, isa_int_bool, isa_int_list, isa_int_tuple, isa_list_list, isa_list_tuple, isa_tuple_list, isa_tuple_tuple, sq_tup, sq_ro, bi_int_int, bi_int_bl, bi_tuple_tup, bi_min, bi_max, bi_len_tup, bi_len_ro, ix_tup, ix_ro, sl_tup, sl_ro, stays_tup, stays_ro, at_0, at_1, gc_ai, gc_aai, gc_aaai, gc_ab, gc_aab, gc_aaab, gc_an, gc_aan, gc_aaan, gc_same, wipe_nil, wipe_cons, sz_0, sz_1, sz_2, sz_3, sz_4, sz_5, sz_6, sz_7, sz_8, sz_9, sz_10, runDef, runFull, Def.full, startD, List.length_cons, List.length_nil, List.map_cons, List.map_nil, List.append_nil, List.nil_append, List.cons_append, List.drop_nil, List.drop_zero, List.set_cons_zero, List.set_cons_succ, List.replicate, if_true, if_false, Bool.not_true, Bool.not_false, Bool.true_or, Bool.false_or, Option.map_some, Option.map_none, Nat.zero_add, Nat.add_zero, Nat.sub_self, Nat.reduceAdd, Nat.reduceSub, ↓reduceIte, Bool.and_true, Bool.true_and, Bool.false_and, Bool.and_false, Int.cast_ofNat_Int, decide_true, decide_false, Int.reduceEq, Int.reduceLT, Int.reduceLE, Bool.false_eq_true, List.append_assoc, List.length_append, lk_app, lk_app0, lk_sapp, lk_sapp0, lk_z, lk_s, st_app, st_app0, st_sapp, st_sapp0, len_set, set_set, sq_lk, ix_lk, sl_lk, len_lk, tuple_lk, list_lk, list_tup, ty_lk, stays_lk, set_lk, add_lk, app_lk, ext_lk, clear_lk, recv_lk, get2_lk, tr_lk, gp_0, gp_1, gp_2, gp_3, gp_4, gp_5, gp_6, gp_7, gp_8, ko_n, ko_s, ko_p, gq_1, gq_2, gq_3, gq_4, gq_5, gq_6, gq_7, gq_8, gq_9, gq_10, gq_11, gq_12, gq_13, gq_14, gq_15, gq_16, gcR, Nat.lt_irrefl, Nat.not_lt_zero, List.take_succ_cons, List.take_zero, List.take_nil, D.beqL_self, at_2, at_3, ixN, Nat.reduceLT, Nat.reduceLeDiff, Int.reduceToNat, Int.reduceNeg, Int.reduceSub, Int.reduceAdd, Int.reduceMul, sz_lt, Int.zero_add, mod_int, pr_int, pr_bl, pr_non, pr_str, pr_tup, pr_nil, pr_cons, pr_lst, pr_ints, pr_prs, pr_app, pr_kD, mt_1, mt_2, mt_3, mt_4, mt_5, mt_6, mt_7, rev_lk, max_lk, min_lk, sum_lk, any_lk, all_lk, count_lk, index_lk, pop_lk, eq_D, ne_D, eqD_ll, eqD_tt, eqL_ll, eqS_same, eqS_nil, eqS_ints, eqD_ii, eqD_kk, py_app, py_nil, py_cons, py_ints, py_int, py_bl, py_non, py_kD, py_links, py_prs, py_mapi, pr_mapi, pr_linksT, gt_np, pr_loc, pr_stps, pr_stp, aug_add, aug_sub, ko_app, take_left', len_aa, h, lk_old h]
  generalize hX : lcD _ _ _ _ _ _ _ = X
  have e := lc_F (fun s => (laneOf s).map D.int) hX (by simp only [List.append_assoc, List.length_append, lk_app, lk_app0, lk_sapp, lk_sapp0, lk_z, lk_s, st_app, st_app0, st_sapp, st_sapp0, len_set, set_set, sq_lk, ix_lk, sl_lk, len_lk, tuple_lk, list_lk, list_tup, ty_lk, stays_lk, set_lk, add_lk, app_lk, ext_lk, clear_lk, recv_lk, get2_lk, tr_lk, gp_0, gp_1, gp_2, gp_3, gp_4, gp_5, gp_6, gp_7, gp_8, ko_n, ko_s, ko_p, gq_1, gq_2, gq_3, gq_4, gq_5, gq_6, gq_7, gq_8, gq_9, gq_10, gq_11, gq_12, gq_13, gq_14, gq_15, gq_16, gcR, Nat.lt_irrefl, Nat.not_lt_zero, List.take_succ_cons, List.take_zero, List.take_nil, D.beqL_self, at_2, at_3, ixN, Nat.reduceLT, Nat.reduceLeDiff, Int.reduceToNat, Int.reduceNeg, Int.reduceSub, Int.reduceAdd, Int.reduceMul, sz_lt, Int.zero_add, mod_int, pr_int, pr_bl, pr_non, pr_str, pr_tup, pr_nil, pr_cons, pr_lst, pr_ints, pr_prs, pr_app, pr_kD, mt_1, mt_2, mt_3, mt_4, mt_5, mt_6, mt_7, rev_lk, max_lk, min_lk, sum_lk, any_lk, all_lk, count_lk, index_lk, pop_lk, eq_D, ne_D, eqD_ll, eqD_tt, eqL_ll, eqS_same, eqS_nil, eqS_ints, eqD_ii, eqD_kk, py_app, py_nil, py_cons, py_ints, py_int, py_bl, py_non, py_kD, py_links, py_prs, py_mapi, pr_mapi, pr_linksT, gt_np, pr_loc, pr_stps, pr_stp, aug_add, aug_sub, ko_app, take_left', len_aa, lk_old h]) (le_size (by simp; omega)) (fun s hs => by
    have h9 : ∀ T, cmpD .In (.str s.w) (.tup [.str "right", .str "stop", .str "end"]) T = some (laneOf s).isSome := fun T => in_RSE s
    cases h8 : laneOf s with
    | none => rw [h8] at h9; simp only [bnd_some, bnd_none, opt_some, opt_none, seqF_next, seqF_brk, seqF_cnt, seqF_ret, ts_nil, ts_cons, out_ret, out_next, ite_t, ite_f, bop_and_t, bop_and_f, bop_or_t, bop_or_f, bb_and_t, bb_and_f, bb_or_t, bb_or_f, slot_0, slot_s, e_con, b_con, e_var, b_var, e_glo, b_glo, e_tup, b_tup, e_lst, b_lst, e_dct, b_dct, e_op, b_op, e_neg, b_neg, e_not, b_not, e_bop, b_bop, e_cmp, b_cmp, e_chn, b_chn, e_ifx, b_ifx, e_ix, b_ix, e_sl, b_sl, e_call, b_call, e_bi, b_bi, e_mxd, b_mxd, e_isi, b_isi, e_isl, b_isl, e_lrg, b_lrg, e_mt, b_mt, e_lc, b_lc, e_rev, b_rev, e_gtp, e_lrg1, i_rng3, bop_1, bop_2, bb_1, bb_2, es_nil, es_cons, eo_none, eo_some, if_none, if_some, i_ex, i_rng1, i_rng2, i_enm, q_nm, q_tp, q_sb, setK_some, qs_nil, qs_cons, t_asg, t_aug, t_ex, t_ret, t_retN, t_iff, t_fr, t_whl, t_brk, t_cnt, t_pas, con_none, con_bool, con_int, con_str, neg_int, not_bl, int_int, add_int, sub_int, lt_int, le_int, gt_int, ge_int, eq_int, ne_int, is_nn, is_in, is_bb, isn_nn, isn_in, isn_bb, tr_non, tr_bl, tr_int, ty_non, ty_bl, ty_int, ty_tup, ty_ro, isa_int_int, isa_int_bool, isa_int_list, isa_int_tuple, isa_list_list, isa_list_tuple, isa_tuple_list, isa_tuple_tuple, sq_tup, sq_ro, bi_int_int, bi_int_bl, bi_tuple_tup, bi_min, bi_max, bi_len_tup, bi_len_ro, ix_tup, ix_ro, sl_tup, sl_ro, stays_tup, stays_ro, at_0, at_1, gc_ai, gc_aai, gc_aaai, gc_ab, gc_aab, gc_aaab, gc_an, gc_aan, gc_aaan, gc_same, wipe_nil, wipe_cons, sz_0, sz_1, sz_2, sz_3, sz_4, sz_5, sz_6, sz_7, sz_8, sz_9, sz_10, runDef, runFull, Def.full, startD, List.length_cons, List.length_nil, List.map_cons, List.map_nil, List.append_nil, List.nil_append, List.cons_append, List.drop_nil, List.drop_zero, List.set_cons_zero, List.set_cons_succ, List.replicate, if_true, if_false, Bool.not_true, Bool.not_false, Bool.true_or, Bool.false_or, Option.map_some, Option.map_none, Nat.zero_add, Nat.add_zero, Nat.sub_self, Nat.reduceAdd, Nat.reduceSub, ↓reduceIte, Bool.and_true, Bool.true_and, Bool.false_and, Bool.and_false, Int.cast_ofNat_Int, decide_true, decide_false, Int.reduceEq, Int.reduceLT, Int.reduceLE, Bool.false_eq_true, List.append_assoc, List.length_append, lk_app, lk_app0, lk_sapp, lk_sapp0, lk_z, lk_s, st_app, st_app0, st_sapp, st_sapp0, len_set, set_set, sq_lk, ix_lk, sl_lk, len_lk, tuple_lk, list_lk, list_tup, ty_lk, stays_lk, set_lk, add_lk, app_lk, ext_lk, clear_lk, recv_lk, get2_lk, tr_lk, gp_0, gp_1, gp_2, gp_3, gp_4, gp_5, gp_6, gp_7, gp_8, ko_n, ko_s, ko_p, gq_1, gq_2, gq_3, gq_4, gq_5, gq_6, gq_7, gq_8, gq_9, gq_10, gq_11, gq_12, gq_13, gq_14, gq_15, gq_16, gcR, Nat.lt_irrefl, Nat.not_lt_zero, List.take_succ_cons, List.take_zero, List.take_nil, D.beqL_self, at_2, at_3, ixN, Nat.reduceLT, Nat.reduceLeDiff, Int.reduceToNat, Int.reduceNeg, Int.reduceSub, Int.reduceAdd, Int.reduceMul, sz_lt, Int.zero_add, mod_int, pr_int, pr_bl, pr_non, pr_str, pr_tup, pr_nil, pr_cons, pr_lst, pr_ints, pr_prs, pr_app, pr_kD, mt_1, mt_2, mt_3, mt_4, mt_5, mt_6, mt_7, rev_lk, max_lk, min_lk, sum_lk, any_lk, all_lk, count_lk, index_lk, pop_lk, eq_D, ne_D, eqD_ll, eqD_tt, eqL_ll, eqS_same, eqS_nil, eqS_ints, eqD_ii, eqD_kk, py_app, py_nil, py_cons, py_ints, py_int, py_bl, py_non, py_kD, py_links, py_prs, py_mapi, pr_mapi, pr_linksT, gt_np, pr_loc, pr_stps, pr_stp, aug_add, aug_sub, ko_app, take_left', len_aa, lcS, ite_b, bnd_if, seqF_if, out_if, bopB_and, bopB_or, bopD_and, bopD_or, if_same_bool, if_bf, if_bx, if_xt, ix_stp, h9, Option.isSome_none, Option.map_none]
    | some l => rw [h8] at h9; simp only [bnd_some, bnd_none, opt_some, opt_none, seqF_next, seqF_brk, seqF_cnt, seqF_ret, ts_nil, ts_cons, out_ret, out_next, ite_t, ite_f, bop_and_t, bop_and_f, bop_or_t, bop_or_f, bb_and_t, bb_and_f, bb_or_t, bb_or_f, slot_0, slot_s, e_con, b_con, e_var, b_var, e_glo, b_glo, e_tup, b_tup, e_lst, b_lst, e_dct, b_dct, e_op, b_op, e_neg, b_neg, e_not, b_not, e_bop, b_bop, e_cmp, b_cmp, e_chn, b_chn, e_ifx, b_ifx, e_ix, b_ix, e_sl, b_sl, e_call, b_call, e_bi, b_bi, e_mxd, b_mxd, e_isi, b_isi, e_isl, b_isl, e_lrg, b_lrg, e_mt, b_mt, e_lc, b_lc, e_rev, b_rev, e_gtp, e_lrg1, i_rng3, bop_1, bop_2, bb_1, bb_2, es_nil, es_cons, eo_none, eo_some, if_none, if_some, i_ex, i_rng1, i_rng2, i_enm, q_nm, q_tp, q_sb, setK_some, qs_nil, qs_cons, t_asg, t_aug, t_ex, t_ret, t_retN, t_iff, t_fr, t_whl, t_brk, t_cnt, t_pas, con_none, con_bool, con_int, con_str, neg_int, not_bl, int_int, add_int, sub_int, lt_int, le_int, gt_int, ge_int, eq_int, ne_int, is_nn, is_in, is_bb, isn_nn, isn_in, isn_bb, tr_non, tr_bl, tr_int, ty_non, ty_bl, ty_int, ty_tup, ty_ro, isa_int_int, isa_int_bool, isa_int_list, isa_int_tuple, isa_list_list, isa_list_tuple, isa_tuple_list, isa_tuple_tuple, sq_tup, sq_ro, bi_int_int, bi_int_bl, bi_tuple_tup, bi_min, bi_max, bi_len_tup, bi_len_ro, ix_tup, ix_ro, sl_tup, sl_ro, stays_tup, stays_ro, at_0, at_1, gc_ai, gc_aai, gc_aaai, gc_ab, gc_aab, gc_aaab, gc_an, gc_aan, gc_aaan, gc_same, wipe_nil, wipe_cons, sz_0, sz_1, sz_2, sz_3, sz_4, sz_5, sz_6, sz_7, sz_8, sz_9, sz_10, runDef, runFull, Def.full, startD, List.length_cons, List.length_nil, List.map_cons, List.map_nil, List.append_nil, List.nil_append, List.cons_append, List.drop_nil, List.drop_zero, List.set_cons_zero, List.set_cons_succ, List.replicate, if_true, if_false, Bool.not_true, Bool.not_false, Bool.true_or, Bool.false_or, Option.map_some, Option.map_none, Nat.zero_add, Nat.add_zero, Nat.sub_self, Nat.reduceAdd, Nat.reduceSub, ↓reduceIte, Bool.and_true, Bool.true_and, Bool.false_and, Bool.and_false, Int.cast_ofNat_Int, decide_true, decide_false, Int.reduceEq, Int.reduceLT, Int.reduceLE, Bool.false_eq_true, List.append_assoc, List.length_append, lk_app, lk_app0, lk_sapp, lk_sapp0, lk_z, lk_s, st_app, st_app0, st_sapp, st_sapp0, len_set, set_set, sq_lk, ix_lk, sl_lk, len_lk, tuple_lk, list_lk, list_tup, ty_lk, stays_lk, set_lk, add_lk, app_lk, ext_lk, clear_lk, recv_lk, get2_lk, tr_lk, gp_0, gp_1, gp_2, gp_3, gp_4, gp_5, gp_6, gp_7, gp_8, ko_n, ko_s, ko_p, gq_1, gq_2, gq_3, gq_4, gq_5, gq_6, gq_7, gq_8, gq_9, gq_10, gq_11, gq_12, gq_13, gq_14, gq_15, gq_16, gcR, Nat.lt_irrefl, Nat.not_lt_zero, List.take_succ_cons, List.take_zero, List.take_nil, D.beqL_self, at_2, at_3, ixN, Nat.reduceLT, Nat.reduceLeDiff, Int.reduceToNat, Int.reduceNeg, Int.reduceSub, Int.reduceAdd, Int.reduceMul, sz_lt, Int.zero_add, mod_int, pr_int, pr_bl, pr_non, pr_str, pr_tup, pr_nil, pr_cons, pr_lst, pr_ints, pr_prs, pr_app, pr_kD, mt_1, mt_2, mt_3, mt_4, mt_5, mt_6, mt_7, rev_lk, max_lk, min_lk, sum_lk, any_lk, all_lk, count_lk, index_lk, pop_lk, eq_D, ne_D, eqD_ll, eqD_tt, eqL_ll, eqS_same, eqS_nil, eqS_ints, eqD_ii, eqD_kk, py_app, py_nil, py_cons, py_ints, py_int, py_bl, py_non, py_kD, py_links, py_prs, py_mapi, pr_mapi, pr_linksT, gt_np, pr_loc, pr_stps, pr_stp, aug_add, aug_sub, ko_app, take_left', len_aa, lcS, ite_b, bnd_if, seqF_if, out_if, bopB_and, bopB_or, bopD_and, bopD_or, if_same_bool, if_bf, if_bx, if_xt, ix_stp, h9, Option.isSome_some, Option.map_some, lane_ix h8])
  subst e
  clear hX
  have e3 : ss.filterMap (fun s => (laneOf s).map D.int) = (lanesOf ss).map D.int := by unfold lanesOf; rw [List.map_filterMap]
  have hz : 1 + (lanesOf ss).length ≤ sizeLine := le_size (by have := List.length_filterMap_le laneOf ss; unfold lanesOf; omega)
  simp only [bnd_some, bnd_none, opt_some, opt_none, seqF_next, seqF_brk, seqF_cnt, seqF_ret, ts_nil, ts_cons, out_ret, out_next, ite_t, ite_f, bop_and_t, bop_and_f, bop_or_t, bop_or_f, bb_and_t, bb_and_f, bb_or_t, bb_or_f, slot_0, slot_s, e_con, b_con, e_var, b_var, e_glo, b_glo, e_tup, b_tup, e_lst, b_lst, e_dct, b_dct, e_op, b_op, e_neg, b_neg, e_not, b_not, e_bop, b_bop, e_cmp, b_cmp, e_chn, b_chn, e_ifx, b_ifx, e_ix, b_ix, e_sl, b_sl, e_call, b_call, e_bi, b_bi, e_mxd, b_mxd, e_isi, b_isi, e_isl, b_isl, e_lrg, b_lrg, e_mt, b_mt, e_lc, b_lc, e_rev, b_rev, e_gtp, e_lrg1, i_rng3, bop_1, bop_2, bb_1, bb_2, es_nil, es_cons, eo_none, eo_some, if_none, if_some, i_ex, i_rng1, i_rng2, i_enm, q_nm, q_tp, q_sb, setK_some, qs_nil, qs_cons, t_asg, t_aug, t_ex, t_ret, t_retN, t_iff, t_fr, t_whl, t_brk, t_cnt, t_pas, con_none, con_bool, con_int, con_str, neg_int, not_bl, int_int, add_int, sub_int, lt_int, le_int, gt_int, ge_int, eq_int, ne_int, is_nn, is_in, is_bb, isn_nn, isn_in, isn_bb, tr_non, tr_bl, tr_int, ty_non, ty_bl, ty_int, ty_tup, ty_ro, isa_int_int, isa_int_bool, isa_int_list, isa_int_tuple, isa_list_list, isa_list_tuple, isa_tuple_list, isa_tuple_tuple, sq_tup, sq_ro, bi_int_int, bi_int_bl, bi_tuple_tup, bi_min, bi_max, bi_len_tup, bi_len_ro, ix_tup, ix_ro, sl_tup, sl_ro, stays_tup, stays_ro, at_0, at_1, gc_ai, gc_aai, gc_aaai, gc_ab, gc_aab, gc_aaab, gc_an, gc_aan, gc_aaan, gc_same, wipe_nil, wipe_cons, sz_0, sz_1, sz_2, sz_3, sz_4, sz_5, sz_6, sz_7, sz_8, sz_9, sz_10, runDef, runFull, Def.full, startD, List.length_cons, List.length_nil, List.map_cons, List.map_nil, List.append_nil, List.nil_append, List.cons_append, List.drop_nil, List.drop_zero, List.set_cons_zero, List.set_cons_succ, List.replicate, if_true, if_false, Bool.not_true, Bool.not_false, Bool.true_or, Bool.false_or, Option.map_some, Option.map_none, Nat.zero_add, Nat.add_zero, Nat.sub_self, Nat.reduceAdd, Nat.reduceSub, ↓reduceIte, Bool.and_true, Bool.true_and, Bool.false_and, Bool.and_false, Int.cast_ofNat_Int, decide_true, decide_false, Int.reduceEq, Int.reduceLT, Int.reduceLE, Bool.false_eq_true, List.append_assoc, List.length_append, lk_app, lk_app0, lk_sapp, lk_sapp0, lk_z, lk_s, st_app, st_app0, st_sapp, st_sapp0, len_set, set_set, sq_lk, ix_lk, sl_lk, len_lk, tuple_lk, list_lk, list_tup, ty_lk, stays_lk, set_lk, add_lk, app_lk, ext_lk, clear_lk, recv_lk, get2_lk, tr_lk, gp_0, gp_1, gp_2, gp_3, gp_4, gp_5, gp_6, gp_7, gp_8, ko_n, ko_s, ko_p, gq_1, gq_2, gq_3, gq_4, gq_5, gq_6, gq_7, gq_8, gq_9, gq_10, gq_11, gq_12, gq_13, gq_14, gq_15, gq_16, gcR, Nat.lt_irrefl, Nat.not_lt_zero, List.take_succ_cons, List.take_zero, List.take_nil, D.beqL_self, at_2, at_3, ixN, Nat.reduceLT, Nat.reduceLeDiff, Int.reduceToNat, Int.reduceNeg, Int.reduceSub, Int.reduceAdd, Int.reduceMul, sz_lt, Int.zero_add, mod_int, pr_int, pr_bl, pr_non, pr_str, pr_tup, pr_nil, pr_cons, pr_lst, pr_ints, pr_prs, pr_app, pr_kD, mt_1, mt_2, mt_3, mt_4, mt_5, mt_6, mt_7, rev_lk, max_lk, min_lk, sum_lk, any_lk, all_lk, count_lk, index_lk, pop_lk, eq_D, ne_D, eqD_ll, eqD_tt, eqL_ll, eqS_same, eqS_nil, eqS_ints, eqD_ii, eqD_kk, py_app, py_nil, py_cons, py_ints, py_int, py_bl, py_non, py_kD, py_links, py_prs, py_mapi, pr_mapi, pr_linksT, gt_np, pr_loc, pr_stps, pr_stp, aug_add, aug_sub, ko_app, take_left', len_aa, e3, cnt_wD, List.length_map, hz, intsOf_cons, intsOf_ints]
end K51

end

section
set_option maxHeartbeats 1000000
namespace K51
open PySem PySem.Spec Mi
open L2 (atI ixN Key)
theorem key_s0 (k : Nat) {m : Nat} {S : Store} {mo : MO} {a b c : Int} {tw : Tws} (hs : lk S m = some mo) (hl : tw.length ≤ 200) :
    ∃ i a' c', orc defs (k + 3) 27 [.loc m, .tup (tw.map prD)] (S.set m (src a b c)) = some (.int i, S.set m (src a' b c')) := by
  rw [orc_at (d := d__law_key) rfl]
  obtain ⟨r1, a1, c1, e1, -, -⟩ := draw_s0 (k + 1) (a := a) (b := b) (c := c) (many := 80) hs (by decide) (by decide)
  obtain ⟨r2, a2, c2, e2, -, -⟩ := draw_s0 (k + 1) (a := a1) (b := b) (c := c1) (many := 80) hs (by decide) (by decide)
  have p29 : ∀ T, opD .Pow (.int 10) (.int 29) T = some (.int (10 ^ 29), T) := fun T => pow_int (n := 29) (by decide) (by decide)
  simp only [d__law_key, b__law_key, bnd_some, bnd_none, opt_some, opt_none, seqF_next, seqF_brk, seqF_cnt, seqF_ret, ts_nil, ts_cons, out_ret, out_next, ite_t, ite_f, bop_and_t, bop_and_f, bop_or_t, bop_or_f, bb_and_t, bb_and_f, bb_or_t, bb_or_f, slot_0, slot_s, e_con, b_con, e_var, b_var, e_glo, b_glo, e_tup, b_tup, e_lst, b_lst, e_dct, b_dct, e_op, b_op, e_neg, b_neg, e_not, b_not, e_bop, b_bop, e_cmp, b_cmp, e_chn, b_chn, e_ifx, b_ifx, e_ix, b_ix, e_sl, b_sl, e_call, b_call, e_bi, b_bi, e_mxd, b_mxd, e_isi, b_isi, e_isl, b_isl, e_lrg, b_lrg, e_mt, b_mt, e_lc, b_lc, e_rev, b_rev, e_gtp, e_lrg1, i_rng3, bop_1, bop_2, bb_1, bb_2, es_nil, es_cons, eo_none, eo_some, if_none, if_some, i_ex, i_rng1, i_rng2, i_enm, q_nm, q_tp, q_sb, setK_some, qs_nil, qs_cons, t_asg, t_aug, t_ex, t_ret, t_retN, t_iff, t_fr, t_whl, t_brk, t_cnt, t_pas, con_none, con_bool, con_int, con_str, neg_int, not_bl, int_int, add_int, sub_int, lt_int, le_int, gt_int, ge_int, eq_int, ne_int, is_nn, is_in, is_bb, isn_nn, isn_in, isn_bb, tr_non, tr_bl, tr_int, ty_non, ty_bl, ty_int, ty_tup, ty_ro, isa_int_int, isa_int_bool, isa_int_list, isa_int_tuple, isa_list_list, isa_list_tuple, isa_tuple_list, isa_tuple_tuple, sq_tup, sq_ro, bi_int_int, bi_int_bl, bi_tuple_tup, bi_min, bi_max, bi_len_tup, bi_len_ro, ix_tup, ix_ro, sl_tup, sl_ro, stays_tup, stays_ro, at_0, at_1, gc_ai, gc_aai, gc_aaai, gc_ab, gc_aab, gc_aaab, gc_an, gc_aan, gc_aaan, gc_same, wipe_nil, wipe_cons, sz_0, sz_1, sz_2, sz_3, sz_4, sz_5, sz_6, sz_7, sz_8, sz_9, sz_10, runDef, runFull, Def.full, startD, List.length_cons, List.length_nil, List.map_cons, List.map_nil, List.append_nil, List.nil_append, List.cons_append, List.drop_nil, List.drop_zero, List.set_cons_zero, List.set_cons_succ, List.replicate, if_true, if_false, Bool.not_true, Bool.not_false, Bool.true_or, Bool.false_or, Option.map_some, Option.map_none, Nat.zero_add, Nat.add_zero, Nat.sub_self, Nat.reduceAdd, Nat.reduceSub, ↓reduceIte, Bool.and_true, Bool.true_and, Bool.false_and, Bool.and_false, Int.cast_ofNat_Int, decide_true, decide_false, Int.reduceEq, Int.reduceLT, Int.reduceLE, Bool.false_eq_true, List.append_assoc, List.length_append, lk_app, lk_app0, lk_sapp, lk_sapp0, lk_z, lk_s, st_app, st_app0, st_sapp, st_sapp0, len_set, set_set, sq_lk, ix_lk, sl_lk, len_lk, tuple_lk, list_lk, list_tup, ty_lk, stays_lk, set_lk, add_lk, app_lk, ext_lk, clear_lk, recv_lk, get2_lk, tr_lk, gp_0, gp_1, gp_2, gp_3, gp_4, gp_5, gp_6, gp_7, gp_8, ko_n, ko_s, ko_p, gq_1, gq_2, gq_3, gq_4, gq_5, gq_6, gq_7, gq_8, gq_9, gq_10, gq_11, gq_12, gq_13, gq_14, gq_15, gq_16, gcR, Nat.lt_irrefl, Nat.not_lt_zero, List.take_succ_cons, List.take_zero, List.take_nil, D.beqL_self, at_2, at_3, ixN, Nat.reduceLT, Nat.reduceLeDiff, Int.reduceToNat, Int.reduceNeg, Int.reduceSub, Int.reduceAdd, Int.reduceMul, sz_lt, Int.zero_add, mod_int, pr_int, pr_bl, pr_non, pr_str, pr_tup, pr_nil, pr_cons, pr_lst, pr_ints, pr_prs, pr_app, pr_kD, mt_1, mt_2, mt_3, mt_4, mt_5, mt_6, mt_7, rev_lk, max_lk, min_lk, sum_lk, any_lk, all_lk, count_lk, index_lk, pop_lk, eq_D, ne_D, eqD_ll, eqD_tt, eqL_ll, eqS_same, eqS_nil, eqS_ints, eqD_ii, eqD_kk, py_app, py_nil, py_cons, py_ints, py_int, py_bl, py_non, py_kD, py_links, py_prs, py_mapi, pr_mapi, pr_linksT, gt_np, pr_loc, pr_stps, pr_stp, aug_add, aug_sub, ko_app, take_left', len_aa, e1, e2, p29]
  generalize hX : lcD _ _ _ _ _ _ _ = X
  have e := lc_f (fun q : Int × Int => D.int q.1) hX rfl (le_size (by simp; omega)) (fun p hp => by simp only [bnd_some, bnd_none, opt_some, opt_none, seqF_next, seqF_brk, seqF_cnt, seqF_ret, ts_nil, ts_cons, out_ret, out_next, ite_t, ite_f, bop_and_t, bop_and_f, bop_or_t, bop_or_f, bb_and_t, bb_and_f, bb_or_t, bb_or_f, slot_0, slot_s, e_con, b_con, e_var, b_var, e_glo, b_glo, e_tup, b_tup, e_lst, b_lst, e_dct, b_dct, e_op, b_op, e_neg, b_neg, e_not, b_not, e_bop, b_bop, e_cmp, b_cmp, e_chn, b_chn, e_ifx, b_ifx, e_ix, b_ix, e_sl, b_sl, e_call, b_call, e_bi, b_bi, e_mxd, b_mxd, e_isi, b_isi, e_isl, b_isl, e_lrg, b_lrg, e_mt, b_mt, e_lc, b_lc, e_rev, b_rev, e_gtp, e_lrg1, i_rng3, bop_1, bop_2, bb_1, bb_2, es_nil, es_cons, eo_none, eo_some, if_none, if_some, i_ex, i_rng1, i_rng2, i_enm, q_nm, q_tp, q_sb, setK_some, qs_nil, qs_cons, t_asg, t_aug, t_ex, t_ret, t_retN, t_iff, t_fr, t_whl, t_brk, t_cnt, t_pas, con_none, con_bool, con_int, con_str, neg_int, not_bl, int_int, add_int, sub_int, lt_int, le_int, gt_int, ge_int, eq_int, ne_int, is_nn, is_in, is_bb, isn_nn, isn_in, isn_bb, tr_non, tr_bl, tr_int, ty_non, ty_bl, ty_int, ty_tup, ty_ro, isa_int_int, isa_int_bool, isa_int_list, isa_int_tuple, isa_list_list, isa_list_tuple, isa_tuple_list, isa_tuple_tuple, sq_tup, sq_ro, bi_int_int, bi_int_bl, bi_tuple_tup, bi_min, bi_max, bi_len_tup, bi_len_ro, ix_tup, ix_ro, sl_tup, sl_ro, stays_tup, stays_ro, at_0, at_1, gc_ai, gc_aai, gc_aaai, gc_ab, gc_aab, gc_aaab, gc_an, gc_aan, gc_aaan, gc_same, wipe_nil, wipe_cons, sz_0, sz_1, sz_2, sz_3, sz_4, sz_5, sz_6, sz_7, sz_8, sz_9, sz_10, runDef, runFull, Def.full, startD, List.length_cons, List.length_nil, List.map_cons, List.map_nil, List.append_nil, List.nil_append, List.cons_append, List.drop_nil, List.drop_zero, List.set_cons_zero, List.set_cons_succ, List.replicate, if_true, if_false, Bool.not_true, Bool.not_false, Bool.true_or, Bool.false_or, Option.map_some, Option.map_none, Nat.zero_add, Nat.add_zero, Nat.sub_self, Nat.reduceAdd, Nat.reduceSub, ↓reduceIte, Bool.and_true, Bool.true_and, Bool.false_and, Bool.and_false, Int.cast_ofNat_Int, decide_true, decide_false, Int.reduceEq, Int.reduceLT, Int.reduceLE, Bool.false_eq_true, List.append_assoc, List.length_append, lk_app, lk_app0, lk_sapp, lk_sapp0, lk_z, lk_s, st_app, st_app0, st_sapp, st_sapp0, len_set, set_set, sq_lk, ix_lk, sl_lk, len_lk, tuple_lk, list_lk, list_tup, ty_lk, stays_lk, set_lk, add_lk, app_lk, ext_lk, clear_lk, recv_lk, get2_lk, tr_lk, gp_0, gp_1, gp_2, gp_3, gp_4, gp_5, gp_6, gp_7, gp_8, ko_n, ko_s, ko_p, gq_1, gq_2, gq_3, gq_4, gq_5, gq_6, gq_7, gq_8, gq_9, gq_10, gq_11, gq_12, gq_13, gq_14, gq_15, gq_16, gcR, Nat.lt_irrefl, Nat.not_lt_zero, List.take_succ_cons, List.take_zero, List.take_nil, D.beqL_self, at_2, at_3, ixN, Nat.reduceLT, Nat.reduceLeDiff, Int.reduceToNat, Int.reduceNeg, Int.reduceSub, Int.reduceAdd, Int.reduceMul, sz_lt, Int.zero_add, mod_int, pr_int, pr_bl, pr_non, pr_str, pr_tup, pr_nil, pr_cons, pr_lst, pr_ints, pr_prs, pr_app, pr_kD, mt_1, mt_2, mt_3, mt_4, mt_5, mt_6, mt_7, rev_lk, max_lk, min_lk, sum_lk, any_lk, all_lk, count_lk, index_lk, pop_lk, eq_D, ne_D, eqD_ll, eqD_tt, eqL_ll, eqS_same, eqS_nil, eqS_ints, eqD_ii, eqD_kk, py_app, py_nil, py_cons, py_ints, py_int, py_bl, py_non, py_kD, py_links, py_prs, py_mapi, pr_mapi, pr_linksT, gt_np, pr_loc, pr_stps, pr_stp, aug_add, aug_sub, ko_app, take_left', len_aa, lcS, ite_b, bnd_if, seqF_if, out_if, bopB_and, bopB_or, bopD_and, bopD_or, if_same_bool, if_bf, if_bx, if_xt, prD])
  subst e
  clear hX
  obtain ⟨ks, hks⟩ : ∃ ks : List Int, ks = tw.map (·.1) := ⟨_, rfl⟩
  have hkl : ks.length ≤ 200 := by rw [hks, List.length_map]; exact hl
  have em : tw.map (fun q => D.int q.1) = ks.map D.int := by rw [hks, List.map_map]; rfl
  obtain ⟨s4, hs4⟩ : ∃ s4 : List Int, s4 = [r1 - 20, r2 - 20, 10 ^ 29, 1 - 10 ^ 29] := ⟨_, rfl⟩
  have em4 : [D.int (r1 - 20), D.int (r2 - 20), D.int (10 ^ 29), D.int (1 - 10 ^ 29)] = s4.map D.int := by rw [hs4]; rfl
  have hl4 : s4.length = 4 := by rw [hs4]; rfl
  have mm := mul_lk (S := S.set m (src a2 b c2) ++ [.lst (s4.map D.int), .lst (ks.map D.int)]) (m := S.length + 1) (k := 2) (x := ks.map D.int) lk_sapp (by rw [List.length_map]; omega) (by omega)
  rw [show ((2 : Nat) : Int) = 2 from rfl] at mm
  have hr : (List.replicate 2 (ks.map D.int)).flatten = (ks ++ ks).map D.int := by simp [List.replicate]
  rw [hr] at mm
  have hz1 : s4.length + (ks.length + ks.length) ≤ sizeLine := le_size (by omega)
  simp only [bnd_some, bnd_none, opt_some, opt_none, seqF_next, seqF_brk, seqF_cnt, seqF_ret, ts_nil, ts_cons, out_ret, out_next, ite_t, ite_f, bop_and_t, bop_and_f, bop_or_t, bop_or_f, bb_and_t, bb_and_f, bb_or_t, bb_or_f, slot_0, slot_s, e_con, b_con, e_var, b_var, e_glo, b_glo, e_tup, b_tup, e_lst, b_lst, e_dct, b_dct, e_op, b_op, e_neg, b_neg, e_not, b_not, e_bop, b_bop, e_cmp, b_cmp, e_chn, b_chn, e_ifx, b_ifx, e_ix, b_ix, e_sl, b_sl, e_call, b_call, e_bi, b_bi, e_mxd, b_mxd, e_isi, b_isi, e_isl, b_isl, e_lrg, b_lrg, e_mt, b_mt, e_lc, b_lc, e_rev, b_rev, e_gtp, e_lrg1, i_rng3, bop_1, bop_2, bb_1, bb_2, es_nil, es_cons, eo_none, eo_some, if_none, if_some, i_ex, i_rng1, i_rng2, i_enm, q_nm, q_tp, q_sb, setK_some, qs_nil, qs_cons, t_asg, t_aug, t_ex, t_ret, t_retN, t_iff, t_fr, t_whl, t_brk, t_cnt, t_pas, con_none, con_bool, con_int, con_str, neg_int, not_bl, int_int, add_int, sub_int, lt_int, le_int, gt_int, ge_int, eq_int, ne_int, is_nn, is_in, is_bb, isn_nn, isn_in, isn_bb, tr_non, tr_bl, tr_int, ty_non, ty_bl, ty_int, ty_tup, ty_ro, isa_int_int, isa_int_bool, isa_int_list, isa_int_tuple, isa_list_list, isa_list_tuple, isa_tuple_list, isa_tuple_tuple, sq_tup, sq_ro, bi_int_int, bi_int_bl, bi_tuple_tup, bi_min, bi_max, bi_len_tup, bi_len_ro, ix_tup, ix_ro, sl_tup, sl_ro, stays_tup, stays_ro, at_0, at_1, gc_ai, gc_aai, gc_aaai, gc_ab, gc_aab, gc_aaab, gc_an, gc_aan, gc_aaan, gc_same, wipe_nil, wipe_cons, sz_0, sz_1, sz_2, sz_3, sz_4, sz_5, sz_6, sz_7, sz_8, sz_9, sz_10, runDef, runFull, Def.full, startD, List.length_cons, List.length_nil, List.map_cons, List.map_nil, List.append_nil, List.nil_append, List.cons_append, List.drop_nil, List.drop_zero, List.set_cons_zero, List.set_cons_succ, List.replicate, if_true, if_false, Bool.not_true, Bool.not_false, Bool.true_or, Bool.false_or, Option.map_some, Option.map_none, Nat.zero_add, Nat.add_zero, Nat.sub_self, Nat.reduceAdd, Nat.reduceSub, ↓reduceIte, Bool.and_true, Bool.true_and, Bool.false_and, Bool.and_false, Int.cast_ofNat_Int, decide_true, decide_false, Int.reduceEq, Int.reduceLT, Int.reduceLE, Bool.false_eq_true, List.append_assoc, List.length_append, lk_app, lk_app0, lk_sapp, lk_sapp0, lk_z, lk_s, st_app, st_app0, st_sapp, st_sapp0, len_set, set_set, sq_lk, ix_lk, sl_lk, len_lk, tuple_lk, list_lk, list_tup, ty_lk, stays_lk, set_lk, add_lk, app_lk, ext_lk, clear_lk, recv_lk, get2_lk, tr_lk, gp_0, gp_1, gp_2, gp_3, gp_4, gp_5, gp_6, gp_7, gp_8, ko_n, ko_s, ko_p, gq_1, gq_2, gq_3, gq_4, gq_5, gq_6, gq_7, gq_8, gq_9, gq_10, gq_11, gq_12, gq_13, gq_14, gq_15, gq_16, gcR, Nat.lt_irrefl, Nat.not_lt_zero, List.take_succ_cons, List.take_zero, List.take_nil, D.beqL_self, at_2, at_3, ixN, Nat.reduceLT, Nat.reduceLeDiff, Int.reduceToNat, Int.reduceNeg, Int.reduceSub, Int.reduceAdd, Int.reduceMul, sz_lt, Int.zero_add, mod_int, pr_int, pr_bl, pr_non, pr_str, pr_tup, pr_nil, pr_cons, pr_lst, pr_ints, pr_prs, pr_app, pr_kD, mt_1, mt_2, mt_3, mt_4, mt_5, mt_6, mt_7, rev_lk, max_lk, min_lk, sum_lk, any_lk, all_lk, count_lk, index_lk, pop_lk, eq_D, ne_D, eqD_ll, eqD_tt, eqL_ll, eqS_same, eqS_nil, eqS_ints, eqD_ii, eqD_kk, py_app, py_nil, py_cons, py_ints, py_int, py_bl, py_non, py_kD, py_links, py_prs, py_mapi, pr_mapi, pr_linksT, gt_np, pr_loc, pr_stps, pr_stp, aug_add, aug_sub, ko_app, take_left', len_aa, em, em4, mm, ← List.map_append, List.length_map, hz1]
  generalize hX : lcD _ _ _ _ _ _ _ = X
  have e := lc_f (fun q : Int × Int => D.int (q.1 + 1)) hX rfl (le_size (by simp; omega)) (fun p hp => by simp only [bnd_some, bnd_none, opt_some, opt_none, seqF_next, seqF_brk, seqF_cnt, seqF_ret, ts_nil, ts_cons, out_ret, out_next, ite_t, ite_f, bop_and_t, bop_and_f, bop_or_t, bop_or_f, bb_and_t, bb_and_f, bb_or_t, bb_or_f, slot_0, slot_s, e_con, b_con, e_var, b_var, e_glo, b_glo, e_tup, b_tup, e_lst, b_lst, e_dct, b_dct, e_op, b_op, e_neg, b_neg, e_not, b_not, e_bop, b_bop, e_cmp, b_cmp, e_chn, b_chn, e_ifx, b_ifx, e_ix, b_ix, e_sl, b_sl, e_call, b_call, e_bi, b_bi, e_mxd, b_mxd, e_isi, b_isi, e_isl, b_isl, e_lrg, b_lrg, e_mt, b_mt, e_lc, b_lc, e_rev, b_rev, e_gtp, e_lrg1, i_rng3, bop_1, bop_2, bb_1, bb_2, es_nil, es_cons, eo_none, eo_some, if_none, if_some, i_ex, i_rng1, i_rng2, i_enm, q_nm, q_tp, q_sb, setK_some, qs_nil, qs_cons, t_asg, t_aug, t_ex, t_ret, t_retN, t_iff, t_fr, t_whl, t_brk, t_cnt, t_pas, con_none, con_bool, con_int, con_str, neg_int, not_bl, int_int, add_int, sub_int, lt_int, le_int, gt_int, ge_int, eq_int, ne_int, is_nn, is_in, is_bb, isn_nn, isn_in, isn_bb, tr_non, tr_bl, tr_int, ty_non, ty_bl, ty_int, ty_tup, ty_ro, isa_int_int, isa_int_bool, isa_int_list, isa_int_tuple, isa_list_list, isa_list_tuple, isa_tuple_list, isa_tuple_tuple, sq_tup, sq_ro, bi_int_int, bi_int_bl, bi_tuple_tup, bi_min, bi_max, bi_len_tup, bi_len_ro, ix_tup, ix_ro, sl_tup, sl_ro, stays_tup, stays_ro, at_0, at_1, gc_ai, gc_aai, gc_aaai, gc_ab, gc_aab, gc_aaab, gc_an, gc_aan, gc_aaan, gc_same, wipe_nil, wipe_cons, sz_0, sz_1, sz_2, sz_3, sz_4, sz_5, sz_6, sz_7, sz_8, sz_9, sz_10, runDef, runFull, Def.full, startD, List.length_cons, List.length_nil, List.map_cons, List.map_nil, List.append_nil, List.nil_append, List.cons_append, List.drop_nil, List.drop_zero, List.set_cons_zero, List.set_cons_succ, List.replicate, if_true, if_false, Bool.not_true, Bool.not_false, Bool.true_or, Bool.false_or, Option.map_some, Option.map_none, Nat.zero_add, Nat.add_zero, Nat.sub_self, Nat.reduceAdd, Nat.reduceSub, ↓reduceIte, Bool.and_true, Bool.true_and, Bool.false_and, Bool.and_false, Int.cast_ofNat_Int, decide_true, decide_false, Int.reduceEq, Int.reduceLT, Int.reduceLE, Bool.false_eq_true, List.append_assoc, List.length_append, lk_app, lk_app0, lk_sapp, lk_sapp0, lk_z, lk_s, st_app, st_app0, st_sapp, st_sapp0, len_set, set_set, sq_lk, ix_lk, sl_lk, len_lk, tuple_lk, list_lk, list_tup, ty_lk, stays_lk, set_lk, add_lk, app_lk, ext_lk, clear_lk, recv_lk, get2_lk, tr_lk, gp_0, gp_1, gp_2, gp_3, gp_4, gp_5, gp_6, gp_7, gp_8, ko_n, ko_s, ko_p, gq_1, gq_2, gq_3, gq_4, gq_5, gq_6, gq_7, gq_8, gq_9, gq_10, gq_11, gq_12, gq_13, gq_14, gq_15, gq_16, gcR, Nat.lt_irrefl, Nat.not_lt_zero, List.take_succ_cons, List.take_zero, List.take_nil, D.beqL_self, at_2, at_3, ixN, Nat.reduceLT, Nat.reduceLeDiff, Int.reduceToNat, Int.reduceNeg, Int.reduceSub, Int.reduceAdd, Int.reduceMul, sz_lt, Int.zero_add, mod_int, pr_int, pr_bl, pr_non, pr_str, pr_tup, pr_nil, pr_cons, pr_lst, pr_ints, pr_prs, pr_app, pr_kD, mt_1, mt_2, mt_3, mt_4, mt_5, mt_6, mt_7, rev_lk, max_lk, min_lk, sum_lk, any_lk, all_lk, count_lk, index_lk, pop_lk, eq_D, ne_D, eqD_ll, eqD_tt, eqL_ll, eqS_same, eqS_nil, eqS_ints, eqD_ii, eqD_kk, py_app, py_nil, py_cons, py_ints, py_int, py_bl, py_non, py_kD, py_links, py_prs, py_mapi, pr_mapi, pr_linksT, gt_np, pr_loc, pr_stps, pr_stp, aug_add, aug_sub, ko_app, take_left', len_aa, lcS, ite_b, bnd_if, seqF_if, out_if, bopB_and, bopB_or, bopD_and, bopD_or, if_same_bool, if_bf, if_bx, if_xt, prD])
  subst e
  clear hX
  obtain ⟨k1, hk1⟩ : ∃ k1 : List Int, k1 = tw.map (fun q => q.1 + 1) := ⟨_, rfl⟩
  have hkl1 : k1.length ≤ 200 := by rw [hk1, List.length_map]; exact hl
  have em1 : tw.map (fun q => D.int (q.1 + 1)) = k1.map D.int := by rw [hk1, List.map_map]; rfl
  have hz2 : s4.length + (ks.length + ks.length) + k1.length ≤ sizeLine := le_size (by omega)
  have hz3 : s4.length + (ks.length + (ks.length + k1.length)) ≤ sizeLine := le_size (by omega)
  obtain ⟨d, a3, c3, e3, m3⟩ := one_s k (L := [.lst (s4.map D.int), .lst (ks.map D.int), .lst ((ks ++ ks).map D.int), .lst ((s4 ++ (ks ++ ks)).map D.int), .lst (k1.map D.int), .lst ((s4 ++ (ks ++ (ks ++ k1))).map D.int)]) (a := a2) (b := b) (c := c2) (v := .loc (S.length + 5)) (ds := (s4 ++ (ks ++ (ks ++ k1))).map D.int) hs (fun a' c' => by simp only [List.append_assoc, List.length_append, lk_app, lk_app0, lk_sapp, lk_sapp0, lk_z, lk_s, st_app, st_app0, st_sapp, st_sapp0, len_set, set_set, sq_lk, ix_lk, sl_lk, len_lk, tuple_lk, list_lk, list_tup, ty_lk, stays_lk, set_lk, add_lk, app_lk, ext_lk, clear_lk, recv_lk, get2_lk, tr_lk, gp_0, gp_1, gp_2, gp_3, gp_4, gp_5, gp_6, gp_7, gp_8, ko_n, ko_s, ko_p, gq_1, gq_2, gq_3, gq_4, gq_5, gq_6, gq_7, gq_8, gq_9, gq_10, gq_11, gq_12, gq_13, gq_14, gq_15, gq_16, gcR, Nat.lt_irrefl, Nat.not_lt_zero, List.take_succ_cons, List.take_zero, List.take_nil, D.beqL_self, at_2, at_3, ixN, Nat.reduceLT, Nat.reduceLeDiff, Int.reduceToNat, Int.reduceNeg, Int.reduceSub, Int.reduceAdd, Int.reduceMul, sz_lt, Int.zero_add, mod_int, pr_int, pr_bl, pr_non, pr_str, pr_tup, pr_nil, pr_cons, pr_lst, pr_ints, pr_prs, pr_app, pr_kD, mt_1, mt_2, mt_3, mt_4, mt_5, mt_6, mt_7, rev_lk, max_lk, min_lk, sum_lk, any_lk, all_lk, count_lk, index_lk, pop_lk, eq_D, ne_D, eqD_ll, eqD_tt, eqL_ll, eqS_same, eqS_nil, eqS_ints, eqD_ii, eqD_kk, py_app, py_nil, py_cons, py_ints, py_int, py_bl, py_non, py_kD, py_links, py_prs, py_mapi, pr_mapi, pr_linksT, gt_np, pr_loc, pr_stps, pr_stp, aug_add, aug_sub, ko_app, take_left', len_aa]) (by rw [List.length_map, List.length_append]; omega) (by rw [List.length_map]; simp only [List.length_append]; omega) (pr_ints _)
  obtain ⟨i, -, rfl⟩ := List.mem_map.mp m3
  refine ⟨i, a3, c3, ?_⟩
  simp only [bnd_some, bnd_none, opt_some, opt_none, seqF_next, seqF_brk, seqF_cnt, seqF_ret, ts_nil, ts_cons, out_ret, out_next, ite_t, ite_f, bop_and_t, bop_and_f, bop_or_t, bop_or_f, bb_and_t, bb_and_f, bb_or_t, bb_or_f, slot_0, slot_s, e_con, b_con, e_var, b_var, e_glo, b_glo, e_tup, b_tup, e_lst, b_lst, e_dct, b_dct, e_op, b_op, e_neg, b_neg, e_not, b_not, e_bop, b_bop, e_cmp, b_cmp, e_chn, b_chn, e_ifx, b_ifx, e_ix, b_ix, e_sl, b_sl, e_call, b_call, e_bi, b_bi, e_mxd, b_mxd, e_isi, b_isi, e_isl, b_isl, e_lrg, b_lrg, e_mt, b_mt, e_lc, b_lc, e_rev, b_rev, e_gtp, e_lrg1, i_rng3, bop_1, bop_2, bb_1, bb_2, es_nil, es_cons, eo_none, eo_some, if_none, if_some, i_ex, i_rng1, i_rng2, i_enm, q_nm, q_tp, q_sb, setK_some, qs_nil, qs_cons, t_asg, t_aug, t_ex, t_ret, t_retN, t_iff, t_fr, t_whl, t_brk, t_cnt, t_pas, con_none, con_bool, con_int, con_str, neg_int, not_bl, int_int, add_int, sub_int, lt_int, le_int, gt_int, ge_int, eq_int, ne_int, is_nn, is_in, is_bb, isn_nn, isn_in, isn_bb, tr_non, tr_bl, tr_int, ty_non, ty_bl, ty_int, ty_tup, ty_ro, isa_int_int, isa_int_bool, isa_int_list, isa_int_tuple, isa_list_list, isa_list_tuple, isa_tuple_list, isa_tuple_tuple, sq_tup, sq_ro, bi_int_int, bi_int_bl, bi_tuple_tup, bi_min, bi_max, bi_len_tup, bi_len_ro, ix_tup, ix_ro, sl_tup, sl_ro, stays_tup, stays_ro, at_0, at_1, gc_ai, gc_aai, gc_aaai, gc_ab, gc_aab, gc_aaab, gc_an, gc_aan, gc_aaan, gc_same, wipe_nil, wipe_cons, sz_0, sz_1, sz_2, sz_3, sz_4, sz_5, sz_6, sz_7, sz_8, sz_9, sz_10, runDef, runFull, Def.full, startD, List.length_cons, List.length_nil, List.map_cons, List.map_nil, List.append_nil, List.nil_append, List.cons_append, List.drop_nil, List.drop_zero, List.set_cons_zero, List.set_cons_succ, List.replicate, if_true, if_false, Bool.not_true, Bool.not_false, Bool.true_or, Bool.false_or, Option.map_some, Option.map_none, Nat.zero_add, Nat.add_zero, Nat.sub_self, Nat.reduceAdd, Nat.reduceSub, ↓reduceIte, Bool.and_true, Bool.true_and, Bool.false_and, Bool.and_false, Int.cast_ofNat_Int, decide_true, decide_false, Int.reduceEq, Int.reduceLT, Int.reduceLE, Bool.false_eq_true, List.append_assoc, List.length_append, lk_app, lk_app0, lk_sapp, lk_sapp0, lk_z, lk_s, st_app, st_app0, st_sapp, st_sapp0, len_set, set_set, sq_lk, ix_lk, sl_lk, len_lk, tuple_lk, list_lk, list_tup, ty_lk, stays_lk, set_lk, add_lk, app_lk, ext_lk, clear_lk, recv_lk, get2_lk, tr_lk, gp_0, gp_1, gp_2, gp_3, gp_4, gp_5, gp_6, gp_7, gp_8, ko_n, ko_s, ko_p, gq_1, gq_2, gq_3, gq_4, gq_5, gq_6, gq_7, gq_8, gq_9, gq_10, gq_11, gq_12, gq_13, gq_14, gq_15, gq_16, gcR, Nat.lt_irrefl, Nat.not_lt_zero, List.take_succ_cons, List.take_zero, List.take_nil, D.beqL_self, at_2, at_3, ixN, Nat.reduceLT, Nat.reduceLeDiff, Int.reduceToNat, Int.reduceNeg, Int.reduceSub, Int.reduceAdd, Int.reduceMul, sz_lt, Int.zero_add, mod_int, pr_int, pr_bl, pr_non, pr_str, pr_tup, pr_nil, pr_cons, pr_lst, pr_ints, pr_prs, pr_app, pr_kD, mt_1, mt_2, mt_3, mt_4, mt_5, mt_6, mt_7, rev_lk, max_lk, min_lk, sum_lk, any_lk, all_lk, count_lk, index_lk, pop_lk, eq_D, ne_D, eqD_ll, eqD_tt, eqL_ll, eqS_same, eqS_nil, eqS_ints, eqD_ii, eqD_kk, py_app, py_nil, py_cons, py_ints, py_int, py_bl, py_non, py_kD, py_links, py_prs, py_mapi, pr_mapi, pr_linksT, gt_np, pr_loc, pr_stps, pr_stp, aug_add, aug_sub, ko_app, take_left', len_aa, em1, ← List.map_append, List.length_map, hz2, hz3, e3]
theorem key_s (k : Nat) {m : Nat} {S L : Store} {mo : MO} {a b c : Int} {tw : Tws} (hs : lk S m = some mo) (hl : tw.length ≤ 200) :
    ∃ i a' c', orc defs (k + 3) 27 [.loc m, .tup (tw.map prD)] (S.set m (src a b c) ++ L) = some (.int i, S.set m (src a' b c') ++ L) := by
  obtain ⟨i, a', c', e⟩ := key_s0 k (a := a) (b := b) (c := c) (S := S.set m (src a b c) ++ L) (lk_seta hs) hl
  rw [st_olds hs, st_olds hs] at e
  exact ⟨i, a', c', e⟩
theorem law_gen (k : Nat) (ns : List Int) : ∃ S', runFull (orc defs (k + 10)) d_law [.ro (ns.map D.int)] [] = some (.bl true, S') := by
  have hc : cut (ns.map D.int) none (some 4) = (ns.take 4).map D.int := by
    rw [show (some (4 : Int)) = some ((4 : Nat) : Int) from rfl, cut_upto, List.map_take]
  have hc2 : (ns.take 4).map D.int ++ [.int 0] = (ns.take 4 ++ [0]).map D.int := by simp
  have hl : (ns.take 4).length + 1 ≤ sizeLine := le_size (by rw [List.length_take]; omega)
  have er8 : rngD 0 8 = some ⟨(rangeI 0 8).map D.int, fun _ => true⟩ := rng_small (by decide) (by decide) (by decide) (by decide)
  have er6 : rngD 0 6 = some ⟨(rangeI 0 6).map D.int, fun _ => true⟩ := rng_small (by decide) (by decide) (by decide) (by decide)
  simp only [d_law, b_law, bnd_some, bnd_none, opt_some, opt_none, seqF_next, seqF_brk, seqF_cnt, seqF_ret, ts_nil, ts_cons, out_ret, out_next, ite_t, ite_f, bop_and_t, bop_and_f, bop_or_t, bop_or_f, bb_and_t, bb_and_f, bb_or_t, bb_or_f, slot_0, slot_s, e_con, b_con, e_var, b_var, e_glo, b_glo, e_tup, b_tup, e_lst, b_lst, e_dct, b_dct, e_op, b_op, e_neg, b_neg, e_not, b_not, e_bop, b_bop, e_cmp, b_cmp, e_chn, b_chn, e_ifx, b_ifx, e_ix, b_ix, e_sl, b_sl, e_call, b_call, e_bi, b_bi, e_mxd, b_mxd, e_isi, b_isi, e_isl, b_isl, e_lrg, b_lrg, e_mt, b_mt, e_lc, b_lc, e_rev, b_rev, e_gtp, e_lrg1, i_rng3, bop_1, bop_2, bb_1, bb_2, es_nil, es_cons, eo_none, eo_some, if_none, if_some, i_ex, i_rng1, i_rng2, i_enm, q_nm, q_tp, q_sb, setK_some, qs_nil, qs_cons, t_asg, t_aug, t_ex, t_ret, t_retN, t_iff, t_fr, t_whl, t_brk, t_cnt, t_pas, con_none, con_bool, con_int, con_str, neg_int, not_bl, int_int, add_int, sub_int, lt_int, le_int, gt_int, ge_int, eq_int, ne_int, is_nn, is_in, is_bb, isn_nn, isn_in, isn_bb, tr_non, tr_bl, tr_int, ty_non, ty_bl, ty_int, ty_tup, ty_ro, isa_int_int, isa_int_bool, isa_int_list, isa_int_tuple, isa_list_list, isa_list_tuple, isa_tuple_list, isa_tuple_tuple, sq_tup, sq_ro, bi_int_int, bi_int_bl, bi_tuple_tup, bi_min, bi_max, bi_len_tup, bi_len_ro, ix_tup, ix_ro, sl_tup, sl_ro, stays_tup, stays_ro, at_0, at_1, gc_ai, gc_aai, gc_aaai, gc_ab, gc_aab, gc_aaab, gc_an, gc_aan, gc_aaan, gc_same, wipe_nil, wipe_cons, sz_0, sz_1, sz_2, sz_3, sz_4, sz_5, sz_6, sz_7, sz_8, sz_9, sz_10, runDef, runFull, Def.full, startD, List.length_cons, List.length_nil, List.map_cons, List.map_nil, List.append_nil, List.nil_append, List.cons_append, List.drop_nil, List.drop_zero, List.set_cons_zero, List.set_cons_succ, List.replicate, if_true, if_false, Bool.not_true, Bool.not_false, Bool.true_or, Bool.false_or, Option.map_some, Option.map_none, Nat.zero_add, Nat.add_zero, Nat.sub_self, Nat.reduceAdd, Nat.reduceSub, ↓reduceIte, Bool.and_true, Bool.true_and, Bool.false_and, Bool.and_false, Int.cast_ofNat_Int, decide_true, decide_false, Int.reduceEq, Int.reduceLT, Int.reduceLE, Bool.false_eq_true, List.append_assoc, List.length_append, lk_app, lk_app0, lk_sapp, lk_sapp0, lk_z, lk_s, st_app, st_app0, st_sapp, st_sapp0, len_set, set_set, sq_lk, ix_lk, sl_lk, len_lk, tuple_lk, list_lk, list_tup, ty_lk, stays_lk, set_lk, add_lk, app_lk, ext_lk, clear_lk, recv_lk, get2_lk, tr_lk, gp_0, gp_1, gp_2, gp_3, gp_4, gp_5, gp_6, gp_7, gp_8, ko_n, ko_s, ko_p, gq_1, gq_2, gq_3, gq_4, gq_5, gq_6, gq_7, gq_8, gq_9, gq_10, gq_11, gq_12, gq_13, gq_14, gq_15, gq_16, gcR, Nat.lt_irrefl, Nat.not_lt_zero, List.take_succ_cons, List.take_zero, List.take_nil, D.beqL_self, at_2, at_3, ixN, Nat.reduceLT, Nat.reduceLeDiff, Int.reduceToNat, Int.reduceNeg, Int.reduceSub, Int.reduceAdd, Int.reduceMul, sz_lt, Int.zero_add, mod_int, pr_int, pr_bl, pr_non, pr_str, pr_tup, pr_nil, pr_cons, pr_lst, pr_ints, pr_prs, pr_app, pr_kD, mt_1, mt_2, mt_3, mt_4, mt_5, mt_6, mt_7, rev_lk, max_lk, min_lk, sum_lk, any_lk, all_lk, count_lk, index_lk, pop_lk, eq_D, ne_D, eqD_ll, eqD_tt, eqL_ll, eqS_same, eqS_nil, eqS_ints, eqD_ii, eqD_kk, py_app, py_nil, py_cons, py_ints, py_int, py_bl, py_non, py_kD, py_links, py_prs, py_mapi, pr_mapi, pr_linksT, gt_np, pr_loc, pr_stps, pr_stp, aug_add, aug_sub, ko_app, take_left', len_aa, hc, List.length_map, hl, hc2]
  generalize hX : forD _ _ _ _ _ _ = X
  have key := for_M hX (fun _ σ T => (∃ (x1 x2 x3 x4 x5 x6 x7 x8 : Option D), σ = [some (.ro (ns.map D.int)), x1, x2, x3, x4, x5, x6, x7, x8]) ∧ lk T 2 = some (.lst ((ns.take 4 ++ [0]).map D.int)))
    (fun X => ∃ σ T, X = some (.next σ, T)) ⟨⟨_, _, _, _, _, _, _, _, rfl⟩, rfl⟩ ?_ ?_
  · obtain ⟨σ, T, rfl⟩ := key
    simp only [bnd_some, bnd_none, opt_some, opt_none, seqF_next, seqF_brk, seqF_cnt, seqF_ret, ts_nil, ts_cons, out_ret, out_next, ite_t, ite_f, bop_and_t, bop_and_f, bop_or_t, bop_or_f, bb_and_t, bb_and_f, bb_or_t, bb_or_f, slot_0, slot_s, e_con, b_con, e_var, b_var, e_glo, b_glo, e_tup, b_tup, e_lst, b_lst, e_dct, b_dct, e_op, b_op, e_neg, b_neg, e_not, b_not, e_bop, b_bop, e_cmp, b_cmp, e_chn, b_chn, e_ifx, b_ifx, e_ix, b_ix, e_sl, b_sl, e_call, b_call, e_bi, b_bi, e_mxd, b_mxd, e_isi, b_isi, e_isl, b_isl, e_lrg, b_lrg, e_mt, b_mt, e_lc, b_lc, e_rev, b_rev, e_gtp, e_lrg1, i_rng3, bop_1, bop_2, bb_1, bb_2, es_nil, es_cons, eo_none, eo_some, if_none, if_some, i_ex, i_rng1, i_rng2, i_enm, q_nm, q_tp, q_sb, setK_some, qs_nil, qs_cons, t_asg, t_aug, t_ex, t_ret, t_retN, t_iff, t_fr, t_whl, t_brk, t_cnt, t_pas, con_none, con_bool, con_int, con_str, neg_int, not_bl, int_int, add_int, sub_int, lt_int, le_int, gt_int, ge_int, eq_int, ne_int, is_nn, is_in, is_bb, isn_nn, isn_in, isn_bb, tr_non, tr_bl, tr_int, ty_non, ty_bl, ty_int, ty_tup, ty_ro, isa_int_int, isa_int_bool, isa_int_list, isa_int_tuple, isa_list_list, isa_list_tuple, isa_tuple_list, isa_tuple_tuple, sq_tup, sq_ro, bi_int_int, bi_int_bl, bi_tuple_tup, bi_min, bi_max, bi_len_tup, bi_len_ro, ix_tup, ix_ro, sl_tup, sl_ro, stays_tup, stays_ro, at_0, at_1, gc_ai, gc_aai, gc_aaai, gc_ab, gc_aab, gc_aaab, gc_an, gc_aan, gc_aaan, gc_same, wipe_nil, wipe_cons, sz_0, sz_1, sz_2, sz_3, sz_4, sz_5, sz_6, sz_7, sz_8, sz_9, sz_10, runDef, runFull, Def.full, startD, List.length_cons, List.length_nil, List.map_cons, List.map_nil, List.append_nil, List.nil_append, List.cons_append, List.drop_nil, List.drop_zero, List.set_cons_zero, List.set_cons_succ, List.replicate, if_true, if_false, Bool.not_true, Bool.not_false, Bool.true_or, Bool.false_or, Option.map_some, Option.map_none, Nat.zero_add, Nat.add_zero, Nat.sub_self, Nat.reduceAdd, Nat.reduceSub, ↓reduceIte, Bool.and_true, Bool.true_and, Bool.false_and, Bool.and_false, Int.cast_ofNat_Int, decide_true, decide_false, Int.reduceEq, Int.reduceLT, Int.reduceLE, Bool.false_eq_true, List.append_assoc, List.length_append, lk_app, lk_app0, lk_sapp, lk_sapp0, lk_z, lk_s, st_app, st_app0, st_sapp, st_sapp0, len_set, set_set, sq_lk, ix_lk, sl_lk, len_lk, tuple_lk, list_lk, list_tup, ty_lk, stays_lk, set_lk, add_lk, app_lk, ext_lk, clear_lk, recv_lk, get2_lk, tr_lk, gp_0, gp_1, gp_2, gp_3, gp_4, gp_5, gp_6, gp_7, gp_8, ko_n, ko_s, ko_p, gq_1, gq_2, gq_3, gq_4, gq_5, gq_6, gq_7, gq_8, gq_9, gq_10, gq_11, gq_12, gq_13, gq_14, gq_15, gq_16, gcR, Nat.lt_irrefl, Nat.not_lt_zero, List.take_succ_cons, List.take_zero, List.take_nil, D.beqL_self, at_2, at_3, ixN, Nat.reduceLT, Nat.reduceLeDiff, Int.reduceToNat, Int.reduceNeg, Int.reduceSub, Int.reduceAdd, Int.reduceMul, sz_lt, Int.zero_add, mod_int, pr_int, pr_bl, pr_non, pr_str, pr_tup, pr_nil, pr_cons, pr_lst, pr_ints, pr_prs, pr_app, pr_kD, mt_1, mt_2, mt_3, mt_4, mt_5, mt_6, mt_7, rev_lk, max_lk, min_lk, sum_lk, any_lk, all_lk, count_lk, index_lk, pop_lk, eq_D, ne_D, eqD_ll, eqD_tt, eqL_ll, eqS_same, eqS_nil, eqS_ints, eqD_ii, eqD_kk, py_app, py_nil, py_cons, py_ints, py_int, py_bl, py_non, py_kD, py_links, py_prs, py_mapi, pr_mapi, pr_linksT, gt_np, pr_loc, pr_stps, pr_stp, aug_add, aug_sub, ko_app, take_left', len_aa]
    exact ⟨_, rfl⟩
  · rintro σ T ⟨⟨x1, x2, x3, x4, x5, x6, x7, x8, rfl⟩, hT⟩
    exact ⟨by rw [stays_lk, hT]; exact D.beqL_self _, _, _, rfl⟩
  · clear hX X
    rintro i r σ T ⟨⟨x1, x2, x3, x4, x5, x6, x7, x8, rfl⟩, hT⟩
    refine ⟨by rw [stays_lk, hT]; exact D.beqL_self _, ?_⟩
    obtain ⟨a, b, e1⟩ := well_of (k + 9) i T
    simp only [bnd_some, bnd_none, opt_some, opt_none, seqF_next, seqF_brk, seqF_cnt, seqF_ret, ts_nil, ts_cons, out_ret, out_next, ite_t, ite_f, bop_and_t, bop_and_f, bop_or_t, bop_or_f, bb_and_t, bb_and_f, bb_or_t, bb_or_f, slot_0, slot_s, e_con, b_con, e_var, b_var, e_glo, b_glo, e_tup, b_tup, e_lst, b_lst, e_dct, b_dct, e_op, b_op, e_neg, b_neg, e_not, b_not, e_bop, b_bop, e_cmp, b_cmp, e_chn, b_chn, e_ifx, b_ifx, e_ix, b_ix, e_sl, b_sl, e_call, b_call, e_bi, b_bi, e_mxd, b_mxd, e_isi, b_isi, e_isl, b_isl, e_lrg, b_lrg, e_mt, b_mt, e_lc, b_lc, e_rev, b_rev, e_gtp, e_lrg1, i_rng3, bop_1, bop_2, bb_1, bb_2, es_nil, es_cons, eo_none, eo_some, if_none, if_some, i_ex, i_rng1, i_rng2, i_enm, q_nm, q_tp, q_sb, setK_some, qs_nil, qs_cons, t_asg, t_aug, t_ex, t_ret, t_retN, t_iff, t_fr, t_whl, t_brk, t_cnt, t_pas, con_none, con_bool, con_int, con_str, neg_int, not_bl, int_int, add_int, sub_int, lt_int, le_int, gt_int, ge_int, eq_int, ne_int, is_nn, is_in, is_bb, isn_nn, isn_in, isn_bb, tr_non, tr_bl, tr_int, ty_non, ty_bl, ty_int, ty_tup, ty_ro, isa_int_int, isa_int_bool, isa_int_list, isa_int_tuple, isa_list_list, isa_list_tuple, isa_tuple_list, isa_tuple_tuple, sq_tup, sq_ro, bi_int_int, bi_int_bl, bi_tuple_tup, bi_min, bi_max, bi_len_tup, bi_len_ro, ix_tup, ix_ro, sl_tup, sl_ro, stays_tup, stays_ro, at_0, at_1, gc_ai, gc_aai, gc_aaai, gc_ab, gc_aab, gc_aaab, gc_an, gc_aan, gc_aaan, gc_same, wipe_nil, wipe_cons, sz_0, sz_1, sz_2, sz_3, sz_4, sz_5, sz_6, sz_7, sz_8, sz_9, sz_10, runDef, runFull, Def.full, startD, List.length_cons, List.length_nil, List.map_cons, List.map_nil, List.append_nil, List.nil_append, List.cons_append, List.drop_nil, List.drop_zero, List.set_cons_zero, List.set_cons_succ, List.replicate, if_true, if_false, Bool.not_true, Bool.not_false, Bool.true_or, Bool.false_or, Option.map_some, Option.map_none, Nat.zero_add, Nat.add_zero, Nat.sub_self, Nat.reduceAdd, Nat.reduceSub, ↓reduceIte, Bool.and_true, Bool.true_and, Bool.false_and, Bool.and_false, Int.cast_ofNat_Int, decide_true, decide_false, Int.reduceEq, Int.reduceLT, Int.reduceLE, Bool.false_eq_true, List.append_assoc, List.length_append, lk_app, lk_app0, lk_sapp, lk_sapp0, lk_z, lk_s, st_app, st_app0, st_sapp, st_sapp0, len_set, set_set, sq_lk, ix_lk, sl_lk, len_lk, tuple_lk, list_lk, list_tup, ty_lk, stays_lk, set_lk, add_lk, app_lk, ext_lk, clear_lk, recv_lk, get2_lk, tr_lk, gp_0, gp_1, gp_2, gp_3, gp_4, gp_5, gp_6, gp_7, gp_8, ko_n, ko_s, ko_p, gq_1, gq_2, gq_3, gq_4, gq_5, gq_6, gq_7, gq_8, gq_9, gq_10, gq_11, gq_12, gq_13, gq_14, gq_15, gq_16, gcR, Nat.lt_irrefl, Nat.not_lt_zero, List.take_succ_cons, List.take_zero, List.take_nil, D.beqL_self, at_2, at_3, ixN, Nat.reduceLT, Nat.reduceLeDiff, Int.reduceToNat, Int.reduceNeg, Int.reduceSub, Int.reduceAdd, Int.reduceMul, sz_lt, Int.zero_add, mod_int, pr_int, pr_bl, pr_non, pr_str, pr_tup, pr_nil, pr_cons, pr_lst, pr_ints, pr_prs, pr_app, pr_kD, mt_1, mt_2, mt_3, mt_4, mt_5, mt_6, mt_7, rev_lk, max_lk, min_lk, sum_lk, any_lk, all_lk, count_lk, index_lk, pop_lk, eq_D, ne_D, eqD_ll, eqD_tt, eqL_ll, eqS_same, eqS_nil, eqS_ints, eqD_ii, eqD_kk, py_app, py_nil, py_cons, py_ints, py_int, py_bl, py_non, py_kD, py_links, py_prs, py_mapi, pr_mapi, pr_linksT, gt_np, pr_loc, pr_stps, pr_stp, aug_add, aug_sub, ko_app, take_left', len_aa, e1, er8]
    generalize hX : forD _ _ _ _ _ _ = X
    have h2n : T.length ≠ 2 := by have := lk_lt hT; omega
    have key := for_M hX (fun _ σ U => (∃ (x3 x4 x5 x6 x7 x8 : Option D), σ = [some (.ro (ns.map D.int)), some (.int i), some (.loc T.length), x3, x4, x5, x6, x7, x8]) ∧ lk U 2 = some (.lst ((ns.take 4 ++ [0]).map D.int)) ∧ ∃ a c, lk U T.length = some (src a b c))
      (fun X => ∃ (x3 x4 x5 x6 x7 x8 : Option D) (U : Store), X = some (.next [some (.ro (ns.map D.int)), some (.int i), some (.loc T.length), x3, x4, x5, x6, x7, x8], U) ∧ lk U 2 = some (.lst ((ns.take 4 ++ [0]).map D.int))) ⟨⟨_, _, _, _, _, _, rfl⟩, lk_old hT, a, 0, lk_app0⟩ ?_ ?_
    · obtain ⟨x3, x4, x5, x6, x7, x8, U, rfl, hU⟩ := key
      exact ⟨⟨_, _, _, _, _, _, _, _, rfl⟩, hU⟩
    · rintro σ U ⟨⟨x3, x4, x5, x6, x7, x8, rfl⟩, hU, -⟩
      exact ⟨rfl, _, _, _, _, _, _, U, rfl, hU⟩
    · clear hX X
      rintro t ts σ U ⟨⟨x3, x4, x5, x6, x7, x8, rfl⟩, hU, a, c, hw⟩
      refine ⟨rfl, ?_⟩
      rw [show U = U.set T.length (src a b c) from (set_lk_self hw).symm]
      obtain ⟨d, a1, c1, e2, m2⟩ := one_s (k + 8) (L := [.lst [.int 2, .int 9, .int 25]]) (a := a) (b := b) (c := c) (v := .loc U.length) (ds := [.int 2, .int 9, .int 25]) hw (fun a' c' => by simp only [List.append_assoc, List.length_append, lk_app, lk_app0, lk_sapp, lk_sapp0, lk_z, lk_s, st_app, st_app0, st_sapp, st_sapp0, len_set, set_set, sq_lk, ix_lk, sl_lk, len_lk, tuple_lk, list_lk, list_tup, ty_lk, stays_lk, set_lk, add_lk, app_lk, ext_lk, clear_lk, recv_lk, get2_lk, tr_lk, gp_0, gp_1, gp_2, gp_3, gp_4, gp_5, gp_6, gp_7, gp_8, ko_n, ko_s, ko_p, gq_1, gq_2, gq_3, gq_4, gq_5, gq_6, gq_7, gq_8, gq_9, gq_10, gq_11, gq_12, gq_13, gq_14, gq_15, gq_16, gcR, Nat.lt_irrefl, Nat.not_lt_zero, List.take_succ_cons, List.take_zero, List.take_nil, D.beqL_self, at_2, at_3, ixN, Nat.reduceLT, Nat.reduceLeDiff, Int.reduceToNat, Int.reduceNeg, Int.reduceSub, Int.reduceAdd, Int.reduceMul, sz_lt, Int.zero_add, mod_int, pr_int, pr_bl, pr_non, pr_str, pr_tup, pr_nil, pr_cons, pr_lst, pr_ints, pr_prs, pr_app, pr_kD, mt_1, mt_2, mt_3, mt_4, mt_5, mt_6, mt_7, rev_lk, max_lk, min_lk, sum_lk, any_lk, all_lk, count_lk, index_lk, pop_lk, eq_D, ne_D, eqD_ll, eqD_tt, eqL_ll, eqS_same, eqS_nil, eqS_ints, eqD_ii, eqD_kk, py_app, py_nil, py_cons, py_ints, py_int, py_bl, py_non, py_kD, py_links, py_prs, py_mapi, pr_mapi, pr_linksT, gt_np, pr_loc, pr_stps, pr_stp, aug_add, aug_sub, ko_app, take_left', len_aa]) (by simp) (by simp) (by rfl)
      obtain ⟨n, rfl, n0, n1⟩ : ∃ n : Int, d = .int n ∧ 0 ≤ n ∧ n ≤ 25 := by
        simp only [List.mem_cons, List.not_mem_nil, or_false] at m2
        rcases m2 with rfl | rfl | rfl <;> exact ⟨_, rfl, by omega, by omega⟩
      obtain ⟨tw, a2, c2, e3, hf, hlen, hh⟩ := towers_s0 (k + 6) (a := a1) (b := b) (c := c1) (many := n) hw n0 (by omega)
      simp only [bnd_some, bnd_none, opt_some, opt_none, seqF_next, seqF_brk, seqF_cnt, seqF_ret, ts_nil, ts_cons, out_ret, out_next, ite_t, ite_f, bop_and_t, bop_and_f, bop_or_t, bop_or_f, bb_and_t, bb_and_f, bb_or_t, bb_or_f, slot_0, slot_s, e_con, b_con, e_var, b_var, e_glo, b_glo, e_tup, b_tup, e_lst, b_lst, e_dct, b_dct, e_op, b_op, e_neg, b_neg, e_not, b_not, e_bop, b_bop, e_cmp, b_cmp, e_chn, b_chn, e_ifx, b_ifx, e_ix, b_ix, e_sl, b_sl, e_call, b_call, e_bi, b_bi, e_mxd, b_mxd, e_isi, b_isi, e_isl, b_isl, e_lrg, b_lrg, e_mt, b_mt, e_lc, b_lc, e_rev, b_rev, e_gtp, e_lrg1, i_rng3, bop_1, bop_2, bb_1, bb_2, es_nil, es_cons, eo_none, eo_some, if_none, if_some, i_ex, i_rng1, i_rng2, i_enm, q_nm, q_tp, q_sb, setK_some, qs_nil, qs_cons, t_asg, t_aug, t_ex, t_ret, t_retN, t_iff, t_fr, t_whl, t_brk, t_cnt, t_pas, con_none, con_bool, con_int, con_str, neg_int, not_bl, int_int, add_int, sub_int, lt_int, le_int, gt_int, ge_int, eq_int, ne_int, is_nn, is_in, is_bb, isn_nn, isn_in, isn_bb, tr_non, tr_bl, tr_int, ty_non, ty_bl, ty_int, ty_tup, ty_ro, isa_int_int, isa_int_bool, isa_int_list, isa_int_tuple, isa_list_list, isa_list_tuple, isa_tuple_list, isa_tuple_tuple, sq_tup, sq_ro, bi_int_int, bi_int_bl, bi_tuple_tup, bi_min, bi_max, bi_len_tup, bi_len_ro, ix_tup, ix_ro, sl_tup, sl_ro, stays_tup, stays_ro, at_0, at_1, gc_ai, gc_aai, gc_aaai, gc_ab, gc_aab, gc_aaab, gc_an, gc_aan, gc_aaan, gc_same, wipe_nil, wipe_cons, sz_0, sz_1, sz_2, sz_3, sz_4, sz_5, sz_6, sz_7, sz_8, sz_9, sz_10, runDef, runFull, Def.full, startD, List.length_cons, List.length_nil, List.map_cons, List.map_nil, List.append_nil, List.nil_append, List.cons_append, List.drop_nil, List.drop_zero, List.set_cons_zero, List.set_cons_succ, List.replicate, if_true, if_false, Bool.not_true, Bool.not_false, Bool.true_or, Bool.false_or, Option.map_some, Option.map_none, Nat.zero_add, Nat.add_zero, Nat.sub_self, Nat.reduceAdd, Nat.reduceSub, ↓reduceIte, Bool.and_true, Bool.true_and, Bool.false_and, Bool.and_false, Int.cast_ofNat_Int, decide_true, decide_false, Int.reduceEq, Int.reduceLT, Int.reduceLE, Bool.false_eq_true, List.append_assoc, List.length_append, lk_app, lk_app0, lk_sapp, lk_sapp0, lk_z, lk_s, st_app, st_app0, st_sapp, st_sapp0, len_set, set_set, sq_lk, ix_lk, sl_lk, len_lk, tuple_lk, list_lk, list_tup, ty_lk, stays_lk, set_lk, add_lk, app_lk, ext_lk, clear_lk, recv_lk, get2_lk, tr_lk, gp_0, gp_1, gp_2, gp_3, gp_4, gp_5, gp_6, gp_7, gp_8, ko_n, ko_s, ko_p, gq_1, gq_2, gq_3, gq_4, gq_5, gq_6, gq_7, gq_8, gq_9, gq_10, gq_11, gq_12, gq_13, gq_14, gq_15, gq_16, gcR, Nat.lt_irrefl, Nat.not_lt_zero, List.take_succ_cons, List.take_zero, List.take_nil, D.beqL_self, at_2, at_3, ixN, Nat.reduceLT, Nat.reduceLeDiff, Int.reduceToNat, Int.reduceNeg, Int.reduceSub, Int.reduceAdd, Int.reduceMul, sz_lt, Int.zero_add, mod_int, pr_int, pr_bl, pr_non, pr_str, pr_tup, pr_nil, pr_cons, pr_lst, pr_ints, pr_prs, pr_app, pr_kD, mt_1, mt_2, mt_3, mt_4, mt_5, mt_6, mt_7, rev_lk, max_lk, min_lk, sum_lk, any_lk, all_lk, count_lk, index_lk, pop_lk, eq_D, ne_D, eqD_ll, eqD_tt, eqL_ll, eqS_same, eqS_nil, eqS_ints, eqD_ii, eqD_kk, py_app, py_nil, py_cons, py_ints, py_int, py_bl, py_non, py_kD, py_links, py_prs, py_mapi, pr_mapi, pr_linksT, gt_np, pr_loc, pr_stps, pr_stp, aug_add, aug_sub, ko_app, take_left', len_aa, e2, e3, er6]
      generalize hX : forD _ _ _ _ _ _ = X
      have hl2 : tw.length ≤ 200 := by omega
      have hh9 : ∀ p ∈ tw, p.2 ≤ 900 := fun p hp => Int.le_trans (hh p hp) (by decide)
      have key := for_M hX (fun _ σ V => (∃ (x5 x6 x7 x8 : Option D), σ = [some (.ro (ns.map D.int)), some (.int i), some (.loc T.length), some (.int t), some (.tup (tw.map prD)), x5, x6, x7, x8]) ∧ lk V 2 = some (.lst ((ns.take 4 ++ [0]).map D.int)) ∧ ∃ a c, lk V T.length = some (src a b c))
        (fun X => ∃ (x5 x6 x7 x8 : Option D) (V : Store), X = some (.next [some (.ro (ns.map D.int)), some (.int i), some (.loc T.length), some (.int t), some (.tup (tw.map prD)), x5, x6, x7, x8], V) ∧ lk V 2 = some (.lst ((ns.take 4 ++ [0]).map D.int)) ∧ ∃ a c, lk V T.length = some (src a b c)) ⟨⟨_, _, _, _, rfl⟩, lk_other hU h2n, a2, c2, lk_set hw⟩ ?_ ?_
      · obtain ⟨x5, x6, x7, x8, V, rfl, hV, hw2⟩ := key
        exact ⟨⟨_, _, _, _, _, _, rfl⟩, hV, hw2⟩
      · rintro σ V ⟨⟨x5, x6, x7, x8, rfl⟩, hV, hw2⟩
        exact ⟨rfl, _, _, _, _, V, rfl, hV, hw2⟩
      · clear hX X
        rintro t2 ts2 σ V ⟨⟨x5, x6, x7, x8, rfl⟩, hV, a, c, hw2⟩
        refine ⟨rfl, ?_⟩
        rw [show V = V.set T.length (src a b c) from (set_lk_self hw2).symm]
        obtain ⟨fi, a3, c3, e4⟩ := key_s0 (k + 7) (a := a) (b := b) (c := c) (tw := tw) hw2 hl2
        obtain ⟨k1, a4, c4, e5⟩ := key_s0 (k + 7) (a := a3) (b := b) (c := c3) (tw := tw) hw2 hl2
        obtain ⟨k2, a5, c5, e6⟩ := key_s0 (k + 7) (a := a4) (b := b) (c := c4) (tw := tw) hw2 hl2
        obtain ⟨d, a6, c6, e7, m7⟩ := one_s (k + 8) (L := [.lst [.int fi, .int k1, .int k2]]) (a := a5) (b := b) (c := c5) (v := .loc V.length) (ds := [.int fi, .int k1, .int k2]) hw2 (fun a' c' => by simp only [List.append_assoc, List.length_append, lk_app, lk_app0, lk_sapp, lk_sapp0, lk_z, lk_s, st_app, st_app0, st_sapp, st_sapp0, len_set, set_set, sq_lk, ix_lk, sl_lk, len_lk, tuple_lk, list_lk, list_tup, ty_lk, stays_lk, set_lk, add_lk, app_lk, ext_lk, clear_lk, recv_lk, get2_lk, tr_lk, gp_0, gp_1, gp_2, gp_3, gp_4, gp_5, gp_6, gp_7, gp_8, ko_n, ko_s, ko_p, gq_1, gq_2, gq_3, gq_4, gq_5, gq_6, gq_7, gq_8, gq_9, gq_10, gq_11, gq_12, gq_13, gq_14, gq_15, gq_16, gcR, Nat.lt_irrefl, Nat.not_lt_zero, List.take_succ_cons, List.take_zero, List.take_nil, D.beqL_self, at_2, at_3, ixN, Nat.reduceLT, Nat.reduceLeDiff, Int.reduceToNat, Int.reduceNeg, Int.reduceSub, Int.reduceAdd, Int.reduceMul, sz_lt, Int.zero_add, mod_int, pr_int, pr_bl, pr_non, pr_str, pr_tup, pr_nil, pr_cons, pr_lst, pr_ints, pr_prs, pr_app, pr_kD, mt_1, mt_2, mt_3, mt_4, mt_5, mt_6, mt_7, rev_lk, max_lk, min_lk, sum_lk, any_lk, all_lk, count_lk, index_lk, pop_lk, eq_D, ne_D, eqD_ll, eqD_tt, eqL_ll, eqS_same, eqS_nil, eqS_ints, eqD_ii, eqD_kk, py_app, py_nil, py_cons, py_ints, py_int, py_bl, py_non, py_kD, py_links, py_prs, py_mapi, pr_mapi, pr_linksT, gt_np, pr_loc, pr_stps, pr_stp, aug_add, aug_sub, ko_app, take_left', len_aa]) (by simp) (by simp) (by rfl)
        obtain ⟨ky, rfl⟩ : ∃ n : Int, d = .int n := by
          simp only [List.mem_cons, List.not_mem_nil, or_false] at m7
          rcases m7 with rfl | rfl | rfl <;> exact ⟨_, rfl⟩
        have s1 : ∀ W, _ := fun W => lsteps_of (k + 7) (f := fi) (key := ky) (S := W) hf (by omega) hh9
        have tt : ∀ W, IsTw W (.tup (tw.map prD)) tw := fun W => .tup hf (by omega)
        have s2 : ∀ W, _ := fun W => finger_steps_of (k + 5) (f := fi) (key := ky) (tt W) hh9
        have s3 : ∀ W, _ := fun W => finger_cost_of (k + 4) (f := fi) (key := ky) (tt W) hh9 (sb_len hf (by omega) hh9)
        have s4 := lpriced_of (k + 9) (S := V.set T.length (src a6 b c6) ++ [.lst ((sbS tw fi ky).map Stp.d)]) (m := V.length) lk_sapp0 (sb_len hf (by omega) hh9)
        rw [cst_priced hf] at s4
        simp only [bnd_some, bnd_none, opt_some, opt_none, seqF_next, seqF_brk, seqF_cnt, seqF_ret, ts_nil, ts_cons, out_ret, out_next, ite_t, ite_f, bop_and_t, bop_and_f, bop_or_t, bop_or_f, bb_and_t, bb_and_f, bb_or_t, bb_or_f, slot_0, slot_s, e_con, b_con, e_var, b_var, e_glo, b_glo, e_tup, b_tup, e_lst, b_lst, e_dct, b_dct, e_op, b_op, e_neg, b_neg, e_not, b_not, e_bop, b_bop, e_cmp, b_cmp, e_chn, b_chn, e_ifx, b_ifx, e_ix, b_ix, e_sl, b_sl, e_call, b_call, e_bi, b_bi, e_mxd, b_mxd, e_isi, b_isi, e_isl, b_isl, e_lrg, b_lrg, e_mt, b_mt, e_lc, b_lc, e_rev, b_rev, e_gtp, e_lrg1, i_rng3, bop_1, bop_2, bb_1, bb_2, es_nil, es_cons, eo_none, eo_some, if_none, if_some, i_ex, i_rng1, i_rng2, i_enm, q_nm, q_tp, q_sb, setK_some, qs_nil, qs_cons, t_asg, t_aug, t_ex, t_ret, t_retN, t_iff, t_fr, t_whl, t_brk, t_cnt, t_pas, con_none, con_bool, con_int, con_str, neg_int, not_bl, int_int, add_int, sub_int, lt_int, le_int, gt_int, ge_int, eq_int, ne_int, is_nn, is_in, is_bb, isn_nn, isn_in, isn_bb, tr_non, tr_bl, tr_int, ty_non, ty_bl, ty_int, ty_tup, ty_ro, isa_int_int, isa_int_bool, isa_int_list, isa_int_tuple, isa_list_list, isa_list_tuple, isa_tuple_list, isa_tuple_tuple, sq_tup, sq_ro, bi_int_int, bi_int_bl, bi_tuple_tup, bi_min, bi_max, bi_len_tup, bi_len_ro, ix_tup, ix_ro, sl_tup, sl_ro, stays_tup, stays_ro, at_0, at_1, gc_ai, gc_aai, gc_aaai, gc_ab, gc_aab, gc_aaab, gc_an, gc_aan, gc_aaan, gc_same, wipe_nil, wipe_cons, sz_0, sz_1, sz_2, sz_3, sz_4, sz_5, sz_6, sz_7, sz_8, sz_9, sz_10, runDef, runFull, Def.full, startD, List.length_cons, List.length_nil, List.map_cons, List.map_nil, List.append_nil, List.nil_append, List.cons_append, List.drop_nil, List.drop_zero, List.set_cons_zero, List.set_cons_succ, List.replicate, if_true, if_false, Bool.not_true, Bool.not_false, Bool.true_or, Bool.false_or, Option.map_some, Option.map_none, Nat.zero_add, Nat.add_zero, Nat.sub_self, Nat.reduceAdd, Nat.reduceSub, ↓reduceIte, Bool.and_true, Bool.true_and, Bool.false_and, Bool.and_false, Int.cast_ofNat_Int, decide_true, decide_false, Int.reduceEq, Int.reduceLT, Int.reduceLE, Bool.false_eq_true, List.append_assoc, List.length_append, lk_app, lk_app0, lk_sapp, lk_sapp0, lk_z, lk_s, st_app, st_app0, st_sapp, st_sapp0, len_set, set_set, sq_lk, ix_lk, sl_lk, len_lk, tuple_lk, list_lk, list_tup, ty_lk, stays_lk, set_lk, add_lk, app_lk, ext_lk, clear_lk, recv_lk, get2_lk, tr_lk, gp_0, gp_1, gp_2, gp_3, gp_4, gp_5, gp_6, gp_7, gp_8, ko_n, ko_s, ko_p, gq_1, gq_2, gq_3, gq_4, gq_5, gq_6, gq_7, gq_8, gq_9, gq_10, gq_11, gq_12, gq_13, gq_14, gq_15, gq_16, gcR, Nat.lt_irrefl, Nat.not_lt_zero, List.take_succ_cons, List.take_zero, List.take_nil, D.beqL_self, at_2, at_3, ixN, Nat.reduceLT, Nat.reduceLeDiff, Int.reduceToNat, Int.reduceNeg, Int.reduceSub, Int.reduceAdd, Int.reduceMul, sz_lt, Int.zero_add, mod_int, pr_int, pr_bl, pr_non, pr_str, pr_tup, pr_nil, pr_cons, pr_lst, pr_ints, pr_prs, pr_app, pr_kD, mt_1, mt_2, mt_3, mt_4, mt_5, mt_6, mt_7, rev_lk, max_lk, min_lk, sum_lk, any_lk, all_lk, count_lk, index_lk, pop_lk, eq_D, ne_D, eqD_ll, eqD_tt, eqL_ll, eqS_same, eqS_nil, eqS_ints, eqD_ii, eqD_kk, py_app, py_nil, py_cons, py_ints, py_int, py_bl, py_non, py_kD, py_links, py_prs, py_mapi, pr_mapi, pr_linksT, gt_np, pr_loc, pr_stps, pr_stp, aug_add, aug_sub, ko_app, take_left', len_aa, e4, e5, e6, e7, s1, s2, s3, s4, py_stps, py_cst]
        exact ⟨⟨_, _, _, _, rfl⟩, lk_othera hV h2n, a6, c6, lk_seta hw2⟩
theorem law_true (ns : List Int) (hl : ns.length ≤ 63) : ∃ S', runFull (orc defs 60) d_law [.ro (ns.map D.int)] [] = some (.bl true, S') := law_gen 50 ns
end K51

end

section
set_option maxHeartbeats 0
namespace K51
open PySem PySem.Spec PyProof.Rows L2 Mi
theorem gl_ok {K : PySem.W.Frag} {h : Heap} {mg : Str → Option Value} (X : K.In h) (G : h.Ns mainGlobals mg) (c : He.SaysD fa fn K) : ∀ x i, (tabOf defs gl tp).glo x = some i → ∃ t, mg x = some (.int i t) := by
  intro x i e
  have h1 : (x, i) ∈ gl := lookup_in e
  exact He.int_ok X G (SaysD_facts c (gl_fa _ h1))
theorem tp_ok {K : PySem.W.Frag} {h : Heap} {mg : Str → Option Value} (X : K.In h) (G : h.Ns mainGlobals mg) (c : tupsB tp K = true) : ∀ x ds, (tabOf defs gl tp).tup x = some ds → TupOk K mg x ds := by
  intro x ds e
  have h1 : (x, ds) ∈ tp := lookup_in e
  exact tupB_ok X G (List.all_eq_true.mp c _ h1)
theorem blt_ok {K : PySem.W.Frag} {h : Heap} {mg : Str → Option Value} (X : K.In h) (G : h.Ns mainGlobals mg) (c : He.SaysD fa fn K) : ∀ x ∈ bltNames, mg x = none :=
  fun x hx => He.free_ok X G (SaysD_facts c (List.mem_append_right _ (List.mem_map.mpr ⟨x, hx, rfl⟩)))
abbrev R : PySem.W.OpenRow := PySem.W.OpenLaw.row PySem.Challenge.rw_tosslanes_k51_whole_searches_from_finger
abbrev hk : PySem.W.Hook := hookX 4 fa fn tp
def ob (s : PySem.W.SharedT) : He.AlD × Bool := obsX 4 fa fn tp (HandSHeadRun.getT s)
theorem ob_eq (s : PySem.W.SharedT) : ob s = hk.obs s.abs := obsX_eq (HandSHeadRun.getT_eq s)
theorem run (w : World) : HandSHeadRun.RunEq R (PySem.W.view R.prog [36]) hk ob 8000 loose w := by
  intro os
  kernel_rfl
theorem facts {P : Program} {w : World} {K : PySem.W.Frag} {h : Heap} {mg : Str → Option Value} {f : Addr} (X : K.In h) (G : h.Ns mainGlobals mg) (hfa : mg ("law" : Str) = some (.ref f)) (c : He.SaysD fa fn K) (ct : tupsB tp K = true) :
    ∃ fd : FuncData, (∀ (s : Shared) (v : Value), BindsTo s fd ⟨[v], []⟩ [("_law_script", v)]) ∧ ∀ base : Heap, K.In base → base.Ns mainGlobals mg → FnOk P w K mg base CX0 (60 + 1) f fd ["_law_script"] (fun vs H Q _ => vs.length = d_law.ps.length ∧ liftN K (runFull (orc defs 60) d_law) vs H Q) := by
  obtain ⟨fd, F⟩ := c.def_ 28 (d := h_law) rfl
  have e := hfa.symm.trans (He.glo_ok X G (c.fact 28 (f := .glo "law") rfl))
  cases e
  have b := FunD.bindsA (ps := ["_law_script"]) F fun _ _ _ _ _ _ us hl => match us, hl with | [_], _ => rfl
  exact ⟨fd, fun s v => b s [v] rfl, fun base _ _ => fn_good (d := d_law) F s_law (blt_ok X G c) (gl_ok X G c) (tp_ok X G ct) (all_wf d_law (List.mem_of_getElem? (i := 28) rfl)) (defs_ok (all_ok X G c) (blt_ok X G c) (gl_ok X G c) (tp_ok X G ct) all_wf 60)⟩
end K51

end
set_option maxHeartbeats 0
open PySem PySem.W PySem.Calls PyProof.Rows
theorem PySem.Challenge.cw_tosslanes_k51_whole_searches_from_finger_holds : PySem.Challenge.rw_tosslanes_k51_whole_searches_from_finger.Holds := by
  w_on; o_law
  refine HandSHeadRun.head_any (r := OpenLaw.row PySem.Challenge.rw_tosslanes_k51_whole_searches_from_finger) (q := view (OpenLaw.row PySem.Challenge.rw_tosslanes_k51_whole_searches_from_finger).prog [36]) (H := K51.hk) (ob := K51.ob) (M := 8000) (loose := K51.loose) (d := HandSHeadRun.topDef (OpenLaw.row PySem.Challenge.rw_tosslanes_k51_whole_searches_from_finger).prog 36) (kwd := []) K51.ob_eq
    (by kernel_rfl) (fun s => by kernel_rfl) K51.run (by kernel_rfl) (by kernel_rfl) (by kernel_rfl) (by rfl) (by first | assumption | decide +kernel) (by decide +kernel) ⟨rfl, rfl, rfl, rfl, rfl, by decide +kernel⟩ ?hw ?hc
  case hw => w_witness2
  case hc =>
    refine L2.walk_ofE (l := PySem.Challenge.rw_tosslanes_k51_whole_searches_from_finger) (n := 63) (k := 60 + 1) (x := "_law_script") (CX := L2.CX0) rfl (by decide) (by kernel_rfl) ⟨rfl, by decide, by decide⟩ ?F (fun _ _ _ _ z => z)
    intro w mg fa h Y G hmg0
    obtain ⟨K, KX, c, ct⟩ := Y
    have hmg : mg ("law" : PySem.Str) = some (.ref fa) := by
      have e : (HandSHeadRun.topDef (OpenLaw.row PySem.Challenge.rw_tosslanes_k51_whole_searches_from_finger).prog 36).name = ("law" : PySem.Str) := by kernel_rfl
      rw [← e]
      exact hmg0
    obtain ⟨fd, hb, hF⟩ := K51.facts (P := (PySem.Challenge.rw_tosslanes_k51_whole_searches_from_finger).prog) (w := w) KX G hmg c ct
    exact ⟨K, fd, _, KX, hb, fun H a ns hl hO hS => let ⟨S', e⟩ := K51.law_true ns hl; Mi.entry hO hS rfl e, hF⟩
