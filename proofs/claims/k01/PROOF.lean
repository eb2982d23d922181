import PyProof.Rows.All
import Wide.All
import OpenK.AllK
import Wide.FinOn
import HandS.ForMost
import HandS.Flow
import HandS.Wide
import HandS.IsInst
import HandS.Conv
import HandS.TupAny
import HandS.TupMul
import KE.DataMinMax
import KE.KDictPairs
import HandS.SortKw
import HandS.Style
import KE.GoesEnum
import KE.GoesMore
import HandS.NoneIn
import HandS.Defaults
import HandS.Ends
import HandS.HeadHook2
import KE.KStateDown
import Lean
import HandS.Base
import HandS.Call
import HandS.More
import HandS.Words
import HandS.WordsExc
import HandS.Head0
import HandS.Head1
import HandS.Head2
import HandS.HeadEnd
import HandS.HeadHook1
import PySem.Challenge.RW_tosslanes_k01_towers_and_lanes
set_option Elab.async false
set_option linter.all false
set_option maxRecDepth 100000
section
/-! Mi1: a small language of values: data, stores, syntax with its text in the model's own syntax, and what it is worth. -/
namespace Mi
open PySem L2

/-! ### data -/
inductive D where
  | non | bl (b : Bool) | int (i : Int) | str (x : Str)
  | tup (ds : List D)
  /-- the script: a list that is read alone -/
  | ro (ds : List D)
  /-- an object of the store -/
  | loc (n : Nat)
  deriving Inhabited

inductive MO where
  | lst (ds : List D)
  | dic (kvs : List (Key × D))
  | dit (kvs : List (List Key × D))
  deriving Inhabited

abbrev StD := List (Option D)
abbrev Store := List MO
abbrev Orc := Nat → List D → Store → Option (D × Store)

mutual
def D.beq : D → D → Bool
  | .non, .non => true
  | .bl a, .bl b => a == b
  | .int a, .int b => a == b
  | .str a, .str b => a == b
  | .tup a, .tup b => D.beqL a b
  | .ro a, .ro b => D.beqL a b
  | .loc a, .loc b => a == b
  | _, _ => false
def D.beqL : List D → List D → Bool
  | [], [] => true
  | a :: r, b :: q => D.beq a b && D.beqL r q
  | _, _ => false
end
mutual
theorem D.beq_eq : ∀ {a b : D}, D.beq a b = true → a = b
  | .non, b, h => by cases b <;> simp [D.beq] at h ⊢
  | .bl x, b, h => by cases b <;> simp [D.beq] at h ⊢; exact h
  | .int x, b, h => by cases b <;> simp [D.beq] at h ⊢; exact h
  | .str x, b, h => by cases b <;> simp [D.beq] at h ⊢; exact h
  | .tup x, b, h => by cases b <;> simp [D.beq] at h ⊢; exact D.beqL_eq h
  | .ro x, b, h => by cases b <;> simp [D.beq] at h ⊢; exact D.beqL_eq h
  | .loc x, b, h => by cases b <;> simp [D.beq] at h ⊢; exact h
theorem D.beqL_eq : ∀ {a b : List D}, D.beqL a b = true → a = b
  | [], b, h => by cases b <;> simp [D.beqL] at h ⊢
  | x :: r, b, h => by
    cases b with
    | nil => simp [D.beqL] at h
    | cons y q =>
      simp only [D.beqL, Bool.and_eq_true] at h
      rw [D.beq_eq h.1, D.beqL_eq h.2]
end
mutual
@[simp] theorem D.beq_self : ∀ a : D, D.beq a a = true
  | .non => rfl
  | .bl x => by simp [D.beq]
  | .int x => by simp [D.beq]
  | .str x => by simp [D.beq]
  | .tup x => by simp only [D.beq]; exact D.beqL_self x
  | .ro x => by simp only [D.beq]; exact D.beqL_self x
  | .loc x => by simp [D.beq]
@[simp] theorem D.beqL_self : ∀ a : List D, D.beqL a a = true
  | [] => rfl
  | x :: r => by simp only [D.beqL, Bool.and_eq_true]; exact ⟨D.beq_self x, D.beqL_self r⟩
end
def kvBeq {κ : Type} [DecidableEq κ] : List (κ × D) → List (κ × D) → Bool
  | [], [] => true
  | (k, a) :: r, (l, b) :: q => decide (k = l) && D.beq a b && kvBeq r q
  | _, _ => false
theorem kvBeq_eq {κ : Type} [DecidableEq κ] : ∀ {a b : List (κ × D)}, kvBeq a b = true → a = b
  | [], b, h => by cases b <;> simp [kvBeq] at h ⊢
  | (k, x) :: r, b, h => by
    cases b with
    | nil => simp [kvBeq] at h
    | cons y q =>
      obtain ⟨l, y⟩ := y
      simp only [kvBeq, Bool.and_eq_true, decide_eq_true_eq] at h
      rw [h.1.1, D.beq_eq h.1.2, kvBeq_eq h.2]
@[simp] theorem kvBeq_self {κ : Type} [DecidableEq κ] : ∀ a : List (κ × D), kvBeq a a = true
  | [] => rfl
  | (k, x) :: r => by simp [kvBeq, kvBeq_self r]
def MO.beq : MO → MO → Bool
  | .lst a, .lst b => D.beqL a b
  | .dic a, .dic b => kvBeq a b
  | .dit a, .dit b => kvBeq a b
  | _, _ => false
theorem MO.beq_eq {a b : MO} (h : MO.beq a b = true) : a = b := by
  cases a <;> cases b <;> simp only [MO.beq] at h <;> first | (rw [D.beqL_eq h]) | (rw [kvBeq_eq h]) | cases h
@[simp] theorem MO.beq_self (a : MO) : MO.beq a a = true := by cases a <;> simp [MO.beq]

/-! no object of the store within -/
mutual
def D.pure : D → Bool
  | .tup a => D.pureL a
  | .ro a => D.pureL a
  | .loc _ => false
  | _ => true
def D.pureL : List D → Bool
  | [] => true
  | a :: r => D.pure a && D.pureL r
end
def MO.pure : MO → Bool
  | .lst a => D.pureL a
  | .dic a => D.pureL (a.map (·.2))
  | .dit a => D.pureL (a.map (·.2))
/-- what stood ahead is as it was, or holds nothing new -/
def keepsOld : Store → Store → Bool
  | [], _ => true
  | _ :: _, [] => false
  | a :: r, b :: q => (MO.beq a b || MO.pure b) && keepsOld r q
/-- what is not used any more is let go: S the store ahead -/
def gc (S : Store) (d : D) (S' : Store) : D × Store :=
  if keepsOld S S' then
    if D.pure d then (d, S'.take S.length)
    else match d with
      | .loc m => if m < S.length then (d, S'.take S.length) else match S'[m]? with
        | some mo => if MO.pure mo then (.loc S.length, S'.take S.length ++ [mo]) else (d, S')
        | none => (d, S')
      | _ => (d, S')
  else (d, S')
def gcO (S : Store) : Option (D × Store) → Option (D × Store)
  | some (d, S') => some (gc S d S')
  | none => none

/-! ### as Python's data -/
def mapO {α β : Type} (f : α → Option β) : List α → Option (List β)
  | [] => some []
  | a :: r => match f a with
    | some b => match mapO f r with
      | some bs => some (b :: bs)
      | none => none
    | none => none
def toPy (S : Store) : Nat → D → Option PyData
  | _, .non => some .none
  | _, .bl b => some (.bool b)
  | _, .int i => some (.int i)
  | _, .str x => if PyData.strOk x then some (.str x) else none
  | n + 1, .tup ds => (mapO (toPy S n) ds).map .tuple
  | n + 1, .ro ds => (mapO (toPy S n) ds).map .list
  | n + 1, .loc m => match S[m]? with
    | some (.lst ds) => (mapO (toPy S n) ds).map .list
    | _ => none
  | 0, .tup _ => none
  | 0, .ro _ => none
  | 0, .loc _ => none
def eqD (S : Store) (d e : D) : Option Bool :=
  match toPy S 60 d, toPy S 60 e with
  | some a, some b => some (PyData.eqv a b)
  | _, _ => none

/-! ### operations on values -/
def getG {κ : Type} [DecidableEq κ] (kvs : List (κ × D)) (k : κ) : Option D := (kvs.find? fun kv => decide (kv.1 = k)).map (·.2)
def putG {κ : Type} [DecidableEq κ] (kvs : List (κ × D)) (k : κ) (v : D) : List (κ × D) :=
  if (kvs.any fun kv => decide (kv.1 = k)) = true then kvs.map (fun kv => if kv.1 = k then (kv.1, v) else kv) else kvs ++ [(k, v)]
def keyOf : D → Option Key
  | .int i => some (.inl i)
  | .str x => some (.inr x)
  | _ => none
def seqOf (S : Store) : D → Option (List D)
  | .tup ds => some ds
  | .ro ds => some ds
  | .loc m => match S[m]? with
    | some (.lst ds) => some ds
    | _ => none
  | _ => none
/-- may be walked as long as it stays as it is -/
def stays (d : D) (ds : List D) (S : Store) : Bool :=
  match d with
  | .loc m => match S[m]? with
    | some (.lst es) => D.beqL es ds
    | _ => false
  | _ => true
def truthD (S : Store) : D → Option Bool
  | .non => some false
  | .bl b => some b
  | .int i => some (i != 0)
  | .str x => if x.length ≤ sizeLine then some ((x.length : Int) != 0) else none
  | .tup ds => some (!ds.isEmpty)
  | .ro ds => some (!ds.isEmpty)
  | .loc m => match S[m]? with
    | some (.lst ds) => some (!ds.isEmpty)
    | some (.dic kvs) => some (!kvs.isEmpty)
    | _ => none
def cut {α : Type} (xs : List α) (lo hi : Option Int) : List α := (xs.drop (HT.sIx xs.length 0 lo)).take (HT.sIx xs.length xs.length hi - HT.sIx xs.length 0 lo)

def opD (o : Operator) (a b : D) (S : Store) : Option (D × Store) :=
  match o, a, b with
  | .Add, .int i, .int j => some (.int (i + j), S)
  | .Add, .str x, .str y => if x.length + y.length ≤ sizeLine then some (.str (x ++ y), S) else none
  | .Add, .tup x, .tup y => if x.length + y.length ≤ sizeLine then some (.tup (x ++ y), S) else none
  | .Add, .loc m, .loc n => match S[m]?, S[n]? with
    | some (.lst x), some (.lst y) => if x.length + y.length ≤ sizeLine then some (.loc S.length, S ++ [.lst (x ++ y)]) else none
    | _, _ => none
  | .Sub, .int i, .int j => some (.int (i - j), S)
  | .Mult, .int i, .int j => if i.natAbs < 2 ^ 64 ∨ j.natAbs < 2 ^ 64 ∨ i.natAbs.log2 + j.natAbs.log2 < 1000000 then some (.int (i * j), S) else none
  | .Mult, .loc m, .int k => match S[m]? with
    | some (.lst x) => if -(2 ^ 63) ≤ k ∧ k < 2 ^ 63 ∧ x.length * k.toNat ≤ sizeLine then some (.loc S.length, S ++ [.lst (List.replicate k.toNat x).flatten]) else none
    | _ => none
  | .FloorDiv, .int i, .int j => if 0 < j ∧ j.natAbs.log2 < 9000 then some (.int (i / j), S) else none
  | .Mod, .int i, .int j => if 0 < j then some (.int (i % j), S) else none
  | .Pow, .int i, .int j => if 0 ≤ j ∧ j ≤ 1000000 ∧ i.natAbs < 2 ^ 64 then some (.int (i ^ j.toNat), S) else none
  | _, _, _ => none
def lexLt : List Nat → List Nat → Bool
  | [], [] => false
  | [], _ :: _ => true
  | _ :: _, [] => false
  | a :: r, b :: q => if a < b then true else if b < a then false else lexLt r q
def flatPy : D → Option PyData
  | .non => some .none
  | .bl b => some (.bool b)
  | .int i => some (.int i)
  | .str x => some (.str x)
  | _ => none
def inSeq (a : D) (ds : List D) : Option Bool :=
  match flatPy a, mapO flatPy ds with
  | some x, some ys => some (ys.any fun y => PyData.eqv y x)
  | _, _ => none
def inD (a b : D) (S : Store) : Option Bool :=
  match b with
  | .loc m => match S[m]? with
    | some (.dic kvs) => (keyOf a).map fun k => (getG kvs k).isSome
    | some (.lst ds) => inSeq a ds
    | _ => none
  | .tup ds => inSeq a ds
  | .ro ds => inSeq a ds
  | _ => none
def cmpD (o : CmpOp) (a b : D) (S : Store) : Option Bool :=
  match o with
  | .Eq => eqD S a b
  | .NotEq => (eqD S a b).map (!·)
  | .Lt => match a, b with
    | .int i, .int j => some (decide (i < j))
    | _, _ => none
  | .LtE => match a, b with
    | .int i, .int j => some (decide (i ≤ j))
    | _, _ => none
  | .Gt => match a, b with
    | .int i, .int j => some (decide (j < i))
    | _, _ => none
  | .GtE => match a, b with
    | .int i, .int j => some (decide (j ≤ i))
    | _, _ => none
  | .Is => match a, b with
    | .non, .non => some true
    | .bl x, .bl y => some (decide (x = y))
    | _, .non => some false
    | _, _ => none
  | .IsNot => match a, b with
    | .non, .non => some false
    | .bl x, .bl y => some (!decide (x = y))
    | _, .non => some true
    | _, _ => none
  | .In => inD a b S
  | .NotIn => (inD a b S).map (!·)
def ixD (a i : D) (S : Store) : Option D :=
  match i with
  | .int k => match a with
    | .loc m => match S[m]? with
      | some (.lst ds) => atI ds k
      | some (.dic kvs) => getG kvs (.inl k)
      | _ => none
    | .tup ds => atI ds k
    | .ro ds => atI ds k
    | _ => none
  | .str x => match a with
    | .loc m => match S[m]? with
      | some (.dic kvs) => getG kvs (.inr x)
      | _ => none
    | _ => none
  | _ => none
def slD (a : D) (lo hi : Option Int) (S : Store) : Option (D × Store) :=
  match a with
  | .tup ds => some (.tup (cut ds lo hi), S)
  | .ro ds => some (.loc S.length, S ++ [.lst (cut ds lo hi)])
  | .loc m => match S[m]? with
    | some (.lst ds) => some (.loc S.length, S ++ [.lst (cut ds lo hi)])
    | _ => none
  | _ => none
def setD (a i v : D) (S : Store) : Option Store :=
  match a, i with
  | .loc m, .int k => match S[m]? with
    | some (.lst ds) => match ixN ds.length k with
      | some j => some (S.set m (.lst (ds.set j v)))
      | none => none
    | some (.dic kvs) => if kvs.length < sizeLine then some (S.set m (.dic (putG kvs (.inl k) v))) else none
    | _ => none
  | .loc m, .str x => match S[m]? with
    | some (.dic kvs) => if kvs.length < sizeLine then some (S.set m (.dic (putG kvs (.inr x) v))) else none
    | _ => none
  | _, _ => none

/-! ### built-in names -/
inductive Ty where
  | int | bool | str | list | tuple | dict
  deriving DecidableEq
def Ty.name : Ty → String
  | .int => "int" | .bool => "bool" | .str => "str" | .list => "list" | .tuple => "tuple" | .dict => "dict"
def tyD (S : Store) : D → Option String
  | .non => some "NoneType"
  | .bl _ => some "bool"
  | .int _ => some "int"
  | .str _ => some "str"
  | .tup _ => some "tuple"
  | .ro _ => some "list"
  | .loc m => match S[m]? with
    | some (.lst _) => some "list"
    | some (.dic _) => some "dict"
    | some (.dit _) => some "dict"
    | none => none
def isaD (n : String) (t : Ty) : Bool := n == t.name || (n == "bool" && t.name == "int")
inductive Bi where
  | len | int | tuple | list | min | max | abs | dict
  deriving DecidableEq
def Bi.name : Bi → String
  | .len => "len" | .int => "int" | .tuple => "tuple" | .list => "list" | .min => "min" | .max => "max" | .abs => "abs" | .dict => "dict"
def pairKV : D → Option (Key × D)
  | .tup [k, v] => (keyOf k).map fun k => (k, v)
  | _ => none
def biD (f : Bi) (as : List D) (S : Store) : Option (D × Store) :=
  match f, as with
  | .len, [a] => match a with
    | .str x => if x.length ≤ sizeLine then some (.int x.length, S) else none
    | .loc m => match S[m]? with
      | some (.lst ds) => some (.int ds.length, S)
      | some (.dic kvs) => some (.int kvs.length, S)
      | _ => none
    | _ => (seqOf S a).map fun ds => (.int ds.length, S)
  | .int, [.int i] => some (.int i, S)
  | .int, [.bl b] => some (.int (if b then 1 else 0), S)
  | .tuple, [.tup ds] => some (.tup ds, S)
  | .tuple, [a] => (seqOf S a).map fun ds => (.tup ds, S)
  | .list, [a] => (seqOf S a).map fun ds => (.loc S.length, S ++ [.lst ds])
  | .min, [.int i, .int j] => some (.int (if j < i then j else i), S)
  | .max, [.int i, .int j] => some (.int (if j > i then j else i), S)
  | .abs, [.int i] => some (.int (if i < 0 then -i else i), S)
  | .dict, [a] => match seqOf S a with
    | some ds => (mapO pairKV ds).map fun kvs => (.loc S.length, S ++ [.dic (kvs.foldl (fun acc p => putG acc p.1 p.2) [])])
    | none => none
  | _, _ => none
def intsOf : List D → Option (List Int)
  | [] => some []
  | .int i :: r => (intsOf r).map (i :: ·)
  | _ => none
def greatest (i : Int) (r : List Int) : Int := r.foldl max i
def least (i : Int) (r : List Int) : Int := r.foldl min i
/-- max(xs, default=d), min(xs, default=d) -/
def maxD (gr : Bool) (a d : D) (S : Store) : Option D :=
  match seqOf S a with
  | some ds => match intsOf ds with
    | some (i :: r) => some (.int (if gr then greatest i r else least i r))
    | some [] => some d
    | none => none
  | none => none
inductive Mt where
  | append | extend | clear | pop | get
  deriving DecidableEq
def Mt.name : Mt → String
  | .append => "append" | .extend => "extend" | .clear => "clear" | .pop => "pop" | .get => "get"
def mtD (m : Mt) (o : D) (as : List D) (S : Store) : Option (D × Store) :=
  match o with
  | .loc n => match S[n]? with
    | some (.lst ds) => match m, as with
      | .append, [x] => if ds.length < sizeLine then some (.non, S.set n (.lst (ds ++ [x]))) else none
      | .extend, [x] => match x with
        | .loc k => match S[k]? with
          | some (.lst es) => if ds.length + es.length ≤ sizeLine then some (.non, S.set n (.lst (ds ++ es))) else none
          | _ => none
        | _ => none
      | .clear, [] => some (.non, S.set n (.lst []))
      | .pop, [] => match ds[ds.length - 1]? with
        | some y => some (y, S.set n (.lst ds.dropLast))
        | none => none
      | _, _ => none
    | some (.dic kvs) => match m, as with
      | .get, [k, d] => (keyOf k).map fun k => ((getG kvs k).getD d, S)
      | .get, [k] => (keyOf k).map fun k => ((getG kvs k).getD .non, S)
      | _, _ => none
    | _ => none
  | _ => none

/-- the object fits the method -/
def recvD (m : Mt) (o : D) (S : Store) : Bool :=
  match o with
  | .loc n => match S[n]? with
    | some (.lst _) => m != .get
    | some (.dic _) => m == .get
    | _ => false
  | _ => false

/-! ### syntax -/
mutual
inductive E where
  | con (c : Const) (k : Nat) (p : Pos)
  | var (i : Nat) (x : Str) (p : Pos)
  | glo (x : Str) (i : Int) (p : Pos)
  | tup (es : Es) (k : Nat) (p : Pos)
  | lst (es : Es) (p : Pos)
  | dct (p : Pos)
  | op (o : Operator) (a b : E) (p : Pos)
  | neg (a : E) (p : Pos)
  | not (a : E) (p : Pos)
  | bop (o : BoolOp) (es : Es) (p : Pos)
  | cmp (o : CmpOp) (a b : E) (p : Pos)
  | chn (o q : CmpOp) (a b c : E) (p : Pos)
  | ifx (c a b : E) (p : Pos)
  | ix (a i : E) (p : Pos)
  | sl (a : E) (lo hi : Eo) (q p : Pos)
  | call (f : Str) (n : Nat) (as : Es) (q p : Pos)
  | bi (f : Bi) (as : Es) (q p : Pos)
  | mxd (gr : Bool) (a d : E) (q kp p : Pos)
  | isi (a : E) (t : Ty) (q tp p : Pos)
  | isl (a : E) (k : Nat) (q p1 p2 tp p : Pos)
  | lrg (a b : E) (q2 p2 q p : Pos)
  | mt (o : E) (m : Mt) (as : Es) (q p : Pos)
  | lc (e : E) (g : G) (it : I) (c : Eo) (own : List (Str × Nat)) (sc : Scope) (p : Pos)
inductive Es where
  | nil | cons (e : E) (r : Es)
inductive Eo where
  | none | some (e : E)
inductive I where
  | ex (e : E)
  | rng1 (a : E) (q p : Pos)
  | rng2 (a b : E) (q p : Pos)
  | enm (e : E) (q p : Pos)
inductive G where
  | nm (i : Nat) (x : Str) (p : Pos)
  | tp (gs : Gs) (k : Nat) (p : Pos)
  | sb (o i : E) (p : Pos)
inductive Gs where
  | nil | cons (g : G) (r : Gs)
end
mutual
inductive T where
  | asg (g : G) (e : E) (p : Pos)
  | aug (i : Nat) (x : Str) (o : Operator) (e : E) (q p : Pos)
  | ex (e : E) (p : Pos)
  | ret (e : E) (p : Pos)
  | retN (p : Pos)
  | iff (c : E) (a b : Ts) (p : Pos)
  | fr (g : G) (it : I) (b : Ts) (p : Pos)
  | whl (c : E) (b : Ts) (p : Pos)
  | brk (p : Pos)
  | cnt (p : Pos)
  | pas (p : Pos)
  /-- what is never come to -/
  | nev (s : Stmt)
inductive Ts where
  | nil | cons (t : T) (r : Ts)
end

/-! ### its text -/
def kwDefault : Str := "default"
mutual
def embE : E → Expr
  | .con c k p => .Constant c k p
  | .var _ x p => .Name x p
  | .glo x _ p => .Name x p
  | .tup es k p => .Tuple (embEs es) k p
  | .lst es p => .List (embEs es) p
  | .dct p => .Dict [] [] p
  | .op o a b p => .BinOp (embE a) o (embE b) p
  | .neg a p => .UnaryOp .USub (embE a) p
  | .not a p => .UnaryOp .Not (embE a) p
  | .bop o es p => .BoolOp o (embEs es) p
  | .cmp o a b p => .Compare (embE a) [o] [embE b] p
  | .chn o q a b c p => .Compare (embE a) [o, q] [embE b, embE c] p
  | .ifx c a b p => .IfExp (embE c) (embE a) (embE b) p
  | .ix a i p => .Subscript (embE a) (embE i) p
  | .sl a lo hi q p => .Subscript (embE a) (.Slice (embEo lo) (embEo hi) none q) p
  | .call f _ as q p => .Call (.Name f q) (embEs as) [] p
  | .bi f as q p => .Call (.Name (Str.ofString f.name) q) (embEs as) [] p
  | .mxd gr a d q kp p => .Call (.Name (Str.ofString (if gr then "max" else "min")) q) [embE a] [⟨some kwDefault, embE d, kp⟩] p
  | .isi a t q tp p => .Call (.Name "isinstance" q) [embE a, .Name (Str.ofString t.name) tp] [] p
  | .isl a k q p1 p2 tp p => .Call (.Name "isinstance" q) [embE a, .Tuple [.Name "list" p1, .Name "tuple" p2] k tp] [] p
  | .lrg a b q2 p2 q p => .Call (.Name "list" q) [.Call (.Name "range" q2) [embE a, embE b] [] p2] [] p
  | .mt o m as q p => .Call (.Attribute (embE o) (Str.ofString m.name) q) (embEs as) [] p
  | .lc e g it c _ sc p => .ListComp (embE e) [⟨embG g, embI it, embIf c, 0⟩] sc p
def embEs : Es → List Expr
  | .nil => []
  | .cons e r => embE e :: embEs r
def embEo : Eo → Option Expr
  | .none => none
  | .some e => some (embE e)
def embIf : Eo → List Expr
  | .none => []
  | .some e => [embE e]
def embI : I → Expr
  | .ex e => embE e
  | .rng1 a q p => .Call (.Name "range" q) [embE a] [] p
  | .rng2 a b q p => .Call (.Name "range" q) [embE a, embE b] [] p
  | .enm e q p => .Call (.Name "enumerate" q) [embE e] [] p
def embG : G → Expr
  | .nm _ x p => .Name x p
  | .tp gs k p => .Tuple (embGs gs) k p
  | .sb o i p => .Subscript (embE o) (embE i) p
def embGs : Gs → List Expr
  | .nil => []
  | .cons g r => embG g :: embGs r
end
mutual
def embT : T → Stmt
  | .asg g e p => .Assign [embG g] (embE e) p
  | .aug _ x o e q p => .AugAssign (.Name x q) o (embE e) p
  | .ex e p => .Expr (embE e) p
  | .ret e p => .Return (some (embE e)) p
  | .retN p => .Return none p
  | .iff c a b p => .If (embE c) (embTs a) (embTs b) p
  | .fr g it b p => .For (embG g) (embI it) (embTs b) [] p
  | .whl c b p => .While (embE c) (embTs b) [] p
  | .brk p => .Break p
  | .cnt p => .Continue p
  | .pas p => .Pass p
  | .nev s => s
def embTs : Ts → List Stmt
  | .nil => []
  | .cons t r => embT t :: embTs r
end

/-! ### whether it is well said -/
structure Tab where
  cal : Str → Nat → Nat → Bool
  glo : Str → Option Int
def visB (sc : Scope) (x : Str) : Bool := match sc.names.lookup x with | some .local => true | some .cell => true | some .free => true | _ => false
def locB (sc : Scope) (fn : Str → Bool) (x : Str) : Bool := match sc.names.lookup x with | some .local => true | some .cell => fn x | _ => false
def glB (sc : Scope) (x : Str) : Bool := (match sc.names.lookup x with | some .globalImplicit => true | _ => false) && !(x == ("__debug__" : Str))
def relab (sc scope : Scope) : Scope := { scope with names := scope.names.map fun (n, k) => if (k == .free && sc.kind == .function && sc.names.lookup n == some .cell) then (n, .cell) else (n, k) }
def Es.len : Es → Nat
  | .nil => 0
  | .cons _ r => r.len + 1
def Gs.len : Gs → Nat
  | .nil => 0
  | .cons _ r => r.len + 1
def isTp : G → Bool
  | .tp .. => true
  | _ => false
mutual
def slots : G → List Nat
  | .nm i _ _ => [i]
  | .tp gs _ _ => slotsL gs
  | .sb _ _ _ => []
def slotsL : Gs → List Nat
  | .nil => []
  | .cons g r => slots g ++ slotsL r
end
/-- no call without arguments -/
def noCall0 : E → Bool
  | .call _ _ .nil _ _ => false
  | .bi _ .nil _ _ => false
  | _ => true
mutual
def wfE (Γ : Tab) (N : List Str) : Scope → (Str → Bool) → E → Bool
  | _, _, .con .. => true
  | sc, _, .var i x _ => decide (N[i]? = some x) && visB sc x && !(x == ("__debug__" : Str)) && !(x == ("__classdict__" : Str))
  | sc, _, .glo x i _ => glB sc x && decide (Γ.glo x = some i)
  | sc, fn, .tup es _ _ => wfEs Γ N sc fn es
  | sc, fn, .lst es _ => wfEs Γ N sc fn es
  | _, _, .dct _ => true
  | sc, fn, .op _ a b _ => wfE Γ N sc fn a && wfE Γ N sc fn b
  | sc, fn, .neg a _ => wfE Γ N sc fn a
  | sc, fn, .not a _ => wfE Γ N sc fn a
  | sc, fn, .bop _ es _ => wfEs Γ N sc fn es && decide (0 < es.len)
  | sc, fn, .cmp _ a b _ => wfE Γ N sc fn a && wfE Γ N sc fn b
  | sc, fn, .chn _ _ a b c _ => wfE Γ N sc fn a && wfE Γ N sc fn b && wfE Γ N sc fn c
  | sc, fn, .ifx c a b _ => wfE Γ N sc fn c && wfE Γ N sc fn a && wfE Γ N sc fn b
  | sc, fn, .ix a i _ => wfE Γ N sc fn a && wfE Γ N sc fn i
  | sc, fn, .sl a lo hi _ _ => wfE Γ N sc fn a && wfEo Γ N sc fn lo && wfEo Γ N sc fn hi
  | sc, fn, .call f n as _ _ => glB sc f && Γ.cal f n as.len && wfEs Γ N sc fn as
  | sc, fn, .bi f as _ _ => glB sc (Str.ofString f.name) && wfEs Γ N sc fn as
  | sc, fn, .mxd gr a d _ _ _ => glB sc (Str.ofString (if gr then "max" else "min")) && wfE Γ N sc fn a && wfE Γ N sc fn d
  | sc, fn, .isi a t _ _ _ => glB sc "isinstance" && glB sc (Str.ofString t.name) && wfE Γ N sc fn a
  | sc, fn, .isl a _ _ _ _ _ _ => glB sc "isinstance" && glB sc "list" && glB sc "tuple" && wfE Γ N sc fn a
  | sc, fn, .lrg a b _ _ _ _ => glB sc "list" && glB sc "range" && wfE Γ N sc fn a && wfE Γ N sc fn b
  | sc, fn, .mt o _ as q p => noCall0 o && wfE Γ N sc fn o && wfEs Γ N sc fn as && (q.endLine == p.line) && decide (as.len < 20)
  | sc, fn, .lc e g it c own scx _ => wfI Γ N sc fn (isTp g) it && blkC N sc scx own && (slots g).all (fun j => (own.map (·.2)).contains j) &&
      wfG Γ N (relab sc scx) (fun x => scx.names.lookup x == some .cell) g && wfEo Γ N (relab sc scx) (fun x => scx.names.lookup x == some .cell) c && wfE Γ N (relab sc scx) (fun x => scx.names.lookup x == some .cell) e
def wfEs (Γ : Tab) (N : List Str) : Scope → (Str → Bool) → Es → Bool
  | _, _, .nil => true
  | sc, fn, .cons e r => wfE Γ N sc fn e && wfEs Γ N sc fn r
def wfEo (Γ : Tab) (N : List Str) : Scope → (Str → Bool) → Eo → Bool
  | _, _, .none => true
  | sc, fn, .some e => wfE Γ N sc fn e
def wfI (Γ : Tab) (N : List Str) : Scope → (Str → Bool) → Bool → I → Bool
  | sc, fn, _, .ex e => wfE Γ N sc fn e
  | sc, fn, _, .rng1 a _ _ => glB sc "range" && wfE Γ N sc fn a
  | sc, fn, _, .rng2 a b _ _ => glB sc "range" && wfE Γ N sc fn a && wfE Γ N sc fn b
  | sc, fn, tp, .enm e _ _ => tp && glB sc "enumerate" && wfE Γ N sc fn e
def wfG (Γ : Tab) (N : List Str) : Scope → (Str → Bool) → G → Bool
  | sc, fn, .nm i x _ => decide (N[i]? = some x) && locB sc fn x
  | sc, fn, .tp gs _ _ => wfGs Γ N sc fn gs
  | sc, fn, .sb o i _ => wfE Γ N sc fn o && wfE Γ N sc fn i
def wfGs (Γ : Tab) (N : List Str) : Scope → (Str → Bool) → Gs → Bool
  | _, _, .nil => true
  | sc, fn, .cons g r => wfG Γ N sc fn g && wfGs Γ N sc fn r
end
/-- which stores are exchanged: none: not served -/
def swKind (sc : Scope) (ts vs : List Expr) : Option (Option (List Str)) :=
  match swappedStores [.Tuple ts 0 ⟨0, 0, 0, 0⟩] (.Tuple vs 0 ⟨0, 0, 0, 0⟩) { scope := sc, locals := 0, globals := 0, cells := [] } with
  | .pure r => some r
  | _ => none
def isLocal (sc : Scope) (x : Str) : Bool := match sc.names.lookup x with | some .local => true | _ => false
def asgOk (sc : Scope) : G → E → Bool
  | .tp gs _ _, .tup es _ _ => match swKind sc (embGs gs) (embEs es) with
    | some none => true
    | some (some ns) => match gs with
      | .cons (.nm i x _) (.cons (.nm j y _) .nil) => decide (ns = [x, y]) && isLocal sc x && isLocal sc y && decide (i ≠ j) && decide (es.len = 2)
      | .cons (.nm i x _) (.cons (.nm j y _) (.cons (.nm l z _) .nil)) => decide (ns = [x, y, z]) && isLocal sc x && isLocal sc y && isLocal sc z && decide (i ≠ j) && decide (i ≠ l) && decide (j ≠ l) && decide (es.len = 3)
      | _ => false
    | none => false
  | _, _ => true
def isLc : E → Bool
  | .lc .. => true
  | _ => false
mutual
def wfT (Γ : Tab) (N : List Str) (sc : Scope) : T → Bool
  | .asg g e _ => wfG Γ N sc (fun _ => true) g && wfE Γ N sc (fun _ => true) e && asgOk sc g e
  | .aug i x _ e _ _ => decide (N[i]? = some x) && locB sc (fun _ => true) x && wfE Γ N sc (fun _ => true) e
  | .ex e _ => !isLc e && wfE Γ N sc (fun _ => true) e
  | .ret e _ => wfE Γ N sc (fun _ => true) e
  | .retN _ => true
  | .iff c a b _ => wfE Γ N sc (fun _ => true) c && wfTs Γ N sc a && wfTs Γ N sc b
  | .fr g it b _ => wfI Γ N sc (fun _ => true) (isTp g) it && wfG Γ N sc (fun _ => true) g && wfTs Γ N sc b
  | .whl c b _ => wfE Γ N sc (fun _ => true) c && wfTs Γ N sc b
  | .brk _ => true
  | .cnt _ => true
  | .pas _ => true
  | .nev _ => true
def wfTs (Γ : Tab) (N : List Str) (sc : Scope) : Ts → Bool
  | .nil => true
  | .cons t r => wfT Γ N sc t && wfTs Γ N sc r
end

/-! ### what it is worth -/
def conD : Const → Option D
  | .none => some .non
  | .bool b => some (.bl b)
  | .int i => some (.int i)
  | .str x => some (.str x)
  | _ => none
/-- what a loop walks: the items, what must stay -/
structure Wk where
  items : List D
  ok : Store → Bool
def wipeD (σ : StD) : List Nat → StD
  | [] => σ
  | v :: vs => (wipeD σ vs).set v none
def rangeD (lo : Int) : Nat → List D
  | 0 => []
  | n + 1 => .int lo :: rangeD (lo + 1) n
def rngD (lo hi : Int) : Option Wk :=
  if -(2 ^ 62) ≤ lo ∧ lo < 2 ^ 62 ∧ -(2 ^ 62) ≤ hi ∧ hi < 2 ^ 62 then some ⟨rangeD lo (hi - lo).toNat, fun _ => true⟩ else none
def enumD (i : Int) : List D → List D
  | [] => []
  | d :: r => .tup [.int i, d] :: enumD (i + 1) r
/-- one turn after the other of a comprehension -/
def lcD (ok : Store → Bool) (g : D → Store → Option (StD × Store)) (c : StD → Store → Option (Bool × Store)) (e : StD → Store → Option (D × Store)) : List D → List D → Store → Option (List D × Store)
  | [], acc, S => if ok S then some (acc, S) else none
  | x :: r, acc, S => if ok S then
      match g x S with
      | some (σ1, S1) => match c σ1 S1 with
        | some (true, S2) => match e σ1 S2 with
          | some (y, S3) => if acc.length < sizeLine then lcD ok g c e r (acc ++ [y]) S3 else none
          | none => none
        | some (false, S2) => lcD ok g c e r acc S2
        | none => none
      | none => none
    else none
/-- one step after another -/
def bnd {α β : Type} (x : Option (α × Store)) (f : α → Store → Option (β × Store)) : Option (β × Store) :=
  match x with
  | some (a, S) => f a S
  | none => none
@[simp] theorem bnd_some {α β : Type} (a : α) (S : Store) (f : α → Store → Option (β × Store)) : bnd (some (a, S)) f = f a S := rfl
@[simp] theorem bnd_none {α β : Type} (f : α → Store → Option (β × Store)) : bnd none f = none := rfl
def opt {α : Type} (x : Option α) (S : Store) : Option (α × Store) :=
  match x with
  | some a => some (a, S)
  | none => none
@[simp] theorem opt_some {α : Type} (a : α) (S : Store) : opt (some a) S = some (a, S) := rfl
@[simp] theorem opt_none {α : Type} (S : Store) : opt (none : Option α) S = none := rfl
structure Ev where
  e : StD → Store → Option (D × Store)
  b : StD → Store → Option (Bool × Store)
/-- a test is the value's truth -/
def plain (f : StD → Store → Option (D × Store)) : Ev := ⟨f, fun σ S => bnd (f σ S) fun d S1 => opt (truthD S1 d) S1⟩
def negD : D → Store → Option (D × Store)
  | .int i, S => some (.int (-i), S)
  | _, _ => none
def notD : D → Store → Option (D × Store)
  | .bl b, S => some (.bl (!b), S)
  | _, _ => none
/-- a and b, a or b, as values: k goes on -/
def bopD (o : BoolOp) (k : Store → Option (D × Store)) : D → Store → Option (D × Store)
  | .bl true, S => match o with
    | .And => k S
    | .Or => some (.bl true, S)
  | .bl false, S => match o with
    | .And => some (.bl false, S)
    | .Or => k S
  | _, _ => none
def bopB (o : BoolOp) (k : Store → Option (Bool × Store)) : Bool → Store → Option (Bool × Store)
  | true, S => match o with
    | .And => k S
    | .Or => some (true, S)
  | false, S => match o with
    | .And => some (false, S)
    | .Or => k S
def iteD {α : Type} (k l : Store → Option (α × Store)) : Bool → Store → Option (α × Store)
  | true, S => k S
  | false, S => l S
def intD : D → Store → Option (Int × Store)
  | .int i, S => some (i, S)
  | _, _ => none
def tupD : D → Option (List D)
  | .tup ds => some ds
  | _ => none
def slotD (σ : StD) (i : Nat) : Option D :=
  match σ[i]? with
  | some (some d) => some d
  | _ => none
mutual
def ev (C : Orc) : E → Ev
  | .con c _ _ => plain fun _ S => opt (conD c) S
  | .var i _ _ => plain fun σ S => opt (slotD σ i) S
  | .glo _ i _ => plain fun _ S => some (.int i, S)
  | .tup es _ _ => plain fun σ S => bnd (evEs C es σ S) fun ds S1 => if ds.length ≤ sizeLine then some (.tup ds, S1) else none
  | .lst es _ => plain fun σ S => bnd (evEs C es σ S) fun ds S1 => if ds.length ≤ sizeLine then some (.loc S1.length, S1 ++ [.lst ds]) else none
  | .dct _ => plain fun _ S => some (.loc S.length, S ++ [.dic []])
  | .op o a b _ => plain fun σ S => bnd ((ev C a).e σ S) fun x S1 => bnd ((ev C b).e σ S1) fun y S2 => opD o x y S2
  | .neg a _ => plain fun σ S => bnd ((ev C a).e σ S) negD
  | .not a _ => ⟨fun σ S => bnd ((ev C a).e σ S) notD, fun σ S => bnd ((ev C a).b σ S) fun b S1 => some (!b, S1)⟩
  | .bop o es _ => ⟨evBop C o es, evBB C o es⟩
  | .cmp o a b _ => ⟨fun σ S => bnd ((ev C a).e σ S) fun x S1 => bnd ((ev C b).e σ S1) fun y S2 => bnd (opt (cmpD o x y S2) S2) fun k S3 => some (gc S (.bl k) S3),
      fun σ S => bnd ((ev C a).e σ S) fun x S1 => bnd ((ev C b).e σ S1) fun y S2 => bnd (opt (cmpD o x y S2) S2) fun k S3 => some (k, (gc S (.bl k) S3).2)⟩
  | .chn o q a b c _ => ⟨fun σ S => bnd ((ev C a).e σ S) fun x S1 => bnd ((ev C b).e σ S1) fun y S2 => bnd (opt (cmpD o x y S2) S2) (iteD (fun S3 => bnd ((ev C c).e σ S3) fun z S4 => opt ((cmpD q y z S4).map .bl) S4) (fun S3 => some (.bl false, S3))),
      fun σ S => bnd ((ev C a).e σ S) fun x S1 => bnd ((ev C b).e σ S1) fun y S2 => bnd (opt (cmpD o x y S2) S2) (iteD (fun S3 => bnd ((ev C c).e σ S3) fun z S4 => opt (cmpD q y z S4) S4) (fun S3 => some (false, S3)))⟩
  | .ifx c a b _ => ⟨fun σ S => bnd ((ev C c).b σ S) (iteD ((ev C a).e σ) ((ev C b).e σ)), fun σ S => bnd ((ev C c).b σ S) (iteD ((ev C a).b σ) ((ev C b).b σ))⟩
  | .ix a i _ => plain fun σ S => bnd ((ev C a).e σ S) fun x S1 => bnd ((ev C i).e σ S1) fun y S2 => bnd (opt (ixD x y S2) S2) fun z S3 => some (gc S z S3)
  | .sl a lo hi _ _ => plain fun σ S => bnd ((ev C a).e σ S) fun x S1 => bnd (evEo C lo σ S1) fun l S2 => bnd (evEo C hi σ S2) fun h S3 => slD x l h S3
  | .call _ n as _ _ => plain fun σ S => bnd (evEs C as σ S) fun ds S1 => bnd (C n ds S1) fun d S2 => some (gc S d S2)
  | .bi f as _ _ => plain fun σ S => bnd (evEs C as σ S) fun ds S1 => bnd (biD f ds S1) fun d S2 => some (gc S d S2)
  | .mxd gr a d _ _ _ => plain fun σ S => bnd ((ev C a).e σ S) fun x S1 => bnd ((ev C d).e σ S1) fun y S2 => bnd (opt (maxD gr x y S2) S2) fun z S3 => some (gc S z S3)
  | .isi a t _ _ _ => plain fun σ S => bnd ((ev C a).e σ S) fun x S1 => bnd (opt (tyD S1 x) S1) fun n S2 => some (gc S (.bl (isaD n t)) S2)
  | .isl a _ _ _ _ _ _ => plain fun σ S => bnd ((ev C a).e σ S) fun x S1 => bnd (opt (tyD S1 x) S1) fun n S2 => some (gc S (.bl (isaD n .list || isaD n .tuple)) S2)
  | .lrg a b _ _ _ _ => plain fun σ S => bnd (bnd ((ev C a).e σ S) intD) fun i S1 => bnd (bnd ((ev C b).e σ S1) intD) fun j S2 => bnd (opt (rngD i j) S2) fun w S3 =>
      if w.items.length ≤ 2 ^ 24 then some (.loc S3.length, S3 ++ [.lst w.items]) else none
  | .mt o m as _ _ => plain fun σ S => bnd ((ev C o).e σ S) fun x S1 => if recvD m x S1 then bnd (evEs C as σ S1) fun ds S2 => bnd (mtD m x ds S2) fun d S3 => some (gc S d S3) else none
  | .lc e g it c own _ _ => plain fun σ S => bnd (evI C it σ S) fun w S1 =>
      bnd (lcD w.ok (fun x T => evG C g x (wipeD σ (own.map (·.2))) T) (evIf C c) ((ev C e).e) w.items [] S1) fun ds S2 => some (.loc S2.length, S2 ++ [.lst ds])
def evBop (C : Orc) (o : BoolOp) : Es → StD → Store → Option (D × Store)
  | .nil, _, _ => none
  | .cons a r, σ, S => match r with
    | .nil => (ev C a).e σ S
    | .cons _ _ => bnd ((ev C a).e σ S) (bopD o fun S1 => evBop C o r σ S1)
def evBB (C : Orc) (o : BoolOp) : Es → StD → Store → Option (Bool × Store)
  | .nil, _, _ => none
  | .cons a r, σ, S => match r with
    | .nil => (ev C a).b σ S
    | .cons _ _ => bnd ((ev C a).b σ S) (bopB o fun S1 => evBB C o r σ S1)
def evEs (C : Orc) : Es → StD → Store → Option (List D × Store)
  | .nil, _, S => some ([], S)
  | .cons e r, σ, S => bnd ((ev C e).e σ S) fun d S1 => bnd (evEs C r σ S1) fun ds S2 => some (d :: ds, S2)
def evEo (C : Orc) : Eo → StD → Store → Option (Option Int × Store)
  | .none, _, S => some (none, S)
  | .some e, σ, S => bnd (bnd ((ev C e).e σ S) intD) fun i S1 => some (some i, S1)
def evIf (C : Orc) : Eo → StD → Store → Option (Bool × Store)
  | .none, _, S => some (true, S)
  | .some e, σ, S => (ev C e).b σ S
def evI (C : Orc) : I → StD → Store → Option (Wk × Store)
  | .ex e, σ, S => bnd ((ev C e).e σ S) fun d S1 => bnd (opt (seqOf S1 d) S1) fun ds S2 => some (⟨ds, stays d ds⟩, S2)
  | .rng1 a _ _, σ, S => bnd (bnd ((ev C a).e σ S) intD) fun i S1 => opt (rngD 0 i) S1
  | .rng2 a b _ _, σ, S => bnd (bnd ((ev C a).e σ S) intD) fun i S1 => bnd (bnd ((ev C b).e σ S1) intD) fun j S2 => opt (rngD i j) S2
  | .enm e _ _, σ, S => bnd ((ev C e).e σ S) fun d S1 => bnd (opt (seqOf S1 d) S1) fun ds S2 => some (⟨enumD 0 ds, stays d ds⟩, S2)
def evG (C : Orc) : G → D → StD → Store → Option (StD × Store)
  | .nm i _ _, v, σ, S => some (σ.set i (some v), S)
  | .tp gs _ _, v, σ, S => bnd (opt (seqOf S v) S) fun ds S1 => evGs C gs ds σ S1
  | .sb o i _, v, σ, S => bnd ((ev C o).e σ S) fun x S1 => bnd ((ev C i).e σ S1) fun y S2 => match setD x y v S2 with
    | some S3 => some (σ, S3)
    | none => none
def evGs (C : Orc) : Gs → List D → StD → Store → Option (StD × Store)
  | .nil, vs, σ, S => match vs with
    | [] => some (σ, S)
    | _ => none
  | .cons g r, vs, σ, S => match vs with
    | v :: ws => bnd (evG C g v σ S) fun σ1 S1 => evGs C r ws σ1 S1
    | [] => none
end
inductive Fl where
  | next (σ : StD) | brk (σ : StD) | cnt (σ : StD) | ret (d : D)
def forD (ok : Store → Bool) (g : D → StD → Store → Option (StD × Store)) (b : StD → Store → Option (Fl × Store)) : List D → StD → Store → Option (Fl × Store)
  | [], σ, S => if ok S then some (.next σ, S) else none
  | x :: r, σ, S => if ok S then
      match g x σ S with
      | some (σ1, S1) => match b σ1 S1 with
        | some (.next σ2, S2) => forD ok g b r σ2 S2
        | some (.cnt σ2, S2) => forD ok g b r σ2 S2
        | some (.brk σ2, S2) => some (.next σ2, S2)
        | some (.ret d, S2) => some (.ret d, S2)
        | none => none
      | none => none
    else none
def whlD (c : StD → Store → Option (Bool × Store)) (b : StD → Store → Option (Fl × Store)) : Nat → StD → Store → Option (Fl × Store)
  | 0, _, _ => none
  | n + 1, σ, S => match c σ S with
    | some (true, S1) => match b σ S1 with
      | some (.next σ2, S2) => whlD c b n σ2 S2
      | some (.cnt σ2, S2) => whlD c b n σ2 S2
      | some (.brk σ2, S2) => some (.next σ2, S2)
      | some (.ret d, S2) => some (.ret d, S2)
      | none => none
    | some (false, S1) => some (.next σ, S1)
    | none => none
/-- how many turns a while may take -/
def turns : Nat := 2 ^ 40
def augD (o : Operator) : D → D → Option D
  | .int a, .int b => match o with
    | .Add => some (.int (a + b))
    | .Sub => some (.int (a - b))
    | _ => none
  | _, _ => none
mutual
def evT (C : Orc) : T → StD → Store → Option (Fl × Store)
  | .asg g e _, σ, S => bnd ((ev C e).e σ S) fun d S1 => bnd (evG C g d σ S1) fun σ1 S2 => some (.next σ1, S2)
  | .aug i _ o e _ _, σ, S => bnd (opt (slotD σ i) S) fun x S1 => bnd ((ev C e).e σ S1) fun y S2 => bnd (opt (augD o x y) S2) fun z S3 => some (.next (σ.set i (some z)), S3)
  | .ex e _, σ, S => bnd ((ev C e).e σ S) fun _ S1 => some (.next σ, (gc S .non S1).2)
  | .ret e _, σ, S => bnd ((ev C e).e σ S) fun d S1 => some (.ret d, S1)
  | .retN _, _, S => some (.ret .non, S)
  | .iff c a b _, σ, S => bnd ((ev C c).b σ S) (iteD (evTs C a σ) (evTs C b σ))
  | .fr g it b _, σ, S => bnd (evI C it σ S) fun w S1 => forD w.ok (evG C g) (evTs C b) w.items σ S1
  | .whl c b _, σ, S => whlD ((ev C c).b) (evTs C b) turns σ S
  | .brk _, σ, S => some (.brk σ, S)
  | .cnt _, σ, S => some (.cnt σ, S)
  | .pas _, σ, S => some (.next σ, S)
  | .nev _, _, _ => none
def evTs (C : Orc) : Ts → StD → Store → Option (Fl × Store)
  | .nil, σ, S => some (.next σ, S)
  | .cons t r, σ, S => bnd (evT C t σ S) fun f S1 => match f with
    | .next σ1 => evTs C r σ1 S1
    | .brk σ1 => some (.brk σ1, S1)
    | .cnt σ1 => some (.cnt σ1, S1)
    | .ret d => some (.ret d, S1)
end
end Mi

end

section
/-! MiT: tuples that are laid and known to the object. -/
namespace Mi
open PySem PySem.Spec L2
/-- a tuple that is known to the object, and has no dict of its own -/
def TupAt (H : Hp) (a : Addr) (vs : List V) : Prop := ∃ o, H a = some (.frz o (.tup vs)) ∧ o.dict = none
theorem TupAt.sq {K : PySem.W.Frag} {H : Hp} {a : Addr} {vs : List V} (h : TupAt H a vs) : SqT K H a vs := let ⟨o, e, _⟩ := h; .inl (.inr ⟨o, e⟩)
theorem TupAt.new {H : Hp} {a : Addr} {vs : List V} {o : Obj} (h : o.dict = none) : TupAt (upd H a (.frz o (.tup vs))) a vs := ⟨o, upd_same, h⟩
section
variable {X : Cx}
theorem Inv.tupF {pins : List (Addr × Obj)} {σ : L2.St} {H : Hp} {s : Shared} (I : L2.Inv X pins σ H s) {xs : List V} {us : List Value} (r : Vals xs us) (hz : xs.length ≤ sizeLine) :
    L2.Inv X pins σ (upd H s.heap.objs.size (.frz { cls := .type "tuple", data := .seq us.toArray } (.tup xs))) { s with heap := s.heap.push { cls := .type "tuple", data := .seq us.toArray } } :=
  I.laid (t' := s.toks) (fun b u e => Heap.get?_push_of_some _ e) (Nat.le_refl _) ⟨Heap.get?_push_size _ rfl, hz, us, r, ⟨_, Heap.get?_push_size _ rfl, rfl, _, rfl⟩⟩
def NewT (H : Hp) (xs : List V) (Q : VK) : Prop := ∀ p o, H p = none → o.dict = none → Q (.ref p) (upd H p (.frz o (.tup xs)))
theorem pe_tupF {es : List Expr} {t : TA} {k : Nat} {pos : Pos} (h : PA X es t) : PE X (.Tuple es k pos) (fun σ H Q => t σ H fun xs H1 => xs.length ≤ sizeLine ∧ NewT H1 xs Q) := by
  refine ⟨fun pins s σ H Q I hq => ?_⟩
  refine wpAny_Tuple_spliced (thn (h.run pos pins s σ H _ I hq) fun us s1 ⟨xs, H1, I1, r, z, q⟩ => ⟨by rw [← r.length]; exact z, ?_⟩)
  exact ⟨.ref s1.heap.objs.size, _, Inv.tupF I1 r z, rfl, q _ _ (I1.hok.fresh (Nat.le_refl _)) rfl⟩
theorem op_catF : OpR X (binaryOp .Add) (fun x y H Q => ∃ a b xs ys, x = .ref a ∧ y = .ref b ∧ SqT X.K H a xs ∧ SqT X.K H b ys ∧ xs.length + ys.length ≤ sizeLine ∧
    (xs = [] → Q (.ref b) H) ∧ (xs ≠ [] → ys = [] → Q (.ref a) H) ∧ (xs ≠ [] → ys ≠ [] → NewT H (xs ++ ys) Q)) := by
  intro pins s σ H x y v u Q I rx ry ⟨a, b, xs, ys, e1, e2, ha, hb, hz, q0, q1, q2⟩
  subst e1 e2
  cases rx
  cases ry
  obtain ⟨its, r1, p1, _⟩ := I.tuple ha
  obtain ⟨its2, r2, p2, _⟩ := I.tuple hb
  by_cases hx : xs = []
  · subst hx
    cases r1
    exact cat_tup0 p1 p2 ⟨.ref b, H, I, rfl, q0 rfl⟩
  · refine HT.cat_tup p1 p2 (fun z => hx (r1.nil_iff.mp z)) (fun z => ⟨.ref a, H, I, rfl, q1 hx (r2.nil_iff.mp z)⟩) (fun z => ?_) (by rw [← r1.length, ← r2.length]; exact hz)
    exact ⟨.ref s.heap.objs.size, _, Inv.tupF I (r1.append r2) (by rw [List.length_append]; exact hz), rfl, q2 hx (fun w => z (r2.nil_iff.mpr w)) _ _ (I.hok.fresh (Nat.le_refl _)) rfl⟩
theorem sl_tupF : SlR X (fun x lo hi H Q => ∃ a xs, x = .ref a ∧ SqT X.K H a xs ∧ (HT.sIx xs.length 0 lo = 0 ∧ HT.sIx xs.length xs.length hi = xs.length → Q (.ref a) H) ∧
    (¬ (HT.sIx xs.length 0 lo = 0 ∧ HT.sIx xs.length xs.length hi = xs.length) → NewT H (cutV xs lo hi) Q)) := by
  intro pins s σ H x v vl vu lo hi sl Q I rx hs pl pu ⟨a, xs, e1, hx, q1, q2⟩
  subst e1
  cases rx
  obtain ⟨its, r, ht, hz⟩ := I.tuple hx
  have hlen : its.toArray.size = xs.length := by rw [List.size_toArray]; exact r.length.symm
  refine ⟨"tuple", _, PyProof.Rows.slot_tuple_getitem.lookup, ht.typeIs, ?_⟩
  by_cases hw : HT.sIx xs.length 0 lo = 0 ∧ HT.sIx xs.length xs.length hi = xs.length
  · exact getItem_tuple_whole ht hs pl pu (by rw [hlen]; exact hw) ⟨.ref a, H, I, rfl, q1 hw⟩
  · refine HT.getItem_tuple_cut ht hs pl pu (by rw [hlen]; exact hw) ?_ (by rw [hlen]; exact hz)
    rw [hlen]
    exact ⟨.ref s.heap.objs.size, _, Inv.tupF I ((r.drop (HT.sIx xs.length 0 lo)).take (HT.sIx xs.length xs.length hi - HT.sIx xs.length 0 lo)) (Nat.le_trans (cutV_length xs lo hi) hz), rfl, q2 hw _ _ (I.hok.fresh (Nat.le_refl _)) rfl⟩
theorem call_tupleF : CallR X (.type "tuple") (fun xs H Q => ∃ p ys, xs = [.ref p] ∧ ((SqL X.K H p ys ∧ NewT H ys Q) ∨ (SqT X.K H p ys ∧ Q (.ref p) H))) := by
  intro pins s σ H xs us Q I r ⟨p, ys, e1, h⟩
  subst e1
  obtain ⟨u, rfl, rx⟩ := vals1 r
  cases rx
  rcases h with ⟨hq, q⟩ | ⟨hq, q⟩
  · obtain ⟨its, r', pl, hz⟩ := I.list hq
    have hlen := r'.length
    refine call_tuple_list pl.isList (fun h' kp => ?_) (by simp only [List.size_toArray] <;> omega)
    have I1 : L2.Inv X pins σ H { s with heap := h' } := I.kept (t' := s.toks) kp
    exact ⟨.ref h'.objs.size, _, Inv.tupF I1 r' hz, rfl, q _ _ (I1.hok.fresh (Nat.le_refl _)) rfl⟩
  · obtain ⟨its, r', pl, hz⟩ := I.tuple hq
    exact call_tuple_same pl ⟨.ref p, H, I, rfl, q⟩
end
end Mi

end

section
/-! Mi2: data in the abstract heap. -/
namespace Mi
open PySem PySem.Spec L2

/-- a list that is never written: locked, or of the written part -/
def RoAt (K : PySem.W.Frag) (H : Hp) (a : Addr) (vs : List V) : Prop :=
  (∃ o, H a = some (.frz o (.lst vs))) ∨ ∃ (o : Obj) (its : Array Value) (n : Nat), K.lookup a = some o ∧ o.cls = .type "list" ∧ o.dict = none ∧ o.data = .seq its n ∧ its.size ≤ sizeLine ∧ Vals vs its.toList
theorem RoAt.sq {K : PySem.W.Frag} {H : Hp} {a : Addr} {vs : List V} (h : RoAt K H a vs) : SqL K H a vs := by
  rcases h with h | h
  · exact .inl (.inr h)
  · exact .inr h
mutual
def Rep (K : PySem.W.Frag) (H : Hp) (ρ : List Addr) : D → V → Prop
  | .non, v => v = .non
  | .bl b, v => v = .bl b
  | .int i, v => v = .int i
  | .str x, v => v = .str x
  | .tup ds, v => ∃ a vs, v = .ref a ∧ TupAt H a vs ∧ RepL K H ρ ds vs
  | .ro ds, v => ∃ a vs, v = .ref a ∧ RoAt K H a vs ∧ RepL K H ρ ds vs
  | .loc n, v => ∃ a, v = .ref a ∧ ρ[n]? = some a
def RepL (K : PySem.W.Frag) (H : Hp) (ρ : List Addr) : List D → List V → Prop
  | [], vs => vs = []
  | d :: ds, vs => ∃ v r, vs = v :: r ∧ Rep K H ρ d v ∧ RepL K H ρ ds r
end
def ObjRep (K : PySem.W.Frag) (H : Hp) (ρ : List Addr) (a : Addr) : MO → Prop
  | .lst ds => ∃ vs, H a = some (.lst vs) ∧ RepL K H ρ ds vs
  | .dic kvs => ∃ ws, H a = some (.dK ws) ∧ ws.map (·.1) = kvs.map (·.1) ∧ RepL K H ρ (kvs.map (·.2)) (ws.map (·.2))
  | .dit kvs => ∃ ws, H a = some (.dT ws) ∧ ws.map (·.1) = kvs.map (·.1) ∧ RepL K H ρ (kvs.map (·.2)) (ws.map (·.2))
structure HRep (K : PySem.W.Frag) (H : Hp) (ρ : List Addr) (S : Store) : Prop where
  len : ρ.length = S.length
  nd : ρ.Nodup
  ob : ∀ (n : Nat) (mo : MO) (a : Addr), S[n]? = some mo → ρ[n]? = some a → ObjRep K H ρ a mo
structure Ext (H : Hp) (ρ : List Addr) (H' : Hp) (ρ' : List Addr) : Prop where
  pre : ∃ τ, ρ' = ρ ++ τ
  new : ∀ b, b ∈ ρ' → b ∉ ρ → H b = none
  keep : ∀ b o, b ∉ ρ → H b = some o → H' b = some o
structure Cor (K : PySem.W.Frag) (H : Hp) (ρ : List Addr) (σ : St) (σD : StD) (S : Store) : Prop where
  len : σ.length = σD.length
  st : ∀ (i : Nat) (d : D), σD[i]? = some (some d) → ∃ v, σ[i]? = some (some v) ∧ Rep K H ρ d v
  hp : HRep K H ρ S

section
variable {K : PySem.W.Frag} {H H' H1 H2 : Hp} {ρ ρ' ρ1 ρ2 : List Addr} {S S' : Store} {σ : St} {σD : StD}
theorem Ext.refl : Ext H ρ H ρ := ⟨⟨[], by simp⟩, fun b h n => absurd h n, fun _ _ _ h => h⟩
theorem Ext.trans (a : Ext H ρ H1 ρ1) (b : Ext H1 ρ1 H2 ρ2) : Ext H ρ H2 ρ2 := by
  obtain ⟨τ, e⟩ := a.pre
  obtain ⟨τ', e'⟩ := b.pre
  have kp : ∀ c o, c ∉ ρ → H c = some o → c ∉ ρ1 := fun c o n h m => by
    have := a.new c m n
    rw [h] at this; cases this
  refine ⟨⟨τ ++ τ', by rw [e', e, List.append_assoc]⟩, fun c m n => ?_, fun c o n h => b.keep c o (kp c o n h) (a.keep c o n h)⟩
  by_cases m1 : c ∈ ρ1
  · exact a.new c m1 n
  · have h1 := b.new c m m1
    cases q : H c with
    | none => rfl
    | some o => rw [a.keep c o n q] at h1; cases h1
theorem HRep.has (h : HRep K H ρ S) {a : Addr} (m : a ∈ ρ) : ∃ (n : Nat) (mo : MO), S[n]? = some mo ∧ ρ[n]? = some a ∧ ObjRep K H ρ a mo := by
  obtain ⟨n, hn, e⟩ := List.mem_iff_getElem.mp m
  have hS : n < S.length := by rw [← h.len]; exact hn
  have e1 : S[n]? = some S[n] := List.getElem?_eq_getElem hS
  have e2 : ρ[n]? = some a := by rw [List.getElem?_eq_getElem hn, e]
  exact ⟨n, _, e1, e2, h.ob n _ a e1 e2⟩
theorem ObjRep.isMut {a : Addr} {mo : MO} (h : ObjRep K H ρ a mo) : ∃ o, H a = some o ∧ Mut (some o) := by
  cases mo with
  | lst ds => obtain ⟨vs, e, _⟩ := h; exact ⟨_, e, trivial⟩
  | dic ds => obtain ⟨vs, e, _⟩ := h; exact ⟨_, e, trivial⟩
  | dit ds => obtain ⟨vs, e, _⟩ := h; exact ⟨_, e, trivial⟩
theorem HRep.notin (h : HRep K H ρ S) {a : Addr} {o : HO} (e : H a = some o) (nm : ¬ Mut (some o)) : a ∉ ρ := fun m => by
  obtain ⟨n, mo, _, _, r⟩ := h.has m
  obtain ⟨u, eu, mu⟩ := r.isMut
  rw [e] at eu; cases eu
  exact nm mu
theorem HRep.free (h : HRep K H ρ S) {a : Addr} (e : H a = none) : a ∉ ρ := fun m => by
  obtain ⟨n, mo, _, _, r⟩ := h.has m
  obtain ⟨u, eu, mu⟩ := r.isMut
  rw [e] at eu; cases eu
theorem Ext.ix (x : Ext H ρ H' ρ') {n : Nat} {a : Addr} (e : ρ[n]? = some a) : ρ'[n]? = some a := by
  obtain ⟨τ, rfl⟩ := x.pre
  rw [List.getElem?_append_left (List.getElem?_eq_some_iff.mp e).1]
  exact e
theorem TupAt.ext (hp : HRep K H ρ S) (x : Ext H ρ H' ρ') {a : Addr} {vs : List V} (h : TupAt H a vs) : TupAt H' a vs := by
  obtain ⟨o, h, n⟩ := h
  exact ⟨o, x.keep _ _ (hp.notin h fun z => z) h, n⟩
theorem RoAt.ext (hp : HRep K H ρ S) (x : Ext H ρ H' ρ') {a : Addr} {vs : List V} (h : RoAt K H a vs) : RoAt K H' a vs := by
  rcases h with ⟨o, h⟩ | h
  · exact .inl ⟨o, x.keep _ _ (hp.notin h fun z => z) h⟩
  · exact .inr h
mutual
theorem Ext.rep (hp : HRep K H ρ S) (x : Ext H ρ H' ρ') : ∀ (d : D) (v : V), Rep K H ρ d v → Rep K H' ρ' d v
  | .non, v, h => h
  | .bl b, v, h => h
  | .int i, v, h => h
  | .str y, v, h => h
  | .tup ds, v, h => by
    obtain ⟨a, vs, e, q, r⟩ := h
    exact ⟨a, vs, e, q.ext hp x, Ext.repL hp x ds vs r⟩
  | .ro ds, v, h => by
    obtain ⟨a, vs, e, q, r⟩ := h
    exact ⟨a, vs, e, q.ext hp x, Ext.repL hp x ds vs r⟩
  | .loc n, v, h => by
    obtain ⟨a, e, q⟩ := h
    exact ⟨a, e, x.ix q⟩
theorem Ext.repL (hp : HRep K H ρ S) (x : Ext H ρ H' ρ') : ∀ (ds : List D) (vs : List V), RepL K H ρ ds vs → RepL K H' ρ' ds vs
  | [], vs, h => h
  | d :: ds, vs, h => by
    obtain ⟨v, r, e, h1, h2⟩ := h
    exact ⟨v, r, e, Ext.rep hp x d v h1, Ext.repL hp x ds r h2⟩
end
theorem Cor.ext (c : Cor K H ρ σ σD S) (x : Ext H ρ H' ρ') (hp : HRep K H' ρ' S') : Cor K H' ρ' σ σD S' :=
  ⟨c.len, fun i d e => let ⟨v, h1, h2⟩ := c.st i d e; ⟨v, h1, x.rep c.hp d v h2⟩, hp⟩
theorem RepL.length : ∀ {ds : List D} {vs : List V}, RepL K H ρ ds vs → ds.length = vs.length
  | [], vs, h => by cases h; rfl
  | d :: ds, vs, h => by
    obtain ⟨v, r, e, _, h2⟩ := h
    rw [e, List.length_cons, List.length_cons, RepL.length h2]
theorem RepL.get : ∀ {ds : List D} {vs : List V} {i : Nat} {d : D}, RepL K H ρ ds vs → ds[i]? = some d → ∃ v, vs[i]? = some v ∧ Rep K H ρ d v
  | [], _, _, _, _, e => by simp at e
  | x :: ds, vs, 0, d, h, e => by
    obtain ⟨v, r, q, h1, _⟩ := h
    have e' : x = d := Option.some.inj e
    subst e' q
    exact ⟨v, rfl, h1⟩
  | x :: ds, vs, i + 1, d, h, e => by
    obtain ⟨v, r, q, _, h2⟩ := h
    subst q
    exact RepL.get (i := i) h2 e
theorem RepL.append : ∀ {ds es : List D} {vs ws : List V}, RepL K H ρ ds vs → RepL K H ρ es ws → RepL K H ρ (ds ++ es) (vs ++ ws)
  | [], _, vs, ws, h, h' => by cases h; exact h'
  | d :: ds, es, vs, ws, h, h' => by
    obtain ⟨v, r, e, h1, h2⟩ := h
    subst e
    exact ⟨v, r ++ ws, rfl, h1, RepL.append h2 h'⟩
theorem RepL.take : ∀ (n : Nat) {ds : List D} {vs : List V}, RepL K H ρ ds vs → RepL K H ρ (ds.take n) (vs.take n)
  | 0, _, _, _ => by simp [RepL]
  | n + 1, [], vs, h => by cases h; simp [RepL]
  | n + 1, d :: ds, vs, h => by
    obtain ⟨v, r, e, h1, h2⟩ := h
    subst e
    exact ⟨v, _, rfl, h1, RepL.take n h2⟩
theorem RepL.drop : ∀ (n : Nat) {ds : List D} {vs : List V}, RepL K H ρ ds vs → RepL K H ρ (ds.drop n) (vs.drop n)
  | 0, _, _, h => h
  | n + 1, [], vs, h => by cases h; simp [RepL]
  | n + 1, d :: ds, vs, h => by
    obtain ⟨v, r, e, h1, h2⟩ := h
    subst e
    exact RepL.drop n h2
theorem RepL.set : ∀ (n : Nat) {ds : List D} {vs : List V} {d : D} {v : V}, RepL K H ρ ds vs → Rep K H ρ d v → RepL K H ρ (ds.set n d) (vs.set n v)
  | _, [], vs, _, _, h, _ => by cases h; simp [RepL]
  | 0, x :: ds, vs, d, v, h, h' => by
    obtain ⟨y, r, e, h1, h2⟩ := h
    subst e
    exact ⟨v, r, rfl, h', h2⟩
  | n + 1, x :: ds, vs, d, v, h, h' => by
    obtain ⟨y, r, e, h1, h2⟩ := h
    subst e
    exact ⟨y, _, rfl, h1, RepL.set n h2 h'⟩
theorem RepL.cut (lo hi : Option Int) {ds : List D} {vs : List V} (h : RepL K H ρ ds vs) : RepL K H ρ (cut ds lo hi) (cutV vs lo hi) := by
  unfold Mi.cut cutV
  rw [h.length]
  exact (h.drop _).take _
theorem RepL.dropLast {ds : List D} {vs : List V} (h : RepL K H ρ ds vs) : RepL K H ρ ds.dropLast vs.dropLast := by
  rw [List.dropLast_eq_take, List.dropLast_eq_take, h.length]
  exact h.take _
theorem RepL.map_loc {ds : List D} {vs : List V} (h : RepL K H ρ ds vs) : True := trivial

/-! ### new objects, writes -/
theorem Ext.newT (hp : HRep K H ρ S) {p : Addr} {o : HO} (hn : H p = none) : Ext H ρ (upd H p o) ρ :=
  ⟨⟨[], by simp⟩, fun b h n => absurd h n, fun b u n h => by rw [upd_ne (ne_of_none h hn)]; exact h⟩
theorem Ext.newL (hp : HRep K H ρ S) {p : Addr} {o : HO} (hn : H p = none) : Ext H ρ (upd H p o) (ρ ++ [p]) :=
  ⟨⟨[p], rfl⟩, fun b h n => by
    rcases List.mem_append.mp h with m | m
    · exact absurd m n
    · have e : b = p := by simpa using m
      rw [e]; exact hn, fun b u n h => by rw [upd_ne (ne_of_none h hn)]; exact h⟩
theorem ObjRep.ext (hp : HRep K H ρ S) (x : Ext H ρ H' ρ') {a : Addr} {mo : MO} (same : H' a = H a) (h : ObjRep K H ρ a mo) : ObjRep K H' ρ' a mo := by
  cases mo with
  | lst ds => obtain ⟨vs, e, r⟩ := h; exact ⟨vs, same.trans e, x.repL hp _ _ r⟩
  | dic ds => obtain ⟨vs, e, q, r⟩ := h; exact ⟨vs, same.trans e, q, x.repL hp _ _ r⟩
  | dit ds => obtain ⟨vs, e, q, r⟩ := h; exact ⟨vs, same.trans e, q, x.repL hp _ _ r⟩
theorem HRep.newT (hp : HRep K H ρ S) {p : Addr} {o : HO} (hn : H p = none) : HRep K (upd H p o) ρ S :=
  ⟨hp.len, hp.nd, fun n mo a e1 e2 => by
    have r := hp.ob n mo a e1 e2
    obtain ⟨u, eu, _⟩ := r.isMut
    exact r.ext hp (Ext.newT hp hn) (upd_ne (ne_of_none eu hn))⟩
theorem HRep.newL (hp : HRep K H ρ S) {p : Addr} {o : HO} {mo : MO} (hn : H p = none) (h : ObjRep K (upd H p o) (ρ ++ [p]) p mo) : HRep K (upd H p o) (ρ ++ [p]) (S ++ [mo]) := by
  have hf := hp.free hn
  refine ⟨by simp [hp.len], ?_, fun n m a e1 e2 => ?_⟩
  · rw [List.nodup_append]
    exact ⟨hp.nd, by simp, fun a ha b hb => by
      have : b = p := by simpa using hb
      intro e; subst e; subst this; exact hf ha⟩
  · by_cases hl : n < S.length
    · rw [List.getElem?_append_left hl] at e1
      rw [List.getElem?_append_left (by rw [hp.len]; exact hl)] at e2
      have r := hp.ob n m a e1 e2
      obtain ⟨u, eu, _⟩ := r.isMut
      exact r.ext hp (Ext.newL hp hn) (upd_ne (ne_of_none eu hn))
    · have hb := (List.getElem?_eq_some_iff.mp e1).1
      simp at hb
      have en : n = S.length := by omega
      subst en
      rw [List.getElem?_append_right (Nat.le_refl _), Nat.sub_self] at e1
      rw [← hp.len, List.getElem?_append_right (Nat.le_refl _), Nat.sub_self] at e2
      have e1' : mo = m := Option.some.inj e1
      have e2' : p = a := Option.some.inj e2
      subst e1' e2'
      exact h
theorem HRep.newLst (hp : HRep K H ρ S) {p : Addr} {ds : List D} {vs : List V} (hn : H p = none) (r : RepL K H ρ ds vs) : HRep K (upd H p (.lst vs)) (ρ ++ [p]) (S ++ [.lst ds]) :=
  hp.newL hn ⟨vs, upd_same, (Ext.newL hp hn).repL hp _ _ r⟩
theorem HRep.newLoc (hp : HRep K H ρ S) {p : Addr} {o : HO} : Rep K (upd H p o) (ρ ++ [p]) (.loc S.length) (.ref p) := by
  refine ⟨p, rfl, ?_⟩
  rw [← hp.len, List.getElem?_append_right (Nat.le_refl _), Nat.sub_self]
  rfl
theorem Ext.write (hp : HRep K H ρ S) {n : Nat} {a : Addr} {o : HO} (ha : ρ[n]? = some a) : Ext H ρ (upd H a o) ρ :=
  ⟨⟨[], by simp⟩, fun b h n => absurd h n, fun b u m h => by
    rw [upd_ne (fun e => m (by rw [e]; exact List.mem_of_getElem? ha))]; exact h⟩
theorem HRep.write (hp : HRep K H ρ S) {n : Nat} {a : Addr} {o : HO} {mo : MO} (ha : ρ[n]? = some a) (h : ObjRep K (upd H a o) ρ a mo) : HRep K (upd H a o) ρ (S.set n mo) := by
  refine ⟨by simp [hp.len], hp.nd, fun m q b e1 e2 => ?_⟩
  by_cases hm : n = m
  · subst hm
    rw [ha] at e2; cases e2
    have hl : n < S.length := by rw [← hp.len]; exact (List.getElem?_eq_some_iff.mp ha).1
    rw [List.getElem?_set_self hl] at e1
    cases e1
    exact h
  · rw [List.getElem?_set_ne hm] at e1
    have r := hp.ob m q b e1 e2
    have nb : b ≠ a := fun e => by
      subst e
      obtain ⟨l1, g1⟩ := List.getElem?_eq_some_iff.mp ha
      obtain ⟨l2, g2⟩ := List.getElem?_eq_some_iff.mp e2
      exact hm ((List.getElem_inj hp.nd).mp (g1.trans g2.symm))
    exact r.ext hp (Ext.write hp ha) (upd_ne nb)

/-! ### letting go -/
mutual
theorem Rep.pure_any {τ : List Addr} : ∀ (d : D) (v : V), D.pure d = true → Rep K H ρ d v → Rep K H τ d v
  | .non, v, _, h => h
  | .bl b, v, _, h => h
  | .int i, v, _, h => h
  | .str y, v, _, h => h
  | .tup ds, v, p, h => by
    obtain ⟨a, vs, e, q, r⟩ := h
    exact ⟨a, vs, e, q, Rep.pure_anyL ds vs (by simpa [D.pure] using p) r⟩
  | .ro ds, v, p, h => by
    obtain ⟨a, vs, e, q, r⟩ := h
    exact ⟨a, vs, e, q, Rep.pure_anyL ds vs (by simpa [D.pure] using p) r⟩
  | .loc n, v, p, h => by simp [D.pure] at p
theorem Rep.pure_anyL {τ : List Addr} : ∀ (ds : List D) (vs : List V), D.pureL ds = true → RepL K H ρ ds vs → RepL K H τ ds vs
  | [], vs, _, h => h
  | d :: ds, vs, p, h => by
    obtain ⟨v, r, e, h1, h2⟩ := h
    simp only [D.pureL, Bool.and_eq_true] at p
    exact ⟨v, r, e, Rep.pure_any d v p.1 h1, Rep.pure_anyL ds r p.2 h2⟩
end
mutual
theorem Rep.shrink {τ : List Addr} : ∀ (d : D) (v v0 : V), Rep K H ρ d v0 → Rep K H' (ρ ++ τ) d v → Rep K H' ρ d v
  | .non, v, _, _, h => h
  | .bl b, v, _, _, h => h
  | .int i, v, _, _, h => h
  | .str y, v, _, _, h => h
  | .tup ds, v, _, h0, h => by
    obtain ⟨a, vs, e, q, r⟩ := h
    obtain ⟨a0, vs0, e0, q0, r0⟩ := h0
    exact ⟨a, vs, e, q, Rep.shrinkL ds vs vs0 r0 r⟩
  | .ro ds, v, _, h0, h => by
    obtain ⟨a, vs, e, q, r⟩ := h
    obtain ⟨a0, vs0, e0, q0, r0⟩ := h0
    exact ⟨a, vs, e, q, Rep.shrinkL ds vs vs0 r0 r⟩
  | .loc n, v, _, h0, h => by
    obtain ⟨a, e, q⟩ := h
    obtain ⟨a0, e0, q0⟩ := h0
    exact ⟨a, e, by rw [List.getElem?_append_left (List.getElem?_eq_some_iff.mp q0).1] at q; exact q⟩
theorem Rep.shrinkL {τ : List Addr} : ∀ (ds : List D) (vs vs0 : List V), RepL K H ρ ds vs0 → RepL K H' (ρ ++ τ) ds vs → RepL K H' ρ ds vs
  | [], vs, _, _, h => h
  | d :: ds, vs, _, h0, h => by
    obtain ⟨v, r, e, h1, h2⟩ := h
    obtain ⟨v0, r0, e0, h10, h20⟩ := h0
    exact ⟨v, r, e, Rep.shrink d v v0 h10 h1, Rep.shrinkL ds r r0 h20 h2⟩
end
theorem ObjRep.shrink {τ : List Addr} {a b : Addr} {mo : MO} (h0 : ObjRep K H ρ b mo) (h : ObjRep K H' (ρ ++ τ) a mo) : ObjRep K H' ρ a mo := by
  cases mo with
  | lst ds =>
    obtain ⟨vs, e, r⟩ := h
    obtain ⟨vs0, e0, r0⟩ := h0
    exact ⟨vs, e, Rep.shrinkL _ _ _ r0 r⟩
  | dic ds =>
    obtain ⟨vs, e, q, r⟩ := h
    obtain ⟨vs0, e0, q0, r0⟩ := h0
    exact ⟨vs, e, q, Rep.shrinkL _ _ _ r0 r⟩
  | dit ds =>
    obtain ⟨vs, e, q, r⟩ := h
    obtain ⟨vs0, e0, q0, r0⟩ := h0
    exact ⟨vs, e, q, Rep.shrinkL _ _ _ r0 r⟩
theorem ObjRep.pure_any {τ : List Addr} {a : Addr} {mo : MO} (p : MO.pure mo = true) (h : ObjRep K H τ a mo) : ObjRep K H ρ a mo := by
  cases mo with
  | lst ds => obtain ⟨vs, e, r⟩ := h; exact ⟨vs, e, Rep.pure_anyL _ _ p r⟩
  | dic ds => obtain ⟨vs, e, q, r⟩ := h; exact ⟨vs, e, q, Rep.pure_anyL _ _ p r⟩
  | dit ds => obtain ⟨vs, e, q, r⟩ := h; exact ⟨vs, e, q, Rep.pure_anyL _ _ p r⟩
mutual
theorem Rep.grow {τ : List Addr} : ∀ (d : D) (v : V), Rep K H ρ d v → Rep K H (ρ ++ τ) d v
  | .non, v, h => h
  | .bl b, v, h => h
  | .int i, v, h => h
  | .str y, v, h => h
  | .tup ds, v, h => by
    obtain ⟨a, vs, e, q, r⟩ := h
    exact ⟨a, vs, e, q, Rep.growL ds vs r⟩
  | .ro ds, v, h => by
    obtain ⟨a, vs, e, q, r⟩ := h
    exact ⟨a, vs, e, q, Rep.growL ds vs r⟩
  | .loc n, v, h => by
    obtain ⟨a, e, q⟩ := h
    exact ⟨a, e, by rw [List.getElem?_append_left (List.getElem?_eq_some_iff.mp q).1]; exact q⟩
theorem Rep.growL {τ : List Addr} : ∀ (ds : List D) (vs : List V), RepL K H ρ ds vs → RepL K H (ρ ++ τ) ds vs
  | [], vs, h => h
  | d :: ds, vs, h => by
    obtain ⟨v, r, e, h1, h2⟩ := h
    exact ⟨v, r, e, Rep.grow d v h1, Rep.growL ds r h2⟩
end
theorem ObjRep.grow {τ : List Addr} {a : Addr} {mo : MO} (h : ObjRep K H ρ a mo) : ObjRep K H (ρ ++ τ) a mo := by
  cases mo with
  | lst ds => obtain ⟨vs, e, r⟩ := h; exact ⟨vs, e, Rep.growL _ _ r⟩
  | dic ds => obtain ⟨vs, e, q, r⟩ := h; exact ⟨vs, e, q, Rep.growL _ _ r⟩
  | dit ds => obtain ⟨vs, e, q, r⟩ := h; exact ⟨vs, e, q, Rep.growL _ _ r⟩
theorem keepsOld_at : ∀ {S S' : Store} {i : Nat} {mo : MO}, keepsOld S S' = true → i < S.length → S'[i]? = some mo → S[i]? = some mo ∨ MO.pure mo = true
  | [], _, i, _, _, h, _ => by simp at h
  | a :: r, [], _, _, h, _, _ => by simp [keepsOld] at h
  | a :: r, b :: q, 0, mo, h, _, e => by
    simp only [keepsOld, Bool.and_eq_true, Bool.or_eq_true] at h
    have e' : b = mo := Option.some.inj e
    subst e'
    rcases h.1 with h1 | h1
    · rw [MO.beq_eq h1]; exact .inl rfl
    · exact .inr h1
  | a :: r, b :: q, i + 1, mo, h, hl, e => by
    simp only [keepsOld, Bool.and_eq_true, Bool.or_eq_true] at h
    exact keepsOld_at (i := i) h.2 (by simpa using hl) e
theorem keepsOld_len : ∀ {S S' : Store}, keepsOld S S' = true → S.length ≤ S'.length
  | [], _, _ => Nat.zero_le _
  | a :: r, [], h => by simp [keepsOld] at h
  | a :: r, b :: q, h => by
    simp only [keepsOld, Bool.and_eq_true] at h
    have := keepsOld_len h.2
    simp; exact this
theorem HRep.shrink (hp : HRep K H ρ S) (x : Ext H ρ H' ρ') (hp' : HRep K H' ρ' S') (ko : keepsOld S S' = true) : Ext H ρ H' ρ ∧ HRep K H' ρ (S'.take S.length) := by
  obtain ⟨τ, rfl⟩ := x.pre
  have hl := keepsOld_len ko
  refine ⟨⟨⟨[], by simp⟩, fun b h n => absurd h n, x.keep⟩, ⟨by rw [List.length_take, hp.len]; omega, hp.nd, fun n mo a e1 e2 => ?_⟩⟩
  have hn : n < S.length := by rw [← hp.len]; exact (List.getElem?_eq_some_iff.mp e2).1
  rw [List.getElem?_take_of_lt hn] at e1
  have r := hp'.ob n mo a e1 (by rw [List.getElem?_append_left (by rw [hp.len]; exact hn)]; exact e2)
  rcases keepsOld_at ko hn e1 with h | h
  · exact (hp.ob n mo a h e2).shrink r
  · exact r.pure_any h
theorem gc_ok (hp : HRep K H ρ S) (x : Ext H ρ H' ρ') (hp' : HRep K H' ρ' S') {d : D} {v : V} (r : Rep K H' ρ' d v) :
    ∃ ρ'', Ext H ρ H' ρ'' ∧ HRep K H' ρ'' (gc S d S').2 ∧ Rep K H' ρ'' (gc S d S').1 v := by
  unfold gc
  by_cases ko : keepsOld S S' = true
  · rw [if_pos ko]
    obtain ⟨x1, h1⟩ := hp.shrink x hp' ko
    by_cases pd : D.pure d = true
    · rw [if_pos pd]
      exact ⟨ρ, x1, h1, Rep.pure_any d v pd r⟩
    · rw [if_neg pd]
      cases d with
      | loc m =>
        dsimp only
        by_cases hm : m < S.length
        · rw [if_pos hm]
          obtain ⟨a, e, q⟩ := r
          obtain ⟨τ, rfl⟩ := x.pre
          rw [List.getElem?_append_left (by rw [hp.len]; exact hm)] at q
          exact ⟨ρ, x1, h1, a, e, q⟩
        · rw [if_neg hm]
          cases hS : S'[m]? with
          | none => exact ⟨ρ', x, hp', r⟩
          | some mo =>
            dsimp only
            by_cases pm : MO.pure mo = true
            · rw [if_pos pm]
              obtain ⟨a, e, q⟩ := r
              have am : a ∈ ρ' := List.mem_of_getElem? q
              have an : a ∉ ρ := fun h => by
                obtain ⟨j, hj, ej⟩ := List.mem_iff_getElem.mp h
                have ej' : ρ'[j]? = some a := x.ix (by rw [List.getElem?_eq_getElem hj, ej])
                obtain ⟨l1, g1⟩ := List.getElem?_eq_some_iff.mp q
                obtain ⟨l2, g2⟩ := List.getElem?_eq_some_iff.mp ej'
                have := (List.getElem_inj hp'.nd).mp (g1.trans g2.symm)
                rw [hp.len] at hj
                omega
              have ob := hp'.ob m mo a hS q
              refine ⟨ρ ++ [a], ⟨⟨[a], rfl⟩, fun b hb nb => ?_, x.keep⟩, ⟨?_, ?_, fun n mo' b e1 e2 => ?_⟩, a, e, ?_⟩
              · rcases List.mem_append.mp hb with m1 | m1
                · exact absurd m1 nb
                · have eb : b = a := by simpa using m1
                  subst eb
                  exact x.new b am nb
              · rw [List.length_append, List.length_append, h1.len]; rfl
              · rw [List.nodup_append]
                exact ⟨hp.nd, by simp, fun c hc b hb => by
                  have : b = a := by simpa using hb
                  intro e2; subst e2; subst this; exact an hc⟩
              · have tl : (S'.take S.length).length = S.length := by rw [← h1.len, hp.len]
                by_cases hn : n < S.length
                · rw [List.getElem?_append_left (by rw [tl]; exact hn)] at e1
                  rw [List.getElem?_append_left (by rw [hp.len]; exact hn)] at e2
                  have o1 := h1.ob n mo' b e1 e2
                  exact o1.grow
                · have hb := (List.getElem?_eq_some_iff.mp e1).1
                  rw [List.length_append, tl] at hb
                  have en : n = S.length := by
                    have : ([mo] : List MO).length = 1 := rfl
                    omega
                  subst en
                  rw [List.getElem?_append_right (by rw [tl]; exact Nat.le_refl _), tl, Nat.sub_self] at e1
                  rw [← hp.len, List.getElem?_append_right (Nat.le_refl _), Nat.sub_self] at e2
                  have e1' : mo = mo' := Option.some.inj e1
                  have e2' : a = b := Option.some.inj e2
                  subst e1' e2'
                  exact ob.pure_any pm
              · rw [← hp.len, List.getElem?_append_right (Nat.le_refl _), Nat.sub_self]; rfl
            · rw [if_neg pm]
              exact ⟨ρ', x, hp', r⟩
      | _ => exact ⟨ρ', x, hp', r⟩
  · rw [if_neg ko]
    exact ⟨ρ', x, hp', r⟩
end
end Mi

end

section
/-! Mi3: the rules: expressions. -/
namespace Mi
open PySem PySem.Spec L2

abbrev After (K : PySem.W.Frag) (H : Hp) (ρ : List Addr) (S' : Store) (d : D) (Q : VK) : Prop := ∀ v H' ρ', Ext H ρ H' ρ' → HRep K H' ρ' S' → Rep K H' ρ' d v → Q v H'
def tD (K : PySem.W.Frag) (f : StD → Store → Option (D × Store)) : TE := fun σ H Q => ∃ ρ σD S d S', Cor K H ρ σ σD S ∧ f σD S = some (d, S') ∧ After K H ρ S' d Q
def tDB (K : PySem.W.Frag) (f : StD → Store → Option (Bool × Store)) : TT := fun σ H Q => ∃ ρ σD S b S', Cor K H ρ σ σD S ∧ f σD S = some (b, S') ∧ ∀ H' ρ', Ext H ρ H' ρ' → HRep K H' ρ' S' → Q b H'
def tDs (K : PySem.W.Frag) (f : StD → Store → Option (List D × Store)) : TA := fun σ H Q => ∃ ρ σD S ds S', Cor K H ρ σ σD S ∧ f σD S = some (ds, S') ∧ ∀ vs H' ρ', Ext H ρ H' ρ' → HRep K H' ρ' S' → RepL K H' ρ' ds vs → Q vs H'

theorem bnd_eq {α β : Type} {x : Option (α × Store)} {f : α → Store → Option (β × Store)} {r : β × Store} (h : bnd x f = some r) : ∃ a S, x = some (a, S) ∧ f a S = some r := by
  cases x with
  | none => cases h
  | some p => obtain ⟨a, S⟩ := p; exact ⟨a, S, rfl, h⟩
theorem opt_eq {α : Type} {x : Option α} {S S' : Store} {a : α} (h : opt x S = some (a, S')) : x = some a ∧ S' = S := by
  cases x with
  | none => cases h
  | some b => cases h; exact ⟨rfl, rfl⟩
theorem _root_.L2.PE.imp {X : Cx} {e : Expr} {t t' : TE} (h : PE X e t) (i : ∀ σ H Q, t' σ H Q → t σ H Q) : PE X e t' := ⟨fun pins s σ H Q I hw => h.run pins s σ H Q I (i σ H Q hw)⟩
theorem _root_.L2.PT.imp {X : Cx} {e : Expr} {t t' : TT} (h : PT X e t) (i : ∀ σ H Q, t' σ H Q → t σ H Q) : PT X e t' := ⟨fun pins s σ H Q I hw => h.run pins s σ H Q I (i σ H Q hw)⟩
theorem _root_.L2.PA.imp {X : Cx} {e : List Expr} {t t' : TA} (h : PA X e t) (i : ∀ σ H Q, t' σ H Q → t σ H Q) : PA X e t' := ⟨fun pos pins s σ H Q I hw => h.run pos pins s σ H Q I (i σ H Q hw)⟩
theorem _root_.L2.PS.imp {X : Cx} {e : Stmt} {t t' : TS} (h : PS X e t) (i : ∀ D σ H, t' D σ H → t D σ H) : PS X e t' := ⟨fun pins s σ H D I hw => h.run pins s σ H D I (i D σ H hw)⟩
theorem _root_.L2.PSs.imp {X : Cx} {e : List Stmt} {t t' : TS} (h : PSs X e t) (i : ∀ D σ H, t' D σ H → t D σ H) : PSs X e t' := ⟨fun pins s σ H D I hw => h.run pins s σ H D I (i D σ H hw)⟩
theorem pe_no {X : Cx} {e : Expr} {t : TE} (i : ∀ σ H Q, ¬ t σ H Q) : PE X e t := ⟨fun _ _ σ H Q _ hw => (i σ H Q hw).elim⟩

section
variable {X : Cx} {a b c : Expr} {fa fb fc : StD → Store → Option (D × Store)} {p q : Pos}
/-- letting go behind an expression -/
theorem tD_gc {K : PySem.W.Frag} {f : StD → Store → Option (D × Store)} {σ : L2.St} {H : Hp} {Q : VK} (h : tD K (fun τ S => bnd (f τ S) fun d S1 => some (gc S d S1)) σ H Q) : tD K f σ H Q := by
  obtain ⟨ρ, σD, S, d, S', c, e, k⟩ := h
  obtain ⟨d1, S1, e1, e2⟩ := bnd_eq e
  refine ⟨ρ, σD, S, d1, S1, c, e1, fun v H' ρ' x hp r => ?_⟩
  obtain ⟨ρ'', x2, h2, r2⟩ := gc_ok c.hp x hp r
  have e3 : gc S d1 S1 = (d, S') := Option.some.inj e2
  rw [e3] at h2 r2
  exact k v H' ρ'' x2 h2 r2
theorem pe_gc {e : Expr} {f : StD → Store → Option (D × Store)} (h : PE X e (tD X.K f)) : PE X e (tD X.K fun τ S => bnd (f τ S) fun d S1 => some (gc S d S1)) := h.imp fun _ _ _ => tD_gc
theorem r_con {c : Const} {k : Nat} : PE X (.Constant c k p) (tD X.K fun _ S => opt (conD c) S) := by
  have go : ∀ {d : D} {v : V}, conD c = some d → (∀ H ρ, Rep X.K H ρ d v) → PE X (.Constant c k p) (tC v) → PE X (.Constant c k p) (tD X.K fun _ S => opt (conD c) S) := fun {d v} hd hr h =>
    h.imp fun σ H Q ⟨ρ, σD, S, d', S', cc, e, kk⟩ => by
      rw [hd] at e
      cases e
      exact kk v H ρ Ext.refl cc.hp (hr H ρ)
  cases c with
  | none => exact go rfl (fun _ _ => rfl) pe_non
  | bool b => exact go rfl (fun _ _ => rfl) pe_bl
  | int i => exact go rfl (fun _ _ => rfl) pe_int
  | str x => exact go rfl (fun _ _ => rfl) pe_str
  | _ => exact pe_no fun σ H Q ⟨ρ, σD, S, d', S', cc, e, kk⟩ => by cases e
theorem r_var {i : Nat} {x : Str} (hN : X.N[i]? = some x) (hv : Vis X.env.scope x) (hd : (x == ("__debug__" : Str)) = false) (hcd : (x == ("__classdict__" : Str)) = false) : PE X (.Name x p) (tD X.K fun σ S => opt (slotD σ i) S) :=
  (pe_var hN hv hd hcd).imp fun σ H Q ⟨ρ, σD, S, d, S', c, e, k⟩ => by
    obtain ⟨e1, e2⟩ := opt_eq e
    subst e2
    have e3 : σD[i]? = some (some d) := by
      unfold slotD at e1
      split at e1
      · cases e1; assumption
      · cases e1
    obtain ⟨v, h1, h2⟩ := c.st i d e3
    exact ⟨v, h1, k v H ρ Ext.refl c.hp h2⟩
theorem r_glo {x : Str} {i : Int} {u : Value} (hg : Gl X x) (hm : X.mg x = some u) (hu : ∃ t, u = .int i t) (hd : (x == ("__debug__" : Str)) = false) : PE X (.Name x p) (tD X.K fun _ S => some (.int i, S)) :=
  (pe_glob (v := .int i) hg hm hu hd).imp fun σ H Q ⟨ρ, σD, S, d, S', c, e, k⟩ => by
    cases e
    exact k (.int i) H ρ Ext.refl c.hp rfl
theorem r_nil : PA X [] (tDs X.K fun _ S => some ([], S)) := pa_nil.imp fun σ H Q ⟨ρ, σD, S, d, S', c, e, k⟩ => by
  cases e
  exact k [] H ρ Ext.refl c.hp rfl
theorem r_cons {e : Expr} {es : List Expr} {f : StD → Store → Option (D × Store)} {g : StD → Store → Option (List D × Store)} (he : PE X e (tD X.K f)) (hr : PA X es (tDs X.K g))
    (hs : starEach (e :: es) X.env = (false, eval e X.env) :: starEach es X.env) : PA X (e :: es) (tDs X.K fun σ S => bnd (f σ S) fun d S1 => bnd (g σ S1) fun ds S2 => some (d :: ds, S2)) :=
  (pa_cons he hr hs).imp fun σ H Q ⟨ρ, σD, S, d, S', c, e, k⟩ => by
    obtain ⟨d1, S1, e1, e2⟩ := bnd_eq e
    obtain ⟨ds, S2, e3, e4⟩ := bnd_eq e2
    have e5 := Option.some.inj e4
    injection e5 with e6 e7
    subst e6 e7
    refine ⟨ρ, σD, S, d1, S1, c, e1, fun v H1 ρ1 x1 h1 r1 => ⟨ρ1, σD, S1, ds, _, c.ext x1 h1, e3, fun vs H2 ρ2 x2 h2 r2 => ?_⟩⟩
    exact k (v :: vs) H2 ρ2 (x1.trans x2) h2 ⟨v, vs, rfl, x2.rep h1 _ _ r1, r2⟩
theorem r_tup {es : List Expr} {k : Nat} {g : StD → Store → Option (List D × Store)} (h : PA X es (tDs X.K g)) : PE X (.Tuple es k p) (tD X.K fun σ S => bnd (g σ S) fun ds S1 => if ds.length ≤ sizeLine then some (.tup ds, S1) else none) :=
  (pe_tupF h).imp fun σ H Q ⟨ρ, σD, S, d, S', c, e, k⟩ => by
    obtain ⟨ds, S1, e1, e2⟩ := bnd_eq e
    split at e2
    · rename_i hz
      have e3 := Option.some.inj e2
      injection e3 with e4 e5
      subst e4 e5
      refine ⟨ρ, σD, S, ds, _, c, e1, fun vs H1 ρ1 x1 h1 r1 => ⟨by rw [← r1.length]; exact hz, fun p o hn ho => ?_⟩⟩
      exact k _ _ ρ1 (x1.trans (Ext.newT h1 hn)) (h1.newT hn) ⟨p, vs, rfl, .new ho, (Ext.newT h1 hn).repL h1 _ _ r1⟩
    · cases e2
theorem r_lst {es : List Expr} {g : StD → Store → Option (List D × Store)} (h : PA X es (tDs X.K g)) : PE X (.List es p) (tD X.K fun σ S => bnd (g σ S) fun ds S1 => if ds.length ≤ sizeLine then some (.loc S1.length, S1 ++ [.lst ds]) else none) :=
  (pe_lst h).imp fun σ H Q ⟨ρ, σD, S, d, S', c, e, k⟩ => by
    obtain ⟨ds, S1, e1, e2⟩ := bnd_eq e
    split at e2
    · rename_i hz
      cases e2
      refine ⟨ρ, σD, S, ds, S1, c, e1, fun vs H1 ρ1 x1 h1 r1 => ⟨by rw [← r1.length]; exact hz, fun p hn => ?_⟩⟩
      exact k _ _ (ρ1 ++ [p]) (x1.trans (Ext.newL h1 hn)) (h1.newLst hn r1) h1.newLoc
    · cases e2
theorem r_dct : PE X (.Dict [] [] p) (tD X.K fun _ S => some (.loc S.length, S ++ [.dic []])) :=
  pe_dnewK.imp fun σ H Q ⟨ρ, σD, S, d, S', c, e, k⟩ => by
    cases e
    intro p hn
    exact k _ _ (ρ ++ [p]) (Ext.newL c.hp hn) (c.hp.newL hn ⟨[], upd_same, rfl, rfl⟩) c.hp.newLoc

/-! ### two values -/
def lift2 (K : PySem.W.Frag) (g : D → D → Store → Option (D × Store)) : R2 := fun x y H Q => ∃ ρ S dx dy d S', HRep K H ρ S ∧ Rep K H ρ dx x ∧ Rep K H ρ dy y ∧ g dx dy S = some (d, S') ∧ After K H ρ S' d Q
theorem tD_2 {K : PySem.W.Frag} {g : D → D → Store → Option (D × Store)} {σ : L2.St} {H : Hp} {Q : VK} (h : tD K (fun τ S => bnd (fa τ S) fun x S1 => bnd (fb τ S1) fun y S2 => g x y S2) σ H Q) : tOp (lift2 K g) (tD K fa) (tD K fb) σ H Q := by
  obtain ⟨ρ, σD, S, d, S', c, e, k⟩ := h
  obtain ⟨x, S1, e1, e2⟩ := bnd_eq e
  obtain ⟨y, S2, e3, e4⟩ := bnd_eq e2
  refine ⟨ρ, σD, S, x, S1, c, e1, fun v H1 ρ1 x1 h1 r1 => ⟨ρ1, σD, S1, y, S2, c.ext x1 h1, e3, fun w H2 ρ2 x2 h2 r2 => ?_⟩⟩
  exact ⟨ρ2, S2, x, y, d, S', h2, x2.rep h1 _ _ r1, r2, e4, fun v' H' ρ' x' h' r' => k v' H' ρ' ((x1.trans x2).trans x') h' r'⟩
theorem OpR.imp {f : Value → Value → Sem Value} {r r' : R2} (h : OpR X f r) (i : ∀ x y H Q, r' x y H Q → r x y H Q) : OpR X f r' := fun pins s σ H x y v u Q I rx ry q => h pins s σ H x y v u Q I rx ry (i x y H Q q)
theorem CallR.imp {f : Value} {r r' : List V → Hp → VK → Prop} (h : CallR X f r) (i : ∀ xs H Q, r' xs H Q → r xs H Q) : CallR X f r' := fun pins s σ H xs us Q I rx q => h pins s σ H xs us Q I rx (i xs H Q q)

theorem opr_no {f : Value → Value → Sem Value} {r : R2} (i : ∀ x y H Q, ¬ r x y H Q) : OpR X f r := fun pins s σ H x y v u Q I rx ry q => (i x y H Q q).elim

end
section
variable {X : Cx}
theorem lst_at {K : PySem.W.Frag} {H : Hp} {ρ : List Addr} {S : Store} (hp : HRep K H ρ S) {m : Nat} {ds : List D} {v : V} (e : S[m]? = some (.lst ds)) (r : Rep K H ρ (.loc m) v) : ∃ a vs, v = .ref a ∧ ρ[m]? = some a ∧ H a = some (.lst vs) ∧ RepL K H ρ ds vs := by
  obtain ⟨a, ev, ea⟩ := r
  obtain ⟨vs, h1, h2⟩ := hp.ob m _ a e ea
  exact ⟨a, vs, ev, ea, h1, h2⟩
theorem dic_at {K : PySem.W.Frag} {H : Hp} {ρ : List Addr} {S : Store} (hp : HRep K H ρ S) {m : Nat} {kvs : List (Key × D)} {v : V} (e : S[m]? = some (.dic kvs)) (r : Rep K H ρ (.loc m) v) :
    ∃ a ws, v = .ref a ∧ ρ[m]? = some a ∧ H a = some (.dK ws) ∧ ws.map (·.1) = kvs.map (·.1) ∧ RepL K H ρ (kvs.map (·.2)) (ws.map (·.2)) := by
  obtain ⟨a, ev, ea⟩ := r
  obtain ⟨vs, h1, h2, h3⟩ := hp.ob m _ a e ea
  exact ⟨a, vs, ev, ea, h1, h2, h3⟩
theorem op_D (o : Operator) : OpR X (binaryOp o) (lift2 X.K (opD o)) := by
  intro pins s σ H x y v u Q I rx ry ⟨ρ, S, dx, dy, d, S', hp, r1, r2, e, k⟩
  unfold opD at e
  split at e <;> first | contradiction | skip
  · cases e
    exact op_add pins s σ H x y v u Q I rx ry ⟨_, _, r1, r2, k _ H ρ Ext.refl hp rfl⟩
  · split at e
    · rename_i hz
      cases e
      exact op_add_str pins s σ H x y v u Q I rx ry ⟨_, _, r1, r2, hz, k _ H ρ Ext.refl hp rfl⟩
    · cases e
  · split at e
    · rename_i xs ys hz
      cases e
      obtain ⟨a, vs, e1, ha, r1⟩ := r1
      obtain ⟨b, ws, e2, hb, r2⟩ := r2
      have l1 := r1.length
      have l2 := r2.length
      refine op_catF pins s σ H x y v u Q I rx ry ⟨a, b, vs, ws, e1, e2, ha.sq, hb.sq, by omega, fun z => ?_, fun _ z => ?_, fun _ _ p o hn ho => ?_⟩
      · subst z
        have : xs = [] := List.eq_nil_of_length_eq_zero (by simpa using l1)
        subst this
        exact k _ H ρ Ext.refl hp ⟨b, ws, rfl, hb, r2⟩
      · subst z
        have : ys = [] := List.eq_nil_of_length_eq_zero (by simpa using l2)
        subst this
        exact k _ H ρ Ext.refl hp ⟨a, vs, rfl, ha, by simpa using r1⟩
      · exact k _ _ ρ (Ext.newT hp hn) (hp.newT hn) ⟨p, _, rfl, .new ho, (Ext.newT hp hn).repL hp _ _ (r1.append r2)⟩
    · cases e
  · split at e
    · split at e
      · rename_i xs ys h1 h2 hz
        cases e
        obtain ⟨a, vs, e1, _, ha, r1⟩ := lst_at hp h1 r1
        obtain ⟨b, ws, e2, _, hb, r2⟩ := lst_at hp h2 r2
        have l1 := r1.length
        have l2 := r2.length
        refine op_cat pins s σ H x y v u Q I rx ry ⟨a, b, vs, ws, e1, e2, ha, hb, by omega, fun p hn => ?_⟩
        exact k _ _ (ρ ++ [p]) (Ext.newL hp hn) (hp.newLst hn (r1.append r2)) hp.newLoc
      · cases e
    · cases e
  · cases e
    exact op_sub pins s σ H x y v u Q I rx ry ⟨_, _, r1, r2, k _ H ρ Ext.refl hp rfl⟩
  · split at e
    · rename_i hz
      cases e
      rcases hz with hz | hz | hz
      · exact op_mul pins s σ H x y v u Q I rx ry ⟨_, _, r1, r2, .inl ⟨by omega, by omega⟩, k _ H ρ Ext.refl hp rfl⟩
      · exact op_mul pins s σ H x y v u Q I rx ry ⟨_, _, r1, r2, .inr ⟨by omega, by omega⟩, k _ H ρ Ext.refl hp rfl⟩
      · exact op_mulW pins s σ H x y v u Q I rx ry ⟨_, _, r1, r2, hz, k _ H ρ Ext.refl hp rfl⟩
    · cases e
  · split at e
    · split at e
      · rename_i xs h1 hz
        cases e
        obtain ⟨a, vs, e1, _, ha, r1⟩ := lst_at hp h1 r1
        have l1 := r1.length
        refine op_rep pins s σ H x y v u Q I rx ry ⟨a, _, vs, e1, r2, ha, hz.1, hz.2.1, by rw [← l1]; exact hz.2.2, fun p hn => ?_⟩
        refine k _ _ (ρ ++ [p]) (Ext.newL hp hn) (hp.newLst hn ?_) hp.newLoc
        have all : ∀ n : Nat, RepL X.K H ρ (List.replicate n xs).flatten (List.replicate n vs).flatten := fun n => by
          induction n with
          | zero => rfl
          | succ n ih => rw [List.replicate_succ, List.replicate_succ, List.flatten_cons, List.flatten_cons]; exact r1.append ih
        exact all _
      · cases e
    · cases e
  · split at e
    · rename_i hz
      cases e
      exact op_fdivW pins s σ H x y v u Q I rx ry ⟨_, _, r1, r2, hz, k _ H ρ Ext.refl hp rfl⟩
    · cases e
  · split at e
    · rename_i hz
      cases e
      exact op_mod pins s σ H x y v u Q I rx ry ⟨_, _, r1, r2, hz, k _ H ρ Ext.refl hp rfl⟩
    · cases e
  · split at e
    · rename_i hz
      cases e
      exact op_pow pins s σ H x y v u Q I rx ry ⟨_, _, r1, r2, hz, k _ H ρ Ext.refl hp rfl⟩
    · cases e
theorem r_op {a b : Expr} {fa fb : StD → Store → Option (D × Store)} {p : Pos} (o : Operator) (ha : PE X a (tD X.K fa)) (hb : PE X b (tD X.K fb)) : PE X (.BinOp a o b p) (tD X.K fun τ S => bnd (fa τ S) fun x S1 => bnd (fb τ S1) fun y S2 => opD o x y S2) :=
  (pe_op (op_D o) ha hb).imp fun _ _ _ => tD_2
theorem r_neg {a : Expr} {fa : StD → Store → Option (D × Store)} {p : Pos} (ha : PE X a (tD X.K fa)) : PE X (.UnaryOp .USub a p) (tD X.K fun τ S => bnd (fa τ S) negD) :=
  (pe_un un_neg ha).imp fun σ H Q ⟨ρ, σD, S, d, S', c, e, k⟩ => by
    obtain ⟨x, S1, e1, e2⟩ := bnd_eq e
    cases x <;> first | (cases e2; done) | skip
    cases e2
    exact ⟨ρ, σD, S, _, _, c, e1, fun v H1 ρ1 x1 h1 r1 => ⟨_, r1, k _ H1 ρ1 x1 h1 rfl⟩⟩
theorem r_not {a : Expr} {fa : StD → Store → Option (D × Store)} {p : Pos} (ha : PE X a (tD X.K fa)) : PE X (.UnaryOp .Not a p) (tD X.K fun τ S => bnd (fa τ S) notD) :=
  (pe_not ha).imp fun σ H Q ⟨ρ, σD, S, d, S', c, e, k⟩ => by
    obtain ⟨x, S1, e1, e2⟩ := bnd_eq e
    cases x <;> first | (cases e2; done) | skip
    cases e2
    exact ⟨ρ, σD, S, _, _, c, e1, fun v H1 ρ1 x1 h1 r1 => ⟨_, r1, k _ H1 ρ1 x1 h1 rfl⟩⟩
end
end Mi

end

section
/-! Mi4: comparisons, tests, subscripts. -/
namespace Mi
open PySem PySem.Spec L2
section
variable {K : PySem.W.Frag} {H : Hp} {ρ : List Addr} {S : Store}
theorem mapO_ok {β : Type} {f : D → Option β} {P : V → β → Prop} : ∀ {ds : List D} {bs : List β} {vs : List V}, mapO f ds = some bs → RepL K H ρ ds vs → (∀ d b v, f d = some b → Rep K H ρ d v → P v b) → Paired P vs bs
  | [], bs, vs, e, r, _ => by cases e; cases r; exact .nil
  | d :: ds, bs, vs, e, r, h => by
    obtain ⟨v, vr, rfl, r1, r2⟩ := r
    unfold mapO at e
    split at e
    · rename_i b hb
      split at e
      · rename_i br hbr
        cases e
        exact .cons (h d b v hb r1) (mapO_ok hbr r2 h)
      · cases e
    · cases e
theorem dpAll_of {P : PyData → Prop} : ∀ {vs : List V} {ps : List PyData}, Paired (fun v p => Dp K H v p ∧ P p) vs ps → DpAll K H vs ps ∧ ∀ p ∈ ps, P p
  | _, _, .nil => ⟨.nil, fun p h => nomatch h⟩
  | _, _, .cons h t => ⟨.cons h.1 (dpAll_of t).1, fun p hp => by
      rcases List.mem_cons.mp hp with rfl | hp
      · exact h.2
      · exact (dpAll_of t).2 p hp⟩
theorem canLayAll_of : ∀ {ps : List PyData}, (∀ p ∈ ps, p.canLay0 = true) → PyData.canLayAll0 ps = true
  | [], _ => by simp [PyData.canLayAll0]
  | p :: ps, h => by
    simp only [PyData.canLayAll0, Bool.and_eq_true]
    exact ⟨h p List.mem_cons_self, canLayAll_of fun q hq => h q (List.mem_cons_of_mem _ hq)⟩
theorem depthAll_of {n : Nat} : ∀ {ps : List PyData}, (∀ p ∈ ps, p.depth ≤ n) → PyData.depthAll ps ≤ n
  | [], _ => by simp [PyData.depthAll]
  | p :: ps, h => by
    simp only [PyData.depthAll]
    exact Nat.max_le.mpr ⟨h p List.mem_cons_self, depthAll_of fun q hq => h q (List.mem_cons_of_mem _ hq)⟩
theorem toPy_ok (hp : HRep K H ρ S) : ∀ (n : Nat) (d : D) (p : PyData) (v : V), toPy S n d = some p → Rep K H ρ d v → Dp K H v p ∧ (p.canLay0 = true ∧ p.depth ≤ n) := by
  intro n
  have sc : ∀ (m : Nat) (d : D) (p : PyData) (v : V), (∀ ds, d ≠ .tup ds) → (∀ ds, d ≠ .ro ds) → (∀ k, d ≠ .loc k) → toPy S m d = some p → Rep K H ρ d v → Dp K H v p ∧ (p.canLay0 = true ∧ p.depth ≤ m) := by
    intro m d p v h1 h2 h3 e r
    cases d with
    | non => cases r; unfold toPy at e; cases e; exact ⟨.non, by simp [PyData.canLay0], by simp [PyData.depth]⟩
    | bl b => cases r; unfold toPy at e; cases e; exact ⟨.bl _, by simp [PyData.canLay0], by simp [PyData.depth]⟩
    | int b => cases r; unfold toPy at e; cases e; exact ⟨.int _, by simp [PyData.canLay0], by simp [PyData.depth]⟩
    | str x =>
      cases r; unfold toPy at e
      split at e
      · rename_i hx
        cases e; exact ⟨.str _, by simpa [PyData.canLay0] using hx, by simp [PyData.depth]⟩
      · cases e
    | tup ds => exact absurd rfl (h1 ds)
    | ro ds => exact absurd rfl (h2 ds)
    | loc k => exact absurd rfl (h3 k)
  induction n with
  | zero =>
    intro d p v e r
    cases d with
    | tup ds => unfold toPy at e; cases e
    | ro ds => unfold toPy at e; cases e
    | loc k => unfold toPy at e; cases e
    | _ => exact sc _ _ _ _ (by intro _ z; cases z) (by intro _ z; cases z) (by intro _ z; cases z) e r
  | succ n ih =>
    intro d p v e r
    have all : ∀ {ds : List D} {ps : List PyData} {vs : List V}, mapO (toPy S n) ds = some ps → RepL K H ρ ds vs → DpAll K H vs ps ∧ PyData.canLayAll0 ps = true ∧ PyData.depthAll ps ≤ n := fun {ds ps vs} e r => by
      obtain ⟨h1, h2⟩ := dpAll_of (mapO_ok (P := fun v p => Dp K H v p ∧ (p.canLay0 = true ∧ p.depth ≤ n)) e r fun d b v e' r' => ih d b v e' r')
      exact ⟨h1, canLayAll_of fun p hp => (h2 p hp).1, depthAll_of fun p hp => (h2 p hp).2⟩
    cases d with
    | tup ds =>
      unfold toPy at e
      obtain ⟨ps, e1, e2⟩ := Option.map_eq_some_iff.mp e
      subst e2
      obtain ⟨a, vs, rfl, ha, r1⟩ := r
      obtain ⟨h1, h2, h3⟩ := all e1 r1
      exact ⟨.tup ha.sq h1, by simpa [PyData.canLay0] using h2, by simp [PyData.depth]; exact h3⟩
    | ro ds =>
      unfold toPy at e
      obtain ⟨ps, e1, e2⟩ := Option.map_eq_some_iff.mp e
      subst e2
      obtain ⟨a, vs, rfl, ha, r1⟩ := r
      obtain ⟨h1, h2, h3⟩ := all e1 r1
      exact ⟨.lst ha.sq h1, by simpa [PyData.canLay0] using h2, by simp [PyData.depth]; exact h3⟩
    | loc k =>
      unfold toPy at e
      split at e
      · rename_i ds hS
        obtain ⟨ps, e1, e2⟩ := Option.map_eq_some_iff.mp e
        subst e2
        obtain ⟨a, vs, rfl, _, ha, r1⟩ := lst_at hp hS r
        obtain ⟨h1, h2, h3⟩ := all e1 r1
        exact ⟨.lst (.of ha) h1, by simpa [PyData.canLay0] using h2, by simp [PyData.depth]; exact h3⟩
      · cases e
    | _ => exact sc _ _ _ _ (by intro _ z; cases z) (by intro _ z; cases z) (by intro _ z; cases z) e r
theorem shaped_of {p : PyData} (h : p.canLay0 = true ∧ p.depth ≤ 60) : SeqAt.shaped p = true := by
  unfold SeqAt.shaped
  rw [h.1, Bool.true_and]
  exact decide_eq_true (Nat.le_trans h.2 (by decide))
theorem seq_at (hp : HRep K H ρ S) {d : D} {ds : List D} {v : V} (e : seqOf S d = some ds) (r : Rep K H ρ d v) : ∃ a vs, v = .ref a ∧ (SqL K H a vs ∨ SqT K H a vs) ∧ RepL K H ρ ds vs := by
  cases d with
  | tup es => cases e; obtain ⟨a, vs, rfl, ha, r1⟩ := r; exact ⟨a, vs, rfl, .inr ha.sq, r1⟩
  | ro es => cases e; obtain ⟨a, vs, rfl, ha, r1⟩ := r; exact ⟨a, vs, rfl, .inl ha.sq, r1⟩
  | loc m =>
    unfold seqOf at e
    dsimp only at e
    split at e
    · rename_i es hS
      cases e
      obtain ⟨a, vs, rfl, _, ha, r1⟩ := lst_at hp hS r
      exact ⟨a, vs, rfl, .inl (.of ha), r1⟩
    · cases e
  | _ => cases e
theorem flat_ok {d : D} {p : PyData} {v : V} (e : flatPy d = some p) (r : Rep K H ρ d v) : flatV v = true ∧ ∀ {w : V} {q : PyData} {d' : D}, flatPy d' = some q → Rep K H ρ d' w → eqV v w = PyData.eqv p q := by
  cases d with
  | non => cases e; cases r; exact ⟨rfl, fun {w q d'} e' r' => by cases d' <;> first | (cases e'; done) | (cases e'; cases r'; simp [eqV, PyData.eqv])⟩
  | bl b => cases e; cases r; exact ⟨rfl, fun {w q d'} e' r' => by cases d' <;> first | (cases e'; done) | (cases e'; cases r'; simp [eqV, PyData.eqv])⟩
  | int i => cases e; cases r; exact ⟨rfl, fun {w q d'} e' r' => by cases d' <;> first | (cases e'; done) | (cases e'; cases r'; simp [eqV, PyData.eqv])⟩
  | str x => cases e; cases r; exact ⟨rfl, fun {w q d'} e' r' => by cases d' <;> first | (cases e'; done) | (cases e'; cases r'; simp [eqV, PyData.eqv])⟩
  | _ => cases e
theorem inSeq_ok {a : D} {ds : List D} {b : Bool} {v : V} {vs : List V} (e : inSeq a ds = some b) (r : Rep K H ρ a v) (rs : RepL K H ρ ds vs) : flatV v = true ∧ vs.all flatV = true ∧ inV v vs = b := by
  unfold inSeq at e
  split at e
  · rename_i x ys h1 h2
    cases e
    refine ⟨(flat_ok h1 r).1, ?_⟩
    have go : ∀ {ds : List D} {ys : List PyData} {vs : List V}, mapO flatPy ds = some ys → RepL K H ρ ds vs → vs.all flatV = true ∧ inV v vs = ys.any fun y => PyData.eqv y x := by
      intro ds
      induction ds with
      | nil => intro ys vs e r; cases e; cases r; exact ⟨rfl, rfl⟩
      | cons d ds ih =>
        intro ys vs e rr
        obtain ⟨w, vr, rfl, r1, r2⟩ := rr
        unfold mapO at e
        split at e
        · rename_i y hy
          split at e
          · rename_i yr hyr
            cases e
            obtain ⟨i1, i2⟩ := ih hyr r2
            obtain ⟨f1, f2⟩ := flat_ok hy r1
            refine ⟨by rw [List.all_cons, f1, i1]; rfl, ?_⟩
            unfold inV at i2 ⊢
            rw [List.any_cons, List.any_cons, f2 h1 r, i2]
          · cases e
        · cases e
    exact go h2 rs
  · cases e
theorem keyOf_ok {a : D} {k : Key} {v : V} (e : keyOf a = some k) (r : Rep K H ρ a v) : v = kV k := by
  cases a <;> first | (cases e; done) | (cases e; exact r)
theorem getG_ok {κ : Type} [DecidableEq κ] {k : κ} : ∀ {kvs : List (κ × D)} {ws : List (κ × V)}, ws.map (·.1) = kvs.map (·.1) → RepL K H ρ (kvs.map (·.2)) (ws.map (·.2)) →
    (∀ d, getG kvs k = some d → ∃ v, valV ws k = some v ∧ Rep K H ρ d v) ∧ (getG kvs k = none → valV ws k = none) ∧ (valV ws k).isSome = (getG kvs k).isSome
  | [], ws, e, _ => by
    have : ws = [] := by simpa using e
    subst this
    exact ⟨fun d h => (by cases h), fun _ => rfl, rfl⟩
  | (l, x) :: r, ws, e, rr => by
    cases ws with
    | nil => simp at e
    | cons w ws =>
      obtain ⟨l', y⟩ := w
      simp only [List.map_cons, List.cons.injEq] at e
      obtain ⟨e1, e2⟩ := e
      subst e1
      obtain ⟨v, vr, ev, r1, r2⟩ := rr
      simp only [List.map_cons, List.cons.injEq] at ev
      obtain ⟨ev1, ev2⟩ := ev
      subst ev1 ev2
      obtain ⟨i1, i2, i3⟩ := getG_ok (k := k) e2 r2
      by_cases h : l' = k
      · have g1 : getG ((l', x) :: r) k = some x := by simp [getG, List.find?_cons, h]
        have g2 : valV ((l', y) :: ws) k = some y := valV_pos h
        refine ⟨fun d hd => ?_, fun hn => ?_, ?_⟩
        · rw [g1] at hd; cases hd; exact ⟨y, g2, r1⟩
        · rw [g1] at hn; cases hn
        · rw [g1, g2]; rfl
      · have g1 : getG ((l', x) :: r) k = getG r k := by simp [getG, List.find?_cons, h]
        have g2 : valV ((l', y) :: ws) k = valV ws k := valV_neg h
        rw [g1, g2]
        exact ⟨i1, i2, i3⟩
end
section
variable {X : Cx}
theorem in_ok (hu : X.A.units + 1 < cLine) (neg : Bool) : OpR X (compareOp (if neg then .NotIn else .In)) (lift2 X.K fun x y S => opt ((inD x y S).map fun b => .bl (if neg then !b else b)) S) := by
  intro pins s σ H x y v u Q I rx ry ⟨ρ, S, dx, dy, d, S', hp, r1, r2, e, k⟩
  obtain ⟨e1, e0⟩ := opt_eq e
  subst S'
  obtain ⟨b, e2, rfl⟩ := Option.map_eq_some_iff.mp e1
  have seq : ∀ {ds : List D}, seqOf S dy = some ds → inSeq dx ds = some b → wpAny (model X.prog X.w) X.A (compareOp (if neg then .NotIn else .In) v u) (EP X pins σ Q) X.xe s := fun {ds} h1 h2 => by
    obtain ⟨a, vs, rfl, hq, rs⟩ := seq_at hp h1 r2
    obtain ⟨f1, f2, f3⟩ := inSeq_ok h2 r1 rs
    cases neg with
    | true => exact op_notIn_seq pins s σ H x _ v u Q I rx ry ⟨a, vs, rfl, hq, f1, f2, by rw [f3]; exact k _ H ρ Ext.refl hp rfl⟩
    | false => exact op_in_seq pins s σ H x _ v u Q I rx ry ⟨a, vs, rfl, hq, f1, f2, by rw [f3]; exact k _ H ρ Ext.refl hp rfl⟩
  unfold inD at e2
  split at e2
  · rename_i m
    split at e2
    · rename_i kvs hS
      obtain ⟨kk, e3, e4⟩ := Option.map_eq_some_iff.mp e2
      obtain ⟨a, ws, rfl, _, ha, k1, k2⟩ := dic_at hp hS r2
      have ek := keyOf_ok e3 r1
      subst ek
      cases ry
      have g : DGet H a (kV kk) (valV ws kk) := DGet.k ha
      have gs : (valV ws kk).isSome = b := (getG_ok k1 k2).2.2.trans e4
      cases neg with
      | true => exact d_notIn hu I g rx fun s3 I3 => ⟨.bl (!(valV ws kk).isSome), H, I3, rfl, by rw [gs]; exact k _ H ρ Ext.refl hp rfl⟩
      | false => exact d_in hu I g rx fun s3 I3 => ⟨.bl (valV ws kk).isSome, H, I3, rfl, by rw [gs]; exact k _ H ρ Ext.refl hp rfl⟩
    · rename_i ds hS
      exact seq (by unfold seqOf; dsimp only; rw [hS]) e2
    · cases e2
  · exact seq rfl e2
  · exact seq rfl e2
  · cases e2
theorem isNon {K : PySem.W.Frag} {H : Hp} {ρ : List Addr} {d : D} {v : V} (r : Rep K H ρ d v) (h : d ≠ .non) : decide (v = .non) = false := by
  cases d with
  | non => exact absurd rfl h
  | bl b => cases r; rfl
  | int b => cases r; rfl
  | str b => cases r; rfl
  | tup b => obtain ⟨a, vs, rfl, _⟩ := r; rfl
  | ro b => obtain ⟨a, vs, rfl, _⟩ := r; rfl
  | loc b => obtain ⟨a, rfl, _⟩ := r; rfl
theorem cmp_D (hu : X.A.units + 65 < cLine) (o : CmpOp) : OpR X (compareOp o) (lift2 X.K fun x y S => opt ((cmpD o x y S).map .bl) S) := by
  intro pins s σ H x y v u Q I rx ry ⟨ρ, S, dx, dy, d, S', hp, r1, r2, e, k⟩
  obtain ⟨e1, e0⟩ := opt_eq e
  subst S'
  obtain ⟨b, e2, rfl⟩ := Option.map_eq_some_iff.mp e1
  have kk : Q (.bl b) H := k _ H ρ Ext.refl hp rfl
  unfold cmpD at e2
  split at e2
  · unfold eqD at e2
    split at e2
    · rename_i p q h1 h2
      cases e2
      obtain ⟨d1, s1⟩ := toPy_ok hp 60 _ _ _ h1 r1
      obtain ⟨d2, s2⟩ := toPy_ok hp 60 _ _ _ h2 r2
      exact op_eqD (by omega) pins s σ H x y v u Q I rx ry ⟨p, q, d1, d2, shaped_of s1, shaped_of s2, kk⟩
    · cases e2
  · obtain ⟨b', e3, rfl⟩ := Option.map_eq_some_iff.mp e2
    unfold eqD at e3
    split at e3
    · rename_i p q h1 h2
      cases e3
      obtain ⟨d1, s1⟩ := toPy_ok hp 60 _ _ _ h1 r1
      obtain ⟨d2, s2⟩ := toPy_ok hp 60 _ _ _ h2 r2
      exact op_neD (by omega) pins s σ H x y v u Q I rx ry ⟨p, q, d1, d2, shaped_of s1, shaped_of s2, kk⟩
    · cases e3
  · split at e2
    · cases e2
      exact op_lt pins s σ H x y v u Q I rx ry ⟨_, _, r1, r2, kk⟩
    · cases e2
  · split at e2
    · cases e2
      exact op_le pins s σ H x y v u Q I rx ry ⟨_, _, r1, r2, kk⟩
    · cases e2
  · split at e2
    · cases e2
      exact op_gt pins s σ H x y v u Q I rx ry ⟨_, _, r1, r2, kk⟩
    · cases e2
  · split at e2
    · cases e2
      exact op_ge pins s σ H x y v u Q I rx ry ⟨_, _, r1, r2, kk⟩
    · cases e2
  · split at e2
    · cases e2
      cases r1
      cases r2
      exact op_isN pins s σ H _ _ v u Q I rx ry ⟨rfl, kk⟩
    · cases e2
      cases r1
      cases r2
      exact op_isBl pins s σ H _ _ v u Q I rx ry ⟨_, _, rfl, rfl, kk⟩
    · cases e2
      cases r2
      exact op_isN pins s σ H _ _ v u Q I rx ry ⟨rfl, by rw [isNon r1 (by assumption)]; exact kk⟩
    · cases e2
  · split at e2
    · cases e2
      cases r1
      cases r2
      exact op_notN pins s σ H _ _ v u Q I rx ry ⟨rfl, kk⟩
    · cases e2
      cases r1
      cases r2
      exact op_notBl pins s σ H _ _ v u Q I rx ry ⟨_, _, rfl, rfl, kk⟩
    · cases e2
      cases r2
      exact op_notN pins s σ H _ _ v u Q I rx ry ⟨rfl, by rw [isNon r1 (by assumption)]; exact kk⟩
    · cases e2
  · exact in_ok (by omega) false pins s σ H x y v u Q I rx ry ⟨ρ, S, dx, dy, _, S, hp, r1, r2, by dsimp only; rw [e2]; rfl, k⟩
  · obtain ⟨b', e3, rfl⟩ := Option.map_eq_some_iff.mp e2
    exact in_ok (by omega) true pins s σ H x y v u Q I rx ry ⟨ρ, S, dx, dy, _, S, hp, r1, r2, by dsimp only; rw [e3]; rfl, k⟩

section
variable {a b c : Expr} {fa fb fc : StD → Store → Option (D × Store)} {p : Pos}
theorem r_cmp (hu : X.A.units + 65 < cLine) (o : CmpOp) (ha : PE X a (tD X.K fa)) (hb : PE X b (tD X.K fb)) (hm : behindInMarks o b = false) :
    PE X (.Compare a [o] [b] p) (tD X.K fun σ S => bnd (fa σ S) fun x S1 => bnd (fb σ S1) fun y S2 => bnd (opt (cmpD o x y S2) S2) fun k S3 => some (gc S (.bl k) S3)) := by
  refine (pe_gc ((pe_cmpR (cmp_D hu o) ha hb hm).imp fun σ H Q => tD_2)).imp fun σ H Q ⟨ρ, σD, S, d, S', cc, e, k⟩ => ⟨ρ, σD, S, d, S', cc, ?_, k⟩
  obtain ⟨x, S1, e1, e2⟩ := bnd_eq e
  obtain ⟨y, S2, e3, e4⟩ := bnd_eq e2
  obtain ⟨z, S3, e5, e6⟩ := bnd_eq e4
  obtain ⟨e7, e8⟩ := opt_eq e5
  subst S3
  simp only [e1, e3, bnd_some, e7, Option.map_some, opt_some]
  exact e6
theorem t_cmp (hu : X.A.units + 65 < cLine) (o : CmpOp) (ha : PE X a (tD X.K fa)) (hb : PE X b (tD X.K fb)) (hm : behindInMarks o b = false) :
    PT X (.Compare a [o] [b] p) (tDB X.K fun σ S => bnd (fa σ S) fun x S1 => bnd (fb σ S1) fun y S2 => bnd (opt (cmpD o x y S2) S2) fun k S3 => some (k, (gc S (.bl k) S3).2)) := by
  refine (pt_cmpR (cmp_D hu o) ha hb hm).imp fun σ H Q ⟨ρ, σD, S, d, S', cc, e, k⟩ => ?_
  obtain ⟨x, S1, e1, e2⟩ := bnd_eq e
  obtain ⟨y, S2, e3, e4⟩ := bnd_eq e2
  obtain ⟨z, S3, e5, e6⟩ := bnd_eq e4
  obtain ⟨e7, e8⟩ := opt_eq e5
  subst S3
  have e9 := Option.some.inj e6
  injection e9 with e10 e11
  subst e10 e11
  refine tD_2 (tD_gc ⟨ρ, σD, S, .bl z, (gc S (.bl z) S2).2, cc, ?_, fun v H' ρ' x' h' r' => ⟨z, r', k H' ρ' x' h'⟩⟩)
  simp only [e1, e3, bnd_some, e7, Option.map_some, opt_some]
  unfold gc
  split <;> rfl
theorem r_chn (hu : X.A.units + 65 < cLine) (o q : CmpOp) (ha : PE X a (tD X.K fa)) (hb : PE X b (tD X.K fb)) (hc : PE X c (tD X.K fc)) (hm : lastMarks [o, q] [b, c] = false) :
    PE X (.Compare a [o, q] [b, c] p) (tD X.K fun σ S => bnd (fa σ S) fun x S1 => bnd (fb σ S1) fun y S2 => bnd (opt (cmpD o x y S2) S2) (iteD (fun S3 => bnd (fc σ S3) fun z S4 => opt ((cmpD q y z S4).map .bl) S4) (fun S3 => some (.bl false, S3)))) := by
  refine (pe_chain (cmp_D hu o) (cmp_D hu q) ha hb hc hm).imp fun σ H Q ⟨ρ, σD, S, d, S', cc, e, k⟩ => ?_
  obtain ⟨x, S1, e1, e2⟩ := bnd_eq e
  obtain ⟨y, S2, e3, e4⟩ := bnd_eq e2
  obtain ⟨z, S3, e5, e6⟩ := bnd_eq e4
  obtain ⟨e7, e8⟩ := opt_eq e5
  subst S3
  refine ⟨ρ, σD, S, x, S1, cc, e1, fun v H1 ρ1 x1 h1 r1 => ⟨ρ1, σD, S1, y, S2, cc.ext x1 h1, e3, fun w H2 ρ2 x2 h2 r2 => ?_⟩⟩
  refine ⟨ρ2, S2, x, y, .bl z, S2, h2, x2.rep h1 _ _ r1, r2, by dsimp only; rw [e7]; rfl, fun u H3 ρ3 x3 h3 r3 => ⟨z, r3, ?_⟩⟩
  cases z with
  | true =>
    rw [if_pos rfl]
    obtain ⟨zz, S4, e9, e10⟩ := bnd_eq (show bnd (fc σD S2) _ = some (d, S') from e6)
    have x13 := (x1.trans x2).trans x3
    refine ⟨ρ3, σD, S2, zz, S4, cc.ext x13 h3, e9, fun w' H4 ρ4 x4 h4 r4 => ?_⟩
    exact ⟨ρ4, S4, y, zz, d, S', h4, x4.rep h3 _ _ (x3.rep h2 _ _ r2), r4, e10, fun v' H' ρ' x' h' r' => k v' H' ρ' ((x13.trans x4).trans x') h' r'⟩
  | false =>
    rw [if_neg Bool.false_ne_true]
    have e9 := Option.some.inj (show some (D.bl false, S2) = some (d, S') from e6)
    injection e9 with e10 e11
    subst e10 e11
    exact k _ H3 ρ3 ((x1.trans x2).trans x3) h3 rfl
theorem t_chn (hu : X.A.units + 65 < cLine) (o q : CmpOp) (ha : PE X a (tD X.K fa)) (hb : PE X b (tD X.K fb)) (hc : PE X c (tD X.K fc)) (hm : lastMarks [o, q] [b, c] = false) :
    PT X (.Compare a [o, q] [b, c] p) (tDB X.K fun σ S => bnd (fa σ S) fun x S1 => bnd (fb σ S1) fun y S2 => bnd (opt (cmpD o x y S2) S2) (iteD (fun S3 => bnd (fc σ S3) fun z S4 => opt (cmpD q y z S4) S4) (fun S3 => some (false, S3)))) := by
  refine (pt_chain (cmp_D hu o) (cmp_D hu q) ha hb hc hm).imp fun σ H Q ⟨ρ, σD, S, d, S', cc, e, k⟩ => ?_
  obtain ⟨x, S1, e1, e2⟩ := bnd_eq e
  obtain ⟨y, S2, e3, e4⟩ := bnd_eq e2
  obtain ⟨z, S3, e5, e6⟩ := bnd_eq e4
  obtain ⟨e7, e8⟩ := opt_eq e5
  subst S3
  refine ⟨ρ, σD, S, x, S1, cc, e1, fun v H1 ρ1 x1 h1 r1 => ⟨ρ1, σD, S1, y, S2, cc.ext x1 h1, e3, fun w H2 ρ2 x2 h2 r2 => ?_⟩⟩
  refine ⟨ρ2, S2, x, y, .bl z, S2, h2, x2.rep h1 _ _ r1, r2, by dsimp only; rw [e7]; rfl, fun u H3 ρ3 x3 h3 r3 => ⟨z, r3, ?_⟩⟩
  cases z with
  | true =>
    rw [if_pos rfl]
    obtain ⟨zz, S4, e9, e10⟩ := bnd_eq (show bnd (fc σD S2) _ = some (d, S') from e6)
    have x13 := (x1.trans x2).trans x3
    refine ⟨ρ3, σD, S2, zz, S4, cc.ext x13 h3, e9, fun w' H4 ρ4 x4 h4 r4 => ?_⟩
    obtain ⟨e11, e12⟩ := opt_eq e10
    subst e12
    exact ⟨ρ4, _, y, zz, .bl d, _, h4, x4.rep h3 _ _ (x3.rep h2 _ _ r2), r4, by dsimp only; rw [e11]; rfl, fun v' H' ρ' x' h' r' => ⟨d, r', k H' ρ' ((x13.trans x4).trans x') h'⟩⟩
  | false =>
    rw [if_neg Bool.false_ne_true]
    have e9 := Option.some.inj (show some (false, S2) = some (d, S') from e6)
    injection e9 with e10 e11
    subst e10 e11
    exact ⟨false, rfl, k H3 ρ3 ((x1.trans x2).trans x3) h3⟩

/-! ### truth, and, or, if -/
theorem truth_ok {K : PySem.W.Frag} {H : Hp} {ρ : List Addr} {S : Store} (hp : HRep K H ρ S) {d : D} {v : V} {b : Bool} (e : truthD S d = some b) (r : Rep K H ρ d v) : TruV K v H b := by
  cases d with
  | non => cases e; cases r; rfl
  | bl b => cases e; cases r; rfl
  | int i => cases e; cases r; rfl
  | str x =>
    unfold truthD at e
    dsimp only at e
    split at e
    · rename_i hz; cases e; cases r; exact ⟨hz, rfl⟩
    · cases e
  | tup ds =>
    cases e
    obtain ⟨a, vs, rfl, ha, r1⟩ := r
    refine .inr (.inl ⟨vs, ha.sq, ?_⟩)
    have := r1.length
    cases ds <;> cases vs <;> first | rfl | (simp at this)
  | ro ds =>
    cases e
    obtain ⟨a, vs, rfl, ha, r1⟩ := r
    refine .inl ⟨vs, ha.sq, ?_⟩
    have := r1.length
    cases ds <;> cases vs <;> first | rfl | (simp at this)
  | loc m =>
    unfold truthD at e
    dsimp only at e
    split at e
    · rename_i ds hS
      cases e
      obtain ⟨a, vs, rfl, _, ha, r1⟩ := lst_at hp hS r
      refine .inl ⟨vs, .of ha, ?_⟩
      have := r1.length
      cases ds <;> cases vs <;> first | rfl | (simp at this)
    · rename_i kvs hS
      cases e
      obtain ⟨a, ws, rfl, _, ha, k1, _⟩ := dic_at hp hS r
      refine .inr (.inr ⟨ws, ha, ?_⟩)
      cases kvs <;> cases ws <;> first | rfl | (simp at k1)
    · cases e
theorem t_truth (ha : PE X a (tD X.K fa)) (he : ∀ whole, isTrue a X.env whole = (do let v ← whole; standAt a.pos; holding [v] (truthy v))) : PT X a (tDB X.K (plain fa).b) :=
  (pt_truth ha he).imp fun σ H Q ⟨ρ, σD, S, d, S', cc, e, k⟩ => by
    obtain ⟨x, S1, e1, e2⟩ := bnd_eq e
    obtain ⟨e3, e4⟩ := opt_eq e2
    subst e4
    exact ⟨ρ, σD, S, x, _, cc, e1, fun v H1 ρ1 x1 h1 r1 => ⟨d, truth_ok h1 e3 r1, k H1 ρ1 x1 h1⟩⟩
variable {ga gb gc' : StD → Store → Option (Bool × Store)}
theorem t_not (ha : PT X a (tDB X.K ga)) : PT X (.UnaryOp .Not a p) (tDB X.K fun σ S => bnd (ga σ S) fun b S1 => some (!b, S1)) :=
  (pt_not ha).imp fun σ H Q ⟨ρ, σD, S, d, S', cc, e, k⟩ => by
    obtain ⟨x, S1, e1, e2⟩ := bnd_eq e
    have e3 := Option.some.inj e2
    injection e3 with e4 e5
    subst e4 e5
    exact ⟨ρ, σD, S, x, _, cc, e1, fun H1 ρ1 x1 h1 => k H1 ρ1 x1 h1⟩
theorem r_ifx (hc : PT X c (tDB X.K gc')) (ha : PE X a (tD X.K fa)) (hb : PE X b (tD X.K fb)) : PE X (.IfExp c a b p) (tD X.K fun σ S => bnd (gc' σ S) (iteD (fa σ) (fb σ))) :=
  (pe_ifExp hc ha hb).imp fun σ H Q ⟨ρ, σD, S, d, S', cc, e, k⟩ => by
    obtain ⟨x, S1, e1, e2⟩ := bnd_eq e
    refine ⟨ρ, σD, S, x, S1, cc, e1, fun H1 ρ1 x1 h1 => ?_⟩
    cases x with
    | true => rw [if_pos rfl]; exact ⟨ρ1, σD, S1, d, S', cc.ext x1 h1, e2, fun v H2 ρ2 x2 h2 r2 => k v H2 ρ2 (x1.trans x2) h2 r2⟩
    | false => rw [if_neg Bool.false_ne_true]; exact ⟨ρ1, σD, S1, d, S', cc.ext x1 h1, e2, fun v H2 ρ2 x2 h2 r2 => k v H2 ρ2 (x1.trans x2) h2 r2⟩
theorem t_ifx (hc : PT X c (tDB X.K gc')) (ha : PT X a (tDB X.K ga)) (hb : PT X b (tDB X.K gb)) : PT X (.IfExp c a b p) (tDB X.K fun σ S => bnd (gc' σ S) (iteD (ga σ) (gb σ))) := by
  refine ⟨fun pins s σ H Q I ⟨ρ, σD, S, d, S', cc, e, k⟩ => ?_⟩
  obtain ⟨x, S1, e1, e2⟩ := bnd_eq e
  refine PyProof.Rows.isTrue_IfExp (thn (hc.run pins s σ H (fun b H1 => if b = true then tDB X.K ga σ H1 Q else tDB X.K gb σ H1 Q) I ⟨ρ, σD, S, x, S1, cc, e1, fun H1 ρ1 x1 h1 => ?_⟩) fun d s1 ⟨H1, I1, q1⟩ => ?_)
  · cases x with
    | true => rw [if_pos rfl]; exact ⟨ρ1, σD, S1, d, S', cc.ext x1 h1, e2, fun H2 ρ2 x2 h2 => k H2 ρ2 (x1.trans x2) h2⟩
    | false => rw [if_neg Bool.false_ne_true]; exact ⟨ρ1, σD, S1, d, S', cc.ext x1 h1, e2, fun H2 ρ2 x2 h2 => k H2 ρ2 (x1.trans x2) h2⟩
  · cases d with
    | true => exact ha.run pins s1 σ H1 Q I1 q1
    | false => exact hb.run pins s1 σ H1 Q I1 q1
theorem _root_.L2.PW.imp {e : Expr} {t t' : TT} (h : PW X e t) (i : ∀ σ H Q, t' σ H Q → t σ H Q) : PW X e t' := ⟨fun wh pins s σ H Q I hw => h.run wh pins s σ H Q I (i σ H Q hw)⟩
theorem w_one {o : BoolOp} (ha : PT X a (tDB X.K ga)) : PW X (.BoolOp o [a] p) (tDB X.K ga) := by
  cases o with
  | And => exact pw_and1 ha
  | Or => exact pw_or1 ha
theorem w_more {o : BoolOp} {r : List Expr} (ha : PT X a (tDB X.K ga)) (hb : PW X (.BoolOp o (b :: r) p) (tDB X.K gb)) : PW X (.BoolOp o (a :: b :: r) p) (tDB X.K fun σ S => bnd (ga σ S) (bopB o fun S1 => gb σ S1)) := by
  have go : ∀ {t : TT}, PW X (.BoolOp o (a :: b :: r) p) t → (∀ σ H Q, tDB X.K (fun σ S => bnd (ga σ S) (bopB o fun S1 => gb σ S1)) σ H Q → t σ H Q) → PW X (.BoolOp o (a :: b :: r) p) (tDB X.K fun σ S => bnd (ga σ S) (bopB o fun S1 => gb σ S1)) := fun h i => h.imp i
  cases o with
  | And =>
    refine go (pw_and ha hb) fun σ H Q ⟨ρ, σD, S, d, S', cc, e, k⟩ => ?_
    obtain ⟨x, S1, e1, e2⟩ := bnd_eq e
    refine ⟨ρ, σD, S, x, S1, cc, e1, fun H1 ρ1 x1 h1 => ?_⟩
    cases x with
    | true => rw [if_pos rfl]; exact ⟨ρ1, σD, S1, d, S', cc.ext x1 h1, e2, fun H2 ρ2 x2 h2 => k H2 ρ2 (x1.trans x2) h2⟩
    | false =>
      rw [if_neg Bool.false_ne_true]
      have e3 := Option.some.inj (show some (false, S1) = some (d, S') from e2)
      injection e3 with e4 e5
      subst e4 e5
      exact k H1 ρ1 x1 h1
  | Or =>
    refine go (pw_or ha hb) fun σ H Q ⟨ρ, σD, S, d, S', cc, e, k⟩ => ?_
    obtain ⟨x, S1, e1, e2⟩ := bnd_eq e
    refine ⟨ρ, σD, S, x, S1, cc, e1, fun H1 ρ1 x1 h1 => ?_⟩
    cases x with
    | false => rw [if_neg Bool.false_ne_true]; exact ⟨ρ1, σD, S1, d, S', cc.ext x1 h1, e2, fun H2 ρ2 x2 h2 => k H2 ρ2 (x1.trans x2) h2⟩
    | true =>
      rw [if_pos rfl]
      have e3 := Option.some.inj (show some (true, S1) = some (d, S') from e2)
      injection e3 with e4 e5
      subst e4 e5
      exact k H1 ρ1 x1 h1
theorem r_more {o : BoolOp} {r : List Expr} (ha : PE X a (tD X.K fa)) (hb : PE X (.BoolOp o (b :: r) p) (tD X.K fb)) : PE X (.BoolOp o (a :: b :: r) p) (tD X.K fun σ S => bnd (fa σ S) (bopD o fun S1 => fb σ S1)) := by
  have bl : ∀ {x : D} {S1 : Store} {kk : Store → Option (D × Store)} {r : D × Store}, bopD o kk x S1 = some r → ∃ b, x = .bl b := fun {x S1 kk r} h => by
    cases x <;> first | (cases h; done) | exact ⟨_, rfl⟩
  cases o with
  | And =>
    refine (pe_and ha hb).imp fun σ H Q ⟨ρ, σD, S, d, S', cc, e, k⟩ => ?_
    obtain ⟨x, S1, e1, e2⟩ := bnd_eq e
    obtain ⟨z, rfl⟩ := bl e2
    refine ⟨ρ, σD, S, _, S1, cc, e1, fun v H1 ρ1 x1 h1 r1 => ⟨z, r1, ?_⟩⟩
    cases z with
    | true => rw [if_pos rfl]; exact ⟨ρ1, σD, S1, d, S', cc.ext x1 h1, e2, fun v H2 ρ2 x2 h2 r2 => k v H2 ρ2 (x1.trans x2) h2 r2⟩
    | false =>
      rw [if_neg Bool.false_ne_true]
      have e3 := Option.some.inj (show some (D.bl false, S1) = some (d, S') from e2)
      injection e3 with e4 e5
      subst e4 e5
      exact k _ H1 ρ1 x1 h1 rfl
  | Or =>
    refine (pe_or ha hb).imp fun σ H Q ⟨ρ, σD, S, d, S', cc, e, k⟩ => ?_
    obtain ⟨x, S1, e1, e2⟩ := bnd_eq e
    obtain ⟨z, rfl⟩ := bl e2
    refine ⟨ρ, σD, S, _, S1, cc, e1, fun v H1 ρ1 x1 h1 r1 => ⟨z, r1, ?_⟩⟩
    cases z with
    | false => rw [if_neg Bool.false_ne_true]; exact ⟨ρ1, σD, S1, d, S', cc.ext x1 h1, e2, fun v H2 ρ2 x2 h2 r2 => k v H2 ρ2 (x1.trans x2) h2 r2⟩
    | true =>
      rw [if_pos rfl]
      have e3 := Option.some.inj (show some (D.bl true, S1) = some (d, S') from e2)
      injection e3 with e4 e5
      subst e4 e5
      exact k _ H1 ρ1 x1 h1 rfl

/-! ### subscripts -/
theorem atI_ok {K : PySem.W.Frag} {H : Hp} {ρ : List Addr} {ds : List D} {vs : List V} {i : Int} {d : D} (r : RepL K H ρ ds vs) (e : atI ds i = some d) : ∃ v, atI vs i = some v ∧ Rep K H ρ d v := by
  unfold atI at e ⊢
  rw [← r.length]
  cases h : ixN ds.length i with
  | none => rw [h] at e; cases e
  | some j =>
    rw [h] at e
    exact r.get (i := j) e
theorem ix_D (hu : X.A.units + 1 < cLine) : IxR X (lift2 X.K fun x y S => opt (ixD x y S) S) := by
  intro value slice pins s σ H x y v u Q I rx ry ⟨ρ, S, dx, dy, d, S', hp, r1, r2, e, k⟩ hs
  obtain ⟨e1, e0⟩ := opt_eq e
  subst S'
  have dic : ∀ {m : Nat} {kvs : List (Key × D)} {kk : Key}, dx = .loc m → S[m]? = some (.dic kvs) → getG kvs kk = some d → y = kV kk → wpAny (model X.prog X.w) X.A (PyProof.Rows.subscriptTail value slice v u) (EP X pins σ Q) X.xe s := fun {m kvs kk} h1 h2 h3 h4 => by
    subst h1 h4
    obtain ⟨a, ws, rfl, _, ha, k1, k2⟩ := dic_at hp h2 r1
    obtain ⟨w, g1, g2⟩ := (getG_ok k1 k2).1 d h3
    have g : DGet H a (kV kk) (some w) := by rw [← g1]; exact DGet.k ha
    cases rx
    exact PyProof.Rows.tail_any (dict_typeIs I g) PySem.F.slot_dict_getitem.lookup (d_getItem hu I g ry fun w' s3 I3 rw' => ⟨w, H, I3, rw', k w H ρ Ext.refl hp g2⟩) hs
  unfold ixD at e1
  split at e1
  · rename_i kk
    split at e1
    · rename_i m
      split at e1
      · rename_i ds hS
        obtain ⟨a, vs, rfl, _, ha, rs⟩ := lst_at hp hS r1
        obtain ⟨w, g1, g2⟩ := atI_ok rs e1
        exact ix_list value slice pins s σ H _ y v u Q I rx ry ⟨a, vs, kk, w, rfl, r2, .of ha, g1, k w H ρ Ext.refl hp g2⟩ hs
      · rename_i kvs hS
        exact dic rfl hS e1 r2
      · cases e1
    · obtain ⟨a, vs, rfl, ha, rs⟩ := r1
      obtain ⟨w, g1, g2⟩ := atI_ok rs e1
      exact ix_tup value slice pins s σ H _ y v u Q I rx ry ⟨a, vs, kk, w, rfl, r2, ha.sq, g1, k w H ρ Ext.refl hp g2⟩ hs
    · obtain ⟨a, vs, rfl, ha, rs⟩ := r1
      obtain ⟨w, g1, g2⟩ := atI_ok rs e1
      exact ix_list value slice pins s σ H _ y v u Q I rx ry ⟨a, vs, kk, w, rfl, r2, ha.sq, g1, k w H ρ Ext.refl hp g2⟩ hs
    · cases e1
  · split at e1
    · split at e1
      · rename_i kvs hS
        exact dic rfl hS e1 r2
      · cases e1
    · cases e1
  · cases e1
theorem r_ix (hu : X.A.units + 1 < cLine) (ha : PE X a (tD X.K fa)) (hb : PE X b (tD X.K fb)) (hs : PlainIx b) :
    PE X (.Subscript a b p) (tD X.K fun σ S => bnd (fa σ S) fun x S1 => bnd (fb σ S1) fun y S2 => bnd (opt (ixD x y S2) S2) fun z S3 => some (gc S z S3)) := by
  refine (pe_gc ((pe_ix (ix_D hu) ha hb hs).imp fun σ H Q => tD_2)).imp fun σ H Q ⟨ρ, σD, S, d, S', cc, e, k⟩ => ⟨ρ, σD, S, d, S', cc, ?_, k⟩
  obtain ⟨x, S1, e1, e2⟩ := bnd_eq e
  obtain ⟨y, S2, e3, e4⟩ := bnd_eq e2
  simp only [e1, e3, bnd_some]
  exact e4
def tDo (K : PySem.W.Frag) (f : StD → Store → Option (Option Int × Store)) : TO := fun σ H Q => ∃ ρ σD S b S', Cor K H ρ σ σD S ∧ f σD S = some (b, S') ∧ ∀ H' ρ', Ext H ρ H' ρ' → HRep K H' ρ' S' → Q b H'
theorem o_none : PO X none (tDo X.K fun _ S => some (none, S)) := ⟨fun pins s σ H Q I ⟨ρ, σD, S, b, S', cc, e, k⟩ => by
  have e3 := Option.some.inj e
  injection e3 with e4 e5
  subst e4 e5
  exact po_none.run pins s σ H Q I (k H ρ Ext.refl cc.hp)⟩
theorem o_some (ha : PE X a (tD X.K fa)) : PO X (some a) (tDo X.K fun σ S => bnd (bnd (fa σ S) intD) fun i S1 => some (some i, S1)) := ⟨fun pins s σ H Q I ⟨ρ, σD, S, b, S', cc, e, k⟩ => by
  obtain ⟨i, S1, e1, e2⟩ := bnd_eq e
  obtain ⟨x, S2, e3, e4⟩ := bnd_eq e1
  have e5 := Option.some.inj e2
  injection e5 with e6 e7
  subst e6 e7
  cases x <;> first | (cases e4; done) | skip
  have e8 := Option.some.inj e4
  injection e8 with e9 e10
  subst e9 e10
  exact (po_some ha).run pins s σ H Q I ⟨ρ, σD, S, _, _, cc, e3, fun v H1 ρ1 x1 h1 r1 => ⟨_, r1, k H1 ρ1 x1 h1⟩⟩⟩
theorem sl_D : SlR X (fun x lo hi H Q => ∃ ρ S dx d S', HRep X.K H ρ S ∧ Rep X.K H ρ dx x ∧ slD dx lo hi S = some (d, S') ∧ After X.K H ρ S' d Q) := by
  intro pins s σ H x v vl vu lo hi sl Q I rx hs pl pu ⟨ρ, S, dx, d, S', hp, r1, e, k⟩
  have fin : ∀ {dd : D} {SS : Store}, some (dd, SS) = some (d, S') → dd = d ∧ SS = S' := fun h => by
    have := Option.some.inj h
    injection this with h1 h2
    exact ⟨h1, h2⟩
  unfold slD at e
  split at e
  · obtain ⟨rfl, rfl⟩ := fin e
    obtain ⟨a, vs, rfl, ha, rs⟩ := r1
    refine sl_tupF pins s σ H _ v vl vu lo hi sl Q I rx hs pl pu ⟨a, vs, rfl, ha.sq, fun hw => ?_, fun _ p o hn ho => ?_⟩
    · refine k _ H ρ Ext.refl hp ⟨a, vs, rfl, ha, ?_⟩
      have := rs.cut lo hi
      unfold cutV at this
      rw [hw.1, hw.2] at this
      simpa using this
    · exact k _ _ ρ (Ext.newT hp hn) (hp.newT hn) ⟨p, _, rfl, .new ho, (Ext.newT hp hn).repL hp _ _ (rs.cut lo hi)⟩
  · obtain ⟨rfl, rfl⟩ := fin e
    obtain ⟨a, vs, rfl, ha, rs⟩ := r1
    exact sl_list pins s σ H _ v vl vu lo hi sl Q I rx hs pl pu ⟨a, vs, rfl, ha.sq, fun p hn => k _ _ (ρ ++ [p]) (Ext.newL hp hn) (hp.newLst hn (rs.cut lo hi)) hp.newLoc⟩
  · split at e
    · rename_i ds hS
      obtain ⟨rfl, rfl⟩ := fin e
      obtain ⟨a, vs, rfl, _, ha, rs⟩ := lst_at hp hS r1
      exact sl_list pins s σ H _ v vl vu lo hi sl Q I rx hs pl pu ⟨a, vs, rfl, .of ha, fun p hn => k _ _ (ρ ++ [p]) (Ext.newL hp hn) (hp.newLst hn (rs.cut lo hi)) hp.newLoc⟩
    · cases e
  · cases e
theorem r_sl {lo hi : Option Expr} {fl fh : StD → Store → Option (Option Int × Store)} {p2 : Pos} (ha : PE X a (tD X.K fa)) (hl : PO X lo (tDo X.K fl)) (hh : PO X hi (tDo X.K fh)) :
    PE X (.Subscript a (.Slice lo hi none p2) p) (tD X.K fun σ S => bnd (fa σ S) fun x S1 => bnd (fl σ S1) fun l S2 => bnd (fh σ S2) fun h S3 => slD x l h S3) :=
  (pe_slice sl_D ha hl hh).imp fun σ H Q ⟨ρ, σD, S, d, S', cc, e, k⟩ => by
    obtain ⟨x, S1, e1, e2⟩ := bnd_eq e
    obtain ⟨l, S2, e3, e4⟩ := bnd_eq e2
    obtain ⟨h, S3, e5, e6⟩ := bnd_eq e4
    refine ⟨ρ, σD, S, x, S1, cc, e1, fun v H1 ρ1 x1 h1 r1 => ⟨ρ1, σD, S1, l, S2, cc.ext x1 h1, e3, fun H2 ρ2 x2 h2 => ⟨ρ2, σD, S2, h, S3, cc.ext (x1.trans x2) h2, e5, fun H3 ρ3 x3 h3 => ?_⟩⟩⟩
    exact ⟨ρ3, S3, x, d, S', h3, x3.rep h2 _ _ (x2.rep h1 _ _ r1), e6, fun v' H' ρ' x' h' r' => k v' H' ρ' (((x1.trans x2).trans x3).trans x') h' r'⟩
end
end
end Mi

end

section
/-! Mi5: built-in functions and methods. -/
namespace Mi
open PySem PySem.Spec L2
def liftN (K : PySem.W.Frag) (g : List D → Store → Option (D × Store)) : List V → Hp → VK → Prop := fun xs H Q => ∃ ρ S ds d S', HRep K H ρ S ∧ RepL K H ρ ds xs ∧ g ds S = some (d, S') ∧ After K H ρ S' d Q
theorem tD_N {K : PySem.W.Frag} {g : StD → Store → Option (List D × Store)} {F : List D → Store → Option (D × Store)} {σ : L2.St} {H : Hp} {Q : VK} (h : tD K (fun τ S => bnd (g τ S) fun ds S1 => F ds S1) σ H Q) : tCB (liftN K F) (tDs K g) σ H Q := by
  obtain ⟨ρ, σD, S, d, S', c, e, k⟩ := h
  obtain ⟨ds, S1, e1, e2⟩ := bnd_eq e
  exact ⟨ρ, σD, S, ds, S1, c, e1, fun vs H1 ρ1 x1 h1 r1 => ⟨ρ1, S1, ds, d, S', h1, r1, e2, fun v' H' ρ' x' h' r' => k v' H' ρ' (x1.trans x') h' r'⟩⟩
theorem inj2 {α β : Type} {a a' : α} {b b' : β} (h : some (a, b) = some (a', b')) : a = a' ∧ b = b' := by
  have := Option.some.inj h
  injection this with h1 h2
  exact ⟨h1, h2⟩
section
variable {X : Cx}
theorem repL1 {K : PySem.W.Frag} {H : Hp} {ρ : List Addr} {d : D} {xs : List V} (r : RepL K H ρ [d] xs) : ∃ v, xs = [v] ∧ Rep K H ρ d v := by
  obtain ⟨v, r', rfl, h1, h2⟩ := r
  cases h2
  exact ⟨v, rfl, h1⟩
theorem repL2 {K : PySem.W.Frag} {H : Hp} {ρ : List Addr} {d e : D} {xs : List V} (r : RepL K H ρ [d, e] xs) : ∃ v w, xs = [v, w] ∧ Rep K H ρ d v ∧ Rep K H ρ e w := by
  obtain ⟨v, r', rfl, h1, h2⟩ := r
  obtain ⟨w, rfl, h3⟩ := repL1 h2
  exact ⟨v, w, rfl, h1, h3⟩
theorem len_D : CallR X (.builtin "len") (liftN X.K (biD .len)) := by
  intro pins s σ H xs us Q I r ⟨ρ, S, ds, d, S', hp, rs, e, k⟩
  match ds, e with
  | [], e => cases e
  | _ :: _ :: _, e => cases e
  | [a], e =>
    obtain ⟨v, rfl, ra⟩ := repL1 rs
    have seq : ∀ {es : List D}, seqOf S a = some es → d = .int es.length → S' = S → wpAny (model X.prog X.w) X.A (call (.builtin "len") us) (EP X pins σ Q) X.xe s := fun {es} h1 h2 h3 => by
      subst h2 h3
      obtain ⟨b, vs, rfl, hq, rr⟩ := seq_at hp h1 ra
      have hl := rr.length
      rcases hq with hq | hq
      · exact call_len pins s σ H _ us Q I r ⟨_, vs.length, rfl, .inl ⟨vs, hq, rfl⟩, by rw [← hl]; exact k _ H ρ Ext.refl hp rfl⟩
      · exact call_len pins s σ H _ us Q I r ⟨_, vs.length, rfl, .inr ⟨vs, hq, rfl⟩, by rw [← hl]; exact k _ H ρ Ext.refl hp rfl⟩
    cases a with
    | str x =>
      unfold biD at e
      dsimp only at e
      split at e
      · rename_i hz
        obtain ⟨rfl, rfl⟩ := inj2 e
        cases ra
        exact call_len pins s σ H _ us Q I r ⟨_, x.length, rfl, ⟨hz, rfl⟩, k _ H ρ Ext.refl hp rfl⟩
      · cases e
    | loc m =>
      unfold biD at e
      dsimp only at e
      split at e
      · rename_i es hS
        obtain ⟨rfl, rfl⟩ := inj2 e
        exact seq (by unfold seqOf; dsimp only; rw [hS]) rfl rfl
      · rename_i kvs hS
        obtain ⟨rfl, rfl⟩ := inj2 e
        obtain ⟨b, ws, rfl, _, ha, k1, _⟩ := dic_at hp hS ra
        have hl : ws.length = kvs.length := by simpa using congrArg List.length k1
        exact call_lenD pins s σ H _ us Q I r ⟨b, ws, rfl, ha, by rw [hl]; exact k _ H ρ Ext.refl hp rfl⟩
      · cases e
    | tup es =>
      obtain ⟨rfl, rfl⟩ := inj2 (show some (D.int es.length, S) = some (d, S') from e)
      exact seq rfl rfl rfl
    | ro es =>
      obtain ⟨rfl, rfl⟩ := inj2 (show some (D.int es.length, S) = some (d, S') from e)
      exact seq rfl rfl rfl
    | _ => cases e
theorem int_D : CallR X (.type "int") (liftN X.K (biD .int)) := by
  intro pins s σ H xs us Q I r ⟨ρ, S, ds, d, S', hp, rs, e, k⟩
  unfold biD at e
  split at e <;> first | contradiction | skip
  · obtain ⟨rfl, rfl⟩ := inj2 e
    obtain ⟨v, rfl, ra⟩ := repL1 rs
    cases ra
    exact call_int1 pins s σ H _ us Q I r (.inl ⟨_, rfl, k _ H ρ Ext.refl hp rfl⟩)
  · obtain ⟨rfl, rfl⟩ := inj2 e
    obtain ⟨v, rfl, ra⟩ := repL1 rs
    cases ra
    exact call_int1 pins s σ H _ us Q I r (.inr ⟨_, rfl, k _ H ρ Ext.refl hp rfl⟩)
theorem tuple_D : CallR X (.type "tuple") (liftN X.K (biD .tuple)) := by
  intro pins s σ H xs us Q I r ⟨ρ, S, ds, d, S', hp, rs, e, k⟩
  unfold biD at e
  split at e <;> first | contradiction | skip
  · obtain ⟨rfl, rfl⟩ := inj2 e
    obtain ⟨v, rfl, ra⟩ := repL1 rs
    obtain ⟨b, vs, rfl, ha, rr⟩ := id ra
    exact call_tupleF pins s σ H _ us Q I r ⟨b, vs, rfl, .inr ⟨ha.sq, k _ H ρ Ext.refl hp ra⟩⟩
  · rename_i a hne _
    obtain ⟨v, rfl, ra⟩ := repL1 rs
    obtain ⟨es, e1, e2⟩ := Option.map_eq_some_iff.mp e
    injection e2 with e3 e4
    subst e3 e4
    obtain ⟨b, vs, rfl, hq, rr⟩ := seq_at hp e1 ra
    have hq' : SqL X.K H b vs := by
      rcases hq with hq | hq
      · exact hq
      · cases a with
        | tup q => exact absurd rfl (hne q)
        | ro q =>
          cases e1
          obtain ⟨b', vs', e5, h5, r5⟩ := ra
          cases e5
          obtain ⟨i1, v1, p1, _⟩ := I.list h5.sq
          obtain ⟨i2, v2, p2, _⟩ := I.tuple hq
          obtain ⟨o1, n1, g1, c1, _⟩ := p1
          obtain ⟨o2, g2, c2, _⟩ := p2
          rw [g1] at g2; cases g2
          rw [c1] at c2; exact absurd c2 (by decide)
        | loc m =>
          unfold seqOf at e1
          dsimp only at e1
          split at e1
          · rename_i q hS
            obtain ⟨b', vs', e5, _, h5, r5⟩ := lst_at hp hS ra
            cases e5
            obtain ⟨i1, v1, p1, _⟩ := I.list (.of h5)
            obtain ⟨i2, v2, p2, _⟩ := I.tuple hq
            obtain ⟨o1, n1, g1, c1, _⟩ := p1
            obtain ⟨o2, g2, c2, _⟩ := p2
            rw [g1] at g2; cases g2
            rw [c1] at c2; exact absurd c2 (by decide)
          · cases e1
        | _ => cases e1
    exact call_tupleF pins s σ H _ us Q I r ⟨b, vs, rfl, .inl ⟨hq', fun p o hn ho => k _ _ ρ (Ext.newT hp hn) (hp.newT hn) ⟨p, _, rfl, .new ho, (Ext.newT hp hn).repL hp _ _ rr⟩⟩⟩
theorem list_D : CallR X (.type "list") (liftN X.K (biD .list)) := by
  intro pins s σ H xs us Q I r ⟨ρ, S, ds, d, S', hp, rs, e, k⟩
  unfold biD at e
  split at e <;> first | contradiction | skip
  obtain ⟨v, rfl, ra⟩ := repL1 rs
  obtain ⟨es, e1, e2⟩ := Option.map_eq_some_iff.mp e
  injection e2 with e3 e4
  subst e3 e4
  obtain ⟨b, vs, rfl, hq, rr⟩ := seq_at hp e1 ra
  exact call_list_of pins s σ H _ us Q I r ⟨b, vs, rfl, hq, fun p hn => k _ _ (ρ ++ [p]) (Ext.newL hp hn) (hp.newLst hn rr) hp.newLoc⟩
theorem min_D (hc : X.calm = true) : CallR X (.builtin "min") (liftN X.K (biD .min)) := by
  intro pins s σ H xs us Q I r ⟨ρ, S, ds, d, S', hp, rs, e, k⟩
  unfold biD at e
  split at e <;> first | contradiction | skip
  obtain ⟨rfl, rfl⟩ := inj2 e
  obtain ⟨v, w, rfl, ra, rb⟩ := repL2 rs
  cases ra
  cases rb
  exact call_min2 hc pins s σ H _ us Q I r ⟨_, _, rfl, k _ H ρ Ext.refl hp rfl⟩
theorem max_D (hc : X.calm = true) : CallR X (.builtin "max") (liftN X.K (biD .max)) := by
  intro pins s σ H xs us Q I r ⟨ρ, S, ds, d, S', hp, rs, e, k⟩
  unfold biD at e
  split at e <;> first | contradiction | skip
  obtain ⟨rfl, rfl⟩ := inj2 e
  obtain ⟨v, w, rfl, ra, rb⟩ := repL2 rs
  cases ra
  cases rb
  exact call_max2 hc pins s σ H _ us Q I r ⟨_, _, rfl, k _ H ρ Ext.refl hp rfl⟩
theorem abs_D : CallR X (.builtin "abs") (liftN X.K (biD .abs)) := by
  intro pins s σ H xs us Q I r ⟨ρ, S, ds, d, S', hp, rs, e, k⟩
  unfold biD at e
  split at e <;> first | contradiction | skip
  obtain ⟨rfl, rfl⟩ := inj2 e
  obtain ⟨v, rfl, ra⟩ := repL1 rs
  cases ra
  exact call_abs pins s σ H _ us Q I r ⟨_, rfl, k _ H ρ Ext.refl hp rfl⟩
theorem pairs3 {pins : List (Addr × Obj)} {σ : L2.St} {H : Hp} {s : Shared} (I : L2.Inv X pins σ H s) : ∀ {ps : List Addr} {kvs : List (Key × V)}, Paired (fun p kv => SqT X.K H p [kV kv.1, kv.2]) ps kvs →
    ∃ tr : List (Key × Value × Value), KV kvs (tr.map fun t => (t.1, t.2.2)) ∧ tr.length = ps.length ∧ ∀ (j : Nat) (t : Key × Value × Value), tr[j]? = some t → ∃ b, ps[j]? = some b ∧ PyProof.Rows.IsTup s.heap b #[t.2.1, t.2.2] ∧ keyIs t.1 t.2.1 = true
  | _, _, .nil => ⟨[], .nil, rfl, fun j q e => by simp at e⟩
  | _, _, .cons (a := p) (b := kv) h t => by
    obtain ⟨tr, r, hl, hp⟩ := pairs3 I t
    obtain ⟨its, rv, ht, _⟩ := I.tuple h
    obtain ⟨u, y, ei, ru, ry⟩ := vals2 rv
    subst ei
    refine ⟨(kv.1, u, y) :: tr, .cons ⟨rfl, ry⟩ r, by rw [List.length_cons, List.length_cons, hl], fun j q e => ?_⟩
    cases j with
    | zero =>
      have e' : (kv.1, u, y) = q := Option.some.inj e
      subst e'
      exact ⟨p, rfl, ht, kV_is (P := X.prog) (w := X.w) ru⟩
    | succ j =>
      obtain ⟨b, e1, e2, e3⟩ := hp j q (by simpa using e)
      exact ⟨b, by simpa using e1, e2, e3⟩
/-- dict(xs) of a tuple of pairs -/
theorem call_dictT (hcalm : X.calm = true) : CallR X (.type "dict") (fun xs H Q => ∃ (a : Addr) (ps : List Addr) (kvs : List (Key × V)), xs = [.ref a] ∧ TupAt H a (ps.map V.ref) ∧ Paired (fun p kv => SqT X.K H p [kV kv.1, kv.2]) ps kvs ∧
    ∀ p, H p = none → Q (.ref p) (upd H p (.dK (mergeK [] kvs)))) := by
  intro pins s σ H xs us Q I r ⟨a, ps, kvs, ex, hq, hp, q⟩
  subst ex
  obtain ⟨u, eu, rx⟩ := vals1 r
  subst eu
  cases rx
  obtain ⟨o, ho, hdn⟩ := hq
  obtain ⟨hget, hz, its, rv, o', ho', hc, n, hdat⟩ := I.hok a _ ho
  rw [hget] at ho'; cases ho'
  have ei := refs_at rv
  subst ei
  rw [List.length_map] at hz
  obtain ⟨tr, rel, hl, hpr⟩ := pairs3 I hp
  have key := PySem.call_dict_pairs (prog := X.prog) (w := X.w) (A := X.A) (s := s) (E := X.xe) (Q := EP X pins σ Q) (knd := mixKind X.prog X.w) (kvs := tr.map fun t => (t.1, t.2.2))
    (PySem.PairArg.tuple a (ps.map Value.ref).toArray (fun j => ps.getD j 0) (tr.map (·.2))) (I.ok.hd hcalm)
    ⟨⟨o, n, hget, hc, hdn, hdat⟩, by simp [hl], fun j k v hj => ?_⟩ ⟨by simp, fun i key v hi => ?_⟩ (by simp [hl]; exact hz) fun h' tk hd' kk => ?_
  · exact key
  · rw [List.getElem?_map] at hj
    obtain ⟨t, ht, et⟩ := Option.map_eq_some_iff.mp hj
    obtain ⟨b, e1, e2, e3⟩ := hpr j t ht
    have e4 : ps.getD j 0 = b := by rw [List.getD_eq_getElem?_getD, e1]; rfl
    dsimp only
    rw [e4]
    have et' : t.2 = (k, v) := et
    rw [et'] at e2
    exact ⟨by simp [e1], .inl e2⟩
  · have hi' : (tr.map (·.2))[i]? = some (key, v) := hi
    rw [List.getElem?_map] at hi'
    obtain ⟨t, ht, et⟩ := Option.map_eq_some_iff.mp hi'
    obtain ⟨b, e1, e2, e3⟩ := hpr i t ht
    have et' : t.2 = (key, v) := et
    refine ⟨t.1, by rw [List.getElem?_map, ht]; simp [et'], ?_⟩
    rw [et'] at e3
    exact e3
  · have hm : (s.heap.objs.size == sysModules) = false := beq_eq_false_iff_ne.mpr (Nat.ne_of_gt I.big)
    have hlen : (mergeK [] kvs).length ≤ sizeLine := by
      refine Nat.le_trans (length_mergeK kvs []) ?_
      rw [List.length_nil, Nat.zero_add, rel.length, List.length_map, hl]
      exact hz
    exact ⟨.ref s.heap.objs.size, upd H s.heap.objs.size (.dK (mergeK [] kvs)), I.laid (t' := tk) (fun b o e => kk b o (by simp) e) (Nat.le_refl _) (show ObjOk X.prog X.w _ _ _ (.dK (mergeK [] kvs)) from ⟨hlen, hm, _, KV.merge rel .nil, hd'⟩), rfl, q _ (I.hok.fresh (Nat.le_refl _))⟩
theorem pairKV_ok {K : PySem.W.Frag} {H : Hp} {ρ : List Addr} : ∀ {ds : List D} {kvs : List (Key × D)} {vs : List V}, mapO pairKV ds = some kvs → RepL K H ρ ds vs →
    ∃ (ps : List Addr) (ws : List (Key × V)), vs = ps.map V.ref ∧ Paired (fun p kv => SqT K H p [kV kv.1, kv.2]) ps ws ∧ ws.map (·.1) = kvs.map (·.1) ∧ RepL K H ρ (kvs.map (·.2)) (ws.map (·.2))
  | [], kvs, vs, e, r => by cases e; cases r; exact ⟨[], [], rfl, .nil, rfl, rfl⟩
  | d :: ds, kvs, vs, e, r => by
    obtain ⟨v, vr, rfl, r1, r2⟩ := r
    unfold mapO at e
    split at e
    · rename_i b hb
      split at e
      · rename_i br hbr
        cases e
        obtain ⟨ps, ws, rfl, h1, h2, h3⟩ := pairKV_ok hbr r2
        unfold pairKV at hb
        split at hb
        · rename_i kk vv
          obtain ⟨key, hk, rfl⟩ := Option.map_eq_some_iff.mp hb
          obtain ⟨a, ys, rfl, ha, rr⟩ := r1
          obtain ⟨y1, y2, rfl, ry1, ry2⟩ := repL2 rr
          have := keyOf_ok hk ry1
          subst this
          refine ⟨a :: ps, (key, y2) :: ws, rfl, .cons ha.sq h1, by simp [h2], y2, ws.map (·.2), rfl, ry2, h3⟩
        · cases hb
      · cases e
    · cases e
theorem putK_ok {K : PySem.W.Frag} {H : Hp} {ρ : List Addr} {κ : Type} [DecidableEq κ] {k : κ} {d : D} {v : V} (rd : Rep K H ρ d v) {kvs : List (κ × D)} {ws : List (κ × V)} (h1 : ws.map (·.1) = kvs.map (·.1)) (h2 : RepL K H ρ (kvs.map (·.2)) (ws.map (·.2))) :
    (putK ws k v).map (·.1) = (putG kvs k d).map (·.1) ∧ RepL K H ρ ((putG kvs k d).map (·.2)) ((putK ws k v).map (·.2)) := by
  have anyEq : (ws.any fun kv => decide (kv.1 = k)) = (kvs.any fun kv => decide (kv.1 = k)) := by
    have e1 : (ws.any fun kv => decide (kv.1 = k)) = (ws.map (·.1)).any fun x => decide (x = k) := by rw [List.any_map]; rfl
    have e2 : (kvs.any fun kv => decide (kv.1 = k)) = (kvs.map (·.1)).any fun x => decide (x = k) := by rw [List.any_map]; rfl
    rw [e1, e2, h1]
  unfold putK putG
  rw [anyEq]
  split
  · constructor
    · have f1 : ∀ l : List (κ × V), (l.map (fun kv => if kv.1 = k then (kv.1, v) else kv)).map (·.1) = l.map (·.1) := fun l => by
        rw [List.map_map]; apply List.map_congr_left; intro x _; simp only [Function.comp]; split <;> rfl
      have f2 : ∀ l : List (κ × D), (l.map (fun kv => if kv.1 = k then (kv.1, d) else kv)).map (·.1) = l.map (·.1) := fun l => by
        rw [List.map_map]; apply List.map_congr_left; intro x _; simp only [Function.comp]; split <;> rfl
      rw [f1, f2, h1]
    · rename_i hany
      clear anyEq hany
      induction kvs generalizing ws with
      | nil =>
        have : ws = [] := by simpa using h1
        subst this; rfl
      | cons p r ih =>
        cases ws with
        | nil => simp at h1
        | cons w ws =>
          simp only [List.map_cons, List.cons.injEq] at h1
          obtain ⟨y, yr, ey, r1, r2⟩ := h2
          simp only [List.map_cons, List.cons.injEq] at ey
          obtain ⟨ey1, ey2⟩ := ey
          subst ey1 ey2
          have hh2 := ih h1.2 r2
          simp only [List.map_cons]
          rw [h1.1]
          split
          · exact ⟨v, _, rfl, rd, hh2⟩
          · exact ⟨w.2, _, rfl, r1, hh2⟩
  · simp only [List.map_append, List.map_cons, List.map_nil]
    exact ⟨by rw [h1], h2.append ⟨v, [], rfl, rd, rfl⟩⟩
theorem mergeK_ok {K : PySem.W.Frag} {H : Hp} {ρ : List Addr} : ∀ {more : List (Key × D)} {mw : List (Key × V)} {kvs : List (Key × D)} {ws : List (Key × V)}, mw.map (·.1) = more.map (·.1) → RepL K H ρ (more.map (·.2)) (mw.map (·.2)) →
    ws.map (·.1) = kvs.map (·.1) → RepL K H ρ (kvs.map (·.2)) (ws.map (·.2)) →
    (mergeK ws mw).map (·.1) = (more.foldl (fun acc p => putG acc p.1 p.2) kvs).map (·.1) ∧ RepL K H ρ ((more.foldl (fun acc p => putG acc p.1 p.2) kvs).map (·.2)) ((mergeK ws mw).map (·.2))
  | [], mw, kvs, ws, e, _, h1, h2 => by
    have : mw = [] := by simpa using e
    subst this; exact ⟨h1, h2⟩
  | p :: more, mw, kvs, ws, e, r, h1, h2 => by
    cases mw with
    | nil => simp at e
    | cons w mw =>
      simp only [List.map_cons, List.cons.injEq] at e
      obtain ⟨y, yr, ey, r1, r2⟩ := r
      simp only [List.map_cons, List.cons.injEq] at ey
      obtain ⟨ey1, ey2⟩ := ey
      subst ey1 ey2
      have := putK_ok (k := p.1) r1 h1 h2
      have eq : mergeK ws (w :: mw) = mergeK (putK ws p.1 w.2) mw := by rw [← e.1]; rfl
      rw [eq]
      exact mergeK_ok (more := more) (kvs := putG kvs p.1 p.2) e.2 r2 this.1 this.2
theorem dict_D (hc : X.calm = true) : CallR X (.type "dict") (liftN X.K (biD .dict)) := by
  intro pins s σ H xs us Q I r ⟨ρ, S, ds, d, S', hp, rs, e, k⟩
  unfold biD at e
  split at e <;> first | contradiction | skip
  rename_i a _
  obtain ⟨v, rfl, ra⟩ := repL1 rs
  split at e
  · rename_i es h1
    obtain ⟨kvs, e1, e2⟩ := Option.map_eq_some_iff.mp e
    injection e2 with e3 e4
    subst e3 e4
    have fin : ∀ {ws : List (Key × V)}, ws.map (·.1) = kvs.map (·.1) → RepL X.K H ρ (kvs.map (·.2)) (ws.map (·.2)) → ∀ p, H p = none → Q (.ref p) (upd H p (.dK (mergeK [] ws))) := fun {ws} g1 g2 p hn => by
      obtain ⟨m1, m2⟩ := mergeK_ok (kvs := []) (ws := []) g1 g2 rfl rfl
      exact k _ _ (ρ ++ [p]) (Ext.newL hp hn) (hp.newL hn ⟨_, upd_same, m1, (Ext.newL hp hn).repL hp _ _ m2⟩) hp.newLoc
    cases a with
    | tup q =>
      cases h1
      obtain ⟨b, vs, rfl, ha, rr⟩ := ra
      obtain ⟨ps, ws, rfl, g0, g1, g2⟩ := pairKV_ok e1 rr
      exact call_dictT hc pins s σ H _ us Q I r ⟨b, ps, ws, rfl, ha, g0, fin g1 g2⟩
    | ro q =>
      cases h1
      obtain ⟨b, vs, rfl, ha, rr⟩ := ra
      obtain ⟨ps, ws, rfl, g0, g1, g2⟩ := pairKV_ok e1 rr
      exact call_dictP hc pins s σ H _ us Q I r ⟨b, ps, ws, rfl, ha.sq, g0, fin g1 g2⟩
    | loc m =>
      unfold seqOf at h1
      dsimp only at h1
      split at h1
      · rename_i q hS
        cases h1
        obtain ⟨b, vs, rfl, _, ha, rr⟩ := lst_at hp hS ra
        obtain ⟨ps, ws, rfl, g0, g1, g2⟩ := pairKV_ok e1 rr
        exact call_dictP hc pins s σ H _ us Q I r ⟨b, ps, ws, rfl, .of ha, g0, fin g1 g2⟩
      · cases h1
    | _ => cases h1
  · cases e
/-! ### max, min with a default -/
theorem intsOf_ok {K : PySem.W.Frag} {H : Hp} {ρ : List Addr} : ∀ {ds : List D} {ns : List Int} {vs : List V}, intsOf ds = some ns → RepL K H ρ ds vs → vs = ns.map V.int
  | [], ns, vs, e, r => by cases e; cases r; rfl
  | d :: ds, ns, vs, e, r => by
    obtain ⟨v, vr, rfl, r1, r2⟩ := r
    cases d with
    | int i =>
      obtain ⟨ms, e1, e2⟩ := Option.map_eq_some_iff.mp (show (intsOf ds).map (i :: ·) = some ns from e)
      subst e2
      cases r1
      rw [intsOf_ok e1 r2]; rfl
    | _ => cases e
theorem alike_ints (ns : List Int) : PySem.W.AlikeAll (ns.map .int) := by
  refine ⟨fun x hx y hy => ?_, fun x hx => ?_⟩
  · obtain ⟨i, _, rfl⟩ := List.mem_map.mp hx
    obtain ⟨j, _, rfl⟩ := List.mem_map.mp hy
    simp [PySem.W.alike]
  · obtain ⟨i, _, rfl⟩ := List.mem_map.mp hx
    intro z; cases z
theorem depth_ints : ∀ ns : List Int, PyData.depthAll (ns.map .int) = 0
  | [] => by simp [PyData.depthAll]
  | n :: ns => by simp [PyData.depthAll, PyData.depth, depth_ints ns]
theorem dp_ints (K : PySem.W.Frag) (H : Hp) : ∀ ns : List Int, DpAll K H (ns.map V.int) (ns.map .int)
  | [] => .nil
  | n :: ns => .cons (.int n) (dp_ints K H ns)
theorem reads_int {h : Heap} {v : Value} {i : Int} {as : List Addr} (r : Reads h v (.int i) as) : ∃ t, v = .int i t := by
  cases r
  exact ⟨_, rfl⟩
def rMxd (K : PySem.W.Frag) (gr : Bool) : List V → List V → Hp → VK → Prop := fun xs zs H Q => ∃ (a : Addr) (ns : List Int) (z : V), xs = [.ref a] ∧ zs = [z] ∧ (SqL K H a (ns.map V.int) ∨ SqT K H a (ns.map V.int)) ∧
  (ns = [] → Q z H) ∧ ∀ i r, ns = i :: r → Q (.int (if gr then greatest i r else least i r)) H
theorem call_mxd (hc : X.calm = true) (hu : X.A.units + 65 < cLine) (gr : Bool) : CallRK X (.builtin (if gr then "max" else "min")) [Str.ofString "default"] (rMxd X.K gr) := by
  intro pins s σ H xs zs us ws Q I rx rz ⟨a, ns, z, e1, e2, hq, q0, q1⟩
  subst e1 e2
  obtain ⟨u, rfl, ru⟩ := vals1 rx
  obtain ⟨w, rfl, rw'⟩ := vals1 rz
  cases ru
  have hd : X.A.units + 1 + PyData.depthAll (ns.map .int) < cLine := by rw [depth_ints]; omega
  have h0 : (ns.map PyData.int) = [] → ∀ h' tk, (∀ b o, s.heap.get? b = some o → h'.get? b = some o) → EP X pins σ Q w { s with heap := h', toks := tk } := fun hn h' tk kp => ⟨z, H, I.kept kp, rw', q0 (by simpa using hn)⟩
  have fin : ∀ {best : PyData → List PyData → PyData}, (∀ i r, best (.int i) (r.map .int) = .int (if gr then greatest i r else least i r)) → ∀ {vs : Array Value} (y : PyData) (ys : List PyData) (i : Nat) (v : Value) (h' : Heap) (tk : Nat) (bs : List Addr), ns.map .int = y :: ys → vs[i]? = some v → Reads h' v (best y ys) bs →
      (∀ b o, s.heap.get? b = some o → h'.get? b = some o) → EP X pins σ Q v { s with heap := h', toks := tk } := fun {best} hb {vs} y ys i v h' tk bs e _ r kp => by
    cases ns with
    | nil => cases e
    | cons n r' =>
      simp only [List.map_cons, List.cons.injEq] at e
      obtain ⟨e1, e2⟩ := e
      subst e1 e2
      rw [hb] at r
      obtain ⟨t, rfl⟩ := reads_int r
      exact ⟨.int _, H, I.kept kp, ⟨t, rfl⟩, q1 n r' rfl⟩
  have bmax : gr = true → ∀ i r, PySem.W.maxD (.int i) (r.map .int) = .int (if gr then greatest i r else least i r) := fun h i r => by rw [h]; exact PySem.W.maxD_ints i r
  have bmin : gr = false → ∀ i r, PySem.W.minD (.int i) (r.map .int) = .int (if gr then greatest i r else least i r) := fun h i r => by rw [h]; exact PySem.W.minD_ints i r
  rcases hq with hq | hq
  · obtain ⟨its, rv, pl, hz⟩ := I.list hq
    obtain ⟨as, ra⟩ := Dp.readsAll I (ns.map .int) _ its (dp_ints X.K H ns) rv
    cases gr with
    | true => exact PySem.W.max_list_default (I.ok.hd hc) pl.isList (by simpa using ra) (alike_ints ns) hd h0 (fin (bmax rfl))
    | false => exact PySem.W.min_list_default (I.ok.hd hc) pl.isList (by simpa using ra) (alike_ints ns) hd h0 (fin (bmin rfl))
  · obtain ⟨its, rv, pl, hz⟩ := I.tuple hq
    obtain ⟨as, ra⟩ := Dp.readsAll I (ns.map .int) _ its (dp_ints X.K H ns) rv
    cases gr with
    | true => exact PySem.W.max_tuple_default (I.ok.hd hc) (show s.heap.IsTuple a its.toArray from pl) (by simpa using ra) (alike_ints ns) hd h0 (fin (bmax rfl))
    | false => exact PySem.W.min_tuple_default (I.ok.hd hc) (show s.heap.IsTuple a its.toArray from pl) (by simpa using ra) (alike_ints ns) hd h0 (fin (bmin rfl))
theorem boot_mxd (gr : Bool) : bootBuiltins (Str.ofString (if gr then "max" else "min")) = some (.builtin (if gr then "max" else "min")) := by
  cases gr with
  | true => exact PyProof.Rows.boot_max
  | false => exact PyProof.Rows.boot_min
theorem r_mxd {a b : Expr} {fa fb : StD → Store → Option (D × Store)} {q kp p : Pos} (hc : X.calm = true) (hu : X.A.units + 65 < cLine) (gr : Bool) (hg : Gl X (Str.ofString (if gr then "max" else "min"))) (hm : X.mg (Str.ofString (if gr then "max" else "min")) = none)
    (ha : PE X a (tD X.K fa)) (hb : PE X b (tD X.K fb)) (hs : starEach [a] X.env = [(false, eval a X.env)]) :
    PE X (.Call (.Name (Str.ofString (if gr then "max" else "min")) q) [a] [⟨some kwDefault, b, kp⟩] p) (tD X.K fun σ S => bnd (fa σ S) fun x S1 => bnd (fb σ S1) fun y S2 => bnd (opt (maxD gr x y S2) S2) fun z S3 => some (gc S z S3)) := by
  have base : PE X (.Call (.Name (Str.ofString (if gr then "max" else "min")) q) [a] [⟨some kwDefault, b, kp⟩] p) (tCKw (rMxd X.K gr) (tCons (tD X.K fa) tNil) (tCons (tD X.K fb) tNil)) :=
    pe_callBK (call_mxd hc hu gr) hg hm (boot_mxd gr) (pa_cons ha pa_nil hs) (pk_cons hb pk_nil) (by cases gr <;> decide) (by cases gr <;> decide) (by rw [hs]; rfl) (by rw [hs]; rfl) rfl rfl rfl
  have base2 : PE X (.Call (.Name (Str.ofString (if gr then "max" else "min")) q) [a] [⟨some kwDefault, b, kp⟩] p) (tD X.K fun σ S => bnd (fa σ S) fun x S1 => bnd (fb σ S1) fun y S2 => opt (maxD gr x y S2) S2) := by
    refine base.imp fun σ H Q ⟨ρ, σD, S, d, S', cc, e, k⟩ => ?_
    obtain ⟨x, S1, e1, e2⟩ := bnd_eq e
    obtain ⟨y, S2, e3, e4⟩ := bnd_eq e2
    obtain ⟨e5, e6⟩ := opt_eq e4
    subst S'
    refine ⟨ρ, σD, S, x, S1, cc, e1, fun v H1 ρ1 x1 h1 r1 => ⟨ρ1, σD, S1, y, S2, cc.ext x1 h1, e3, fun w H2 ρ2 x2 h2 r2 => ?_⟩⟩
    unfold maxD at e5
    split at e5
    · rename_i ds hds
      obtain ⟨b', vs, rfl, hq, rr⟩ := seq_at h2 hds (x2.rep h1 _ _ r1)
      split at e5
      · rename_i i r hi
        cases e5
        rw [intsOf_ok hi rr] at hq
        refine ⟨b', i :: r, w, rfl, rfl, hq, (by intro z; cases z), fun i' r' he => ?_⟩
        injection he with he1 he2
        subst he1 he2
        exact k _ H2 ρ2 (x1.trans x2) h2 rfl
      · rename_i hi
        cases e5
        rw [intsOf_ok hi rr] at hq
        exact ⟨b', [], w, rfl, rfl, hq, fun _ => k _ H2 ρ2 (x1.trans x2) h2 r2, (by intro i' r' he; cases he)⟩
      · cases e5
    · cases e5
  refine (pe_gc base2).imp fun σ H Q ⟨ρ, σD, S, d, S', cc, e, k⟩ => ⟨ρ, σD, S, d, S', cc, ?_, k⟩
  obtain ⟨x, S1, e1, e2⟩ := bnd_eq e
  obtain ⟨y, S2, e3, e4⟩ := bnd_eq e2
  simp only [e1, e3, bnd_some]
  exact e4
/-! ### isinstance -/
theorem ty_at {K : PySem.W.Frag} {H : Hp} {ρ : List Addr} {S : Store} (hp : HRep K H ρ S) {d : D} {v : V} {n : String} (e : tyD S d = some n) (r : Rep K H ρ d v) : TyX K H v (.type n) := by
  cases d with
  | non => cases e; cases r; exact .base .non
  | bl b => cases e; cases r; exact .base (.bl b)
  | int b => cases e; cases r; exact .base (.int b)
  | str b => cases e; cases r; exact .base (.str b)
  | tup ds => cases e; obtain ⟨a, vs, rfl, ⟨o, ho, _⟩, _⟩ := r; exact .fTuple ho
  | ro ds =>
    cases e
    obtain ⟨a, vs, rfl, ha, _⟩ := r
    rcases ha with ⟨o, ho⟩ | ⟨o, its, n, hk, hc, _⟩
    · exact .base (.frz ho)
    · exact .kList hk hc
  | loc m =>
    unfold tyD at e
    dsimp only at e
    split at e
    · rename_i ds hS
      cases e
      obtain ⟨a, vs, rfl, _, ha, _⟩ := lst_at hp hS r
      exact .base (.lst ha)
    · rename_i ds hS
      cases e
      obtain ⟨a, vs, rfl, _, ha, _⟩ := dic_at hp hS r
      exact .base (.dK ha)
    · rename_i ds hS
      cases e
      obtain ⟨a, ev, ea⟩ := r
      obtain ⟨vs, h1, _⟩ := hp.ob m _ a hS ea
      subst ev
      exact .base (.dT h1)
    · cases e
def tys : List String := ["NoneType", "bool", "int", "str", "tuple", "list", "dict"]
theorem ty_mem {S : Store} {d : D} {n : String} (e : tyD S d = some n) : n ∈ tys := by
  cases d with
  | loc m =>
    unfold tyD at e
    dsimp only at e
    split at e <;> first | (cases e; decide) | cases e
  | _ => cases e; decide
theorem kit1 (K : PySem.W.Frag) {n : String} (h : n ∈ tys) (t : Ty) : PySem.W.kitOne K (.type n) (.type t.name) = some (isaD n t) := by
  have all : ∀ m ∈ tys, ∀ t : Ty, PySem.W.kitOne K (.type m) (.type t.name) = some (isaD m t) := by
    intro m hm t
    simp only [tys, List.mem_cons, List.mem_nil_iff, or_false] at hm
    rcases hm with rfl | rfl | rfl | rfl | rfl | rfl | rfl <;> cases t <;> rfl
  exact all n h t
theorem kit2 (K : PySem.W.Frag) {n : String} (h : n ∈ tys) : PySem.W.kitAny K (.type n) [.type "list", .type "tuple"] = some (isaD n .list || isaD n .tuple) := by
  simp only [tys, List.mem_cons, List.mem_nil_iff, or_false] at h
  rcases h with rfl | rfl | rfl | rfl | rfl | rfl | rfl <;> rfl
end
end Mi

end

section
/-! MiE: enumerate of a list or a tuple; what is walked. -/
namespace PySem
open Sem (wp)
theorem mi_enum_new1 {v : Value} {o : Obj} {H : Heap → Prop} (B : Begins v o H) :
    Meets (Builtin.«enumerate.__new__» ⟨[.type "enumerate", v], []⟩) (fun _ R s => H s.heap ∧
      R (.ok (.ret (.ref (s.heap.push o).objs.size))) { s with heap := (s.heap.push o).push { cls := .type "enumerate", data := .fields #[.none, .bool false, .ref s.heap.objs.size, rawInt 0, .none, .none] } }) :=
  .of_wp fun prog w A R s h => by
    obtain ⟨hp, g, d, tk, os⟩ := s; obtain ⟨h1, h⟩ := h
    have hsub := sub_enumerate
    have q1 : ∀ {A' : Around} {E : Value → Shared → Prop} {Q : Value → Shared → Prop}, Q (.ref hp.objs.size) ⟨hp.push o, g, d, tk, os⟩ → wpAny (model prog w) A' (pyIter v) Q E ⟨hp, g, d, tk, os⟩ :=
      fun q => B.iter prog w _ _ ⟨hp, g, d, tk, os⟩ _ h1 q
    wp_walk using q1
    refine wpAny_stack_any fun st => wpAny_pure ?_
    split
    · rename_i c _ _ _ _ _
      cases (c == Value.type "enumerate")
      · wp_walk using q1
        exact ⟨_, rfl, h⟩
      · wp_walk using q1
        exact ⟨_, rfl, h⟩
    · wp_walk using q1
      exact ⟨_, rfl, h⟩
theorem mi_call_enum {prog : Program} {w : World} {A : Around} {E : Value → Shared → Prop} {s : Shared} {v : Value} {o : Obj} {H : Heap → Prop} {Q : Value → Shared → Prop} (B : Begins v o H) (h1 : H s.heap)
    (h : ∀ h', IsEnum h' (s.heap.objs.size + 1) s.heap.objs.size 0 .none → h'.get? s.heap.objs.size = some o → h'.objs.size = s.heap.objs.size + 2 →
      (∀ b o, s.heap.get? b = some o → h'.get? b = some o) → Q (.ref (s.heap.objs.size + 1)) { s with heap := h' }) :
    wpAny (model prog w) A (call (.type "enumerate") [v]) Q E s := by
  refine callType_new F.called_enumerate (by decide) (F.typeCall_enumerate_1 _) (F.newCall_enumerate_1 _) (fun obj => F.args_object_init_2 obj _) F.entry_enumerate_new
    (mi_enum_new1 B) ⟨h1, ?_⟩
  have hz : (s.heap.push o).objs.size = s.heap.objs.size + 1 := Heap.size_push ..
  show _ ∧ _
  rw [hz]
  have he : IsEnum ((s.heap.push o).push { cls := .type "enumerate", data := .fields #[.none, .bool false, .ref s.heap.objs.size, rawInt 0, .none, .none] }) (s.heap.objs.size + 1) s.heap.objs.size 0 .none := by
    have := Heap.get?_push_size (s.heap.push o) (o := { cls := .type "enumerate", data := .fields #[.none, .bool false, .ref s.heap.objs.size, rawInt 0, .none, .none] }) rfl
    rw [hz] at this; exact this
  exact ⟨⟨_, he, rfl⟩, h _ he (Heap.get?_push_of_some _ (Heap.get?_push_size _ B.free)) (by rw [Heap.size_push, hz]) fun b o x => Heap.get?_push_of_some _ (Heap.get?_push_of_some _ x)⟩
end PySem
namespace Mi
open PySem PySem.Spec L2
/-- each item in a new pair -/
def ItE (SQ : Hp → List V → Prop) : It :=
  ⟨fun i H => ∃ (xs : List V) (x : V), SQ H xs ∧ xs[i]? = some x,
   fun i H v H' => ∃ T o x, v = .ref T ∧ H T = none ∧ o.dict = none ∧ H' = upd H T (.frz o (.tup [.int (i : Nat), x])) ∧ ∀ xs, SQ H xs → xs[i]? = some x,
   fun i H => ∃ xs : List V, SQ H xs ∧ xs.length = i⟩
theorem pairF {X : Cx} {pins : List (Addr × Obj)} {σ : L2.St} {H : Hp} {s : Shared} {h'' : Heap} {ch : List Addr} {i : Nat} {x : V} {u : Value} {tk tk' : Nat} (I : L2.Inv X pins σ H s) (hf : ∀ b ∈ ch, FpOk X pins H b) (ru : RelV x u)
    (k : ∀ b o, b ∉ ch → s.heap.get? b = some o → h''.get? b = some o) (hT : h''.get? s.heap.objs.size = some { cls := .type "tuple", data := .seq #[.int i tk, u] }) :
    L2.Inv X pins σ (upd H s.heap.objs.size (.frz { cls := .type "tuple", data := .seq #[.int i tk, u] } (.tup [.int (i : Nat), x]))) { s with heap := h'', toks := tk' } :=
  I.turnedNew (ch := ch) k hf (Nat.le_refl _) ⟨hT, by show 2 ≤ sizeLine; decide, [.int i tk, u], .cons ⟨_, rfl⟩ (.cons ru .nil), ⟨_, hT, rfl, _, rfl⟩⟩
theorem turn_enumL {P : Program} {w : World} {K : PySem.W.Frag} {elts : List Expr} {kk : Nat} {tpos : Pos} (a e it : Addr) :
    Turn P w K (.Tuple elts kk tpos) (ItE fun H xs => SqL K H a xs) [e, it] e (fun i h => (∃ old, IsEnum h e it ((i : Nat) : Int) old) ∧ h.IsListIter it a i ∧ e ≠ it) where
  mem := by simp
  obj := fun i h st b hb => by
    obtain ⟨⟨old, he⟩, ⟨o, ho, hc, hd⟩, _⟩ := st
    have e' : b = e ∨ b = it := by simpa using hb
    rcases e' with z | z
    · rw [z]; exact ⟨_, he, fun v q => nomatch q⟩
    · rw [z]; exact ⟨o, ho, fun v q => by rw [hd] at q; cases q⟩
  keep := fun i h h' st k => let ⟨⟨old, he⟩, hi, hne⟩ := st; ⟨⟨old, k e (by simp) _ he⟩, hi.at fun o q => k it (by simp) o q, hne⟩
  item := by
    intro X hP hw hK hc i pins s σ H E I hf st hg
    subst hP hw hK
    obtain ⟨⟨old, he⟩, hit, hne⟩ := st
    obtain ⟨xs, x, hq, hx⟩ := hg
    obtain ⟨its, rv, p, hz⟩ := I.list hq
    obtain ⟨u, hu, ru⟩ := rv.get hx
    have hel : e < s.heap.objs.size := Heap.lt_size he
    have hil : it < s.heap.objs.size := by obtain ⟨_, q, _⟩ := hit; exact Heap.lt_size q
    refine wpAny_pyNext_enum_item he hit p.isList (x := u) (by simpa using hu) hne fun h' ho hit' hT hsz hk => ?_
    refine ⟨_, rfl, wpAny_letOwnedTupleGo_enum (s := { s with heap := h', toks := s.toks + 1 }) ho fun h'' he' sb => ?_⟩
    have hT2 : h''.get? s.heap.objs.size = some { cls := .type "tuple", data := .seq #[.int i s.toks, u] } := (sb.2 _ (Nat.ne_of_gt hel)).trans hT
    have I1 := pairF (tk' := s.toks + 1) (ch := [e, it]) I hf ru (fun b ob hb q => (sb.2 b (fun z => hb (by simp [z]))).trans (hk b ob (fun z => hb (by simp [z])) (fun z => hb (by simp [z])) q)) hT2
    refine ⟨.ref s.heap.objs.size, _, I1, rfl, ⟨_, _, x, rfl, I.hok.fresh (Nat.le_refl _), rfl, rfl, fun ys hy => by rw [I.list_inj hy hq]; exact hx⟩, ⟨⟨u, ?_⟩, hit'.at fun o q => (sb.2 it (Ne.symm hne)).trans q, hne⟩, fun b hb => ?_⟩
    · have e1 : ((i + 1 : Nat) : Int) = (i : Int) + 1 := by omega
      rw [e1]; exact he'
    · have hb' : b < s.heap.objs.size := by
        have e' : b = e ∨ b = it := by simpa using hb
        rcases e' with z | z
        · rw [z]; exact hel
        · rw [z]; exact hil
      rw [upd_ne (Nat.ne_of_lt hb')]
      exact (hf b hb).1
  done := by
    intro X hP hw hK hc i pins s σ H E I hf st hg
    subst hP hw hK
    obtain ⟨⟨old, he⟩, hit, hne⟩ := st
    obtain ⟨xs, hq, hx⟩ := hg
    obtain ⟨its, rv, p, hz⟩ := I.list hq
    obtain ⟨f0, f1, f2, f3, f4, f5⟩ := hf it (by simp)
    have hl := rv.length
    exact wpAny_pyNext_enum_end (I.ok.hd hc) he hit p.isList (by simp; omega) fun h' eb => ⟨rfl, I.turned (t' := s.toks) (fun b o hb q => eb b o hb q) f0 f1 f3 f4 f5⟩
  self := fun A i s Q E st h => let ⟨⟨_, he⟩, _⟩ := st; wpAny_pyIter_enum he h
theorem turn_enumT {P : Program} {w : World} {K : PySem.W.Frag} {elts : List Expr} {kk : Nat} {tpos : Pos} (a e it : Addr) :
    Turn P w K (.Tuple elts kk tpos) (ItE fun H xs => SqT K H a xs) [e, it] e (fun i h => (∃ old, IsEnum h e it ((i : Nat) : Int) old) ∧ h.IsTupleIter it a i ∧ e ≠ it) where
  mem := by simp
  obj := fun i h st b hb => by
    obtain ⟨⟨old, he⟩, ⟨o, ho, hc, hd⟩, _⟩ := st
    have e' : b = e ∨ b = it := by simpa using hb
    rcases e' with z | z
    · rw [z]; exact ⟨_, he, fun v q => nomatch q⟩
    · rw [z]; exact ⟨o, ho, fun v q => by rw [hd] at q; cases q⟩
  keep := fun i h h' st k => let ⟨⟨old, he⟩, hi, hne⟩ := st; ⟨⟨old, k e (by simp) _ he⟩, hi.at fun o q => k it (by simp) o q, hne⟩
  item := by
    intro X hP hw hK hc i pins s σ H E I hf st hg
    subst hP hw hK
    obtain ⟨⟨old, he⟩, hit, hne⟩ := st
    obtain ⟨xs, x, hq, hx⟩ := hg
    obtain ⟨its, rv, p, hz⟩ := I.tuple hq
    obtain ⟨u, hu, ru⟩ := rv.get hx
    have hel : e < s.heap.objs.size := Heap.lt_size he
    have hil : it < s.heap.objs.size := by obtain ⟨_, q, _⟩ := hit; exact Heap.lt_size q
    have nia : it ≠ a := fun z => by
      obtain ⟨o1, g1, c1, d1⟩ := hit
      obtain ⟨o2, g2, c2, n2, d2⟩ := p
      rw [z, g2] at g1; cases g1
      rw [d2] at d1; cases d1
    have nea : e ≠ a := fun z => by
      obtain ⟨o2, g2, c2, n2, d2⟩ := p
      have he2 := he
      unfold IsEnum at he2
      rw [z, g2] at he2
      cases he2
      cases d2
    have D := Draws.tuple (prog := X.prog) (w := X.w) (A := X.A.in1) (I.ok.hd hc) it a (Ne.symm nia) its.toArray
    have hlt : i < its.toArray.size := by
      have := (List.getElem?_eq_some_iff.mp hu).1
      simpa using this
    refine wpAny_pyNext_enum_itemD D he ⟨hit, p⟩ hlt hne (by simp [hne, nea]) fun y h' tk hy ho hst hT hsz hk => ?_
    have ey : y = u := by
      have h1 : its.toArray[i]? = some u := by simpa using hu
      rw [h1] at hy
      exact (Option.some.inj hy).symm
    subst ey
    refine ⟨_, rfl, wpAny_letOwnedTupleGo_enum (s := { s with heap := h', toks := tk + 1 }) ho fun h'' he' sb => ?_⟩
    have hT2 : h''.get? s.heap.objs.size = some { cls := .type "tuple", data := .seq #[.int i tk, y] } := (sb.2 _ (Nat.ne_of_gt hel)).trans hT
    have I1 := pairF (tk' := tk + 1) (ch := [e, it]) I hf ru (fun b ob hb q => (sb.2 b (fun z => hb (by simp [z]))).trans (hk b ob (fun z => hb (by simp [z])) (fun z => hb (by simp [z])) q)) hT2
    refine ⟨.ref s.heap.objs.size, _, I1, rfl, ⟨_, _, x, rfl, I.hok.fresh (Nat.le_refl _), rfl, rfl, fun ys hy => by rw [I.tuple_inj hy hq]; exact hx⟩, ⟨⟨y, ?_⟩, hst.1.at fun o q => (sb.2 it (Ne.symm hne)).trans q, hne⟩, fun b hb => ?_⟩
    · have e1 : ((i + 1 : Nat) : Int) = (i : Int) + 1 := by omega
      rw [e1]; exact he'
    · have hb' : b < s.heap.objs.size := by
        have e' : b = e ∨ b = it := by simpa using hb
        rcases e' with z | z
        · rw [z]; exact hel
        · rw [z]; exact hil
      rw [upd_ne (Nat.ne_of_lt hb')]
      exact (hf b hb).1
  done := by
    intro X hP hw hK hc i pins s σ H E I hf st hg
    subst hP hw hK
    obtain ⟨⟨old, he⟩, hit, hne⟩ := st
    obtain ⟨xs, hq, hx⟩ := hg
    obtain ⟨its, rv, p, hz⟩ := I.tuple hq
    obtain ⟨f0, f1, f2, f3, f4, f5⟩ := hf it (by simp)
    have hl := rv.length
    have nia : it ≠ a := fun z => by
      obtain ⟨o1, g1, c1, d1⟩ := hit
      obtain ⟨o2, g2, c2, n2, d2⟩ := p
      rw [z, g2] at g1; cases g1
      rw [d2] at d1; cases d1
    have D := Draws.tuple (prog := X.prog) (w := X.w) (A := X.A.in1) (I.ok.hd hc) it a (Ne.symm nia) its.toArray
    have en : i = its.toArray.size := by simp; omega
    exact wpAny_pyNext_enum_endD D he (by rw [← en]; exact ⟨hit, p⟩) fun h' eb => ⟨rfl, I.turned (t' := s.toks) (fun b o hb q => eb b o hb q) f0 f1 f3 f4 f5⟩
  self := fun A i s Q E st h => let ⟨⟨_, he⟩, _⟩ := st; wpAny_pyIter_enum he h
section
variable {X : Cx}
def iEnumF (K : PySem.W.Frag) (ta : TA) : TI := fun σ H R => ta σ H fun vs H1 => ∃ a xs, vs = [.ref a] ∧ ((SqL K H1 a xs ∧ R (ItE fun H xs => SqL K H a xs) H1) ∨ (SqT K H1 a xs ∧ R (ItE fun H xs => SqT K H a xs) H1))
theorem pi_enumF {e : Expr} {ta : TA} {p pos tpos : Pos} {elts : List Expr} {kk : Nat} (hg : Gl X "enumerate") (hm : X.mg "enumerate" = none) (ha : PA X [e] ta) (hs : starEach [e] X.env = [(false, eval e X.env)]) :
    PI X (.Tuple elts kk tpos) (.Call (.Name "enumerate" p) [e] [] pos) (iEnumF X.K ta) := by
  refine ⟨fun pins s σ H R I h => ?_⟩
  refine PyProof.Rows.Call_ (ld_blt I hg hm PyProof.Rows.boot_enumerate (PyProof.Rows.callWith_type1 (thn (ha.run pos pins s σ H _ I h) fun us s1 ⟨vs, H1, I1, r1, q1⟩ => ?_) hs rfl))
  obtain ⟨a, xs, ex, q⟩ := q1
  subst ex
  obtain ⟨u, rfl, ru⟩ := vals1 r1
  cases ru
  have fp : ∀ b ∈ [s1.heap.objs.size + 1, s1.heap.objs.size], FpOk X pins H1 b := fun b hb => by
    have e' : b = s1.heap.objs.size + 1 ∨ b = s1.heap.objs.size := by simpa using hb
    have hle : s1.heap.objs.size ≤ b := by
      rcases e' with z | z
      · rw [z]; exact Nat.le_add_right _ _
      · rw [z]; exact Nat.le_refl _
    exact I1.fpOk hle (I1.hok.fresh hle)
  rcases q with ⟨hq, q⟩ | ⟨hq, q⟩
  · obtain ⟨its, rv, p', hz⟩ := I1.list hq
    refine call_enumerate_list p'.isList fun h' he hit hsz hk => wpAny_pyIter_enum he ?_
    have I2 : L2.Inv X pins σ H1 { s1 with heap := h' } := I1.kept (t' := s1.toks) hk
    exact ⟨s1.heap.objs.size + 1, [s1.heap.objs.size + 1, s1.heap.objs.size], _, _, H1, rfl, I2, turn_enumL a (s1.heap.objs.size + 1) s1.heap.objs.size, ⟨⟨.none, he⟩, hit, Nat.succ_ne_self _⟩, fp, q⟩
  · obtain ⟨its, rv, p', hz⟩ := I1.tuple hq
    refine mi_call_enum (begins_tuple a its.toArray) p' fun h' he hit hsz hk => wpAny_pyIter_enum he ?_
    have I2 : L2.Inv X pins σ H1 { s1 with heap := h' } := I1.kept (t' := s1.toks) hk
    exact ⟨s1.heap.objs.size + 1, [s1.heap.objs.size + 1, s1.heap.objs.size], _, _, H1, rfl, I2, turn_enumT a (s1.heap.objs.size + 1) s1.heap.objs.size, ⟨⟨.none, he⟩, ⟨_, hit, rfl, rfl⟩, Nat.succ_ne_self _⟩, fp, q⟩
theorem _root_.L2.PI.or {tg e : Expr} {w1 w2 : TI} (h1 : PI X tg e w1) (h2 : PI X tg e w2) : PI X tg e (fun σ H R => w1 σ H R ∨ w2 σ H R) := ⟨fun pins s σ H R I h => by
  rcases h with h | h
  · exact h1.run pins s σ H R I h
  · exact h2.run pins s σ H R I h⟩
theorem _root_.L2.PI.imp {tg e : Expr} {w w' : TI} (h : PI X tg e w) (i : ∀ σ H R, w' σ H R → w σ H R) : PI X tg e w' := ⟨fun pins s σ H R I q => h.run pins s σ H R I (i σ H R q)⟩

/-! ### what is walked, by data -/
structure ItOk (K : PySem.W.Frag) (J : It) (w : Wk) (H0 : Hp) (ρ0 : List Addr) : Prop where
  go : ∀ (i : Nat) (d : D) (H : Hp) (ρ : List Addr) (S : Store), Ext H0 ρ0 H ρ → HRep K H ρ S → w.ok S = true → w.items[i]? = some d → J.go i H ∧ ∀ x H', J.yld i H x H' → Ext H ρ H' ρ ∧ HRep K H' ρ S ∧ Rep K H' ρ d x
  stop : ∀ (i : Nat) (H : Hp) (ρ : List Addr) (S : Store), Ext H0 ρ0 H ρ → HRep K H ρ S → w.ok S = true → i = w.items.length → J.stop i H
def tI (K : PySem.W.Frag) (f : StD → Store → Option (Wk × Store)) : TI := fun σ H R => ∃ ρ σD S w S', Cor K H ρ σ σD S ∧ f σD S = some (w, S') ∧ ∀ J H' ρ', Ext H ρ H' ρ' → HRep K H' ρ' S' → ItOk K J w H' ρ' → R J H'
theorem rangeD_get : ∀ (n : Nat) (lo : Int) (i : Nat) (d : D), (rangeD lo n)[i]? = some d → i < n ∧ d = .int (lo + i)
  | 0, lo, i, d, h => by simp [rangeD] at h
  | n + 1, lo, 0, d, h => by
    have : D.int lo = d := Option.some.inj h
    exact ⟨Nat.succ_pos _, by rw [← this]; simp⟩
  | n + 1, lo, i + 1, d, h => by
    obtain ⟨h1, h2⟩ := rangeD_get n (lo + 1) i d h
    exact ⟨Nat.succ_lt_succ h1, by rw [h2]; congr 1; omega⟩
theorem rangeD_len : ∀ (n : Nat) (lo : Int), (rangeD lo n).length = n
  | 0, _ => rfl
  | n + 1, lo => by simp [rangeD, rangeD_len n]
theorem itr_ok (K : PySem.W.Frag) (lo : Int) (n : Nat) (H0 : Hp) (ρ0 : List Addr) : ItOk K (Itr lo n) ⟨rangeD lo n, fun _ => true⟩ H0 ρ0 where
  go := fun i d H ρ S x hp _ e => by
    obtain ⟨h1, h2⟩ := rangeD_get n lo i d e
    refine ⟨h1, fun y H' hy => ?_⟩
    obtain ⟨rfl, rfl⟩ := hy
    exact ⟨Ext.refl, hp, by rw [h2]; rfl⟩
  stop := fun i H ρ S x hp _ e => by
    show n ≤ i
    rw [e]; simp [rangeD_len]
/-- the sequence at a, at every turn -/
theorem seq_stays {K : PySem.W.Frag} {H0 H : Hp} {ρ0 ρ : List Addr} {S0 S : Store} {d : D} {ds : List D} {v : V} (hp0 : HRep K H0 ρ0 S0) (r0 : Rep K H0 ρ0 d v) (x : Ext H0 ρ0 H ρ) (hp : HRep K H ρ S) (ok : stays d ds S = true) (e0 : seqOf S0 d = some ds) :
    seqOf S d = some ds ∧ Rep K H ρ d v := by
  refine ⟨?_, x.rep hp0 _ _ r0⟩
  cases d with
  | loc m =>
    unfold stays at ok
    dsimp only at ok
    split at ok
    · rename_i es hS
      unfold seqOf
      dsimp only
      rw [hS, D.beqL_eq ok]
    · cases ok
  | _ => exact e0
theorem r_seq {tg e : Expr} {f : StD → Store → Option (D × Store)} (h : PE X e (tD X.K f)) : PI X tg e (tI X.K fun σ S => bnd (f σ S) fun d S1 => bnd (opt (seqOf S1 d) S1) fun ds S2 => some (⟨ds, stays d ds⟩, S2)) := by
  refine ((pi_list h).or (pi_tup h)).imp fun σ H R ⟨ρ, σD, S, w, S', cc, e, k⟩ => ?_
  obtain ⟨d, S1, e1, e2⟩ := bnd_eq e
  obtain ⟨ds, S2, e3, e4⟩ := bnd_eq e2
  obtain ⟨e5, e6⟩ := opt_eq e3
  subst S2
  obtain ⟨rfl, rfl⟩ := inj2 e4
  have lst : ∀ {H1 : Hp} {ρ1 : List Addr} {a : Addr}, HRep X.K H1 ρ1 S1 → Rep X.K H1 ρ1 d (.ref a) → (∀ ds', d ≠ .tup ds') → ItOk X.K (Itl X.K a) ⟨ds, stays d ds⟩ H1 ρ1 := fun {H1 ρ1 a} h1 r1 nt => by
    have at_ : ∀ (H2 : Hp) (ρ2 : List Addr) (S2 : Store), Ext H1 ρ1 H2 ρ2 → HRep X.K H2 ρ2 S2 → stays d ds S2 = true → ∃ vs, SqL X.K H2 a vs ∧ RepL X.K H2 ρ2 ds vs := fun H2 ρ2 S2 x2 h2 ok => by
      obtain ⟨s1, s2⟩ := seq_stays h1 r1 x2 h2 ok e5
      cases d with
      | tup q => exact absurd rfl (nt q)
      | ro q =>
        cases s1
        obtain ⟨b, vs, eb, hb, rr⟩ := s2
        cases eb
        exact ⟨vs, hb.sq, rr⟩
      | loc m =>
        unfold seqOf at s1
        dsimp only at s1
        split at s1
        · rename_i q hS
          cases s1
          obtain ⟨b, vs, eb, _, hb, rr⟩ := lst_at h2 hS s2
          cases eb
          exact ⟨vs, .of hb, rr⟩
        · cases s1
      | _ => cases s1
    refine ⟨fun i d' H2 ρ2 S2 x2 h2 ok e => ?_, fun i H2 ρ2 S2 x2 h2 ok e => ?_⟩
    · obtain ⟨vs, q1, q2⟩ := at_ H2 ρ2 S2 x2 h2 ok
      obtain ⟨v, g1, g2⟩ := q2.get e
      refine ⟨⟨vs, v, q1, g1⟩, fun y H' hy => ?_⟩
      obtain ⟨rfl, hy⟩ := hy
      have := hy vs q1
      rw [g1] at this
      cases this
      exact ⟨Ext.refl, h2, g2⟩
    · obtain ⟨vs, q1, q2⟩ := at_ H2 ρ2 S2 x2 h2 ok
      exact ⟨vs, q1, by rw [e, ← q2.length]; exact Nat.le_refl _⟩
  cases d with
  | tup q =>
    cases e5
    refine .inr ⟨ρ, σD, S, _, _, cc, e1, fun v H1 ρ1 x1 h1 r1 => ?_⟩
    obtain ⟨a, vs, rfl, ha, rr⟩ := id r1
    refine ⟨a, rfl, ⟨vs, ha.sq⟩, k _ H1 ρ1 x1 h1 ⟨fun i d' H2 ρ2 S2 x2 h2 ok e => ?_, fun i H2 ρ2 S2 x2 h2 ok e => ?_⟩⟩
    · have ha2 := ha.ext h1 x2
      have rr2 := x2.repL h1 _ _ rr
      obtain ⟨v, g1, g2⟩ := rr2.get e
      refine ⟨⟨vs, v, ha2.sq, g1⟩, fun y H' hy => ?_⟩
      obtain ⟨rfl, hy⟩ := hy
      have := hy vs ha2.sq
      rw [g1] at this
      cases this
      exact ⟨Ext.refl, h2, g2⟩
    · exact ⟨vs, (ha.ext h1 x2).sq, by rw [e, ← rr.length]; exact Nat.le_refl _⟩
  | ro q =>
    refine .inl ⟨ρ, σD, S, _, _, cc, e1, fun v H1 ρ1 x1 h1 r1 => ?_⟩
    obtain ⟨a, vs, rfl, ha, rr⟩ := id r1
    exact ⟨a, rfl, ⟨vs, ha.sq⟩, k _ H1 ρ1 x1 h1 (lst h1 r1 fun _ z => by cases z)⟩
  | loc m =>
    refine .inl ⟨ρ, σD, S, _, _, cc, e1, fun v H1 ρ1 x1 h1 r1 => ?_⟩
    obtain ⟨a, rfl, ea⟩ := id r1
    have sq : ∃ vs, SqL X.K H1 a vs := by
      unfold seqOf at e5
      dsimp only at e5
      split at e5
      · rename_i q hS
        obtain ⟨b, vs, eb, _, hb, rr⟩ := lst_at h1 hS r1
        cases eb
        exact ⟨vs, .of hb⟩
      · cases e5
    exact ⟨a, rfl, sq, k _ H1 ρ1 x1 h1 (lst h1 r1 fun _ z => by cases z)⟩
  | _ => cases e5
theorem r_rng1 {tg a : Expr} {fa : StD → Store → Option (D × Store)} {q p : Pos} (hg : Gl X "range") (hm : X.mg "range" = none) (ha : PE X a (tD X.K fa)) (hs : starEach [a] X.env = [(false, eval a X.env)]) :
    PI X tg (.Call (.Name "range" q) [a] [] p) (tI X.K fun σ S => bnd (bnd (fa σ S) intD) fun i S1 => opt (rngD 0 i) S1) := by
  refine (pi_range1 hg hm (pa_cons ha pa_nil hs) hs).imp fun σ H R ⟨ρ, σD, S, w, S', cc, e, k⟩ => ?_
  obtain ⟨i, S1, e1, e2⟩ := bnd_eq e
  obtain ⟨x, S2, e3, e4⟩ := bnd_eq e1
  obtain ⟨e5, e6⟩ := opt_eq e2
  subst S'
  cases x <;> first | (cases e4; done) | skip
  obtain ⟨rfl, rfl⟩ := inj2 e4
  unfold rngD at e5
  split at e5
  · rename_i hb
    cases e5
    refine ⟨ρ, σD, S, _, _, cc, e3, fun v H1 ρ1 x1 h1 r1 => ⟨_, by rw [show v = V.int _ from r1], hb.2.2.1, hb.2.2.2, ?_⟩⟩
    have := k (Itr 0 _) H1 ρ1 x1 h1 (itr_ok _ _ _ _ _)
    simpa using this
  · cases e5
theorem r_rng2 {tg a b : Expr} {fa fb : StD → Store → Option (D × Store)} {q p : Pos} (hg : Gl X "range") (hm : X.mg "range" = none) (ha : PE X a (tD X.K fa)) (hb : PE X b (tD X.K fb)) (hs : starEach [a, b] X.env = [(false, eval a X.env), (false, eval b X.env)]) (hs2 : starEach [b] X.env = [(false, eval b X.env)]) :
    PI X tg (.Call (.Name "range" q) [a, b] [] p) (tI X.K fun σ S => bnd (bnd (fa σ S) intD) fun i S1 => bnd (bnd (fb σ S1) intD) fun j S2 => opt (rngD i j) S2) := by
  refine (pi_range2 hg hm (pa_cons ha (pa_cons hb pa_nil hs2) (by rw [hs, hs2])) hs hs2).imp fun σ H R ⟨ρ, σD, S, w, S', cc, e, k⟩ => ?_
  obtain ⟨i, S1, e1, e2⟩ := bnd_eq e
  obtain ⟨x, S2, e3, e4⟩ := bnd_eq e1
  obtain ⟨j, S3, e5, e6⟩ := bnd_eq e2
  obtain ⟨y, S4, e7, e8⟩ := bnd_eq e5
  obtain ⟨e9, e10⟩ := opt_eq e6
  subst S'
  cases x <;> first | (cases e4; done) | skip
  obtain ⟨rfl, rfl⟩ := inj2 e4
  cases y <;> first | (cases e8; done) | skip
  obtain ⟨rfl, rfl⟩ := inj2 e8
  unfold rngD at e9
  split at e9
  · rename_i hb
    cases e9
    refine ⟨ρ, σD, S, _, _, cc, e3, fun v H1 ρ1 x1 h1 r1 => ⟨ρ1, σD, _, _, _, cc.ext x1 h1, e7, fun v2 H2 ρ2 x2 h2 r2 => ?_⟩⟩
    exact ⟨_, _, by rw [show v = V.int _ from r1, show v2 = V.int _ from r2], ⟨hb.1, hb.2.1, hb.2.2.1, hb.2.2.2⟩, k (Itr _ _) H2 ρ2 (x1.trans x2) h2 (itr_ok _ _ _ _ _)⟩
  · cases e9
theorem enumD_get : ∀ (ds : List D) (j : Int) (i : Nat) (d : D), (enumD j ds)[i]? = some d → ∃ x, ds[i]? = some x ∧ d = .tup [.int (j + i), x]
  | [], j, i, d, h => by simp [enumD] at h
  | y :: r, j, 0, d, h => by
    have : D.tup [.int j, y] = d := Option.some.inj h
    exact ⟨y, rfl, by rw [← this]; simp⟩
  | y :: r, j, i + 1, d, h => by
    obtain ⟨x, h1, h2⟩ := enumD_get r (j + 1) i d h
    refine ⟨x, h1, ?_⟩
    rw [h2]
    have : j + 1 + (i : Int) = j + ((i + 1 : Nat) : Int) := by omega
    rw [this]
theorem enumD_len : ∀ (ds : List D) (j : Int), (enumD j ds).length = ds.length
  | [], _ => rfl
  | y :: r, j => by simp [enumD, enumD_len r]
theorem r_enm {a : Expr} {fa : StD → Store → Option (D × Store)} {q p tpos : Pos} {elts : List Expr} {kk : Nat} (hg : Gl X "enumerate") (hm : X.mg "enumerate" = none) (ha : PE X a (tD X.K fa)) (hs : starEach [a] X.env = [(false, eval a X.env)]) :
    PI X (.Tuple elts kk tpos) (.Call (.Name "enumerate" q) [a] [] p) (tI X.K fun σ S => bnd (fa σ S) fun d S1 => bnd (opt (seqOf S1 d) S1) fun ds S2 => some (⟨enumD 0 ds, stays d ds⟩, S2)) := by
  refine (pi_enumF hg hm (pa_cons ha pa_nil hs) hs).imp fun σ H R ⟨ρ, σD, S, w, S', cc, e, k⟩ => ?_
  obtain ⟨d, S1, e1, e2⟩ := bnd_eq e
  obtain ⟨ds, S2, e3, e4⟩ := bnd_eq e2
  obtain ⟨e5, e6⟩ := opt_eq e3
  subst S2
  obtain ⟨rfl, rfl⟩ := inj2 e4
  refine ⟨ρ, σD, S, _, _, cc, e1, fun v H1 ρ1 x1 h1 r1 => ?_⟩
  have mk : ∀ {a : Addr} {SQ : Hp → List V → Prop}, (∀ (H2 : Hp) (ρ2 : List Addr) (S2 : Store), Ext H1 ρ1 H2 ρ2 → HRep X.K H2 ρ2 S2 → stays d ds S2 = true → ∃ vs, SQ H2 vs ∧ RepL X.K H2 ρ2 ds vs) → ItOk X.K (ItE SQ) ⟨enumD 0 ds, stays d ds⟩ H1 ρ1 := fun {a SQ} at_ => by
    refine ⟨fun i d' H2 ρ2 S2 x2 h2 ok e => ?_, fun i H2 ρ2 S2 x2 h2 ok e => ?_⟩
    · obtain ⟨vs, q1, q2⟩ := at_ H2 ρ2 S2 x2 h2 ok
      obtain ⟨x, g0, rfl⟩ := enumD_get ds 0 i d' e
      obtain ⟨v, g1, g2⟩ := q2.get g0
      refine ⟨⟨vs, v, q1, g1⟩, fun y H' hy => ?_⟩
      obtain ⟨T, o, z, rfl, hn, ho, rfl, hy⟩ := hy
      have := hy vs q1
      rw [g1] at this
      cases this
      refine ⟨Ext.newT h2 hn, h2.newT hn, T, _, rfl, .new ho, V.int i, [v], rfl, by show V.int i = V.int (0 + (i : Int)); rw [Int.zero_add], v, [], rfl, (Ext.newT h2 hn).rep h2 _ _ g2, rfl⟩
    · obtain ⟨vs, q1, q2⟩ := at_ H2 ρ2 S2 x2 h2 ok
      exact ⟨vs, q1, by rw [e, ← q2.length]; exact (enumD_len ds 0).symm⟩
  cases d with
  | tup q =>
    cases e5
    obtain ⟨a, vs, rfl, ha, rr⟩ := r1
    refine ⟨a, vs, rfl, .inr ⟨ha.sq, k _ H1 ρ1 x1 h1 (mk (a := a) fun H2 ρ2 S2 x2 h2 _ => ⟨vs, (ha.ext h1 x2).sq, x2.repL h1 _ _ rr⟩)⟩⟩
  | ro q =>
    cases e5
    obtain ⟨a, vs, rfl, ha, rr⟩ := r1
    refine ⟨a, vs, rfl, .inl ⟨ha.sq, k _ H1 ρ1 x1 h1 (mk (a := a) fun H2 ρ2 S2 x2 h2 _ => ⟨vs, (ha.ext h1 x2).sq, x2.repL h1 _ _ rr⟩)⟩⟩
  | loc m =>
    have at_ : ∀ (H2 : Hp) (ρ2 : List Addr) (S2 : Store), Ext H1 ρ1 H2 ρ2 → HRep X.K H2 ρ2 S2 → seqOf S2 (.loc m) = some ds → ∃ a vs, v = .ref a ∧ SqL X.K H2 a vs ∧ RepL X.K H2 ρ2 ds vs := fun H2 ρ2 S2 x2 h2 e => by
      unfold seqOf at e
      dsimp only at e
      split at e
      · rename_i q hS
        cases e
        obtain ⟨b, vs, eb, _, hb, rr⟩ := lst_at h2 hS (x2.rep h1 _ _ r1)
        exact ⟨b, vs, eb, .of hb, rr⟩
      · cases e
    obtain ⟨a, vs, rfl, hq, rr⟩ := at_ H1 ρ1 _ Ext.refl h1 e5
    refine ⟨a, vs, rfl, .inl ⟨hq, k _ H1 ρ1 x1 h1 (mk (a := a) fun H2 ρ2 S2 x2 h2 ok => ?_)⟩⟩
    obtain ⟨b, ws, eb, hb, r2⟩ := at_ H2 ρ2 S2 x2 h2 (seq_stays h1 r1 x2 h2 ok e5).1
    cases eb
    exact ⟨ws, hb, r2⟩
  | _ => cases e5
end
end Mi

end

section
/-! Mi6: targets, comprehensions, statements. -/
namespace Mi
open PySem PySem.Spec L2
def tG (K : PySem.W.Frag) (sl : List Nat) (f : D → StD → Store → Option (StD × Store)) : TG := fun v σ H Q => ∃ ρ σD S d σE S', Cor K H ρ σ σD S ∧ Rep K H ρ d v ∧ f d σD S = some (σE, S') ∧
  ∀ σ' H' ρ', (σ'.length = σ.length ∧ ∀ j, j ∉ sl → σ'[j]? = σ[j]?) → Ext H ρ H' ρ' → Cor K H' ρ' σ' σE S' → Q σ' H'
def tGs (K : PySem.W.Frag) (sl : List Nat) (f : List D → StD → Store → Option (StD × Store)) : TGs := fun vs σ H Q => ∃ ρ σD S ds σE S', Cor K H ρ σ σD S ∧ RepL K H ρ ds vs ∧ f ds σD S = some (σE, S') ∧
  ∀ σ' H' ρ', (σ'.length = σ.length ∧ ∀ j, j ∉ sl → σ'[j]? = σ[j]?) → Ext H ρ H' ρ' → Cor K H' ρ' σ' σE S' → Q σ' H'
section
variable {K : PySem.W.Frag} {H H' : Hp} {ρ ρ' : List Addr} {S S' : Store} {σ : L2.St} {σD : StD}
theorem Cor.set (c : Cor K H ρ σ σD S) (i : Nat) {d : D} {v : V} (r : Rep K H ρ d v) : Cor K H ρ (σ.set i (some v)) (σD.set i (some d)) S := by
  refine ⟨by simp [c.len], fun j e h => ?_, c.hp⟩
  by_cases hj : i = j
  · subst hj
    by_cases hl : i < σD.length
    · rw [List.getElem?_set_self hl] at h
      cases h
      exact ⟨v, by rw [List.getElem?_set_self (by rw [c.len]; exact hl)], r⟩
    · rw [List.getElem?_eq_none (by simpa using hl)] at h; cases h
  · rw [List.getElem?_set_ne hj] at h
    obtain ⟨w, h1, h2⟩ := c.st j e h
    exact ⟨w, by rw [List.getElem?_set_ne hj]; exact h1, h2⟩
theorem wipeD_some {σ : StD} {i : Nat} {x : D} : ∀ {vs : List Nat}, (wipeD σ vs)[i]? = some (some x) → σ[i]? = some (some x) ∧ i ∉ vs
  | [], h => ⟨h, by simp⟩
  | v :: vs, h => by
    unfold wipeD at h
    by_cases hi : v = i
    · subst hi
      by_cases hv : v < (wipeD σ vs).length
      · rw [List.getElem?_set_self hv] at h; cases h
      · rw [List.getElem?_eq_none (by simpa using hv)] at h; cases h
    · rw [List.getElem?_set_ne hi] at h
      obtain ⟨h1, h2⟩ := wipeD_some h
      exact ⟨h1, by simp only [List.mem_cons, not_or]; exact ⟨fun e => hi e.symm, h2⟩⟩
theorem wipeD_length (σ : StD) : ∀ vs : List Nat, (wipeD σ vs).length = σ.length
  | [] => rfl
  | v :: vs => by unfold wipeD; rw [List.length_set, wipeD_length σ vs]
theorem wipe_in {σ : L2.St} {i : Nat} : ∀ {vs : List Nat}, i ∈ vs → i < σ.length → (wipe σ vs)[i]? = some none
  | v :: vs, h, hl => by
    unfold wipe
    by_cases hi : v = i
    · subst hi
      rw [List.getElem?_set_self (by rw [wipe_length]; exact hl)]
    · rw [List.getElem?_set_ne hi]
      exact wipe_in ((List.mem_cons.mp h).resolve_left fun e => hi e.symm) hl
theorem Cor.wipe (c : Cor K H ρ σ σD S) (vs : List Nat) : Cor K H ρ (L2.wipe σ vs) (wipeD σD vs) S := by
  refine ⟨by rw [wipe_length, wipeD_length, c.len], fun j e h => ?_, c.hp⟩
  obtain ⟨h1, h2⟩ := wipeD_some h
  obtain ⟨w, h3, h4⟩ := c.st j e h1
  exact ⟨w, by rw [wipe_out h2]; exact h3, h4⟩
theorem wipe_same {σ τ : L2.St} {vs : List Nat} (hl : τ.length = σ.length) (h : ∀ j, j ∉ vs → τ[j]? = σ[j]?) : wipe τ vs = wipe σ vs := by
  apply List.ext_getElem?
  intro j
  by_cases hj : j ∈ vs
  · by_cases hk : j < σ.length
    · rw [wipe_in hj hk, wipe_in hj (by rw [hl]; exact hk)]
    · rw [List.getElem?_eq_none (by rw [wipe_length, hl]; omega), List.getElem?_eq_none (by rw [wipe_length]; omega)]
  · rw [wipe_out hj, wipe_out hj, h j hj]
theorem Ext.out (x : Ext H ρ H' ρ') {a : Addr} {o : HO} (n : a ∉ ρ) (e : H a = some o) : H' a = some o ∧ a ∉ ρ' :=
  ⟨x.keep a o n e, fun m => by
    have := x.new a m n
    rw [e] at this; cases this⟩
mutual
theorem Rep.updOut {a : Addr} {ws : List V} {o : HO} (e : H a = some (.lst ws)) : ∀ (d : D) (v : V), Rep K H ρ d v → Rep K (upd H a o) ρ d v
  | .non, v, h => h
  | .bl b, v, h => h
  | .int i, v, h => h
  | .str y, v, h => h
  | .tup ds, v, h => by
    obtain ⟨b, vs, ev, ⟨ob, q, n⟩, r⟩ := h
    exact ⟨b, vs, ev, ⟨ob, by rw [upd_ne (ne_of q e (by intro z; cases z))]; exact q, n⟩, Rep.updOutL e ds vs r⟩
  | .ro ds, v, h => by
    obtain ⟨b, vs, ev, q, r⟩ := h
    refine ⟨b, vs, ev, ?_, Rep.updOutL e ds vs r⟩
    rcases q with ⟨ob, q⟩ | q
    · exact .inl ⟨ob, by rw [upd_ne (ne_of q e (by intro z; cases z))]; exact q⟩
    · exact .inr q
  | .loc n, v, h => h
theorem Rep.updOutL {a : Addr} {ws : List V} {o : HO} (e : H a = some (.lst ws)) : ∀ (ds : List D) (vs : List V), RepL K H ρ ds vs → RepL K (upd H a o) ρ ds vs
  | [], vs, h => h
  | d :: ds, vs, h => by
    obtain ⟨v, r, ev, h1, h2⟩ := h
    exact ⟨v, r, ev, Rep.updOut e d v h1, Rep.updOutL e ds r h2⟩
end
theorem HRep.updOut (hp : HRep K H ρ S) {a : Addr} {ws : List V} {o : HO} (n : a ∉ ρ) (e : H a = some (.lst ws)) : HRep K (upd H a o) ρ S := by
  refine ⟨hp.len, hp.nd, fun m mo b e1 e2 => ?_⟩
  have nb : b ≠ a := fun z => n (by rw [← z]; exact List.mem_of_getElem? e2)
  have r := hp.ob m mo b e1 e2
  cases mo with
  | lst ds => obtain ⟨vs, h1, h2⟩ := r; exact ⟨vs, by rw [upd_ne nb]; exact h1, Rep.updOutL e _ _ h2⟩
  | dic ds => obtain ⟨vs, h1, h2, h3⟩ := r; exact ⟨vs, by rw [upd_ne nb]; exact h1, h2, Rep.updOutL e _ _ h3⟩
  | dit ds => obtain ⟨vs, h1, h2, h3⟩ := r; exact ⟨vs, by rw [upd_ne nb]; exact h1, h2, Rep.updOutL e _ _ h3⟩
theorem Ext.updOut (x : Ext H ρ H' ρ') {a : Addr} {o : HO} (n : H a = none) : Ext H ρ (upd H' a o) ρ' :=
  ⟨x.pre, x.new, fun b u m e => by rw [upd_ne (ne_of_none e n)]; exact x.keep b u m e⟩
theorem HRep.adopt (hp : HRep K H ρ S) {a : Addr} {ws : List V} {ds : List D} (n : a ∉ ρ) (e : H a = some (.lst ws)) (r : RepL K H ρ ds ws) : HRep K H (ρ ++ [a]) (S ++ [.lst ds]) := by
  refine ⟨by simp [hp.len], ?_, fun m mo b e1 e2 => ?_⟩
  · rw [List.nodup_append]
    exact ⟨hp.nd, by simp, fun c hc b hb => by
      have : b = a := by simpa using hb
      intro z; subst z; subst this; exact n hc⟩
  · by_cases hl : m < S.length
    · rw [List.getElem?_append_left hl] at e1
      rw [List.getElem?_append_left (by rw [hp.len]; exact hl)] at e2
      exact (hp.ob m mo b e1 e2).grow
    · have hb := (List.getElem?_eq_some_iff.mp e1).1
      simp at hb
      have en : m = S.length := by omega
      subst en
      rw [List.getElem?_append_right (Nat.le_refl _), Nat.sub_self] at e1
      rw [← hp.len, List.getElem?_append_right (Nat.le_refl _), Nat.sub_self] at e2
      have e1' : MO.lst ds = mo := Option.some.inj e1
      have e2' : a = b := Option.some.inj e2
      subst e1' e2'
      exact ⟨ws, e, Rep.growL _ _ r⟩
theorem Ext.none (x : Ext H ρ H' ρ') (hp : HRep K H ρ S) (hp' : HRep K H' ρ' S') {a : Addr} (n : H' a = none) : H a = none := by
  cases q : H a with
  | none => rfl
  | some o =>
    by_cases m : a ∈ ρ
    · obtain ⟨τ, rfl⟩ := x.pre
      have := hp'.free n
      exact absurd (List.mem_append_left _ m) this
    · rw [x.keep a o m q] at n; cases n
end
section
variable {X : Cx} {p : Pos}
theorem _root_.L2.PG.imp {tg : Expr} {t t' : TG} (h : PG X tg t) (i : ∀ v σ H Q, t' v σ H Q → t v σ H Q) : PG X tg t' := ⟨fun pins s σ H v u Q I r q => h.run pins s σ H v u Q I r (i v σ H Q q)⟩
theorem _root_.L2.PGs.imp {tg : List Expr} {t t' : TGs} (h : PGs X tg t) (i : ∀ v σ H Q, t' v σ H Q → t v σ H Q) : PGs X tg t' := ⟨fun pins s σ H v u Q I r q => h.run pins s σ H v u Q I r (i v σ H Q q)⟩
theorem g_nm {i : Nat} {x : Str} (hN : X.N.Nodup) (hi : X.N[i]? = some x) (hx : Loc X.env.scope x) (hf : X.fn x = true ∨ X.env.scope.names.lookup x = some .local) : PG X (.Name x p) (tG X.K [i] fun d σ S => some (σ.set i (some d), S)) :=
  (pg_name hN hi hx hf).imp fun v σ H Q ⟨ρ, σD, S, d, σE, S', c, r, e, k⟩ => by
    obtain ⟨rfl, rfl⟩ := inj2 e
    exact k _ H ρ ⟨by simp, fun j hj => by rw [List.getElem?_set_ne]; intro z; exact hj (by simp [z])⟩ Ext.refl (c.set i r)
theorem gs_nil : PGs X [] (tGs X.K [] fun vs σ S => match vs with | [] => some (σ, S) | _ => none) :=
  pgs_nil.imp fun vs σ H Q ⟨ρ, σD, S, ds, σE, S', c, r, e, k⟩ => by
    cases ds with
    | nil =>
      cases r
      obtain ⟨rfl, rfl⟩ := inj2 e
      exact ⟨rfl, k σ H ρ ⟨rfl, fun _ _ => rfl⟩ Ext.refl c⟩
    | cons d ds => cases e
theorem gs_cons {e : Expr} {es : List Expr} {s1 s2 : List Nat} {f : D → StD → Store → Option (StD × Store)} {g : List D → StD → Store → Option (StD × Store)} (h1 : PG X e (tG X.K s1 f)) (h2 : PGs X es (tGs X.K s2 g))
    (hs : (assignEach (e :: es) X.env).map (·.2) = assign e X.env :: (assignEach es X.env).map (·.2)) :
    PGs X (e :: es) (tGs X.K (s1 ++ s2) fun vs σ S => match vs with | v :: ws => bnd (f v σ S) fun σ1 S1 => g ws σ1 S1 | [] => none) :=
  (pgs_cons h1 h2 hs).imp fun vs σ H Q ⟨ρ, σD, S, ds, σE, S', c, r, e, k⟩ => by
    cases ds with
    | nil => cases e
    | cons d ds =>
      obtain ⟨v, vr, rfl, r1, r2⟩ := r
      obtain ⟨σ1, S1, e1, e2⟩ := bnd_eq e
      refine ⟨v, vr, rfl, ρ, σD, S, d, σ1, S1, c, r1, e1, fun σ' H1 ρ1 q1 x1 c1 => ⟨ρ1, σ1, S1, ds, σE, S', c1, x1.repL c.hp _ _ r2, e2, fun σ'' H2 ρ2 q2 x2 c2 => ?_⟩⟩
      refine k σ'' H2 ρ2 ⟨q2.1.trans q1.1, fun j hj => ?_⟩ (x1.trans x2) c2
      rw [List.mem_append, not_or] at hj
      rw [q2.2 j hj.2, q1.2 j hj.1]
theorem g_tp {es : List Expr} {k n : Nat} {sl : List Nat} {g : List D → StD → Store → Option (StD × Store)} (hc : X.calm = true) (h : PGs X es (tGs X.K sl g)) (hn : (assignEach es X.env).length = n) (hst : (assignEach es X.env).findIdx? (·.1) = none)
    (hg : ∀ ds σ S r, g ds σ S = some r → ds.length = n) : PG X (.Tuple es k p) (tG X.K sl fun d σ S => bnd (opt (seqOf S d) S) fun ds S1 => g ds σ S1) := by
  refine ⟨fun pins s σ H v u Q I rv ⟨ρ, σD, S, d, σE, S', c, r, e, kk⟩ => ?_⟩
  obtain ⟨ds, S1, e1, e2⟩ := bnd_eq e
  obtain ⟨e3, e4⟩ := opt_eq e1
  subst S1
  obtain ⟨a, vs, rfl, ha, rr⟩ := seq_at c.hp e3 r
  have hl : vs.length = n := by rw [← rr.length]; exact hg _ _ _ _ e2
  rcases ha with ha | ha
  · exact (pg_unl hc h hn hst).run pins s σ H _ u Q I rv ⟨a, vs, rfl, ha, hl, ρ, σD, S, _, σE, S', c, rr, e2, kk⟩
  · exact (pg_tup hc h hn hst).run pins s σ H _ u Q I rv ⟨a, vs, rfl, ha, hl, ρ, σD, S, _, σE, S', c, rr, e2, kk⟩
theorem set_D (hu : X.A.units + 1 < cLine) : PSet X (fun o i v H Q => ∃ ρ S do_ di dv S', HRep X.K H ρ S ∧ Rep X.K H ρ do_ o ∧ Rep X.K H ρ di i ∧ Rep X.K H ρ dv v ∧ setD do_ di dv S = some S' ∧ ∀ H', Ext H ρ H' ρ → HRep X.K H' ρ S' → Q H') := by
  intro pins s σ H o i v ov iv u Q I ro ri rv ⟨ρ, S, do_, di, dv, S', hp, r1, r2, r3, e, k⟩
  have dic : ∀ {m : Nat} {kvs : List (Key × D)} {kk : Key}, do_ = .loc m → S[m]? = some (.dic kvs) → kvs.length < sizeLine → S' = S.set m (.dic (putG kvs kk dv)) → i = kV kk → wpAny (model X.prog X.w) X.A (setItem ov iv u) (fun _ s' => ∃ H', L2.Inv X pins σ H' s' ∧ Q H') X.xe s := fun {m kvs kk} h1 h2 h3 h4 h5 => by
    subst h1 h4 h5
    obtain ⟨a, ws, rfl, ea, ha, k1, k2⟩ := dic_at hp h2 r1
    have hl : ws.length = kvs.length := by simpa using congrArg List.length k1
    cases ro
    obtain ⟨p1, p2⟩ := putK_ok (k := kk) r3 k1 k2
    have wr := hp.write (o := .dK (putK ws kk v)) (mo := .dic (putG kvs kk dv)) ea ⟨_, upd_same, p1, (Ext.write hp ea).repL hp _ _ p2⟩
    exact d_setItem hu I (DPut.k (k := kk) ha (by omega)) ri rv fun s4 I4 => ⟨_, I4, k _ (Ext.write hp ea) wr⟩
  unfold setD at e
  split at e
  · rename_i m kk
    split at e
    · rename_i ds hS
      split at e
      · rename_i j hj
        cases e
        obtain ⟨a, vs, rfl, ea, ha, rs⟩ := lst_at hp hS r1
        refine set_list pins s σ H _ i v ov iv u Q I ro ri rv ⟨a, vs, kk, j, rfl, r2, ha, by rw [← rs.length]; exact hj, ?_⟩
        exact k _ (Ext.write hp ea) (hp.write ea ⟨_, upd_same, (Ext.write hp ea).repL hp _ _ (rs.set j r3)⟩)
      · cases e
    · rename_i kvs hS
      split at e
      · rename_i hz
        exact dic rfl hS hz (Option.some.inj e).symm r2
      · cases e
    · cases e
  · split at e
    · rename_i kvs hS
      split at e
      · rename_i hz
        exact dic rfl hS hz (Option.some.inj e).symm r2
      · cases e
    · cases e
  · cases e
theorem g_sb {o i : Expr} {fo fi : StD → Store → Option (D × Store)} (hu : X.A.units + 1 < cLine) (ho : PE X o (tD X.K fo)) (hi : PE X i (tD X.K fi))
    (ha : ∀ v, assign (.Subscript o i p) X.env v = (do
      let ov ← holding [v] (eval o X.env)
      let iv ← holding [v, ov] (eval i X.env)
      standAt p
      holding [v, ov, iv] (setItem ov iv v)
      release [v, ov, iv] [])) : PG X (.Subscript o i p) (tG X.K [] fun v σ S => bnd (fo σ S) fun x S1 => bnd (fi σ S1) fun y S2 => match setD x y v S2 with | some S3 => some (σ, S3) | none => none) :=
  (pg_sub ho hi (set_D hu) ha).imp fun v σ H Q ⟨ρ, σD, S, d, σE, S', c, r, e, k⟩ => by
    obtain ⟨x, S1, e1, e2⟩ := bnd_eq e
    obtain ⟨y, S2, e3, e4⟩ := bnd_eq e2
    split at e4
    · rename_i S3 hS3
      obtain ⟨rfl, rfl⟩ := inj2 e4
      refine ⟨ρ, σD, S, x, S1, c, e1, fun ov H1 ρ1 x1 h1 r1 => ⟨ρ1, σD, S1, y, S2, c.ext x1 h1, e3, fun iv H2 ρ2 x2 h2 r2 => ?_⟩⟩
      refine ⟨ρ2, S2, x, y, d, S3, h2, x2.rep h1 _ _ r1, r2, x2.rep h1 _ _ (x1.rep c.hp _ _ r), hS3, fun H' x3 h3 => ?_⟩
      exact k σ H' ρ2 ⟨rfl, fun _ _ => rfl⟩ ((x1.trans x2).trans x3) (c.ext ((x1.trans x2).trans x3) h3)
    · cases e4
end
end Mi

end

section
/-! Mi7: comprehensions, loops, statements. -/
namespace Mi
open PySem PySem.Spec L2
section
variable {X : Cx} {p : Pos}
/-- a comprehension's turns -/
theorem lc_ok {K : PySem.W.Frag} {fi : StD → Store → Option (Wk × Store)} {sl vs : List Nat} {g : D → StD → Store → Option (StD × Store)} {c : StD → Store → Option (Bool × Store)} {e : StD → Store → Option (D × Store)} (hsl : ∀ j, j ∈ sl → j ∈ vs)
    {σ : L2.St} {H : Hp} {Q : VK} (h : tD K (fun σ S => bnd (fi σ S) fun w S1 => bnd (lcD w.ok (fun x T => g x (wipeD σ vs) T) c e w.items [] S1) fun ds S2 => some (.loc S2.length, S2 ++ [.lst ds])) σ H Q) :
    tLc (tI K fi) (tG K sl g) (tDB K c) (tD K e) vs σ H Q := by
  obtain ⟨ρ, σD, S, d, S', cc, e0, k⟩ := h
  obtain ⟨w, S1, e1, e2⟩ := bnd_eq e0
  obtain ⟨ds, S2, e3, e4⟩ := bnd_eq e2
  obtain ⟨rfl, rfl⟩ := inj2 e4
  refine ⟨ρ, σD, S, w, S1, cc, e1, fun J H1 ρ1 x1 h1 ok D hD => ?_⟩
  refine ⟨fun i m Hh => ∃ ρi Si acc accV, m = w.items.length - i ∧ i ≤ w.items.length ∧ Ext H1 ρ1 Hh ρi ∧ HRep K Hh ρi Si ∧ Hh D = some (.lst accV) ∧ D ∉ ρi ∧ RepL K Hh ρi acc accV ∧
    lcD w.ok (fun x T => g x (wipeD σD vs) T) c e (w.items.drop i) acc Si = some (ds, S2), ?_, ?_⟩
  · exact ⟨_, ρ1, S1, [], [], rfl, Nat.zero_le _, Ext.newT h1 hD, h1.newT hD, upd_same, h1.free hD, rfl, e3⟩
  · rintro i m Hh ⟨ρi, Si, acc, accV, rfl, hi, xi, hpi, hDi, nDi, ri, ei⟩
    by_cases hlt : i < w.items.length
    · refine .inr ?_
      rw [List.drop_eq_getElem_cons hlt] at ei
      have eit : w.items[i]? = some w.items[i] := List.getElem?_eq_getElem hlt
      generalize w.items[i] = it at ei eit
      unfold lcD at ei
      split at ei
      · rename_i okS
        obtain ⟨go, yl⟩ := ok.go i it Hh ρi Si xi hpi okS eit
        refine ⟨go, fun H' => ∃ ρi Si acc accV, Ext H1 ρ1 H' ρi ∧ HRep K H' ρi Si ∧ H' D = some (.lst accV) ∧ D ∉ ρi ∧ RepL K H' ρi acc accV ∧
          lcD w.ok (fun x T => g x (wipeD σD vs) T) c e (w.items.drop (i + 1)) acc Si = some (ds, S2), fun H' ⟨ρi, Si, acc, accV, q1, q2, q3, q4, q5, q6⟩ => ⟨w.items.length - (i + 1), by omega, ρi, Si, acc, accV, rfl, hlt, q1, q2, q3, q4, q5, q6⟩, fun x H2 hy => ?_⟩
        obtain ⟨x2, hp2, r2⟩ := yl x H2 hy
        obtain ⟨hD2, nD2⟩ := x2.out nDi hDi
        have c2 : Cor K H2 ρi (wipe σ vs) (wipeD σD vs) Si := (cc.ext ((x1.trans xi).trans x2) hp2).wipe vs
        have ri2 := x2.repL hpi _ _ ri
        split at ei
        · rename_i σ1 T1 eg
          refine ⟨ρi, wipeD σD vs, Si, it, σ1, T1, c2, r2, eg, fun σ2 H3 ρ3 q3 x3 c3 => ⟨?_, ?_⟩⟩
          · rw [wipe_same (τ := σ2) (σ := wipe σ vs) q3.1 (fun j hj => q3.2 j fun z => hj (hsl j z))]
            exact wipe_same (by rw [wipe_length]) fun j hj => wipe_out hj
          · obtain ⟨hD3, nD3⟩ := x3.out nD2 hD2
            have ri3 := x3.repL hp2 _ _ ri2
            split at ei
            · rename_i T2 ec
              refine ⟨ρ3, σ1, T1, true, T2, c3, ec, fun H4 ρ4 x4 h4 => ?_⟩
              obtain ⟨hD4, nD4⟩ := x4.out nD3 hD3
              have ri4 := x4.repL c3.hp _ _ ri3
              rw [if_pos rfl]
              split at ei
              · rename_i y T3 ee
                split at ei
                · rename_i hz
                  refine ⟨ρ4, σ1, T2, y, T3, c3.ext x4 h4, ee, fun v H5 ρ5 x5 h5 r5 => ?_⟩
                  obtain ⟨hD5, nD5⟩ := x5.out nD4 hD4
                  have ri5 := x5.repL h4 _ _ ri4
                  refine ⟨accV, hD5, by rw [← ri5.length]; exact hz, ρ5, T3, acc ++ [y], accV ++ [v], ?_, h5.updOut nD5 hD5, upd_same, nD5, Rep.updOutL hD5 _ _ (ri5.append ⟨v, [], rfl, r5, rfl⟩), ei⟩
                  exact ((((xi.trans x2).trans x3).trans x4).trans x5).updOut hD
                · cases ei
              · cases ei
            · rename_i T2 ec
              refine ⟨ρ3, σ1, T1, false, T2, c3, ec, fun H4 ρ4 x4 h4 => ?_⟩
              obtain ⟨hD4, nD4⟩ := x4.out nD3 hD3
              have ri4 := x4.repL c3.hp _ _ ri3
              rw [if_neg Bool.false_ne_true]
              exact ⟨ρ4, T2, acc, accV, ((xi.trans x2).trans x3).trans x4, h4, hD4, nD4, ri4, ei⟩
            · cases ei
        · cases ei
      · cases ei
    · have en : i = w.items.length := by omega
      subst en
      rw [List.drop_length] at ei
      unfold lcD at ei
      split at ei
      · rename_i okS
        obtain ⟨rfl, rfl⟩ := inj2 ei
        refine .inl ⟨ok.stop _ Hh ρi _ xi hpi okS rfl, ?_⟩
        have hn : H D = none := x1.none cc.hp h1 hD
        have x := x1.trans xi
        obtain ⟨τ, eτ⟩ := x.pre
        refine k _ Hh (ρi ++ [D]) ⟨⟨τ ++ [D], by rw [eτ, List.append_assoc]⟩, fun b hb nb => ?_, x.keep⟩ (hpi.adopt nDi hDi ri) ⟨D, rfl, ?_⟩
        · rcases List.mem_append.mp hb with m1 | m1
          · exact x.new b m1 nb
          · have eb : b = D := by simpa using m1
            rw [eb]; exact hn
        · rw [← hpi.len, List.getElem?_append_right (Nat.le_refl _), Nat.sub_self]; rfl
      · cases ei

theorem _root_.L2.PTs.imp {e : List Expr} {t t' : TT} (h : PTs X e t) (i : ∀ σ H Q, t' σ H Q → t σ H Q) : PTs X e t' := ⟨fun pins s σ H Q I hw => h.run pins s σ H Q I (i σ H Q hw)⟩
theorem ts_none : PTs X [] (tDB X.K fun _ S => some (true, S)) := pts_nil.imp fun σ H Q ⟨ρ, σD, S, b, S', cc, e, k⟩ => by
  obtain ⟨rfl, rfl⟩ := inj2 e
  exact k H ρ Ext.refl cc.hp
section
variable {elt tg iter : Expr} {ifs : List Expr} {scope : Scope} {own : List (Str × Nat)} {fi : StD → Store → Option (Wk × Store)} {sl : List Nat} {g : D → StD → Store → Option (StD × Store)} {c : StD → Store → Option (Bool × Store)} {e : StD → Store → Option (D × Store)}
abbrev evLc (fi : StD → Store → Option (Wk × Store)) (vs : List Nat) (g : D → StD → Store → Option (StD × Store)) (c : StD → Store → Option (Bool × Store)) (e : StD → Store → Option (D × Store)) : StD → Store → Option (D × Store) :=
  fun σ S => bnd (fi σ S) fun w S1 => bnd (lcD w.ok (fun x T => g x (wipeD σ vs) T) c e w.items [] S1) fun ds S2 => some (.loc S2.length, S2 ++ [.lst ds])
theorem r_lc (hc : X.calm = true) (hN : X.N.Nodup) (hi : PI X tg iter (tI X.K fi)) (ok : BlkOk X.N X.env.scope scope own)
    (hg : ∀ (s : Shared) (H : Hp) (C : Addr) (cl : List (Str × Addr)) (fp : List Addr), PG (X.blk s H scope (compEnvC scope cl C X.env) fp) tg (tG X.K sl g)) (ht : ∀ (s : Shared) (H : Hp) (C : Addr) (cl : List (Str × Addr)) (fp : List Addr), PTs (X.blk s H scope (compEnvC scope cl C X.env) fp) ifs (tDB X.K c))
    (he : ∀ (s : Shared) (H : Hp) (C : Addr) (cl : List (Str × Addr)) (fp : List Addr), PE (X.blk s H scope (compEnvC scope cl C X.env) fp) elt (tD X.K e)) (hs : ∀ x, foldedSetIterable iter X.env x = pure x) (hsl : ∀ j, j ∈ sl → j ∈ own.map (·.2)) :
    PE X (.ListComp elt [⟨tg, iter, ifs, 0⟩] scope p) (tD X.K (evLc fi (own.map (·.2)) g c e)) :=
  (pe_lc hc hN hi ok hg ht he hs).imp fun σ H Q => lc_ok hsl
/-! ### statements -/
def Out (K : PySem.W.Frag) (En : Ends) (H : Hp) (ρ : List Addr) (S' : Store) : Fl → Prop
  | .next σE => ∀ σ' H' ρ', Ext H ρ H' ρ' → Cor K H' ρ' σ' σE S' → En.nx σ' H'
  | .brk σE => ∀ σ' H' ρ', Ext H ρ H' ρ' → Cor K H' ρ' σ' σE S' → En.bk σ' H'
  | .cnt σE => ∀ σ' H' ρ', Ext H ρ H' ρ' → Cor K H' ρ' σ' σE S' → En.ct σ' H'
  | .ret d => ∀ v H' ρ', Ext H ρ H' ρ' → HRep K H' ρ' S' → Rep K H' ρ' d v → En.rt v H'
def tT (K : PySem.W.Frag) (f : StD → Store → Option (Fl × Store)) : TS := fun En σ H => ∃ ρ σD S r S', Cor K H ρ σ σD S ∧ f σD S = some (r, S') ∧ Out K En H ρ S' r
theorem Out.ext {K : PySem.W.Frag} {En : Ends} {H H' : Hp} {ρ ρ' : List Addr} {S' : Store} {r : Fl} (h : Out K En H ρ S' r) (x : Ext H ρ H' ρ') : Out K En H' ρ' S' r := by
  cases r with
  | next σE => exact fun σ2 H2 ρ2 x2 c2 => h σ2 H2 ρ2 (x.trans x2) c2
  | brk σE => exact fun σ2 H2 ρ2 x2 c2 => h σ2 H2 ρ2 (x.trans x2) c2
  | cnt σE => exact fun σ2 H2 ρ2 x2 c2 => h σ2 H2 ρ2 (x.trans x2) c2
  | ret d => exact fun v H2 ρ2 x2 h2 r2 => h v H2 ρ2 (x.trans x2) h2 r2
theorem tsx_nil : PSs X [] (tT X.K fun σ S => some (.next σ, S)) := pss_nil.imp fun En σ H ⟨ρ, σD, S, r, S', cc, e, k⟩ => by
  obtain ⟨rfl, rfl⟩ := inj2 e
  exact k σ H ρ Ext.refl cc
def seqT (f g : StD → Store → Option (Fl × Store)) : StD → Store → Option (Fl × Store) := fun σ S => bnd (f σ S) fun r S1 => match r with
    | .next σ1 => g σ1 S1
    | .brk σ1 => some (.brk σ1, S1)
    | .cnt σ1 => some (.cnt σ1, S1)
    | .ret d => some (.ret d, S1)
theorem tsx_cons {st : Stmt} {rest : List Stmt} {f g' : StD → Store → Option (Fl × Store)} (h1 : PS X st (tT X.K f)) (h2 : PSs X rest (tT X.K g')) : PSs X (st :: rest) (tT X.K (seqT f g')) :=
  (pss_cons h1 h2).imp fun En σ H ⟨ρ, σD, S, r, S', cc, e, k⟩ => by
    obtain ⟨r1, S1, e1, e2⟩ := bnd_eq e
    cases r1 with
    | next σ1 => exact ⟨ρ, σD, S, .next σ1, S1, cc, e1, fun σ' H' ρ' x' c' => ⟨ρ', σ1, S1, r, S', c', e2, k.ext x'⟩⟩
    | brk σ1 => obtain ⟨rfl, rfl⟩ := inj2 e2; exact ⟨ρ, σD, S, .brk σ1, S1, cc, e1, k⟩
    | cnt σ1 => obtain ⟨rfl, rfl⟩ := inj2 e2; exact ⟨ρ, σD, S, .cnt σ1, S1, cc, e1, k⟩
    | ret d => obtain ⟨rfl, rfl⟩ := inj2 e2; exact ⟨ρ, σD, S, .ret d, S1, cc, e1, k⟩
variable {a b : Expr} {fa : StD → Store → Option (D × Store)} {q : Pos}
theorem s_ex (he : PE X a (tD X.K fa)) (hs : swapsWith a none p.line X.env = pure false) : PS X (.Expr a p) (tT X.K fun σ S => bnd (fa σ S) fun _ S1 => some (.next σ, (gc S .non S1).2)) :=
  (ps_expr he hs).imp fun En σ H ⟨ρ, σD, S, r, S', cc, e, k⟩ => by
    obtain ⟨d, S1, e1, e2⟩ := bnd_eq e
    obtain ⟨rfl, rfl⟩ := inj2 e2
    refine ⟨ρ, σD, S, d, S1, cc, e1, fun v H1 ρ1 x1 h1 r1 => ?_⟩
    obtain ⟨ρ2, x2, h2, _⟩ := gc_ok cc.hp x1 h1 (show Rep X.K H1 ρ1 .non .non from rfl)
    exact k σ H1 ρ2 x2 (cc.ext x2 h2)
theorem s_ret (he : PE X a (tD X.K fa)) : PS X (.Return (some a) p) (tT X.K fun σ S => bnd (fa σ S) fun d S1 => some (.ret d, S1)) :=
  (ps_ret he).imp fun En σ H ⟨ρ, σD, S, r, S', cc, e, k⟩ => by
    obtain ⟨d, S1, e1, e2⟩ := bnd_eq e
    obtain ⟨rfl, rfl⟩ := inj2 e2
    exact ⟨ρ, σD, S, d, _, cc, e1, fun v H1 ρ1 x1 h1 r1 => k v H1 ρ1 x1 h1 r1⟩
theorem s_retN : PS X (.Return none p) (tT X.K fun _ S => some (.ret .non, S)) :=
  ps_retN.imp fun En σ H ⟨ρ, σD, S, r, S', cc, e, k⟩ => by
    obtain ⟨rfl, rfl⟩ := inj2 e
    exact k .non H ρ Ext.refl cc.hp rfl
theorem s_pas : PS X (.Pass p) (tT X.K fun σ S => some (.next σ, S)) := ps_pass.imp fun En σ H ⟨ρ, σD, S, r, S', cc, e, k⟩ => by
  obtain ⟨rfl, rfl⟩ := inj2 e
  exact k σ H ρ Ext.refl cc
theorem s_brk : PS X (.Break p) (tT X.K fun σ S => some (.brk σ, S)) := ps_break.imp fun En σ H ⟨ρ, σD, S, r, S', cc, e, k⟩ => by
  obtain ⟨rfl, rfl⟩ := inj2 e
  exact k σ H ρ Ext.refl cc
theorem s_cnt : PS X (.Continue p) (tT X.K fun σ S => some (.cnt σ, S)) := ps_continue.imp fun En σ H ⟨ρ, σD, S, r, S', cc, e, k⟩ => by
  obtain ⟨rfl, rfl⟩ := inj2 e
  exact k σ H ρ Ext.refl cc
theorem s_nev {st : Stmt} : PS X st (tT X.K fun _ _ => none) := ⟨fun _ _ σ H En _ ⟨ρ, σD, S, r, S', cc, e, k⟩ => by cases e⟩
theorem s_iff {x y : List Stmt} {gc' : StD → Store → Option (Bool × Store)} {f g' : StD → Store → Option (Fl × Store)} (hc : PT X a (tDB X.K gc')) (hx : PSs X x (tT X.K f)) (hy : PSs X y (tT X.K g')) : PS X (.If a x y p) (tT X.K fun σ S => bnd (gc' σ S) (iteD (f σ) (g' σ))) :=
  (ps_if hc hx hy).imp fun En σ H ⟨ρ, σD, S, r, S', cc, e, k⟩ => by
    obtain ⟨z, S1, e1, e2⟩ := bnd_eq e
    refine ⟨ρ, σD, S, z, S1, cc, e1, fun H1 ρ1 x1 h1 => ?_⟩
    cases z with
    | true => rw [if_pos rfl]; exact ⟨ρ1, σD, S1, r, S', cc.ext x1 h1, e2, k.ext x1⟩
    | false => rw [if_neg Bool.false_ne_true]; exact ⟨ρ1, σD, S1, r, S', cc.ext x1 h1, e2, k.ext x1⟩
def asgT (fa : StD → Store → Option (D × Store)) (g : D → StD → Store → Option (StD × Store)) : StD → Store → Option (Fl × Store) := fun σ S => bnd (fa σ S) fun d S1 => bnd (g d σ S1) fun σ1 S2 => some (.next σ1, S2)
theorem asg_ok {K : PySem.W.Frag} {En : Ends} {σ : L2.St} {H : Hp} (h : tT K (asgT fa g) En σ H) : tAsg (tD K fa) (tG K sl g) En σ H := by
  obtain ⟨ρ, σD, S, r, S', cc, e, k⟩ := h
  obtain ⟨d, S1, e1, e2⟩ := bnd_eq e
  obtain ⟨σ1, S2, e3, e4⟩ := bnd_eq e2
  obtain ⟨rfl, rfl⟩ := inj2 e4
  exact ⟨ρ, σD, S, d, S1, cc, e1, fun v H1 ρ1 x1 h1 r1 => ⟨ρ1, σD, S1, d, σ1, _, cc.ext x1 h1, r1, e3, fun σ' H' ρ' _ x' c' => k σ' H' ρ' (x1.trans x') c'⟩⟩
theorem s_asg (he : PE X a (tD X.K fa)) (hg : PG X tg (tG X.K sl g)) (hs : swapsWithSole [tg] a p.line X.env = pure false) (hw : swappedStores [tg] a X.env = pure none) (h1 : (assignEach [tg] X.env).map (·.2) = [assign tg X.env]) : PS X (.Assign [tg] a p) (tT X.K (asgT fa g)) :=
  (ps_asg he hg hs hw h1).imp fun En σ H => asg_ok
theorem s_aug {i : Nat} {x : Str} {o : Operator} (hN : X.N.Nodup) (hi : X.N[i]? = some x) (hx : Loc X.env.scope x) (he : PE X a (tD X.K fa)) (hf : X.fn x = true ∨ X.env.scope.names.lookup x = some .local) :
    PS X (.AugAssign (.Name x q) o a p) (tT X.K fun σ S => bnd (opt (slotD σ i) S) fun x S1 => bnd (fa σ S1) fun y S2 => bnd (opt (augD o x y) S2) fun z S3 => some (.next (σ.set i (some z)), S3)) := by
  have go : ∀ {t : TIp}, PIp X o t → (∀ {K : PySem.W.Frag} {H : Hp} {ρ : List Addr} {dx dy dz : D} {v w : V} {Q : VK}, augD o dx dy = some dz → Rep K H ρ dx v → Rep K H ρ dy w → (∀ u, Rep K H ρ dz u → Q u H) → t v w H Q) →
      PS X (.AugAssign (.Name x q) o a p) (tT X.K fun σ S => bnd (opt (slotD σ i) S) fun x S1 => bnd (fa σ S1) fun y S2 => bnd (opt (augD o x y) S2) fun z S3 => some (.next (σ.set i (some z)), S3)) := fun {t} ht hh =>
    (ps_aug hN hi hx he ht hf).imp fun En σ H ⟨ρ, σD, S, r, S', cc, e, k⟩ => by
      obtain ⟨dx, S1, e1, e2⟩ := bnd_eq e
      obtain ⟨e3, e4⟩ := opt_eq e1
      subst S1
      obtain ⟨dy, S2, e5, e6⟩ := bnd_eq e2
      obtain ⟨dz, S3, e7, e8⟩ := bnd_eq e6
      obtain ⟨e9, e10⟩ := opt_eq e7
      subst S3
      obtain ⟨rfl, rfl⟩ := inj2 e8
      have e11 : σD[i]? = some (some dx) := by
        unfold slotD at e3
        split at e3
        · cases e3; assumption
        · cases e3
      obtain ⟨v, h1, h2⟩ := cc.st i dx e11
      refine ⟨v, h1, ρ, σD, S, dy, _, cc, e5, fun w H1 ρ1 x1 h1' r1 => hh e9 (x1.rep cc.hp _ _ h2) r1 fun u ru => ?_⟩
      exact k _ H1 ρ1 x1 ((cc.ext x1 h1').set i ru)
  have isInts : ∀ {dx dy dz : D} {o : Operator}, augD o dx dy = some dz → ∃ a b, dx = .int a ∧ dy = .int b := fun {dx dy dz o} h => by
    cases dx <;> cases dy <;> first | (cases h; done) | exact ⟨_, _, rfl, rfl⟩
  cases o with
  | Add =>
    exact go ip_add fun {K H ρ dx dy dz v w Q} h r1 r2 kk => by
      obtain ⟨a, b, rfl, rfl⟩ := isInts h
      cases h
      exact ⟨a, b, r1, r2, kk _ rfl⟩
  | Sub =>
    exact go ip_sub fun {K H ρ dx dy dz v w Q} h r1 r2 kk => by
      obtain ⟨a, b, rfl, rfl⟩ := isInts h
      cases h
      exact ⟨a, b, r1, r2, kk _ rfl⟩
  | _ =>
    exact ⟨fun _ _ σ H En _ ⟨ρ, σD, S, r, S', cc, e, k⟩ => by
      obtain ⟨dx, S1, e1, e2⟩ := bnd_eq e
      obtain ⟨dy, S2, e5, e6⟩ := bnd_eq e2
      obtain ⟨dz, S3, e7, e8⟩ := bnd_eq e6
      obtain ⟨e9, e10⟩ := opt_eq e7
      obtain ⟨a, b, rfl, rfl⟩ := isInts e9
      cases e9⟩
theorem s_for {body : List Stmt} {fb : StD → Store → Option (Fl × Store)} (hp : PassesOwn (model X.prog X.w) X.A X.env X.xe) (hc : X.calm = true) (hi : PI X tg iter (tI X.K fi)) (hg : PG X tg (tG X.K sl g)) (hb : PSs X body (tT X.K fb)) (hs : ∀ x, foldedSetIterable iter X.env x = pure x) :
    PS X (.For tg iter body [] p) (tT X.K fun σ S => bnd (fi σ S) fun w S1 => forD w.ok g fb w.items σ S1) := by
  refine (ps_for hp hc hi hg hb hs).imp fun En σ H ⟨ρ, σD, S, r, S', cc, e, k⟩ => ?_
  obtain ⟨w, S1, e1, e2⟩ := bnd_eq e
  refine ⟨ρ, σD, S, w, S1, cc, e1, fun J H1 ρ1 x1 h1 ok => ?_⟩
  refine ⟨fun i m τ Hh => ∃ ρi τD Si, m = w.items.length - i ∧ i ≤ w.items.length ∧ Ext H1 ρ1 Hh ρi ∧ Cor X.K Hh ρi τ τD Si ∧ forD w.ok g fb (w.items.drop i) τD Si = some (r, S'), ⟨_, ρ1, σD, S1, rfl, Nat.zero_le _, Ext.refl, cc.ext x1 h1, e2⟩, ?_⟩
  rintro i m τ Hh ⟨ρi, τD, Si, rfl, hi', xi, ci, ei⟩
  by_cases hlt : i < w.items.length
  · rw [List.drop_eq_getElem_cons hlt] at ei
    have eit : w.items[i]? = some w.items[i] := List.getElem?_eq_getElem hlt
    generalize w.items[i] = it at ei eit
    unfold forD at ei
    split at ei
    · rename_i okS
      obtain ⟨go, yl⟩ := ok.go i it Hh ρi Si xi ci.hp okS eit
      refine .inr ⟨go, fun τ' H' => ∃ ρi τD Si, Ext H1 ρ1 H' ρi ∧ Cor X.K H' ρi τ' τD Si ∧ forD w.ok g fb (w.items.drop (i + 1)) τD Si = some (r, S'), fun τ' H' ⟨ρi, τD, Si, q1, q2, q3⟩ => ⟨w.items.length - (i + 1), by omega, ρi, τD, Si, rfl, hlt, q1, q2, q3⟩, fun x H2 hy => ?_⟩
      obtain ⟨x2, hp2, r2⟩ := yl x H2 hy
      split at ei
      · rename_i τ1 T1 eg
        refine ⟨ρi, τD, Si, it, τ1, T1, ci.ext x2 hp2, r2, eg, fun τ2 H3 ρ3 _ x3 c3 => ?_⟩
        have x13 := (xi.trans x2).trans x3
        split at ei
        · rename_i τ3 T2 eb
          exact ⟨ρ3, τ1, T1, .next τ3, T2, c3, eb, fun τ4 H4 ρ4 x4 c4 => ⟨ρ4, τ3, T2, x13.trans x4, c4, ei⟩⟩
        · rename_i τ3 T2 eb
          exact ⟨ρ3, τ1, T1, .cnt τ3, T2, c3, eb, fun τ4 H4 ρ4 x4 c4 => ⟨ρ4, τ3, T2, x13.trans x4, c4, ei⟩⟩
        · rename_i τ3 T2 eb
          obtain ⟨rfl, rfl⟩ := inj2 ei
          exact ⟨ρ3, τ1, T1, .brk τ3, _, c3, eb, fun τ4 H4 ρ4 x4 c4 => k τ4 H4 ρ4 ((x1.trans x13).trans x4) c4⟩
        · rename_i dd T2 eb
          obtain ⟨rfl, rfl⟩ := inj2 ei
          exact ⟨ρ3, τ1, T1, .ret dd, _, c3, eb, fun v H4 ρ4 x4 h4 r4 => k v H4 ρ4 ((x1.trans x13).trans x4) h4 r4⟩
        · cases ei
      · cases ei
    · cases ei
  · have en : i = w.items.length := by omega
    subst en
    rw [List.drop_length] at ei
    unfold forD at ei
    split at ei
    · rename_i okS
      obtain ⟨rfl, rfl⟩ := inj2 ei
      exact .inl ⟨ok.stop _ Hh ρi _ xi ci.hp okS rfl, k τ Hh ρi (x1.trans xi) ci⟩
    · cases ei
theorem s_whl {body : List Stmt} {ft : StD → Store → Option (Bool × Store)} {fb : StD → Store → Option (Fl × Store)} (hp : PassesOwn (model X.prog X.w) X.A X.env X.xe) (ht : PT X a (tDB X.K ft)) (hb : PSs X body (tT X.K fb)) (N : Nat) :
    PS X (.While a body [] p) (tT X.K fun σ S => whlD ft fb N σ S) := by
  refine (ps_while hp ht hb).imp fun En σ H ⟨ρ, σD, S, r, S', cc, e, k⟩ => ?_
  refine ⟨fun m τ Hh => ∃ ρi τD Si, Ext H ρ Hh ρi ∧ Cor X.K Hh ρi τ τD Si ∧ whlD ft fb m τD Si = some (r, S'), ⟨N, ρ, σD, S, Ext.refl, cc, e⟩, ?_⟩
  rintro m τ Hh ⟨ρi, τD, Si, xi, ci, ei⟩
  cases m with
  | zero => cases ei
  | succ n =>
    unfold whlD at ei
    split at ei
    · rename_i T1 et
      refine ⟨ρi, τD, Si, true, T1, ci, et, fun H1 ρ1 x1 h1 => ?_⟩
      refine iteT ?_
      refine ⟨fun τ' H' => ∃ ρi τD Si, Ext H ρ H' ρi ∧ Cor X.K H' ρi τ' τD Si ∧ whlD ft fb n τD Si = some (r, S'), fun τ' H' ⟨ρi, τD, Si, q1, q2, q3⟩ => ⟨n, Nat.lt_succ_self n, ρi, τD, Si, q1, q2, q3⟩, ?_⟩
      have x01 := xi.trans x1
      split at ei
      · rename_i τ3 T2 eb
        exact ⟨ρ1, τD, T1, .next τ3, T2, ci.ext x1 h1, eb, fun τ4 H4 ρ4 x4 c4 => ⟨ρ4, τ3, T2, x01.trans x4, c4, ei⟩⟩
      · rename_i τ3 T2 eb
        exact ⟨ρ1, τD, T1, .cnt τ3, T2, ci.ext x1 h1, eb, fun τ4 H4 ρ4 x4 c4 => ⟨ρ4, τ3, T2, x01.trans x4, c4, ei⟩⟩
      · rename_i τ3 T2 eb
        obtain ⟨rfl, rfl⟩ := inj2 ei
        exact ⟨ρ1, τD, T1, .brk τ3, _, ci.ext x1 h1, eb, fun τ4 H4 ρ4 x4 c4 => k τ4 H4 ρ4 (x01.trans x4) c4⟩
      · rename_i dd T2 eb
        obtain ⟨rfl, rfl⟩ := inj2 ei
        exact ⟨ρ1, τD, T1, .ret dd, _, ci.ext x1 h1, eb, fun v H4 ρ4 x4 h4 r4 => k v H4 ρ4 (x01.trans x4) h4 r4⟩
      · cases ei
    · rename_i T1 et
      obtain ⟨rfl, rfl⟩ := inj2 ei
      refine ⟨ρi, τD, Si, false, T1, ci, et, fun H1 ρ1 x1 h1 => ?_⟩
      refine iteF ?_
      exact k τ H1 ρ1 (xi.trans x1) (ci.ext x1 h1)
    · cases ei
end
end
end Mi

end

section
/-! Mi8: calls, methods; the language is sound. -/
namespace Mi
open PySem PySem.Spec L2
/-! ### facts of the text -/
section
variable {env : Env}
theorem star_e (e : E) (r : List Expr) : starEach (embE e :: r) env = (false, eval (embE e) env) :: starEach r env := by cases e <;> rfl
theorem star_i (e : I) (r : List Expr) : starEach (embI e :: r) env = (false, eval (embI e) env) :: starEach r env := by
  cases e with
  | ex e => exact star_e e r
  | _ => rfl
theorem star_any (pos : Pos) : ∀ es : Es, (backTo pos (starEach (embEs es) env)).any (·.1) = false
  | .nil => rfl
  | .cons e r => by
    show (backTo pos (starEach (embE e :: embEs r) env)).any (·.1) = false
    rw [star_e]
    show (false || (backTo pos (starEach (embEs r) env)).any (·.1)) = false
    rw [star_any pos r]; rfl
theorem star_all (pos : Pos) : ∀ es : Es, (backTo pos (starEach (embEs es) env)).all (fun x => !x.1) = true
  | .nil => rfl
  | .cons e r => by
    show (backTo pos (starEach (embE e :: embEs r) env)).all (fun x => !x.1) = true
    rw [star_e]
    show (true && (backTo pos (starEach (embEs r) env)).all (fun x => !x.1)) = true
    rw [star_all pos r]; rfl
theorem emb_len : ∀ es : Es, (embEs es).length = es.len
  | .nil => rfl
  | .cons e r => by simp [embEs, Es.len, emb_len r]
theorem noSet (o : CmpOp) (e : E) : behindInMarks o (embE e) = false := by cases e <;> rfl
theorem noSet2 (o q : CmpOp) (e f : E) : lastMarks [o, q] [embE e, embE f] = false := by
  show behindInMarks q (embE f) = false
  exact noSet q f
theorem plainIx (e : E) : PlainIx (embE e) := by cases e <;> exact fun _ _ => rfl
theorem folded_e (e : E) (x : Value) : foldedSetIterable (embE e) env x = pure x := by cases e <;> rfl
theorem folded_i (e : I) (x : Value) : foldedSetIterable (embI e) env x = pure x := by
  cases e with
  | ex e => exact folded_e e x
  | _ => rfl
theorem base_e (e : E) (h : noCall0 e = true) (nm : Str) : attributeBase (embE e) nm env (eval (embE e) env) = eval (embE e) env := by
  cases e with
  | call f n as q p =>
    cases as with
    | nil => cases h
    | cons a r => rfl
  | bi f as q p =>
    cases as with
    | nil => cases h
    | cons a r => rfl
  | _ => rfl
theorem asg_sb (o i : E) (p : Pos) (v : Value) : assign (.Subscript (embE o) (embE i) p) env v = (do
      let ov ← holding [v] (eval (embE o) env)
      let iv ← holding [v, ov] (eval (embE i) env)
      standAt p
      holding [v, ov, iv] (setItem ov iv v)
      release [v, ov, iv] []) := by cases i <;> rfl
theorem asgE_g (g : G) (r : List Expr) : assignEach (embG g :: r) env = (false, assign (embG g) env) :: assignEach r env := by cases g <;> rfl
theorem asgE_len : ∀ gs : Gs, (assignEach (embGs gs) env).length = gs.len
  | .nil => rfl
  | .cons g r => by
    show (assignEach (embG g :: embGs r) env).length = _
    rw [asgE_g, List.length_cons, asgE_len r]; rfl
theorem asgE_star : ∀ gs : Gs, (assignEach (embGs gs) env).findIdx? (·.1) = none
  | .nil => rfl
  | .cons g r => by
    show (assignEach (embG g :: embGs r) env).findIdx? (·.1) = none
    rw [asgE_g, List.findIdx?_cons]
    simp [asgE_star r]
theorem truth_e (e : E) (h : (match e with | .not .. => false | .bop .. => false | .cmp .. => false | .chn .. => false | .ifx .. => false | _ => true) = true) (whole : Sem Value) :
    isTrue (embE e) env whole = (do let v ← whole; standAt (embE e).pos; holding [v] (truthy v)) := by
  cases e <;> first | rfl | (cases h)
end
theorem evGs_len (C : Orc) : ∀ (gs : Gs) (ds : List D) (σ : StD) (S : Store) (r : StD × Store), evGs C gs ds σ S = some r → ds.length = gs.len
  | .nil, ds, σ, S, r, h => by
    cases ds with
    | nil => rfl
    | cons d ds => cases h
  | .cons g gs, ds, σ, S, r, h => by
    cases ds with
    | nil => cases h
    | cons d ds =>
      obtain ⟨σ1, S1, e1, e2⟩ := bnd_eq (show bnd (evG C g d σ S) _ = some r from h)
      rw [List.length_cons, evGs_len C gs ds σ1 S1 r e2]; rfl

/-! ### methods -/
section
variable {X : Cx}
def liftM (K : PySem.W.Frag) (m : Mt) : V → List V → Hp → VK → Prop := fun x xs H Q => ∃ ρ S dx ds d S', HRep K H ρ S ∧ Rep K H ρ dx x ∧ RepL K H ρ ds xs ∧ mtD m dx ds S = some (d, S') ∧ After K H ρ S' d Q
def Mt.ty : Mt → String
  | .get => "dict"
  | _ => "list"
theorem recv_ty {K : PySem.W.Frag} {H : Hp} {ρ : List Addr} {S : Store} (hp : HRep K H ρ S) {m : Mt} {d : D} {v : V} (e : recvD m d S = true) (r : Rep K H ρ d v) : tyV K m.ty v H := by
  cases d with
  | loc n =>
    unfold recvD at e
    dsimp only at e
    split at e
    · rename_i ds hS
      obtain ⟨a, vs, rfl, _, ha, _⟩ := lst_at hp hS r
      have : m.ty = "list" := by cases m <;> first | rfl | (exact absurd e (by decide))
      rw [this]
      exact .inl ⟨rfl, vs, .of ha⟩
    · rename_i ds hS
      obtain ⟨a, vs, rfl, _, ha, _⟩ := dic_at hp hS r
      have : m.ty = "dict" := by cases m <;> first | rfl | (exact absurd e (by decide))
      rw [this]
      exact .inr (.inr (.inl ⟨rfl, .inl ⟨vs, ha⟩⟩))
    · cases e
  | _ => cases e
theorem mt_list {m : Mt} {dx : D} {ds : List D} {S : Store} {r : D × Store} (hm : m ≠ .get) (e : mtD m dx ds S = some r) : ∃ n xs, dx = .loc n ∧ S[n]? = some (.lst xs) := by
  cases dx with
  | loc n =>
    unfold mtD at e
    dsimp only at e
    split at e
    · rename_i xs hS; exact ⟨n, xs, rfl, hS⟩
    · split at e <;> first | contradiction | (cases e)
    · cases e
  | _ => cases e
theorem append_D : MtR X "list.append" (liftM X.K .append) := by
  intro pins s σ H x xs v us Q I rx rxs ⟨ρ, S, dx, ds, d, S', hp, r1, r2, e, k⟩
  obtain ⟨n, ys, rfl, hS⟩ := mt_list (by decide) e
  obtain ⟨a, vs, rfl, ea, ha, rs⟩ := lst_at hp hS r1
  unfold mtD at e
  dsimp only at e
  rw [hS] at e
  dsimp only at e
  split at e <;> first | contradiction | skip
  split at e
  · rename_i y _ hz
    obtain ⟨rfl, rfl⟩ := inj2 e
    obtain ⟨w, rfl, rw'⟩ := repL1 r2
    refine mt_append pins s σ H _ _ v us Q I rx rxs ⟨a, vs, w, rfl, rfl, ha, by rw [← rs.length]; exact hz, ?_⟩
    exact k _ _ ρ (Ext.write hp ea) (hp.write ea ⟨_, upd_same, (Ext.write hp ea).repL hp _ _ (rs.append ⟨w, [], rfl, rw', rfl⟩)⟩) rfl
  · cases e
theorem extend_D : MtR X "list.extend" (liftM X.K .extend) := by
  intro pins s σ H x xs v us Q I rx rxs ⟨ρ, S, dx, ds, d, S', hp, r1, r2, e, k⟩
  obtain ⟨n, ys, rfl, hS⟩ := mt_list (by decide) e
  obtain ⟨a, vs, rfl, ea, ha, rs⟩ := lst_at hp hS r1
  unfold mtD at e
  dsimp only at e
  rw [hS] at e
  dsimp only at e
  split at e <;> first | contradiction | skip
  split at e
  · rename_i m
    split at e
    · rename_i es hE
      split at e
      · rename_i hz
        obtain ⟨rfl, rfl⟩ := inj2 e
        obtain ⟨w, rfl, rw'⟩ := repL1 r2
        obtain ⟨b, ws, rfl, eb, hb, rs2⟩ := lst_at hp hE rw'
        refine mt_extend pins s σ H _ _ v us Q I rx rxs ⟨a, b, vs, ws, rfl, rfl, ha, hb, by rw [← rs.length, ← rs2.length]; exact hz, ?_⟩
        exact k _ _ ρ (Ext.write hp ea) (hp.write ea ⟨_, upd_same, (Ext.write hp ea).repL hp _ _ (rs.append rs2)⟩) rfl
      · cases e
    · cases e
  · cases e
theorem clear_D : MtR X "list.clear" (liftM X.K .clear) := by
  intro pins s σ H x xs v us Q I rx rxs ⟨ρ, S, dx, ds, d, S', hp, r1, r2, e, k⟩
  obtain ⟨n, ys, rfl, hS⟩ := mt_list (by decide) e
  obtain ⟨a, vs, rfl, ea, ha, rs⟩ := lst_at hp hS r1
  unfold mtD at e
  dsimp only at e
  rw [hS] at e
  dsimp only at e
  split at e <;> first | contradiction | skip
  obtain ⟨rfl, rfl⟩ := inj2 e
  cases r2
  refine mt_clear pins s σ H _ _ v us Q I rx rxs ⟨a, vs, rfl, rfl, ha, ?_⟩
  exact k _ _ ρ (Ext.write hp ea) (hp.write ea ⟨_, upd_same, rfl⟩) rfl
theorem pop_D : MtR X "list.pop" (liftM X.K .pop) := by
  intro pins s σ H x xs v us Q I rx rxs ⟨ρ, S, dx, ds, d, S', hp, r1, r2, e, k⟩
  obtain ⟨n, ys, rfl, hS⟩ := mt_list (by decide) e
  obtain ⟨a, vs, rfl, ea, ha, rs⟩ := lst_at hp hS r1
  unfold mtD at e
  dsimp only at e
  rw [hS] at e
  dsimp only at e
  split at e <;> first | contradiction | skip
  split at e
  · rename_i y hy
    obtain ⟨rfl, rfl⟩ := inj2 e
    cases r2
    obtain ⟨w, g1, g2⟩ := rs.get hy
    refine mt_pop pins s σ H _ _ v us Q I rx rxs ⟨a, vs, w, rfl, rfl, ha, by rw [← rs.length]; exact g1, ?_⟩
    exact k _ _ ρ (Ext.write hp ea) (hp.write ea ⟨_, upd_same, (Ext.write hp ea).repL hp _ _ rs.dropLast⟩) ((Ext.write hp ea).rep hp _ _ g2)
  · cases e
theorem get_D (hu : X.A.units + 1 < cLine) : MtR X "dict.get" (liftM X.K .get) := by
  intro pins s σ H x xs v us Q I rx rxs ⟨ρ, S, dx, ds, d, S', hp, r1, r2, e, k⟩
  cases dx with
  | loc n =>
    unfold mtD at e
    dsimp only at e
    split at e
    · cases e
    · rename_i kvs hS
      obtain ⟨a, ws, rfl, ea, ha, k1, k2⟩ := dic_at hp hS r1
      cases rx
      split at e <;> first | contradiction | skip
      · rename_i kd dd _
        obtain ⟨key, hk, e2⟩ := Option.map_eq_some_iff.mp e
        injection e2 with e3 e4
        subst e3 e4
        obtain ⟨y, z, rfl, ry, rz⟩ := repL2 r2
        obtain ⟨u1, u2, rfl, ru1, ru2⟩ := vals2 rxs
        have := keyOf_ok hk ry
        subst this
        refine d_get2 hu I (DGet.k (k := key) ha) ru1 ru2 fun w' s3 I3 rw' => ⟨_, H, I3, rw', ?_⟩
        refine k _ H ρ Ext.refl hp ?_
        cases h : getG kvs key with
        | none => rw [(getG_ok k1 k2).2.1 h]; exact rz
        | some q =>
          obtain ⟨w, g1, g2⟩ := (getG_ok k1 k2).1 q h
          rw [g1]; exact g2
      · rename_i kd _
        obtain ⟨key, hk, e2⟩ := Option.map_eq_some_iff.mp e
        injection e2 with e3 e4
        subst e3 e4
        obtain ⟨y, rfl, ry⟩ := repL1 r2
        obtain ⟨u1, rfl, ru1⟩ := vals1 rxs
        have := keyOf_ok hk ry
        subst this
        refine d_get1 hu I (DGet.k (k := key) ha) ru1 fun w' s3 I3 rw' => ⟨_, H, I3, rw', ?_⟩
        refine k _ H ρ Ext.refl hp ?_
        cases h : getG kvs key with
        | none => rw [(getG_ok k1 k2).2.1 h]; exact rfl
        | some q =>
          obtain ⟨w, g1, g2⟩ := (getG_ok k1 k2).1 q h
          rw [g1]; exact g2
    · cases e
  | _ => cases e
theorem r_mt (hu : X.A.units + 1 < cLine) {o : E} {m : Mt} {as : Es} {q p : Pos} {fo : StD → Store → Option (D × Store)} {fs : StD → Store → Option (List D × Store)} (ho : PE X (embE o) (tD X.K fo)) (ha : PA X (embEs as) (tDs X.K fs))
    (hb : noCall0 o = true) (hl : (q.endLine == p.line) = true) (hlen : as.len < 20) (hnil : as = .nil → ∀ σ S, fs σ S = some ([], S)) :
    PE X (.Call (.Attribute (embE o) (Str.ofString m.name) q) (embEs as) [] p) (tD X.K fun σ S => bnd (fo σ S) fun x S1 => if recvD m x S1 then bnd (fs σ S1) fun ds S2 => bnd (mtD m x ds S2) fun d S3 => some (gc S d S3) else none) := by
  have core : PE X (.Call (.Attribute (embE o) (Str.ofString m.name) q) (embEs as) [] p) (tD X.K fun σ S => bnd (fo σ S) fun x S1 => if recvD m x S1 then bnd (fs σ S1) fun ds S2 => mtD m x ds S2 else none) := by
    have go : ∀ {id : String}, PlainAttrs m.ty → Slot m.ty (Str.ofString m.name) id → typeOf (.builtin id) = pure (.type "method_descriptor") → MtR X id (liftM X.K m) →
        PE X (.Call (.Attribute (embE o) (Str.ofString m.name) q) (embEs as) [] p) (tD X.K fun σ S => bnd (fo σ S) fun x S1 => if recvD m x S1 then bnd (fs σ S1) fun ds S2 => mtD m x ds S2 else none) := fun {id} pa slot hty hm => by
      cases as with
      | nil =>
        refine (pe_bm0 pa slot hty hm ho (base_e o hb _) hl).imp fun σ H Q ⟨ρ, σD, S, d, S', cc, e, k⟩ => ?_
        obtain ⟨x, S1, e1, e2⟩ := bnd_eq e
        split at e2
        · rename_i hr
          rw [hnil rfl] at e2
          refine ⟨ρ, σD, S, x, S1, cc, e1, fun v H1 ρ1 x1 h1 r1 => ⟨recv_ty h1 hr r1, ρ1, S1, x, [], d, S', h1, r1, rfl, e2, fun v' H' ρ' x' h' r' => k v' H' ρ' (x1.trans x') h' r'⟩⟩
        · cases e2
      | cons a r =>
        refine (pe_bm pa slot hty hm ho ha (base_e o hb _) ?_ hl (star_e a _) (star_any p r)).imp fun σ H Q ⟨ρ, σD, S, d, S', cc, e, k⟩ => ?_
        · have h1 := star_all (env := X.env) p (.cons a r)
          have h2 : (embE a :: embEs r).length < 20 := by
            have := emb_len (.cons a r)
            rw [show embEs (.cons a r) = embE a :: embEs r from rfl] at this
            omega
          rw [show embEs (.cons a r) = embE a :: embEs r from rfl] at h1
          rw [h1]
          show (true && true && decide _) = true
          rw [Bool.true_and, Bool.true_and]
          exact decide_eq_true (by
            show (embE a :: embEs r).length + 0 + 0 < 30
            omega)
        · obtain ⟨x, S1, e1, e2⟩ := bnd_eq e
          split at e2
          · rename_i hr
            obtain ⟨ds, S2, e3, e4⟩ := bnd_eq e2
            refine ⟨ρ, σD, S, x, S1, cc, e1, fun v H1 ρ1 x1 h1 r1 => ⟨recv_ty h1 hr r1, ρ1, σD, S1, ds, S2, cc.ext x1 h1, e3, fun vs H2 ρ2 x2 h2 r2 => ?_⟩⟩
            exact ⟨ρ2, S2, x, ds, d, S', h2, x2.rep h1 _ _ r1, r2, e4, fun v' H' ρ' x' h' r' => k v' H' ρ' ((x1.trans x2).trans x') h' r'⟩
          · cases e2
    cases m with
    | append => exact go PySem.F.plainAttrs_list PySem.F.slot_list_append PySem.F.type_list_append append_D
    | extend => exact go PySem.F.plainAttrs_list PySem.F.slot_list_extend PySem.F.type_list_extend extend_D
    | clear => exact go PySem.F.plainAttrs_list PySem.F.slot_list_clear PySem.F.type_list_clear clear_D
    | pop => exact go PySem.F.plainAttrs_list PySem.F.slot_list_pop PySem.F.type_list_pop pop_D
    | get => exact go PySem.F.plainAttrs_dict PySem.F.slot_dict_get PySem.F.type_dict_get (get_D hu)
  refine (pe_gc core).imp fun σ H Q ⟨ρ, σD, S, d, S', cc, e, k⟩ => ⟨ρ, σD, S, d, S', cc, ?_, k⟩
  obtain ⟨x, S1, e1, e2⟩ := bnd_eq e
  split at e2
  · rename_i hr
    obtain ⟨ds, S2, e3, e4⟩ := bnd_eq e2
    simp only [e1, bnd_some, hr, if_true, e3]
    exact e4
  · cases e2
/-! ### calls -/
/-- a def keeps what the oracle tells -/
def CallOk (P : Program) (w : World) (K : PySem.W.Frag) (mg : Str → Option Value) (base : Heap) (C : Orc) (k : Nat) (f : Str) (n : Nat) (m : Nat) : Prop :=
  ∃ (fa : Addr) (fd : FuncData) (ps : List Str) (dvs : List V) (dsV : List Value) (sp : Sp), mg f = some (.ref fa) ∧ PySem.W.keepIn K (.ref fa) = true ∧ Binds K fd ps dsV ∧ Vals dvs dsV ∧ FnOk P w K mg base CX0 k fa fd ps sp ∧
    ∀ (vs : List V) (H : Hp) (Q : VK), vs.length = m → liftN K (C n) vs H Q → sp (vs ++ dvs) H Q E0
theorem r_call {C : Orc} {k : Nat} {f : Str} {n : Nat} {as : Es} {q p : Pos} {fs : StD → Store → Option (List D × Store)} (hr : Room k X.A) (hk : CallOk X.prog X.w X.K X.mg X.base C k f n as.len) (hg : Gl X f) (hd : (f == ("__debug__" : Str)) = false)
    (ha : PA X (embEs as) (tDs X.K fs)) (hlen : ∀ σ S ds S', fs σ S = some (ds, S') → ds.length = as.len) (hnil : as = .nil → ∀ σ S, fs σ S = some ([], S)) :
    PE X (.Call (.Name f q) (embEs as) [] p) (tD X.K fun σ S => bnd (fs σ S) fun ds S1 => bnd (C n ds S1) fun d S2 => some (gc S d S2)) := by
  obtain ⟨fa, fd, ps, dvs, dsV, sp, h1, h2, h3, h4, h5, h6⟩ := hk
  have core : PE X (.Call (.Name f q) (embEs as) [] p) (tD X.K fun σ S => bnd (fs σ S) fun ds S1 => C n ds S1) := by
    have fin : ∀ {t : TE}, PE X (.Call (.Name f q) (embEs as) [] p) t → (∀ σ H Q, tCall sp dvs E0 (tDs X.K fs) σ H Q → t σ H Q) → PE X (.Call (.Name f q) (embEs as) [] p) (tD X.K fun σ S => bnd (fs σ S) fun ds S1 => C n ds S1) := fun {t} ht hi =>
      ht.imp fun σ H Q ⟨ρ, σD, S, d, S', cc, e, k⟩ => hi σ H Q (by
        obtain ⟨ds, S1, e1, e2⟩ := bnd_eq e
        refine ⟨ρ, σD, S, ds, S1, cc, e1, fun vs H1 ρ1 x1 hp1 r1 => h6 vs H1 Q (by rw [← r1.length]; exact hlen _ _ _ _ e1) ?_⟩
        exact ⟨ρ1, S1, ds, d, S', hp1, r1, e2, fun v' H' ρ' x' h' r' => k v' H' ρ' (x1.trans x') h' r'⟩)
    cases as with
    | nil =>
      refine fin (pe_call0 h5 hr hg h1 h2 h3 h4 pass0 hd) fun σ H Q ⟨ρ, σD, S, ds, S', cc, e, k⟩ => ?_
      rw [hnil rfl] at e
      obtain ⟨rfl, rfl⟩ := inj2 e
      exact k [] H ρ Ext.refl cc.hp rfl
    | cons a r => exact fin (pe_call h5 hr hg h1 h2 h3 h4 pass0 ha hd (star_e a _) (star_any p r)) fun σ H Q h => h
  refine (pe_gc core).imp fun σ H Q ⟨ρ, σD, S, d, S', cc, e, k⟩ => ⟨ρ, σD, S, d, S', cc, ?_, k⟩
  obtain ⟨ds, S1, e1, e2⟩ := bnd_eq e
  simp only [e1, bnd_some]
  exact e2
/-! ### isinstance, list(range) -/
theorem r_isi {a : Expr} {fa : StD → Store → Option (D × Store)} {t : Ty} {q tp p : Pos} (hg : Gl X "isinstance") (hm : X.mg "isinstance" = none) (hg2 : Gl X (Str.ofString t.name)) (hm2 : X.mg (Str.ofString t.name) = none) (ha : PE X a (tD X.K fa))
    (hs : ∀ r, starEach (a :: r) X.env = (false, eval a X.env) :: starEach r X.env) :
    PE X (.Call (.Name "isinstance" q) [a, .Name (Str.ofString t.name) tp] [] p) (tD X.K fun σ S => bnd (fa σ S) fun x S1 => bnd (opt (tyD S1 x) S1) fun n S2 => some (gc S (.bl (isaD n t)) S2)) := by
  have bt : bootBuiltins (Str.ofString t.name) = some (.type t.name) := by
    cases t with
    | int => exact PyProof.Rows.boot_int
    | bool => exact PyProof.Rows.boot_bool
    | str => exact PyProof.Rows.boot_str
    | list => exact PyProof.Rows.boot_list
    | tuple => exact PyProof.Rows.boot_tuple
    | dict => exact PyProof.Rows.boot_dict
  have hty : PE X (.Name (Str.ofString t.name) tp) (tC (.ty t.name)) := pe_bltn hg2 hm2 bt rfl (by cases t <;> decide) (by cases t <;> decide)
  have core : PE X (.Call (.Name "isinstance" q) [a, .Name (Str.ofString t.name) tp] [] p) (tD X.K fun σ S => bnd (fa σ S) fun x S1 => opt ((tyD S1 x).map fun n => .bl (isaD n t)) S1) := by
    refine (pe_callB call_isi hg hm PyProof.Rows.boot_isinstance (pa_cons ha (pa_cons hty pa_nil rfl) (hs _)) (by decide) (by decide) (hs _) rfl).imp fun σ H Q ⟨ρ, σD, S, d, S', cc, e, k⟩ => ?_
    obtain ⟨x, S1, e1, e2⟩ := bnd_eq e
    obtain ⟨e3, e4⟩ := opt_eq e2
    subst S'
    obtain ⟨n, e5, e6⟩ := Option.map_eq_some_iff.mp e3
    subst e6
    exact ⟨ρ, σD, S, x, S1, cc, e1, fun v H1 ρ1 x1 h1 r1 => ⟨v, .ty t.name, _, _, _, rfl, .ty _, ty_at h1 e5 r1, kit1 X.K (ty_mem e5) t, k _ H1 ρ1 x1 h1 rfl⟩⟩
  refine (pe_gc core).imp fun σ H Q ⟨ρ, σD, S, d, S', cc, e, k⟩ => ⟨ρ, σD, S, d, S', cc, ?_, k⟩
  obtain ⟨x, S1, e1, e2⟩ := bnd_eq e
  obtain ⟨n, S2, e3, e4⟩ := bnd_eq e2
  obtain ⟨e5, e6⟩ := opt_eq e3
  subst S2
  simp only [e1, bnd_some, e5, Option.map_some, opt_some]
  exact e4
theorem r_isl {a : Expr} {fa : StD → Store → Option (D × Store)} {kk : Nat} {q p1 p2 tp p : Pos} (hg : Gl X "isinstance") (hm : X.mg "isinstance" = none) (hg2 : Gl X "list") (hm2 : X.mg "list" = none) (hg3 : Gl X "tuple") (hm3 : X.mg "tuple" = none) (ha : PE X a (tD X.K fa))
    (hs : ∀ r, starEach (a :: r) X.env = (false, eval a X.env) :: starEach r X.env) :
    PE X (.Call (.Name "isinstance" q) [a, .Tuple [.Name "list" p1, .Name "tuple" p2] kk tp] [] p) (tD X.K fun σ S => bnd (fa σ S) fun x S1 => bnd (opt (tyD S1 x) S1) fun n S2 => some (gc S (.bl (isaD n .list || isaD n .tuple)) S2)) := by
  have h1 : PE X (.Name "list" p1) (tC (.ty "list")) := pe_bltn hg2 hm2 PyProof.Rows.boot_list rfl
  have h2 : PE X (.Name "tuple" p2) (tC (.ty "tuple")) := pe_bltn hg3 hm3 PyProof.Rows.boot_tuple rfl
  have core : PE X (.Call (.Name "isinstance" q) [a, .Tuple [.Name "list" p1, .Name "tuple" p2] kk tp] [] p) (tD X.K fun σ S => bnd (fa σ S) fun x S1 => opt ((tyD S1 x).map fun n => .bl (isaD n .list || isaD n .tuple)) S1) := by
    refine (pe_callB call_isiT hg hm PyProof.Rows.boot_isinstance (pa_cons ha (pa_cons (pe_tup (pa_cons h1 (pa_cons h2 pa_nil rfl) rfl)) pa_nil rfl) (hs _)) (by decide) (by decide) (hs _) rfl).imp fun σ H Q ⟨ρ, σD, S, d, S', cc, e, k⟩ => ?_
    obtain ⟨x, S1, e1, e2⟩ := bnd_eq e
    obtain ⟨e3, e4⟩ := opt_eq e2
    subst S'
    obtain ⟨n, e5, e6⟩ := Option.map_eq_some_iff.mp e3
    subst e6
    refine ⟨ρ, σD, S, x, S1, cc, e1, fun v H1 ρ1 x1 h1 r1 => ⟨by show 2 ≤ sizeLine; decide, fun pp hn => ?_⟩⟩
    have x2 := Ext.newT (o := .tup [.ty "list", .ty "tuple"]) h1 hn
    have h2 := h1.newT (o := .tup [.ty "list", .ty "tuple"]) hn
    exact ⟨v, pp, _, _, [.type "list", .type "tuple"], _, rfl, upd_same, .cons (.ty _) (.cons (.ty _) .nil), ty_at h2 e5 (x2.rep h1 _ _ r1), kit2 X.K (ty_mem e5), k _ _ ρ1 (x1.trans x2) h2 rfl⟩
  refine (pe_gc core).imp fun σ H Q ⟨ρ, σD, S, d, S', cc, e, k⟩ => ⟨ρ, σD, S, d, S', cc, ?_, k⟩
  obtain ⟨x, S1, e1, e2⟩ := bnd_eq e
  obtain ⟨n, S2, e3, e4⟩ := bnd_eq e2
  obtain ⟨e5, e6⟩ := opt_eq e3
  subst S2
  simp only [e1, bnd_some, e5, Option.map_some, opt_some]
  exact e4
theorem repL_rg {K : PySem.W.Frag} {H : Hp} {ρ : List Addr} : ∀ (n : Nat) (lo : Int), RepL K H ρ (rangeD lo n) ((List.range n).map fun i => V.int (lo + (i : Nat)))
  | 0, _ => rfl
  | n + 1, lo => by
    rw [List.range_succ_eq_map, List.map_cons, List.map_map]
    refine ⟨_, _, rfl, by show V.int (lo + ((0 : Nat) : Int)) = V.int lo; simp, ?_⟩
    have := repL_rg (K := K) (H := H) (ρ := ρ) n (lo + 1)
    have e : ((fun i : Nat => V.int (lo + (i : Int))) ∘ Nat.succ) = fun i : Nat => V.int (lo + 1 + (i : Int)) := by
      funext i
      show V.int (lo + ((i + 1 : Nat) : Int)) = _
      congr 1; omega
    rw [e]; exact this
theorem r_lrg {a b : Expr} {fa fb : StD → Store → Option (D × Store)} {q2 p2 q p : Pos} (hc : X.calm = true) (hg : Gl X "list") (hm : X.mg "list" = none) (hg2 : Gl X "range") (hm2 : X.mg "range" = none) (ha : PE X a (tD X.K fa)) (hb : PE X b (tD X.K fb))
    (hs : ∀ r, starEach (a :: r) X.env = (false, eval a X.env) :: starEach r X.env) (hs2 : ∀ r, starEach (b :: r) X.env = (false, eval b X.env) :: starEach r X.env) :
    PE X (.Call (.Name "list" q) [.Call (.Name "range" q2) [a, b] [] p2] [] p) (tD X.K fun σ S => bnd (bnd (fa σ S) intD) fun i S1 => bnd (bnd (fb σ S1) intD) fun j S2 => bnd (opt (rngD i j) S2) fun w S3 =>
      if w.items.length ≤ 2 ^ 24 then some (.loc S3.length, S3 ++ [.lst w.items]) else none) := by
  refine (pe_listRg hc hg hm (prg_2 hg2 hm2 ha hb (hs _) (hs2 _) (by rw [hs2]; rfl)) rfl).imp fun σ H R ⟨ρ, σD, S, w, S', cc, e, k⟩ => ?_
  obtain ⟨i, S1, e1, e2⟩ := bnd_eq e
  obtain ⟨x, S2, e3, e4⟩ := bnd_eq e1
  obtain ⟨j, S3, e5, e6⟩ := bnd_eq e2
  obtain ⟨y, S4, e7, e8⟩ := bnd_eq e5
  obtain ⟨ww, S5, e9, e10⟩ := bnd_eq e6
  obtain ⟨e11, e12⟩ := opt_eq e9
  subst S5
  cases x <;> first | (cases e4; done) | skip
  obtain ⟨rfl, rfl⟩ := inj2 e4
  cases y <;> first | (cases e8; done) | skip
  obtain ⟨rfl, rfl⟩ := inj2 e8
  unfold rngD at e11
  split at e11
  · rename_i hb'
    cases e11
    split at e10
    · rename_i hl
      obtain ⟨rfl, rfl⟩ := inj2 e10
      refine ⟨ρ, σD, S, _, _, cc, e3, fun v H1 ρ1 x1 h1 r1 => ⟨ρ1, σD, _, _, _, cc.ext x1 h1, e7, fun v2 H2 ρ2 x2 h2 r2 => ?_⟩⟩
      rw [rangeD_len] at hl
      refine ⟨_, _, r1, r2, ⟨hb'.1, hb'.2.1, hb'.2.2.1, hb'.2.2.2, hl⟩, fun pp hn => ?_⟩
      exact k _ _ (ρ2 ++ [pp]) ((x1.trans x2).trans (Ext.newL h2 hn)) (h2.newLst hn (repL_rg _ _)) h2.newLoc
    · cases e10
  · cases e11
end
end Mi

end

section
/-! Mi9: the language is sound. -/
namespace Mi
open PySem PySem.Spec L2
def bltNames : List Str := ["len", "int", "tuple", "list", "min", "max", "abs", "dict", "isinstance", "range", "enumerate", "bool", "str"]
structure Good (Γ : Tab) (C : Orc) (k : Nat) (X : Cx) : Prop where
  calm : X.calm = true
  nd : X.N.Nodup
  xe : X.xe = fun _ _ => False
  room : Room k X.A
  kind : X.env.scope.kind = .function
  blt : ∀ x ∈ bltNames, X.mg x = none
  cal : ∀ f n m, Γ.cal f n m = true → CallOk X.prog X.w X.K X.mg X.base C k f n m
  glo : ∀ x i, Γ.glo x = some i → ∃ t, X.mg x = some (.int i t)
theorem Good.u1 {Γ : Tab} {C : Orc} {k : Nat} {X : Cx} (G : Good Γ C k X) : X.A.units + 1 < cLine := by have := G.room.un; omega
theorem Good.u65 {Γ : Tab} {C : Orc} {k : Nat} {X : Cx} (G : Good Γ C k X) : X.A.units + 65 < cLine := by have := G.room.un; omega
theorem Good.blk {Γ : Tab} {C : Orc} {k : Nat} {X : Cx} (G : Good Γ C k X) {scope : Scope} (hk : scope.kind = .function) (s : Shared) (H : Hp) (C' : Addr) (cl : List (Str × Addr)) (fp : List Addr) : Good Γ C k (X.blk s H scope (compEnvC scope cl C' X.env) fp) :=
  ⟨G.calm, G.nd, rfl, G.room, hk, G.blt, G.cal, G.glo⟩
theorem relab_eq (X : Cx) (scope : Scope) (cl : List (Str × Addr)) (C' : Addr) : (compEnvC scope cl C' X.env).scope = relab X.env.scope scope := rfl
theorem gl_of {X : Cx} {x : Str} (h : glB X.env.scope x = true) : Gl X x ∧ (x == ("__debug__" : Str)) = false := by
  unfold glB at h
  rw [Bool.and_eq_true] at h
  constructor
  · have h1 := h.1
    split at h1
    · assumption
    · cases h1
  · simpa using h.2
theorem vis_of {sc : Scope} {x : Str} (h : visB sc x = true) : Vis sc x := by
  unfold visB at h
  split at h <;> first | exact .inl (by assumption) | exact .inr (.inl (by assumption)) | exact .inr (.inr (by assumption)) | cases h
theorem loc_of {sc : Scope} {fn : Str → Bool} {x : Str} (h : locB sc fn x = true) : Loc sc x ∧ (fn x = true ∨ sc.names.lookup x = some .local) := by
  unfold locB at h
  split at h
  · exact ⟨.inl (by assumption), .inr (by assumption)⟩
  · exact ⟨.inr (by assumption), .inl h⟩
  · cases h
def Bi.val : Bi → Value
  | .len => .builtin "len" | .int => .type "int" | .tuple => .type "tuple" | .list => .type "list" | .min => .builtin "min" | .max => .builtin "max" | .abs => .builtin "abs" | .dict => .type "dict"
theorem bi_in (f : Bi) : Str.ofString f.name ∈ bltNames := by cases f <;> decide
section
variable {X : Cx}
theorem r_bi (hc : X.calm = true) {f : Bi} {as : Es} {q p : Pos} {fs : StD → Store → Option (List D × Store)} (hg : Gl X (Str.ofString f.name)) (hm : X.mg (Str.ofString f.name) = none) (ha : PA X (embEs as) (tDs X.K fs))
    (hlen : ∀ σ S ds S', fs σ S = some (ds, S') → ds.length = as.len) :
    PE X (.Call (.Name (Str.ofString f.name) q) (embEs as) [] p) (tD X.K fun σ S => bnd (fs σ S) fun ds S1 => bnd (biD f ds S1) fun d S2 => some (gc S d S2)) := by
  have core : PE X (.Call (.Name (Str.ofString f.name) q) (embEs as) [] p) (tD X.K fun σ S => bnd (fs σ S) fun ds S1 => biD f ds S1) := by
    cases as with
    | nil =>
      refine pe_no fun σ H Q ⟨ρ, σD, S, d, S', cc, e, k⟩ => ?_
      obtain ⟨ds, S1, e1, e2⟩ := bnd_eq e
      have el : ds = [] := List.eq_nil_of_length_eq_zero (hlen _ _ _ _ e1)
      subst el
      cases f <;> cases e2
    | cons a r =>
      have nm : Str.ofString f.name ≠ "__name__" := by cases f <;> decide
      have db : (Str.ofString f.name == ("__debug__" : Str)) = false := by cases f <;> decide
      cases f with
      | len => exact (pe_callB len_D hg hm PySem.boot_len ha nm db (star_e a _) (star_any p r)).imp fun _ _ _ => tD_N
      | int => exact (pe_callTy int_D hg hm PyProof.Rows.boot_int ha nm db (star_e a _) (star_any p r)).imp fun _ _ _ => tD_N
      | tuple => exact (pe_callTy tuple_D hg hm PyProof.Rows.boot_tuple ha nm db (star_e a _) (star_any p r)).imp fun _ _ _ => tD_N
      | list => exact (pe_callTy list_D hg hm PyProof.Rows.boot_list ha nm db (star_e a _) (star_any p r)).imp fun _ _ _ => tD_N
      | min => exact (pe_callB (min_D hc) hg hm PyProof.Rows.boot_min ha nm db (star_e a _) (star_any p r)).imp fun _ _ _ => tD_N
      | max => exact (pe_callB (max_D hc) hg hm PyProof.Rows.boot_max ha nm db (star_e a _) (star_any p r)).imp fun _ _ _ => tD_N
      | abs => exact (pe_callB abs_D hg hm PyProof.Rows.boot_abs ha nm db (star_e a _) (star_any p r)).imp fun _ _ _ => tD_N
      | dict => exact (pe_callTy (dict_D hc) hg hm PyProof.Rows.boot_dict ha nm db (star_e a _) (star_any p r)).imp fun _ _ _ => tD_N
  refine (pe_gc core).imp fun σ H Q ⟨ρ, σD, S, d, S', cc, e, k⟩ => ⟨ρ, σD, S, d, S', cc, ?_, k⟩
  obtain ⟨ds, S1, e1, e2⟩ := bnd_eq e
  simp only [e1, bnd_some]
  exact e2
end
theorem evEs_len (C : Orc) : ∀ (es : Es) (σ : StD) (S : Store) (ds : List D) (S' : Store), evEs C es σ S = some (ds, S') → ds.length = es.len
  | .nil, σ, S, ds, S', h => by obtain ⟨rfl, rfl⟩ := inj2 (show some ([], S) = some (ds, S') from h); rfl
  | .cons e r, σ, S, ds, S', h => by
    obtain ⟨d, S1, e1, e2⟩ := bnd_eq (show bnd ((ev C e).e σ S) _ = some (ds, S') from h)
    obtain ⟨es, S2, e3, e4⟩ := bnd_eq e2
    obtain ⟨rfl, rfl⟩ := inj2 e4
    rw [List.length_cons, evEs_len C r σ S1 es _ e3]; rfl
theorem and2 {a b : Bool} (h : (a && b) = true) : a = true ∧ b = true := by simpa using h
theorem and3 {a b c : Bool} (h : (a && b && c) = true) : a = true ∧ b = true ∧ c = true := by simp only [Bool.and_eq_true] at h; exact ⟨h.1.1, h.1.2, h.2⟩
section
variable {Γ : Tab} {C : Orc} {k : Nat}
mutual
theorem sndE : ∀ (e : E) (X : Cx) (G : Good Γ C k X), wfE Γ X.N X.env.scope X.fn e = true → PE X (embE e) (tD X.K (ev C e).e) ∧ PT X (embE e) (tDB X.K (ev C e).b)
  | .con c n p, X, G, h => have h1 : PE X _ (tD X.K _) := r_con; ⟨h1, t_truth h1 (truth_e (.con c n p) rfl)⟩
  | .var i x p, X, G, h => by
    obtain ⟨h12, h3⟩ := and2 (show (decide (X.N[i]? = some x) && visB X.env.scope x && !(x == ("__debug__" : Str)) && !(x == ("__classdict__" : Str))) = true from h)
    obtain ⟨h1, h2, h4⟩ := and3 h12
    have hh : PE X _ (tD X.K _) := r_var (p := p) (of_decide_eq_true h1) (vis_of h2) (by simpa using h4) (by simpa using h3)
    exact ⟨hh, t_truth hh (truth_e (.var i x p) rfl)⟩
  | .glo x i p, X, G, h => by
    obtain ⟨h1, h2⟩ := and2 (show (glB X.env.scope x && decide (Γ.glo x = some i)) = true from h)
    obtain ⟨t, ht⟩ := G.glo x i (of_decide_eq_true h2)
    have hh : PE X _ (tD X.K _) := r_glo (p := p) (gl_of h1).1 ht ⟨t, rfl⟩ (gl_of h1).2
    exact ⟨hh, t_truth hh (truth_e (.glo x i p) rfl)⟩
  | .tup es n p, X, G, h => by
    have hh : PE X _ (tD X.K _) := r_tup (p := p) (k := n) (sndEs es X G h)
    exact ⟨hh, t_truth hh (truth_e (.tup es n p) rfl)⟩
  | .lst es p, X, G, h => by
    have hh : PE X _ (tD X.K _) := r_lst (p := p) (sndEs es X G h)
    exact ⟨hh, t_truth hh (truth_e (.lst es p) rfl)⟩
  | .dct p, X, G, h => by
    have hh : PE X _ (tD X.K _) := r_dct (p := p)
    exact ⟨hh, t_truth hh (truth_e (.dct p) rfl)⟩
  | .op o a b p, X, G, h => by
    obtain ⟨h1, h2⟩ := and2 (show (wfE Γ X.N X.env.scope X.fn a && wfE Γ X.N X.env.scope X.fn b) = true from h)
    have hh : PE X _ (tD X.K _) := r_op (p := p) o (sndE a X G h1).1 (sndE b X G h2).1
    exact ⟨hh, t_truth hh (truth_e (.op o a b p) rfl)⟩
  | .neg a p, X, G, h => by
    have hh : PE X _ (tD X.K _) := r_neg (p := p) (sndE a X G h).1
    exact ⟨hh, t_truth hh (truth_e (.neg a p) rfl)⟩
  | .not a p, X, G, h => ⟨r_not (sndE a X G h).1, t_not (sndE a X G h).2⟩
  | .bop o es p, X, G, h => by
    obtain ⟨h1, h2⟩ := and2 (show (wfEs Γ X.N X.env.scope X.fn es && decide (0 < es.len)) = true from h)
    exact sndBop o es p X G h1 (of_decide_eq_true h2)
  | .cmp o a b p, X, G, h => by
    obtain ⟨h1, h2⟩ := and2 (show (wfE Γ X.N X.env.scope X.fn a && wfE Γ X.N X.env.scope X.fn b) = true from h)
    exact ⟨r_cmp G.u65 o (sndE a X G h1).1 (sndE b X G h2).1 (noSet o b), t_cmp G.u65 o (sndE a X G h1).1 (sndE b X G h2).1 (noSet o b)⟩
  | .chn o q a b c p, X, G, h => by
    obtain ⟨h1, h2, h3⟩ := and3 (show (wfE Γ X.N X.env.scope X.fn a && wfE Γ X.N X.env.scope X.fn b && wfE Γ X.N X.env.scope X.fn c) = true from h)
    exact ⟨r_chn G.u65 o q (sndE a X G h1).1 (sndE b X G h2).1 (sndE c X G h3).1 (noSet2 o q b c), t_chn G.u65 o q (sndE a X G h1).1 (sndE b X G h2).1 (sndE c X G h3).1 (noSet2 o q b c)⟩
  | .ifx c a b p, X, G, h => by
    obtain ⟨h1, h2, h3⟩ := and3 (show (wfE Γ X.N X.env.scope X.fn c && wfE Γ X.N X.env.scope X.fn a && wfE Γ X.N X.env.scope X.fn b) = true from h)
    exact ⟨r_ifx (sndE c X G h1).2 (sndE a X G h2).1 (sndE b X G h3).1, t_ifx (sndE c X G h1).2 (sndE a X G h2).2 (sndE b X G h3).2⟩
  | .ix a i p, X, G, h => by
    obtain ⟨h1, h2⟩ := and2 (show (wfE Γ X.N X.env.scope X.fn a && wfE Γ X.N X.env.scope X.fn i) = true from h)
    have hh : PE X _ (tD X.K _) := r_ix (p := p) G.u1 (sndE a X G h1).1 (sndE i X G h2).1 (plainIx i)
    exact ⟨hh, t_truth hh (truth_e (.ix a i p) rfl)⟩
  | .sl a lo hi q p, X, G, h => by
    obtain ⟨h1, h2, h3⟩ := and3 (show (wfE Γ X.N X.env.scope X.fn a && wfEo Γ X.N X.env.scope X.fn lo && wfEo Γ X.N X.env.scope X.fn hi) = true from h)
    have hh : PE X _ (tD X.K _) := r_sl (p := p) (p2 := q) (sndE a X G h1).1 (sndEo lo X G h2).1 (sndEo hi X G h3).1
    exact ⟨hh, t_truth hh (truth_e (.sl a lo hi q p) rfl)⟩
  | .call f n as q p, X, G, h => by
    obtain ⟨h1, h2, h3⟩ := and3 (show (glB X.env.scope f && Γ.cal f n as.len && wfEs Γ X.N X.env.scope X.fn as) = true from h)
    have hh : PE X _ (tD X.K _) := r_call (q := q) (p := p) G.room (G.cal f n as.len h2) (gl_of h1).1 (gl_of h1).2 (sndEs as X G h3) (fun σ S ds S' e => evEs_len C as σ S ds S' e) (fun e σ S => by subst e; rfl)
    exact ⟨hh, t_truth hh (truth_e (.call f n as q p) rfl)⟩
  | .bi f as q p, X, G, h => by
    obtain ⟨h1, h2⟩ := and2 (show (glB X.env.scope (Str.ofString f.name) && wfEs Γ X.N X.env.scope X.fn as) = true from h)
    have hh : PE X _ (tD X.K _) := r_bi (q := q) (p := p) G.calm (gl_of h1).1 (G.blt _ (bi_in f)) (sndEs as X G h2) (fun σ S ds S' e => evEs_len C as σ S ds S' e)
    exact ⟨hh, t_truth hh (truth_e (.bi f as q p) rfl)⟩
  | .mxd gr a d q kp p, X, G, h => by
    obtain ⟨h1, h2, h3⟩ := and3 (show (glB X.env.scope (Str.ofString (if gr then "max" else "min")) && wfE Γ X.N X.env.scope X.fn a && wfE Γ X.N X.env.scope X.fn d) = true from h)
    have hh : PE X _ (tD X.K _) := r_mxd (q := q) (p := p) (kp := kp) G.calm G.u65 gr (gl_of h1).1 (G.blt _ (by cases gr <;> decide)) (sndE a X G h2).1 (sndE d X G h3).1 (star_e a [])
    exact ⟨hh, t_truth hh (truth_e (.mxd gr a d q kp p) rfl)⟩
  | .isi a t q tp p, X, G, h => by
    obtain ⟨h1, h2, h3⟩ := and3 (show (glB X.env.scope "isinstance" && glB X.env.scope (Str.ofString t.name) && wfE Γ X.N X.env.scope X.fn a) = true from h)
    have hh : PE X _ (tD X.K _) := r_isi (q := q) (tp := tp) (p := p) (gl_of h1).1 (G.blt _ (by decide)) (gl_of h2).1 (G.blt _ (by cases t <;> decide)) (sndE a X G h3).1 (star_e a)
    exact ⟨hh, t_truth hh (truth_e (.isi a t q tp p) rfl)⟩
  | .isl a n q p1 p2 tp p, X, G, h => by
    obtain ⟨h12, h3⟩ := and2 (show (glB X.env.scope "isinstance" && glB X.env.scope "list" && glB X.env.scope "tuple" && wfE Γ X.N X.env.scope X.fn a) = true from h)
    obtain ⟨h1, h2, h4⟩ := and3 h12
    have hh : PE X _ (tD X.K _) := r_isl (kk := n) (q := q) (p1 := p1) (p2 := p2) (tp := tp) (p := p) (gl_of h1).1 (G.blt _ (by decide)) (gl_of h2).1 (G.blt _ (by decide)) (gl_of h4).1 (G.blt _ (by decide)) (sndE a X G h3).1 (star_e a)
    exact ⟨hh, t_truth hh (truth_e (.isl a n q p1 p2 tp p) rfl)⟩
  | .lrg a b q2 p2 q p, X, G, h => by
    obtain ⟨h12, h3⟩ := and2 (show (glB X.env.scope "list" && glB X.env.scope "range" && wfE Γ X.N X.env.scope X.fn a && wfE Γ X.N X.env.scope X.fn b) = true from h)
    obtain ⟨h1, h2, h4⟩ := and3 h12
    have hh : PE X _ (tD X.K _) := r_lrg (q2 := q2) (p2 := p2) (q := q) (p := p) G.calm (gl_of h1).1 (G.blt _ (by decide)) (gl_of h2).1 (G.blt _ (by decide)) (sndE a X G h4).1 (sndE b X G h3).1 (star_e a) (star_e b)
    exact ⟨hh, t_truth hh (truth_e (.lrg a b q2 p2 q p) rfl)⟩
  | .mt o m as q p, X, G, h => by
    obtain ⟨h123, h4, h5⟩ := and3 (show (noCall0 o && wfE Γ X.N X.env.scope X.fn o && wfEs Γ X.N X.env.scope X.fn as && (q.endLine == p.line) && decide (as.len < 20)) = true from h)
    obtain ⟨h1, h2, h3⟩ := and3 h123
    have hh : PE X _ (tD X.K _) := r_mt (m := m) G.u1 (sndE o X G h2).1 (sndEs as X G h3) h1 h4 (of_decide_eq_true h5) (fun e σ S => by subst e; rfl)
    exact ⟨hh, t_truth hh (truth_e (.mt o m as q p) rfl)⟩
  | .lc e g it c own scx p, X, G, h => by
    have hh : PE X (embE (.lc e g it c own scx p)) (tD X.K (ev C (.lc e g it c own scx p)).e) := by
      obtain ⟨h1234, h5, h6⟩ := and3 (show (wfI Γ X.N X.env.scope X.fn (isTp g) it && blkC X.N X.env.scope scx own && (slots g).all (fun j => (own.map (·.2)).contains j) &&
        wfG Γ X.N (relab X.env.scope scx) (fun x => scx.names.lookup x == some .cell) g && wfEo Γ X.N (relab X.env.scope scx) (fun x => scx.names.lookup x == some .cell) c && wfE Γ X.N (relab X.env.scope scx) (fun x => scx.names.lookup x == some .cell) e) = true from h)
      obtain ⟨h12, h3, h4⟩ := and3 h1234
      obtain ⟨h1, h2⟩ := and2 h12
      have ok := blkOk_by h2
      refine r_lc (sl := slots g) (p := p) G.calm G.nd (sndI it X G g h1) ok (fun s H C' cl fp => ?_) (fun s H C' cl fp => ?_) (fun s H C' cl fp => ?_) (folded_i it) fun j hj => ?_
      · exact sndG g _ (G.blk ok.kind s H C' cl fp) h4
      · exact (sndEo c _ (G.blk ok.kind s H C' cl fp) h5).2
      · exact (sndE e _ (G.blk ok.kind s H C' cl fp) h6).1
      · have := List.all_eq_true.mp h3 j hj
        simpa using this
    exact ⟨hh, t_truth hh (truth_e (.lc e g it c own scx p) rfl)⟩
theorem sndBop : ∀ (o : BoolOp) (es : Es) (p : Pos) (X : Cx) (G : Good Γ C k X), wfEs Γ X.N X.env.scope X.fn es = true → 0 < es.len → PE X (.BoolOp o (embEs es) p) (tD X.K (evBop C o es)) ∧ PT X (.BoolOp o (embEs es) p) (tDB X.K (evBB C o es))
  | o, .nil, p, X, G, h, hl => absurd hl (Nat.lt_irrefl 0)
  | o, .cons a .nil, p, X, G, h, hl => by
    obtain ⟨h1, h2⟩ := and2 (show (wfE Γ X.N X.env.scope X.fn a && wfEs Γ X.N X.env.scope X.fn .nil) = true from h)
    exact ⟨pe_one (sndE a X G h1).1, (w_one (sndE a X G h1).2).pt⟩
  | o, .cons a (.cons b r), p, X, G, h, hl => by
    obtain ⟨h1, h2⟩ := and2 (show (wfE Γ X.N X.env.scope X.fn a && wfEs Γ X.N X.env.scope X.fn (.cons b r)) = true from h)
    exact ⟨r_more (sndE a X G h1).1 (sndBop o (.cons b r) p X G h2 (Nat.succ_pos _)).1, (w_more (sndE a X G h1).2 (sndW o (.cons b r) p X G h2 (Nat.succ_pos _))).pt⟩
theorem sndW : ∀ (o : BoolOp) (es : Es) (p : Pos) (X : Cx) (G : Good Γ C k X), wfEs Γ X.N X.env.scope X.fn es = true → 0 < es.len → PW X (.BoolOp o (embEs es) p) (tDB X.K (evBB C o es))
  | o, .nil, p, X, G, h, hl => absurd hl (Nat.lt_irrefl 0)
  | o, .cons a .nil, p, X, G, h, hl => by
    obtain ⟨h1, h2⟩ := and2 (show (wfE Γ X.N X.env.scope X.fn a && wfEs Γ X.N X.env.scope X.fn .nil) = true from h)
    exact w_one (sndE a X G h1).2
  | o, .cons a (.cons b r), p, X, G, h, hl => by
    obtain ⟨h1, h2⟩ := and2 (show (wfE Γ X.N X.env.scope X.fn a && wfEs Γ X.N X.env.scope X.fn (.cons b r)) = true from h)
    exact w_more (sndE a X G h1).2 (sndW o (.cons b r) p X G h2 (Nat.succ_pos _))
theorem sndEs : ∀ (es : Es) (X : Cx) (G : Good Γ C k X), wfEs Γ X.N X.env.scope X.fn es = true → PA X (embEs es) (tDs X.K (evEs C es))
  | .nil, X, G, h => r_nil
  | .cons e r, X, G, h => by
    obtain ⟨h1, h2⟩ := and2 (show (wfE Γ X.N X.env.scope X.fn e && wfEs Γ X.N X.env.scope X.fn r) = true from h)
    exact r_cons (sndE e X G h1).1 (sndEs r X G h2) (star_e e _)
theorem sndEo : ∀ (eo : Eo) (X : Cx) (G : Good Γ C k X), wfEo Γ X.N X.env.scope X.fn eo = true → PO X (embEo eo) (tDo X.K (evEo C eo)) ∧ PTs X (embIf eo) (tDB X.K (evIf C eo))
  | .none, X, G, h => ⟨o_none, ts_none⟩
  | .some e, X, G, h => ⟨o_some (sndE e X G h).1, pts_one (sndE e X G h).2⟩
theorem sndI : ∀ (it : I) (X : Cx) (G : Good Γ C k X) (g : Mi.G), wfI Γ X.N X.env.scope X.fn (isTp g) it = true → PI X (embG g) (embI it) (tI X.K (evI C it))
  | .ex e, X, G, g, h => r_seq (sndE e X G h).1
  | .rng1 a q p, X, G, g, h => by
    obtain ⟨h1, h2⟩ := and2 (show (glB X.env.scope "range" && wfE Γ X.N X.env.scope X.fn a) = true from h)
    exact r_rng1 (gl_of h1).1 (G.blt _ (by decide)) (sndE a X G h2).1 (star_e a [])
  | .rng2 a b q p, X, G, g, h => by
    obtain ⟨h1, h2, h3⟩ := and3 (show (glB X.env.scope "range" && wfE Γ X.N X.env.scope X.fn a && wfE Γ X.N X.env.scope X.fn b) = true from h)
    exact r_rng2 (gl_of h1).1 (G.blt _ (by decide)) (sndE a X G h2).1 (sndE b X G h3).1 (by rw [star_e, star_e]; rfl) (star_e b [])
  | .enm e q p, X, G, g, h => by
    obtain ⟨h1, h2, h3⟩ := and3 (show (isTp g && glB X.env.scope "enumerate" && wfE Γ X.N X.env.scope X.fn e) = true from h)
    cases g with
    | tp gs n tp => exact r_enm (gl_of h2).1 (G.blt _ (by decide)) (sndE e X G h3).1 (star_e e [])
    | nm i x pp => cases h1
    | sb o i pp => cases h1
theorem sndG : ∀ (g : Mi.G) (X : Cx) (G : Good Γ C k X), wfG Γ X.N X.env.scope X.fn g = true → PG X (embG g) (tG X.K (slots g) (evG C g))
  | .nm i x p, X, G, h => by
    obtain ⟨h1, h2⟩ := and2 (show (decide (X.N[i]? = some x) && locB X.env.scope X.fn x) = true from h)
    exact g_nm G.nd (of_decide_eq_true h1) (loc_of h2).1 (loc_of h2).2
  | .tp gs n p, X, G, h => g_tp (n := gs.len) G.calm (sndGs gs X G h) (asgE_len gs) (asgE_star gs) (fun ds σ S r e => evGs_len C gs ds σ S r e)
  | .sb o i p, X, G, h => by
    obtain ⟨h1, h2⟩ := and2 (show (wfE Γ X.N X.env.scope X.fn o && wfE Γ X.N X.env.scope X.fn i) = true from h)
    exact g_sb G.u1 (sndE o X G h1).1 (sndE i X G h2).1 (asg_sb o i p)
theorem sndGs : ∀ (gs : Gs) (X : Cx) (G : Good Γ C k X), wfGs Γ X.N X.env.scope X.fn gs = true → PGs X (embGs gs) (tGs X.K (slotsL gs) (evGs C gs))
  | .nil, X, G, h => gs_nil
  | .cons g r, X, G, h => by
    obtain ⟨h1, h2⟩ := and2 (show (wfG Γ X.N X.env.scope X.fn g && wfGs Γ X.N X.env.scope X.fn r) = true from h)
    exact gs_cons (sndG g X G h1) (sndGs r X G h2) (by rw [asgE_g]; rfl)
end
end
end Mi

end

section
/-! Mi10: statements are sound. -/
namespace Mi
open PySem PySem.Spec L2
theorem sw_of {env : Env} {ts vs : List Expr} {k k' : Nat} {p p' : Pos} {r : Option (List Str)} (h : swKind env.scope ts vs = some r) : swappedStores [.Tuple ts k p] (.Tuple vs k' p') env = pure r := by
  have e : swappedStores [.Tuple ts k p] (.Tuple vs k' p') env = swappedStores [.Tuple ts 0 ⟨0, 0, 0, 0⟩] (.Tuple vs 0 ⟨0, 0, 0, 0⟩) { scope := env.scope, locals := 0, globals := 0, cells := [] } := rfl
  rw [e]
  unfold swKind at h
  split at h
  · rename_i q hq
    cases h
    exact hq
  · cases h
theorem loc_is {sc : Scope} {x : Str} (h : isLocal sc x = true) : sc.names.lookup x = some .local := by
  unfold isLocal at h
  split at h
  · assumption
  · cases h
section
variable {X : Cx} {p : Pos}
theorem s_par2 {C : Orc} {i j : Nat} {x y : Str} {a b : Expr} {px py pt : Pos} {kt k2 pt2} {fs : StD → Store → Option (List D × Store)} (hc : X.calm = true) (hN : X.N.Nodup) (hi : X.N[i]? = some x) (hj : X.N[j]? = some y) (hij : i ≠ j)
    (hx : X.env.scope.names.lookup x = some .local) (hy : X.env.scope.names.lookup y = some .local) (ha : PA X [a, b] (tDs X.K fs))
    (hw : swappedStores [.Tuple [.Name x px, .Name y py] kt pt] (.Tuple [a, b] k2 pt2) X.env = pure (some [x, y])) :
    PS X (.Assign [.Tuple [.Name x px, .Name y py] kt pt] (.Tuple [a, b] k2 pt2) p) (tT X.K (asgT (fun σ S => bnd (fs σ S) fun ds S1 => if ds.length ≤ sizeLine then some (.tup ds, S1) else none) (evG C (.tp (.cons (.nm i x px) (.cons (.nm j y py) .nil)) kt pt)))) :=
  (ps_par hc hN hi hj hij hx hy ha hw rfl).imp fun En σ H ⟨ρ, σD, S, r, S', cc, e, k⟩ => by
    obtain ⟨d, S1, e1, e2⟩ := bnd_eq e
    obtain ⟨σ1, S2, e3, e4⟩ := bnd_eq e2
    obtain ⟨ds, S3, e5, e6⟩ := bnd_eq e1
    obtain ⟨rfl, rfl⟩ := inj2 e4
    split at e6
    · obtain ⟨rfl, rfl⟩ := inj2 e6
      match ds, e3 with
      | [], e3 => cases e3
      | [_], e3 => cases e3
      | _ :: _ :: _ :: _, e3 => cases e3
      | [d1, d2], e3 =>
        obtain ⟨rfl, rfl⟩ := inj2 (show some ((σD.set i (some d1)).set j (some d2), S3) = some (σ1, S2) from e3)
        refine ⟨ρ, σD, S, _, _, cc, e5, fun vs H1 ρ1 x1 h1 r1 => ?_⟩
        obtain ⟨v, w, rfl, rv, rw'⟩ := repL2 r1
        exact ⟨v, w, rfl, k _ H1 ρ1 x1 (((cc.ext x1 h1).set i rv).set j rw')⟩
    · cases e6
theorem repL3 {K : PySem.W.Frag} {H : Hp} {ρ : List Addr} {d e f : D} {xs : List V} (r : RepL K H ρ [d, e, f] xs) : ∃ v w u, xs = [v, w, u] ∧ Rep K H ρ d v ∧ Rep K H ρ e w ∧ Rep K H ρ f u := by
  obtain ⟨v, r', rfl, h1, h2⟩ := r
  obtain ⟨w, u, rfl, h3, h4⟩ := repL2 h2
  exact ⟨v, w, u, rfl, h1, h3, h4⟩
theorem s_par3 {C : Orc} {i j l : Nat} {x y z : Str} {a b c : Expr} {px py pz pt : Pos} {kt k2 pt2} {fs : StD → Store → Option (List D × Store)} (hc : X.calm = true) (hN : X.N.Nodup) (hi : X.N[i]? = some x) (hj : X.N[j]? = some y) (hl : X.N[l]? = some z) (hij : i ≠ j) (hil : i ≠ l) (hjl : j ≠ l)
    (hx : X.env.scope.names.lookup x = some .local) (hy : X.env.scope.names.lookup y = some .local) (hz : X.env.scope.names.lookup z = some .local) (ha : PA X [a, b, c] (tDs X.K fs))
    (hw : swappedStores [.Tuple [.Name x px, .Name y py, .Name z pz] kt pt] (.Tuple [a, b, c] k2 pt2) X.env = pure (some [x, y, z])) :
    PS X (.Assign [.Tuple [.Name x px, .Name y py, .Name z pz] kt pt] (.Tuple [a, b, c] k2 pt2) p) (tT X.K (asgT (fun σ S => bnd (fs σ S) fun ds S1 => if ds.length ≤ sizeLine then some (.tup ds, S1) else none) (evG C (.tp (.cons (.nm i x px) (.cons (.nm j y py) (.cons (.nm l z pz) .nil))) kt pt)))) :=
  (ps_par3 hc hN hi hj hl hij hil hjl hx hy hz ha hw rfl).imp fun En σ H ⟨ρ, σD, S, r, S', cc, e, k⟩ => by
    obtain ⟨d, S1, e1, e2⟩ := bnd_eq e
    obtain ⟨σ1, S2, e3, e4⟩ := bnd_eq e2
    obtain ⟨ds, S3, e5, e6⟩ := bnd_eq e1
    obtain ⟨rfl, rfl⟩ := inj2 e4
    split at e6
    · obtain ⟨rfl, rfl⟩ := inj2 e6
      match ds, e3 with
      | [], e3 => cases e3
      | [_], e3 => cases e3
      | [_, _], e3 => cases e3
      | _ :: _ :: _ :: _ :: _, e3 => cases e3
      | [d1, d2, d3], e3 =>
        obtain ⟨rfl, rfl⟩ := inj2 (show some (((σD.set i (some d1)).set j (some d2)).set l (some d3), S3) = some (σ1, S2) from e3)
        refine ⟨ρ, σD, S, _, _, cc, e5, fun vs H1 ρ1 x1 h1 r1 => ?_⟩
        obtain ⟨v, w, u, rfl, rv, rw', ru⟩ := repL3 r1
        exact ⟨v, w, u, rfl, k _ H1 ρ1 x1 ((((cc.ext x1 h1).set i rv).set j rw').set l ru)⟩
    · cases e6
end
theorem swaps_plain {env : Env} {l : Nat} (t : Option Expr) (e : E) (h : (!isLc e) = true) : swapsWith (embE e) t l env = pure false := by
  cases e <;> first | rfl | (cases h)
theorem swapped_no {env : Env} (g : G) (e : E) (h : (match g, e with | .tp .., .tup .. => false | _, _ => true) = true) : swappedStores [embG g] (embE e) env = pure none := by
  cases g <;> cases e <;> first | rfl | (cases h)
section
variable {Γ : Tab} {C : Orc} {k : Nat}
theorem sndAsg (g : G) (e : E) (p : Pos) (X : Cx) (G : Good Γ C k X) (hf : X.fn = fun _ => true) (hg : wfG Γ X.N X.env.scope (fun _ => true) g = true) (he : wfE Γ X.N X.env.scope (fun _ => true) e = true) (hk : asgOk X.env.scope g e = true) :
    PS X (.Assign [embG g] (embE e) p) (tT X.K (asgT (ev C e).e (evG C g))) := by
  have hg' : PG X (embG g) (tG X.K (slots g) (evG C g)) := sndG g X G (by rw [hf]; exact hg)
  have he' : PE X (embE e) (tD X.K (ev C e).e) := (sndE e X G (by rw [hf]; exact he)).1
  have one : (assignEach [embG g] X.env).map (·.2) = [assign (embG g) X.env] := by rw [asgE_g]; rfl
  have plainCase : swapsWith (embE e) (some (embG g)) p.line X.env = pure false → swappedStores [embG g] (embE e) X.env = pure none → PS X (.Assign [embG g] (embE e) p) (tT X.K (asgT (ev C e).e (evG C g))) := fun h1 h2 => s_asg he' hg' h1 h2 one
  cases e with
  | lc el gg it c own scx q =>
    cases g with
    | nm i x px =>
      obtain ⟨h1, h2⟩ := and2 (show (decide (X.N[i]? = some x) && locB X.env.scope (fun _ => true) x) = true from hg)
      have sw : swapsWith (embE (.lc el gg it c own scx q)) (some (.Name x px)) p.line X.env = pure (X.env.blockKind == .function && X.env.kindOf x == some .local && px.line == q.line && !(scx.names.any fun (n, k) => n == x && (k == .local || k == .cell))) := rfl
      by_cases b : (X.env.blockKind == .function && X.env.kindOf x == some .local && px.line == q.line && !(scx.names.any fun (n, k) => n == x && (k == .local || k == .cell))) = true
      · rw [b] at sw
        have hl : X.env.scope.names.lookup x = some .local := by
          simp only [Bool.and_eq_true, beq_iff_eq] at b
          exact b.1.1.2
        obtain ⟨h1234, h5, h6⟩ := and3 (show (wfI Γ X.N X.env.scope (fun _ => true) (isTp gg) it && blkC X.N X.env.scope scx own && (slots gg).all (fun j => (own.map (·.2)).contains j) &&
          wfG Γ X.N (relab X.env.scope scx) (fun x => scx.names.lookup x == some .cell) gg && wfEo Γ X.N (relab X.env.scope scx) (fun x => scx.names.lookup x == some .cell) c && wfE Γ X.N (relab X.env.scope scx) (fun x => scx.names.lookup x == some .cell) el) = true from he)
        obtain ⟨h12, h3, h4⟩ := and3 h1234
        obtain ⟨h7, h8⟩ := and2 h12
        have ok := blkOk_by h8
        have hsl : ∀ j, j ∈ slots gg → j ∈ own.map (·.2) := fun j hj => by
          have := List.all_eq_true.mp h3 j hj
          simpa using this
        have base := ps_setLc (wi := tI X.K (evI C it)) (g := tG X.K (slots gg) (evG C gg)) (tt := tDB X.K (evIf C c)) (te := tD X.K (ev C el).e) (spos := p) G.calm G.nd (of_decide_eq_true h1) hl sw (sndI it X G gg (by rw [hf]; exact h7)) ok (fun s H C' cl fp => sndG gg _ (G.blk ok.kind s H C' cl fp) h4) (fun s H C' cl fp => (sndEo c _ (G.blk ok.kind s H C' cl fp) h5).2)
          (fun s H C' cl fp => (sndE el _ (G.blk ok.kind s H C' cl fp) h6).1) (folded_i it)
        refine base.imp fun En σ H h => ?_
        have h := asg_ok (sl := [i]) h
        have hh : tD X.K (ev C (.lc el gg it c own scx q)).e σ H (fun x H1 => gName i x σ H1 En.nx) := by
          obtain ⟨ρ, σD, S, d, S', cc, e1, kk⟩ := h
          refine ⟨ρ, σD, S, d, S', cc, e1, fun v H' ρ' x' h' r' => ?_⟩
          obtain ⟨ρ2, σ2, S2, d2, σE, S3, c2, r2, e2, k2⟩ := kk v H' ρ' x' h' r'
          obtain ⟨rfl, rfl⟩ := inj2 (show some (σ2.set i (some d2), S2) = some (σE, S3) from e2)
          exact k2 _ H' ρ2 ⟨by simp, fun j hj => by rw [List.getElem?_set_ne]; intro z; exact hj (by simp [z])⟩ Ext.refl (c2.set i r2)
        exact lc_ok (vs := own.map (·.2)) hsl hh
      · have b' : (X.env.blockKind == .function && X.env.kindOf x == some .local && px.line == q.line && !(scx.names.any fun (n, k) => n == x && (k == .local || k == .cell))) = false := eq_false_of_ne_true b
        rw [b'] at sw
        exact plainCase sw rfl
    | tp gs n pp => exact plainCase rfl rfl
    | sb o i pp => exact plainCase rfl rfl
  | tup es n q =>
    cases g with
    | tp gs m pp =>
      have hk' : asgOk X.env.scope (.tp gs m pp) (.tup es n q) = true := hk
      unfold asgOk at hk'
      dsimp only at hk'
      split at hk'
      · rename_i hs
        exact plainCase rfl (sw_of hs)
      · rename_i ns hs
        have sw := sw_of (k := m) (k' := n) (p := pp) (p' := q) hs
        split at hk'
        · rename_i i x px j y py
          simp only [Bool.and_eq_true, decide_eq_true_eq] at hk'
          obtain ⟨⟨⟨⟨e1, e2⟩, e3⟩, e4⟩, e5⟩ := hk'
          subst e1
          obtain ⟨w1, w2⟩ := and2 (show (wfG Γ X.N X.env.scope (fun _ => true) (.nm i x px) && wfGs Γ X.N X.env.scope (fun _ => true) (.cons (.nm j y py) .nil)) = true from hg)
          obtain ⟨w3, w4⟩ := and2 (show (wfG Γ X.N X.env.scope (fun _ => true) (.nm j y py) && wfGs Γ X.N X.env.scope (fun _ => true) .nil) = true from w2)
          obtain ⟨n1, _⟩ := and2 (show (decide (X.N[i]? = some x) && locB X.env.scope (fun _ => true) x) = true from w1)
          obtain ⟨n2, _⟩ := and2 (show (decide (X.N[j]? = some y) && locB X.env.scope (fun _ => true) y) = true from w3)
          have ha := sndEs es X G (by rw [hf]; exact he)
          match es, e5, ha, sw, he' with
          | .cons a (.cons b .nil), _, ha, sw, he' => exact s_par2 (C := C) G.calm G.nd (of_decide_eq_true n1) (of_decide_eq_true n2) e4 (loc_is e2) (loc_is e3) ha sw
        · rename_i i x px j y py l z pz
          simp only [Bool.and_eq_true, decide_eq_true_eq] at hk'
          obtain ⟨⟨⟨⟨⟨⟨⟨e1, e2⟩, e3⟩, e4⟩, e5⟩, e6⟩, e7⟩, e8⟩ := hk'
          subst e1
          obtain ⟨w1, w2⟩ := and2 (show (wfG Γ X.N X.env.scope (fun _ => true) (.nm i x px) && wfGs Γ X.N X.env.scope (fun _ => true) (.cons (.nm j y py) (.cons (.nm l z pz) .nil))) = true from hg)
          obtain ⟨w3, w4⟩ := and2 (show (wfG Γ X.N X.env.scope (fun _ => true) (.nm j y py) && wfGs Γ X.N X.env.scope (fun _ => true) (.cons (.nm l z pz) .nil)) = true from w2)
          obtain ⟨w5, w6⟩ := and2 (show (wfG Γ X.N X.env.scope (fun _ => true) (.nm l z pz) && wfGs Γ X.N X.env.scope (fun _ => true) .nil) = true from w4)
          obtain ⟨n1, _⟩ := and2 (show (decide (X.N[i]? = some x) && locB X.env.scope (fun _ => true) x) = true from w1)
          obtain ⟨n2, _⟩ := and2 (show (decide (X.N[j]? = some y) && locB X.env.scope (fun _ => true) y) = true from w3)
          obtain ⟨n3, _⟩ := and2 (show (decide (X.N[l]? = some z) && locB X.env.scope (fun _ => true) z) = true from w5)
          have ha := sndEs es X G (by rw [hf]; exact he)
          match es, e8, ha, sw, he' with
          | .cons a (.cons b (.cons c .nil)), _, ha, sw, he' => exact s_par3 (C := C) G.calm G.nd (of_decide_eq_true n1) (of_decide_eq_true n2) (of_decide_eq_true n3) e5 e6 e7 (loc_is e2) (loc_is e3) (loc_is e4) ha sw
        · cases hk'
      · cases hk'
    | nm i x px => exact plainCase rfl rfl
    | sb o i pp => exact plainCase rfl rfl
  | _ => exact plainCase (swaps_plain _ _ rfl) (swapped_no g _ (by cases g <;> rfl))
mutual
theorem sndT : ∀ (t : T) (X : Cx) (G : Good Γ C k X), X.fn = (fun _ => true) → wfT Γ X.N X.env.scope t = true → PS X (embT t) (tT X.K (evT C t))
  | .asg g e p, X, G, hf, h => by
    obtain ⟨h1, h2, h3⟩ := and3 (show (wfG Γ X.N X.env.scope (fun _ => true) g && wfE Γ X.N X.env.scope (fun _ => true) e && asgOk X.env.scope g e) = true from h)
    exact sndAsg g e p X G hf h1 h2 h3
  | .aug i x o e q p, X, G, hf, h => by
    obtain ⟨h1, h2, h3⟩ := and3 (show (decide (X.N[i]? = some x) && locB X.env.scope (fun _ => true) x && wfE Γ X.N X.env.scope (fun _ => true) e) = true from h)
    exact s_aug G.nd (of_decide_eq_true h1) (loc_of h2).1 (sndE e X G (by rw [hf]; exact h3)).1 (by rw [hf]; exact .inl rfl)
  | .ex e p, X, G, hf, h => by
    obtain ⟨h1, h2⟩ := and2 (show (!isLc e && wfE Γ X.N X.env.scope (fun _ => true) e) = true from h)
    exact s_ex (sndE e X G (by rw [hf]; exact h2)).1 (swaps_plain _ e h1)
  | .ret e p, X, G, hf, h => s_ret (sndE e X G (by rw [hf]; exact h)).1
  | .retN p, X, G, hf, h => s_retN
  | .iff c a b p, X, G, hf, h => by
    obtain ⟨h1, h2, h3⟩ := and3 (show (wfE Γ X.N X.env.scope (fun _ => true) c && wfTs Γ X.N X.env.scope a && wfTs Γ X.N X.env.scope b) = true from h)
    exact s_iff (sndE c X G (by rw [hf]; exact h1)).2 (sndTs a X G hf h2) (sndTs b X G hf h3)
  | .fr g it b p, X, G, hf, h => by
    obtain ⟨h1, h2, h3⟩ := and3 (show (wfI Γ X.N X.env.scope (fun _ => true) (isTp g) it && wfG Γ X.N X.env.scope (fun _ => true) g && wfTs Γ X.N X.env.scope b) = true from h)
    exact s_for (by rw [G.xe]; exact PassesOwn.never) G.calm (sndI it X G g (by rw [hf]; exact h1)) (sndG g X G (by rw [hf]; exact h2)) (sndTs b X G hf h3) (folded_i it)
  | .whl c b p, X, G, hf, h => by
    obtain ⟨h1, h2⟩ := and2 (show (wfE Γ X.N X.env.scope (fun _ => true) c && wfTs Γ X.N X.env.scope b) = true from h)
    exact s_whl (by rw [G.xe]; exact PassesOwn.never) (sndE c X G (by rw [hf]; exact h1)).2 (sndTs b X G hf h2) turns
  | .brk p, X, G, hf, h => s_brk
  | .cnt p, X, G, hf, h => s_cnt
  | .pas p, X, G, hf, h => s_pas
  | .nev s, X, G, hf, h => s_nev
theorem sndTs : ∀ (ts : Ts) (X : Cx) (G : Good Γ C k X), X.fn = (fun _ => true) → wfTs Γ X.N X.env.scope ts = true → PSs X (embTs ts) (tT X.K (evTs C ts))
  | .nil, X, G, hf, h => tsx_nil
  | .cons t r, X, G, hf, h => by
    obtain ⟨h1, h2⟩ := and2 (show (wfT Γ X.N X.env.scope t && wfTs Γ X.N X.env.scope r) = true from h)
    exact tsx_cons (sndT t X G hf h1) (sndTs r X G hf h2)
end
end
end Mi

end

section
/-! Mi11: a table of defs, what calling them is worth, every def keeps it. -/
namespace Mi
open PySem PySem.Spec L2
structure Def where
  nm : Str
  ps : List Str
  dfs : List D
  N : List Str
  sc : Scope
  body : Ts
def Def.full (d : Def) (as : List D) : List D := as ++ d.dfs.drop (as.length + d.dfs.length - d.ps.length)
def outD (S : Store) : Option (Fl × Store) → Option (D × Store)
  | some (.ret v, S') => some (gc S v S')
  | some (.next _, S') => some (gc S .non S')
  | _ => none
def startD (N : List Str) (vs : List D) : StD := vs.map some ++ List.replicate (N.length - vs.length) none
def runFull (C : Orc) (d : Def) (vs : List D) (S : Store) : Option (D × Store) :=
  if vs.length = d.ps.length then outD S (evTs C d.body (startD d.N vs) S) else none
def runDef (C : Orc) (d : Def) (as : List D) (S : Store) : Option (D × Store) := runFull C d (d.full as) S
def orc (defs : List Def) : Nat → Orc
  | 0 => fun _ _ _ => none
  | k + 1 => fun n as S => match defs[n]? with
    | some d => runDef (orc defs k) d as S
    | none => none
def tabOf (defs : List Def) (gl : List (Str × Int)) : Tab where
  cal f n m := match defs[n]? with
    | some d => d.nm == f && decide (d.ps.length ≤ m + d.dfs.length) && decide (m ≤ d.ps.length)
    | none => false
  glo x := gl.lookup x
def DefOk (K : PySem.W.Frag) (mg : Str → Option Value) (d : Def) : Prop :=
  ∃ (fa : Addr) (fd : FuncData) (params : Arguments) (dvs : List V), mg d.nm = some (.ref fa) ∧ FunD K d.nm d.nm params (embTs d.body) d.sc dvs [] fa fd ∧ FnScope d.N d.ps d.sc ∧ (∀ H ρ, RepL K H ρ d.dfs dvs) ∧
    ∀ m, d.ps.length ≤ m + d.dfs.length → m ≤ d.ps.length → ∃ ds, Vals (dvs.drop (m + d.dfs.length - d.ps.length)) ds ∧ Binds K fd d.ps ds
theorem repL_app {K : PySem.W.Frag} {H : Hp} {ρ : List Addr} : ∀ {ds es : List D} {vs ws : List V}, RepL K H ρ ds vs → RepL K H ρ es ws → RepL K H ρ (ds ++ es) (vs ++ ws)
  | [], es, vs, ws, h, g => by
    have : vs = [] := h
    subst this; exact g
  | d :: r, es, vs, ws, h, g => by
    obtain ⟨v, t, rfl, h1, h2⟩ := h
    exact ⟨v, t ++ ws, rfl, h1, repL_app h2 g⟩
theorem repL_drop {K : PySem.W.Frag} {H : Hp} {ρ : List Addr} : ∀ (n : Nat) {ds : List D} {vs : List V}, RepL K H ρ ds vs → RepL K H ρ (ds.drop n) (vs.drop n)
  | 0, _, _, h => h
  | n + 1, [], vs, h => by
    have : vs = [] := h
    subst this; exact rfl
  | n + 1, d :: r, vs, h => by
    obtain ⟨v, t, rfl, h1, h2⟩ := h
    exact repL_drop n h2
theorem repL_at {K : PySem.W.Frag} {H : Hp} {ρ : List Addr} : ∀ {ds : List D} {vs : List V} (i : Nat) (d : D), RepL K H ρ ds vs → ds[i]? = some d → ∃ v, vs[i]? = some v ∧ Rep K H ρ d v
  | [], vs, i, d, h, e => by simp at e
  | x :: r, vs, 0, d, h, e => by
    obtain ⟨v, t, rfl, h1, h2⟩ := h
    have : x = d := by simpa using e
    subst this
    exact ⟨v, rfl, h1⟩
  | x :: r, vs, i + 1, d, h, e => by
    obtain ⟨v, t, rfl, h1, h2⟩ := h
    obtain ⟨u, e1, e2⟩ := repL_at i d h2 (by simpa using e)
    exact ⟨u, by simpa using e1, e2⟩
theorem cor_start {K : PySem.W.Frag} {H : Hp} {ρ : List Addr} {S : Store} {N : List Str} {ds : List D} {vs : List V} (hp : HRep K H ρ S) (h : RepL K H ρ ds vs) : Cor K H ρ (start N vs) (startD N ds) S := by
  have hl := h.length
  refine ⟨?_, fun i d e => ?_, hp⟩
  · simp only [L2.start, startD, List.length_append, List.length_map, List.length_replicate]; omega
  · unfold startD at e
    by_cases hi : i < ds.length
    · rw [List.getElem?_append_left (by simpa using hi)] at e
      rw [List.getElem?_map] at e
      cases h2 : ds[i]? with
      | none => rw [h2] at e; cases e
      | some x =>
        rw [h2] at e
        have : x = d := by simpa using e
        subst this
        obtain ⟨v, e1, e2⟩ := repL_at i x h h2
        refine ⟨v, ?_, e2⟩
        unfold L2.start
        rw [List.getElem?_append_left (by rw [List.length_map]; omega), List.getElem?_map, e1]; rfl
    · rw [List.getElem?_append_right (by simpa using Nat.le_of_not_lt hi)] at e
      rw [List.getElem?_replicate] at e
      split at e <;> cases e
theorem fn_good {P : Program} {w : World} {K : PySem.W.Frag} {mg : Str → Option Value} {base : Heap} {Γ : Tab} {C : Orc} {k : Nat} {d : Def} {fa : Addr} {fd : FuncData} {params : Arguments} {dvs : List V} (F : FunD K d.nm d.nm params (embTs d.body) d.sc dvs [] fa fd) (S : FnScope d.N d.ps d.sc)
    (hb : ∀ x ∈ bltNames, mg x = none) (hg : ∀ x i, Γ.glo x = some i → ∃ t, mg x = some (.int i t)) (hw : wfTs Γ d.N d.sc d.body = true) (ih : ∀ f n m, Γ.cal f n m = true → CallOk P w K mg base C k f n m) :
    FnOk P w K mg base CX0 (k + 1) fa fd d.ps (fun vs H Q _ => vs.length = d.ps.length ∧ liftN K (runFull C d) vs H Q) := by
  refine F.ok S (fun vs H Q E z => z.1) fun cdv A outer s H vs Q E hro ⟨hl, ρ, T, es, x, T', hp, hrep, ev, af⟩ => ?_
  refine ⟨tT K (evTs C d.body), PSs.nox (sndTs (Γ := Γ) (C := C) (k := k) d.body _ ⟨rfl, S.nd, rfl, hro, S.kind, hb, ih, hg⟩ rfl hw), ?_⟩
  unfold runFull at ev
  split at ev
  · cases er : evTs C d.body (startD d.N es) T with
    | none => rw [er] at ev; cases ev
    | some r =>
      obtain ⟨r, T2⟩ := r
      rw [er] at ev
      refine ⟨ρ, _, T, r, T2, cor_start hp hrep, er, ?_⟩
      cases r with
      | ret v =>
        have ev' : gc T v T2 = (x, T') := Option.some.inj ev
        refine fun v' H' ρ' x' h' r' => ?_
        obtain ⟨ρ2, y1, y2, y3⟩ := gc_ok hp x' h' r'
        rw [ev'] at y2 y3
        exact af v' H' ρ2 y1 y2 y3
      | next σ =>
        have ev' : gc T .non T2 = (x, T') := Option.some.inj ev
        refine fun σ' H' ρ' x' c' => ?_
        obtain ⟨ρ2, y1, y2, y3⟩ := gc_ok hp x' c'.hp (d := .non) (v := .non) rfl
        rw [ev'] at y2 y3
        exact af .non H' ρ2 y1 y2 y3
      | brk σ => cases ev
      | cnt σ => cases ev
  · cases ev
theorem defs_ok {P : Program} {w : World} {K : PySem.W.Frag} {mg : Str → Option Value} {base : Heap} {defs : List Def} {gl : List (Str × Int)} (hd : ∀ d ∈ defs, DefOk K mg d) (hb : ∀ x ∈ bltNames, mg x = none)
    (hg : ∀ x i, gl.lookup x = some i → ∃ t, mg x = some (.int i t)) (hw : ∀ d ∈ defs, wfTs (tabOf defs gl) d.N d.sc d.body = true) :
    ∀ (k : Nat) (f : Str) (n m : Nat), (tabOf defs gl).cal f n m = true → CallOk P w K mg base (orc defs k) k f n m
  | 0, f, n, m, h => by
    unfold tabOf at h
    dsimp only at h
    cases e : defs[n]? with
    | none => rw [e] at h; cases h
    | some d =>
      rw [e] at h
      simp only [Bool.and_eq_true, decide_eq_true_eq, beq_iff_eq] at h
      obtain ⟨⟨rfl, h1⟩, h2⟩ := h
      obtain ⟨fa, fd, params, dvs, g1, F, S, hr, hbn⟩ := hd d (List.mem_of_getElem? e)
      obtain ⟨ds, v1, b1⟩ := hbn m h1 h2
      refine ⟨fa, fd, d.ps, _, ds, fun _ _ _ _ => False, g1, F.kp, b1, v1, ⟨fun _ _ _ _ z => z.elim, fun _ _ _ _ _ _ _ _ _ _ _ _ _ z => z.elim⟩, fun vs H Q hl ⟨ρ, T, es, x, T', _, _, e, _⟩ => ?_⟩
      cases e
  | k + 1, f, n, m, h => by
    have ih := defs_ok (P := P) (w := w) (base := base) hd hb hg hw k
    unfold tabOf at h
    dsimp only at h
    cases e : defs[n]? with
    | none => rw [e] at h; cases h
    | some d =>
      rw [e] at h
      simp only [Bool.and_eq_true, decide_eq_true_eq, beq_iff_eq] at h
      obtain ⟨⟨rfl, h1⟩, h2⟩ := h
      have hm := List.mem_of_getElem? e
      obtain ⟨fa, fd, params, dvs, g1, F, S, hr, hbn⟩ := hd d hm
      obtain ⟨ds, v1, b1⟩ := hbn m h1 h2
      refine ⟨fa, fd, d.ps, _, ds, fun vs H Q _ => vs.length = d.ps.length ∧ liftN K (runFull (orc defs k) d) vs H Q, g1, F.kp, b1, v1, ?_, ?_⟩
      · exact fn_good F S hb hg (hw d hm) ih
      · intro vs H Q hl ⟨ρ, T, es, x, T', hp, hrep, ev, af⟩
        have el := hrep.length
        have ed := (hr H ρ).length
        have ev2 : runFull (orc defs k) d (d.full es) T = some (x, T') := by
          have : orc defs (k + 1) n es T = runDef (orc defs k) d es T := by
            show (match defs[n]? with | some d => runDef (orc defs k) d es T | none => none) = _
            rw [e]
          rw [this] at ev; exact ev
        have hrep2 : RepL K H ρ (d.full es) (vs ++ dvs.drop (m + d.dfs.length - d.ps.length)) := by
          unfold Def.full
          have : es.length = m := by omega
          rw [this]
          exact repL_app hrep (repL_drop _ (hr H ρ))
        refine ⟨?_, ρ, T, _, x, T', hp, hrep2, ev2, af⟩
        have := hrep2.length
        unfold runFull at ev2
        split at ev2
        · omega
        · cases ev2
theorem repL_ints {K : PySem.W.Frag} {H : Hp} {ρ : List Addr} : ∀ ns : List Int, RepL K H ρ (ns.map D.int) (ns.map V.int)
  | [] => rfl
  | i :: r => ⟨_, _, rfl, rfl, repL_ints r⟩
theorem vals_drop0 {n : Nat} : Vals (List.drop n []) [] := by
  rw [List.drop_nil]; exact .nil
theorem lookup_in {α β : Type} [BEq α] [LawfulBEq α] {x : α} {i : β} : ∀ {l : List (α × β)}, l.lookup x = some i → (x, i) ∈ l
  | [], h => by cases h
  | (y, j) :: r, h => by
    rw [List.lookup_cons] at h
    cases e : x == y with
    | true =>
      rw [e] at h
      have h2 := Option.some.inj h
      rw [← h2, eq_of_beq e]
      exact List.mem_cons_self ..
    | false =>
      rw [e] at h
      exact List.mem_cons_of_mem _ (lookup_in h)
theorem SaysD_facts {fa : List He.Fa} {fn : List He.DefD} {K : PySem.W.Frag} (c : He.SaysD fa fn K) {f : He.Fa} (h : f ∈ fa) : f.ok K = true := by
  obtain ⟨i, e⟩ := List.getElem?_of_mem h
  exact c.fact i e
/-- the law's call: the script is a list that nobody writes -/
theorem entry {K : PySem.W.Frag} {H : Hp} {a : Addr} {ns : List Int} {C : Orc} {d : Def} (hO : Only H) (hS : SqL K H a (ns.map V.int)) (hp : d.ps.length = 1) {S' : Store} (h : runFull C d [.ro (ns.map D.int)] [] = some (.bl true, S')) :
    [V.ref a].length = d.ps.length ∧ liftN K (runFull C d) [.ref a] H (fun v _ => v = .bl true) := by
  refine ⟨hp.symm, [], [], [.ro (ns.map D.int)], _, _, ⟨rfl, .nil, fun n mo a e => by simp at e⟩, ⟨_, _, rfl, ⟨a, ns.map V.int, rfl, ?_, ?_⟩, rfl⟩, h, fun v H' ρ' _ _ r => r⟩
  · rcases hS with h | h
    · rcases h with h | ⟨o, h⟩
      · rcases hO a with e | ⟨o, xs, e⟩
        · rw [e] at h; cases h
        · rw [e] at h; cases h
      · exact .inl ⟨o, h⟩
    · exact .inr h
  · exact repL_ints ns
end Mi

end

section
/-! Mi12: plain facts about the evaluator. -/
namespace Mi
open PySem PySem.Spec L2
@[simp] theorem keepsOld_app : ∀ (S T : Store), keepsOld S (S ++ T) = true
  | [], _ => rfl
  | a :: r, T => by
    show ((MO.beq a a || MO.pure a) && keepsOld r (r ++ T)) = true
    rw [MO.beq_self, keepsOld_app r T]; rfl
@[simp] theorem keepsOld_self (S : Store) : keepsOld S S = true := by
  have := keepsOld_app S []
  rwa [List.append_nil] at this
theorem keepsOld_set : ∀ (S : Store) (n : Nat) (mo : MO) (T : Store), MO.pure mo = true → keepsOld S (S.set n mo ++ T) = true
  | [], _, _, _, _ => rfl
  | a :: r, 0, mo, T, h => by
    show ((MO.beq a mo || MO.pure mo) && keepsOld r (r ++ T)) = true
    rw [h, keepsOld_app]; simp
  | a :: r, n + 1, mo, T, h => by
    show ((MO.beq a a || MO.pure a) && keepsOld r (r.set n mo ++ T)) = true
    rw [MO.beq_self, keepsOld_set r n mo T h]; rfl
theorem keepsOld_set0 (S : Store) (n : Nat) (mo : MO) (h : MO.pure mo = true) : keepsOld S (S.set n mo) = true := by
  have := keepsOld_set S n mo [] h
  rwa [List.append_nil] at this
theorem gc_pure {S S' : Store} {d : D} (hk : keepsOld S S' = true) (hd : D.pure d = true) : gc S d S' = (d, S'.take S.length) := by
  unfold gc; rw [if_pos hk, if_pos hd]
theorem gc_self {S : Store} {d : D} (hd : D.pure d = true) : gc S d S = (d, S) := by rw [gc_pure (keepsOld_self S) hd, List.take_length]
theorem gc_app {S T : Store} {d : D} (hd : D.pure d = true) : gc S d (S ++ T) = (d, S) := by rw [gc_pure (keepsOld_app S T) hd, List.take_left]
theorem gc_same {S : Store} {d : D} : gc S d S = (d, S) := by
  unfold gc
  rw [if_pos (keepsOld_self S)]
  split
  · rw [List.take_length]
  · cases d with
    | loc m =>
      dsimp only
      split
      · rw [List.take_length]
      · rename_i h
        rw [List.getElem?_eq_none (by omega)]
    | _ => rfl
theorem gc_set {S : Store} {n : Nat} {mo : MO} {d : D} (hm : MO.pure mo = true) (hd : D.pure d = true) : gc S d (S.set n mo) = (d, S.set n mo) := by
  rw [gc_pure (keepsOld_set0 S n mo hm) hd, List.take_of_length_le (by rw [List.length_set]; exact Nat.le_refl _)]
theorem gc_setapp {S T : Store} {n : Nat} {mo : MO} {d : D} (hm : MO.pure mo = true) (hd : D.pure d = true) : gc S d (S.set n mo ++ T) = (d, S.set n mo) := by
  rw [gc_pure (keepsOld_set S n mo T hm) hd, ← List.length_set (i := n) (a := mo), List.take_left]
theorem gc_old {S T : Store} {m : Nat} (h : m < S.length) : gc S (.loc m) (S ++ T) = (.loc m, S) := by
  unfold gc
  rw [if_pos (keepsOld_app S T), if_neg (by simp [D.pure])]
  dsimp only
  rw [if_pos h, List.take_left]
theorem gc_old0 {S : Store} {m : Nat} (h : m < S.length) : gc S (.loc m) S = (.loc m, S) := by
  have := gc_old (T := []) h
  rwa [List.append_nil] at this
/-- a fresh pure thing goes to the end -/
theorem gc_fresh {S T : Store} {m : Nat} {mo : MO} (h : S.length ≤ m) (hm : (S ++ T)[m]? = some mo) (hp : MO.pure mo = true) : gc S (.loc m) (S ++ T) = (.loc S.length, S ++ [mo]) := by
  unfold gc
  rw [if_pos (keepsOld_app S T), if_neg (by simp [D.pure])]
  dsimp only
  rw [if_neg (by omega), hm]
  dsimp only
  rw [if_pos hp, List.take_left]
theorem gc_new {S : Store} {mo : MO} (hp : MO.pure mo = true) : gc S (.loc S.length) (S ++ [mo]) = (.loc S.length, S ++ [mo]) :=
  gc_fresh (Nat.le_refl _) (by simp) hp
theorem gc_dead {S T : Store} {m : Nat} {mo : MO} (h : S.length ≤ m) (hm : (S ++ T)[m]? = some mo) (hp : MO.pure mo = false) : gc S (.loc m) (S ++ T) = (.loc m, S ++ T) := by
  unfold gc
  rw [if_pos (keepsOld_app S T), if_neg (by simp [D.pure])]
  dsimp only
  rw [if_neg (by omega), hm]
  dsimp only
  rw [hp]; rfl
@[simp] theorem pure_int (i : Int) : D.pure (.int i) = true := rfl
@[simp] theorem pure_bl (b : Bool) : D.pure (.bl b) = true := rfl
@[simp] theorem pure_non : D.pure .non = true := rfl
@[simp] theorem pure_tup (ds : List D) : D.pure (.tup ds) = D.pureL ds := rfl
@[simp] theorem pureL_nil : D.pureL [] = true := rfl
@[simp] theorem pureL_cons (d : D) (r : List D) : D.pureL (d :: r) = (D.pure d && D.pureL r) := rfl
@[simp] theorem pure_lst (ds : List D) : MO.pure (.lst ds) = D.pureL ds := rfl
theorem pureL_map {α : Type} {f : α → D} : ∀ (l : List α), (∀ x ∈ l, D.pure (f x) = true) → D.pureL (l.map f) = true
  | [], _ => rfl
  | a :: r, h => by
    show (D.pure (f a) && D.pureL (r.map f)) = true
    rw [h a (List.mem_cons_self ..), pureL_map r fun x hx => h x (List.mem_cons_of_mem _ hx)]; rfl
/-- a comprehension whose turns leave the store -/
theorem lcD_pure {α : Type} {ok : Store → Bool} {g : D → Store → Option (StD × Store)} {c : StD → Store → Option (Bool × Store)} {e : StD → Store → Option (D × Store)} {S : Store} (inj : α → D) (p : α → Bool) (f : α → D) (hok : ok S = true) :
    ∀ (xs : List α) (acc : List D), (∀ x ∈ xs, ∃ σ, g (inj x) S = some (σ, S) ∧ c σ S = some (p x, S) ∧ (p x = true → e σ S = some (f x, S))) → acc.length + xs.length ≤ sizeLine →
      lcD ok g c e (xs.map inj) acc S = some (acc ++ (xs.filter p).map f, S)
  | [], acc, _, _ => by simp [lcD, hok]
  | x :: r, acc, h, hl => by
    obtain ⟨σ, h1, h2, h3⟩ := h x (List.mem_cons_self ..)
    have hr := fun acc hl => lcD_pure (e := e) inj p f hok r acc (fun y hy => h y (List.mem_cons_of_mem _ hy)) hl
    simp only [List.length_cons] at hl
    rw [List.map_cons, lcD, if_pos hok, h1]
    dsimp only
    rw [h2]
    cases hp : p x with
    | true =>
      dsimp only
      rw [h3 hp]
      dsimp only
      rw [if_pos (by omega), hr _ (by simp; omega), List.filter_cons, hp]
      simp
    | false =>
      dsimp only
      rw [hr _ (by omega), List.filter_cons, hp]
      simp

/-! ### running it, one step after another: only what comes first is looked at -/
theorem bnd_congr {α β : Type} {x y : Option (α × Store)} {f : α → Store → Option (β × Store)} (h : x = y) : bnd x f = bnd y f := by rw [h]
def seqF (x : Option (Fl × Store)) (k : StD → Store → Option (Fl × Store)) : Option (Fl × Store) :=
  match x with
  | some (.next σ, S) => k σ S
  | some (.brk σ, S) => some (.brk σ, S)
  | some (.cnt σ, S) => some (.cnt σ, S)
  | some (.ret d, S) => some (.ret d, S)
  | none => none
theorem seqF_congr {x y : Option (Fl × Store)} {k : StD → Store → Option (Fl × Store)} (h : x = y) : seqF x k = seqF y k := by rw [h]
theorem seqF_next {k : StD → Store → Option (Fl × Store)} {σ : StD} {S : Store} : seqF (some (.next σ, S)) k = k σ S := rfl
theorem seqF_brk {k : StD → Store → Option (Fl × Store)} {σ : StD} {S : Store} : seqF (some (.brk σ, S)) k = some (.brk σ, S) := rfl
theorem seqF_cnt {k : StD → Store → Option (Fl × Store)} {σ : StD} {S : Store} : seqF (some (.cnt σ, S)) k = some (.cnt σ, S) := rfl
theorem seqF_ret {k : StD → Store → Option (Fl × Store)} {d : D} {S : Store} : seqF (some (.ret d, S)) k = some (.ret d, S) := rfl
theorem ts_nil {C : Orc} {σ : StD} {S : Store} : evTs C .nil σ S = some (.next σ, S) := rfl
theorem ts_cons {C : Orc} {t : T} {r : Ts} {σ : StD} {S : Store} : evTs C (.cons t r) σ S = seqF (evT C t σ S) (fun σ1 S1 => evTs C r σ1 S1) := by
  show bnd (evT C t σ S) _ = _
  cases evT C t σ S with
  | none => rfl
  | some p => obtain ⟨f, S1⟩ := p; cases f <;> rfl
theorem out_ret {S S' : Store} {v : D} : outD S (some (.ret v, S')) = some (gc S v S') := rfl
theorem out_next {S S' : Store} {σ : StD} : outD S (some (.next σ, S')) = some (gc S .non S') := rfl
theorem ite_t {α : Type} {k l : Store → Option (α × Store)} {S : Store} : iteD k l true S = k S := rfl
theorem ite_f {α : Type} {k l : Store → Option (α × Store)} {S : Store} : iteD k l false S = l S := rfl
theorem bop_and_t {k : Store → Option (D × Store)} {S : Store} : bopD .And k (.bl true) S = k S := rfl
theorem bop_and_f {k : Store → Option (D × Store)} {S : Store} : bopD .And k (.bl false) S = some (.bl false, S) := rfl
theorem bop_or_t {k : Store → Option (D × Store)} {S : Store} : bopD .Or k (.bl true) S = some (.bl true, S) := rfl
theorem bop_or_f {k : Store → Option (D × Store)} {S : Store} : bopD .Or k (.bl false) S = k S := rfl
theorem bb_and_t {k : Store → Option (Bool × Store)} {S : Store} : bopB .And k true S = k S := rfl
theorem bb_and_f {k : Store → Option (Bool × Store)} {S : Store} : bopB .And k false S = some (false, S) := rfl
theorem bb_or_t {k : Store → Option (Bool × Store)} {S : Store} : bopB .Or k true S = some (true, S) := rfl
theorem bb_or_f {k : Store → Option (Bool × Store)} {S : Store} : bopB .Or k false S = k S := rfl
theorem slot_0 {x : D} {r : StD} : slotD (some x :: r) 0 = some x := rfl
theorem slot_s {x : Option D} {r : StD} {n : Nat} : slotD (x :: r) (n + 1) = slotD r n := rfl
theorem e_con {c : Const} {k : Nat} {p : Pos} {C : Orc} {σ : StD} {S : Store} : (ev C (.con c k p)).e σ S = opt (conD c) S := rfl
theorem b_con {c : Const} {k : Nat} {p : Pos} {C : Orc} {σ : StD} {S : Store} : (ev C (.con c k p)).b σ S = bnd ((ev C (.con c k p)).e σ S) fun d S1 => opt (truthD S1 d) S1 := rfl
theorem e_var {i : Nat} {x : Str} {p : Pos} {C : Orc} {σ : StD} {S : Store} : (ev C (.var i x p)).e σ S = opt (slotD σ i) S := rfl
theorem b_var {i : Nat} {x : Str} {p : Pos} {C : Orc} {σ : StD} {S : Store} : (ev C (.var i x p)).b σ S = bnd ((ev C (.var i x p)).e σ S) fun d S1 => opt (truthD S1 d) S1 := rfl
theorem e_glo {x : Str} {i : Int} {p : Pos} {C : Orc} {σ : StD} {S : Store} : (ev C (.glo x i p)).e σ S = some (.int i, S) := rfl
theorem b_glo {x : Str} {i : Int} {p : Pos} {C : Orc} {σ : StD} {S : Store} : (ev C (.glo x i p)).b σ S = bnd ((ev C (.glo x i p)).e σ S) fun d S1 => opt (truthD S1 d) S1 := rfl
theorem e_tup {es : Es} {k : Nat} {p : Pos} {C : Orc} {σ : StD} {S : Store} : (ev C (.tup es k p)).e σ S = bnd (evEs C es σ S) fun ds S1 => if ds.length ≤ sizeLine then some (.tup ds, S1) else none := rfl
theorem b_tup {es : Es} {k : Nat} {p : Pos} {C : Orc} {σ : StD} {S : Store} : (ev C (.tup es k p)).b σ S = bnd ((ev C (.tup es k p)).e σ S) fun d S1 => opt (truthD S1 d) S1 := rfl
theorem e_lst {es : Es} {p : Pos} {C : Orc} {σ : StD} {S : Store} : (ev C (.lst es p)).e σ S = bnd (evEs C es σ S) fun ds S1 => if ds.length ≤ sizeLine then some (.loc S1.length, S1 ++ [.lst ds]) else none := rfl
theorem b_lst {es : Es} {p : Pos} {C : Orc} {σ : StD} {S : Store} : (ev C (.lst es p)).b σ S = bnd ((ev C (.lst es p)).e σ S) fun d S1 => opt (truthD S1 d) S1 := rfl
theorem e_dct {p : Pos} {C : Orc} {σ : StD} {S : Store} : (ev C (.dct p)).e σ S = some (.loc S.length, S ++ [.dic []]) := rfl
theorem b_dct {p : Pos} {C : Orc} {σ : StD} {S : Store} : (ev C (.dct p)).b σ S = bnd ((ev C (.dct p)).e σ S) fun d S1 => opt (truthD S1 d) S1 := rfl
theorem e_op {o : Operator} {a b : E} {p : Pos} {C : Orc} {σ : StD} {S : Store} : (ev C (.op o a b p)).e σ S = bnd ((ev C a).e σ S) fun x S1 => bnd ((ev C b).e σ S1) fun y S2 => opD o x y S2 := rfl
theorem b_op {o : Operator} {a b : E} {p : Pos} {C : Orc} {σ : StD} {S : Store} : (ev C (.op o a b p)).b σ S = bnd ((ev C (.op o a b p)).e σ S) fun d S1 => opt (truthD S1 d) S1 := rfl
theorem e_neg {a : E} {p : Pos} {C : Orc} {σ : StD} {S : Store} : (ev C (.neg a p)).e σ S = bnd ((ev C a).e σ S) negD := rfl
theorem b_neg {a : E} {p : Pos} {C : Orc} {σ : StD} {S : Store} : (ev C (.neg a p)).b σ S = bnd ((ev C (.neg a p)).e σ S) fun d S1 => opt (truthD S1 d) S1 := rfl
theorem e_not {a : E} {p : Pos} {C : Orc} {σ : StD} {S : Store} : (ev C (.not a p)).e σ S = bnd ((ev C a).e σ S) notD := rfl
theorem b_not {a : E} {p : Pos} {C : Orc} {σ : StD} {S : Store} : (ev C (.not a p)).b σ S = bnd ((ev C a).b σ S) fun b S1 => some (!b, S1) := rfl
theorem e_bop {o : BoolOp} {es : Es} {p : Pos} {C : Orc} {σ : StD} {S : Store} : (ev C (.bop o es p)).e σ S = evBop C o es σ S := rfl
theorem b_bop {o : BoolOp} {es : Es} {p : Pos} {C : Orc} {σ : StD} {S : Store} : (ev C (.bop o es p)).b σ S = evBB C o es σ S := rfl
theorem e_cmp {o : CmpOp} {a b : E} {p : Pos} {C : Orc} {σ : StD} {S : Store} : (ev C (.cmp o a b p)).e σ S = bnd ((ev C a).e σ S) fun x S1 => bnd ((ev C b).e σ S1) fun y S2 => bnd (opt (cmpD o x y S2) S2) fun k S3 => some (gc S (.bl k) S3) := rfl
theorem b_cmp {o : CmpOp} {a b : E} {p : Pos} {C : Orc} {σ : StD} {S : Store} : (ev C (.cmp o a b p)).b σ S = bnd ((ev C a).e σ S) fun x S1 => bnd ((ev C b).e σ S1) fun y S2 => bnd (opt (cmpD o x y S2) S2) fun k S3 => some (k, (gc S (.bl k) S3).2) := rfl
theorem e_chn {o q : CmpOp} {a b c : E} {p : Pos} {C : Orc} {σ : StD} {S : Store} : (ev C (.chn o q a b c p)).e σ S = bnd ((ev C a).e σ S) fun x S1 => bnd ((ev C b).e σ S1) fun y S2 => bnd (opt (cmpD o x y S2) S2) (iteD (fun S3 => bnd ((ev C c).e σ S3) fun z S4 => opt ((cmpD q y z S4).map .bl) S4) (fun S3 => some (.bl false, S3))) := rfl
theorem b_chn {o q : CmpOp} {a b c : E} {p : Pos} {C : Orc} {σ : StD} {S : Store} : (ev C (.chn o q a b c p)).b σ S = bnd ((ev C a).e σ S) fun x S1 => bnd ((ev C b).e σ S1) fun y S2 => bnd (opt (cmpD o x y S2) S2) (iteD (fun S3 => bnd ((ev C c).e σ S3) fun z S4 => opt (cmpD q y z S4) S4) (fun S3 => some (false, S3))) := rfl
theorem e_ifx {c a b : E} {p : Pos} {C : Orc} {σ : StD} {S : Store} : (ev C (.ifx c a b p)).e σ S = bnd ((ev C c).b σ S) (iteD ((ev C a).e σ) ((ev C b).e σ)) := rfl
theorem b_ifx {c a b : E} {p : Pos} {C : Orc} {σ : StD} {S : Store} : (ev C (.ifx c a b p)).b σ S = bnd ((ev C c).b σ S) (iteD ((ev C a).b σ) ((ev C b).b σ)) := rfl
theorem e_ix {a i : E} {p : Pos} {C : Orc} {σ : StD} {S : Store} : (ev C (.ix a i p)).e σ S = bnd ((ev C a).e σ S) fun x S1 => bnd ((ev C i).e σ S1) fun y S2 => bnd (opt (ixD x y S2) S2) fun z S3 => some (gc S z S3) := rfl
theorem b_ix {a i : E} {p : Pos} {C : Orc} {σ : StD} {S : Store} : (ev C (.ix a i p)).b σ S = bnd ((ev C (.ix a i p)).e σ S) fun d S1 => opt (truthD S1 d) S1 := rfl
theorem e_sl {a : E} {lo hi : Eo} {q p : Pos} {C : Orc} {σ : StD} {S : Store} : (ev C (.sl a lo hi q p)).e σ S = bnd ((ev C a).e σ S) fun x S1 => bnd (evEo C lo σ S1) fun l S2 => bnd (evEo C hi σ S2) fun h S3 => slD x l h S3 := rfl
theorem b_sl {a : E} {lo hi : Eo} {q p : Pos} {C : Orc} {σ : StD} {S : Store} : (ev C (.sl a lo hi q p)).b σ S = bnd ((ev C (.sl a lo hi q p)).e σ S) fun d S1 => opt (truthD S1 d) S1 := rfl
theorem e_call {f : Str} {n : Nat} {as : Es} {q p : Pos} {C : Orc} {σ : StD} {S : Store} : (ev C (.call f n as q p)).e σ S = bnd (evEs C as σ S) fun ds S1 => bnd (C n ds S1) fun d S2 => some (gc S d S2) := rfl
theorem b_call {f : Str} {n : Nat} {as : Es} {q p : Pos} {C : Orc} {σ : StD} {S : Store} : (ev C (.call f n as q p)).b σ S = bnd ((ev C (.call f n as q p)).e σ S) fun d S1 => opt (truthD S1 d) S1 := rfl
theorem e_bi {f : Bi} {as : Es} {q p : Pos} {C : Orc} {σ : StD} {S : Store} : (ev C (.bi f as q p)).e σ S = bnd (evEs C as σ S) fun ds S1 => bnd (biD f ds S1) fun d S2 => some (gc S d S2) := rfl
theorem b_bi {f : Bi} {as : Es} {q p : Pos} {C : Orc} {σ : StD} {S : Store} : (ev C (.bi f as q p)).b σ S = bnd ((ev C (.bi f as q p)).e σ S) fun d S1 => opt (truthD S1 d) S1 := rfl
theorem e_mxd {gr : Bool} {a d : E} {q kp p : Pos} {C : Orc} {σ : StD} {S : Store} : (ev C (.mxd gr a d q kp p)).e σ S = bnd ((ev C a).e σ S) fun x S1 => bnd ((ev C d).e σ S1) fun y S2 => bnd (opt (maxD gr x y S2) S2) fun z S3 => some (gc S z S3) := rfl
theorem b_mxd {gr : Bool} {a d : E} {q kp p : Pos} {C : Orc} {σ : StD} {S : Store} : (ev C (.mxd gr a d q kp p)).b σ S = bnd ((ev C (.mxd gr a d q kp p)).e σ S) fun d S1 => opt (truthD S1 d) S1 := rfl
theorem e_isi {a : E} {t : Ty} {q tp p : Pos} {C : Orc} {σ : StD} {S : Store} : (ev C (.isi a t q tp p)).e σ S = bnd ((ev C a).e σ S) fun x S1 => bnd (opt (tyD S1 x) S1) fun n S2 => some (gc S (.bl (isaD n t)) S2) := rfl
theorem b_isi {a : E} {t : Ty} {q tp p : Pos} {C : Orc} {σ : StD} {S : Store} : (ev C (.isi a t q tp p)).b σ S = bnd ((ev C (.isi a t q tp p)).e σ S) fun d S1 => opt (truthD S1 d) S1 := rfl
theorem e_isl {a : E} {k : Nat} {q p1 p2 tp p : Pos} {C : Orc} {σ : StD} {S : Store} : (ev C (.isl a k q p1 p2 tp p)).e σ S = bnd ((ev C a).e σ S) fun x S1 => bnd (opt (tyD S1 x) S1) fun n S2 => some (gc S (.bl (isaD n .list || isaD n .tuple)) S2) := rfl
theorem b_isl {a : E} {k : Nat} {q p1 p2 tp p : Pos} {C : Orc} {σ : StD} {S : Store} : (ev C (.isl a k q p1 p2 tp p)).b σ S = bnd ((ev C (.isl a k q p1 p2 tp p)).e σ S) fun d S1 => opt (truthD S1 d) S1 := rfl
theorem e_lrg {a b : E} {q2 p2 q p : Pos} {C : Orc} {σ : StD} {S : Store} : (ev C (.lrg a b q2 p2 q p)).e σ S = bnd (bnd ((ev C a).e σ S) intD) fun i S1 => bnd (bnd ((ev C b).e σ S1) intD) fun j S2 => bnd (opt (rngD i j) S2) fun w S3 => if w.items.length ≤ 2 ^ 24 then some (.loc S3.length, S3 ++ [.lst w.items]) else none := rfl
theorem b_lrg {a b : E} {q2 p2 q p : Pos} {C : Orc} {σ : StD} {S : Store} : (ev C (.lrg a b q2 p2 q p)).b σ S = bnd ((ev C (.lrg a b q2 p2 q p)).e σ S) fun d S1 => opt (truthD S1 d) S1 := rfl
theorem e_mt {o : E} {m : Mt} {as : Es} {q p : Pos} {C : Orc} {σ : StD} {S : Store} : (ev C (.mt o m as q p)).e σ S = bnd ((ev C o).e σ S) fun x S1 => if recvD m x S1 then bnd (evEs C as σ S1) fun ds S2 => bnd (mtD m x ds S2) fun d S3 => some (gc S d S3) else none := rfl
theorem b_mt {o : E} {m : Mt} {as : Es} {q p : Pos} {C : Orc} {σ : StD} {S : Store} : (ev C (.mt o m as q p)).b σ S = bnd ((ev C (.mt o m as q p)).e σ S) fun d S1 => opt (truthD S1 d) S1 := rfl
theorem e_lc {e : E} {g : G} {it : I} {c : Eo} {own : List (Str × Nat)} {sc : Scope} {p : Pos} {C : Orc} {σ : StD} {S : Store} : (ev C (.lc e g it c own sc p)).e σ S = bnd (evI C it σ S) fun w S1 => bnd (lcD w.ok (fun x T => evG C g x (wipeD σ (own.map (·.2))) T) (evIf C c) ((ev C e).e) w.items [] S1) fun ds S2 => some (.loc S2.length, S2 ++ [.lst ds]) := rfl
theorem b_lc {e : E} {g : G} {it : I} {c : Eo} {own : List (Str × Nat)} {sc : Scope} {p : Pos} {C : Orc} {σ : StD} {S : Store} : (ev C (.lc e g it c own sc p)).b σ S = bnd ((ev C (.lc e g it c own sc p)).e σ S) fun d S1 => opt (truthD S1 d) S1 := rfl
theorem bop_1 {C : Orc} {o : BoolOp} {a : E} {σ : StD} {S : Store} : evBop C o (.cons a .nil) σ S = (ev C a).e σ S := rfl
theorem bop_2 {C : Orc} {o : BoolOp} {a b : E} {r : Es} {σ : StD} {S : Store} : evBop C o (.cons a (.cons b r)) σ S = bnd ((ev C a).e σ S) (bopD o fun S1 => evBop C o (.cons b r) σ S1) := rfl
theorem bb_1 {C : Orc} {o : BoolOp} {a : E} {σ : StD} {S : Store} : evBB C o (.cons a .nil) σ S = (ev C a).b σ S := rfl
theorem bb_2 {C : Orc} {o : BoolOp} {a b : E} {r : Es} {σ : StD} {S : Store} : evBB C o (.cons a (.cons b r)) σ S = bnd ((ev C a).b σ S) (bopB o fun S1 => evBB C o (.cons b r) σ S1) := rfl
theorem es_nil {C : Orc} {σ : StD} {S : Store} : evEs C .nil σ S = some ([], S) := rfl
theorem es_cons {C : Orc} {e : E} {r : Es} {σ : StD} {S : Store} : evEs C (.cons e r) σ S = bnd ((ev C e).e σ S) fun d S1 => bnd (evEs C r σ S1) fun ds S2 => some (d :: ds, S2) := rfl
theorem eo_none {C : Orc} {σ : StD} {S : Store} : evEo C .none σ S = some (none, S) := rfl
theorem eo_some {C : Orc} {e : E} {σ : StD} {S : Store} : evEo C (.some e) σ S = bnd (bnd ((ev C e).e σ S) intD) fun i S1 => some (some i, S1) := rfl
theorem if_none {C : Orc} {σ : StD} {S : Store} : evIf C .none σ S = some (true, S) := rfl
theorem if_some {C : Orc} {e : E} {σ : StD} {S : Store} : evIf C (.some e) σ S = (ev C e).b σ S := rfl
theorem i_ex {C : Orc} {e : E} {σ : StD} {S : Store} : evI C (.ex e) σ S = bnd ((ev C e).e σ S) fun d S1 => bnd (opt (seqOf S1 d) S1) fun ds S2 => some (⟨ds, stays d ds⟩, S2) := rfl
theorem i_rng1 {C : Orc} {a : E} {q p : Pos} {σ : StD} {S : Store} : evI C (.rng1 a q p) σ S = bnd (bnd ((ev C a).e σ S) intD) fun i S1 => opt (rngD 0 i) S1 := rfl
theorem i_rng2 {C : Orc} {a b : E} {q p : Pos} {σ : StD} {S : Store} : evI C (.rng2 a b q p) σ S = bnd (bnd ((ev C a).e σ S) intD) fun i S1 => bnd (bnd ((ev C b).e σ S1) intD) fun j S2 => opt (rngD i j) S2 := rfl
theorem i_enm {C : Orc} {e : E} {q p : Pos} {σ : StD} {S : Store} : evI C (.enm e q p) σ S = bnd ((ev C e).e σ S) fun d S1 => bnd (opt (seqOf S1 d) S1) fun ds S2 => some (⟨enumD 0 ds, stays d ds⟩, S2) := rfl
theorem q_nm {C : Orc} {i : Nat} {x : Str} {p : Pos} {v : D} {σ : StD} {S : Store} : evG C (.nm i x p) v σ S = some (σ.set i (some v), S) := rfl
theorem q_tp {C : Orc} {gs : Gs} {k : Nat} {p : Pos} {v : D} {σ : StD} {S : Store} : evG C (.tp gs k p) v σ S = bnd (opt (seqOf S v) S) fun ds S1 => evGs C gs ds σ S1 := rfl
def setK (σ : StD) : Option Store → Option (StD × Store)
  | some S3 => some (σ, S3)
  | none => none
theorem q_sb {C : Orc} {o i : E} {p : Pos} {v : D} {σ : StD} {S : Store} : evG C (.sb o i p) v σ S = bnd ((ev C o).e σ S) fun x S1 => bnd ((ev C i).e σ S1) fun y S2 => setK σ (setD x y v S2) := by
  show bnd ((ev C o).e σ S) _ = _
  congr 1
theorem setK_some {σ : StD} {S : Store} : setK σ (some S) = some (σ, S) := rfl
theorem qs_nil {C : Orc} {σ : StD} {S : Store} : evGs C .nil [] σ S = some (σ, S) := rfl
theorem qs_cons {C : Orc} {g : G} {r : Gs} {v : D} {ws : List D} {σ : StD} {S : Store} : evGs C (.cons g r) (v :: ws) σ S = bnd (evG C g v σ S) fun σ1 S1 => evGs C r ws σ1 S1 := rfl
theorem t_asg {C : Orc} {g : G} {e : E} {p : Pos} {σ : StD} {S : Store} : evT C (.asg g e p) σ S = bnd ((ev C e).e σ S) fun d S1 => bnd (evG C g d σ S1) fun σ1 S2 => some (.next σ1, S2) := rfl
theorem t_aug {C : Orc} {i : Nat} {x : Str} {o : Operator} {e : E} {q p : Pos} {σ : StD} {S : Store} : evT C (.aug i x o e q p) σ S = bnd (opt (slotD σ i) S) fun x S1 => bnd ((ev C e).e σ S1) fun y S2 => bnd (opt (augD o x y) S2) fun z S3 => some (.next (σ.set i (some z)), S3) := rfl
theorem t_ex {C : Orc} {e : E} {p : Pos} {σ : StD} {S : Store} : evT C (.ex e p) σ S = bnd ((ev C e).e σ S) fun _ S1 => some (.next σ, (gc S .non S1).2) := rfl
theorem t_ret {C : Orc} {e : E} {p : Pos} {σ : StD} {S : Store} : evT C (.ret e p) σ S = bnd ((ev C e).e σ S) fun d S1 => some (.ret d, S1) := rfl
theorem t_retN {C : Orc} {p : Pos} {σ : StD} {S : Store} : evT C (.retN p) σ S = some (.ret .non, S) := rfl
theorem t_iff {C : Orc} {c : E} {a b : Ts} {p : Pos} {σ : StD} {S : Store} : evT C (.iff c a b p) σ S = bnd ((ev C c).b σ S) (iteD (evTs C a σ) (evTs C b σ)) := rfl
theorem t_fr {C : Orc} {g : G} {it : I} {b : Ts} {p : Pos} {σ : StD} {S : Store} : evT C (.fr g it b p) σ S = bnd (evI C it σ S) fun w S1 => forD w.ok (evG C g) (evTs C b) w.items σ S1 := rfl
theorem t_whl {C : Orc} {c : E} {b : Ts} {p : Pos} {σ : StD} {S : Store} : evT C (.whl c b p) σ S = whlD ((ev C c).b) (evTs C b) turns σ S := rfl
theorem t_brk {C : Orc} {p : Pos} {σ : StD} {S : Store} : evT C (.brk p) σ S = some (.brk σ, S) := rfl
theorem t_cnt {C : Orc} {p : Pos} {σ : StD} {S : Store} : evT C (.cnt p) σ S = some (.cnt σ, S) := rfl
theorem t_pas {C : Orc} {p : Pos} {σ : StD} {S : Store} : evT C (.pas p) σ S = some (.next σ, S) := rfl
theorem con_none : conD .none = some .non := rfl
theorem con_bool {b : Bool} : conD (.bool b) = some (.bl b) := rfl
theorem con_int {i : Int} : conD (.int i) = some (.int i) := rfl
theorem con_str {x : Str} : conD (.str x) = some (.str x) := rfl
theorem neg_int {i : Int} {S : Store} : negD (.int i) S = some (.int (-i), S) := rfl
theorem not_bl {b : Bool} {S : Store} : notD (.bl b) S = some (.bl (!b), S) := rfl
theorem int_int {i : Int} {S : Store} : intD (.int i) S = some (i, S) := rfl
theorem add_int {i j : Int} {S : Store} : opD .Add (.int i) (.int j) S = some (.int (i + j), S) := rfl
theorem sub_int {i j : Int} {S : Store} : opD .Sub (.int i) (.int j) S = some (.int (i - j), S) := rfl
theorem lt_int {i j : Int} {S : Store} : cmpD .Lt (.int i) (.int j) S = some (decide (i < j)) := rfl
theorem le_int {i j : Int} {S : Store} : cmpD .LtE (.int i) (.int j) S = some (decide (i ≤ j)) := rfl
theorem gt_int {i j : Int} {S : Store} : cmpD .Gt (.int i) (.int j) S = some (decide (j < i)) := rfl
theorem ge_int {i j : Int} {S : Store} : cmpD .GtE (.int i) (.int j) S = some (decide (j ≤ i)) := rfl
theorem eq_int {i j : Int} {S : Store} : cmpD .Eq (.int i) (.int j) S = some (decide (i = j)) := by
  show some (PyData.eqv (.int i) (.int j)) = _
  congr 1
theorem ne_int {i j : Int} {S : Store} : cmpD .NotEq (.int i) (.int j) S = some (!decide (i = j)) := by
  show Option.map _ (cmpD .Eq (.int i) (.int j) S) = _
  rw [eq_int]; rfl
theorem is_nn {S : Store} : cmpD .Is .non .non S = some true := rfl
theorem is_in {i : Int} {S : Store} : cmpD .Is (.int i) .non S = some false := rfl
theorem is_bb {a b : Bool} {S : Store} : cmpD .Is (.bl a) (.bl b) S = some (decide (a = b)) := rfl
theorem isn_nn {S : Store} : cmpD .IsNot .non .non S = some false := rfl
theorem isn_in {i : Int} {S : Store} : cmpD .IsNot (.int i) .non S = some true := rfl
theorem isn_bb {a b : Bool} {S : Store} : cmpD .IsNot (.bl a) (.bl b) S = some (!decide (a = b)) := rfl
theorem tr_non {S : Store} : truthD S .non = some false := rfl
theorem tr_bl {b : Bool} {S : Store} : truthD S (.bl b) = some b := rfl
theorem tr_int {i : Int} {S : Store} : truthD S (.int i) = some (i != 0) := rfl
theorem ty_non {S : Store} : tyD S .non = some "NoneType" := rfl
theorem ty_bl {b : Bool} {S : Store} : tyD S (.bl b) = some "bool" := rfl
theorem ty_int {i : Int} {S : Store} : tyD S (.int i) = some "int" := rfl
theorem ty_tup {ds : List D} {S : Store} : tyD S (.tup ds) = some "tuple" := rfl
theorem ty_ro {ds : List D} {S : Store} : tyD S (.ro ds) = some "list" := rfl
theorem isa_int_int : isaD "int" .int = true := rfl
theorem isa_int_bool : isaD "int" .bool = false := rfl
theorem isa_int_list : isaD "int" .list = false := rfl
theorem isa_int_tuple : isaD "int" .tuple = false := rfl
theorem isa_list_list : isaD "list" .list = true := rfl
theorem isa_list_tuple : isaD "list" .tuple = false := rfl
theorem isa_tuple_list : isaD "tuple" .list = false := rfl
theorem isa_tuple_tuple : isaD "tuple" .tuple = true := rfl
theorem sq_tup {ds : List D} {S : Store} : seqOf S (.tup ds) = some ds := rfl
theorem sq_ro {ds : List D} {S : Store} : seqOf S (.ro ds) = some ds := rfl
theorem bi_int_int {i : Int} {S : Store} : biD .int [.int i] S = some (.int i, S) := rfl
theorem bi_int_bl {b : Bool} {S : Store} : biD .int [.bl b] S = some (.int (if b then 1 else 0), S) := rfl
theorem bi_tuple_tup {ds : List D} {S : Store} : biD .tuple [.tup ds] S = some (.tup ds, S) := rfl
theorem bi_list {a : D} {S : Store} : biD .list [a] S = (seqOf S a).map fun ds => (.loc S.length, S ++ [.lst ds]) := rfl
theorem bi_min {i j : Int} {S : Store} : biD .min [.int i, .int j] S = some (.int (if j < i then j else i), S) := rfl
theorem bi_max {i j : Int} {S : Store} : biD .max [.int i, .int j] S = some (.int (if j > i then j else i), S) := rfl
theorem bi_len_tup {ds : List D} {S : Store} : biD .len [.tup ds] S = some (.int ds.length, S) := rfl
theorem bi_len_ro {ds : List D} {S : Store} : biD .len [.ro ds] S = some (.int ds.length, S) := rfl
theorem ix_tup {ds : List D} {k : Int} {S : Store} : ixD (.tup ds) (.int k) S = atI ds k := rfl
theorem ix_ro {ds : List D} {k : Int} {S : Store} : ixD (.ro ds) (.int k) S = atI ds k := rfl
theorem sl_tup {ds : List D} {lo hi : Option Int} {S : Store} : slD (.tup ds) lo hi S = some (.tup (cut ds lo hi), S) := rfl
theorem sl_ro {ds : List D} {lo hi : Option Int} {S : Store} : slD (.ro ds) lo hi S = some (.loc S.length, S ++ [.lst (cut ds lo hi)]) := rfl
section
variable {S : Store} {m : Nat} {ds : List D}
/-- the list at m -/
theorem sq_loc (h : S[m]? = some (.lst ds)) : seqOf S (.loc m) = some ds := by unfold seqOf; dsimp only; rw [h]
theorem ty_loc (h : S[m]? = some (.lst ds)) : tyD S (.loc m) = some "list" := by unfold tyD; dsimp only; rw [h]
theorem ix_loc (h : S[m]? = some (.lst ds)) {k : Int} : ixD (.loc m) (.int k) S = atI ds k := by unfold ixD; dsimp only; rw [h]
theorem len_loc (h : S[m]? = some (.lst ds)) : biD .len [.loc m] S = some (.int ds.length, S) := by unfold biD; dsimp only; rw [h]
theorem tuple_loc (h : S[m]? = some (.lst ds)) : biD .tuple [.loc m] S = some (.tup ds, S) := by unfold biD; dsimp only; rw [sq_loc h]; rfl
theorem look_app {T : Store} {mo : MO} (h : S[m]? = some mo) : (S ++ T)[m]? = some mo := by
  rw [List.getElem?_append_left (List.getElem?_eq_some_iff.mp h).1]; exact h
theorem look_new {mo : MO} : (S ++ [mo])[S.length]? = some mo := by simp
theorem stays_new {es : List D} (h : S[m]? = some (.lst ds)) : stays (.loc m) ds S = true := by unfold stays; dsimp only; rw [h]; exact D.beqL_self ds
theorem stays_tup {es : List D} : stays (.tup ds) es S = true := rfl
theorem stays_ro {es : List D} : stays (.ro ds) es S = true := rfl
theorem set_loc (h : S[m]? = some (.lst ds)) {k : Int} {v : D} {j : Nat} (hj : ixN ds.length k = some j) : setD (.loc m) (.int k) v S = some (S.set m (.lst (ds.set j v))) := by unfold setD; dsimp only; rw [h]; dsimp only; rw [hj]
end
section
variable {S : Store} {d : D} {ds : List D}
theorem sq_cases (h : seqOf S d = some ds) : d = .tup ds ∨ d = .ro ds ∨ ∃ m, d = .loc m ∧ S[m]? = some (.lst ds) := by
  cases d with
  | tup es => exact .inl (by rw [sq_tup] at h; rw [Option.some.inj h])
  | ro es => exact .inr (.inl (by rw [sq_ro] at h; rw [Option.some.inj h]))
  | loc m =>
    unfold seqOf at h
    dsimp only at h
    split at h
    · rename_i es e; exact .inr (.inr ⟨m, rfl, by rw [e, Option.some.inj h]⟩)
    · cases h
  | _ => cases h
theorem len_sq (h : seqOf S d = some ds) : biD .len [d] S = some (.int ds.length, S) := by
  rcases sq_cases h with rfl | rfl | ⟨m, rfl, e⟩
  · rfl
  · rfl
  · exact len_loc e
theorem ix_sq (h : seqOf S d = some ds) {k : Int} : ixD d (.int k) S = atI ds k := by
  rcases sq_cases h with rfl | rfl | ⟨m, rfl, e⟩
  · rfl
  · rfl
  · exact ix_loc e
theorem tuple_sq (h : seqOf S d = some ds) : biD .tuple [d] S = some (.tup ds, S) := by
  rcases sq_cases h with rfl | rfl | ⟨m, rfl, e⟩
  · rfl
  · rfl
  · exact tuple_loc e
theorem sq_app {T : Store} (h : seqOf S d = some ds) : seqOf (S ++ T) d = some ds := by
  rcases sq_cases h with rfl | rfl | ⟨m, rfl, e⟩
  · rfl
  · rfl
  · exact sq_loc (look_app e)
theorem stays_sq (h : seqOf S d = some ds) : stays d ds S = true := by
  rcases sq_cases h with rfl | rfl | ⟨m, rfl, e⟩
  · rfl
  · rfl
  · exact stays_new (es := ds) e
theorem ty_sq (h : seqOf S d = some ds) : tyD S d = some "tuple" ∨ tyD S d = some "list" := by
  rcases sq_cases h with rfl | rfl | ⟨m, rfl, e⟩
  · exact .inl rfl
  · exact .inr rfl
  · exact .inr (ty_loc e)
end
theorem at_0 {d : D} {r : List D} : atI (d :: r) 0 = some d := by
  simp [atI, ixN]
theorem at_1 {d e : D} {r : List D} : atI (d :: e :: r) 1 = some e := by
  have h : (1 : Int) < ↑r.length + 1 + 1 := by omega
  simp [atI, ixN, h]
theorem at_nat {ds : List D} {i : Nat} {d : D} (h : ds[i]? = some d) : atI ds (i : Nat) = some d := by
  have hi : i < ds.length := (List.getElem?_eq_some_iff.mp h).1
  have h2 : (i : Int) < ds.length := by omega
  simp [atI, ixN, h2, h]
theorem orc_at {defs : List Def} {k n : Nat} {as : List D} {S : Store} {d : Def} (h : defs[n]? = some d) : orc defs (k + 1) n as S = runDef (orc defs k) d as S := by
  show (match defs[n]? with | some d => runDef (orc defs k) d as S | none => none) = _
  rw [h]
section
variable {S T U V : Store} {n : Nat} {ds : List D} {i : Int} {b : Bool}
theorem gc_si : gc S (.int i) S = (.int i, S) := gc_self rfl
theorem gc_ai : gc S (.int i) (S ++ T) = (.int i, S) := gc_app rfl
theorem gc_aai : gc S (.int i) (S ++ T ++ U) = (.int i, S) := by rw [List.append_assoc]; exact gc_app rfl
theorem gc_aaai : gc S (.int i) (S ++ T ++ U ++ V) = (.int i, S) := by rw [List.append_assoc, List.append_assoc]; exact gc_app rfl
theorem gc_sb : gc S (.bl b) S = (.bl b, S) := gc_self rfl
theorem gc_ab : gc S (.bl b) (S ++ T) = (.bl b, S) := gc_app rfl
theorem gc_aab : gc S (.bl b) (S ++ T ++ U) = (.bl b, S) := by rw [List.append_assoc]; exact gc_app rfl
theorem gc_aaab : gc S (.bl b) (S ++ T ++ U ++ V) = (.bl b, S) := by rw [List.append_assoc, List.append_assoc]; exact gc_app rfl
theorem gc_sn : gc S (.non) S = (.non, S) := gc_self rfl
theorem gc_an : gc S (.non) (S ++ T) = (.non, S) := gc_app rfl
theorem gc_aan : gc S (.non) (S ++ T ++ U) = (.non, S) := by rw [List.append_assoc]; exact gc_app rfl
theorem gc_aaan : gc S (.non) (S ++ T ++ U ++ V) = (.non, S) := by rw [List.append_assoc, List.append_assoc]; exact gc_app rfl
end

theorem gc_tupa {S T : Store} {ds : List D} (h : D.pureL ds = true) : gc S (.tup ds) (S ++ T) = (.tup ds, S) := gc_app h
theorem gc_tupaa {S T U : Store} {ds : List D} (h : D.pureL ds = true) : gc S (.tup ds) (S ++ T ++ U) = (.tup ds, S) := by rw [List.append_assoc]; exact gc_app h
theorem gc_newl {S : Store} {ds : List D} (h : D.pureL ds = true) : gc S (.loc S.length) (S ++ [.lst ds]) = (.loc S.length, S ++ [.lst ds]) := gc_new h
theorem wipe_nil {σ : StD} : wipeD σ [] = σ := rfl
theorem wipe_cons {σ : StD} {v : Nat} {vs : List Nat} : wipeD σ (v :: vs) = (wipeD σ vs).set v none := rfl
/-! ### loops by an invariant -/
def stepOk (I : StD → Store → Prop) (Post : Option (Fl × Store) → Prop) : Option (Fl × Store) → Prop
  | some (.next σ, S) => I σ S
  | some (.cnt σ, S) => I σ S
  | some (.brk σ, S) => Post (some (.next σ, S))
  | some (.ret d, S) => Post (some (.ret d, S))
  | none => False
theorem forD_gen {ok : Store → Bool} {g : D → StD → Store → Option (StD × Store)} {b : StD → Store → Option (Fl × Store)} (I : List D → StD → Store → Prop) (Post : Option (Fl × Store) → Prop)
    (hend : ∀ σ S, I [] σ S → ok S = true ∧ Post (some (.next σ, S))) (hs : ∀ x r σ S, I (x :: r) σ S → ok S = true ∧ stepOk (I r) Post (bnd (g x σ S) b)) :
    ∀ (items : List D) (σ : StD) (S : Store), I items σ S → Post (forD ok g b items σ S)
  | [], σ, S, h => by
    obtain ⟨h1, h2⟩ := hend σ S h
    rw [forD, if_pos h1]; exact h2
  | x :: r, σ, S, h => by
    obtain ⟨h1, h2⟩ := hs x r σ S h
    rw [forD, if_pos h1]
    cases e : g x σ S with
    | none => rw [e] at h2; exact h2.elim
    | some p =>
      obtain ⟨σ1, S1⟩ := p
      rw [e, bnd_some] at h2
      dsimp only
      cases e2 : b σ1 S1 with
      | none => rw [e2] at h2; exact h2.elim
      | some q =>
        obtain ⟨f, S2⟩ := q
        rw [e2] at h2
        cases f with
        | next σ2 => exact forD_gen I Post hend hs r σ2 S2 h2
        | cnt σ2 => exact forD_gen I Post hend hs r σ2 S2 h2
        | brk σ2 => exact h2
        | ret d => exact h2
theorem for_X {ok : Store → Bool} {g : D → StD → Store → Option (StD × Store)} {b : StD → Store → Option (Fl × Store)} {items : List D} {σ : StD} {S : Store} {X : Option (Fl × Store)} (hX : forD ok g b items σ S = X) (I : List D → StD → Store → Prop) (Post : Option (Fl × Store) → Prop)
    (h0 : I items σ S) (hend : ∀ σ S, I [] σ S → ok S = true ∧ Post (some (.next σ, S))) (hs : ∀ x r σ S, I (x :: r) σ S → ok S = true ∧ stepOk (I r) Post (bnd (g x σ S) b)) : Post X :=
  hX ▸ forD_gen I Post hend hs items σ S h0
def stepL (I : List D → Store → Prop) (acc : List D) : Option (Option D × Store) → Prop
  | some (some y, S) => I (acc ++ [y]) S
  | some (none, S) => I acc S
  | none => False
theorem lcD_gen {ok : Store → Bool} {g : D → Store → Option (StD × Store)} {c : StD → Store → Option (Bool × Store)} {e : StD → Store → Option (D × Store)} (I : List D → List D → Store → Prop) (Post : Option (List D × Store) → Prop)
    (hend : ∀ acc S, I [] acc S → ok S = true ∧ Post (some (acc, S)))
    (hs : ∀ x r acc S, I (x :: r) acc S → ok S = true ∧ acc.length < sizeLine ∧ stepL (I r) acc (bnd (g x S) fun σ S1 => bnd (c σ S1) (iteD (fun S2 => bnd (e σ S2) fun y S3 => some (some y, S3)) (fun S2 => some (none, S2))))) :
    ∀ (items acc : List D) (S : Store), I items acc S → Post (lcD ok g c e items acc S)
  | [], acc, S, h => by
    obtain ⟨h1, h2⟩ := hend acc S h
    rw [lcD, if_pos h1]; exact h2
  | x :: r, acc, S, h => by
    obtain ⟨h1, h3, h2⟩ := hs x r acc S h
    rw [lcD, if_pos h1]
    cases eg : g x S with
    | none => rw [eg] at h2; exact h2.elim
    | some p =>
      obtain ⟨σ1, S1⟩ := p
      rw [eg, bnd_some] at h2
      dsimp only
      cases ec : c σ1 S1 with
      | none => rw [ec] at h2; exact h2.elim
      | some q =>
        obtain ⟨t, S2⟩ := q
        rw [ec, bnd_some] at h2
        cases t with
        | false => exact lcD_gen I Post hend hs r acc S2 h2
        | true =>
          dsimp only
          rw [ite_t] at h2
          cases ee : e σ1 S2 with
          | none => rw [ee] at h2; exact h2.elim
          | some z =>
            obtain ⟨y, S3⟩ := z
            rw [ee, bnd_some] at h2
            dsimp only
            rw [if_pos h3]
            exact lcD_gen I Post hend hs r (acc ++ [y]) S3 h2
theorem lc_X {ok : Store → Bool} {g : D → Store → Option (StD × Store)} {c : StD → Store → Option (Bool × Store)} {e : StD → Store → Option (D × Store)} {items acc : List D} {S : Store} {X : Option (List D × Store)} (hX : lcD ok g c e items acc S = X) (I : List D → List D → Store → Prop) (Post : Option (List D × Store) → Prop)
    (h0 : I items acc S) (hend : ∀ acc S, I [] acc S → ok S = true ∧ Post (some (acc, S)))
    (hs : ∀ x r acc S, I (x :: r) acc S → ok S = true ∧ acc.length < sizeLine ∧ stepL (I r) acc (bnd (g x S) fun σ S1 => bnd (c σ S1) (iteD (fun S2 => bnd (e σ S2) fun y S3 => some (some y, S3)) (fun S2 => some (none, S2))))) : Post X :=
  hX ▸ lcD_gen I Post hend hs items acc S h0

/-! ### equality of data -/
theorem mapO_map {α β γ : Type} {f : α → β} {g : α → γ} {F : β → Option γ} : ∀ (xs : List α), (∀ x ∈ xs, F (f x) = some (g x)) → mapO F (xs.map f) = some (xs.map g)
  | [], _ => rfl
  | x :: r, h => by
    rw [List.map_cons, mapO, h x (List.mem_cons_self ..)]
    dsimp only
    rw [mapO_map r fun y hy => h y (List.mem_cons_of_mem _ hy)]; rfl
theorem mapO_all {α β : Type} {F : α → Option β} {P : β → Prop} (h : ∀ a b, F a = some b → P b) : ∀ {xs : List α} {ys : List β}, mapO F xs = some ys → ∀ y ∈ ys, P y
  | [], ys, e => by
    have : ys = [] := (Option.some.inj e).symm
    subst this; intro y hy; cases hy
  | x :: r, ys, e => by
    rw [mapO] at e
    split at e
    · rename_i b hb
      split at e
      · rename_i bs hbs
        have := Option.some.inj e
        subst this
        intro y hy
        rcases List.mem_cons.mp hy with rfl | hy
        · exact h x _ hb
        · exact mapO_all h hbs y hy
      · cases e
    · cases e
theorem eqvAll_of : ∀ (ps : List PyData), (∀ p ∈ ps, PyData.eqv p p = true) → PyData.eqvAll ps ps = true
  | [], _ => rfl
  | p :: r, h => by
    rw [PyData.eqvAll, h p (List.mem_cons_self ..), eqvAll_of r fun q hq => h q (List.mem_cons_of_mem _ hq)]; rfl
theorem toPy_refl {S : Store} : ∀ (n : Nat) (d : D) (p : PyData), toPy S n d = some p → PyData.eqv p p = true
  | n, .non, p, h => by
    cases n <;> (simp only [toPy] at h; cases h; rfl)
  | n, .bl b, p, h => by
    cases n <;> (simp only [toPy] at h; cases h; simp [PyData.eqv])
  | n, .int i, p, h => by
    cases n <;> (simp only [toPy] at h; cases h; simp [PyData.eqv])
  | n, .str x, p, h => by
    cases n <;> (simp only [toPy] at h; split at h <;> cases h; simp [PyData.eqv])
  | 0, .tup ds, p, h => by simp [toPy] at h
  | 0, .ro ds, p, h => by simp [toPy] at h
  | 0, .loc m, p, h => by simp [toPy] at h
  | n + 1, .tup ds, p, h => by
    rw [toPy] at h
    obtain ⟨ps, h1, h2⟩ := Option.map_eq_some_iff.mp h
    subst h2
    rw [PyData.eqv]
    exact eqvAll_of ps (mapO_all (fun a b e => toPy_refl n a b e) h1)
  | n + 1, .ro ds, p, h => by
    rw [toPy] at h
    obtain ⟨ps, h1, h2⟩ := Option.map_eq_some_iff.mp h
    subst h2
    rw [PyData.eqv]
    exact eqvAll_of ps (mapO_all (fun a b e => toPy_refl n a b e) h1)
  | n + 1, .loc m, p, h => by
    rw [toPy] at h
    split at h
    · obtain ⟨ps, h1, h2⟩ := Option.map_eq_some_iff.mp h
      subst h2
      rw [PyData.eqv]
      exact eqvAll_of ps (mapO_all (fun a b e => toPy_refl n a b e) h1)
    · cases h
theorem eqD_same {S : Store} {d e : D} {p : PyData} (h1 : toPy S 60 d = some p) (h2 : toPy S 60 e = some p) : eqD S d e = some true := by
  unfold eqD; rw [h1, h2]
  dsimp only
  rw [toPy_refl 60 d p h1]
theorem toPy_loc {S : Store} {n m : Nat} {ds : List D} {ps : List PyData} (h : S[m]? = some (.lst ds)) (hp : mapO (toPy S n) ds = some ps) : toPy S (n + 1) (.loc m) = some (.list ps) := by
  rw [toPy, h]
  dsimp only
  rw [hp]; rfl
theorem toPy_tup {S : Store} {n : Nat} {ds : List D} {ps : List PyData} (hp : mapO (toPy S n) ds = some ps) : toPy S (n + 1) (.tup ds) = some (.tuple ps) := by
  rw [toPy, hp]; rfl
theorem toPy_int {S : Store} {n : Nat} {i : Int} : toPy S n (.int i) = some (.int i) := by cases n <;> rfl
theorem toPy_non {S : Store} {n : Nat} : toPy S n .non = some .none := by cases n <;> rfl
theorem toPy_bl {S : Store} {n : Nat} {b : Bool} : toPy S n (.bl b) = some (.bool b) := by cases n <;> rfl
theorem eqD_loc2 {S : Store} {a b : Nat} {ds : List D} {ps : List PyData} (ha : S[a]? = some (.lst ds)) (hb : S[b]? = some (.lst ds)) (hp : mapO (toPy S 59) ds = some ps) : eqD S (.loc a) (.loc b) = some true :=
  eqD_same (toPy_loc (n := 59) ha hp) (toPy_loc (n := 59) hb hp)
theorem mapO_len {α β : Type} {F : α → Option β} : ∀ {xs : List α} {ys : List β}, mapO F xs = some ys → xs.length = ys.length
  | [], ys, e => by
    have : ys = [] := (Option.some.inj e).symm
    subst this; rfl
  | x :: r, ys, e => by
    rw [mapO] at e
    split at e
    · split at e
      · rename_i bs hbs
        have := Option.some.inj e
        subst this
        simp [mapO_len hbs]
      · cases e
    · cases e
theorem eqD_empty {S : Store} {a b : Nat} {ds : List D} {ps : List PyData} (ha : S[a]? = some (.lst ds)) (hb : S[b]? = some (.lst [])) (hp : mapO (toPy S 59) ds = some ps) : eqD S (.loc a) (.loc b) = some ds.isEmpty := by
  unfold eqD
  rw [toPy_loc (n := 59) ha hp, toPy_loc (n := 59) hb (ps := []) rfl]
  dsimp only
  have := mapO_len hp
  cases ps <;> cases ds <;> first | rfl | (simp at this)
theorem ne_of {S : Store} {d e : D} {b : Bool} (h : eqD S d e = some b) : cmpD .NotEq d e S = some (!b) := by
  show Option.map _ (eqD S d e) = _
  rw [h]; rfl
theorem eq_of {S : Store} {d e : D} {b : Bool} (h : eqD S d e = some b) : cmpD .Eq d e S = some b := h
/-! ### ranges -/
def rangeI (lo : Int) : Nat → List Int
  | 0 => []
  | n + 1 => lo :: rangeI (lo + 1) n
theorem rangeD_eq : ∀ (n : Nat) (lo : Int), rangeD lo n = (rangeI lo n).map D.int
  | 0, _ => rfl
  | n + 1, lo => by rw [rangeD, rangeI, List.map_cons, rangeD_eq n]
theorem rangeI_len : ∀ (n : Nat) (lo : Int), (rangeI lo n).length = n
  | 0, _ => rfl
  | n + 1, lo => by rw [rangeI, List.length_cons, rangeI_len n]
theorem rangeI_ge : ∀ (n : Nat) (lo : Int), ∀ i ∈ rangeI lo n, lo ≤ i
  | 0, _, i, h => by cases h
  | n + 1, lo, i, h => by
    rcases List.mem_cons.mp h with rfl | h
    · exact Int.le_refl _
    · have := rangeI_ge n (lo + 1) i h; omega
theorem rng_small {lo hi : Int} (h1 : -1000000 ≤ lo) (h2 : lo ≤ 1000000) (h3 : -1000000 ≤ hi) (h4 : hi ≤ 1000000) : rngD lo hi = some ⟨(rangeI lo (hi - lo).toNat).map D.int, fun _ => true⟩ := by
  unfold rngD
  rw [if_pos ⟨by omega, by omega, by omega, by omega⟩, rangeD_eq]
/-! ### slices -/
theorem cut_from {α : Type} {xs : List α} {n : Nat} (h : n ≤ xs.length) : cut xs (some (n : Int)) none = xs.drop n := by
  unfold cut
  rw [HT.sIx_nat, HT.sIx_none, Nat.min_eq_left h]
  exact List.take_of_length_le (by rw [List.length_drop]; exact Nat.le_refl _)
theorem cut_upto {α : Type} {xs : List α} {n : Nat} : cut xs none (some (n : Int)) = xs.take n := by
  unfold cut
  rw [HT.sIx_nat, HT.sIx_none, List.drop_zero, Nat.sub_zero]
  rcases Nat.le_total n xs.length with h | h
  · rw [Nat.min_eq_left h]
  · rw [Nat.min_eq_right h, List.take_length, List.take_of_length_le h]
theorem sz_0 : (0 ≤ sizeLine) = True := eq_true (by decide)
theorem sz_1 : (1 ≤ sizeLine) = True := eq_true (by decide)
theorem sz_2 : (2 ≤ sizeLine) = True := eq_true (by decide)
theorem sz_3 : (3 ≤ sizeLine) = True := eq_true (by decide)
theorem sz_4 : (4 ≤ sizeLine) = True := eq_true (by decide)
theorem sz_5 : (5 ≤ sizeLine) = True := eq_true (by decide)
theorem sz_6 : (6 ≤ sizeLine) = True := eq_true (by decide)
theorem sz_7 : (7 ≤ sizeLine) = True := eq_true (by decide)
theorem sz_8 : (8 ≤ sizeLine) = True := eq_true (by decide)
theorem sz_9 : (9 ≤ sizeLine) = True := eq_true (by decide)
theorem sz_10 : (10 ≤ sizeLine) = True := eq_true (by decide)
end Mi

end

section
/-! Mi13: rows of pairs (towers) in the store. -/
namespace Mi
open PySem PySem.Spec
open L2 (atI ixN)
abbrev Tws := List (Int × Int)
/-- towers in the store: rows of pairs -/
def TwL (S : Store) : List D → Tws → Prop
  | [], [] => True
  | d :: ds, p :: tw => seqOf S d = some [.int p.1, .int p.2] ∧ TwL S ds tw
  | _, _ => False
def Fine : Tws → Prop
  | [] => True
  | p :: r => 1 ≤ p.2 ∧ (∀ q ∈ r, p.1 < q.1) ∧ Fine r
def prD (p : Int × Int) : D := .tup [.int p.1, .int p.2]
/-- what is a row of towers, as a tuple or a list, of tuples or lists -/
structure IsTw (S : Store) (v : D) (tw : Tws) : Prop where
  ex : ∃ ds, seqOf S v = some ds ∧ TwL S ds tw
  fine : Fine tw
  len : tw.length ≤ 1000
theorem TwL.app {S T : Store} : ∀ {ds : List D} {tw : Tws}, TwL S ds tw → TwL (S ++ T) ds tw
  | [], [], _ => trivial
  | _ :: _, _ :: _, ⟨h, r⟩ => ⟨sq_app h, TwL.app r⟩
theorem IsTw.app {S T : Store} {v : D} {tw : Tws} (h : IsTw S v tw) : IsTw (S ++ T) v tw := by
  obtain ⟨⟨ds, h1, h2⟩, h3, h4⟩ := h
  exact ⟨⟨ds, sq_app h1, h2.app⟩, h3, h4⟩
theorem TwL.len {S : Store} : ∀ {ds : List D} {tw : Tws}, TwL S ds tw → ds.length = tw.length
  | [], [], _ => rfl
  | _ :: _, _ :: _, ⟨_, r⟩ => congrArg (· + 1) (TwL.len r)
theorem TwL.prs {S : Store} : ∀ (tw : Tws), TwL S (tw.map prD) tw
  | [] => trivial
  | p :: r => ⟨rfl, TwL.prs r⟩
theorem IsTw.tup {S : Store} {tw : Tws} (h : Fine tw) (hl : tw.length ≤ 1000) : IsTw S (.tup (tw.map prD)) tw := ⟨⟨_, rfl, TwL.prs tw⟩, h, hl⟩
theorem prs_pure (tw : Tws) : D.pureL (tw.map prD) = true := pureL_map tw fun _ _ => rfl
theorem lcD_tw {ok : Store → Bool} {g : D → Store → Option (StD × Store)} {c : StD → Store → Option (Bool × Store)} {e : StD → Store → Option (D × Store)} {S : Store} (p : Int × Int → Bool) (f : Int × Int → D) (hok : ok S = true) :
    ∀ {ds : List D} {tw : Tws} (acc : List D), TwL S ds tw → (∀ d q, q ∈ tw → seqOf S d = some [.int q.1, .int q.2] → ∃ σ, g d S = some (σ, S) ∧ c σ S = some (p q, S) ∧ (p q = true → e σ S = some (f q, S))) → acc.length + tw.length ≤ sizeLine →
      lcD ok g c e ds acc S = some (acc ++ (tw.filter p).map f, S)
  | [], [], acc, _, _, _ => by simp [lcD, hok]
  | d :: ds, q :: tw, acc, ⟨h1, h2⟩, h, hl => by
    obtain ⟨σ, g1, g2, g3⟩ := h d q (List.mem_cons_self ..) h1
    have hr := fun acc hl => lcD_tw (e := e) p f hok acc h2 (fun d y hy => h d y (List.mem_cons_of_mem _ hy)) hl
    simp only [List.length_cons] at hl
    rw [lcD, if_pos hok, g1]
    dsimp only
    rw [g2]
    cases hp : p q with
    | true =>
      dsimp only
      rw [g3 hp]
      dsimp only
      rw [if_pos (by omega), hr _ (by simp; omega), List.filter_cons, hp]
      simp
    | false =>
      dsimp only
      rw [hr _ (by omega), List.filter_cons, hp]
      simp
theorem lcD_tw0 {ok : Store → Bool} {g : D → Store → Option (StD × Store)} {c : StD → Store → Option (Bool × Store)} {e : StD → Store → Option (D × Store)} {S : Store} (f : Int × Int → D) (hok : ok S = true)
    {ds : List D} {tw : Tws} (h : TwL S ds tw) (hs : ∀ d q, q ∈ tw → seqOf S d = some [.int q.1, .int q.2] → ∃ σ, g d S = some (σ, S) ∧ c σ S = some (true, S) ∧ e σ S = some (f q, S)) (hl : tw.length ≤ sizeLine) :
      lcD ok g c e ds [] S = some (tw.map f, S) := by
  have := lcD_tw (e := e) (fun _ => true) f hok [] h (fun d q h1 h2 => let ⟨σ, a, b, c⟩ := hs d q h1 h2; ⟨σ, a, b, fun _ => c⟩) (by simpa using hl)
  rw [this, List.filter_eq_self.mpr (fun _ _ => rfl)]; rfl
theorem small {n : Nat} (h : n ≤ 1000) : n ≤ sizeLine := Nat.le_trans h (by decide)

def hiT : Tws → Int
  | [] => 0
  | p :: r => greatest p.2 (r.map (·.2))
theorem intsOf_map {α : Type} (f : α → Int) : ∀ (xs : List α), intsOf (xs.map fun x => D.int (f x)) = some (xs.map f)
  | [] => rfl
  | x :: r => by rw [List.map_cons, intsOf, intsOf_map f r]; rfl
theorem maxD_tw {S : Store} {m : Nat} {tw : Tws} (h : S[m]? = some (.lst (tw.map fun q => D.int q.2))) : maxD true (.loc m) (.int 0) S = some (.int (hiT tw)) := by
  unfold maxD
  rw [sq_loc h]
  dsimp only
  rw [intsOf_map]
  cases tw <;> rfl
def kD : Option Int → D
  | none => .non
  | some i => .int i
theorem kD_n : kD none = .non := rfl
theorem kD_s {i : Int} : kD (some i) = .int i := rfl
def keysAt (tw : Tws) (l : Int) : List Int := (tw.filter fun p => decide (l ≤ p.2)).map (·.1)
/-- a link: where from, the level, where to -/
def linkD (tw : Tws) (from_ : Option Int) (l : Int) : D := .tup [kD from_, .int l, kD (keysAt tw l).head?]
def beyond (key : Option Int) (l : Int) (p : Int × Int) : Bool := decide (l ≤ p.2) && (match key with | none => true | some k => decide (k < p.1))
def nextK (tw : Tws) (key : Option Int) (l : Int) : Option Int := ((tw.filter (beyond key l)).map (·.1)).head?
theorem ints_py {S : Store} {n : Nat} (xs : List Int) : mapO (toPy S n) (xs.map D.int) = some (xs.map PyData.int) := mapO_map xs fun _ _ => toPy_int
theorem ints_pure (xs : List Int) : D.pureL (xs.map D.int) = true := pureL_map xs fun _ _ => rfl
@[simp] theorem pure_kD (o : Option Int) : D.pure (kD o) = true := by cases o <;> rfl

theorem head_at {xs : List Int} (h : xs.isEmpty = false) : atI (xs.map D.int) 0 = some (kD xs.head?) := by
  cases xs with
  | nil => cases h
  | cons i r => rw [List.map_cons, at_0]; rfl
theorem head_none {xs : List Int} (h : xs.isEmpty = true) : kD xs.head? = .non := by
  cases xs with
  | nil => rfl
  | cons i r => cases h
theorem isEmpty_map {α β : Type} {f : α → β} (xs : List α) : (xs.map f).isEmpty = xs.isEmpty := by cases xs <;> rfl
theorem beyond_map (tw : Tws) (key : Option Int) (l : Int) : (tw.filter (beyond key l)).map (fun q => D.int q.1) = ((tw.filter (beyond key l)).map (·.1)).map D.int := by rw [List.map_map]; rfl
theorem keysAt_map (tw : Tws) (l : Int) : (tw.filter fun q => decide (l ≤ q.2)).map (fun q => D.int q.1) = (keysAt tw l).map D.int := by rw [keysAt, List.map_map]; rfl
end Mi

end

section
/-! Mi14: the store by its end. -/
namespace Mi
open PySem PySem.Spec
open L2 (atI ixN)
def lk (S : Store) (m : Nat) : Option MO := S[m]?
section
variable {S L L1 L2 : Store} {m j : Nat} {v w mo : MO}
theorem lk_lt (h : lk S m = some mo) : m < S.length := (List.getElem?_eq_some_iff.mp h).1
theorem lk_app : lk (S ++ L) (S.length + j) = lk L j := by
  unfold lk; rw [List.getElem?_append_right (by omega)]; congr 1; omega
theorem lk_app0 : lk (S ++ L) S.length = lk L 0 := lk_app (j := 0)
theorem lk_sapp : lk (S.set m v ++ L) (S.length + j) = lk L j := by
  have := lk_app (S := S.set m v) (L := L) (j := j)
  rwa [List.length_set] at this
theorem lk_sapp0 : lk (S.set m v ++ L) S.length = lk L 0 := lk_sapp (j := 0)
theorem lk_z : lk (v :: L) 0 = some v := rfl
theorem lk_s : lk (v :: L) (j + 1) = lk L j := rfl
theorem lk_old (h : lk S m = some mo) : lk (S ++ L) m = some mo := by
  have := lk_lt h
  unfold lk at h ⊢
  rw [List.getElem?_append_left this]; exact h
theorem lk_set (h : lk S m = some mo) : lk (S.set m v) m = some v := by
  have := lk_lt h
  unfold lk; rw [List.getElem?_set_self this]
theorem lk_seta (h : lk S m = some mo) : lk (S.set m v ++ L) m = some v := lk_old (lk_set h)
theorem lk_other (h : lk S j = some mo) (hn : m ≠ j) : lk (S.set m v) j = some mo := by
  unfold lk at h ⊢; rw [List.getElem?_set_ne hn]; exact h
theorem lk_othera (h : lk S j = some mo) (hn : m ≠ j) : lk (S.set m v ++ L) j = some mo := lk_old (lk_other h hn)
theorem st_app : (S ++ L).set (S.length + j) v = S ++ L.set j v := by
  rw [List.set_append_right _ _ (by omega)]; congr 2; omega
theorem st_app0 : (S ++ L).set S.length v = S ++ L.set 0 v := st_app (j := 0)
theorem st_sapp : (S.set m w ++ L).set (S.length + j) v = S.set m w ++ L.set j v := by
  have := st_app (S := S.set m w) (L := L) (j := j) (v := v)
  rwa [List.length_set] at this
theorem st_sapp0 : (S.set m w ++ L).set S.length v = S.set m w ++ L.set 0 v := st_sapp (j := 0)
theorem st_old (h : lk S m = some mo) : (S ++ L).set m v = S.set m v ++ L := List.set_append_left _ _ (lk_lt h)
theorem st_olds (h : lk S m = some mo) : (S.set m w ++ L).set m v = S.set m v ++ L := by
  rw [List.set_append_left _ _ (by rw [List.length_set]; exact lk_lt h), List.set_set]
theorem len_set : (S.set m v).length = S.length := List.length_set
theorem set_set : (S.set m v).set m w = S.set m w := List.set_set ..
end
section
variable {S : Store} {m n : Nat}
theorem sq_lk : seqOf S (.loc m) = match lk S m with | some (.lst ds) => some ds | _ => none := rfl
theorem ix_lk {k : Int} : ixD (.loc m) (.int k) S = match lk S m with | some (.lst ds) => atI ds k | some (.dic kvs) => getG kvs (.inl k) | _ => none := rfl
theorem sl_lk {lo hi : Option Int} : slD (.loc m) lo hi S = match lk S m with | some (.lst ds) => some (.loc S.length, S ++ [.lst (cut ds lo hi)]) | _ => none := rfl
theorem len_lk : biD .len [.loc m] S = match lk S m with | some (.lst ds) => some (.int ds.length, S) | some (.dic kvs) => some (.int kvs.length, S) | _ => none := rfl
theorem tuple_lk : biD .tuple [.loc m] S = match lk S m with | some (.lst ds) => some (.tup ds, S) | _ => none := by
  show (seqOf S (.loc m)).map _ = _
  rw [sq_lk]
  cases lk S m with
  | none => rfl
  | some mo => cases mo <;> rfl
theorem list_lk : biD .list [.loc m] S = match lk S m with | some (.lst ds) => some (.loc S.length, S ++ [.lst ds]) | _ => none := by
  show (seqOf S (.loc m)).map _ = _
  rw [sq_lk]
  cases lk S m with
  | none => rfl
  | some mo => cases mo <;> rfl
theorem list_tup {ds : List D} : biD .list [.tup ds] S = some (.loc S.length, S ++ [.lst ds]) := rfl
theorem ty_lk : tyD S (.loc m) = match lk S m with | some (.lst _) => some "list" | some (.dic _) => some "dict" | some (.dit _) => some "dict" | none => none := rfl
theorem stays_lk {ds : List D} : stays (.loc m) ds S = match lk S m with | some (.lst es) => D.beqL es ds | _ => false := rfl
theorem set_lk {k : Int} {v : D} : setD (.loc m) (.int k) v S = match lk S m with
    | some (.lst ds) => (match ixN ds.length k with
      | some j => some (S.set m (.lst (ds.set j v)))
      | none => none)
    | some (.dic kvs) => if kvs.length < sizeLine then some (S.set m (.dic (putG kvs (.inl k) v))) else none
    | _ => none := rfl
theorem add_lk : opD .Add (.loc m) (.loc n) S = match lk S m, lk S n with
    | some (.lst x), some (.lst y) => if x.length + y.length ≤ sizeLine then some (.loc S.length, S ++ [.lst (x ++ y)]) else none
    | _, _ => none := rfl
theorem app_lk {x : D} : mtD .append (.loc n) [x] S = match lk S n with
    | some (.lst ds) => if ds.length < sizeLine then some (.non, S.set n (.lst (ds ++ [x]))) else none
    | _ => none := by
  unfold mtD lk
  dsimp only
  cases S[n]? with
  | none => rfl
  | some mo => cases mo <;> rfl
theorem ext_lk {p : Nat} : mtD .extend (.loc n) [.loc p] S = match lk S n, lk S p with
    | some (.lst ds), some (.lst es) => if ds.length + es.length ≤ sizeLine then some (.non, S.set n (.lst (ds ++ es))) else none
    | _, _ => none := by
  unfold mtD lk
  dsimp only
  cases S[n]? with
  | none => rfl
  | some mo => cases mo <;> first | rfl | (dsimp only; split <;> simp_all)
theorem clear_lk : mtD .clear (.loc n) [] S = match lk S n with
    | some (.lst ds) => some (.non, S.set n (.lst []))
    | _ => none := by
  unfold mtD lk
  dsimp only
  cases S[n]? with
  | none => rfl
  | some mo => cases mo <;> rfl
theorem recv_lk {mt : Mt} : recvD mt (.loc n) S = match lk S n with
    | some (.lst _) => mt != .get
    | some (.dic _) => mt == .get
    | _ => false := rfl
theorem get2_lk {k d : D} : mtD .get (.loc n) [k, d] S = match lk S n with
    | some (.dic kvs) => (keyOf k).map fun k => ((getG kvs k).getD d, S)
    | _ => none := by
  unfold mtD lk
  dsimp only
  cases S[n]? with
  | none => rfl
  | some mo => cases mo <;> rfl
theorem toPy_lk {n : Nat} : toPy S (n + 1) (.loc m) = match lk S m with
    | some (.lst ds) => (mapO (toPy S n) ds).map .list
    | _ => none := by
  rw [toPy]; rfl
theorem tr_lk : truthD S (.loc m) = match lk S m with
    | some (.lst ds) => some (!ds.isEmpty)
    | some (.dic kvs) => some (!kvs.isEmpty)
    | _ => none := rfl
end
/-! ### letting go, by ends -/
section
variable {S A B L L1 L2 : Store} {m : Nat} {d : D} {v w : MO}
theorem keepsOld_two : ∀ {A B : Store}, A.length = B.length → keepsOld A B = true → keepsOld L1 L2 = true → keepsOld (A ++ L1) (B ++ L2) = true
  | [], [], _, _, h => h
  | a :: r, b :: q, hl, h1, h2 => by
    have h3 : ((MO.beq a b || MO.pure b) && keepsOld r q) = true := h1
    show ((MO.beq a b || MO.pure b) && keepsOld (r ++ L1) (q ++ L2)) = true
    rw [Bool.and_eq_true] at h3 ⊢
    exact ⟨h3.1, keepsOld_two (by simpa using hl) h3.2 h2⟩
theorem gc_gen (hl : A.length = B.length) (hk : keepsOld A B = true) (hk2 : keepsOld L1 L2 = true) (hd : D.pure d = true) : gc (A ++ L1) d (B ++ L2) = (d, B ++ L2.take L1.length) := by
  rw [gc_pure (keepsOld_two hl hk hk2) hd, List.length_append, hl, List.take_length_add_append]
theorem kset (hv : MO.pure v = true) : keepsOld S (S.set m v) = true := keepsOld_set0 S m v hv
theorem ksets (hv : MO.pure w = true) : keepsOld (S.set m v) (S.set m w) = true := by
  have := kset (S := S.set m v) (m := m) hv
  rwa [List.set_set] at this
theorem gp_0 (hd : D.pure d = true) : gc S d S = (d, S) := gc_self hd
theorem gp_1 (hd : D.pure d = true) : gc S d (S ++ L) = (d, S) := gc_app hd
theorem gp_2 (hd : D.pure d = true) (hv : MO.pure v = true) : gc S d (S.set m v) = (d, S.set m v) := gc_set hv hd
theorem gp_3 (hd : D.pure d = true) (hv : MO.pure v = true) : gc S d (S.set m v ++ L) = (d, S.set m v) := gc_setapp hv hd
theorem gp_4 (hd : D.pure d = true) (hk : keepsOld L1 L2 = true) : gc (S ++ L1) d (S ++ L2) = (d, S ++ L2.take L1.length) := gc_gen rfl (keepsOld_self S) hk hd
theorem gp_5 (hd : D.pure d = true) (hv : MO.pure v = true) (hk : keepsOld L1 L2 = true) : gc (S ++ L1) d (S.set m v ++ L2) = (d, S.set m v ++ L2.take L1.length) := gc_gen len_set.symm (kset hv) hk hd
theorem gp_6 (hd : D.pure d = true) (hv : MO.pure w = true) : gc (S.set m v) d (S.set m w) = (d, S.set m w) := by
  have := gc_set (S := S.set m v) (n := m) hv hd
  rwa [List.set_set] at this
theorem gp_7 (hd : D.pure d = true) (hv : MO.pure w = true) : gc (S.set m v) d (S.set m w ++ L) = (d, S.set m w) := by
  have := gc_setapp (S := S.set m v) (n := m) (T := L) hv hd
  rwa [List.set_set] at this
theorem gp_8 (hd : D.pure d = true) (hv : MO.pure w = true) (hk : keepsOld L1 L2 = true) : gc (S.set m v ++ L1) d (S.set m w ++ L2) = (d, S.set m w ++ L2.take L1.length) := gc_gen (by rw [len_set, len_set]) (ksets hv) hk hd
theorem ko_n : keepsOld [] L = true := by unfold keepsOld; rfl
theorem ko_s : keepsOld (v :: L1) (v :: L2) = keepsOld L1 L2 := by
  show ((MO.beq v v || MO.pure v) && keepsOld L1 L2) = _
  rw [MO.beq_self]; rfl
theorem ko_p (h : MO.pure w = true) : keepsOld (v :: L1) (w :: L2) = keepsOld L1 L2 := by
  show ((MO.beq v w || MO.pure w) && keepsOld L1 L2) = _
  rw [h, Bool.or_true]; rfl
/-- a fresh pure list -/
theorem gl_gen {j : Nat} {mo : MO} (hl : A.length = B.length) (hk : keepsOld A B = true) (hk2 : keepsOld L1 L2 = true) (hj : L1.length ≤ j) (hm : lk L2 j = some mo) (hp : MO.pure mo = true) :
    gc (A ++ L1) (.loc (A.length + j)) (B ++ L2) = (.loc (A.length + L1.length), B ++ (L2.take L1.length ++ [mo])) := by
  unfold gc
  rw [if_pos (keepsOld_two hl hk hk2), if_neg (by simp [D.pure])]
  dsimp only
  have e : (B ++ L2)[A.length + j]? = some mo := by
    have := lk_app (S := B) (L := L2) (j := j)
    rw [hm] at this
    rw [hl]; exact this
  rw [if_neg (by rw [List.length_append]; omega), e]
  dsimp only
  rw [if_pos hp, List.length_append, hl, List.take_length_add_append, List.append_assoc]
theorem gl_0 {mo : MO} (hp : MO.pure mo = true) : gc S (.loc S.length) (S ++ mo :: L) = (.loc S.length, S ++ [mo]) := by
  have := gl_gen (A := S) (B := S) (L1 := []) (L2 := mo :: L) (j := 0) rfl (keepsOld_self S) rfl (Nat.le_refl _) rfl hp
  simpa using this
theorem gl_j {mo : MO} {j : Nat} (hm : lk L j = some mo) (hp : MO.pure mo = true) : gc S (.loc (S.length + j)) (S ++ L) = (.loc S.length, S ++ [mo]) := by
  have := gl_gen (A := S) (B := S) (L1 := []) (L2 := L) (j := j) rfl (keepsOld_self S) rfl (Nat.zero_le _) hm hp
  simpa using this
theorem gl_s0 {mo : MO} (hv : MO.pure v = true) (hp : MO.pure mo = true) : gc S (.loc S.length) (S.set m v ++ mo :: L) = (.loc S.length, S.set m v ++ [mo]) := by
  have := gl_gen (A := S) (B := S.set m v) (L1 := []) (L2 := mo :: L) (j := 0) len_set.symm (kset hv) rfl (Nat.le_refl _) rfl hp
  simpa using this
theorem gl_1 {j : Nat} {mo : MO} (hk2 : keepsOld L1 L2 = true) (hj : L1.length ≤ j) (hm : lk L2 j = some mo) (hp : MO.pure mo = true) :
    gc (S ++ L1) (.loc (S.length + j)) (S ++ L2) = (.loc (S.length + L1.length), S ++ (L2.take L1.length ++ [mo])) := gl_gen rfl (keepsOld_self S) hk2 hj hm hp
theorem gl_s1 {j : Nat} {mo : MO} (hv : MO.pure v = true) (hk2 : keepsOld L1 L2 = true) (hj : L1.length ≤ j) (hm : lk L2 j = some mo) (hp : MO.pure mo = true) :
    gc (S ++ L1) (.loc (S.length + j)) (S.set m v ++ L2) = (.loc (S.length + L1.length), S.set m v ++ (L2.take L1.length ++ [mo])) := gl_gen len_set.symm (kset hv) hk2 hj hm hp
end
/-! ### arithmetic -/
section
variable {i j : Int} {S : Store}
theorem mod_int (h : 0 < j) : opD .Mod (.int i) (.int j) S = some (.int (i % j), S) := if_pos h
theorem div_int (h : 0 < j) (h2 : j.natAbs.log2 < 9000) : opD .FloorDiv (.int i) (.int j) S = some (.int (i / j), S) := if_pos ⟨h, h2⟩
theorem mul_l (h : i.natAbs < 2 ^ 64) : opD .Mult (.int i) (.int j) S = some (.int (i * j), S) := if_pos (.inl h)
theorem mul_r (h : j.natAbs < 2 ^ 64) : opD .Mult (.int i) (.int j) S = some (.int (i * j), S) := if_pos (.inr (.inl h))
theorem pow_int {n : Nat} (h : n ≤ 1000000) (h2 : i.natAbs < 2 ^ 64) : opD .Pow (.int i) (.int n) S = some (.int (i ^ n), S) := by
  have : opD .Pow (.int i) (.int n) S = some (.int (i ^ (n : Int).toNat), S) := if_pos ⟨by omega, by omega, h2⟩
  rw [this, Int.toNat_natCast]
theorem log_small {n : Nat} (h : n < 2 ^ 8999) : n.log2 < 9000 := by
  rcases Nat.eq_zero_or_pos n with rfl | hp
  · decide
  · have := (Nat.log2_lt (by omega)).mpr (Nat.lt_of_lt_of_le h (Nat.pow_le_pow_right (by omega) (by omega : 8999 ≤ 9000)))
    exact this
end
theorem at_2 {d e f : D} {r : List D} : atI (d :: e :: f :: r) 2 = some f := by
  have h : (2 : Int) < ↑r.length + 1 + 1 + 1 := by omega
  simp [atI, ixN, h]
theorem at_3 {d e f g : D} {r : List D} : atI (d :: e :: f :: g :: r) 3 = some g := by
  have h : (3 : Int) < ↑r.length + 1 + 1 + 1 + 1 := by omega
  simp [atI, ixN, h]
theorem at_in {ds : List D} {i : Int} (h0 : 0 ≤ i) (h1 : i < ds.length) : ∃ d, ds[i.toNat]? = some d ∧ atI ds i = some d := by
  have hl : i.toNat < ds.length := by omega
  refine ⟨ds[i.toNat], List.getElem?_eq_getElem hl, ?_⟩
  have := at_nat (List.getElem?_eq_getElem hl)
  rwa [Int.toNat_of_nonneg h0] at this
end Mi
namespace Mi
open PySem
theorem sz_lt : (0 < sizeLine) = True := eq_true (by decide)
theorem natAbs_01 (b : Bool) : (if b = true then (1 : Int) else 0).natAbs < 2 ^ 64 := by cases b <;> decide
theorem natAbs_lt {i : Int} {n : Nat} (h0 : 0 ≤ i) (h : i < n) (hn : n ≤ 2 ^ 64) : i.natAbs < 2 ^ 64 := by omega
end Mi
namespace Mi
/-! not by rfl: for side conditions -/
theorem nr {α : Type} {a b : α} (h : a = b) : a = b := by cases h; exact (Eq.refl a)
theorem pr_int (i : Int) : D.pure (.int i) = true := nr rfl
theorem pr_bl (b : Bool) : D.pure (.bl b) = true := nr rfl
theorem pr_non : D.pure .non = true := nr rfl
theorem pr_str (x : PySem.Str) : D.pure (.str x) = true := nr rfl
theorem pr_tup (ds : List D) : D.pure (.tup ds) = D.pureL ds := nr rfl
theorem pr_ro (ds : List D) : D.pure (.ro ds) = D.pureL ds := nr rfl
theorem pr_nil : D.pureL [] = true := nr rfl
theorem pr_cons (d : D) (r : List D) : D.pureL (d :: r) = (D.pure d && D.pureL r) := nr rfl
theorem pr_lst (ds : List D) : MO.pure (.lst ds) = D.pureL ds := nr rfl
theorem pr_ite {p : Prop} [Decidable p] {d e : D} : D.pure (if p then d else e) = if p then D.pure d else D.pure e := by split <;> rfl
theorem pr_ints (xs : List Int) : D.pureL (xs.map D.int) = true := ints_pure xs
theorem pr_prs (tw : Tws) : D.pureL (tw.map prD) = true := prs_pure tw
theorem pr_app : ∀ (a b : List D), D.pureL (a ++ b) = (D.pureL a && D.pureL b)
  | [], b => nr rfl
  | d :: r, b => by rw [List.cons_append, pr_cons, pr_cons, pr_app r b, Bool.and_assoc]
theorem pr_kD (o : Option Int) : D.pure (kD o) = true := pure_kD o
end Mi
namespace Mi
theorem pureL_mem : ∀ {ds : List D} {d : D}, D.pureL ds = true → d ∈ ds → D.pure d = true
  | x :: r, d, h, hm => by
    rw [pr_cons, Bool.and_eq_true] at h
    rcases List.mem_cons.mp hm with rfl | hm
    · exact h.1
    · exact pureL_mem h.2 hm
end Mi
namespace Mi
theorem Fine.snoc : ∀ {tw : Tws} {p : Int × Int}, Fine tw → (∀ q ∈ tw, q.1 < p.1) → 1 ≤ p.2 → Fine (tw ++ [p])
  | [], p, _, _, h => ⟨h, (fun _ z => by cases z), trivial⟩
  | q :: r, p, ⟨h1, h2, h3⟩, h4, h => by
    refine ⟨h1, fun x hx => ?_, Fine.snoc h3 (fun y hy => h4 y (List.mem_cons_of_mem _ hy)) h⟩
    rcases List.mem_append.mp hx with hx | hx
    · exact h2 x hx
    · have : x = p := by simpa using hx
      rw [this]; exact h4 q (List.mem_cons_self ..)
theorem lt_size {n : Nat} (h : n ≤ 100000) : n < PySem.sizeLine := Nat.lt_of_le_of_lt h (by decide)
theorem le_size {n : Nat} (h : n ≤ 100000) : n ≤ PySem.sizeLine := Nat.le_of_lt (lt_size h)
end Mi
namespace Mi
theorem mt_1 : (Mt.append != Mt.get) = true := rfl
theorem mt_2 : (Mt.extend != Mt.get) = true := rfl
theorem mt_3 : (Mt.clear != Mt.get) = true := rfl
theorem mt_4 : (Mt.pop != Mt.get) = true := rfl
theorem mt_5 : (Mt.get == Mt.get) = true := rfl
end Mi

end

section
/-! Mi15: loops over typed rows. -/
namespace Mi
open PySem PySem.Spec
open L2 (atI ixN)
section
variable {α : Type} {ok : Store → Bool} {g : D → StD → Store → Option (StD × Store)} {b : StD → Store → Option (Fl × Store)} {σ : StD} {S : Store} {X : Option (Fl × Store)} {xs : List α} {inj : α → D}
theorem for_M (hX : forD ok g b (xs.map inj) σ S = X) (I : List α → StD → Store → Prop) (Post : Option (Fl × Store) → Prop)
    (h0 : I xs σ S) (hend : ∀ σ S, I [] σ S → ok S = true ∧ Post (some (.next σ, S))) (hs : ∀ x r σ S, I (x :: r) σ S → ok S = true ∧ stepOk (I r) Post (bnd (g (inj x) σ S) b)) : Post X := by
  refine for_X hX (fun its σ S => ∃ ys, its = ys.map inj ∧ I ys σ S) Post ⟨xs, rfl, h0⟩ ?_ ?_
  · rintro σ S ⟨ys, e, h⟩
    cases ys with
    | nil => exact hend σ S h
    | cons y r => cases e
  · rintro x r σ S ⟨ys, e, h⟩
    cases ys with
    | nil => cases e
    | cons y q =>
      rw [List.map_cons] at e
      injection e with e1 e2
      subst e1 e2
      obtain ⟨h1, h2⟩ := hs y q σ S h
      refine ⟨h1, ?_⟩
      cases hb : bnd (g (inj y) σ S) b with
      | none => rw [hb] at h2; exact h2
      | some p =>
        obtain ⟨f, T⟩ := p
        rw [hb] at h2
        cases f with
        | next τ => exact ⟨q, rfl, h2⟩
        | cnt τ => exact ⟨q, rfl, h2⟩
        | brk τ => exact h2
        | ret d => exact h2
theorem for_E {i : Int} (hX : forD ok g b (enumD i (xs.map inj)) σ S = X) (I : Nat → List α → StD → Store → Prop) (Post : Option (Fl × Store) → Prop)
    (h0 : I 0 xs σ S) (hend : ∀ n σ S, I n [] σ S → ok S = true ∧ Post (some (.next σ, S))) (hs : ∀ n x r σ S, I n (x :: r) σ S → ok S = true ∧ stepOk (I (n + 1) r) Post (bnd (g (.tup [.int (i + n), inj x]) σ S) b)) : Post X := by
  refine for_X hX (fun its σ S => ∃ (n : Nat) (ys : List α), its = enumD (i + n) (ys.map inj) ∧ I n ys σ S) Post ⟨0, xs, by simp, h0⟩ ?_ ?_
  · rintro σ S ⟨n, ys, e, h⟩
    cases ys with
    | nil => exact hend n σ S h
    | cons y r => cases e
  · rintro x r σ S ⟨n, ys, e, h⟩
    cases ys with
    | nil => cases e
    | cons y q =>
      rw [List.map_cons, enumD] at e
      injection e with e1 e2
      subst e1 e2
      obtain ⟨h1, h2⟩ := hs n y q σ S h
      refine ⟨h1, ?_⟩
      have en : i + (n : Int) + 1 = i + ((n + 1 : Nat) : Int) := by omega
      rw [en]
      cases hb : bnd (g (.tup [.int (i + n), inj y]) σ S) b with
      | none => rw [hb] at h2; exact h2
      | some p =>
        obtain ⟨f, T⟩ := p
        rw [hb] at h2
        cases f with
        | next τ => exact ⟨n + 1, q, rfl, h2⟩
        | cnt τ => exact ⟨n + 1, q, rfl, h2⟩
        | brk τ => exact h2
        | ret d => exact h2
/-- a loop that only folds -/
theorem for_fold {β : Type} (enc : β → StD) (st : β → Store) (f : β → α → β) {b0 : β} (hX : forD ok g b (xs.map inj) (enc b0) (st b0) = X) (J : List α → β → Prop) (h0 : J xs b0) (hok : ∀ r c, J r c → ok (st c) = true)
    (hs : ∀ x r c, J (x :: r) c → bnd (g (inj x) (enc c) (st c)) b = some (.next (enc (f c x)), st (f c x)) ∧ J r (f c x)) : X = some (.next (enc (xs.foldl f b0)), st (xs.foldl f b0)) := by
  subst hX
  induction xs generalizing b0 with
  | nil => rw [List.map_nil, forD, if_pos (hok _ _ h0)]; rfl
  | cons x r ih =>
    obtain ⟨h1, h2⟩ := hs x r b0 h0
    rw [List.map_cons, forD, if_pos (hok _ _ h0)]
    cases hg : g (inj x) (enc b0) (st b0) with
    | none => rw [hg] at h1; cases h1
    | some p =>
      obtain ⟨σ1, S1⟩ := p
      rw [hg, bnd_some] at h1
      dsimp only
      rw [h1]
      exact ih h2
end
section
variable {α : Type} {ok : Store → Bool} {g : D → Store → Option (StD × Store)} {c : StD → Store → Option (Bool × Store)} {e : StD → Store → Option (D × Store)} {S : Store} {X : Option (List D × Store)} {xs : List α} {inj : α → D} {acc : List D}
/-- one turn of a comprehension -/
def lcS (g : D → Store → Option (StD × Store)) (c : StD → Store → Option (Bool × Store)) (e : StD → Store → Option (D × Store)) (d : D) (S : Store) : Option (Option D × Store) :=
  bnd (g d S) fun σ S1 => bnd (c σ S1) (iteD (fun S2 => bnd (e σ S2) fun y S3 => some (some y, S3)) (fun S2 => some (none, S2)))
theorem lc_F (F : α → Option D) (hX : lcD ok g c e (xs.map inj) acc S = X) (hok : ok S = true) (hl : acc.length + xs.length ≤ sizeLine) (h : ∀ x ∈ xs, lcS g c e (inj x) S = some (F x, S)) : X = some (acc ++ xs.filterMap F, S) := by
  subst hX
  induction xs generalizing acc with
  | nil => simp [lcD, hok]
  | cons x r ih =>
    have h1 := h x (List.mem_cons_self ..)
    simp only [List.length_cons] at hl
    rw [List.map_cons, lcD, if_pos hok]
    unfold lcS at h1
    cases hg : g (inj x) S with
    | none => rw [hg] at h1; cases h1
    | some p =>
      obtain ⟨σ1, S1⟩ := p
      rw [hg, bnd_some] at h1
      dsimp only
      cases hc : c σ1 S1 with
      | none => rw [hc] at h1; cases h1
      | some q =>
        obtain ⟨t, S2⟩ := q
        rw [hc, bnd_some] at h1
        cases t with
        | false =>
          rw [ite_f] at h1
          injection h1 with h1
          injection h1 with h2 h3
          subst h3
          dsimp only
          rw [ih (by omega) fun y hy => h y (List.mem_cons_of_mem _ hy), List.filterMap_cons, ← h2]
        | true =>
          rw [ite_t] at h1
          dsimp only
          cases he : e σ1 S2 with
          | none => rw [he] at h1; cases h1
          | some z =>
            obtain ⟨y, S3⟩ := z
            rw [he, bnd_some] at h1
            injection h1 with h1
            injection h1 with h2 h3
            subst h3
            dsimp only
            rw [if_pos (by omega), ih (by simp; omega) fun y hy => h y (List.mem_cons_of_mem _ hy), List.filterMap_cons, ← h2]
            simp
theorem filterMap_pf {α β : Type} (p : α → Bool) (f : α → β) : ∀ xs : List α, xs.filterMap (fun x => if p x = true then some (f x) else none) = (xs.filter p).map f
  | [] => rfl
  | x :: r => by
    rw [List.filterMap_cons, List.filter_cons]
    cases hp : p x with
    | true => simp; exact filterMap_pf p f r
    | false => simp; exact filterMap_pf p f r
theorem lc_f (f : α → D) (hX : lcD ok g c e (xs.map inj) acc S = X) (hok : ok S = true) (hl : acc.length + xs.length ≤ sizeLine) (h : ∀ x ∈ xs, lcS g c e (inj x) S = some (some (f x), S)) : X = some (acc ++ xs.map f, S) := by
  rw [lc_F (fun x => some (f x)) hX hok hl h]
  congr 3
  rw [List.filterMap_eq_map']
theorem lc_pf (p : α → Bool) (f : α → D) (hX : lcD ok g c e (xs.map inj) acc S = X) (hok : ok S = true) (hl : acc.length + xs.length ≤ sizeLine) (h : ∀ x ∈ xs, lcS g c e (inj x) S = if p x = true then some (some (f x), S) else some (none, S)) : X = some (acc ++ (xs.filter p).map f, S) := by
  rw [lc_F (fun x => if p x = true then some (f x) else none) hX hok hl fun x hx => by rw [h x hx]; split <;> rfl]
  congr 3
  exact filterMap_pf p f xs
end
/-! open tests -/
theorem ite_b {α : Type} {k l : Store → Option (α × Store)} {b : Bool} {S : Store} : iteD k l b S = if b = true then k S else l S := by cases b <;> rfl
theorem bnd_if {α β : Type} {p : Prop} [Decidable p] {x y : Option (α × Store)} {f : α → Store → Option (β × Store)} : bnd (if p then x else y) f = if p then bnd x f else bnd y f := by split <;> rfl
theorem seqF_if {p : Prop} [Decidable p] {x y : Option (Fl × Store)} {k : StD → Store → Option (Fl × Store)} : seqF (if p then x else y) k = if p then seqF x k else seqF y k := by split <;> rfl
theorem out_if {p : Prop} [Decidable p] {S : Store} {x y : Option (Fl × Store)} : outD S (if p then x else y) = if p then outD S x else outD S y := by split <;> rfl
theorem bopD_b {o : BoolOp} {k : Store → Option (D × Store)} {b : Bool} {S : Store} : bopD o k (.bl b) S = if (match o with | .And => b | .Or => !b) = true then k S else some (.bl b, S) := by cases o <;> cases b <;> rfl
theorem bopB_and {k : Store → Option (Bool × Store)} {b : Bool} {S : Store} : bopB .And k b S = if b = true then k S else some (false, S) := by cases b <;> rfl
theorem bopB_or {k : Store → Option (Bool × Store)} {b : Bool} {S : Store} : bopB .Or k b S = if b = true then some (true, S) else k S := by cases b <;> rfl
theorem bopD_and {k : Store → Option (D × Store)} {b : Bool} {S : Store} : bopD .And k (.bl b) S = if b = true then k S else some (.bl false, S) := by cases b <;> rfl
theorem bopD_or {k : Store → Option (D × Store)} {b : Bool} {S : Store} : bopD .Or k (.bl b) S = if b = true then some (.bl true, S) else k S := by cases b <;> rfl
theorem if_same_bool {S : Store} {b : Bool} {x y : Bool} : (if b = true then some (x, S) else some (y, S)) = some (if b = true then x else y, S) := by cases b <;> rfl
theorem if_bf {b : Bool} : (if b = true then true else false) = b := by cases b <;> rfl
theorem if_bx {b x : Bool} : (if b = true then x else false) = (b && x) := by cases b <;> rfl
theorem if_xt {b x : Bool} : (if b = true then true else x) = (b || x) := by cases b <;> rfl
end Mi

end

section
/-! Mi16: towers: plain facts. -/
namespace Mi
open PySem PySem.Spec
open L2 (atI ixN Key)
def kvP (p : Int × Int) : Key × D := (.inl p.1, .int p.2)
def dicT (tw : Tws) : List (Key × D) := (tw.map kvP).foldl (fun acc p => putG acc p.1 p.2) []
theorem pairKV_prs : ∀ tw : Tws, mapO pairKV (tw.map prD) = some (tw.map kvP)
  | [] => rfl
  | p :: r => by rw [List.map_cons, mapO]; dsimp only [prD, pairKV, keyOf, Option.map]; rw [show mapO pairKV (r.map prD) = _ from pairKV_prs r]; rfl
theorem dict_prs {S : Store} {tw : Tws} : biD .dict [.tup (tw.map prD)] S = some (.loc S.length, S ++ [.dic (dicT tw)]) := by
  have e : biD .dict [.tup (tw.map prD)] S = (mapO pairKV (tw.map prD)).map (fun (kvs : List (Key × D)) => (D.loc S.length, S ++ [MO.dic (kvs.foldl (fun (acc : List (Key × D)) (p : Key × D) => putG acc p.1 p.2) [])])) := rfl
  rw [e, pairKV_prs]; rfl
theorem fold_put : ∀ (tw : Tws) (acc : List (Key × D)), Fine tw → (∀ q ∈ acc, ∀ p ∈ tw, q.1 ≠ .inl p.1) → (tw.map kvP).foldl (fun acc p => putG acc p.1 p.2) acc = acc ++ tw.map kvP
  | [], acc, _, _ => by simp
  | p :: r, acc, ⟨h1, h2, h3⟩, h => by
    have hn : (acc.any fun kv => decide (kv.1 = (Sum.inl p.1 : Key))) = false := by
      rw [List.any_eq_false]
      intro q hq
      simpa using h q hq p (List.mem_cons_self ..)
    have e : putG acc (Sum.inl p.1 : Key) (.int p.2) = acc ++ [kvP p] := by
      unfold putG; rw [hn]; rfl
    rw [List.map_cons, List.foldl_cons]
    show (r.map kvP).foldl _ (putG acc (kvP p).1 (kvP p).2) = _
    rw [show putG acc (kvP p).1 (kvP p).2 = _ from e, fold_put r _ h3 ?_]
    · simp
    · intro q hq x hx
      rcases List.mem_append.mp hq with hq | hq
      · exact h q hq x (List.mem_cons_of_mem _ hx)
      · have : q = kvP p := by simpa using hq
        rw [this]
        intro z
        have z2 : p.1 = x.1 := Sum.inl.inj z
        have := h2 x hx
        omega
theorem dicT_fine {tw : Tws} (h : Fine tw) : dicT tw = tw.map kvP := by
  unfold dicT
  rw [fold_put tw [] h (fun q hq => nomatch hq)]; rfl
def hOf (tw : Tws) (key : Int) : Int := ((tw.find? fun p => decide (p.1 = key)).map (·.2)).getD 0
theorem get_kvP (key : Int) : ∀ (tw : Tws), getG (tw.map kvP) (Sum.inl key) = (tw.find? fun p => decide (p.1 = key)).map fun p => D.int p.2
  | [] => rfl
  | p :: r => by
    have ih := get_kvP key r
    unfold getG at ih ⊢
    rw [List.map_cons, List.find?_cons, List.find?_cons]
    have e : decide ((kvP p).1 = (Sum.inl key : Key)) = decide (p.1 = key) := by
      simp [kvP]
    rw [e]
    cases decide (p.1 = key) with
    | true => rfl
    | false => exact ih
theorem get_dicT {tw : Tws} (h : Fine tw) {key : Int} : (getG (dicT tw) (Sum.inl key)).getD (.int 0) = .int (hOf tw key) := by
  rw [dicT_fine h, get_kvP]
  unfold hOf
  cases tw.find? fun p => decide (p.1 = key) <;> rfl
theorem key_int {i : Int} : keyOf (.int i) = some (.inl i) := rfl
/-! all links -/
def linksR : Tws → List D
  | [] => []
  | p :: r => (rangeI 1 p.2.toNat).map (fun l => linkD r (some p.1) l) ++ linksR r
def linksT (tw : Tws) : List D := (rangeI 1 (hiT tw).toNat).map (fun l => linkD tw none l) ++ linksR tw
theorem linksR_len : ∀ {tw : Tws} {n : Nat}, (∀ p ∈ tw, p.2 ≤ n) → (linksR tw).length ≤ tw.length * n
  | [], n, _ => by simp [linksR]
  | p :: r, n, h => by
    rw [linksR, List.length_append, List.length_map, rangeI_len, List.length_cons, Nat.succ_mul]
    have := linksR_len (tw := r) (n := n) fun q hq => h q (List.mem_cons_of_mem _ hq)
    have h2 := h p (List.mem_cons_self ..)
    omega
theorem greatest_le {n : Int} : ∀ {r : List Int} {i : Int}, i ≤ n → (∀ j ∈ r, j ≤ n) → greatest i r ≤ n
  | [], i, h, _ => h
  | j :: r, i, h, h2 => by
    show List.foldl max (max i j) r ≤ n
    exact greatest_le (by have := h2 j (List.mem_cons_self ..); omega) fun x hx => h2 x (List.mem_cons_of_mem _ hx)
theorem le_greatest : ∀ {r : List Int} {i : Int}, i ≤ greatest i r ∧ ∀ j ∈ r, j ≤ greatest i r
  | [], i => ⟨Int.le_refl _, fun _ z => nomatch z⟩
  | j :: r, i => by
    have h : max i j ≤ greatest (max i j) r ∧ _ := le_greatest (r := r) (i := max i j)
    refine ⟨?_, fun x hx => ?_⟩
    · show i ≤ greatest (max i j) r
      have := h.1; omega
    · show x ≤ greatest (max i j) r
      rcases List.mem_cons.mp hx with rfl | hx
      · have := h.1; omega
      · exact h.2 x hx
theorem hiT_le {tw : Tws} {n : Int} (h0 : 0 ≤ n) (h : ∀ p ∈ tw, p.2 ≤ n) : hiT tw ≤ n := by
  cases tw with
  | nil => exact h0
  | cons p r =>
    refine greatest_le (h p (List.mem_cons_self ..)) fun j hj => ?_
    obtain ⟨q, hq, rfl⟩ := List.mem_map.mp hj
    exact h q (List.mem_cons_of_mem _ hq)
theorem le_hiT {tw : Tws} {p : Int × Int} (h : p ∈ tw) : p.2 ≤ hiT tw := by
  cases tw with
  | nil => cases h
  | cons q r =>
    rcases List.mem_cons.mp h with rfl | h
    · exact le_greatest.1
    · exact le_greatest.2 _ (List.mem_map.mpr ⟨p, h, rfl⟩)
theorem Fine.pos : ∀ {tw : Tws}, Fine tw → ∀ p ∈ tw, 1 ≤ p.2
  | q :: r, ⟨h1, h2, h3⟩, p, hp => by
    rcases List.mem_cons.mp hp with rfl | hp
    · exact h1
    · exact Fine.pos h3 p hp
theorem hiT_nn {tw : Tws} (h : Fine tw) : 0 ≤ hiT tw := by
  cases tw with
  | nil => exact Int.le_refl _
  | cons p r => have := le_hiT (tw := p :: r) (List.mem_cons_self ..); have := h.1; omega
theorem Fine.drop : ∀ {tw : Tws} (n : Nat), Fine tw → Fine (tw.drop n)
  | tw, 0, h => h
  | [], n + 1, h => trivial
  | p :: r, n + 1, h => Fine.drop n h.2.2
theorem Fine.app : ∀ {a b : Tws}, Fine (a ++ b) → Fine a ∧ Fine b ∧ ∀ p ∈ a, ∀ q ∈ b, p.1 < q.1
  | [], b, h => ⟨trivial, h, fun _ z => nomatch z⟩
  | p :: a, b, ⟨h1, h2, h3⟩ => by
    obtain ⟨i1, i2, i3⟩ := Fine.app h3
    refine ⟨⟨h1, fun q hq => h2 q (List.mem_append_left _ hq), i1⟩, i2, fun x hx q hq => ?_⟩
    rcases List.mem_cons.mp hx with rfl | hx
    · exact h2 q (List.mem_append_right _ hq)
    · exact i3 x hx q hq
/-- behind a key of the row: what follows it -/
theorem nextK_app {a r : Tws} {p : Int × Int} {l : Int} (h : Fine (a ++ p :: r)) : nextK (a ++ p :: r) (some p.1) l = (keysAt r l).head? := by
  obtain ⟨h1, ⟨h2, h3, h4⟩, h5⟩ := h.app
  unfold nextK keysAt
  have e1 : a.filter (beyond (some p.1) l) = [] := by
    rw [List.filter_eq_nil_iff]
    intro q hq
    have := h5 q hq p (List.mem_cons_self ..)
    simp [beyond]; omega
  have e2 : beyond (some p.1) l p = false := by simp [beyond]
  have e3 : r.filter (beyond (some p.1) l) = r.filter fun q => decide (l ≤ q.2) := by
    apply List.filter_congr
    intro q hq
    have := h3 q hq
    simp [beyond, this]
  rw [List.filter_append, e1, List.nil_append, List.filter_cons, e2, e3]
  simp
theorem nextK_none {tw : Tws} {l : Int} : nextK tw none l = (keysAt tw l).head? := by
  unfold nextK keysAt
  congr 3
  funext q
  simp [beyond]
theorem cut_prs {tw r : Tws} {p : Int × Int} {n : Nat} (h : tw.drop n = p :: r) : cut (tw.map prD) (some ((n : Int) + 1)) none = r.map prD := by
  have hl : n < tw.length := by
    rcases Nat.lt_or_ge n tw.length with h1 | h1
    · exact h1
    · rw [List.drop_eq_nil_of_le h1] at h; cases h
  have := cut_from (xs := tw.map prD) (n := n + 1) (by rw [List.length_map]; omega)
  rw [show ((n : Int) + 1) = ((n + 1 : Nat) : Int) by omega, this, ← List.map_drop]
  congr 1
  rw [← List.drop_drop, h]; rfl
theorem pr_linkD (tw : Tws) (o : Option Int) (l : Int) : D.pure (linkD tw o l) = true := by
  unfold linkD
  rw [pr_tup, pr_cons, pr_cons, pr_cons, pr_kD, pr_kD, pr_int, pr_nil]; rfl
theorem pr_links (tw : Tws) (o : Option Int) (ls : List Int) : D.pureL (ls.map fun l => linkD tw o l) = true := pureL_map ls fun _ _ => pr_linkD tw o _
theorem pr_linksR : ∀ tw : Tws, D.pureL (linksR tw) = true
  | [] => rfl
  | p :: r => by rw [linksR, pr_app, pr_links, pr_linksR r]; rfl
theorem pr_linksT (tw : Tws) : D.pureL (linksT tw) = true := by rw [linksT, pr_app, pr_links, pr_linksR]; rfl
end Mi
namespace Mi
open PySem
open L2 (Key)
theorem pr_dic (kvs : List (Key × D)) : MO.pure (.dic kvs) = D.pureL (kvs.map (·.2)) := nr rfl
theorem pr_dicT {tw : Tws} (h : Fine tw) : D.pureL ((dicT tw).map (·.2)) = true := by
  rw [dicT_fine h, List.map_map]; exact pureL_map tw fun _ _ => rfl
theorem linksT_len {tw : Tws} (hf : Fine tw) (hl : tw.length ≤ 1000) (hh : ∀ p ∈ tw, p.2 ≤ 1000) : (linksT tw).length ≤ 1001000 := by
  have h0 := hiT_nn hf
  have h1 := hiT_le (n := 1000) (by decide) hh
  have h2 := linksR_len (n := 1000) hh
  rw [linksT, List.length_append, List.length_map, rangeI_len]
  have : tw.length * 1000 ≤ 1000 * 1000 := Nat.mul_le_mul_right _ hl
  omega
end Mi
namespace Mi
theorem beyond_n {l : Int} {p : Int × Int} : beyond none l p = decide (l ≤ p.2) := by simp [beyond]
theorem beyond_s {q l : Int} {p : Int × Int} : beyond (some q) l p = (decide (l ≤ p.2) && decide (q < p.1)) := rfl
theorem nextK_cons {p : Int × Int} {r : Tws} {key : Option Int} {l : Int} : nextK (p :: r) key l = if beyond key l p = true then some p.1 else nextK r key l := by
  unfold nextK
  rw [List.filter_cons]
  split <;> rfl
end Mi

end

section
/-! Mi17: equality. -/
namespace Mi
open PySem PySem.Spec
open L2 (atI ixN Key)
def pyOk (S : Store) (ds : List D) : Bool := (mapO (toPy S 59) ds).isSome
def eqS (S : Store) (a b : List D) : Option Bool :=
  match mapO (toPy S 59) a, mapO (toPy S 59) b with
  | some p, some q => some (PyData.eqvAll p q)
  | _, _ => none
def eqL (S : Store) : Option MO → Option MO → Option Bool
  | some (.lst a), some (.lst b) => eqS S a b
  | _, _ => none
section
variable {S : Store} {a b : Nat} {ds es : List D}
theorem eqD_ll : eqD S (.loc a) (.loc b) = eqL S (lk S a) (lk S b) := by
  unfold eqD
  rw [toPy_lk (n := 59), toPy_lk (n := 59)]
  cases lk S a with
  | none => rfl
  | some x => cases x with
    | lst p =>
      cases lk S b with
      | none => dsimp only [eqL]; cases mapO (toPy S 59) p <;> rfl
      | some y => cases y with
        | lst q =>
          dsimp only [eqL, eqS]
          cases mapO (toPy S 59) p <;> cases mapO (toPy S 59) q <;> rfl
        | _ => dsimp only [eqL]; cases mapO (toPy S 59) p <;> rfl
    | _ => rfl
theorem eqD_tt : eqD S (.tup ds) (.tup es) = eqS S ds es := by
  unfold eqD eqS
  rw [toPy, toPy]
  cases mapO (toPy S 59) ds <;> cases mapO (toPy S 59) es <;> rfl
theorem eqL_ll : eqL S (some (.lst ds)) (some (.lst es)) = eqS S ds es := rfl
theorem eqv_all_refl {ps : List PyData} (h : PyData.eqv (.list ps) (.list ps) = true) : PyData.eqvAll ps ps = true := h
theorem eqS_same (h : pyOk S ds = true) : eqS S ds ds = some true := by
  unfold pyOk at h
  unfold eqS
  cases e : mapO (toPy S 59) ds with
  | none => rw [e] at h; cases h
  | some ps =>
    dsimp only
    congr 1
    exact eqvAll_of ps (mapO_all (fun a b e => toPy_refl 59 a b e) e)
theorem eqS_nil (h : pyOk S ds = true) : eqS S ds [] = some ds.isEmpty := by
  unfold pyOk at h
  unfold eqS
  cases e : mapO (toPy S 59) ds with
  | none => rw [e] at h; cases h
  | some ps =>
    have := mapO_len e
    have e2 : mapO (toPy S 59) ([] : List D) = some [] := rfl
    rw [e2]
    dsimp only
    cases ps <;> cases ds <;> first | rfl | (simp at this)
theorem eqvAll_ints : ∀ (xs ys : List Int), PyData.eqvAll (xs.map .int) (ys.map .int) = decide (xs = ys)
  | [], [] => rfl
  | [], y :: ys => rfl
  | x :: xs, [] => rfl
  | x :: xs, y :: ys => by
    rw [List.map_cons, List.map_cons, PyData.eqvAll, eqvAll_ints xs ys]
    have : PyData.eqv (.int x) (.int y) = decide (x = y) := by
      have h := eq_int (i := x) (j := y) (S := [])
      exact Option.some.inj h
    rw [this]
    by_cases h1 : x = y <;> by_cases h2 : xs = ys <;> simp [h1, h2]
theorem eqS_ints {xs ys : List Int} : eqS S (xs.map D.int) (ys.map D.int) = some (decide (xs = ys)) := by
  unfold eqS
  rw [ints_py, ints_py]
  dsimp only
  rw [eqvAll_ints]
end
theorem mapO_some_app {α β : Type} {F : α → Option β} : ∀ (a b : List α), (mapO F (a ++ b)).isSome = ((mapO F a).isSome && (mapO F b).isSome)
  | [], b => by simp [mapO]
  | x :: r, b => by
    rw [List.cons_append, mapO, mapO]
    have ih := mapO_some_app (F := F) r b
    cases F x with
    | none => rfl
    | some y =>
      dsimp only
      cases h1 : mapO F r <;> cases h2 : mapO F (r ++ b) <;> cases h3 : mapO F b <;> rw [h1, h2, h3] at ih <;> simp at ih ⊢
theorem py_app (S : Store) (a b : List D) : pyOk S (a ++ b) = (pyOk S a && pyOk S b) := mapO_some_app a b
theorem py_nil (S : Store) : pyOk S [] = true := nr rfl
theorem py_map {α : Type} {S : Store} {f : α → D} : ∀ {xs : List α}, (∀ x ∈ xs, (toPy S 59 (f x)).isSome = true) → pyOk S (xs.map f) = true
  | [], _ => rfl
  | x :: r, h => by
    have h1 := h x (List.mem_cons_self ..)
    have h2 := py_map (xs := r) fun y hy => h y (List.mem_cons_of_mem _ hy)
    unfold pyOk at h2 ⊢
    rw [List.map_cons, mapO]
    cases e1 : toPy S 59 (f x) with
    | none => rw [e1] at h1; cases h1
    | some p =>
      cases e2 : mapO (toPy S 59) (r.map f) with
      | none => rw [e2] at h2; cases h2
      | some q => rfl
theorem py_cons (S : Store) (d : D) (r : List D) : pyOk S (d :: r) = ((toPy S 59 d).isSome && pyOk S r) := by
  unfold pyOk
  rw [mapO]
  cases toPy S 59 d with
  | none => rfl
  | some p => cases mapO (toPy S 59) r <;> rfl
theorem py_ints (S : Store) (xs : List Int) : pyOk S (xs.map D.int) = true := py_map fun _ _ => by rw [toPy_int]; rfl
theorem py_int (S : Store) (n : Nat) (i : Int) : (toPy S n (.int i)).isSome = true := by rw [toPy_int]; rfl
theorem py_bl (S : Store) (n : Nat) (b : Bool) : (toPy S n (.bl b)).isSome = true := by rw [toPy_bl]; rfl
theorem py_non (S : Store) (n : Nat) : (toPy S n .non).isSome = true := by rw [toPy_non]; rfl
theorem py_kD (S : Store) (n : Nat) (o : Option Int) : (toPy S n (kD o)).isSome = true := by
  cases o
  · exact py_non S n
  · exact py_int S n _
/-- flat things -/
def flatD : D → Bool
  | .non => true | .bl _ => true | .int _ => true | _ => false
def flat2 : D → Bool
  | .tup ds => ds.all flatD
  | d => flatD d
theorem py_flat {S : Store} {n : Nat} {d : D} (h : flatD d = true) : (toPy S n d).isSome = true := by
  cases d with
  | non => exact py_non S n
  | bl b => exact py_bl S n b
  | int i => exact py_int S n i
  | _ => cases h
theorem mapO_isSome {α β : Type} {F : α → Option β} : ∀ {xs : List α}, (∀ x ∈ xs, (F x).isSome = true) → (mapO F xs).isSome = true
  | [], _ => rfl
  | x :: r, h => by
    have h1 := h x (List.mem_cons_self ..)
    have h2 := mapO_isSome (xs := r) fun y hy => h y (List.mem_cons_of_mem _ hy)
    rw [mapO]
    cases e1 : F x with
    | none => rw [e1] at h1; cases h1
    | some p =>
      cases e2 : mapO F r with
      | none => rw [e2] at h2; cases h2
      | some q => rfl
theorem py_flat2 {S : Store} {n : Nat} {d : D} (h : flat2 d = true) : (toPy S (n + 1) d).isSome = true := by
  cases d with
  | tup ds =>
    rw [toPy]
    have := mapO_isSome (F := toPy S n) (xs := ds) fun x hx => py_flat (List.all_eq_true.mp h x hx)
    cases e : mapO (toPy S n) ds with
    | none => rw [e] at this; cases this
    | some q => rfl
  | non => exact py_non S _
  | bl b => exact py_bl S _ b
  | int i => exact py_int S _ i
  | _ => cases h
theorem py_all2 {S : Store} {ds : List D} (h : ∀ d ∈ ds, flat2 d = true) : pyOk S ds = true := mapO_isSome fun x hx => py_flat2 (n := 58) (h x hx)
theorem flat_kD (o : Option Int) : flatD (kD o) = true := by cases o <;> rfl
theorem flat_linkD (tw : Tws) (o : Option Int) (l : Int) : flat2 (linkD tw o l) = true := by
  show ([kD o, D.int l, kD (keysAt tw l).head?].all flatD) = true
  rw [List.all_cons, List.all_cons, List.all_cons, flat_kD, flat_kD]; rfl
theorem flat_linksR : ∀ (tw : Tws), ∀ d ∈ linksR tw, flat2 d = true
  | [], d, h => by cases h
  | p :: r, d, h => by
    rw [linksR] at h
    rcases List.mem_append.mp h with h | h
    · obtain ⟨l, _, rfl⟩ := List.mem_map.mp h
      exact flat_linkD r _ l
    · exact flat_linksR r d h
theorem py_links (S : Store) (tw : Tws) : pyOk S (linksT tw) = true := by
  refine py_all2 fun d h => ?_
  rw [linksT] at h
  rcases List.mem_append.mp h with h | h
  · obtain ⟨l, _, rfl⟩ := List.mem_map.mp h
    exact flat_linkD tw _ l
  · exact flat_linksR tw d h
theorem py_prs (S : Store) (tw : Tws) : pyOk S (tw.map prD) = true := py_all2 fun d h => by
  obtain ⟨p, _, rfl⟩ := List.mem_map.mp h
  rfl
theorem eq_D {S : Store} {d e : D} : cmpD .Eq d e S = eqD S d e := rfl
theorem ne_D {S : Store} {d e : D} : cmpD .NotEq d e S = (eqD S d e).map (!·) := rfl
theorem eqD_ii {S : Store} {i j : Int} : eqD S (.int i) (.int j) = some (decide (i = j)) := eq_int (S := S)
theorem eqD_kk {S : Store} {o : Option Int} : eqD S (kD o) (kD o) = some true := by
  have h : ∃ p, toPy S 60 (kD o) = some p := by
    cases o with
    | none => exact ⟨_, toPy_non⟩
    | some i => exact ⟨_, toPy_int⟩
  obtain ⟨p, h⟩ := h
  exact eqD_same h h
end Mi
namespace Mi
theorem fm_none {α β : Type} : ∀ xs : List α, xs.filterMap (fun _ => (none : Option β)) = []
  | [] => rfl
  | _ :: r => by rw [List.filterMap_cons]; exact fm_none r
theorem kD_places (ps : List Int) : ps.map D.int ++ [D.non] = (ps.map some ++ [none]).map kD := by
  rw [List.map_append, List.map_map]; rfl
end Mi
namespace Mi
open PySem
def gcR (n : Nat) (B L1 L2 : Store) (j : Nat) : D × Store :=
  if keepsOld L1 L2 = true then
    (if j < L1.length then (.loc (n + j), B ++ L2.take L1.length)
    else match lk L2 j with
      | some mo => if MO.pure mo = true then (.loc (n + L1.length), B ++ (L2.take L1.length ++ [mo])) else (.loc (n + j), B ++ L2)
      | none => (.loc (n + j), B ++ L2))
  else (.loc (n + j), B ++ L2)
section
variable {S A B L1 L2 : Store} {m j : Nat} {v w : MO}
theorem keepsOld_eq : ∀ {A B : Store}, A.length = B.length → keepsOld (A ++ L1) (B ++ L2) = (keepsOld A B && keepsOld L1 L2)
  | [], [], _ => by simp [keepsOld]
  | a :: r, b :: q, hl => by
    show ((MO.beq a b || MO.pure b) && keepsOld (r ++ L1) (q ++ L2)) = (((MO.beq a b || MO.pure b) && keepsOld r q) && keepsOld L1 L2)
    rw [keepsOld_eq (by simpa using hl), Bool.and_assoc]
theorem gq_gen (hl : A.length = B.length) (hk : keepsOld A B = true) : gc (A ++ L1) (.loc (A.length + j)) (B ++ L2) = gcR A.length B L1 L2 j := by
  unfold gc gcR
  rw [keepsOld_eq hl, hk, Bool.true_and]
  by_cases h : keepsOld L1 L2 = true
  · rw [if_pos h, if_pos h, if_neg (by simp [D.pure])]
    dsimp only
    by_cases h2 : j < L1.length
    · rw [if_pos h2, if_pos (by rw [List.length_append]; omega), List.length_append, hl, List.take_length_add_append]
    · rw [if_neg h2, if_neg (by rw [List.length_append]; omega)]
      have e : (B ++ L2)[A.length + j]? = lk L2 j := by rw [hl]; exact lk_app
      rw [e]
      cases lk L2 j with
      | none => rfl
      | some mo =>
        dsimp only
        by_cases h3 : MO.pure mo = true
        · rw [if_pos h3, if_pos h3, List.length_append, hl, List.take_length_add_append, List.append_assoc]
        · rw [if_neg h3, if_neg h3]
  · rw [if_neg h, if_neg h]
theorem gq_1 : gc (S ++ L1) (.loc (S.length + j)) (S ++ L2) = gcR S.length S L1 L2 j := gq_gen rfl (keepsOld_self S)
theorem gq_2 : gc (S ++ L1) (.loc S.length) (S ++ L2) = gcR S.length S L1 L2 0 := gq_gen (j := 0) rfl (keepsOld_self S)
theorem gq_3 : gc S (.loc (S.length + j)) (S ++ L2) = gcR S.length S [] L2 j := by
  have := gq_1 (S := S) (L1 := []) (L2 := L2) (j := j)
  rwa [List.append_nil] at this
theorem gq_4 : gc S (.loc S.length) (S ++ L2) = gcR S.length S [] L2 0 := gq_3 (j := 0)
theorem gq_5 (hv : MO.pure v = true) : gc (S ++ L1) (.loc (S.length + j)) (S.set m v ++ L2) = gcR S.length (S.set m v) L1 L2 j := gq_gen len_set.symm (kset hv)
theorem gq_6 (hv : MO.pure v = true) : gc (S ++ L1) (.loc S.length) (S.set m v ++ L2) = gcR S.length (S.set m v) L1 L2 0 := gq_gen (j := 0) len_set.symm (kset hv)
theorem gq_7 (hv : MO.pure v = true) : gc S (.loc (S.length + j)) (S.set m v ++ L2) = gcR S.length (S.set m v) [] L2 j := by
  have := gq_5 (S := S) (L1 := []) (L2 := L2) (j := j) (m := m) hv
  rwa [List.append_nil] at this
theorem gq_8 (hv : MO.pure v = true) : gc S (.loc S.length) (S.set m v ++ L2) = gcR S.length (S.set m v) [] L2 0 := gq_7 (j := 0) hv
theorem gq_9 (hv : MO.pure w = true) : gc (S.set m v ++ L1) (.loc (S.length + j)) (S.set m w ++ L2) = gcR S.length (S.set m w) L1 L2 j := by
  have := gq_gen (A := S.set m v) (B := S.set m w) (L1 := L1) (L2 := L2) (j := j) (by rw [len_set, len_set]) (ksets hv)
  rwa [len_set] at this
theorem gq_10 (hv : MO.pure w = true) : gc (S.set m v ++ L1) (.loc S.length) (S.set m w ++ L2) = gcR S.length (S.set m w) L1 L2 0 := gq_9 (j := 0) hv
theorem gq_11 (hv : MO.pure w = true) : gc (S.set m v) (.loc (S.length + j)) (S.set m w ++ L2) = gcR S.length (S.set m w) [] L2 j := by
  have := gq_9 (S := S) (L1 := []) (L2 := L2) (j := j) (m := m) (v := v) hv
  rwa [List.append_nil] at this
theorem gq_12 (hv : MO.pure w = true) : gc (S.set m v) (.loc S.length) (S.set m w ++ L2) = gcR S.length (S.set m w) [] L2 0 := gq_11 (j := 0) hv
theorem gq_13 : gc (S.set m v ++ L1) (.loc (S.length + j)) (S.set m v ++ L2) = gcR S.length (S.set m v) L1 L2 j := by
  have := gq_gen (A := S.set m v) (B := S.set m v) (L1 := L1) (L2 := L2) (j := j) rfl (keepsOld_self _)
  rwa [len_set] at this
theorem gq_14 : gc (S.set m v ++ L1) (.loc S.length) (S.set m v ++ L2) = gcR S.length (S.set m v) L1 L2 0 := gq_13 (j := 0)
theorem gq_15 : gc (S.set m v) (.loc (S.length + j)) (S.set m v ++ L2) = gcR S.length (S.set m v) [] L2 j := by
  have := gq_13 (S := S) (L1 := []) (L2 := L2) (j := j) (m := m) (v := v)
  rwa [List.append_nil] at this
theorem gq_16 : gc (S.set m v) (.loc S.length) (S.set m v ++ L2) = gcR S.length (S.set m v) [] L2 0 := gq_15 (j := 0)
end
end Mi

end

section
/-! Mi18: rows of lists, more about stores. -/
namespace Mi
open PySem PySem.Spec
open L2 (atI ixN Key)
theorem set_lk_self {S : Store} {m : Nat} {v : MO} (h : lk S m = some v) : S.set m v = S := by
  unfold lk at h
  apply List.ext_getElem?
  intro i
  by_cases hi : m = i
  · subst hi
    rw [List.getElem?_set_self (List.getElem?_eq_some_iff.mp h).1, h]
  · rw [List.getElem?_set_ne hi]
section
variable {α : Type} {ok : Store → Bool} {g : D → Store → Option (StD × Store)} {c : StD → Store → Option (Bool × Store)} {e : StD → Store → Option (D × Store)} {X : Option (List D × Store)} {inj : α → D}
theorem lc_alloc (mk : α → MO) : ∀ {xs : List α} {acc : List D} {S : Store}, (∀ V, ok (S ++ V) = true) → acc.length + xs.length ≤ sizeLine → (∀ x ∈ xs, ∀ U V, U = S ++ V → lcS g c e (inj x) U = some (some (.loc U.length), U ++ [mk x])) →
    lcD ok g c e (xs.map inj) acc S = some (acc ++ (List.range' S.length xs.length).map D.loc, S ++ xs.map mk)
  | [], acc, S, hok, _, _ => by
    have := hok []
    rw [List.append_nil] at this
    simp [lcD, this]
  | x :: r, acc, S, hok, hl, h => by
    have h1 := h x (List.mem_cons_self ..) S [] (by rw [List.append_nil])
    have h0 := hok []
    rw [List.append_nil] at h0
    simp only [List.length_cons] at hl
    rw [List.map_cons, lcD, if_pos h0]
    unfold lcS at h1
    cases hg : g (inj x) S with
    | none => rw [hg] at h1; cases h1
    | some p =>
      obtain ⟨σ1, S1⟩ := p
      rw [hg, bnd_some] at h1
      dsimp only
      cases hc : c σ1 S1 with
      | none => rw [hc] at h1; cases h1
      | some q =>
        obtain ⟨t, S2⟩ := q
        rw [hc, bnd_some] at h1
        cases t with
        | false =>
          rw [ite_f] at h1
          injection h1 with h1
          injection h1 with h2 h3
          cases h2
        | true =>
          rw [ite_t] at h1
          dsimp only
          cases he : e σ1 S2 with
          | none => rw [he] at h1; cases h1
          | some z =>
            obtain ⟨y, S3⟩ := z
            rw [he, bnd_some] at h1
            injection h1 with h1
            injection h1 with h2 h3
            injection h2 with h2
            subst h3 h2
            dsimp only
            rw [if_pos (by omega), lc_alloc mk (xs := r) (fun V => by rw [List.append_assoc]; exact hok _) (by simp; omega) fun y hy U V hU => h y (List.mem_cons_of_mem _ hy) U ([mk x] ++ V) (by rw [hU]; simp)]
            simp [List.range'_succ]
end
def lpM (p : Int × Int) : MO := .lst [.int p.1, .int p.2]
theorem TwL_locs : ∀ {tw : Tws} {S W : Store}, TwL (S ++ tw.map lpM ++ W) ((List.range' S.length tw.length).map D.loc) tw
  | [], _, _ => trivial
  | p :: r, S, W => by
    have ih := TwL_locs (tw := r) (S := S ++ [lpM p]) (W := W)
    rw [List.length_cons, List.range'_succ, List.map_cons]
    refine ⟨?_, ?_⟩
    · rw [sq_lk]
      have : lk (S ++ lpM p :: List.map lpM r ++ W) S.length = some (lpM p) := by
        rw [List.append_assoc, lk_app0]; rfl
      rw [this]; rfl
    · have e : S ++ lpM p :: List.map lpM r ++ W = S ++ [lpM p] ++ List.map lpM r ++ W := by simp
      rw [e]
      have e2 : (S ++ [lpM p]).length = S.length + 1 := by simp
      rw [e2] at ih
      exact ih
theorem py_TwL {S : Store} {n : Nat} : ∀ {tw : Tws} {ds : List D}, TwL S ds tw → (∀ d ∈ ds, ∃ m, d = .loc m) → mapO (toPy S (n + 1)) ds = some (tw.map fun p => .list [.int p.1, .int p.2])
  | [], [], _, _ => rfl
  | p :: r, d :: ds, ⟨h1, h2⟩, h => by
    obtain ⟨m, rfl⟩ := h d (List.mem_cons_self ..)
    have ih := py_TwL (n := n) h2 fun d hd => h d (List.mem_cons_of_mem _ hd)
    rw [mapO]
    have e : toPy S (n + 1) (.loc m) = some (.list [.int p.1, .int p.2]) := by
      rw [toPy_lk]
      rw [sq_lk] at h1
      cases hm : lk S m with
      | none => rw [hm] at h1; cases h1
      | some mo =>
        rw [hm] at h1
        cases mo with
        | lst es =>
          injection h1 with h1
          subst h1
          dsimp only
          rw [mapO, toPy_int]
          dsimp only
          rw [mapO, toPy_int]; rfl
        | _ => cases h1
    rw [e]
    dsimp only
    rw [ih]; rfl
theorem eqS_TwL {S : Store} {tw : Tws} {ds es : List D} (h1 : TwL S ds tw) (h2 : TwL S es tw) (l1 : ∀ d ∈ ds, ∃ m, d = .loc m) (l2 : ∀ d ∈ es, ∃ m, d = .loc m) : eqS S ds es = some true := by
  unfold eqS
  rw [py_TwL (n := 58) h1 l1, py_TwL (n := 58) h2 l2]
  dsimp only
  congr 1
  refine eqvAll_of _ fun p hp => ?_
  obtain ⟨q, _, rfl⟩ := List.mem_map.mp hp
  simp [PyData.eqv, PyData.eqvAll]
/-- the greatest height, from 0 on -/
theorem foldl_max_eq : ∀ (l : List Int) (i : Int), l.foldl (fun a b => if b > a then b else a) i = greatest i l
  | [], i => rfl
  | j :: r, i => by
    rw [List.foldl_cons, foldl_max_eq r]
    show _ = greatest (max i j) r
    congr 1
    split <;> omega
theorem hiT_fold {tw : Tws} (h : Fine tw) : (tw.foldl (fun a p => if p.2 > a then p.2 else a) 0 : Int) = hiT tw := by
  have e : (tw.foldl (fun a p => if p.2 > a then p.2 else a) 0 : Int) = (tw.map (·.2)).foldl (fun a b => if b > a then b else a) 0 := by
    rw [List.foldl_map]
  rw [e, foldl_max_eq]
  cases tw with
  | nil => rfl
  | cons p r =>
    have := h.1
    show greatest (max 0 p.2) (r.map (·.2)) = greatest p.2 (r.map (·.2))
    congr 1
    omega
end Mi
namespace Mi
theorem py_mapi {α : Type} (S : Store) (f : α → Int) (xs : List α) : pyOk S (xs.map fun q => D.int (f q)) = true := py_map fun _ _ => py_int S 59 _
theorem pr_mapi {α : Type} (f : α → Int) (xs : List α) : D.pureL (xs.map fun q => D.int (f q)) = true := pureL_map xs fun _ _ => rfl
end Mi
namespace Mi
theorem keysAt_one {tw : Tws} (h : Fine tw) : keysAt tw 1 = tw.map (·.1) := by
  unfold keysAt
  rw [List.filter_eq_self.mpr]
  intro p hp
  simpa using h.pos p hp
end Mi

end

section
set_option maxHeartbeats 0
namespace K01
open PySem PySem.Spec PyProof.Rows L2 Mi
def top (i : Nat) : Stmt := PySem.Challenge.pw_tosslanes_k01_towers_and_lanes.main.body.getD i (.Pass ⟨0, 0, 0, 0⟩)
def b_is_integer : Ts := (.cons (.ret (.bop .And (.cons (.isi (.var 0 "value" ⟨21, 22, 21, 27⟩) .int ⟨21, 11, 21, 21⟩ ⟨21, 29, 21, 32⟩ ⟨21, 11, 21, 33⟩) (.cons (.not (.isi (.var 0 "value" ⟨21, 54, 21, 59⟩) .bool ⟨21, 43, 21, 53⟩ ⟨21, 61, 21, 65⟩ ⟨21, 43, 21, 66⟩) ⟨21, 39, 21, 66⟩) .nil)) ⟨21, 11, 21, 67⟩) ⟨21, 4, 21, 67⟩) .nil)
def b_is_row : Ts := (.cons (.ret (.isl (.var 0 "value" ⟨23, 22, 23, 27⟩) 0 ⟨23, 11, 23, 21⟩ ⟨23, 30, 23, 34⟩ ⟨23, 36, 23, 41⟩ ⟨23, 29, 23, 42⟩ ⟨23, 11, 23, 43⟩) ⟨23, 4, 23, 43⟩) .nil)
def b_is_pair : Ts := (.cons (.ret (.bop .And (.cons (.call "is_row" 1 (.cons (.var 0 "value" ⟨25, 18, 25, 23⟩) .nil) ⟨25, 11, 25, 17⟩ ⟨25, 11, 25, 24⟩) (.cons (.cmp .Eq (.bi .len (.cons (.var 0 "value" ⟨25, 33, 25, 38⟩) .nil) ⟨25, 29, 25, 32⟩ ⟨25, 29, 25, 39⟩) (.con (.int 2) 0 ⟨25, 43, 25, 44⟩) ⟨25, 29, 25, 44⟩) (.cons (.call "is_integer" 0 (.cons (.ix (.var 0 "value" ⟨25, 60, 25, 65⟩) (.con (.int 0) 0 ⟨25, 66, 25, 67⟩) ⟨25, 60, 25, 68⟩) .nil) ⟨25, 49, 25, 59⟩ ⟨25, 49, 25, 69⟩) (.cons (.call "is_integer" 0 (.cons (.ix (.var 0 "value" ⟨25, 85, 25, 90⟩) (.con (.int 1) 0 ⟨25, 91, 25, 92⟩) ⟨25, 85, 25, 93⟩) .nil) ⟨25, 74, 25, 84⟩ ⟨25, 74, 25, 94⟩) (.cons (.cmp .GtE (.ix (.var 0 "value" ⟨25, 100, 25, 105⟩) (.con (.int 1) 0 ⟨25, 106, 25, 107⟩) ⟨25, 100, 25, 108⟩) (.con (.int 1) 0 ⟨25, 112, 25, 113⟩) ⟨25, 100, 25, 113⟩) .nil))))) ⟨25, 11, 25, 114⟩) ⟨25, 4, 25, 114⟩) .nil)
def b_wrong_at : Ts := (.cons (.iff (.not (.call "is_row" 1 (.cons (.var 0 "thing" ⟨27, 18, 27, 23⟩) .nil) ⟨27, 11, 27, 17⟩ ⟨27, 11, 27, 24⟩) ⟨27, 7, 27, 24⟩) (.cons (.ret (.neg (.con (.int 1) 0 ⟨28, 16, 28, 17⟩) ⟨28, 15, 28, 17⟩) ⟨28, 8, 28, 17⟩) .nil) .nil ⟨27, 4, 28, 17⟩) (.cons (.fr (.tp (.cons (.nm 1 "index" ⟨29, 8, 29, 13⟩) (.cons (.nm 2 "one" ⟨29, 15, 29, 18⟩) .nil)) 0 ⟨29, 8, 29, 18⟩) (.enm (.var 0 "thing" ⟨29, 32, 29, 37⟩) ⟨29, 22, 29, 31⟩ ⟨29, 22, 29, 38⟩) (.cons (.iff (.bop .Or (.cons (.not (.call "is_pair" 2 (.cons (.var 2 "one" ⟨30, 23, 30, 26⟩) .nil) ⟨30, 15, 30, 22⟩ ⟨30, 15, 30, 27⟩) ⟨30, 11, 30, 27⟩) (.cons (.bop .And (.cons (.cmp .Gt (.var 1 "index" ⟨30, 32, 30, 37⟩) (.con (.int 0) 0 ⟨30, 40, 30, 41⟩) ⟨30, 32, 30, 41⟩) (.cons (.cmp .GtE (.ix (.ix (.var 0 "thing" ⟨30, 46, 30, 51⟩) (.op .Sub (.var 1 "index" ⟨30, 52, 30, 57⟩) (.con (.int 1) 0 ⟨30, 60, 30, 61⟩) ⟨30, 52, 30, 61⟩) ⟨30, 46, 30, 62⟩) (.con (.int 0) 0 ⟨30, 63, 30, 64⟩) ⟨30, 46, 30, 65⟩) (.ix (.var 2 "one" ⟨30, 69, 30, 72⟩) (.con (.int 0) 0 ⟨30, 73, 30, 74⟩) ⟨30, 69, 30, 75⟩) ⟨30, 46, 30, 75⟩) .nil)) ⟨30, 32, 30, 75⟩) .nil)) ⟨30, 11, 30, 76⟩) (.cons (.ret (.var 1 "index" ⟨31, 19, 31, 24⟩) ⟨31, 12, 31, 24⟩) .nil) .nil ⟨30, 8, 31, 24⟩) .nil) ⟨29, 4, 31, 24⟩) (.cons (.ret (.con .none 0 ⟨32, 11, 32, 15⟩) ⟨32, 4, 32, 15⟩) .nil)))
def b_checked : Ts := (.cons (.asg (.nm 1 "index" ⟨34, 4, 34, 9⟩) (.call "wrong_at" 3 (.cons (.var 0 "towers" ⟨34, 21, 34, 27⟩) .nil) ⟨34, 12, 34, 20⟩ ⟨34, 12, 34, 28⟩) ⟨34, 4, 34, 28⟩) (.cons (.iff (.cmp .IsNot (.var 1 "index" ⟨35, 7, 35, 12⟩) (.con .none 0 ⟨35, 20, 35, 24⟩) ⟨35, 7, 35, 24⟩) (.cons (.nev (.Raise (some (.Call (.Name "NoTowers" ⟨36, 14, 36, 22⟩) [(.Name "index" ⟨36, 23, 36, 28⟩)] [] ⟨36, 14, 36, 29⟩)) none ⟨36, 8, 36, 29⟩)) .nil) .nil ⟨35, 4, 36, 29⟩) (.cons (.ret (.bi .tuple (.cons (.lc (.tup (.cons (.var 2 "key" ⟨37, 19, 37, 22⟩) (.cons (.var 3 "height" ⟨37, 24, 37, 30⟩) .nil)) 0 ⟨37, 18, 37, 31⟩) (.tp (.cons (.nm 2 "key" ⟨37, 36, 37, 39⟩) (.cons (.nm 3 "height" ⟨37, 41, 37, 47⟩) .nil)) 0 ⟨37, 36, 37, 47⟩) (.ex (.var 0 "towers" ⟨37, 51, 37, 57⟩)) .none [("key", 2), ("height", 3)] ⟨.function, [(".0", .local), ("key", .local), ("height", .local)], false, false, []⟩ ⟨37, 17, 37, 58⟩) .nil) ⟨37, 11, 37, 16⟩ ⟨37, 11, 37, 59⟩) ⟨37, 4, 37, 59⟩) .nil)))
def b_look_key : Ts := (.cons (.iff (.not (.call "is_integer" 0 (.cons (.var 0 "key" ⟨39, 22, 39, 25⟩) .nil) ⟨39, 11, 39, 21⟩ ⟨39, 11, 39, 26⟩) ⟨39, 7, 39, 26⟩) (.cons (.nev (.Raise (some (.Call (.Name "NoKey" ⟨40, 14, 40, 19⟩) [(.Name "key" ⟨40, 20, 40, 23⟩)] [] ⟨40, 14, 40, 24⟩)) none ⟨40, 8, 40, 24⟩)) .nil) .nil ⟨39, 4, 40, 24⟩) .nil)
def b_look_from : Ts := (.cons (.iff (.bop .Or (.cons (.not (.call "is_integer" 0 (.cons (.var 0 "value" ⟨42, 22, 42, 27⟩) .nil) ⟨42, 11, 42, 21⟩ ⟨42, 11, 42, 28⟩) ⟨42, 7, 42, 28⟩) (.cons (.cmp .Lt (.var 0 "value" ⟨42, 32, 42, 37⟩) (.var 1 "least" ⟨42, 40, 42, 45⟩) ⟨42, 32, 42, 45⟩) (.cons (.bop .And (.cons (.cmp .IsNot (.var 2 "most" ⟨42, 50, 42, 54⟩) (.con .none 0 ⟨42, 62, 42, 66⟩) ⟨42, 50, 42, 66⟩) (.cons (.cmp .Gt (.var 0 "value" ⟨42, 71, 42, 76⟩) (.var 2 "most" ⟨42, 79, 42, 83⟩) ⟨42, 71, 42, 83⟩) .nil)) ⟨42, 50, 42, 83⟩) .nil))) ⟨42, 7, 42, 84⟩) (.cons (.nev (.Raise (some (.Call (.Name "NoNumber" ⟨43, 14, 43, 22⟩) [(.Name "value" ⟨43, 23, 43, 28⟩)] [] ⟨43, 14, 43, 29⟩)) none ⟨43, 8, 43, 29⟩)) .nil) .nil ⟨42, 4, 43, 29⟩) .nil)
def b_is_towers : Ts := (.cons (.ret (.cmp .Is (.call "wrong_at" 3 (.cons (.var 0 "thing" ⟨45, 20, 45, 25⟩) .nil) ⟨45, 11, 45, 19⟩ ⟨45, 11, 45, 26⟩) (.con .none 0 ⟨45, 30, 45, 34⟩) ⟨45, 11, 45, 34⟩) ⟨45, 4, 45, 34⟩) .nil)
def b_highest : Ts := (.cons (.ret (.mxd true (.lc (.var 2 "height" ⟨47, 16, 47, 22⟩) (.tp (.cons (.nm 1 "key" ⟨47, 27, 47, 30⟩) (.cons (.nm 2 "height" ⟨47, 32, 47, 38⟩) .nil)) 0 ⟨47, 27, 47, 38⟩) (.ex (.var 0 "known" ⟨47, 42, 47, 47⟩)) .none [("key", 1), ("height", 2)] ⟨.function, [(".0", .local), ("key", .local), ("height", .local)], false, false, []⟩ ⟨47, 15, 47, 48⟩) (.con (.int 0) 0 ⟨47, 58, 47, 59⟩) ⟨47, 11, 47, 14⟩ ⟨47, 50, 47, 59⟩ ⟨47, 11, 47, 60⟩) ⟨47, 4, 47, 60⟩) .nil)
def b_top : Ts := (.cons (.ret (.call "highest" 8 (.cons (.call "checked" 4 (.cons (.var 0 "towers" ⟨49, 27, 49, 33⟩) .nil) ⟨49, 19, 49, 26⟩ ⟨49, 19, 49, 34⟩) .nil) ⟨49, 11, 49, 18⟩ ⟨49, 11, 49, 35⟩) ⟨49, 4, 49, 35⟩) .nil)
def b_heights : Ts := (.cons (.ret (.bi .tuple (.cons (.lc (.var 2 "height" ⟨51, 18, 51, 24⟩) (.tp (.cons (.nm 1 "key" ⟨51, 29, 51, 32⟩) (.cons (.nm 2 "height" ⟨51, 34, 51, 40⟩) .nil)) 0 ⟨51, 29, 51, 40⟩) (.ex (.call "checked" 4 (.cons (.var 0 "towers" ⟨51, 52, 51, 58⟩) .nil) ⟨51, 44, 51, 51⟩ ⟨51, 44, 51, 59⟩)) .none [("key", 1), ("height", 2)] ⟨.function, [(".0", .local), ("key", .local), ("height", .local)], false, false, []⟩ ⟨51, 17, 51, 60⟩) .nil) ⟨51, 11, 51, 16⟩ ⟨51, 11, 51, 61⟩) ⟨51, 4, 51, 61⟩) .nil)
def b_height_of : Ts := (.cons (.asg (.nm 2 "known" ⟨53, 4, 53, 9⟩) (.call "checked" 4 (.cons (.var 0 "towers" ⟨53, 20, 53, 26⟩) .nil) ⟨53, 12, 53, 19⟩ ⟨53, 12, 53, 27⟩) ⟨53, 4, 53, 27⟩) (.cons (.ex (.call "look_key" 5 (.cons (.var 1 "key" ⟨54, 13, 54, 16⟩) .nil) ⟨54, 4, 54, 12⟩ ⟨54, 4, 54, 17⟩) ⟨54, 4, 54, 17⟩) (.cons (.ret (.mt (.bi .dict (.cons (.var 2 "known" ⟨55, 16, 55, 21⟩) .nil) ⟨55, 11, 55, 15⟩ ⟨55, 11, 55, 22⟩) .get (.cons (.var 1 "key" ⟨55, 27, 55, 30⟩) (.cons (.con (.int 0) 0 ⟨55, 32, 55, 33⟩) .nil)) ⟨55, 11, 55, 26⟩ ⟨55, 11, 55, 34⟩) ⟨55, 4, 55, 34⟩) .nil)))
def b_lane : Ts := (.cons (.asg (.nm 2 "known" ⟨57, 4, 57, 9⟩) (.call "checked" 4 (.cons (.var 0 "towers" ⟨57, 20, 57, 26⟩) .nil) ⟨57, 12, 57, 19⟩ ⟨57, 12, 57, 27⟩) ⟨57, 4, 57, 27⟩) (.cons (.ex (.call "look_from" 6 (.cons (.var 1 "level" ⟨58, 14, 58, 19⟩) (.cons (.con (.int 1) 0 ⟨58, 21, 58, 22⟩) .nil)) ⟨58, 4, 58, 13⟩ ⟨58, 4, 58, 23⟩) ⟨58, 4, 58, 23⟩) (.cons (.ret (.lc (.var 3 "key" ⟨59, 12, 59, 15⟩) (.tp (.cons (.nm 3 "key" ⟨59, 20, 59, 23⟩) (.cons (.nm 4 "height" ⟨59, 25, 59, 31⟩) .nil)) 0 ⟨59, 20, 59, 31⟩) (.ex (.var 2 "known" ⟨59, 35, 59, 40⟩)) (.some (.cmp .GtE (.var 4 "height" ⟨59, 44, 59, 50⟩) (.var 1 "level" ⟨59, 54, 59, 59⟩) ⟨59, 44, 59, 59⟩)) [("key", 3), ("height", 4)] ⟨.function, [(".0", .local), ("key", .local), ("height", .local), ("level", .free)], false, false, []⟩ ⟨59, 11, 59, 60⟩) ⟨59, 4, 59, 60⟩) .nil)))
def b_next_key : Ts := (.cons (.asg (.nm 3 "known" ⟨61, 4, 61, 9⟩) (.call "checked" 4 (.cons (.var 0 "towers" ⟨61, 20, 61, 26⟩) .nil) ⟨61, 12, 61, 19⟩ ⟨61, 12, 61, 27⟩) ⟨61, 4, 61, 27⟩) (.cons (.iff (.cmp .IsNot (.var 1 "key" ⟨62, 7, 62, 10⟩) (.con .none 0 ⟨62, 18, 62, 22⟩) ⟨62, 7, 62, 22⟩) (.cons (.ex (.call "look_key" 5 (.cons (.var 1 "key" ⟨63, 17, 63, 20⟩) .nil) ⟨63, 8, 63, 16⟩ ⟨63, 8, 63, 21⟩) ⟨63, 8, 63, 21⟩) .nil) .nil ⟨62, 4, 63, 21⟩) (.cons (.ex (.call "look_from" 6 (.cons (.var 2 "level" ⟨64, 14, 64, 19⟩) (.cons (.con (.int 1) 0 ⟨64, 21, 64, 22⟩) .nil)) ⟨64, 4, 64, 13⟩ ⟨64, 4, 64, 23⟩) ⟨64, 4, 64, 23⟩) (.cons (.asg (.nm 4 "some" ⟨65, 4, 65, 8⟩) (.lc (.var 5 "one" ⟨65, 12, 65, 15⟩) (.tp (.cons (.nm 5 "one" ⟨65, 20, 65, 23⟩) (.cons (.nm 6 "height" ⟨65, 25, 65, 31⟩) .nil)) 0 ⟨65, 20, 65, 31⟩) (.ex (.var 3 "known" ⟨65, 35, 65, 40⟩)) (.some (.bop .And (.cons (.cmp .GtE (.var 6 "height" ⟨65, 44, 65, 50⟩) (.var 2 "level" ⟨65, 54, 65, 59⟩) ⟨65, 44, 65, 59⟩) (.cons (.bop .Or (.cons (.cmp .Is (.var 1 "key" ⟨65, 65, 65, 68⟩) (.con .none 0 ⟨65, 72, 65, 76⟩) ⟨65, 65, 65, 76⟩) (.cons (.cmp .Gt (.var 5 "one" ⟨65, 80, 65, 83⟩) (.var 1 "key" ⟨65, 86, 65, 89⟩) ⟨65, 80, 65, 89⟩) .nil)) ⟨65, 65, 65, 89⟩) .nil)) ⟨65, 44, 65, 90⟩)) [("one", 5), ("height", 6)] ⟨.function, [(".0", .local), ("one", .local), ("height", .local), ("key", .free), ("level", .free)], false, false, []⟩ ⟨65, 11, 65, 91⟩) ⟨65, 4, 65, 91⟩) (.cons (.ret (.ifx (.cmp .NotEq (.var 4 "some" ⟨66, 22, 66, 26⟩) (.lst .nil ⟨66, 30, 66, 32⟩) ⟨66, 22, 66, 32⟩) (.ix (.var 4 "some" ⟨66, 11, 66, 15⟩) (.con (.int 0) 0 ⟨66, 16, 66, 17⟩) ⟨66, 11, 66, 18⟩) (.con .none 0 ⟨66, 38, 66, 42⟩) ⟨66, 11, 66, 42⟩) ⟨66, 4, 66, 42⟩) .nil)))))
def b_links_from : Ts := (.cons (.asg (.nm 3 "some" ⟨68, 4, 68, 8⟩) (.lc (.var 4 "key" ⟨68, 12, 68, 15⟩) (.tp (.cons (.nm 4 "key" ⟨68, 20, 68, 23⟩) (.cons (.nm 5 "height" ⟨68, 25, 68, 31⟩) .nil)) 0 ⟨68, 20, 68, 31⟩) (.ex (.var 0 "known" ⟨68, 35, 68, 40⟩)) (.some (.cmp .GtE (.var 5 "height" ⟨68, 44, 68, 50⟩) (.var 2 "level" ⟨68, 54, 68, 59⟩) ⟨68, 44, 68, 59⟩)) [("key", 4), ("height", 5)] ⟨.function, [(".0", .local), ("key", .local), ("height", .local), ("level", .free)], false, false, []⟩ ⟨68, 11, 68, 60⟩) ⟨68, 4, 68, 60⟩) (.cons (.ret (.tup (.cons (.var 1 "start" ⟨69, 12, 69, 17⟩) (.cons (.var 2 "level" ⟨69, 19, 69, 24⟩) (.cons (.ifx (.cmp .NotEq (.var 3 "some" ⟨69, 37, 69, 41⟩) (.lst .nil ⟨69, 45, 69, 47⟩) ⟨69, 37, 69, 47⟩) (.ix (.var 3 "some" ⟨69, 26, 69, 30⟩) (.con (.int 0) 0 ⟨69, 31, 69, 32⟩) ⟨69, 26, 69, 33⟩) (.con .none 0 ⟨69, 53, 69, 57⟩) ⟨69, 26, 69, 57⟩) .nil))) 0 ⟨69, 11, 69, 58⟩) ⟨69, 4, 69, 58⟩) .nil))
def b_links : Ts := (.cons (.asg (.nm 1 "known" ⟨71, 4, 71, 9⟩) (.call "checked" 4 (.cons (.var 0 "towers" ⟨71, 20, 71, 26⟩) .nil) ⟨71, 12, 71, 19⟩ ⟨71, 12, 71, 27⟩) ⟨71, 4, 71, 27⟩) (.cons (.asg (.nm 2 "found" ⟨72, 4, 72, 9⟩) (.lc (.call "links_from" 14 (.cons (.var 1 "known" ⟨72, 24, 72, 29⟩) (.cons (.con .none 0 ⟨72, 31, 72, 35⟩) (.cons (.var 6 "level" ⟨72, 37, 72, 42⟩) .nil))) ⟨72, 13, 72, 23⟩ ⟨72, 13, 72, 43⟩) (.nm 6 "level" ⟨72, 48, 72, 53⟩) (.rng2 (.con (.int 1) 0 ⟨72, 63, 72, 64⟩) (.op .Add (.call "highest" 8 (.cons (.var 1 "known" ⟨72, 74, 72, 79⟩) .nil) ⟨72, 66, 72, 73⟩ ⟨72, 66, 72, 80⟩) (.con (.int 1) 0 ⟨72, 83, 72, 84⟩) ⟨72, 66, 72, 84⟩) ⟨72, 57, 72, 62⟩ ⟨72, 57, 72, 85⟩) .none [("level", 6)] ⟨.function, [(".0", .local), ("level", .local), ("links_from", .globalImplicit), ("known", .free)], false, false, []⟩ ⟨72, 12, 72, 86⟩) ⟨72, 4, 72, 86⟩) (.cons (.fr (.tp (.cons (.nm 3 "index" ⟨73, 8, 73, 13⟩) (.cons (.tp (.cons (.nm 4 "key" ⟨73, 16, 73, 19⟩) (.cons (.nm 5 "height" ⟨73, 21, 73, 27⟩) .nil)) 0 ⟨73, 15, 73, 28⟩) .nil)) 0 ⟨73, 8, 73, 28⟩) (.enm (.var 1 "known" ⟨73, 42, 73, 47⟩) ⟨73, 32, 73, 41⟩ ⟨73, 32, 73, 48⟩) (.cons (.ex (.mt (.var 2 "found" ⟨74, 8, 74, 13⟩) .extend (.cons (.lc (.call "links_from" 14 (.cons (.sl (.var 1 "known" ⟨74, 33, 74, 38⟩) (.some (.op .Add (.var 3 "index" ⟨74, 39, 74, 44⟩) (.con (.int 1) 0 ⟨74, 47, 74, 48⟩) ⟨74, 39, 74, 48⟩)) .none ⟨74, 39, 74, 49⟩ ⟨74, 33, 74, 50⟩) (.cons (.var 4 "key" ⟨74, 52, 74, 55⟩) (.cons (.var 6 "level" ⟨74, 57, 74, 62⟩) .nil))) ⟨74, 22, 74, 32⟩ ⟨74, 22, 74, 63⟩) (.nm 6 "level" ⟨74, 68, 74, 73⟩) (.rng2 (.con (.int 1) 0 ⟨74, 83, 74, 84⟩) (.op .Add (.var 5 "height" ⟨74, 86, 74, 92⟩) (.con (.int 1) 0 ⟨74, 95, 74, 96⟩) ⟨74, 86, 74, 96⟩) ⟨74, 77, 74, 82⟩ ⟨74, 77, 74, 97⟩) .none [("level", 6)] ⟨.function, [(".0", .local), ("level", .local), ("links_from", .globalImplicit), ("index", .free), ("key", .free), ("known", .free)], false, false, []⟩ ⟨74, 21, 74, 98⟩) .nil) ⟨74, 8, 74, 20⟩ ⟨74, 8, 74, 99⟩) ⟨74, 8, 74, 99⟩) .nil) ⟨73, 4, 74, 99⟩) (.cons (.ret (.var 2 "found" ⟨75, 11, 75, 16⟩) ⟨75, 4, 75, 16⟩) .nil))))
def b__law_source_of : Ts := (.cons (.asg (.nm 0 "_law_cell" ⟨78, 4, 78, 13⟩) (.ifx (.cmp .GtE (.var 0 "_law_cell" ⟨78, 29, 78, 38⟩) (.con (.int 0) 0 ⟨78, 42, 78, 43⟩) ⟨78, 29, 78, 43⟩) (.var 0 "_law_cell" ⟨78, 16, 78, 25⟩) (.op .Sub (.op .Sub (.con (.int 0) 0 ⟨78, 49, 78, 50⟩) (.op .Mult (.con (.int 3) 0 ⟨78, 53, 78, 54⟩) (.var 0 "_law_cell" ⟨78, 57, 78, 66⟩) ⟨78, 53, 78, 66⟩) ⟨78, 49, 78, 66⟩) (.con (.int 1) 0 ⟨78, 69, 78, 70⟩) ⟨78, 49, 78, 70⟩) ⟨78, 16, 78, 70⟩) ⟨78, 4, 78, 70⟩) (.cons (.ret (.lst (.cons (.op .Mult (.var 0 "_law_cell" ⟨79, 12, 79, 21⟩) (.bi .int (.cons (.cmp .GtE (.var 0 "_law_cell" ⟨79, 28, 79, 37⟩) (.op .Pow (.con (.int 10) 0 ⟨79, 41, 79, 43⟩) (.con (.int 18) 0 ⟨79, 47, 79, 49⟩) ⟨79, 41, 79, 49⟩) ⟨79, 28, 79, 49⟩) .nil) ⟨79, 24, 79, 27⟩ ⟨79, 24, 79, 50⟩) ⟨79, 12, 79, 50⟩) (.cons (.op .Mod (.bi .int (.cons (.var 0 "_law_cell" ⟨79, 56, 79, 65⟩) .nil) ⟨79, 52, 79, 55⟩ ⟨79, 52, 79, 66⟩) (.con (.int 2147483647) 0 ⟨79, 69, 79, 79⟩) ⟨79, 52, 79, 79⟩) (.cons (.con (.int 0) 0 ⟨79, 81, 79, 82⟩) .nil))) ⟨79, 11, 79, 83⟩) ⟨79, 4, 79, 83⟩) .nil))
def b__law_next : Ts := (.cons (.iff (.cmp .Gt (.ix (.var 0 "_law_source" ⟨81, 7, 81, 18⟩) (.con (.int 0) 0 ⟨81, 19, 81, 20⟩) ⟨81, 7, 81, 21⟩) (.con (.int 0) 0 ⟨81, 24, 81, 25⟩) ⟨81, 7, 81, 25⟩) (.cons (.asg (.nm 2 "_law_found" ⟨82, 8, 82, 18⟩) (.op .Mod (.bi .int (.cons (.ix (.var 0 "_law_source" ⟨82, 25, 82, 36⟩) (.con (.int 0) 0 ⟨82, 37, 82, 38⟩) ⟨82, 25, 82, 39⟩) .nil) ⟨82, 21, 82, 24⟩ ⟨82, 21, 82, 40⟩) (.var 1 "_law_many" ⟨82, 43, 82, 52⟩) ⟨82, 21, 82, 52⟩) ⟨82, 8, 82, 52⟩) (.cons (.asg (.sb (.var 0 "_law_source" ⟨83, 8, 83, 19⟩) (.con (.int 0) 0 ⟨83, 20, 83, 21⟩) ⟨83, 8, 83, 22⟩) (.op .FloorDiv (.ix (.var 0 "_law_source" ⟨83, 25, 83, 36⟩) (.con (.int 0) 0 ⟨83, 37, 83, 38⟩) ⟨83, 25, 83, 39⟩) (.var 1 "_law_many" ⟨83, 43, 83, 52⟩) ⟨83, 25, 83, 52⟩) ⟨83, 8, 83, 52⟩) (.cons (.ret (.var 2 "_law_found" ⟨84, 15, 84, 25⟩) ⟨84, 8, 84, 25⟩) .nil))) .nil ⟨81, 4, 84, 25⟩) (.cons (.asg (.sb (.var 0 "_law_source" ⟨85, 4, 85, 15⟩) (.con (.int 2) 0 ⟨85, 16, 85, 17⟩) ⟨85, 4, 85, 18⟩) (.op .Add (.ix (.var 0 "_law_source" ⟨85, 21, 85, 32⟩) (.con (.int 2) 0 ⟨85, 33, 85, 34⟩) ⟨85, 21, 85, 35⟩) (.con (.int 1) 0 ⟨85, 38, 85, 39⟩) ⟨85, 21, 85, 39⟩) ⟨85, 4, 85, 39⟩) (.cons (.asg (.nm 3 "_law_prime" ⟨86, 4, 86, 14⟩) (.con (.int 2147483647) 0 ⟨86, 17, 86, 27⟩) ⟨86, 4, 86, 27⟩) (.cons (.asg (.nm 4 "_law_number" ⟨87, 4, 87, 15⟩) (.op .Mod (.bi .int (.cons (.op .Add (.op .Add (.ix (.var 0 "_law_source" ⟨87, 22, 87, 33⟩) (.con (.int 1) 0 ⟨87, 34, 87, 35⟩) ⟨87, 22, 87, 36⟩) (.op .Mult (.con (.int 104729) 0 ⟨87, 39, 87, 45⟩) (.ix (.var 0 "_law_source" ⟨87, 48, 87, 59⟩) (.con (.int 2) 0 ⟨87, 60, 87, 61⟩) ⟨87, 48, 87, 62⟩) ⟨87, 39, 87, 62⟩) ⟨87, 22, 87, 62⟩) (.con (.int 7919) 0 ⟨87, 65, 87, 69⟩) ⟨87, 22, 87, 69⟩) .nil) ⟨87, 18, 87, 21⟩ ⟨87, 18, 87, 70⟩) (.var 3 "_law_prime" ⟨87, 73, 87, 83⟩) ⟨87, 18, 87, 83⟩) ⟨87, 4, 87, 83⟩) (.cons (.asg (.nm 4 "_law_number" ⟨88, 4, 88, 15⟩) (.op .Mod (.bi .int (.cons (.op .Mult (.var 4 "_law_number" ⟨88, 22, 88, 33⟩) (.con (.int 48271) 0 ⟨88, 36, 88, 41⟩) ⟨88, 22, 88, 41⟩) .nil) ⟨88, 18, 88, 21⟩ ⟨88, 18, 88, 42⟩) (.var 3 "_law_prime" ⟨88, 45, 88, 55⟩) ⟨88, 18, 88, 55⟩) ⟨88, 4, 88, 55⟩) (.cons (.asg (.nm 4 "_law_number" ⟨89, 4, 89, 15⟩) (.op .Mod (.bi .int (.cons (.op .Mult (.var 4 "_law_number" ⟨89, 22, 89, 33⟩) (.op .Add (.op .FloorDiv (.var 4 "_law_number" ⟨89, 37, 89, 48⟩) (.con (.int 1009) 0 ⟨89, 52, 89, 56⟩) ⟨89, 37, 89, 56⟩) (.con (.int 69621) 0 ⟨89, 59, 89, 64⟩) ⟨89, 37, 89, 64⟩) ⟨89, 22, 89, 65⟩) .nil) ⟨89, 18, 89, 21⟩ ⟨89, 18, 89, 66⟩) (.var 3 "_law_prime" ⟨89, 69, 89, 79⟩) ⟨89, 18, 89, 79⟩) ⟨89, 4, 89, 79⟩) (.cons (.asg (.nm 4 "_law_number" ⟨90, 4, 90, 15⟩) (.op .Mod (.bi .int (.cons (.op .Mult (.var 4 "_law_number" ⟨90, 22, 90, 33⟩) (.op .Add (.op .FloorDiv (.var 4 "_law_number" ⟨90, 37, 90, 48⟩) (.con (.int 2003) 0 ⟨90, 52, 90, 56⟩) ⟨90, 37, 90, 56⟩) (.con (.int 40692) 0 ⟨90, 59, 90, 64⟩) ⟨90, 37, 90, 64⟩) ⟨90, 22, 90, 65⟩) .nil) ⟨90, 18, 90, 21⟩ ⟨90, 18, 90, 66⟩) (.con (.int 2147483399) 0 ⟨90, 69, 90, 79⟩) ⟨90, 18, 90, 79⟩) ⟨90, 4, 90, 79⟩) (.cons (.ret (.op .Mod (.bi .int (.cons (.op .FloorDiv (.var 4 "_law_number" ⟨91, 15, 91, 26⟩) (.con (.int 7) 0 ⟨91, 30, 91, 31⟩) ⟨91, 15, 91, 31⟩) .nil) ⟨91, 11, 91, 14⟩ ⟨91, 11, 91, 32⟩) (.var 1 "_law_many" ⟨91, 35, 91, 44⟩) ⟨91, 11, 91, 44⟩) ⟨91, 4, 91, 44⟩) .nil))))))))
def b__law_one : Ts := (.cons (.ret (.ix (.var 1 "_law_some" ⟨93, 11, 93, 20⟩) (.call "_law_next" 17 (.cons (.var 0 "_law_source" ⟨93, 31, 93, 42⟩) (.cons (.bi .len (.cons (.var 1 "_law_some" ⟨93, 48, 93, 57⟩) .nil) ⟨93, 44, 93, 47⟩ ⟨93, 44, 93, 58⟩) .nil)) ⟨93, 21, 93, 30⟩ ⟨93, 21, 93, 59⟩) ⟨93, 11, 93, 60⟩) ⟨93, 4, 93, 60⟩) .nil)
def b__law_towers : Ts := (.cons (.asg (.tp (.cons (.nm 3 "_law_found" ⟨95, 4, 95, 14⟩) (.cons (.nm 4 "_law_key" ⟨95, 16, 95, 24⟩) .nil)) 0 ⟨95, 4, 95, 24⟩) (.tup (.cons (.lst .nil ⟨95, 28, 95, 30⟩) (.cons (.op .Sub (.call "_law_next" 17 (.cons (.var 0 "_law_source" ⟨95, 42, 95, 53⟩) (.cons (.con (.int 40) 0 ⟨95, 55, 95, 57⟩) .nil)) ⟨95, 32, 95, 41⟩ ⟨95, 32, 95, 58⟩) (.con (.int 30) 0 ⟨95, 61, 95, 63⟩) ⟨95, 32, 95, 63⟩) .nil)) 0 ⟨95, 27, 95, 64⟩) ⟨95, 4, 95, 64⟩) (.cons (.fr (.nm 5 "_law_k" ⟨96, 8, 96, 14⟩) (.rng1 (.call "_law_next" 17 (.cons (.var 0 "_law_source" ⟨96, 34, 96, 45⟩) (.cons (.op .Add (.var 1 "_law_many" ⟨96, 47, 96, 56⟩) (.con (.int 1) 0 ⟨96, 59, 96, 60⟩) ⟨96, 47, 96, 60⟩) .nil)) ⟨96, 24, 96, 33⟩ ⟨96, 24, 96, 61⟩) ⟨96, 18, 96, 23⟩ ⟨96, 18, 96, 62⟩) (.cons (.asg (.nm 4 "_law_key" ⟨97, 8, 97, 16⟩) (.op .Add (.op .Add (.var 4 "_law_key" ⟨97, 19, 97, 27⟩) (.con (.int 1) 0 ⟨97, 30, 97, 31⟩) ⟨97, 19, 97, 31⟩) (.call "_law_one" 18 (.cons (.var 0 "_law_source" ⟨97, 43, 97, 54⟩) (.cons (.lst (.cons (.con (.int 0) 0 ⟨97, 57, 97, 58⟩) (.cons (.con (.int 0) 0 ⟨97, 60, 97, 61⟩) (.cons (.con (.int 1) 0 ⟨97, 63, 97, 64⟩) (.cons (.con (.int 6) 0 ⟨97, 66, 97, 67⟩) (.cons (.call "_law_next" 17 (.cons (.var 0 "_law_source" ⟨97, 79, 97, 90⟩) (.cons (.op .Pow (.con (.int 10) 0 ⟨97, 92, 97, 94⟩) (.con (.int 20) 0 ⟨97, 98, 97, 100⟩) ⟨97, 92, 97, 100⟩) .nil)) ⟨97, 69, 97, 78⟩ ⟨97, 69, 97, 101⟩) .nil))))) ⟨97, 56, 97, 102⟩) .nil)) ⟨97, 34, 97, 42⟩ ⟨97, 34, 97, 103⟩) ⟨97, 19, 97, 103⟩) ⟨97, 8, 97, 103⟩) (.cons (.asg (.nm 6 "_law_height" ⟨98, 8, 98, 19⟩) (.op .Add (.con (.int 1) 0 ⟨98, 22, 98, 23⟩) (.call "_law_one" 18 (.cons (.var 0 "_law_source" ⟨98, 35, 98, 46⟩) (.cons (.lst (.cons (.con (.int 0) 0 ⟨98, 49, 98, 50⟩) (.cons (.con (.int 0) 0 ⟨98, 52, 98, 53⟩) (.cons (.con (.int 0) 0 ⟨98, 55, 98, 56⟩) (.cons (.con (.int 1) 0 ⟨98, 58, 98, 59⟩) (.cons (.con (.int 1) 0 ⟨98, 61, 98, 62⟩) (.cons (.con (.int 2) 0 ⟨98, 64, 98, 65⟩) (.cons (.con (.int 3) 0 ⟨98, 67, 98, 68⟩) (.cons (.op .Sub (.var 2 "_law_high" ⟨98, 70, 98, 79⟩) (.con (.int 1) 0 ⟨98, 82, 98, 83⟩) ⟨98, 70, 98, 83⟩) .nil)))))))) ⟨98, 48, 98, 84⟩) .nil)) ⟨98, 26, 98, 34⟩ ⟨98, 26, 98, 85⟩) ⟨98, 22, 98, 85⟩) ⟨98, 8, 98, 85⟩) (.cons (.ex (.mt (.var 3 "_law_found" ⟨99, 8, 99, 18⟩) .append (.cons (.tup (.cons (.var 4 "_law_key" ⟨99, 27, 99, 35⟩) (.cons (.bi .min (.cons (.var 6 "_law_height" ⟨99, 41, 99, 52⟩) (.cons (.var 2 "_law_high" ⟨99, 54, 99, 63⟩) .nil)) ⟨99, 37, 99, 40⟩ ⟨99, 37, 99, 64⟩) .nil)) 0 ⟨99, 26, 99, 65⟩) .nil) ⟨99, 8, 99, 25⟩ ⟨99, 8, 99, 66⟩) ⟨99, 8, 99, 66⟩) .nil))) ⟨96, 4, 99, 66⟩) (.cons (.ret (.bi .tuple (.cons (.var 3 "_law_found" ⟨100, 17, 100, 27⟩) .nil) ⟨100, 11, 100, 16⟩ ⟨100, 11, 100, 28⟩) ⟨100, 4, 100, 28⟩) .nil)))
def b__law_next_key : Ts := (.cons (.fr (.tp (.cons (.nm 3 "_law_one_here" ⟨102, 8, 102, 21⟩) (.cons (.nm 4 "_law_height" ⟨102, 23, 102, 34⟩) .nil)) 0 ⟨102, 8, 102, 34⟩) (.ex (.var 0 "_law_towers_here" ⟨102, 38, 102, 54⟩)) (.cons (.iff (.bop .And (.cons (.cmp .GtE (.var 4 "_law_height" ⟨103, 11, 103, 22⟩) (.var 2 "_law_level" ⟨103, 26, 103, 36⟩) ⟨103, 11, 103, 36⟩) (.cons (.bop .Or (.cons (.cmp .Is (.var 1 "_law_key" ⟨103, 42, 103, 50⟩) (.con .none 0 ⟨103, 54, 103, 58⟩) ⟨103, 42, 103, 58⟩) (.cons (.cmp .Gt (.var 3 "_law_one_here" ⟨103, 62, 103, 75⟩) (.var 1 "_law_key" ⟨103, 78, 103, 86⟩) ⟨103, 62, 103, 86⟩) .nil)) ⟨103, 42, 103, 86⟩) .nil)) ⟨103, 11, 103, 87⟩) (.cons (.ret (.var 3 "_law_one_here" ⟨104, 19, 104, 32⟩) ⟨104, 12, 104, 32⟩) .nil) .nil ⟨103, 8, 104, 32⟩) .nil) ⟨102, 4, 104, 32⟩) (.cons (.ret (.con .none 0 ⟨105, 11, 105, 15⟩) ⟨105, 4, 105, 15⟩) .nil))
def b__law_links : Ts := (.cons (.asg (.nm 3 "_law_found" ⟨107, 4, 107, 14⟩) (.lc (.tup (.cons (.con .none 0 ⟨107, 19, 107, 23⟩) (.cons (.var 2 "_law_level" ⟨107, 25, 107, 35⟩) (.cons (.call "_law_next_key" 20 (.cons (.var 0 "_law_towers_here" ⟨107, 51, 107, 67⟩) (.cons (.con .none 0 ⟨107, 69, 107, 73⟩) (.cons (.var 2 "_law_level" ⟨107, 75, 107, 85⟩) .nil))) ⟨107, 37, 107, 50⟩ ⟨107, 37, 107, 86⟩) .nil))) 0 ⟨107, 18, 107, 87⟩) (.nm 2 "_law_level" ⟨107, 92, 107, 102⟩) (.rng2 (.con (.int 1) 0 ⟨107, 112, 107, 113⟩) (.op .Add (.var 1 "_law_high" ⟨107, 115, 107, 124⟩) (.con (.int 1) 0 ⟨107, 127, 107, 128⟩) ⟨107, 115, 107, 128⟩) ⟨107, 106, 107, 111⟩ ⟨107, 106, 107, 129⟩) .none [("_law_level", 2)] ⟨.function, [(".0", .local), ("_law_level", .local), ("_law_next_key", .globalImplicit), ("_law_towers_here", .free)], false, false, []⟩ ⟨107, 17, 107, 130⟩) ⟨107, 4, 107, 130⟩) (.cons (.fr (.tp (.cons (.nm 4 "_law_key" ⟨108, 8, 108, 16⟩) (.cons (.nm 5 "_law_height" ⟨108, 18, 108, 29⟩) .nil)) 0 ⟨108, 8, 108, 29⟩) (.ex (.var 0 "_law_towers_here" ⟨108, 33, 108, 49⟩)) (.cons (.fr (.nm 2 "_law_level" ⟨109, 12, 109, 22⟩) (.rng2 (.con (.int 1) 0 ⟨109, 32, 109, 33⟩) (.op .Add (.var 5 "_law_height" ⟨109, 35, 109, 46⟩) (.con (.int 1) 0 ⟨109, 49, 109, 50⟩) ⟨109, 35, 109, 50⟩) ⟨109, 26, 109, 31⟩ ⟨109, 26, 109, 51⟩) (.cons (.ex (.mt (.var 3 "_law_found" ⟨110, 12, 110, 22⟩) .append (.cons (.tup (.cons (.var 4 "_law_key" ⟨110, 31, 110, 39⟩) (.cons (.var 2 "_law_level" ⟨110, 41, 110, 51⟩) (.cons (.call "_law_next_key" 20 (.cons (.var 0 "_law_towers_here" ⟨110, 67, 110, 83⟩) (.cons (.var 4 "_law_key" ⟨110, 85, 110, 93⟩) (.cons (.var 2 "_law_level" ⟨110, 95, 110, 105⟩) .nil))) ⟨110, 53, 110, 66⟩ ⟨110, 53, 110, 106⟩) .nil))) 0 ⟨110, 30, 110, 107⟩) .nil) ⟨110, 12, 110, 29⟩ ⟨110, 12, 110, 108⟩) ⟨110, 12, 110, 108⟩) .nil) ⟨109, 8, 110, 108⟩) .nil) ⟨108, 4, 110, 108⟩) (.cons (.ret (.var 3 "_law_found" ⟨111, 11, 111, 21⟩) ⟨111, 4, 111, 21⟩) .nil)))
def b__law_keys_right : Ts := (.cons (.asg (.nm 3 "_law_known" ⟨113, 4, 113, 14⟩) (.bi .dict (.cons (.var 0 "_law_towers_here" ⟨113, 22, 113, 38⟩) .nil) ⟨113, 17, 113, 21⟩ ⟨113, 17, 113, 39⟩) ⟨113, 4, 113, 39⟩) (.cons (.fr (.nm 4 "_law_level" ⟨114, 8, 114, 18⟩) (.ex (.lrg (.con (.int 1) 0 ⟨114, 33, 114, 34⟩) (.op .Add (.var 2 "_law_high" ⟨114, 36, 114, 45⟩) (.con (.int 3) 0 ⟨114, 48, 114, 49⟩) ⟨114, 36, 114, 49⟩) ⟨114, 27, 114, 32⟩ ⟨114, 27, 114, 50⟩ ⟨114, 22, 114, 26⟩ ⟨114, 22, 114, 51⟩)) (.cons (.iff (.cmp .NotEq (.call "lane" 12 (.cons (.var 0 "_law_towers_here" ⟨115, 16, 115, 32⟩) (.cons (.var 4 "_law_level" ⟨115, 34, 115, 44⟩) .nil)) ⟨115, 11, 115, 15⟩ ⟨115, 11, 115, 45⟩) (.lc (.var 6 "_law_key" ⟨115, 50, 115, 58⟩) (.tp (.cons (.nm 6 "_law_key" ⟨115, 63, 115, 71⟩) (.cons (.nm 7 "_law_height" ⟨115, 73, 115, 84⟩) .nil)) 0 ⟨115, 63, 115, 84⟩) (.ex (.var 0 "_law_towers_here" ⟨115, 88, 115, 104⟩)) (.some (.cmp .GtE (.var 7 "_law_height" ⟨115, 108, 115, 119⟩) (.var 4 "_law_level" ⟨115, 123, 115, 133⟩) ⟨115, 108, 115, 133⟩)) [("_law_key", 6), ("_law_height", 7)] ⟨.function, [(".0", .local), ("_law_key", .local), ("_law_height", .local), ("_law_level", .free)], false, false, []⟩ ⟨115, 49, 115, 134⟩) ⟨115, 11, 115, 134⟩) (.cons (.ret (.con (.bool false) 0 ⟨116, 19, 116, 24⟩) ⟨116, 12, 116, 24⟩) .nil) .nil ⟨115, 8, 116, 24⟩) (.cons (.fr (.nm 5 "_law_place" ⟨117, 12, 117, 22⟩) (.ex (.op .Add (.var 1 "_law_places" ⟨117, 26, 117, 37⟩) (.lst (.cons (.con .none 0 ⟨117, 41, 117, 45⟩) .nil) ⟨117, 40, 117, 46⟩) ⟨117, 26, 117, 46⟩)) (.cons (.iff (.cmp .NotEq (.call "next_key" 13 (.cons (.var 0 "_law_towers_here" ⟨118, 24, 118, 40⟩) (.cons (.var 5 "_law_place" ⟨118, 42, 118, 52⟩) (.cons (.var 4 "_law_level" ⟨118, 54, 118, 64⟩) .nil))) ⟨118, 15, 118, 23⟩ ⟨118, 15, 118, 65⟩) (.call "_law_next_key" 20 (.cons (.var 0 "_law_towers_here" ⟨118, 83, 118, 99⟩) (.cons (.var 5 "_law_place" ⟨118, 101, 118, 111⟩) (.cons (.var 4 "_law_level" ⟨118, 113, 118, 123⟩) .nil))) ⟨118, 69, 118, 82⟩ ⟨118, 69, 118, 124⟩) ⟨118, 15, 118, 124⟩) (.cons (.ret (.con (.bool false) 0 ⟨119, 23, 119, 28⟩) ⟨119, 16, 119, 28⟩) .nil) .nil ⟨118, 12, 119, 28⟩) .nil) ⟨117, 8, 119, 28⟩) .nil)) ⟨114, 4, 119, 28⟩) (.cons (.ret (.cmp .Eq (.lc (.var 5 "_law_place" ⟨120, 12, 120, 22⟩) (.nm 5 "_law_place" ⟨120, 27, 120, 37⟩) (.ex (.var 1 "_law_places" ⟨120, 41, 120, 52⟩)) (.some (.cmp .NotEq (.call "height_of" 11 (.cons (.var 0 "_law_towers_here" ⟨120, 66, 120, 82⟩) (.cons (.var 5 "_law_place" ⟨120, 84, 120, 94⟩) .nil)) ⟨120, 56, 120, 65⟩ ⟨120, 56, 120, 95⟩) (.mt (.var 3 "_law_known" ⟨120, 99, 120, 109⟩) .get (.cons (.var 5 "_law_place" ⟨120, 114, 120, 124⟩) (.cons (.con (.int 0) 0 ⟨120, 126, 120, 127⟩) .nil)) ⟨120, 99, 120, 113⟩ ⟨120, 99, 120, 128⟩) ⟨120, 56, 120, 128⟩)) [("_law_place", 5)] ⟨.function, [(".0", .local), ("_law_place", .local), ("height_of", .globalImplicit), ("_law_known", .free), ("_law_towers_here", .free)], false, false, []⟩ ⟨120, 11, 120, 129⟩) (.lst .nil ⟨120, 133, 120, 135⟩) ⟨120, 11, 120, 135⟩) ⟨120, 4, 120, 135⟩) .nil)))
def b_law : Ts := (.cons (.fr (.nm 1 "_law_cell" ⟨122, 8, 122, 17⟩) (.ex (.op .Add (.sl (.var 0 "_law_script" ⟨122, 21, 122, 32⟩) .none (.some (.con (.int 6) 0 ⟨122, 34, 122, 35⟩)) ⟨122, 33, 122, 35⟩ ⟨122, 21, 122, 36⟩) (.lst (.cons (.con (.int 0) 0 ⟨122, 40, 122, 41⟩) .nil) ⟨122, 39, 122, 42⟩) ⟨122, 21, 122, 42⟩)) (.cons (.asg (.nm 2 "_law_source" ⟨123, 8, 123, 19⟩) (.call "_law_source_of" 16 (.cons (.var 1 "_law_cell" ⟨123, 37, 123, 46⟩) .nil) ⟨123, 22, 123, 36⟩ ⟨123, 22, 123, 47⟩) ⟨123, 8, 123, 47⟩) (.cons (.asg (.nm 3 "_law_towers_here" ⟨124, 8, 124, 24⟩) (.call "_law_towers" 19 (.cons (.var 2 "_law_source" ⟨124, 39, 124, 50⟩) (.cons (.con (.int 30) 0 ⟨124, 52, 124, 54⟩) (.cons (.con (.int 9) 0 ⟨124, 56, 124, 57⟩) .nil))) ⟨124, 27, 124, 38⟩ ⟨124, 27, 124, 58⟩) ⟨124, 8, 124, 58⟩) (.cons (.asg (.nm 4 "_law_high" ⟨125, 8, 125, 17⟩) (.con (.int 0) 0 ⟨125, 20, 125, 21⟩) ⟨125, 8, 125, 21⟩) (.cons (.fr (.tp (.cons (.nm 5 "_law_key" ⟨126, 12, 126, 20⟩) (.cons (.nm 6 "_law_height" ⟨126, 22, 126, 33⟩) .nil)) 0 ⟨126, 12, 126, 33⟩) (.ex (.var 3 "_law_towers_here" ⟨126, 37, 126, 53⟩)) (.cons (.asg (.nm 4 "_law_high" ⟨127, 12, 127, 21⟩) (.bi .max (.cons (.var 4 "_law_high" ⟨127, 28, 127, 37⟩) (.cons (.var 6 "_law_height" ⟨127, 39, 127, 50⟩) .nil)) ⟨127, 24, 127, 27⟩ ⟨127, 24, 127, 51⟩) ⟨127, 12, 127, 51⟩) .nil) ⟨126, 8, 127, 51⟩) (.cons (.asg (.nm 7 "_law_lists" ⟨128, 8, 128, 18⟩) (.lc (.bi .list (.cons (.var 10 "_law_pair" ⟨128, 27, 128, 36⟩) .nil) ⟨128, 22, 128, 26⟩ ⟨128, 22, 128, 37⟩) (.nm 10 "_law_pair" ⟨128, 42, 128, 51⟩) (.ex (.var 3 "_law_towers_here" ⟨128, 55, 128, 71⟩)) .none [("_law_pair", 10)] ⟨.function, [(".0", .local), ("_law_pair", .local), ("list", .globalImplicit)], false, false, []⟩ ⟨128, 21, 128, 72⟩) ⟨128, 8, 128, 72⟩) (.cons (.iff (.bop .Or (.cons (.cmp .NotEq (.call "top" 9 (.cons (.var 3 "_law_towers_here" ⟨129, 15, 129, 31⟩) .nil) ⟨129, 11, 129, 14⟩ ⟨129, 11, 129, 32⟩) (.var 4 "_law_high" ⟨129, 36, 129, 45⟩) ⟨129, 11, 129, 45⟩) (.cons (.cmp .NotEq (.call "heights" 10 (.cons (.var 3 "_law_towers_here" ⟨129, 57, 129, 73⟩) .nil) ⟨129, 49, 129, 56⟩ ⟨129, 49, 129, 74⟩) (.bi .tuple (.cons (.lc (.var 6 "_law_height" ⟨129, 85, 129, 96⟩) (.tp (.cons (.nm 5 "_law_key" ⟨129, 101, 129, 109⟩) (.cons (.nm 6 "_law_height" ⟨129, 111, 129, 122⟩) .nil)) 0 ⟨129, 101, 129, 122⟩) (.ex (.var 3 "_law_towers_here" ⟨129, 126, 129, 142⟩)) .none [("_law_key", 5), ("_law_height", 6)] ⟨.function, [(".0", .local), ("_law_key", .local), ("_law_height", .local)], false, false, []⟩ ⟨129, 84, 129, 143⟩) .nil) ⟨129, 78, 129, 83⟩ ⟨129, 78, 129, 144⟩) ⟨129, 49, 129, 144⟩) .nil)) ⟨129, 11, 129, 144⟩) (.cons (.ret (.con (.bool false) 0 ⟨130, 19, 130, 24⟩) ⟨130, 12, 130, 24⟩) .nil) .nil ⟨129, 8, 130, 24⟩) (.cons (.iff (.bop .Or (.cons (.cmp .IsNot (.call "is_towers" 7 (.cons (.var 3 "_law_towers_here" ⟨131, 21, 131, 37⟩) .nil) ⟨131, 11, 131, 20⟩ ⟨131, 11, 131, 38⟩) (.con (.bool true) 0 ⟨131, 46, 131, 50⟩) ⟨131, 11, 131, 50⟩) (.cons (.cmp .IsNot (.call "is_towers" 7 (.cons (.var 7 "_law_lists" ⟨131, 64, 131, 74⟩) .nil) ⟨131, 54, 131, 63⟩ ⟨131, 54, 131, 75⟩) (.con (.bool true) 0 ⟨131, 83, 131, 87⟩) ⟨131, 54, 131, 87⟩) (.cons (.cmp .NotEq (.call "top" 9 (.cons (.var 7 "_law_lists" ⟨131, 95, 131, 105⟩) .nil) ⟨131, 91, 131, 94⟩ ⟨131, 91, 131, 106⟩) (.var 4 "_law_high" ⟨131, 110, 131, 119⟩) ⟨131, 91, 131, 119⟩) .nil))) ⟨131, 11, 131, 119⟩) (.cons (.ret (.con (.bool false) 0 ⟨132, 19, 132, 24⟩) ⟨132, 12, 132, 24⟩) .nil) .nil ⟨131, 8, 132, 24⟩) (.cons (.asg (.nm 8 "_law_places" ⟨133, 8, 133, 19⟩) (.lst (.cons (.con (.int 0) 0 ⟨133, 23, 133, 24⟩) .nil) ⟨133, 22, 133, 25⟩) ⟨133, 8, 133, 25⟩) (.cons (.fr (.nm 9 "_law_k" ⟨134, 12, 134, 18⟩) (.rng1 (.op .Mult (.con (.int 6) 0 ⟨134, 28, 134, 29⟩) (.bi .int (.cons (.cmp .NotEq (.var 3 "_law_towers_here" ⟨134, 36, 134, 52⟩) (.tup .nil 0 ⟨134, 56, 134, 58⟩) ⟨134, 36, 134, 58⟩) .nil) ⟨134, 32, 134, 35⟩ ⟨134, 32, 134, 59⟩) ⟨134, 28, 134, 59⟩) ⟨134, 22, 134, 27⟩ ⟨134, 22, 134, 60⟩) (.cons (.ex (.mt (.var 8 "_law_places" ⟨135, 12, 135, 23⟩) .append (.cons (.op .Add (.ix (.call "_law_one" 18 (.cons (.var 2 "_law_source" ⟨135, 40, 135, 51⟩) (.cons (.var 3 "_law_towers_here" ⟨135, 53, 135, 69⟩) .nil)) ⟨135, 31, 135, 39⟩ ⟨135, 31, 135, 70⟩) (.con (.int 0) 0 ⟨135, 71, 135, 72⟩) ⟨135, 31, 135, 73⟩) (.call "_law_one" 18 (.cons (.var 2 "_law_source" ⟨135, 85, 135, 96⟩) (.cons (.lst (.cons (.con (.int 0) 0 ⟨135, 99, 135, 100⟩) (.cons (.con (.int 0) 0 ⟨135, 102, 135, 103⟩) (.cons (.con (.int 1) 0 ⟨135, 105, 135, 106⟩) (.cons (.neg (.con (.int 1) 0 ⟨135, 109, 135, 110⟩) ⟨135, 108, 135, 110⟩) .nil)))) ⟨135, 98, 135, 111⟩) .nil)) ⟨135, 76, 135, 84⟩ ⟨135, 76, 135, 112⟩) ⟨135, 31, 135, 112⟩) .nil) ⟨135, 12, 135, 30⟩ ⟨135, 12, 135, 113⟩) ⟨135, 12, 135, 113⟩) .nil) ⟨134, 8, 135, 113⟩) (.cons (.iff (.bop .Or (.cons (.not (.call "_law_keys_right" 22 (.cons (.var 3 "_law_towers_here" ⟨136, 31, 136, 47⟩) (.cons (.var 8 "_law_places" ⟨136, 49, 136, 60⟩) (.cons (.var 4 "_law_high" ⟨136, 62, 136, 71⟩) .nil))) ⟨136, 15, 136, 30⟩ ⟨136, 15, 136, 72⟩) ⟨136, 11, 136, 72⟩) (.cons (.cmp .NotEq (.call "links" 15 (.cons (.var 7 "_law_lists" ⟨136, 82, 136, 92⟩) .nil) ⟨136, 76, 136, 81⟩ ⟨136, 76, 136, 93⟩) (.call "_law_links" 21 (.cons (.var 3 "_law_towers_here" ⟨136, 108, 136, 124⟩) (.cons (.var 4 "_law_high" ⟨136, 126, 136, 135⟩) .nil)) ⟨136, 97, 136, 107⟩ ⟨136, 97, 136, 136⟩) ⟨136, 76, 136, 136⟩) .nil)) ⟨136, 11, 136, 136⟩) (.cons (.ret (.con (.bool false) 0 ⟨137, 19, 137, 24⟩) ⟨137, 12, 137, 24⟩) .nil) .nil ⟨136, 8, 137, 24⟩) (.cons (.ex (.mt (.call "links" 15 (.cons (.var 3 "_law_towers_here" ⟨138, 14, 138, 30⟩) .nil) ⟨138, 8, 138, 13⟩ ⟨138, 8, 138, 31⟩) .clear .nil ⟨138, 8, 138, 37⟩ ⟨138, 8, 138, 39⟩) ⟨138, 8, 138, 39⟩) (.cons (.ex (.mt (.call "lane" 12 (.cons (.var 3 "_law_towers_here" ⟨139, 13, 139, 29⟩) (.cons (.con (.int 1) 0 ⟨139, 31, 139, 32⟩) .nil)) ⟨139, 8, 139, 12⟩ ⟨139, 8, 139, 33⟩) .append (.cons (.con .none 0 ⟨139, 41, 139, 45⟩) .nil) ⟨139, 8, 139, 40⟩ ⟨139, 8, 139, 46⟩) ⟨139, 8, 139, 46⟩) (.cons (.iff (.bop .Or (.cons (.cmp .NotEq (.call "links" 15 (.cons (.var 3 "_law_towers_here" ⟨140, 17, 140, 33⟩) .nil) ⟨140, 11, 140, 16⟩ ⟨140, 11, 140, 34⟩) (.call "_law_links" 21 (.cons (.var 3 "_law_towers_here" ⟨140, 49, 140, 65⟩) (.cons (.var 4 "_law_high" ⟨140, 67, 140, 76⟩) .nil)) ⟨140, 38, 140, 48⟩ ⟨140, 38, 140, 77⟩) ⟨140, 11, 140, 77⟩) (.cons (.cmp .NotEq (.call "lane" 12 (.cons (.var 7 "_law_lists" ⟨140, 86, 140, 96⟩) (.cons (.con (.int 1) 0 ⟨140, 98, 140, 99⟩) .nil)) ⟨140, 81, 140, 85⟩ ⟨140, 81, 140, 100⟩) (.lc (.var 5 "_law_key" ⟨140, 105, 140, 113⟩) (.tp (.cons (.nm 5 "_law_key" ⟨140, 118, 140, 126⟩) (.cons (.nm 6 "_law_height" ⟨140, 128, 140, 139⟩) .nil)) 0 ⟨140, 118, 140, 139⟩) (.ex (.var 3 "_law_towers_here" ⟨140, 143, 140, 159⟩)) .none [("_law_key", 5), ("_law_height", 6)] ⟨.function, [(".0", .local), ("_law_key", .local), ("_law_height", .local)], false, false, []⟩ ⟨140, 104, 140, 160⟩) ⟨140, 81, 140, 160⟩) .nil)) ⟨140, 11, 140, 160⟩) (.cons (.ret (.con (.bool false) 0 ⟨141, 19, 141, 24⟩) ⟨141, 12, 141, 24⟩) .nil) .nil ⟨140, 8, 141, 24⟩) (.cons (.iff (.cmp .NotEq (.var 7 "_law_lists" ⟨142, 11, 142, 21⟩) (.lc (.bi .list (.cons (.var 10 "_law_pair" ⟨142, 31, 142, 40⟩) .nil) ⟨142, 26, 142, 30⟩ ⟨142, 26, 142, 41⟩) (.nm 10 "_law_pair" ⟨142, 46, 142, 55⟩) (.ex (.var 3 "_law_towers_here" ⟨142, 59, 142, 75⟩)) .none [("_law_pair", 10)] ⟨.function, [(".0", .local), ("_law_pair", .local), ("list", .globalImplicit)], false, false, []⟩ ⟨142, 25, 142, 76⟩) ⟨142, 11, 142, 76⟩) (.cons (.ret (.con (.bool false) 0 ⟨143, 19, 143, 24⟩) ⟨143, 12, 143, 24⟩) .nil) .nil ⟨142, 8, 143, 24⟩) .nil)))))))))))))) ⟨122, 4, 143, 24⟩) (.cons (.ret (.bop .And (.cons (.cmp .Eq (.call "top" 9 (.cons (.tup .nil 0 ⟨144, 15, 144, 17⟩) .nil) ⟨144, 11, 144, 14⟩ ⟨144, 11, 144, 18⟩) (.con (.int 0) 0 ⟨144, 22, 144, 23⟩) ⟨144, 11, 144, 23⟩) (.cons (.cmp .Eq (.call "heights" 10 (.cons (.lst .nil ⟨144, 36, 144, 38⟩) .nil) ⟨144, 28, 144, 35⟩ ⟨144, 28, 144, 39⟩) (.tup .nil 0 ⟨144, 43, 144, 45⟩) ⟨144, 28, 144, 45⟩) (.cons (.cmp .Eq (.call "links" 15 (.cons (.tup .nil 0 ⟨144, 57, 144, 59⟩) .nil) ⟨144, 51, 144, 56⟩ ⟨144, 51, 144, 60⟩) (.lst .nil ⟨144, 64, 144, 66⟩) ⟨144, 51, 144, 66⟩) (.cons (.cmp .Eq (.call "lane" 12 (.cons (.tup .nil 0 ⟨144, 78, 144, 80⟩) (.cons (.con (.int 3) 0 ⟨144, 82, 144, 83⟩) .nil)) ⟨144, 73, 144, 77⟩ ⟨144, 73, 144, 84⟩) (.lst .nil ⟨144, 88, 144, 90⟩) ⟨144, 73, 144, 90⟩) (.cons (.cmp .Is (.call "is_towers" 7 (.cons (.tup .nil 0 ⟨144, 107, 144, 109⟩) .nil) ⟨144, 97, 144, 106⟩ ⟨144, 97, 144, 110⟩) (.con (.bool true) 0 ⟨144, 114, 144, 118⟩) ⟨144, 97, 144, 118⟩) .nil))))) ⟨144, 11, 144, 119⟩) ⟨144, 4, 144, 119⟩) .nil))
def d_is_integer : Def := ⟨"is_integer", ["value"], [], ["value"], defScope (top 6), b_is_integer⟩
def h_is_integer : He.DefD := ⟨("is_integer", none), "is_integer", "is_integer", defArgs (top 6), defBody (top 6), defScope (top 6), [], []⟩
def d_is_row : Def := ⟨"is_row", ["value"], [], ["value"], defScope (top 7), b_is_row⟩
def h_is_row : He.DefD := ⟨("is_row", none), "is_row", "is_row", defArgs (top 7), defBody (top 7), defScope (top 7), [], []⟩
def d_is_pair : Def := ⟨"is_pair", ["value"], [], ["value"], defScope (top 8), b_is_pair⟩
def h_is_pair : He.DefD := ⟨("is_pair", none), "is_pair", "is_pair", defArgs (top 8), defBody (top 8), defScope (top 8), [], []⟩
def d_wrong_at : Def := ⟨"wrong_at", ["thing"], [], ["thing", "index", "one"], defScope (top 9), b_wrong_at⟩
def h_wrong_at : He.DefD := ⟨("wrong_at", none), "wrong_at", "wrong_at", defArgs (top 9), defBody (top 9), defScope (top 9), [], []⟩
def d_checked : Def := ⟨"checked", ["towers"], [], ["towers", "index", "key", "height"], defScope (top 10), b_checked⟩
def h_checked : He.DefD := ⟨("checked", none), "checked", "checked", defArgs (top 10), defBody (top 10), defScope (top 10), [], []⟩
def d_look_key : Def := ⟨"look_key", ["key"], [], ["key"], defScope (top 11), b_look_key⟩
def h_look_key : He.DefD := ⟨("look_key", none), "look_key", "look_key", defArgs (top 11), defBody (top 11), defScope (top 11), [], []⟩
def d_look_from : Def := ⟨"look_from", ["value", "least", "most"], [.non], ["value", "least", "most"], defScope (top 12), b_look_from⟩
def h_look_from : He.DefD := ⟨("look_from", none), "look_from", "look_from", defArgs (top 12), defBody (top 12), defScope (top 12), [.non], []⟩
def d_is_towers : Def := ⟨"is_towers", ["thing"], [], ["thing"], defScope (top 13), b_is_towers⟩
def h_is_towers : He.DefD := ⟨("is_towers", none), "is_towers", "is_towers", defArgs (top 13), defBody (top 13), defScope (top 13), [], []⟩
def d_highest : Def := ⟨"highest", ["known"], [], ["known", "key", "height"], defScope (top 14), b_highest⟩
def h_highest : He.DefD := ⟨("highest", none), "highest", "highest", defArgs (top 14), defBody (top 14), defScope (top 14), [], []⟩
def d_top : Def := ⟨"top", ["towers"], [], ["towers"], defScope (top 15), b_top⟩
def h_top : He.DefD := ⟨("top", none), "top", "top", defArgs (top 15), defBody (top 15), defScope (top 15), [], []⟩
def d_heights : Def := ⟨"heights", ["towers"], [], ["towers", "key", "height"], defScope (top 16), b_heights⟩
def h_heights : He.DefD := ⟨("heights", none), "heights", "heights", defArgs (top 16), defBody (top 16), defScope (top 16), [], []⟩
def d_height_of : Def := ⟨"height_of", ["towers", "key"], [], ["towers", "key", "known"], defScope (top 17), b_height_of⟩
def h_height_of : He.DefD := ⟨("height_of", none), "height_of", "height_of", defArgs (top 17), defBody (top 17), defScope (top 17), [], []⟩
def d_lane : Def := ⟨"lane", ["towers", "level"], [], ["towers", "level", "known", "key", "height"], defScope (top 18), b_lane⟩
def h_lane : He.DefD := ⟨("lane", none), "lane", "lane", defArgs (top 18), defBody (top 18), defScope (top 18), [], []⟩
def d_next_key : Def := ⟨"next_key", ["towers", "key", "level"], [], ["towers", "key", "level", "known", "some", "one", "height"], defScope (top 19), b_next_key⟩
def h_next_key : He.DefD := ⟨("next_key", none), "next_key", "next_key", defArgs (top 19), defBody (top 19), defScope (top 19), [], []⟩
def d_links_from : Def := ⟨"links_from", ["known", "start", "level"], [], ["known", "start", "level", "some", "key", "height"], defScope (top 20), b_links_from⟩
def h_links_from : He.DefD := ⟨("links_from", none), "links_from", "links_from", defArgs (top 20), defBody (top 20), defScope (top 20), [], []⟩
def d_links : Def := ⟨"links", ["towers"], [], ["towers", "known", "found", "index", "key", "height", "level"], defScope (top 21), b_links⟩
def h_links : He.DefD := ⟨("links", none), "links", "links", defArgs (top 21), defBody (top 21), defScope (top 21), [], []⟩
def d__law_source_of : Def := ⟨"_law_source_of", ["_law_cell"], [], ["_law_cell"], defScope (top 23), b__law_source_of⟩
def h__law_source_of : He.DefD := ⟨("_law_source_of", none), "_law_source_of", "_law_source_of", defArgs (top 23), defBody (top 23), defScope (top 23), [], []⟩
def d__law_next : Def := ⟨"_law_next", ["_law_source", "_law_many"], [], ["_law_source", "_law_many", "_law_found", "_law_prime", "_law_number"], defScope (top 24), b__law_next⟩
def h__law_next : He.DefD := ⟨("_law_next", none), "_law_next", "_law_next", defArgs (top 24), defBody (top 24), defScope (top 24), [], []⟩
def d__law_one : Def := ⟨"_law_one", ["_law_source", "_law_some"], [], ["_law_source", "_law_some"], defScope (top 25), b__law_one⟩
def h__law_one : He.DefD := ⟨("_law_one", none), "_law_one", "_law_one", defArgs (top 25), defBody (top 25), defScope (top 25), [], []⟩
def d__law_towers : Def := ⟨"_law_towers", ["_law_source", "_law_many", "_law_high"], [], ["_law_source", "_law_many", "_law_high", "_law_found", "_law_key", "_law_k", "_law_height"], defScope (top 26), b__law_towers⟩
def h__law_towers : He.DefD := ⟨("_law_towers", none), "_law_towers", "_law_towers", defArgs (top 26), defBody (top 26), defScope (top 26), [], []⟩
def d__law_next_key : Def := ⟨"_law_next_key", ["_law_towers_here", "_law_key", "_law_level"], [], ["_law_towers_here", "_law_key", "_law_level", "_law_one_here", "_law_height"], defScope (top 27), b__law_next_key⟩
def h__law_next_key : He.DefD := ⟨("_law_next_key", none), "_law_next_key", "_law_next_key", defArgs (top 27), defBody (top 27), defScope (top 27), [], []⟩
def d__law_links : Def := ⟨"_law_links", ["_law_towers_here", "_law_high"], [], ["_law_towers_here", "_law_high", "_law_level", "_law_found", "_law_key", "_law_height"], defScope (top 28), b__law_links⟩
def h__law_links : He.DefD := ⟨("_law_links", none), "_law_links", "_law_links", defArgs (top 28), defBody (top 28), defScope (top 28), [], []⟩
def d__law_keys_right : Def := ⟨"_law_keys_right", ["_law_towers_here", "_law_places", "_law_high"], [], ["_law_towers_here", "_law_places", "_law_high", "_law_known", "_law_level", "_law_place", "_law_key", "_law_height"], defScope (top 29), b__law_keys_right⟩
def h__law_keys_right : He.DefD := ⟨("_law_keys_right", none), "_law_keys_right", "_law_keys_right", defArgs (top 29), defBody (top 29), defScope (top 29), [], []⟩
def d_law : Def := ⟨"law", ["_law_script"], [], ["_law_script", "_law_cell", "_law_source", "_law_towers_here", "_law_high", "_law_key", "_law_height", "_law_lists", "_law_places", "_law_k", "_law_pair"], defScope (top 30), b_law⟩
def h_law : He.DefD := ⟨("law", none), "law", "law", defArgs (top 30), defBody (top 30), defScope (top 30), [], []⟩
def defs : List Def := [d_is_integer, d_is_row, d_is_pair, d_wrong_at, d_checked, d_look_key, d_look_from, d_is_towers, d_highest, d_top, d_heights, d_height_of, d_lane, d_next_key, d_links_from, d_links, d__law_source_of, d__law_next, d__law_one, d__law_towers, d__law_next_key, d__law_links, d__law_keys_right, d_law]
def fn : List He.DefD := [h_is_integer, h_is_row, h_is_pair, h_wrong_at, h_checked, h_look_key, h_look_from, h_is_towers, h_highest, h_top, h_heights, h_height_of, h_lane, h_next_key, h_links_from, h_links, h__law_source_of, h__law_next, h__law_one, h__law_towers, h__law_next_key, h__law_links, h__law_keys_right, h_law]
def gl : List (Str × Int) := []
def fa : List He.Fa := [.glo "is_integer", .glo "is_row", .glo "is_pair", .glo "wrong_at", .glo "checked", .glo "look_key", .glo "look_from", .glo "is_towers", .glo "highest", .glo "top", .glo "heights", .glo "height_of", .glo "lane", .glo "next_key", .glo "links_from", .glo "links", .glo "_law_source_of", .glo "_law_next", .glo "_law_one", .glo "_law_towers", .glo "_law_next_key", .glo "_law_links", .glo "_law_keys_right", .glo "law"] ++ bltNames.map .free
def loose : List Str := ["LaneError", "NoTowers", "NoKey", "NoNumber", "is_integer", "is_row", "is_pair", "wrong_at", "checked", "look_key", "look_from", "is_towers", "highest", "top", "heights", "height_of", "lane", "next_key", "links_from", "links", "_law_source_of", "_law_next", "_law_one", "_law_towers", "_law_next_key", "_law_links", "_law_keys_right"]
def lawAt : Nat := 30
section
variable {K : PySem.W.Frag} {h : Heap} {mg : Str → Option Value}
theorem s_is_integer : FnScope d_is_integer.N d_is_integer.ps d_is_integer.sc := ⟨rfl, rfl, rfl, by decide +kernel, rfl, by decide +kernel, by decide +kernel⟩
theorem ok_is_integer (X : K.In h) (G : h.Ns mainGlobals mg) (c : He.SaysD fa fn K) : DefOk K mg d_is_integer := by
  obtain ⟨fd, F⟩ := c.def_ 0 (d := h_is_integer) rfl
  have g := He.glo_ok X G (c.fact 0 (f := .glo "is_integer") rfl)
  refine ⟨_, fd, _, _, g, F, s_is_integer, fun H ρ => rfl, fun m h1 h2 => ?_⟩
  exact ⟨[], vals_drop0, F.bindsN fun _ _ _ _ _ _ us hl => match us, hl with | [_], _ => rfl⟩
theorem s_is_row : FnScope d_is_row.N d_is_row.ps d_is_row.sc := ⟨rfl, rfl, rfl, by decide +kernel, rfl, by decide +kernel, by decide +kernel⟩
theorem ok_is_row (X : K.In h) (G : h.Ns mainGlobals mg) (c : He.SaysD fa fn K) : DefOk K mg d_is_row := by
  obtain ⟨fd, F⟩ := c.def_ 1 (d := h_is_row) rfl
  have g := He.glo_ok X G (c.fact 1 (f := .glo "is_row") rfl)
  refine ⟨_, fd, _, _, g, F, s_is_row, fun H ρ => rfl, fun m h1 h2 => ?_⟩
  exact ⟨[], vals_drop0, F.bindsN fun _ _ _ _ _ _ us hl => match us, hl with | [_], _ => rfl⟩
theorem s_is_pair : FnScope d_is_pair.N d_is_pair.ps d_is_pair.sc := ⟨rfl, rfl, rfl, by decide +kernel, rfl, by decide +kernel, by decide +kernel⟩
theorem ok_is_pair (X : K.In h) (G : h.Ns mainGlobals mg) (c : He.SaysD fa fn K) : DefOk K mg d_is_pair := by
  obtain ⟨fd, F⟩ := c.def_ 2 (d := h_is_pair) rfl
  have g := He.glo_ok X G (c.fact 2 (f := .glo "is_pair") rfl)
  refine ⟨_, fd, _, _, g, F, s_is_pair, fun H ρ => rfl, fun m h1 h2 => ?_⟩
  exact ⟨[], vals_drop0, F.bindsN fun _ _ _ _ _ _ us hl => match us, hl with | [_], _ => rfl⟩
theorem s_wrong_at : FnScope d_wrong_at.N d_wrong_at.ps d_wrong_at.sc := ⟨rfl, rfl, rfl, by decide +kernel, rfl, by decide +kernel, by decide +kernel⟩
theorem ok_wrong_at (X : K.In h) (G : h.Ns mainGlobals mg) (c : He.SaysD fa fn K) : DefOk K mg d_wrong_at := by
  obtain ⟨fd, F⟩ := c.def_ 3 (d := h_wrong_at) rfl
  have g := He.glo_ok X G (c.fact 3 (f := .glo "wrong_at") rfl)
  refine ⟨_, fd, _, _, g, F, s_wrong_at, fun H ρ => rfl, fun m h1 h2 => ?_⟩
  exact ⟨[], vals_drop0, F.bindsN fun _ _ _ _ _ _ us hl => match us, hl with | [_], _ => rfl⟩
theorem s_checked : FnScope d_checked.N d_checked.ps d_checked.sc := ⟨rfl, rfl, rfl, by decide +kernel, rfl, by decide +kernel, by decide +kernel⟩
theorem ok_checked (X : K.In h) (G : h.Ns mainGlobals mg) (c : He.SaysD fa fn K) : DefOk K mg d_checked := by
  obtain ⟨fd, F⟩ := c.def_ 4 (d := h_checked) rfl
  have g := He.glo_ok X G (c.fact 4 (f := .glo "checked") rfl)
  refine ⟨_, fd, _, _, g, F, s_checked, fun H ρ => rfl, fun m h1 h2 => ?_⟩
  exact ⟨[], vals_drop0, F.bindsN fun _ _ _ _ _ _ us hl => match us, hl with | [_], _ => rfl⟩
theorem s_look_key : FnScope d_look_key.N d_look_key.ps d_look_key.sc := ⟨rfl, rfl, rfl, by decide +kernel, rfl, by decide +kernel, by decide +kernel⟩
theorem ok_look_key (X : K.In h) (G : h.Ns mainGlobals mg) (c : He.SaysD fa fn K) : DefOk K mg d_look_key := by
  obtain ⟨fd, F⟩ := c.def_ 5 (d := h_look_key) rfl
  have g := He.glo_ok X G (c.fact 5 (f := .glo "look_key") rfl)
  refine ⟨_, fd, _, _, g, F, s_look_key, fun H ρ => rfl, fun m h1 h2 => ?_⟩
  exact ⟨[], vals_drop0, F.bindsN fun _ _ _ _ _ _ us hl => match us, hl with | [_], _ => rfl⟩
theorem s_look_from : FnScope d_look_from.N d_look_from.ps d_look_from.sc := ⟨rfl, rfl, rfl, by decide +kernel, rfl, by decide +kernel, by decide +kernel⟩
theorem ok_look_from (X : K.In h) (G : h.Ns mainGlobals mg) (c : He.SaysD fa fn K) : DefOk K mg d_look_from := by
  obtain ⟨fd, F⟩ := c.def_ 6 (d := h_look_from) rfl
  have g := He.glo_ok X G (c.fact 6 (f := .glo "look_from") rfl)
  refine ⟨_, fd, _, _, g, F, s_look_from, fun H ρ => ⟨_, _, rfl, rfl, rfl⟩, fun m h1 h2 => ?_⟩
  have e : m = 2 ∨ m = 3 := by
    have h3 : d_look_from.ps.length = 3 := rfl
    have h4 : d_look_from.dfs.length = 1 := rfl
    omega
  rcases e with rfl | rfl
  · exact F.binds1 2 0 (fun z => nomatch z) rfl fun _ _ _ _ _ _ _ us its hl hm => match us, hl, its, hm with | [_, _], _, [_], _ => ⟨_, rfl, rfl⟩
  · exact F.binds1 3 1 (fun z => nomatch z) rfl fun _ _ _ _ _ _ _ us its hl hm => match us, hl, its, hm with | [_, _, _], _, [_], _ => ⟨_, rfl, rfl⟩
theorem s_is_towers : FnScope d_is_towers.N d_is_towers.ps d_is_towers.sc := ⟨rfl, rfl, rfl, by decide +kernel, rfl, by decide +kernel, by decide +kernel⟩
theorem ok_is_towers (X : K.In h) (G : h.Ns mainGlobals mg) (c : He.SaysD fa fn K) : DefOk K mg d_is_towers := by
  obtain ⟨fd, F⟩ := c.def_ 7 (d := h_is_towers) rfl
  have g := He.glo_ok X G (c.fact 7 (f := .glo "is_towers") rfl)
  refine ⟨_, fd, _, _, g, F, s_is_towers, fun H ρ => rfl, fun m h1 h2 => ?_⟩
  exact ⟨[], vals_drop0, F.bindsN fun _ _ _ _ _ _ us hl => match us, hl with | [_], _ => rfl⟩
theorem s_highest : FnScope d_highest.N d_highest.ps d_highest.sc := ⟨rfl, rfl, rfl, by decide +kernel, rfl, by decide +kernel, by decide +kernel⟩
theorem ok_highest (X : K.In h) (G : h.Ns mainGlobals mg) (c : He.SaysD fa fn K) : DefOk K mg d_highest := by
  obtain ⟨fd, F⟩ := c.def_ 8 (d := h_highest) rfl
  have g := He.glo_ok X G (c.fact 8 (f := .glo "highest") rfl)
  refine ⟨_, fd, _, _, g, F, s_highest, fun H ρ => rfl, fun m h1 h2 => ?_⟩
  exact ⟨[], vals_drop0, F.bindsN fun _ _ _ _ _ _ us hl => match us, hl with | [_], _ => rfl⟩
theorem s_top : FnScope d_top.N d_top.ps d_top.sc := ⟨rfl, rfl, rfl, by decide +kernel, rfl, by decide +kernel, by decide +kernel⟩
theorem ok_top (X : K.In h) (G : h.Ns mainGlobals mg) (c : He.SaysD fa fn K) : DefOk K mg d_top := by
  obtain ⟨fd, F⟩ := c.def_ 9 (d := h_top) rfl
  have g := He.glo_ok X G (c.fact 9 (f := .glo "top") rfl)
  refine ⟨_, fd, _, _, g, F, s_top, fun H ρ => rfl, fun m h1 h2 => ?_⟩
  exact ⟨[], vals_drop0, F.bindsN fun _ _ _ _ _ _ us hl => match us, hl with | [_], _ => rfl⟩
theorem s_heights : FnScope d_heights.N d_heights.ps d_heights.sc := ⟨rfl, rfl, rfl, by decide +kernel, rfl, by decide +kernel, by decide +kernel⟩
theorem ok_heights (X : K.In h) (G : h.Ns mainGlobals mg) (c : He.SaysD fa fn K) : DefOk K mg d_heights := by
  obtain ⟨fd, F⟩ := c.def_ 10 (d := h_heights) rfl
  have g := He.glo_ok X G (c.fact 10 (f := .glo "heights") rfl)
  refine ⟨_, fd, _, _, g, F, s_heights, fun H ρ => rfl, fun m h1 h2 => ?_⟩
  exact ⟨[], vals_drop0, F.bindsN fun _ _ _ _ _ _ us hl => match us, hl with | [_], _ => rfl⟩
theorem s_height_of : FnScope d_height_of.N d_height_of.ps d_height_of.sc := ⟨rfl, rfl, rfl, by decide +kernel, rfl, by decide +kernel, by decide +kernel⟩
theorem ok_height_of (X : K.In h) (G : h.Ns mainGlobals mg) (c : He.SaysD fa fn K) : DefOk K mg d_height_of := by
  obtain ⟨fd, F⟩ := c.def_ 11 (d := h_height_of) rfl
  have g := He.glo_ok X G (c.fact 11 (f := .glo "height_of") rfl)
  refine ⟨_, fd, _, _, g, F, s_height_of, fun H ρ => rfl, fun m h1 h2 => ?_⟩
  exact ⟨[], vals_drop0, F.bindsN fun _ _ _ _ _ _ us hl => match us, hl with | [_, _], _ => rfl⟩
theorem s_lane : FnScope d_lane.N d_lane.ps d_lane.sc := ⟨rfl, rfl, rfl, by decide +kernel, rfl, by decide +kernel, by decide +kernel⟩
theorem ok_lane (X : K.In h) (G : h.Ns mainGlobals mg) (c : He.SaysD fa fn K) : DefOk K mg d_lane := by
  obtain ⟨fd, F⟩ := c.def_ 12 (d := h_lane) rfl
  have g := He.glo_ok X G (c.fact 12 (f := .glo "lane") rfl)
  refine ⟨_, fd, _, _, g, F, s_lane, fun H ρ => rfl, fun m h1 h2 => ?_⟩
  exact ⟨[], vals_drop0, F.bindsN fun _ _ _ _ _ _ us hl => match us, hl with | [_, _], _ => rfl⟩
theorem s_next_key : FnScope d_next_key.N d_next_key.ps d_next_key.sc := ⟨rfl, rfl, rfl, by decide +kernel, rfl, by decide +kernel, by decide +kernel⟩
theorem ok_next_key (X : K.In h) (G : h.Ns mainGlobals mg) (c : He.SaysD fa fn K) : DefOk K mg d_next_key := by
  obtain ⟨fd, F⟩ := c.def_ 13 (d := h_next_key) rfl
  have g := He.glo_ok X G (c.fact 13 (f := .glo "next_key") rfl)
  refine ⟨_, fd, _, _, g, F, s_next_key, fun H ρ => rfl, fun m h1 h2 => ?_⟩
  exact ⟨[], vals_drop0, F.bindsN fun _ _ _ _ _ _ us hl => match us, hl with | [_, _, _], _ => rfl⟩
theorem s_links_from : FnScope d_links_from.N d_links_from.ps d_links_from.sc := ⟨rfl, rfl, rfl, by decide +kernel, rfl, by decide +kernel, by decide +kernel⟩
theorem ok_links_from (X : K.In h) (G : h.Ns mainGlobals mg) (c : He.SaysD fa fn K) : DefOk K mg d_links_from := by
  obtain ⟨fd, F⟩ := c.def_ 14 (d := h_links_from) rfl
  have g := He.glo_ok X G (c.fact 14 (f := .glo "links_from") rfl)
  refine ⟨_, fd, _, _, g, F, s_links_from, fun H ρ => rfl, fun m h1 h2 => ?_⟩
  exact ⟨[], vals_drop0, F.bindsN fun _ _ _ _ _ _ us hl => match us, hl with | [_, _, _], _ => rfl⟩
theorem s_links : FnScope d_links.N d_links.ps d_links.sc := ⟨rfl, rfl, rfl, by decide +kernel, rfl, by decide +kernel, by decide +kernel⟩
theorem ok_links (X : K.In h) (G : h.Ns mainGlobals mg) (c : He.SaysD fa fn K) : DefOk K mg d_links := by
  obtain ⟨fd, F⟩ := c.def_ 15 (d := h_links) rfl
  have g := He.glo_ok X G (c.fact 15 (f := .glo "links") rfl)
  refine ⟨_, fd, _, _, g, F, s_links, fun H ρ => rfl, fun m h1 h2 => ?_⟩
  exact ⟨[], vals_drop0, F.bindsN fun _ _ _ _ _ _ us hl => match us, hl with | [_], _ => rfl⟩
theorem s__law_source_of : FnScope d__law_source_of.N d__law_source_of.ps d__law_source_of.sc := ⟨rfl, rfl, rfl, by decide +kernel, rfl, by decide +kernel, by decide +kernel⟩
theorem ok__law_source_of (X : K.In h) (G : h.Ns mainGlobals mg) (c : He.SaysD fa fn K) : DefOk K mg d__law_source_of := by
  obtain ⟨fd, F⟩ := c.def_ 16 (d := h__law_source_of) rfl
  have g := He.glo_ok X G (c.fact 16 (f := .glo "_law_source_of") rfl)
  refine ⟨_, fd, _, _, g, F, s__law_source_of, fun H ρ => rfl, fun m h1 h2 => ?_⟩
  exact ⟨[], vals_drop0, F.bindsN fun _ _ _ _ _ _ us hl => match us, hl with | [_], _ => rfl⟩
theorem s__law_next : FnScope d__law_next.N d__law_next.ps d__law_next.sc := ⟨rfl, rfl, rfl, by decide +kernel, rfl, by decide +kernel, by decide +kernel⟩
theorem ok__law_next (X : K.In h) (G : h.Ns mainGlobals mg) (c : He.SaysD fa fn K) : DefOk K mg d__law_next := by
  obtain ⟨fd, F⟩ := c.def_ 17 (d := h__law_next) rfl
  have g := He.glo_ok X G (c.fact 17 (f := .glo "_law_next") rfl)
  refine ⟨_, fd, _, _, g, F, s__law_next, fun H ρ => rfl, fun m h1 h2 => ?_⟩
  exact ⟨[], vals_drop0, F.bindsN fun _ _ _ _ _ _ us hl => match us, hl with | [_, _], _ => rfl⟩
theorem s__law_one : FnScope d__law_one.N d__law_one.ps d__law_one.sc := ⟨rfl, rfl, rfl, by decide +kernel, rfl, by decide +kernel, by decide +kernel⟩
theorem ok__law_one (X : K.In h) (G : h.Ns mainGlobals mg) (c : He.SaysD fa fn K) : DefOk K mg d__law_one := by
  obtain ⟨fd, F⟩ := c.def_ 18 (d := h__law_one) rfl
  have g := He.glo_ok X G (c.fact 18 (f := .glo "_law_one") rfl)
  refine ⟨_, fd, _, _, g, F, s__law_one, fun H ρ => rfl, fun m h1 h2 => ?_⟩
  exact ⟨[], vals_drop0, F.bindsN fun _ _ _ _ _ _ us hl => match us, hl with | [_, _], _ => rfl⟩
theorem s__law_towers : FnScope d__law_towers.N d__law_towers.ps d__law_towers.sc := ⟨rfl, rfl, rfl, by decide +kernel, rfl, by decide +kernel, by decide +kernel⟩
theorem ok__law_towers (X : K.In h) (G : h.Ns mainGlobals mg) (c : He.SaysD fa fn K) : DefOk K mg d__law_towers := by
  obtain ⟨fd, F⟩ := c.def_ 19 (d := h__law_towers) rfl
  have g := He.glo_ok X G (c.fact 19 (f := .glo "_law_towers") rfl)
  refine ⟨_, fd, _, _, g, F, s__law_towers, fun H ρ => rfl, fun m h1 h2 => ?_⟩
  exact ⟨[], vals_drop0, F.bindsN fun _ _ _ _ _ _ us hl => match us, hl with | [_, _, _], _ => rfl⟩
theorem s__law_next_key : FnScope d__law_next_key.N d__law_next_key.ps d__law_next_key.sc := ⟨rfl, rfl, rfl, by decide +kernel, rfl, by decide +kernel, by decide +kernel⟩
theorem ok__law_next_key (X : K.In h) (G : h.Ns mainGlobals mg) (c : He.SaysD fa fn K) : DefOk K mg d__law_next_key := by
  obtain ⟨fd, F⟩ := c.def_ 20 (d := h__law_next_key) rfl
  have g := He.glo_ok X G (c.fact 20 (f := .glo "_law_next_key") rfl)
  refine ⟨_, fd, _, _, g, F, s__law_next_key, fun H ρ => rfl, fun m h1 h2 => ?_⟩
  exact ⟨[], vals_drop0, F.bindsN fun _ _ _ _ _ _ us hl => match us, hl with | [_, _, _], _ => rfl⟩
theorem s__law_links : FnScope d__law_links.N d__law_links.ps d__law_links.sc := ⟨rfl, rfl, rfl, by decide +kernel, rfl, by decide +kernel, by decide +kernel⟩
theorem ok__law_links (X : K.In h) (G : h.Ns mainGlobals mg) (c : He.SaysD fa fn K) : DefOk K mg d__law_links := by
  obtain ⟨fd, F⟩ := c.def_ 21 (d := h__law_links) rfl
  have g := He.glo_ok X G (c.fact 21 (f := .glo "_law_links") rfl)
  refine ⟨_, fd, _, _, g, F, s__law_links, fun H ρ => rfl, fun m h1 h2 => ?_⟩
  exact ⟨[], vals_drop0, F.bindsN fun _ _ _ _ _ _ us hl => match us, hl with | [_, _], _ => rfl⟩
theorem s__law_keys_right : FnScope d__law_keys_right.N d__law_keys_right.ps d__law_keys_right.sc := ⟨rfl, rfl, rfl, by decide +kernel, rfl, by decide +kernel, by decide +kernel⟩
theorem ok__law_keys_right (X : K.In h) (G : h.Ns mainGlobals mg) (c : He.SaysD fa fn K) : DefOk K mg d__law_keys_right := by
  obtain ⟨fd, F⟩ := c.def_ 22 (d := h__law_keys_right) rfl
  have g := He.glo_ok X G (c.fact 22 (f := .glo "_law_keys_right") rfl)
  refine ⟨_, fd, _, _, g, F, s__law_keys_right, fun H ρ => rfl, fun m h1 h2 => ?_⟩
  exact ⟨[], vals_drop0, F.bindsN fun _ _ _ _ _ _ us hl => match us, hl with | [_, _, _], _ => rfl⟩
theorem s_law : FnScope d_law.N d_law.ps d_law.sc := ⟨rfl, rfl, rfl, by decide +kernel, rfl, by decide +kernel, by decide +kernel⟩
theorem ok_law (X : K.In h) (G : h.Ns mainGlobals mg) (c : He.SaysD fa fn K) : DefOk K mg d_law := by
  obtain ⟨fd, F⟩ := c.def_ 23 (d := h_law) rfl
  have g := He.glo_ok X G (c.fact 23 (f := .glo "law") rfl)
  refine ⟨_, fd, _, _, g, F, s_law, fun H ρ => rfl, fun m h1 h2 => ?_⟩
  exact ⟨[], vals_drop0, F.bindsN fun _ _ _ _ _ _ us hl => match us, hl with | [_], _ => rfl⟩
end
theorem all_ok {K : PySem.W.Frag} {h : Heap} {mg : Str → Option Value} (X : K.In h) (G : h.Ns mainGlobals mg) (c : He.SaysD fa fn K) : ∀ d ∈ defs, DefOk K mg d := by
  intro d hd
  simp only [defs, List.mem_cons, List.not_mem_nil, or_false] at hd
  rcases hd with rfl | rfl | rfl | rfl | rfl | rfl | rfl | rfl | rfl | rfl | rfl | rfl | rfl | rfl | rfl | rfl | rfl | rfl | rfl | rfl | rfl | rfl | rfl | rfl
  · exact ok_is_integer X G c
  · exact ok_is_row X G c
  · exact ok_is_pair X G c
  · exact ok_wrong_at X G c
  · exact ok_checked X G c
  · exact ok_look_key X G c
  · exact ok_look_from X G c
  · exact ok_is_towers X G c
  · exact ok_highest X G c
  · exact ok_top X G c
  · exact ok_heights X G c
  · exact ok_height_of X G c
  · exact ok_lane X G c
  · exact ok_next_key X G c
  · exact ok_links_from X G c
  · exact ok_links X G c
  · exact ok__law_source_of X G c
  · exact ok__law_next X G c
  · exact ok__law_one X G c
  · exact ok__law_towers X G c
  · exact ok__law_next_key X G c
  · exact ok__law_links X G c
  · exact ok__law_keys_right X G c
  · exact ok_law X G c
theorem gl_fa : ∀ p ∈ gl, He.Fa.int p.1 p.2 ∈ fa := by
  intro p hp
  simp only [gl, List.mem_cons, List.not_mem_nil, or_false] at hp
theorem all_wf : ∀ d ∈ defs, wfTs (tabOf defs gl) d.N d.sc d.body = true := by
  have : (defs.all fun d => wfTs (tabOf defs gl) d.N d.sc d.body) = true := by kernel_rfl
  exact fun d hd => List.all_eq_true.mp this d hd
end K01

end

section
set_option maxHeartbeats 400000
namespace K01
open PySem PySem.Spec Mi
open L2 (atI ixN)
theorem is_integer_int (k : Nat) (i : Int) (S : Store) : orc defs (k + 1) 0 [.int i] S = some (.bl true, S) := by
  rw [orc_at (d := d_is_integer) rfl]
  simp only [d_is_integer, b_is_integer, bnd_some, bnd_none, opt_some, opt_none, seqF_next, seqF_brk, seqF_cnt, seqF_ret, ts_nil, ts_cons, out_ret, out_next, ite_t, ite_f, bop_and_t, bop_and_f, bop_or_t, bop_or_f, bb_and_t, bb_and_f, bb_or_t, bb_or_f, slot_0, slot_s, e_con, b_con, e_var, b_var, e_glo, b_glo, e_tup, b_tup, e_lst, b_lst, e_dct, b_dct, e_op, b_op, e_neg, b_neg, e_not, b_not, e_bop, b_bop, e_cmp, b_cmp, e_chn, b_chn, e_ifx, b_ifx, e_ix, b_ix, e_sl, b_sl, e_call, b_call, e_bi, b_bi, e_mxd, b_mxd, e_isi, b_isi, e_isl, b_isl, e_lrg, b_lrg, e_mt, b_mt, e_lc, b_lc, bop_1, bop_2, bb_1, bb_2, es_nil, es_cons, eo_none, eo_some, if_none, if_some, i_ex, i_rng1, i_rng2, i_enm, q_nm, q_tp, q_sb, setK_some, qs_nil, qs_cons, t_asg, t_aug, t_ex, t_ret, t_retN, t_iff, t_fr, t_whl, t_brk, t_cnt, t_pas, con_none, con_bool, con_int, con_str, neg_int, not_bl, int_int, add_int, sub_int, lt_int, le_int, gt_int, ge_int, eq_int, ne_int, is_nn, is_in, is_bb, isn_nn, isn_in, isn_bb, tr_non, tr_bl, tr_int, ty_non, ty_bl, ty_int, ty_tup, ty_ro, isa_int_int, isa_int_bool, isa_int_list, isa_int_tuple, isa_list_list, isa_list_tuple, isa_tuple_list, isa_tuple_tuple, sq_tup, sq_ro, bi_int_int, bi_int_bl, bi_tuple_tup, bi_min, bi_max, bi_len_tup, bi_len_ro, ix_tup, ix_ro, sl_tup, sl_ro, stays_tup, stays_ro, at_0, at_1, gc_ai, gc_aai, gc_aaai, gc_ab, gc_aab, gc_aaab, gc_an, gc_aan, gc_aaan, gc_same, wipe_nil, wipe_cons, sz_0, sz_1, sz_2, sz_3, sz_4, sz_5, sz_6, sz_7, sz_8, sz_9, sz_10, runDef, runFull, Def.full, startD, List.length_cons, List.length_nil, List.map_cons, List.map_nil, List.append_nil, List.nil_append, List.cons_append, List.drop_nil, List.drop_zero, List.set_cons_zero, List.set_cons_succ, List.replicate, if_true, if_false, Bool.not_true, Bool.not_false, Bool.true_or, Bool.false_or, Option.map_some, Option.map_none, Nat.zero_add, Nat.add_zero, Nat.sub_self, Nat.reduceAdd, Nat.reduceSub, ↓reduceIte, Bool.and_true, Bool.true_and, Bool.false_and, Bool.and_false, Int.cast_ofNat_Int, decide_true, decide_false, Int.reduceEq, Int.reduceLT, Int.reduceLE, Bool.false_eq_true]
theorem is_row_of (k : Nat) {d : D} {ds : List D} (S : Store) (h : seqOf S d = some ds) : orc defs (k + 1) 1 [d] S = some (.bl true, S) := by
  rw [orc_at (d := d_is_row) rfl]
  rcases ty_sq h with e | e
  · simp only [d_is_row, b_is_row, e, bnd_some, bnd_none, opt_some, opt_none, seqF_next, seqF_brk, seqF_cnt, seqF_ret, ts_nil, ts_cons, out_ret, out_next, ite_t, ite_f, bop_and_t, bop_and_f, bop_or_t, bop_or_f, bb_and_t, bb_and_f, bb_or_t, bb_or_f, slot_0, slot_s, e_con, b_con, e_var, b_var, e_glo, b_glo, e_tup, b_tup, e_lst, b_lst, e_dct, b_dct, e_op, b_op, e_neg, b_neg, e_not, b_not, e_bop, b_bop, e_cmp, b_cmp, e_chn, b_chn, e_ifx, b_ifx, e_ix, b_ix, e_sl, b_sl, e_call, b_call, e_bi, b_bi, e_mxd, b_mxd, e_isi, b_isi, e_isl, b_isl, e_lrg, b_lrg, e_mt, b_mt, e_lc, b_lc, bop_1, bop_2, bb_1, bb_2, es_nil, es_cons, eo_none, eo_some, if_none, if_some, i_ex, i_rng1, i_rng2, i_enm, q_nm, q_tp, q_sb, setK_some, qs_nil, qs_cons, t_asg, t_aug, t_ex, t_ret, t_retN, t_iff, t_fr, t_whl, t_brk, t_cnt, t_pas, con_none, con_bool, con_int, con_str, neg_int, not_bl, int_int, add_int, sub_int, lt_int, le_int, gt_int, ge_int, eq_int, ne_int, is_nn, is_in, is_bb, isn_nn, isn_in, isn_bb, tr_non, tr_bl, tr_int, ty_non, ty_bl, ty_int, ty_tup, ty_ro, isa_int_int, isa_int_bool, isa_int_list, isa_int_tuple, isa_list_list, isa_list_tuple, isa_tuple_list, isa_tuple_tuple, sq_tup, sq_ro, bi_int_int, bi_int_bl, bi_tuple_tup, bi_min, bi_max, bi_len_tup, bi_len_ro, ix_tup, ix_ro, sl_tup, sl_ro, stays_tup, stays_ro, at_0, at_1, gc_ai, gc_aai, gc_aaai, gc_ab, gc_aab, gc_aaab, gc_an, gc_aan, gc_aaan, gc_same, wipe_nil, wipe_cons, sz_0, sz_1, sz_2, sz_3, sz_4, sz_5, sz_6, sz_7, sz_8, sz_9, sz_10, runDef, runFull, Def.full, startD, List.length_cons, List.length_nil, List.map_cons, List.map_nil, List.append_nil, List.nil_append, List.cons_append, List.drop_nil, List.drop_zero, List.set_cons_zero, List.set_cons_succ, List.replicate, if_true, if_false, Bool.not_true, Bool.not_false, Bool.true_or, Bool.false_or, Option.map_some, Option.map_none, Nat.zero_add, Nat.add_zero, Nat.sub_self, Nat.reduceAdd, Nat.reduceSub, ↓reduceIte, Bool.and_true, Bool.true_and, Bool.false_and, Bool.and_false, Int.cast_ofNat_Int, decide_true, decide_false, Int.reduceEq, Int.reduceLT, Int.reduceLE, Bool.false_eq_true]
  · simp only [d_is_row, b_is_row, e, bnd_some, bnd_none, opt_some, opt_none, seqF_next, seqF_brk, seqF_cnt, seqF_ret, ts_nil, ts_cons, out_ret, out_next, ite_t, ite_f, bop_and_t, bop_and_f, bop_or_t, bop_or_f, bb_and_t, bb_and_f, bb_or_t, bb_or_f, slot_0, slot_s, e_con, b_con, e_var, b_var, e_glo, b_glo, e_tup, b_tup, e_lst, b_lst, e_dct, b_dct, e_op, b_op, e_neg, b_neg, e_not, b_not, e_bop, b_bop, e_cmp, b_cmp, e_chn, b_chn, e_ifx, b_ifx, e_ix, b_ix, e_sl, b_sl, e_call, b_call, e_bi, b_bi, e_mxd, b_mxd, e_isi, b_isi, e_isl, b_isl, e_lrg, b_lrg, e_mt, b_mt, e_lc, b_lc, bop_1, bop_2, bb_1, bb_2, es_nil, es_cons, eo_none, eo_some, if_none, if_some, i_ex, i_rng1, i_rng2, i_enm, q_nm, q_tp, q_sb, setK_some, qs_nil, qs_cons, t_asg, t_aug, t_ex, t_ret, t_retN, t_iff, t_fr, t_whl, t_brk, t_cnt, t_pas, con_none, con_bool, con_int, con_str, neg_int, not_bl, int_int, add_int, sub_int, lt_int, le_int, gt_int, ge_int, eq_int, ne_int, is_nn, is_in, is_bb, isn_nn, isn_in, isn_bb, tr_non, tr_bl, tr_int, ty_non, ty_bl, ty_int, ty_tup, ty_ro, isa_int_int, isa_int_bool, isa_int_list, isa_int_tuple, isa_list_list, isa_list_tuple, isa_tuple_list, isa_tuple_tuple, sq_tup, sq_ro, bi_int_int, bi_int_bl, bi_tuple_tup, bi_min, bi_max, bi_len_tup, bi_len_ro, ix_tup, ix_ro, sl_tup, sl_ro, stays_tup, stays_ro, at_0, at_1, gc_ai, gc_aai, gc_aaai, gc_ab, gc_aab, gc_aaab, gc_an, gc_aan, gc_aaan, gc_same, wipe_nil, wipe_cons, sz_0, sz_1, sz_2, sz_3, sz_4, sz_5, sz_6, sz_7, sz_8, sz_9, sz_10, runDef, runFull, Def.full, startD, List.length_cons, List.length_nil, List.map_cons, List.map_nil, List.append_nil, List.nil_append, List.cons_append, List.drop_nil, List.drop_zero, List.set_cons_zero, List.set_cons_succ, List.replicate, if_true, if_false, Bool.not_true, Bool.not_false, Bool.true_or, Bool.false_or, Option.map_some, Option.map_none, Nat.zero_add, Nat.add_zero, Nat.sub_self, Nat.reduceAdd, Nat.reduceSub, ↓reduceIte, Bool.and_true, Bool.true_and, Bool.false_and, Bool.and_false, Int.cast_ofNat_Int, decide_true, decide_false, Int.reduceEq, Int.reduceLT, Int.reduceLE, Bool.false_eq_true]
theorem is_pair_of (k : Nat) {d : D} {i j : Int} (S : Store) (h : seqOf S d = some [.int i, .int j]) (hj : 1 ≤ j) : orc defs (k + 2) 2 [d] S = some (.bl true, S) := by
  rw [orc_at (d := d_is_pair) rfl]
  simp only [d_is_pair, b_is_pair, bnd_some, bnd_none, opt_some, opt_none, seqF_next, seqF_brk, seqF_cnt, seqF_ret, ts_nil, ts_cons, out_ret, out_next, ite_t, ite_f, bop_and_t, bop_and_f, bop_or_t, bop_or_f, bb_and_t, bb_and_f, bb_or_t, bb_or_f, slot_0, slot_s, e_con, b_con, e_var, b_var, e_glo, b_glo, e_tup, b_tup, e_lst, b_lst, e_dct, b_dct, e_op, b_op, e_neg, b_neg, e_not, b_not, e_bop, b_bop, e_cmp, b_cmp, e_chn, b_chn, e_ifx, b_ifx, e_ix, b_ix, e_sl, b_sl, e_call, b_call, e_bi, b_bi, e_mxd, b_mxd, e_isi, b_isi, e_isl, b_isl, e_lrg, b_lrg, e_mt, b_mt, e_lc, b_lc, bop_1, bop_2, bb_1, bb_2, es_nil, es_cons, eo_none, eo_some, if_none, if_some, i_ex, i_rng1, i_rng2, i_enm, q_nm, q_tp, q_sb, setK_some, qs_nil, qs_cons, t_asg, t_aug, t_ex, t_ret, t_retN, t_iff, t_fr, t_whl, t_brk, t_cnt, t_pas, con_none, con_bool, con_int, con_str, neg_int, not_bl, int_int, add_int, sub_int, lt_int, le_int, gt_int, ge_int, eq_int, ne_int, is_nn, is_in, is_bb, isn_nn, isn_in, isn_bb, tr_non, tr_bl, tr_int, ty_non, ty_bl, ty_int, ty_tup, ty_ro, isa_int_int, isa_int_bool, isa_int_list, isa_int_tuple, isa_list_list, isa_list_tuple, isa_tuple_list, isa_tuple_tuple, sq_tup, sq_ro, bi_int_int, bi_int_bl, bi_tuple_tup, bi_min, bi_max, bi_len_tup, bi_len_ro, ix_tup, ix_ro, sl_tup, sl_ro, stays_tup, stays_ro, at_0, at_1, gc_ai, gc_aai, gc_aaai, gc_ab, gc_aab, gc_aaab, gc_an, gc_aan, gc_aaan, gc_same, wipe_nil, wipe_cons, sz_0, sz_1, sz_2, sz_3, sz_4, sz_5, sz_6, sz_7, sz_8, sz_9, sz_10, runDef, runFull, Def.full, startD, List.length_cons, List.length_nil, List.map_cons, List.map_nil, List.append_nil, List.nil_append, List.cons_append, List.drop_nil, List.drop_zero, List.set_cons_zero, List.set_cons_succ, List.replicate, if_true, if_false, Bool.not_true, Bool.not_false, Bool.true_or, Bool.false_or, Option.map_some, Option.map_none, Nat.zero_add, Nat.add_zero, Nat.sub_self, Nat.reduceAdd, Nat.reduceSub, ↓reduceIte, Bool.and_true, Bool.true_and, Bool.false_and, Bool.and_false, Int.cast_ofNat_Int, decide_true, decide_false, Int.reduceEq, Int.reduceLT, Int.reduceLE, Bool.false_eq_true, is_row_of k S h, len_sq h, ix_sq h, is_integer_int, decide_eq_true hj]
/-- the walk of wrong_at: what stands ahead of the rest -/
def Last (S : Store) (ds : List D) (i : Nat) (tw : List (Int × Int)) : Prop := 0 < i → ∃ d p, ds[i - 1]? = some d ∧ seqOf S d = some [.int p.1, .int p.2] ∧ ∀ q ∈ tw, (p : Int × Int).1 < q.1
theorem wrong_at_of (k : Nat) {v : D} {tw : List (Int × Int)} {S : Store} (hv : IsTw S v tw) : orc defs (k + 3) 3 [v] S = some (.non, S) := by
  obtain ⟨⟨ds, h, ht⟩, hf, -⟩ := hv
  rw [orc_at (d := d_wrong_at) rfl]
  simp only [d_wrong_at, b_wrong_at, bnd_some, bnd_none, opt_some, opt_none, seqF_next, seqF_brk, seqF_cnt, seqF_ret, ts_nil, ts_cons, out_ret, out_next, ite_t, ite_f, bop_and_t, bop_and_f, bop_or_t, bop_or_f, bb_and_t, bb_and_f, bb_or_t, bb_or_f, slot_0, slot_s, e_con, b_con, e_var, b_var, e_glo, b_glo, e_tup, b_tup, e_lst, b_lst, e_dct, b_dct, e_op, b_op, e_neg, b_neg, e_not, b_not, e_bop, b_bop, e_cmp, b_cmp, e_chn, b_chn, e_ifx, b_ifx, e_ix, b_ix, e_sl, b_sl, e_call, b_call, e_bi, b_bi, e_mxd, b_mxd, e_isi, b_isi, e_isl, b_isl, e_lrg, b_lrg, e_mt, b_mt, e_lc, b_lc, bop_1, bop_2, bb_1, bb_2, es_nil, es_cons, eo_none, eo_some, if_none, if_some, i_ex, i_rng1, i_rng2, i_enm, q_nm, q_tp, q_sb, setK_some, qs_nil, qs_cons, t_asg, t_aug, t_ex, t_ret, t_retN, t_iff, t_fr, t_whl, t_brk, t_cnt, t_pas, con_none, con_bool, con_int, con_str, neg_int, not_bl, int_int, add_int, sub_int, lt_int, le_int, gt_int, ge_int, eq_int, ne_int, is_nn, is_in, is_bb, isn_nn, isn_in, isn_bb, tr_non, tr_bl, tr_int, ty_non, ty_bl, ty_int, ty_tup, ty_ro, isa_int_int, isa_int_bool, isa_int_list, isa_int_tuple, isa_list_list, isa_list_tuple, isa_tuple_list, isa_tuple_tuple, sq_tup, sq_ro, bi_int_int, bi_int_bl, bi_tuple_tup, bi_min, bi_max, bi_len_tup, bi_len_ro, ix_tup, ix_ro, sl_tup, sl_ro, stays_tup, stays_ro, at_0, at_1, gc_ai, gc_aai, gc_aaai, gc_ab, gc_aab, gc_aaab, gc_an, gc_aan, gc_aaan, gc_same, wipe_nil, wipe_cons, sz_0, sz_1, sz_2, sz_3, sz_4, sz_5, sz_6, sz_7, sz_8, sz_9, sz_10, runDef, runFull, Def.full, startD, List.length_cons, List.length_nil, List.map_cons, List.map_nil, List.append_nil, List.nil_append, List.cons_append, List.drop_nil, List.drop_zero, List.set_cons_zero, List.set_cons_succ, List.replicate, if_true, if_false, Bool.not_true, Bool.not_false, Bool.true_or, Bool.false_or, Option.map_some, Option.map_none, Nat.zero_add, Nat.add_zero, Nat.sub_self, Nat.reduceAdd, Nat.reduceSub, ↓reduceIte, Bool.and_true, Bool.true_and, Bool.false_and, Bool.and_false, Int.cast_ofNat_Int, decide_true, decide_false, Int.reduceEq, Int.reduceLT, Int.reduceLE, Bool.false_eq_true, is_row_of (k + 1) S h, h]
  generalize hX : forD _ _ _ _ _ _ = X
  have key := for_X hX (fun its σ S' => S' = S ∧ (∃ a b, σ = [some v, a, b]) ∧ ∃ (i : Nat) (rest : List D) (tr : List (Int × Int)), its = enumD i rest ∧ rest = ds.drop i ∧ TwL S rest tr ∧ Fine tr ∧ Last S ds i tr)
    (fun X => ∃ σ, X = some (.next σ, S)) ⟨rfl, ⟨none, none, rfl⟩, 0, ds, tw, rfl, by simp, ht, hf, fun z => absurd z (by simp)⟩ (fun σ S' ⟨e, _⟩ => by subst e; exact ⟨stays_sq h, σ, rfl⟩) ?_
  · obtain ⟨σ, rfl⟩ := key
    simp only [bnd_some, bnd_none, opt_some, opt_none, seqF_next, seqF_brk, seqF_cnt, seqF_ret, ts_nil, ts_cons, out_ret, out_next, ite_t, ite_f, bop_and_t, bop_and_f, bop_or_t, bop_or_f, bb_and_t, bb_and_f, bb_or_t, bb_or_f, slot_0, slot_s, e_con, b_con, e_var, b_var, e_glo, b_glo, e_tup, b_tup, e_lst, b_lst, e_dct, b_dct, e_op, b_op, e_neg, b_neg, e_not, b_not, e_bop, b_bop, e_cmp, b_cmp, e_chn, b_chn, e_ifx, b_ifx, e_ix, b_ix, e_sl, b_sl, e_call, b_call, e_bi, b_bi, e_mxd, b_mxd, e_isi, b_isi, e_isl, b_isl, e_lrg, b_lrg, e_mt, b_mt, e_lc, b_lc, bop_1, bop_2, bb_1, bb_2, es_nil, es_cons, eo_none, eo_some, if_none, if_some, i_ex, i_rng1, i_rng2, i_enm, q_nm, q_tp, q_sb, setK_some, qs_nil, qs_cons, t_asg, t_aug, t_ex, t_ret, t_retN, t_iff, t_fr, t_whl, t_brk, t_cnt, t_pas, con_none, con_bool, con_int, con_str, neg_int, not_bl, int_int, add_int, sub_int, lt_int, le_int, gt_int, ge_int, eq_int, ne_int, is_nn, is_in, is_bb, isn_nn, isn_in, isn_bb, tr_non, tr_bl, tr_int, ty_non, ty_bl, ty_int, ty_tup, ty_ro, isa_int_int, isa_int_bool, isa_int_list, isa_int_tuple, isa_list_list, isa_list_tuple, isa_tuple_list, isa_tuple_tuple, sq_tup, sq_ro, bi_int_int, bi_int_bl, bi_tuple_tup, bi_min, bi_max, bi_len_tup, bi_len_ro, ix_tup, ix_ro, sl_tup, sl_ro, stays_tup, stays_ro, at_0, at_1, gc_ai, gc_aai, gc_aaai, gc_ab, gc_aab, gc_aaab, gc_an, gc_aan, gc_aaan, gc_same, wipe_nil, wipe_cons, sz_0, sz_1, sz_2, sz_3, sz_4, sz_5, sz_6, sz_7, sz_8, sz_9, sz_10, runDef, runFull, Def.full, startD, List.length_cons, List.length_nil, List.map_cons, List.map_nil, List.append_nil, List.nil_append, List.cons_append, List.drop_nil, List.drop_zero, List.set_cons_zero, List.set_cons_succ, List.replicate, if_true, if_false, Bool.not_true, Bool.not_false, Bool.true_or, Bool.false_or, Option.map_some, Option.map_none, Nat.zero_add, Nat.add_zero, Nat.sub_self, Nat.reduceAdd, Nat.reduceSub, ↓reduceIte, Bool.and_true, Bool.true_and, Bool.false_and, Bool.and_false, Int.cast_ofNat_Int, decide_true, decide_false, Int.reduceEq, Int.reduceLT, Int.reduceLE, Bool.false_eq_true]
  · clear hX X
    rintro x r σ S' ⟨rfl, ⟨a, b, rfl⟩, i, rest, tr, e1, e2, h3, h4, h5⟩
    refine ⟨stays_sq h, ?_⟩
    cases rest with
    | nil => simp [enumD] at e1
    | cons d rest =>
      cases tr with
      | nil => exact h3.elim
      | cons p tr =>
        obtain ⟨g1, g2⟩ := h3
        obtain ⟨f1, f2, f3⟩ := h4
        rw [enumD] at e1
        injection e1 with e3 e4
        subst e3 e4
        have nxt : ∀ {X : Option (Fl × Store)}, X = some (.next [some v, some (.int i), some d], S') → stepOk (fun σ T => T = S' ∧ (∃ a b, σ = [some v, a, b]) ∧ ∃ (j : Nat) (rest' : List D) (tr : List (Int × Int)), enumD (↑i + 1) rest = enumD j rest' ∧ rest' = ds.drop j ∧ TwL S' rest' tr ∧ Fine tr ∧ Last S' ds j tr) (fun X => ∃ σ, X = some (.next σ, S')) X := by
          rintro X rfl
          refine ⟨rfl, ⟨_, _, rfl⟩, i + 1, rest, tr, by simp, ?_, g2, f3, fun _ => ⟨d, p, ?_, g1, f2⟩⟩
          · rw [← List.drop_drop, ← e2]; rfl
          · have : (ds.drop i)[0]? = some d := by rw [← e2]; rfl
            simpa using this
        cases i with
        | zero =>
          refine nxt ?_
          simp only [bnd_some, bnd_none, opt_some, opt_none, seqF_next, seqF_brk, seqF_cnt, seqF_ret, ts_nil, ts_cons, out_ret, out_next, ite_t, ite_f, bop_and_t, bop_and_f, bop_or_t, bop_or_f, bb_and_t, bb_and_f, bb_or_t, bb_or_f, slot_0, slot_s, e_con, b_con, e_var, b_var, e_glo, b_glo, e_tup, b_tup, e_lst, b_lst, e_dct, b_dct, e_op, b_op, e_neg, b_neg, e_not, b_not, e_bop, b_bop, e_cmp, b_cmp, e_chn, b_chn, e_ifx, b_ifx, e_ix, b_ix, e_sl, b_sl, e_call, b_call, e_bi, b_bi, e_mxd, b_mxd, e_isi, b_isi, e_isl, b_isl, e_lrg, b_lrg, e_mt, b_mt, e_lc, b_lc, bop_1, bop_2, bb_1, bb_2, es_nil, es_cons, eo_none, eo_some, if_none, if_some, i_ex, i_rng1, i_rng2, i_enm, q_nm, q_tp, q_sb, setK_some, qs_nil, qs_cons, t_asg, t_aug, t_ex, t_ret, t_retN, t_iff, t_fr, t_whl, t_brk, t_cnt, t_pas, con_none, con_bool, con_int, con_str, neg_int, not_bl, int_int, add_int, sub_int, lt_int, le_int, gt_int, ge_int, eq_int, ne_int, is_nn, is_in, is_bb, isn_nn, isn_in, isn_bb, tr_non, tr_bl, tr_int, ty_non, ty_bl, ty_int, ty_tup, ty_ro, isa_int_int, isa_int_bool, isa_int_list, isa_int_tuple, isa_list_list, isa_list_tuple, isa_tuple_list, isa_tuple_tuple, sq_tup, sq_ro, bi_int_int, bi_int_bl, bi_tuple_tup, bi_min, bi_max, bi_len_tup, bi_len_ro, ix_tup, ix_ro, sl_tup, sl_ro, stays_tup, stays_ro, at_0, at_1, gc_ai, gc_aai, gc_aaai, gc_ab, gc_aab, gc_aaab, gc_an, gc_aan, gc_aaan, gc_same, wipe_nil, wipe_cons, sz_0, sz_1, sz_2, sz_3, sz_4, sz_5, sz_6, sz_7, sz_8, sz_9, sz_10, runDef, runFull, Def.full, startD, List.length_cons, List.length_nil, List.map_cons, List.map_nil, List.append_nil, List.nil_append, List.cons_append, List.drop_nil, List.drop_zero, List.set_cons_zero, List.set_cons_succ, List.replicate, if_true, if_false, Bool.not_true, Bool.not_false, Bool.true_or, Bool.false_or, Option.map_some, Option.map_none, Nat.zero_add, Nat.add_zero, Nat.sub_self, Nat.reduceAdd, Nat.reduceSub, ↓reduceIte, Bool.and_true, Bool.true_and, Bool.false_and, Bool.and_false, Int.cast_ofNat_Int, decide_true, decide_false, Int.reduceEq, Int.reduceLT, Int.reduceLE, Bool.false_eq_true, is_pair_of k S' g1 f1, Int.natCast_zero]
        | succ i =>
          obtain ⟨d', q, q1, q2, q3⟩ := h5 (by omega)
          have e5 : ((i + 1 : Nat) : Int) - 1 = (i : Nat) := by omega
          have e6 : atI ds (i : Nat) = some d' := at_nat (by simpa using q1)
          have e7 : decide ((0 : Int) < ((i + 1 : Nat) : Int)) = true := decide_eq_true (by omega)
          have e8 : decide (p.1 ≤ q.1) = false := decide_eq_false (by have := q3 p (List.mem_cons_self ..); omega)
          refine nxt ?_
          simp only [bnd_some, bnd_none, opt_some, opt_none, seqF_next, seqF_brk, seqF_cnt, seqF_ret, ts_nil, ts_cons, out_ret, out_next, ite_t, ite_f, bop_and_t, bop_and_f, bop_or_t, bop_or_f, bb_and_t, bb_and_f, bb_or_t, bb_or_f, slot_0, slot_s, e_con, b_con, e_var, b_var, e_glo, b_glo, e_tup, b_tup, e_lst, b_lst, e_dct, b_dct, e_op, b_op, e_neg, b_neg, e_not, b_not, e_bop, b_bop, e_cmp, b_cmp, e_chn, b_chn, e_ifx, b_ifx, e_ix, b_ix, e_sl, b_sl, e_call, b_call, e_bi, b_bi, e_mxd, b_mxd, e_isi, b_isi, e_isl, b_isl, e_lrg, b_lrg, e_mt, b_mt, e_lc, b_lc, bop_1, bop_2, bb_1, bb_2, es_nil, es_cons, eo_none, eo_some, if_none, if_some, i_ex, i_rng1, i_rng2, i_enm, q_nm, q_tp, q_sb, setK_some, qs_nil, qs_cons, t_asg, t_aug, t_ex, t_ret, t_retN, t_iff, t_fr, t_whl, t_brk, t_cnt, t_pas, con_none, con_bool, con_int, con_str, neg_int, not_bl, int_int, add_int, sub_int, lt_int, le_int, gt_int, ge_int, eq_int, ne_int, is_nn, is_in, is_bb, isn_nn, isn_in, isn_bb, tr_non, tr_bl, tr_int, ty_non, ty_bl, ty_int, ty_tup, ty_ro, isa_int_int, isa_int_bool, isa_int_list, isa_int_tuple, isa_list_list, isa_list_tuple, isa_tuple_list, isa_tuple_tuple, sq_tup, sq_ro, bi_int_int, bi_int_bl, bi_tuple_tup, bi_min, bi_max, bi_len_tup, bi_len_ro, ix_tup, ix_ro, sl_tup, sl_ro, stays_tup, stays_ro, at_0, at_1, gc_ai, gc_aai, gc_aaai, gc_ab, gc_aab, gc_aaab, gc_an, gc_aan, gc_aaan, gc_same, wipe_nil, wipe_cons, sz_0, sz_1, sz_2, sz_3, sz_4, sz_5, sz_6, sz_7, sz_8, sz_9, sz_10, runDef, runFull, Def.full, startD, List.length_cons, List.length_nil, List.map_cons, List.map_nil, List.append_nil, List.nil_append, List.cons_append, List.drop_nil, List.drop_zero, List.set_cons_zero, List.set_cons_succ, List.replicate, if_true, if_false, Bool.not_true, Bool.not_false, Bool.true_or, Bool.false_or, Option.map_some, Option.map_none, Nat.zero_add, Nat.add_zero, Nat.sub_self, Nat.reduceAdd, Nat.reduceSub, ↓reduceIte, Bool.and_true, Bool.true_and, Bool.false_and, Bool.and_false, Int.cast_ofNat_Int, decide_true, decide_false, Int.reduceEq, Int.reduceLT, Int.reduceLE, Bool.false_eq_true, is_pair_of k S' g1 f1, e5, e6, e7, e8, ix_sq h, ix_sq q2, ix_sq g1]
theorem checked_of (k : Nat) {v : D} {tw : List (Int × Int)} {S : Store} (hv : IsTw S v tw) : orc defs (k + 4) 4 [v] S = some (.tup (tw.map prD), S) := by
  rw [orc_at (d := d_checked) rfl]
  have hw := wrong_at_of k hv
  obtain ⟨⟨ds, h, ht⟩, hf, hl⟩ := hv
  simp only [d_checked, b_checked, bnd_some, bnd_none, opt_some, opt_none, seqF_next, seqF_brk, seqF_cnt, seqF_ret, ts_nil, ts_cons, out_ret, out_next, ite_t, ite_f, bop_and_t, bop_and_f, bop_or_t, bop_or_f, bb_and_t, bb_and_f, bb_or_t, bb_or_f, slot_0, slot_s, e_con, b_con, e_var, b_var, e_glo, b_glo, e_tup, b_tup, e_lst, b_lst, e_dct, b_dct, e_op, b_op, e_neg, b_neg, e_not, b_not, e_bop, b_bop, e_cmp, b_cmp, e_chn, b_chn, e_ifx, b_ifx, e_ix, b_ix, e_sl, b_sl, e_call, b_call, e_bi, b_bi, e_mxd, b_mxd, e_isi, b_isi, e_isl, b_isl, e_lrg, b_lrg, e_mt, b_mt, e_lc, b_lc, bop_1, bop_2, bb_1, bb_2, es_nil, es_cons, eo_none, eo_some, if_none, if_some, i_ex, i_rng1, i_rng2, i_enm, q_nm, q_tp, q_sb, setK_some, qs_nil, qs_cons, t_asg, t_aug, t_ex, t_ret, t_retN, t_iff, t_fr, t_whl, t_brk, t_cnt, t_pas, con_none, con_bool, con_int, con_str, neg_int, not_bl, int_int, add_int, sub_int, lt_int, le_int, gt_int, ge_int, eq_int, ne_int, is_nn, is_in, is_bb, isn_nn, isn_in, isn_bb, tr_non, tr_bl, tr_int, ty_non, ty_bl, ty_int, ty_tup, ty_ro, isa_int_int, isa_int_bool, isa_int_list, isa_int_tuple, isa_list_list, isa_list_tuple, isa_tuple_list, isa_tuple_tuple, sq_tup, sq_ro, bi_int_int, bi_int_bl, bi_tuple_tup, bi_min, bi_max, bi_len_tup, bi_len_ro, ix_tup, ix_ro, sl_tup, sl_ro, stays_tup, stays_ro, at_0, at_1, gc_ai, gc_aai, gc_aaai, gc_ab, gc_aab, gc_aaab, gc_an, gc_aan, gc_aaan, gc_same, wipe_nil, wipe_cons, sz_0, sz_1, sz_2, sz_3, sz_4, sz_5, sz_6, sz_7, sz_8, sz_9, sz_10, runDef, runFull, Def.full, startD, List.length_cons, List.length_nil, List.map_cons, List.map_nil, List.append_nil, List.nil_append, List.cons_append, List.drop_nil, List.drop_zero, List.set_cons_zero, List.set_cons_succ, List.replicate, if_true, if_false, Bool.not_true, Bool.not_false, Bool.true_or, Bool.false_or, Option.map_some, Option.map_none, Nat.zero_add, Nat.add_zero, Nat.sub_self, Nat.reduceAdd, Nat.reduceSub, ↓reduceIte, Bool.and_true, Bool.true_and, Bool.false_and, Bool.and_false, Int.cast_ofNat_Int, decide_true, decide_false, Int.reduceEq, Int.reduceLT, Int.reduceLE, Bool.false_eq_true, hw, h]
  generalize hX : lcD _ _ _ _ _ _ _ = X
  have e := hX.symm.trans (lcD_tw0 prD (stays_sq h) ht (fun d q hq hd => ⟨[some v, some .non, some (.int q.1), some (.int q.2)], by simp only [bnd_some, bnd_none, opt_some, opt_none, seqF_next, seqF_brk, seqF_cnt, seqF_ret, ts_nil, ts_cons, out_ret, out_next, ite_t, ite_f, bop_and_t, bop_and_f, bop_or_t, bop_or_f, bb_and_t, bb_and_f, bb_or_t, bb_or_f, slot_0, slot_s, e_con, b_con, e_var, b_var, e_glo, b_glo, e_tup, b_tup, e_lst, b_lst, e_dct, b_dct, e_op, b_op, e_neg, b_neg, e_not, b_not, e_bop, b_bop, e_cmp, b_cmp, e_chn, b_chn, e_ifx, b_ifx, e_ix, b_ix, e_sl, b_sl, e_call, b_call, e_bi, b_bi, e_mxd, b_mxd, e_isi, b_isi, e_isl, b_isl, e_lrg, b_lrg, e_mt, b_mt, e_lc, b_lc, bop_1, bop_2, bb_1, bb_2, es_nil, es_cons, eo_none, eo_some, if_none, if_some, i_ex, i_rng1, i_rng2, i_enm, q_nm, q_tp, q_sb, setK_some, qs_nil, qs_cons, t_asg, t_aug, t_ex, t_ret, t_retN, t_iff, t_fr, t_whl, t_brk, t_cnt, t_pas, con_none, con_bool, con_int, con_str, neg_int, not_bl, int_int, add_int, sub_int, lt_int, le_int, gt_int, ge_int, eq_int, ne_int, is_nn, is_in, is_bb, isn_nn, isn_in, isn_bb, tr_non, tr_bl, tr_int, ty_non, ty_bl, ty_int, ty_tup, ty_ro, isa_int_int, isa_int_bool, isa_int_list, isa_int_tuple, isa_list_list, isa_list_tuple, isa_tuple_list, isa_tuple_tuple, sq_tup, sq_ro, bi_int_int, bi_int_bl, bi_tuple_tup, bi_min, bi_max, bi_len_tup, bi_len_ro, ix_tup, ix_ro, sl_tup, sl_ro, stays_tup, stays_ro, at_0, at_1, gc_ai, gc_aai, gc_aaai, gc_ab, gc_aab, gc_aaab, gc_an, gc_aan, gc_aaan, gc_same, wipe_nil, wipe_cons, sz_0, sz_1, sz_2, sz_3, sz_4, sz_5, sz_6, sz_7, sz_8, sz_9, sz_10, runDef, runFull, Def.full, startD, List.length_cons, List.length_nil, List.map_cons, List.map_nil, List.append_nil, List.nil_append, List.cons_append, List.drop_nil, List.drop_zero, List.set_cons_zero, List.set_cons_succ, List.replicate, if_true, if_false, Bool.not_true, Bool.not_false, Bool.true_or, Bool.false_or, Option.map_some, Option.map_none, Nat.zero_add, Nat.add_zero, Nat.sub_self, Nat.reduceAdd, Nat.reduceSub, ↓reduceIte, Bool.and_true, Bool.true_and, Bool.false_and, Bool.and_false, Int.cast_ofNat_Int, decide_true, decide_false, Int.reduceEq, Int.reduceLT, Int.reduceLE, Bool.false_eq_true, hd], by simp only [bnd_some, bnd_none, opt_some, opt_none, seqF_next, seqF_brk, seqF_cnt, seqF_ret, ts_nil, ts_cons, out_ret, out_next, ite_t, ite_f, bop_and_t, bop_and_f, bop_or_t, bop_or_f, bb_and_t, bb_and_f, bb_or_t, bb_or_f, slot_0, slot_s, e_con, b_con, e_var, b_var, e_glo, b_glo, e_tup, b_tup, e_lst, b_lst, e_dct, b_dct, e_op, b_op, e_neg, b_neg, e_not, b_not, e_bop, b_bop, e_cmp, b_cmp, e_chn, b_chn, e_ifx, b_ifx, e_ix, b_ix, e_sl, b_sl, e_call, b_call, e_bi, b_bi, e_mxd, b_mxd, e_isi, b_isi, e_isl, b_isl, e_lrg, b_lrg, e_mt, b_mt, e_lc, b_lc, bop_1, bop_2, bb_1, bb_2, es_nil, es_cons, eo_none, eo_some, if_none, if_some, i_ex, i_rng1, i_rng2, i_enm, q_nm, q_tp, q_sb, setK_some, qs_nil, qs_cons, t_asg, t_aug, t_ex, t_ret, t_retN, t_iff, t_fr, t_whl, t_brk, t_cnt, t_pas, con_none, con_bool, con_int, con_str, neg_int, not_bl, int_int, add_int, sub_int, lt_int, le_int, gt_int, ge_int, eq_int, ne_int, is_nn, is_in, is_bb, isn_nn, isn_in, isn_bb, tr_non, tr_bl, tr_int, ty_non, ty_bl, ty_int, ty_tup, ty_ro, isa_int_int, isa_int_bool, isa_int_list, isa_int_tuple, isa_list_list, isa_list_tuple, isa_tuple_list, isa_tuple_tuple, sq_tup, sq_ro, bi_int_int, bi_int_bl, bi_tuple_tup, bi_min, bi_max, bi_len_tup, bi_len_ro, ix_tup, ix_ro, sl_tup, sl_ro, stays_tup, stays_ro, at_0, at_1, gc_ai, gc_aai, gc_aaai, gc_ab, gc_aab, gc_aaab, gc_an, gc_aan, gc_aaan, gc_same, wipe_nil, wipe_cons, sz_0, sz_1, sz_2, sz_3, sz_4, sz_5, sz_6, sz_7, sz_8, sz_9, sz_10, runDef, runFull, Def.full, startD, List.length_cons, List.length_nil, List.map_cons, List.map_nil, List.append_nil, List.nil_append, List.cons_append, List.drop_nil, List.drop_zero, List.set_cons_zero, List.set_cons_succ, List.replicate, if_true, if_false, Bool.not_true, Bool.not_false, Bool.true_or, Bool.false_or, Option.map_some, Option.map_none, Nat.zero_add, Nat.add_zero, Nat.sub_self, Nat.reduceAdd, Nat.reduceSub, ↓reduceIte, Bool.and_true, Bool.true_and, Bool.false_and, Bool.and_false, Int.cast_ofNat_Int, decide_true, decide_false, Int.reduceEq, Int.reduceLT, Int.reduceLE, Bool.false_eq_true], by simp only [bnd_some, bnd_none, opt_some, opt_none, seqF_next, seqF_brk, seqF_cnt, seqF_ret, ts_nil, ts_cons, out_ret, out_next, ite_t, ite_f, bop_and_t, bop_and_f, bop_or_t, bop_or_f, bb_and_t, bb_and_f, bb_or_t, bb_or_f, slot_0, slot_s, e_con, b_con, e_var, b_var, e_glo, b_glo, e_tup, b_tup, e_lst, b_lst, e_dct, b_dct, e_op, b_op, e_neg, b_neg, e_not, b_not, e_bop, b_bop, e_cmp, b_cmp, e_chn, b_chn, e_ifx, b_ifx, e_ix, b_ix, e_sl, b_sl, e_call, b_call, e_bi, b_bi, e_mxd, b_mxd, e_isi, b_isi, e_isl, b_isl, e_lrg, b_lrg, e_mt, b_mt, e_lc, b_lc, bop_1, bop_2, bb_1, bb_2, es_nil, es_cons, eo_none, eo_some, if_none, if_some, i_ex, i_rng1, i_rng2, i_enm, q_nm, q_tp, q_sb, setK_some, qs_nil, qs_cons, t_asg, t_aug, t_ex, t_ret, t_retN, t_iff, t_fr, t_whl, t_brk, t_cnt, t_pas, con_none, con_bool, con_int, con_str, neg_int, not_bl, int_int, add_int, sub_int, lt_int, le_int, gt_int, ge_int, eq_int, ne_int, is_nn, is_in, is_bb, isn_nn, isn_in, isn_bb, tr_non, tr_bl, tr_int, ty_non, ty_bl, ty_int, ty_tup, ty_ro, isa_int_int, isa_int_bool, isa_int_list, isa_int_tuple, isa_list_list, isa_list_tuple, isa_tuple_list, isa_tuple_tuple, sq_tup, sq_ro, bi_int_int, bi_int_bl, bi_tuple_tup, bi_min, bi_max, bi_len_tup, bi_len_ro, ix_tup, ix_ro, sl_tup, sl_ro, stays_tup, stays_ro, at_0, at_1, gc_ai, gc_aai, gc_aaai, gc_ab, gc_aab, gc_aaab, gc_an, gc_aan, gc_aaan, gc_same, wipe_nil, wipe_cons, sz_0, sz_1, sz_2, sz_3, sz_4, sz_5, sz_6, sz_7, sz_8, sz_9, sz_10, runDef, runFull, Def.full, startD, List.length_cons, List.length_nil, List.map_cons, List.map_nil, List.append_nil, List.nil_append, List.cons_append, List.drop_nil, List.drop_zero, List.set_cons_zero, List.set_cons_succ, List.replicate, if_true, if_false, Bool.not_true, Bool.not_false, Bool.true_or, Bool.false_or, Option.map_some, Option.map_none, Nat.zero_add, Nat.add_zero, Nat.sub_self, Nat.reduceAdd, Nat.reduceSub, ↓reduceIte, Bool.and_true, Bool.true_and, Bool.false_and, Bool.and_false, Int.cast_ofNat_Int, decide_true, decide_false, Int.reduceEq, Int.reduceLT, Int.reduceLE, Bool.false_eq_true]; rfl⟩) (small hl))
  subst e
  simp only [bnd_some, bnd_none, opt_some, opt_none, seqF_next, seqF_brk, seqF_cnt, seqF_ret, ts_nil, ts_cons, out_ret, out_next, ite_t, ite_f, bop_and_t, bop_and_f, bop_or_t, bop_or_f, bb_and_t, bb_and_f, bb_or_t, bb_or_f, slot_0, slot_s, e_con, b_con, e_var, b_var, e_glo, b_glo, e_tup, b_tup, e_lst, b_lst, e_dct, b_dct, e_op, b_op, e_neg, b_neg, e_not, b_not, e_bop, b_bop, e_cmp, b_cmp, e_chn, b_chn, e_ifx, b_ifx, e_ix, b_ix, e_sl, b_sl, e_call, b_call, e_bi, b_bi, e_mxd, b_mxd, e_isi, b_isi, e_isl, b_isl, e_lrg, b_lrg, e_mt, b_mt, e_lc, b_lc, bop_1, bop_2, bb_1, bb_2, es_nil, es_cons, eo_none, eo_some, if_none, if_some, i_ex, i_rng1, i_rng2, i_enm, q_nm, q_tp, q_sb, setK_some, qs_nil, qs_cons, t_asg, t_aug, t_ex, t_ret, t_retN, t_iff, t_fr, t_whl, t_brk, t_cnt, t_pas, con_none, con_bool, con_int, con_str, neg_int, not_bl, int_int, add_int, sub_int, lt_int, le_int, gt_int, ge_int, eq_int, ne_int, is_nn, is_in, is_bb, isn_nn, isn_in, isn_bb, tr_non, tr_bl, tr_int, ty_non, ty_bl, ty_int, ty_tup, ty_ro, isa_int_int, isa_int_bool, isa_int_list, isa_int_tuple, isa_list_list, isa_list_tuple, isa_tuple_list, isa_tuple_tuple, sq_tup, sq_ro, bi_int_int, bi_int_bl, bi_tuple_tup, bi_min, bi_max, bi_len_tup, bi_len_ro, ix_tup, ix_ro, sl_tup, sl_ro, stays_tup, stays_ro, at_0, at_1, gc_ai, gc_aai, gc_aaai, gc_ab, gc_aab, gc_aaab, gc_an, gc_aan, gc_aaan, gc_same, wipe_nil, wipe_cons, sz_0, sz_1, sz_2, sz_3, sz_4, sz_5, sz_6, sz_7, sz_8, sz_9, sz_10, runDef, runFull, Def.full, startD, List.length_cons, List.length_nil, List.map_cons, List.map_nil, List.append_nil, List.nil_append, List.cons_append, List.drop_nil, List.drop_zero, List.set_cons_zero, List.set_cons_succ, List.replicate, if_true, if_false, Bool.not_true, Bool.not_false, Bool.true_or, Bool.false_or, Option.map_some, Option.map_none, Nat.zero_add, Nat.add_zero, Nat.sub_self, Nat.reduceAdd, Nat.reduceSub, ↓reduceIte, Bool.and_true, Bool.true_and, Bool.false_and, Bool.and_false, Int.cast_ofNat_Int, decide_true, decide_false, Int.reduceEq, Int.reduceLT, Int.reduceLE, Bool.false_eq_true, tuple_loc look_new, gc_tupa (prs_pure tw)]
theorem look_key_of (k : Nat) {i : Int} {S : Store} : orc defs (k + 2) 5 [.int i] S = some (.non, S) := by
  rw [orc_at (d := d_look_key) rfl]
  simp only [d_look_key, b_look_key, bnd_some, bnd_none, opt_some, opt_none, seqF_next, seqF_brk, seqF_cnt, seqF_ret, ts_nil, ts_cons, out_ret, out_next, ite_t, ite_f, bop_and_t, bop_and_f, bop_or_t, bop_or_f, bb_and_t, bb_and_f, bb_or_t, bb_or_f, slot_0, slot_s, e_con, b_con, e_var, b_var, e_glo, b_glo, e_tup, b_tup, e_lst, b_lst, e_dct, b_dct, e_op, b_op, e_neg, b_neg, e_not, b_not, e_bop, b_bop, e_cmp, b_cmp, e_chn, b_chn, e_ifx, b_ifx, e_ix, b_ix, e_sl, b_sl, e_call, b_call, e_bi, b_bi, e_mxd, b_mxd, e_isi, b_isi, e_isl, b_isl, e_lrg, b_lrg, e_mt, b_mt, e_lc, b_lc, bop_1, bop_2, bb_1, bb_2, es_nil, es_cons, eo_none, eo_some, if_none, if_some, i_ex, i_rng1, i_rng2, i_enm, q_nm, q_tp, q_sb, setK_some, qs_nil, qs_cons, t_asg, t_aug, t_ex, t_ret, t_retN, t_iff, t_fr, t_whl, t_brk, t_cnt, t_pas, con_none, con_bool, con_int, con_str, neg_int, not_bl, int_int, add_int, sub_int, lt_int, le_int, gt_int, ge_int, eq_int, ne_int, is_nn, is_in, is_bb, isn_nn, isn_in, isn_bb, tr_non, tr_bl, tr_int, ty_non, ty_bl, ty_int, ty_tup, ty_ro, isa_int_int, isa_int_bool, isa_int_list, isa_int_tuple, isa_list_list, isa_list_tuple, isa_tuple_list, isa_tuple_tuple, sq_tup, sq_ro, bi_int_int, bi_int_bl, bi_tuple_tup, bi_min, bi_max, bi_len_tup, bi_len_ro, ix_tup, ix_ro, sl_tup, sl_ro, stays_tup, stays_ro, at_0, at_1, gc_ai, gc_aai, gc_aaai, gc_ab, gc_aab, gc_aaab, gc_an, gc_aan, gc_aaan, gc_same, wipe_nil, wipe_cons, sz_0, sz_1, sz_2, sz_3, sz_4, sz_5, sz_6, sz_7, sz_8, sz_9, sz_10, runDef, runFull, Def.full, startD, List.length_cons, List.length_nil, List.map_cons, List.map_nil, List.append_nil, List.nil_append, List.cons_append, List.drop_nil, List.drop_zero, List.set_cons_zero, List.set_cons_succ, List.replicate, if_true, if_false, Bool.not_true, Bool.not_false, Bool.true_or, Bool.false_or, Option.map_some, Option.map_none, Nat.zero_add, Nat.add_zero, Nat.sub_self, Nat.reduceAdd, Nat.reduceSub, ↓reduceIte, Bool.and_true, Bool.true_and, Bool.false_and, Bool.and_false, Int.cast_ofNat_Int, decide_true, decide_false, Int.reduceEq, Int.reduceLT, Int.reduceLE, Bool.false_eq_true, is_integer_int]
theorem look_from_of (k : Nat) {i j : Int} {S : Store} (h : j ≤ i) : orc defs (k + 2) 6 [.int i, .int j] S = some (.non, S) := by
  rw [orc_at (d := d_look_from) rfl]
  simp only [d_look_from, b_look_from, bnd_some, bnd_none, opt_some, opt_none, seqF_next, seqF_brk, seqF_cnt, seqF_ret, ts_nil, ts_cons, out_ret, out_next, ite_t, ite_f, bop_and_t, bop_and_f, bop_or_t, bop_or_f, bb_and_t, bb_and_f, bb_or_t, bb_or_f, slot_0, slot_s, e_con, b_con, e_var, b_var, e_glo, b_glo, e_tup, b_tup, e_lst, b_lst, e_dct, b_dct, e_op, b_op, e_neg, b_neg, e_not, b_not, e_bop, b_bop, e_cmp, b_cmp, e_chn, b_chn, e_ifx, b_ifx, e_ix, b_ix, e_sl, b_sl, e_call, b_call, e_bi, b_bi, e_mxd, b_mxd, e_isi, b_isi, e_isl, b_isl, e_lrg, b_lrg, e_mt, b_mt, e_lc, b_lc, bop_1, bop_2, bb_1, bb_2, es_nil, es_cons, eo_none, eo_some, if_none, if_some, i_ex, i_rng1, i_rng2, i_enm, q_nm, q_tp, q_sb, setK_some, qs_nil, qs_cons, t_asg, t_aug, t_ex, t_ret, t_retN, t_iff, t_fr, t_whl, t_brk, t_cnt, t_pas, con_none, con_bool, con_int, con_str, neg_int, not_bl, int_int, add_int, sub_int, lt_int, le_int, gt_int, ge_int, eq_int, ne_int, is_nn, is_in, is_bb, isn_nn, isn_in, isn_bb, tr_non, tr_bl, tr_int, ty_non, ty_bl, ty_int, ty_tup, ty_ro, isa_int_int, isa_int_bool, isa_int_list, isa_int_tuple, isa_list_list, isa_list_tuple, isa_tuple_list, isa_tuple_tuple, sq_tup, sq_ro, bi_int_int, bi_int_bl, bi_tuple_tup, bi_min, bi_max, bi_len_tup, bi_len_ro, ix_tup, ix_ro, sl_tup, sl_ro, stays_tup, stays_ro, at_0, at_1, gc_ai, gc_aai, gc_aaai, gc_ab, gc_aab, gc_aaab, gc_an, gc_aan, gc_aaan, gc_same, wipe_nil, wipe_cons, sz_0, sz_1, sz_2, sz_3, sz_4, sz_5, sz_6, sz_7, sz_8, sz_9, sz_10, runDef, runFull, Def.full, startD, List.length_cons, List.length_nil, List.map_cons, List.map_nil, List.append_nil, List.nil_append, List.cons_append, List.drop_nil, List.drop_zero, List.set_cons_zero, List.set_cons_succ, List.replicate, if_true, if_false, Bool.not_true, Bool.not_false, Bool.true_or, Bool.false_or, Option.map_some, Option.map_none, Nat.zero_add, Nat.add_zero, Nat.sub_self, Nat.reduceAdd, Nat.reduceSub, ↓reduceIte, Bool.and_true, Bool.true_and, Bool.false_and, Bool.and_false, Int.cast_ofNat_Int, decide_true, decide_false, Int.reduceEq, Int.reduceLT, Int.reduceLE, Bool.false_eq_true, is_integer_int, decide_eq_false (Int.not_lt.mpr h)]
theorem is_towers_of (k : Nat) {v : D} {tw : List (Int × Int)} {S : Store} (hv : IsTw S v tw) : orc defs (k + 4) 7 [v] S = some (.bl true, S) := by
  rw [orc_at (d := d_is_towers) rfl]
  simp only [d_is_towers, b_is_towers, bnd_some, bnd_none, opt_some, opt_none, seqF_next, seqF_brk, seqF_cnt, seqF_ret, ts_nil, ts_cons, out_ret, out_next, ite_t, ite_f, bop_and_t, bop_and_f, bop_or_t, bop_or_f, bb_and_t, bb_and_f, bb_or_t, bb_or_f, slot_0, slot_s, e_con, b_con, e_var, b_var, e_glo, b_glo, e_tup, b_tup, e_lst, b_lst, e_dct, b_dct, e_op, b_op, e_neg, b_neg, e_not, b_not, e_bop, b_bop, e_cmp, b_cmp, e_chn, b_chn, e_ifx, b_ifx, e_ix, b_ix, e_sl, b_sl, e_call, b_call, e_bi, b_bi, e_mxd, b_mxd, e_isi, b_isi, e_isl, b_isl, e_lrg, b_lrg, e_mt, b_mt, e_lc, b_lc, bop_1, bop_2, bb_1, bb_2, es_nil, es_cons, eo_none, eo_some, if_none, if_some, i_ex, i_rng1, i_rng2, i_enm, q_nm, q_tp, q_sb, setK_some, qs_nil, qs_cons, t_asg, t_aug, t_ex, t_ret, t_retN, t_iff, t_fr, t_whl, t_brk, t_cnt, t_pas, con_none, con_bool, con_int, con_str, neg_int, not_bl, int_int, add_int, sub_int, lt_int, le_int, gt_int, ge_int, eq_int, ne_int, is_nn, is_in, is_bb, isn_nn, isn_in, isn_bb, tr_non, tr_bl, tr_int, ty_non, ty_bl, ty_int, ty_tup, ty_ro, isa_int_int, isa_int_bool, isa_int_list, isa_int_tuple, isa_list_list, isa_list_tuple, isa_tuple_list, isa_tuple_tuple, sq_tup, sq_ro, bi_int_int, bi_int_bl, bi_tuple_tup, bi_min, bi_max, bi_len_tup, bi_len_ro, ix_tup, ix_ro, sl_tup, sl_ro, stays_tup, stays_ro, at_0, at_1, gc_ai, gc_aai, gc_aaai, gc_ab, gc_aab, gc_aaab, gc_an, gc_aan, gc_aaan, gc_same, wipe_nil, wipe_cons, sz_0, sz_1, sz_2, sz_3, sz_4, sz_5, sz_6, sz_7, sz_8, sz_9, sz_10, runDef, runFull, Def.full, startD, List.length_cons, List.length_nil, List.map_cons, List.map_nil, List.append_nil, List.nil_append, List.cons_append, List.drop_nil, List.drop_zero, List.set_cons_zero, List.set_cons_succ, List.replicate, if_true, if_false, Bool.not_true, Bool.not_false, Bool.true_or, Bool.false_or, Option.map_some, Option.map_none, Nat.zero_add, Nat.add_zero, Nat.sub_self, Nat.reduceAdd, Nat.reduceSub, ↓reduceIte, Bool.and_true, Bool.true_and, Bool.false_and, Bool.and_false, Int.cast_ofNat_Int, decide_true, decide_false, Int.reduceEq, Int.reduceLT, Int.reduceLE, Bool.false_eq_true, wrong_at_of k hv]

theorem highest_of (k : Nat) {tw : List (Int × Int)} {S : Store} (hl : tw.length ≤ 1000) : orc defs (k + 1) 8 [.tup (tw.map prD)] S = some (.int (hiT tw), S) := by
  rw [orc_at (d := d_highest) rfl]
  simp only [d_highest, b_highest, bnd_some, bnd_none, opt_some, opt_none, seqF_next, seqF_brk, seqF_cnt, seqF_ret, ts_nil, ts_cons, out_ret, out_next, ite_t, ite_f, bop_and_t, bop_and_f, bop_or_t, bop_or_f, bb_and_t, bb_and_f, bb_or_t, bb_or_f, slot_0, slot_s, e_con, b_con, e_var, b_var, e_glo, b_glo, e_tup, b_tup, e_lst, b_lst, e_dct, b_dct, e_op, b_op, e_neg, b_neg, e_not, b_not, e_bop, b_bop, e_cmp, b_cmp, e_chn, b_chn, e_ifx, b_ifx, e_ix, b_ix, e_sl, b_sl, e_call, b_call, e_bi, b_bi, e_mxd, b_mxd, e_isi, b_isi, e_isl, b_isl, e_lrg, b_lrg, e_mt, b_mt, e_lc, b_lc, bop_1, bop_2, bb_1, bb_2, es_nil, es_cons, eo_none, eo_some, if_none, if_some, i_ex, i_rng1, i_rng2, i_enm, q_nm, q_tp, q_sb, setK_some, qs_nil, qs_cons, t_asg, t_aug, t_ex, t_ret, t_retN, t_iff, t_fr, t_whl, t_brk, t_cnt, t_pas, con_none, con_bool, con_int, con_str, neg_int, not_bl, int_int, add_int, sub_int, lt_int, le_int, gt_int, ge_int, eq_int, ne_int, is_nn, is_in, is_bb, isn_nn, isn_in, isn_bb, tr_non, tr_bl, tr_int, ty_non, ty_bl, ty_int, ty_tup, ty_ro, isa_int_int, isa_int_bool, isa_int_list, isa_int_tuple, isa_list_list, isa_list_tuple, isa_tuple_list, isa_tuple_tuple, sq_tup, sq_ro, bi_int_int, bi_int_bl, bi_tuple_tup, bi_min, bi_max, bi_len_tup, bi_len_ro, ix_tup, ix_ro, sl_tup, sl_ro, stays_tup, stays_ro, at_0, at_1, gc_ai, gc_aai, gc_aaai, gc_ab, gc_aab, gc_aaab, gc_an, gc_aan, gc_aaan, gc_same, wipe_nil, wipe_cons, sz_0, sz_1, sz_2, sz_3, sz_4, sz_5, sz_6, sz_7, sz_8, sz_9, sz_10, runDef, runFull, Def.full, startD, List.length_cons, List.length_nil, List.map_cons, List.map_nil, List.append_nil, List.nil_append, List.cons_append, List.drop_nil, List.drop_zero, List.set_cons_zero, List.set_cons_succ, List.replicate, if_true, if_false, Bool.not_true, Bool.not_false, Bool.true_or, Bool.false_or, Option.map_some, Option.map_none, Nat.zero_add, Nat.add_zero, Nat.sub_self, Nat.reduceAdd, Nat.reduceSub, ↓reduceIte, Bool.and_true, Bool.true_and, Bool.false_and, Bool.and_false, Int.cast_ofNat_Int, decide_true, decide_false, Int.reduceEq, Int.reduceLT, Int.reduceLE, Bool.false_eq_true]
  generalize hX : lcD _ _ _ _ _ _ _ = X
  have e := hX.symm.trans (lcD_tw0 (fun q => D.int q.2) rfl (TwL.prs tw) (fun d q hq hd => ⟨[some (.tup (tw.map prD)), some (.int q.1), some (.int q.2)], by simp only [bnd_some, bnd_none, opt_some, opt_none, seqF_next, seqF_brk, seqF_cnt, seqF_ret, ts_nil, ts_cons, out_ret, out_next, ite_t, ite_f, bop_and_t, bop_and_f, bop_or_t, bop_or_f, bb_and_t, bb_and_f, bb_or_t, bb_or_f, slot_0, slot_s, e_con, b_con, e_var, b_var, e_glo, b_glo, e_tup, b_tup, e_lst, b_lst, e_dct, b_dct, e_op, b_op, e_neg, b_neg, e_not, b_not, e_bop, b_bop, e_cmp, b_cmp, e_chn, b_chn, e_ifx, b_ifx, e_ix, b_ix, e_sl, b_sl, e_call, b_call, e_bi, b_bi, e_mxd, b_mxd, e_isi, b_isi, e_isl, b_isl, e_lrg, b_lrg, e_mt, b_mt, e_lc, b_lc, bop_1, bop_2, bb_1, bb_2, es_nil, es_cons, eo_none, eo_some, if_none, if_some, i_ex, i_rng1, i_rng2, i_enm, q_nm, q_tp, q_sb, setK_some, qs_nil, qs_cons, t_asg, t_aug, t_ex, t_ret, t_retN, t_iff, t_fr, t_whl, t_brk, t_cnt, t_pas, con_none, con_bool, con_int, con_str, neg_int, not_bl, int_int, add_int, sub_int, lt_int, le_int, gt_int, ge_int, eq_int, ne_int, is_nn, is_in, is_bb, isn_nn, isn_in, isn_bb, tr_non, tr_bl, tr_int, ty_non, ty_bl, ty_int, ty_tup, ty_ro, isa_int_int, isa_int_bool, isa_int_list, isa_int_tuple, isa_list_list, isa_list_tuple, isa_tuple_list, isa_tuple_tuple, sq_tup, sq_ro, bi_int_int, bi_int_bl, bi_tuple_tup, bi_min, bi_max, bi_len_tup, bi_len_ro, ix_tup, ix_ro, sl_tup, sl_ro, stays_tup, stays_ro, at_0, at_1, gc_ai, gc_aai, gc_aaai, gc_ab, gc_aab, gc_aaab, gc_an, gc_aan, gc_aaan, gc_same, wipe_nil, wipe_cons, sz_0, sz_1, sz_2, sz_3, sz_4, sz_5, sz_6, sz_7, sz_8, sz_9, sz_10, runDef, runFull, Def.full, startD, List.length_cons, List.length_nil, List.map_cons, List.map_nil, List.append_nil, List.nil_append, List.cons_append, List.drop_nil, List.drop_zero, List.set_cons_zero, List.set_cons_succ, List.replicate, if_true, if_false, Bool.not_true, Bool.not_false, Bool.true_or, Bool.false_or, Option.map_some, Option.map_none, Nat.zero_add, Nat.add_zero, Nat.sub_self, Nat.reduceAdd, Nat.reduceSub, ↓reduceIte, Bool.and_true, Bool.true_and, Bool.false_and, Bool.and_false, Int.cast_ofNat_Int, decide_true, decide_false, Int.reduceEq, Int.reduceLT, Int.reduceLE, Bool.false_eq_true, hd], by simp only [bnd_some, bnd_none, opt_some, opt_none, seqF_next, seqF_brk, seqF_cnt, seqF_ret, ts_nil, ts_cons, out_ret, out_next, ite_t, ite_f, bop_and_t, bop_and_f, bop_or_t, bop_or_f, bb_and_t, bb_and_f, bb_or_t, bb_or_f, slot_0, slot_s, e_con, b_con, e_var, b_var, e_glo, b_glo, e_tup, b_tup, e_lst, b_lst, e_dct, b_dct, e_op, b_op, e_neg, b_neg, e_not, b_not, e_bop, b_bop, e_cmp, b_cmp, e_chn, b_chn, e_ifx, b_ifx, e_ix, b_ix, e_sl, b_sl, e_call, b_call, e_bi, b_bi, e_mxd, b_mxd, e_isi, b_isi, e_isl, b_isl, e_lrg, b_lrg, e_mt, b_mt, e_lc, b_lc, bop_1, bop_2, bb_1, bb_2, es_nil, es_cons, eo_none, eo_some, if_none, if_some, i_ex, i_rng1, i_rng2, i_enm, q_nm, q_tp, q_sb, setK_some, qs_nil, qs_cons, t_asg, t_aug, t_ex, t_ret, t_retN, t_iff, t_fr, t_whl, t_brk, t_cnt, t_pas, con_none, con_bool, con_int, con_str, neg_int, not_bl, int_int, add_int, sub_int, lt_int, le_int, gt_int, ge_int, eq_int, ne_int, is_nn, is_in, is_bb, isn_nn, isn_in, isn_bb, tr_non, tr_bl, tr_int, ty_non, ty_bl, ty_int, ty_tup, ty_ro, isa_int_int, isa_int_bool, isa_int_list, isa_int_tuple, isa_list_list, isa_list_tuple, isa_tuple_list, isa_tuple_tuple, sq_tup, sq_ro, bi_int_int, bi_int_bl, bi_tuple_tup, bi_min, bi_max, bi_len_tup, bi_len_ro, ix_tup, ix_ro, sl_tup, sl_ro, stays_tup, stays_ro, at_0, at_1, gc_ai, gc_aai, gc_aaai, gc_ab, gc_aab, gc_aaab, gc_an, gc_aan, gc_aaan, gc_same, wipe_nil, wipe_cons, sz_0, sz_1, sz_2, sz_3, sz_4, sz_5, sz_6, sz_7, sz_8, sz_9, sz_10, runDef, runFull, Def.full, startD, List.length_cons, List.length_nil, List.map_cons, List.map_nil, List.append_nil, List.nil_append, List.cons_append, List.drop_nil, List.drop_zero, List.set_cons_zero, List.set_cons_succ, List.replicate, if_true, if_false, Bool.not_true, Bool.not_false, Bool.true_or, Bool.false_or, Option.map_some, Option.map_none, Nat.zero_add, Nat.add_zero, Nat.sub_self, Nat.reduceAdd, Nat.reduceSub, ↓reduceIte, Bool.and_true, Bool.true_and, Bool.false_and, Bool.and_false, Int.cast_ofNat_Int, decide_true, decide_false, Int.reduceEq, Int.reduceLT, Int.reduceLE, Bool.false_eq_true], by simp only [bnd_some, bnd_none, opt_some, opt_none, seqF_next, seqF_brk, seqF_cnt, seqF_ret, ts_nil, ts_cons, out_ret, out_next, ite_t, ite_f, bop_and_t, bop_and_f, bop_or_t, bop_or_f, bb_and_t, bb_and_f, bb_or_t, bb_or_f, slot_0, slot_s, e_con, b_con, e_var, b_var, e_glo, b_glo, e_tup, b_tup, e_lst, b_lst, e_dct, b_dct, e_op, b_op, e_neg, b_neg, e_not, b_not, e_bop, b_bop, e_cmp, b_cmp, e_chn, b_chn, e_ifx, b_ifx, e_ix, b_ix, e_sl, b_sl, e_call, b_call, e_bi, b_bi, e_mxd, b_mxd, e_isi, b_isi, e_isl, b_isl, e_lrg, b_lrg, e_mt, b_mt, e_lc, b_lc, bop_1, bop_2, bb_1, bb_2, es_nil, es_cons, eo_none, eo_some, if_none, if_some, i_ex, i_rng1, i_rng2, i_enm, q_nm, q_tp, q_sb, setK_some, qs_nil, qs_cons, t_asg, t_aug, t_ex, t_ret, t_retN, t_iff, t_fr, t_whl, t_brk, t_cnt, t_pas, con_none, con_bool, con_int, con_str, neg_int, not_bl, int_int, add_int, sub_int, lt_int, le_int, gt_int, ge_int, eq_int, ne_int, is_nn, is_in, is_bb, isn_nn, isn_in, isn_bb, tr_non, tr_bl, tr_int, ty_non, ty_bl, ty_int, ty_tup, ty_ro, isa_int_int, isa_int_bool, isa_int_list, isa_int_tuple, isa_list_list, isa_list_tuple, isa_tuple_list, isa_tuple_tuple, sq_tup, sq_ro, bi_int_int, bi_int_bl, bi_tuple_tup, bi_min, bi_max, bi_len_tup, bi_len_ro, ix_tup, ix_ro, sl_tup, sl_ro, stays_tup, stays_ro, at_0, at_1, gc_ai, gc_aai, gc_aaai, gc_ab, gc_aab, gc_aaab, gc_an, gc_aan, gc_aaan, gc_same, wipe_nil, wipe_cons, sz_0, sz_1, sz_2, sz_3, sz_4, sz_5, sz_6, sz_7, sz_8, sz_9, sz_10, runDef, runFull, Def.full, startD, List.length_cons, List.length_nil, List.map_cons, List.map_nil, List.append_nil, List.nil_append, List.cons_append, List.drop_nil, List.drop_zero, List.set_cons_zero, List.set_cons_succ, List.replicate, if_true, if_false, Bool.not_true, Bool.not_false, Bool.true_or, Bool.false_or, Option.map_some, Option.map_none, Nat.zero_add, Nat.add_zero, Nat.sub_self, Nat.reduceAdd, Nat.reduceSub, ↓reduceIte, Bool.and_true, Bool.true_and, Bool.false_and, Bool.and_false, Int.cast_ofNat_Int, decide_true, decide_false, Int.reduceEq, Int.reduceLT, Int.reduceLE, Bool.false_eq_true]⟩) (small hl))
  subst e
  simp only [bnd_some, bnd_none, opt_some, opt_none, seqF_next, seqF_brk, seqF_cnt, seqF_ret, ts_nil, ts_cons, out_ret, out_next, ite_t, ite_f, bop_and_t, bop_and_f, bop_or_t, bop_or_f, bb_and_t, bb_and_f, bb_or_t, bb_or_f, slot_0, slot_s, e_con, b_con, e_var, b_var, e_glo, b_glo, e_tup, b_tup, e_lst, b_lst, e_dct, b_dct, e_op, b_op, e_neg, b_neg, e_not, b_not, e_bop, b_bop, e_cmp, b_cmp, e_chn, b_chn, e_ifx, b_ifx, e_ix, b_ix, e_sl, b_sl, e_call, b_call, e_bi, b_bi, e_mxd, b_mxd, e_isi, b_isi, e_isl, b_isl, e_lrg, b_lrg, e_mt, b_mt, e_lc, b_lc, bop_1, bop_2, bb_1, bb_2, es_nil, es_cons, eo_none, eo_some, if_none, if_some, i_ex, i_rng1, i_rng2, i_enm, q_nm, q_tp, q_sb, setK_some, qs_nil, qs_cons, t_asg, t_aug, t_ex, t_ret, t_retN, t_iff, t_fr, t_whl, t_brk, t_cnt, t_pas, con_none, con_bool, con_int, con_str, neg_int, not_bl, int_int, add_int, sub_int, lt_int, le_int, gt_int, ge_int, eq_int, ne_int, is_nn, is_in, is_bb, isn_nn, isn_in, isn_bb, tr_non, tr_bl, tr_int, ty_non, ty_bl, ty_int, ty_tup, ty_ro, isa_int_int, isa_int_bool, isa_int_list, isa_int_tuple, isa_list_list, isa_list_tuple, isa_tuple_list, isa_tuple_tuple, sq_tup, sq_ro, bi_int_int, bi_int_bl, bi_tuple_tup, bi_min, bi_max, bi_len_tup, bi_len_ro, ix_tup, ix_ro, sl_tup, sl_ro, stays_tup, stays_ro, at_0, at_1, gc_ai, gc_aai, gc_aaai, gc_ab, gc_aab, gc_aaab, gc_an, gc_aan, gc_aaan, gc_same, wipe_nil, wipe_cons, sz_0, sz_1, sz_2, sz_3, sz_4, sz_5, sz_6, sz_7, sz_8, sz_9, sz_10, runDef, runFull, Def.full, startD, List.length_cons, List.length_nil, List.map_cons, List.map_nil, List.append_nil, List.nil_append, List.cons_append, List.drop_nil, List.drop_zero, List.set_cons_zero, List.set_cons_succ, List.replicate, if_true, if_false, Bool.not_true, Bool.not_false, Bool.true_or, Bool.false_or, Option.map_some, Option.map_none, Nat.zero_add, Nat.add_zero, Nat.sub_self, Nat.reduceAdd, Nat.reduceSub, ↓reduceIte, Bool.and_true, Bool.true_and, Bool.false_and, Bool.and_false, Int.cast_ofNat_Int, decide_true, decide_false, Int.reduceEq, Int.reduceLT, Int.reduceLE, Bool.false_eq_true, maxD_tw look_new]
theorem top_of (k : Nat) {v : D} {tw : List (Int × Int)} {S : Store} (hv : IsTw S v tw) : orc defs (k + 5) 9 [v] S = some (.int (hiT tw), S) := by
  rw [orc_at (d := d_top) rfl]
  simp only [d_top, b_top, bnd_some, bnd_none, opt_some, opt_none, seqF_next, seqF_brk, seqF_cnt, seqF_ret, ts_nil, ts_cons, out_ret, out_next, ite_t, ite_f, bop_and_t, bop_and_f, bop_or_t, bop_or_f, bb_and_t, bb_and_f, bb_or_t, bb_or_f, slot_0, slot_s, e_con, b_con, e_var, b_var, e_glo, b_glo, e_tup, b_tup, e_lst, b_lst, e_dct, b_dct, e_op, b_op, e_neg, b_neg, e_not, b_not, e_bop, b_bop, e_cmp, b_cmp, e_chn, b_chn, e_ifx, b_ifx, e_ix, b_ix, e_sl, b_sl, e_call, b_call, e_bi, b_bi, e_mxd, b_mxd, e_isi, b_isi, e_isl, b_isl, e_lrg, b_lrg, e_mt, b_mt, e_lc, b_lc, bop_1, bop_2, bb_1, bb_2, es_nil, es_cons, eo_none, eo_some, if_none, if_some, i_ex, i_rng1, i_rng2, i_enm, q_nm, q_tp, q_sb, setK_some, qs_nil, qs_cons, t_asg, t_aug, t_ex, t_ret, t_retN, t_iff, t_fr, t_whl, t_brk, t_cnt, t_pas, con_none, con_bool, con_int, con_str, neg_int, not_bl, int_int, add_int, sub_int, lt_int, le_int, gt_int, ge_int, eq_int, ne_int, is_nn, is_in, is_bb, isn_nn, isn_in, isn_bb, tr_non, tr_bl, tr_int, ty_non, ty_bl, ty_int, ty_tup, ty_ro, isa_int_int, isa_int_bool, isa_int_list, isa_int_tuple, isa_list_list, isa_list_tuple, isa_tuple_list, isa_tuple_tuple, sq_tup, sq_ro, bi_int_int, bi_int_bl, bi_tuple_tup, bi_min, bi_max, bi_len_tup, bi_len_ro, ix_tup, ix_ro, sl_tup, sl_ro, stays_tup, stays_ro, at_0, at_1, gc_ai, gc_aai, gc_aaai, gc_ab, gc_aab, gc_aaab, gc_an, gc_aan, gc_aaan, gc_same, wipe_nil, wipe_cons, sz_0, sz_1, sz_2, sz_3, sz_4, sz_5, sz_6, sz_7, sz_8, sz_9, sz_10, runDef, runFull, Def.full, startD, List.length_cons, List.length_nil, List.map_cons, List.map_nil, List.append_nil, List.nil_append, List.cons_append, List.drop_nil, List.drop_zero, List.set_cons_zero, List.set_cons_succ, List.replicate, if_true, if_false, Bool.not_true, Bool.not_false, Bool.true_or, Bool.false_or, Option.map_some, Option.map_none, Nat.zero_add, Nat.add_zero, Nat.sub_self, Nat.reduceAdd, Nat.reduceSub, ↓reduceIte, Bool.and_true, Bool.true_and, Bool.false_and, Bool.and_false, Int.cast_ofNat_Int, decide_true, decide_false, Int.reduceEq, Int.reduceLT, Int.reduceLE, Bool.false_eq_true, checked_of k hv, highest_of (k + 3) hv.len]
theorem heights_of (k : Nat) {v : D} {tw : List (Int × Int)} {S : Store} (hv : IsTw S v tw) : orc defs (k + 5) 10 [v] S = some (.tup (tw.map fun q => D.int q.2), S) := by
  rw [orc_at (d := d_heights) rfl]
  simp only [d_heights, b_heights, bnd_some, bnd_none, opt_some, opt_none, seqF_next, seqF_brk, seqF_cnt, seqF_ret, ts_nil, ts_cons, out_ret, out_next, ite_t, ite_f, bop_and_t, bop_and_f, bop_or_t, bop_or_f, bb_and_t, bb_and_f, bb_or_t, bb_or_f, slot_0, slot_s, e_con, b_con, e_var, b_var, e_glo, b_glo, e_tup, b_tup, e_lst, b_lst, e_dct, b_dct, e_op, b_op, e_neg, b_neg, e_not, b_not, e_bop, b_bop, e_cmp, b_cmp, e_chn, b_chn, e_ifx, b_ifx, e_ix, b_ix, e_sl, b_sl, e_call, b_call, e_bi, b_bi, e_mxd, b_mxd, e_isi, b_isi, e_isl, b_isl, e_lrg, b_lrg, e_mt, b_mt, e_lc, b_lc, bop_1, bop_2, bb_1, bb_2, es_nil, es_cons, eo_none, eo_some, if_none, if_some, i_ex, i_rng1, i_rng2, i_enm, q_nm, q_tp, q_sb, setK_some, qs_nil, qs_cons, t_asg, t_aug, t_ex, t_ret, t_retN, t_iff, t_fr, t_whl, t_brk, t_cnt, t_pas, con_none, con_bool, con_int, con_str, neg_int, not_bl, int_int, add_int, sub_int, lt_int, le_int, gt_int, ge_int, eq_int, ne_int, is_nn, is_in, is_bb, isn_nn, isn_in, isn_bb, tr_non, tr_bl, tr_int, ty_non, ty_bl, ty_int, ty_tup, ty_ro, isa_int_int, isa_int_bool, isa_int_list, isa_int_tuple, isa_list_list, isa_list_tuple, isa_tuple_list, isa_tuple_tuple, sq_tup, sq_ro, bi_int_int, bi_int_bl, bi_tuple_tup, bi_min, bi_max, bi_len_tup, bi_len_ro, ix_tup, ix_ro, sl_tup, sl_ro, stays_tup, stays_ro, at_0, at_1, gc_ai, gc_aai, gc_aaai, gc_ab, gc_aab, gc_aaab, gc_an, gc_aan, gc_aaan, gc_same, wipe_nil, wipe_cons, sz_0, sz_1, sz_2, sz_3, sz_4, sz_5, sz_6, sz_7, sz_8, sz_9, sz_10, runDef, runFull, Def.full, startD, List.length_cons, List.length_nil, List.map_cons, List.map_nil, List.append_nil, List.nil_append, List.cons_append, List.drop_nil, List.drop_zero, List.set_cons_zero, List.set_cons_succ, List.replicate, if_true, if_false, Bool.not_true, Bool.not_false, Bool.true_or, Bool.false_or, Option.map_some, Option.map_none, Nat.zero_add, Nat.add_zero, Nat.sub_self, Nat.reduceAdd, Nat.reduceSub, ↓reduceIte, Bool.and_true, Bool.true_and, Bool.false_and, Bool.and_false, Int.cast_ofNat_Int, decide_true, decide_false, Int.reduceEq, Int.reduceLT, Int.reduceLE, Bool.false_eq_true, checked_of k hv]
  generalize hX : lcD _ _ _ _ _ _ _ = X
  have e := hX.symm.trans (lcD_tw0 (fun q => D.int q.2) rfl (TwL.prs tw) (fun d q hq hd => ⟨[some v, some (.int q.1), some (.int q.2)], by simp only [bnd_some, bnd_none, opt_some, opt_none, seqF_next, seqF_brk, seqF_cnt, seqF_ret, ts_nil, ts_cons, out_ret, out_next, ite_t, ite_f, bop_and_t, bop_and_f, bop_or_t, bop_or_f, bb_and_t, bb_and_f, bb_or_t, bb_or_f, slot_0, slot_s, e_con, b_con, e_var, b_var, e_glo, b_glo, e_tup, b_tup, e_lst, b_lst, e_dct, b_dct, e_op, b_op, e_neg, b_neg, e_not, b_not, e_bop, b_bop, e_cmp, b_cmp, e_chn, b_chn, e_ifx, b_ifx, e_ix, b_ix, e_sl, b_sl, e_call, b_call, e_bi, b_bi, e_mxd, b_mxd, e_isi, b_isi, e_isl, b_isl, e_lrg, b_lrg, e_mt, b_mt, e_lc, b_lc, bop_1, bop_2, bb_1, bb_2, es_nil, es_cons, eo_none, eo_some, if_none, if_some, i_ex, i_rng1, i_rng2, i_enm, q_nm, q_tp, q_sb, setK_some, qs_nil, qs_cons, t_asg, t_aug, t_ex, t_ret, t_retN, t_iff, t_fr, t_whl, t_brk, t_cnt, t_pas, con_none, con_bool, con_int, con_str, neg_int, not_bl, int_int, add_int, sub_int, lt_int, le_int, gt_int, ge_int, eq_int, ne_int, is_nn, is_in, is_bb, isn_nn, isn_in, isn_bb, tr_non, tr_bl, tr_int, ty_non, ty_bl, ty_int, ty_tup, ty_ro, isa_int_int, isa_int_bool, isa_int_list, isa_int_tuple, isa_list_list, isa_list_tuple, isa_tuple_list, isa_tuple_tuple, sq_tup, sq_ro, bi_int_int, bi_int_bl, bi_tuple_tup, bi_min, bi_max, bi_len_tup, bi_len_ro, ix_tup, ix_ro, sl_tup, sl_ro, stays_tup, stays_ro, at_0, at_1, gc_ai, gc_aai, gc_aaai, gc_ab, gc_aab, gc_aaab, gc_an, gc_aan, gc_aaan, gc_same, wipe_nil, wipe_cons, sz_0, sz_1, sz_2, sz_3, sz_4, sz_5, sz_6, sz_7, sz_8, sz_9, sz_10, runDef, runFull, Def.full, startD, List.length_cons, List.length_nil, List.map_cons, List.map_nil, List.append_nil, List.nil_append, List.cons_append, List.drop_nil, List.drop_zero, List.set_cons_zero, List.set_cons_succ, List.replicate, if_true, if_false, Bool.not_true, Bool.not_false, Bool.true_or, Bool.false_or, Option.map_some, Option.map_none, Nat.zero_add, Nat.add_zero, Nat.sub_self, Nat.reduceAdd, Nat.reduceSub, ↓reduceIte, Bool.and_true, Bool.true_and, Bool.false_and, Bool.and_false, Int.cast_ofNat_Int, decide_true, decide_false, Int.reduceEq, Int.reduceLT, Int.reduceLE, Bool.false_eq_true, hd], by simp only [bnd_some, bnd_none, opt_some, opt_none, seqF_next, seqF_brk, seqF_cnt, seqF_ret, ts_nil, ts_cons, out_ret, out_next, ite_t, ite_f, bop_and_t, bop_and_f, bop_or_t, bop_or_f, bb_and_t, bb_and_f, bb_or_t, bb_or_f, slot_0, slot_s, e_con, b_con, e_var, b_var, e_glo, b_glo, e_tup, b_tup, e_lst, b_lst, e_dct, b_dct, e_op, b_op, e_neg, b_neg, e_not, b_not, e_bop, b_bop, e_cmp, b_cmp, e_chn, b_chn, e_ifx, b_ifx, e_ix, b_ix, e_sl, b_sl, e_call, b_call, e_bi, b_bi, e_mxd, b_mxd, e_isi, b_isi, e_isl, b_isl, e_lrg, b_lrg, e_mt, b_mt, e_lc, b_lc, bop_1, bop_2, bb_1, bb_2, es_nil, es_cons, eo_none, eo_some, if_none, if_some, i_ex, i_rng1, i_rng2, i_enm, q_nm, q_tp, q_sb, setK_some, qs_nil, qs_cons, t_asg, t_aug, t_ex, t_ret, t_retN, t_iff, t_fr, t_whl, t_brk, t_cnt, t_pas, con_none, con_bool, con_int, con_str, neg_int, not_bl, int_int, add_int, sub_int, lt_int, le_int, gt_int, ge_int, eq_int, ne_int, is_nn, is_in, is_bb, isn_nn, isn_in, isn_bb, tr_non, tr_bl, tr_int, ty_non, ty_bl, ty_int, ty_tup, ty_ro, isa_int_int, isa_int_bool, isa_int_list, isa_int_tuple, isa_list_list, isa_list_tuple, isa_tuple_list, isa_tuple_tuple, sq_tup, sq_ro, bi_int_int, bi_int_bl, bi_tuple_tup, bi_min, bi_max, bi_len_tup, bi_len_ro, ix_tup, ix_ro, sl_tup, sl_ro, stays_tup, stays_ro, at_0, at_1, gc_ai, gc_aai, gc_aaai, gc_ab, gc_aab, gc_aaab, gc_an, gc_aan, gc_aaan, gc_same, wipe_nil, wipe_cons, sz_0, sz_1, sz_2, sz_3, sz_4, sz_5, sz_6, sz_7, sz_8, sz_9, sz_10, runDef, runFull, Def.full, startD, List.length_cons, List.length_nil, List.map_cons, List.map_nil, List.append_nil, List.nil_append, List.cons_append, List.drop_nil, List.drop_zero, List.set_cons_zero, List.set_cons_succ, List.replicate, if_true, if_false, Bool.not_true, Bool.not_false, Bool.true_or, Bool.false_or, Option.map_some, Option.map_none, Nat.zero_add, Nat.add_zero, Nat.sub_self, Nat.reduceAdd, Nat.reduceSub, ↓reduceIte, Bool.and_true, Bool.true_and, Bool.false_and, Bool.and_false, Int.cast_ofNat_Int, decide_true, decide_false, Int.reduceEq, Int.reduceLT, Int.reduceLE, Bool.false_eq_true], by simp only [bnd_some, bnd_none, opt_some, opt_none, seqF_next, seqF_brk, seqF_cnt, seqF_ret, ts_nil, ts_cons, out_ret, out_next, ite_t, ite_f, bop_and_t, bop_and_f, bop_or_t, bop_or_f, bb_and_t, bb_and_f, bb_or_t, bb_or_f, slot_0, slot_s, e_con, b_con, e_var, b_var, e_glo, b_glo, e_tup, b_tup, e_lst, b_lst, e_dct, b_dct, e_op, b_op, e_neg, b_neg, e_not, b_not, e_bop, b_bop, e_cmp, b_cmp, e_chn, b_chn, e_ifx, b_ifx, e_ix, b_ix, e_sl, b_sl, e_call, b_call, e_bi, b_bi, e_mxd, b_mxd, e_isi, b_isi, e_isl, b_isl, e_lrg, b_lrg, e_mt, b_mt, e_lc, b_lc, bop_1, bop_2, bb_1, bb_2, es_nil, es_cons, eo_none, eo_some, if_none, if_some, i_ex, i_rng1, i_rng2, i_enm, q_nm, q_tp, q_sb, setK_some, qs_nil, qs_cons, t_asg, t_aug, t_ex, t_ret, t_retN, t_iff, t_fr, t_whl, t_brk, t_cnt, t_pas, con_none, con_bool, con_int, con_str, neg_int, not_bl, int_int, add_int, sub_int, lt_int, le_int, gt_int, ge_int, eq_int, ne_int, is_nn, is_in, is_bb, isn_nn, isn_in, isn_bb, tr_non, tr_bl, tr_int, ty_non, ty_bl, ty_int, ty_tup, ty_ro, isa_int_int, isa_int_bool, isa_int_list, isa_int_tuple, isa_list_list, isa_list_tuple, isa_tuple_list, isa_tuple_tuple, sq_tup, sq_ro, bi_int_int, bi_int_bl, bi_tuple_tup, bi_min, bi_max, bi_len_tup, bi_len_ro, ix_tup, ix_ro, sl_tup, sl_ro, stays_tup, stays_ro, at_0, at_1, gc_ai, gc_aai, gc_aaai, gc_ab, gc_aab, gc_aaab, gc_an, gc_aan, gc_aaan, gc_same, wipe_nil, wipe_cons, sz_0, sz_1, sz_2, sz_3, sz_4, sz_5, sz_6, sz_7, sz_8, sz_9, sz_10, runDef, runFull, Def.full, startD, List.length_cons, List.length_nil, List.map_cons, List.map_nil, List.append_nil, List.nil_append, List.cons_append, List.drop_nil, List.drop_zero, List.set_cons_zero, List.set_cons_succ, List.replicate, if_true, if_false, Bool.not_true, Bool.not_false, Bool.true_or, Bool.false_or, Option.map_some, Option.map_none, Nat.zero_add, Nat.add_zero, Nat.sub_self, Nat.reduceAdd, Nat.reduceSub, ↓reduceIte, Bool.and_true, Bool.true_and, Bool.false_and, Bool.and_false, Int.cast_ofNat_Int, decide_true, decide_false, Int.reduceEq, Int.reduceLT, Int.reduceLE, Bool.false_eq_true]⟩) (small hv.len))
  subst e
  simp only [bnd_some, bnd_none, opt_some, opt_none, seqF_next, seqF_brk, seqF_cnt, seqF_ret, ts_nil, ts_cons, out_ret, out_next, ite_t, ite_f, bop_and_t, bop_and_f, bop_or_t, bop_or_f, bb_and_t, bb_and_f, bb_or_t, bb_or_f, slot_0, slot_s, e_con, b_con, e_var, b_var, e_glo, b_glo, e_tup, b_tup, e_lst, b_lst, e_dct, b_dct, e_op, b_op, e_neg, b_neg, e_not, b_not, e_bop, b_bop, e_cmp, b_cmp, e_chn, b_chn, e_ifx, b_ifx, e_ix, b_ix, e_sl, b_sl, e_call, b_call, e_bi, b_bi, e_mxd, b_mxd, e_isi, b_isi, e_isl, b_isl, e_lrg, b_lrg, e_mt, b_mt, e_lc, b_lc, bop_1, bop_2, bb_1, bb_2, es_nil, es_cons, eo_none, eo_some, if_none, if_some, i_ex, i_rng1, i_rng2, i_enm, q_nm, q_tp, q_sb, setK_some, qs_nil, qs_cons, t_asg, t_aug, t_ex, t_ret, t_retN, t_iff, t_fr, t_whl, t_brk, t_cnt, t_pas, con_none, con_bool, con_int, con_str, neg_int, not_bl, int_int, add_int, sub_int, lt_int, le_int, gt_int, ge_int, eq_int, ne_int, is_nn, is_in, is_bb, isn_nn, isn_in, isn_bb, tr_non, tr_bl, tr_int, ty_non, ty_bl, ty_int, ty_tup, ty_ro, isa_int_int, isa_int_bool, isa_int_list, isa_int_tuple, isa_list_list, isa_list_tuple, isa_tuple_list, isa_tuple_tuple, sq_tup, sq_ro, bi_int_int, bi_int_bl, bi_tuple_tup, bi_min, bi_max, bi_len_tup, bi_len_ro, ix_tup, ix_ro, sl_tup, sl_ro, stays_tup, stays_ro, at_0, at_1, gc_ai, gc_aai, gc_aaai, gc_ab, gc_aab, gc_aaab, gc_an, gc_aan, gc_aaan, gc_same, wipe_nil, wipe_cons, sz_0, sz_1, sz_2, sz_3, sz_4, sz_5, sz_6, sz_7, sz_8, sz_9, sz_10, runDef, runFull, Def.full, startD, List.length_cons, List.length_nil, List.map_cons, List.map_nil, List.append_nil, List.nil_append, List.cons_append, List.drop_nil, List.drop_zero, List.set_cons_zero, List.set_cons_succ, List.replicate, if_true, if_false, Bool.not_true, Bool.not_false, Bool.true_or, Bool.false_or, Option.map_some, Option.map_none, Nat.zero_add, Nat.add_zero, Nat.sub_self, Nat.reduceAdd, Nat.reduceSub, ↓reduceIte, Bool.and_true, Bool.true_and, Bool.false_and, Bool.and_false, Int.cast_ofNat_Int, decide_true, decide_false, Int.reduceEq, Int.reduceLT, Int.reduceLE, Bool.false_eq_true, tuple_loc look_new, gc_tupa (pureL_map tw (f := fun q => D.int q.2) fun _ _ => rfl)]
theorem lane_of (k : Nat) {v : D} {tw : List (Int × Int)} {S : Store} (hv : IsTw S v tw) {l : Int} (h1 : 1 ≤ l) : orc defs (k + 5) 12 [v, .int l] S = some (.loc S.length, S ++ [.lst ((keysAt tw l).map D.int)]) := by
  rw [orc_at (d := d_lane) rfl]
  simp only [d_lane, b_lane, bnd_some, bnd_none, opt_some, opt_none, seqF_next, seqF_brk, seqF_cnt, seqF_ret, ts_nil, ts_cons, out_ret, out_next, ite_t, ite_f, bop_and_t, bop_and_f, bop_or_t, bop_or_f, bb_and_t, bb_and_f, bb_or_t, bb_or_f, slot_0, slot_s, e_con, b_con, e_var, b_var, e_glo, b_glo, e_tup, b_tup, e_lst, b_lst, e_dct, b_dct, e_op, b_op, e_neg, b_neg, e_not, b_not, e_bop, b_bop, e_cmp, b_cmp, e_chn, b_chn, e_ifx, b_ifx, e_ix, b_ix, e_sl, b_sl, e_call, b_call, e_bi, b_bi, e_mxd, b_mxd, e_isi, b_isi, e_isl, b_isl, e_lrg, b_lrg, e_mt, b_mt, e_lc, b_lc, bop_1, bop_2, bb_1, bb_2, es_nil, es_cons, eo_none, eo_some, if_none, if_some, i_ex, i_rng1, i_rng2, i_enm, q_nm, q_tp, q_sb, setK_some, qs_nil, qs_cons, t_asg, t_aug, t_ex, t_ret, t_retN, t_iff, t_fr, t_whl, t_brk, t_cnt, t_pas, con_none, con_bool, con_int, con_str, neg_int, not_bl, int_int, add_int, sub_int, lt_int, le_int, gt_int, ge_int, eq_int, ne_int, is_nn, is_in, is_bb, isn_nn, isn_in, isn_bb, tr_non, tr_bl, tr_int, ty_non, ty_bl, ty_int, ty_tup, ty_ro, isa_int_int, isa_int_bool, isa_int_list, isa_int_tuple, isa_list_list, isa_list_tuple, isa_tuple_list, isa_tuple_tuple, sq_tup, sq_ro, bi_int_int, bi_int_bl, bi_tuple_tup, bi_min, bi_max, bi_len_tup, bi_len_ro, ix_tup, ix_ro, sl_tup, sl_ro, stays_tup, stays_ro, at_0, at_1, gc_ai, gc_aai, gc_aaai, gc_ab, gc_aab, gc_aaab, gc_an, gc_aan, gc_aaan, gc_same, wipe_nil, wipe_cons, sz_0, sz_1, sz_2, sz_3, sz_4, sz_5, sz_6, sz_7, sz_8, sz_9, sz_10, runDef, runFull, Def.full, startD, List.length_cons, List.length_nil, List.map_cons, List.map_nil, List.append_nil, List.nil_append, List.cons_append, List.drop_nil, List.drop_zero, List.set_cons_zero, List.set_cons_succ, List.replicate, if_true, if_false, Bool.not_true, Bool.not_false, Bool.true_or, Bool.false_or, Option.map_some, Option.map_none, Nat.zero_add, Nat.add_zero, Nat.sub_self, Nat.reduceAdd, Nat.reduceSub, ↓reduceIte, Bool.and_true, Bool.true_and, Bool.false_and, Bool.and_false, Int.cast_ofNat_Int, decide_true, decide_false, Int.reduceEq, Int.reduceLT, Int.reduceLE, Bool.false_eq_true, checked_of k hv, look_from_of (k + 2) h1]
  generalize hX : lcD _ _ _ _ _ _ _ = X
  have e := hX.symm.trans (lcD_tw (fun q => decide (l ≤ q.2)) (fun q => D.int q.1) rfl [] (TwL.prs tw) (fun d q hq hd => ⟨[some v, some (.int l), some (.tup (tw.map prD)), some (.int q.1), some (.int q.2)], by simp only [bnd_some, bnd_none, opt_some, opt_none, seqF_next, seqF_brk, seqF_cnt, seqF_ret, ts_nil, ts_cons, out_ret, out_next, ite_t, ite_f, bop_and_t, bop_and_f, bop_or_t, bop_or_f, bb_and_t, bb_and_f, bb_or_t, bb_or_f, slot_0, slot_s, e_con, b_con, e_var, b_var, e_glo, b_glo, e_tup, b_tup, e_lst, b_lst, e_dct, b_dct, e_op, b_op, e_neg, b_neg, e_not, b_not, e_bop, b_bop, e_cmp, b_cmp, e_chn, b_chn, e_ifx, b_ifx, e_ix, b_ix, e_sl, b_sl, e_call, b_call, e_bi, b_bi, e_mxd, b_mxd, e_isi, b_isi, e_isl, b_isl, e_lrg, b_lrg, e_mt, b_mt, e_lc, b_lc, bop_1, bop_2, bb_1, bb_2, es_nil, es_cons, eo_none, eo_some, if_none, if_some, i_ex, i_rng1, i_rng2, i_enm, q_nm, q_tp, q_sb, setK_some, qs_nil, qs_cons, t_asg, t_aug, t_ex, t_ret, t_retN, t_iff, t_fr, t_whl, t_brk, t_cnt, t_pas, con_none, con_bool, con_int, con_str, neg_int, not_bl, int_int, add_int, sub_int, lt_int, le_int, gt_int, ge_int, eq_int, ne_int, is_nn, is_in, is_bb, isn_nn, isn_in, isn_bb, tr_non, tr_bl, tr_int, ty_non, ty_bl, ty_int, ty_tup, ty_ro, isa_int_int, isa_int_bool, isa_int_list, isa_int_tuple, isa_list_list, isa_list_tuple, isa_tuple_list, isa_tuple_tuple, sq_tup, sq_ro, bi_int_int, bi_int_bl, bi_tuple_tup, bi_min, bi_max, bi_len_tup, bi_len_ro, ix_tup, ix_ro, sl_tup, sl_ro, stays_tup, stays_ro, at_0, at_1, gc_ai, gc_aai, gc_aaai, gc_ab, gc_aab, gc_aaab, gc_an, gc_aan, gc_aaan, gc_same, wipe_nil, wipe_cons, sz_0, sz_1, sz_2, sz_3, sz_4, sz_5, sz_6, sz_7, sz_8, sz_9, sz_10, runDef, runFull, Def.full, startD, List.length_cons, List.length_nil, List.map_cons, List.map_nil, List.append_nil, List.nil_append, List.cons_append, List.drop_nil, List.drop_zero, List.set_cons_zero, List.set_cons_succ, List.replicate, if_true, if_false, Bool.not_true, Bool.not_false, Bool.true_or, Bool.false_or, Option.map_some, Option.map_none, Nat.zero_add, Nat.add_zero, Nat.sub_self, Nat.reduceAdd, Nat.reduceSub, ↓reduceIte, Bool.and_true, Bool.true_and, Bool.false_and, Bool.and_false, Int.cast_ofNat_Int, decide_true, decide_false, Int.reduceEq, Int.reduceLT, Int.reduceLE, Bool.false_eq_true, hd], by simp only [bnd_some, bnd_none, opt_some, opt_none, seqF_next, seqF_brk, seqF_cnt, seqF_ret, ts_nil, ts_cons, out_ret, out_next, ite_t, ite_f, bop_and_t, bop_and_f, bop_or_t, bop_or_f, bb_and_t, bb_and_f, bb_or_t, bb_or_f, slot_0, slot_s, e_con, b_con, e_var, b_var, e_glo, b_glo, e_tup, b_tup, e_lst, b_lst, e_dct, b_dct, e_op, b_op, e_neg, b_neg, e_not, b_not, e_bop, b_bop, e_cmp, b_cmp, e_chn, b_chn, e_ifx, b_ifx, e_ix, b_ix, e_sl, b_sl, e_call, b_call, e_bi, b_bi, e_mxd, b_mxd, e_isi, b_isi, e_isl, b_isl, e_lrg, b_lrg, e_mt, b_mt, e_lc, b_lc, bop_1, bop_2, bb_1, bb_2, es_nil, es_cons, eo_none, eo_some, if_none, if_some, i_ex, i_rng1, i_rng2, i_enm, q_nm, q_tp, q_sb, setK_some, qs_nil, qs_cons, t_asg, t_aug, t_ex, t_ret, t_retN, t_iff, t_fr, t_whl, t_brk, t_cnt, t_pas, con_none, con_bool, con_int, con_str, neg_int, not_bl, int_int, add_int, sub_int, lt_int, le_int, gt_int, ge_int, eq_int, ne_int, is_nn, is_in, is_bb, isn_nn, isn_in, isn_bb, tr_non, tr_bl, tr_int, ty_non, ty_bl, ty_int, ty_tup, ty_ro, isa_int_int, isa_int_bool, isa_int_list, isa_int_tuple, isa_list_list, isa_list_tuple, isa_tuple_list, isa_tuple_tuple, sq_tup, sq_ro, bi_int_int, bi_int_bl, bi_tuple_tup, bi_min, bi_max, bi_len_tup, bi_len_ro, ix_tup, ix_ro, sl_tup, sl_ro, stays_tup, stays_ro, at_0, at_1, gc_ai, gc_aai, gc_aaai, gc_ab, gc_aab, gc_aaab, gc_an, gc_aan, gc_aaan, gc_same, wipe_nil, wipe_cons, sz_0, sz_1, sz_2, sz_3, sz_4, sz_5, sz_6, sz_7, sz_8, sz_9, sz_10, runDef, runFull, Def.full, startD, List.length_cons, List.length_nil, List.map_cons, List.map_nil, List.append_nil, List.nil_append, List.cons_append, List.drop_nil, List.drop_zero, List.set_cons_zero, List.set_cons_succ, List.replicate, if_true, if_false, Bool.not_true, Bool.not_false, Bool.true_or, Bool.false_or, Option.map_some, Option.map_none, Nat.zero_add, Nat.add_zero, Nat.sub_self, Nat.reduceAdd, Nat.reduceSub, ↓reduceIte, Bool.and_true, Bool.true_and, Bool.false_and, Bool.and_false, Int.cast_ofNat_Int, decide_true, decide_false, Int.reduceEq, Int.reduceLT, Int.reduceLE, Bool.false_eq_true], fun _ => by simp only [bnd_some, bnd_none, opt_some, opt_none, seqF_next, seqF_brk, seqF_cnt, seqF_ret, ts_nil, ts_cons, out_ret, out_next, ite_t, ite_f, bop_and_t, bop_and_f, bop_or_t, bop_or_f, bb_and_t, bb_and_f, bb_or_t, bb_or_f, slot_0, slot_s, e_con, b_con, e_var, b_var, e_glo, b_glo, e_tup, b_tup, e_lst, b_lst, e_dct, b_dct, e_op, b_op, e_neg, b_neg, e_not, b_not, e_bop, b_bop, e_cmp, b_cmp, e_chn, b_chn, e_ifx, b_ifx, e_ix, b_ix, e_sl, b_sl, e_call, b_call, e_bi, b_bi, e_mxd, b_mxd, e_isi, b_isi, e_isl, b_isl, e_lrg, b_lrg, e_mt, b_mt, e_lc, b_lc, bop_1, bop_2, bb_1, bb_2, es_nil, es_cons, eo_none, eo_some, if_none, if_some, i_ex, i_rng1, i_rng2, i_enm, q_nm, q_tp, q_sb, setK_some, qs_nil, qs_cons, t_asg, t_aug, t_ex, t_ret, t_retN, t_iff, t_fr, t_whl, t_brk, t_cnt, t_pas, con_none, con_bool, con_int, con_str, neg_int, not_bl, int_int, add_int, sub_int, lt_int, le_int, gt_int, ge_int, eq_int, ne_int, is_nn, is_in, is_bb, isn_nn, isn_in, isn_bb, tr_non, tr_bl, tr_int, ty_non, ty_bl, ty_int, ty_tup, ty_ro, isa_int_int, isa_int_bool, isa_int_list, isa_int_tuple, isa_list_list, isa_list_tuple, isa_tuple_list, isa_tuple_tuple, sq_tup, sq_ro, bi_int_int, bi_int_bl, bi_tuple_tup, bi_min, bi_max, bi_len_tup, bi_len_ro, ix_tup, ix_ro, sl_tup, sl_ro, stays_tup, stays_ro, at_0, at_1, gc_ai, gc_aai, gc_aaai, gc_ab, gc_aab, gc_aaab, gc_an, gc_aan, gc_aaan, gc_same, wipe_nil, wipe_cons, sz_0, sz_1, sz_2, sz_3, sz_4, sz_5, sz_6, sz_7, sz_8, sz_9, sz_10, runDef, runFull, Def.full, startD, List.length_cons, List.length_nil, List.map_cons, List.map_nil, List.append_nil, List.nil_append, List.cons_append, List.drop_nil, List.drop_zero, List.set_cons_zero, List.set_cons_succ, List.replicate, if_true, if_false, Bool.not_true, Bool.not_false, Bool.true_or, Bool.false_or, Option.map_some, Option.map_none, Nat.zero_add, Nat.add_zero, Nat.sub_self, Nat.reduceAdd, Nat.reduceSub, ↓reduceIte, Bool.and_true, Bool.true_and, Bool.false_and, Bool.and_false, Int.cast_ofNat_Int, decide_true, decide_false, Int.reduceEq, Int.reduceLT, Int.reduceLE, Bool.false_eq_true]⟩) (by simpa using small hv.len))
  subst e
  have e2 : (tw.filter fun q => decide (l ≤ q.2)).map (fun q => D.int q.1) = (keysAt tw l).map D.int := by rw [keysAt, List.map_map]; rfl
  simp only [bnd_some, bnd_none, opt_some, opt_none, seqF_next, seqF_brk, seqF_cnt, seqF_ret, ts_nil, ts_cons, out_ret, out_next, ite_t, ite_f, bop_and_t, bop_and_f, bop_or_t, bop_or_f, bb_and_t, bb_and_f, bb_or_t, bb_or_f, slot_0, slot_s, e_con, b_con, e_var, b_var, e_glo, b_glo, e_tup, b_tup, e_lst, b_lst, e_dct, b_dct, e_op, b_op, e_neg, b_neg, e_not, b_not, e_bop, b_bop, e_cmp, b_cmp, e_chn, b_chn, e_ifx, b_ifx, e_ix, b_ix, e_sl, b_sl, e_call, b_call, e_bi, b_bi, e_mxd, b_mxd, e_isi, b_isi, e_isl, b_isl, e_lrg, b_lrg, e_mt, b_mt, e_lc, b_lc, bop_1, bop_2, bb_1, bb_2, es_nil, es_cons, eo_none, eo_some, if_none, if_some, i_ex, i_rng1, i_rng2, i_enm, q_nm, q_tp, q_sb, setK_some, qs_nil, qs_cons, t_asg, t_aug, t_ex, t_ret, t_retN, t_iff, t_fr, t_whl, t_brk, t_cnt, t_pas, con_none, con_bool, con_int, con_str, neg_int, not_bl, int_int, add_int, sub_int, lt_int, le_int, gt_int, ge_int, eq_int, ne_int, is_nn, is_in, is_bb, isn_nn, isn_in, isn_bb, tr_non, tr_bl, tr_int, ty_non, ty_bl, ty_int, ty_tup, ty_ro, isa_int_int, isa_int_bool, isa_int_list, isa_int_tuple, isa_list_list, isa_list_tuple, isa_tuple_list, isa_tuple_tuple, sq_tup, sq_ro, bi_int_int, bi_int_bl, bi_tuple_tup, bi_min, bi_max, bi_len_tup, bi_len_ro, ix_tup, ix_ro, sl_tup, sl_ro, stays_tup, stays_ro, at_0, at_1, gc_ai, gc_aai, gc_aaai, gc_ab, gc_aab, gc_aaab, gc_an, gc_aan, gc_aaan, gc_same, wipe_nil, wipe_cons, sz_0, sz_1, sz_2, sz_3, sz_4, sz_5, sz_6, sz_7, sz_8, sz_9, sz_10, runDef, runFull, Def.full, startD, List.length_cons, List.length_nil, List.map_cons, List.map_nil, List.append_nil, List.nil_append, List.cons_append, List.drop_nil, List.drop_zero, List.set_cons_zero, List.set_cons_succ, List.replicate, if_true, if_false, Bool.not_true, Bool.not_false, Bool.true_or, Bool.false_or, Option.map_some, Option.map_none, Nat.zero_add, Nat.add_zero, Nat.sub_self, Nat.reduceAdd, Nat.reduceSub, ↓reduceIte, Bool.and_true, Bool.true_and, Bool.false_and, Bool.and_false, Int.cast_ofNat_Int, decide_true, decide_false, Int.reduceEq, Int.reduceLT, Int.reduceLE, Bool.false_eq_true, e2, gc_newl (ints_pure _)]

theorem gc_kDa {S T : Store} {o : Option Int} : gc S (kD o) (S ++ T) = (kD o, S) := gc_app (pure_kD o)
theorem next_key_of (k : Nat) {v : D} {tw : List (Int × Int)} {S : Store} (hv : IsTw S v tw) {key : Option Int} {l : Int} (h1 : 1 ≤ l) : orc defs (k + 5) 13 [v, kD key, .int l] S = some (kD (nextK tw key l), S) := by
  rw [orc_at (d := d_next_key) rfl]
  cases key with
  | none =>
    simp only [d_next_key, b_next_key, bnd_some, bnd_none, opt_some, opt_none, seqF_next, seqF_brk, seqF_cnt, seqF_ret, ts_nil, ts_cons, out_ret, out_next, ite_t, ite_f, bop_and_t, bop_and_f, bop_or_t, bop_or_f, bb_and_t, bb_and_f, bb_or_t, bb_or_f, slot_0, slot_s, e_con, b_con, e_var, b_var, e_glo, b_glo, e_tup, b_tup, e_lst, b_lst, e_dct, b_dct, e_op, b_op, e_neg, b_neg, e_not, b_not, e_bop, b_bop, e_cmp, b_cmp, e_chn, b_chn, e_ifx, b_ifx, e_ix, b_ix, e_sl, b_sl, e_call, b_call, e_bi, b_bi, e_mxd, b_mxd, e_isi, b_isi, e_isl, b_isl, e_lrg, b_lrg, e_mt, b_mt, e_lc, b_lc, bop_1, bop_2, bb_1, bb_2, es_nil, es_cons, eo_none, eo_some, if_none, if_some, i_ex, i_rng1, i_rng2, i_enm, q_nm, q_tp, q_sb, setK_some, qs_nil, qs_cons, t_asg, t_aug, t_ex, t_ret, t_retN, t_iff, t_fr, t_whl, t_brk, t_cnt, t_pas, con_none, con_bool, con_int, con_str, neg_int, not_bl, int_int, add_int, sub_int, lt_int, le_int, gt_int, ge_int, eq_int, ne_int, is_nn, is_in, is_bb, isn_nn, isn_in, isn_bb, tr_non, tr_bl, tr_int, ty_non, ty_bl, ty_int, ty_tup, ty_ro, isa_int_int, isa_int_bool, isa_int_list, isa_int_tuple, isa_list_list, isa_list_tuple, isa_tuple_list, isa_tuple_tuple, sq_tup, sq_ro, bi_int_int, bi_int_bl, bi_tuple_tup, bi_min, bi_max, bi_len_tup, bi_len_ro, ix_tup, ix_ro, sl_tup, sl_ro, stays_tup, stays_ro, at_0, at_1, gc_ai, gc_aai, gc_aaai, gc_ab, gc_aab, gc_aaab, gc_an, gc_aan, gc_aaan, gc_same, wipe_nil, wipe_cons, sz_0, sz_1, sz_2, sz_3, sz_4, sz_5, sz_6, sz_7, sz_8, sz_9, sz_10, runDef, runFull, Def.full, startD, List.length_cons, List.length_nil, List.map_cons, List.map_nil, List.append_nil, List.nil_append, List.cons_append, List.drop_nil, List.drop_zero, List.set_cons_zero, List.set_cons_succ, List.replicate, if_true, if_false, Bool.not_true, Bool.not_false, Bool.true_or, Bool.false_or, Option.map_some, Option.map_none, Nat.zero_add, Nat.add_zero, Nat.sub_self, Nat.reduceAdd, Nat.reduceSub, ↓reduceIte, Bool.and_true, Bool.true_and, Bool.false_and, Bool.and_false, Int.cast_ofNat_Int, decide_true, decide_false, Int.reduceEq, Int.reduceLT, Int.reduceLE, Bool.false_eq_true, checked_of k hv, look_from_of (k + 2) h1, kD_n]
    generalize hX : lcD _ _ _ _ _ _ _ = X
    have e := hX.symm.trans (lcD_tw (beyond none l) (fun q => D.int q.1) rfl [] (TwL.prs tw) (fun d q hq hd => ⟨[some v, some .non, some (.int l), some (.tup (tw.map prD)), none, some (.int q.1), some (.int q.2)], by simp only [bnd_some, bnd_none, opt_some, opt_none, seqF_next, seqF_brk, seqF_cnt, seqF_ret, ts_nil, ts_cons, out_ret, out_next, ite_t, ite_f, bop_and_t, bop_and_f, bop_or_t, bop_or_f, bb_and_t, bb_and_f, bb_or_t, bb_or_f, slot_0, slot_s, e_con, b_con, e_var, b_var, e_glo, b_glo, e_tup, b_tup, e_lst, b_lst, e_dct, b_dct, e_op, b_op, e_neg, b_neg, e_not, b_not, e_bop, b_bop, e_cmp, b_cmp, e_chn, b_chn, e_ifx, b_ifx, e_ix, b_ix, e_sl, b_sl, e_call, b_call, e_bi, b_bi, e_mxd, b_mxd, e_isi, b_isi, e_isl, b_isl, e_lrg, b_lrg, e_mt, b_mt, e_lc, b_lc, bop_1, bop_2, bb_1, bb_2, es_nil, es_cons, eo_none, eo_some, if_none, if_some, i_ex, i_rng1, i_rng2, i_enm, q_nm, q_tp, q_sb, setK_some, qs_nil, qs_cons, t_asg, t_aug, t_ex, t_ret, t_retN, t_iff, t_fr, t_whl, t_brk, t_cnt, t_pas, con_none, con_bool, con_int, con_str, neg_int, not_bl, int_int, add_int, sub_int, lt_int, le_int, gt_int, ge_int, eq_int, ne_int, is_nn, is_in, is_bb, isn_nn, isn_in, isn_bb, tr_non, tr_bl, tr_int, ty_non, ty_bl, ty_int, ty_tup, ty_ro, isa_int_int, isa_int_bool, isa_int_list, isa_int_tuple, isa_list_list, isa_list_tuple, isa_tuple_list, isa_tuple_tuple, sq_tup, sq_ro, bi_int_int, bi_int_bl, bi_tuple_tup, bi_min, bi_max, bi_len_tup, bi_len_ro, ix_tup, ix_ro, sl_tup, sl_ro, stays_tup, stays_ro, at_0, at_1, gc_ai, gc_aai, gc_aaai, gc_ab, gc_aab, gc_aaab, gc_an, gc_aan, gc_aaan, gc_same, wipe_nil, wipe_cons, sz_0, sz_1, sz_2, sz_3, sz_4, sz_5, sz_6, sz_7, sz_8, sz_9, sz_10, runDef, runFull, Def.full, startD, List.length_cons, List.length_nil, List.map_cons, List.map_nil, List.append_nil, List.nil_append, List.cons_append, List.drop_nil, List.drop_zero, List.set_cons_zero, List.set_cons_succ, List.replicate, if_true, if_false, Bool.not_true, Bool.not_false, Bool.true_or, Bool.false_or, Option.map_some, Option.map_none, Nat.zero_add, Nat.add_zero, Nat.sub_self, Nat.reduceAdd, Nat.reduceSub, ↓reduceIte, Bool.and_true, Bool.true_and, Bool.false_and, Bool.and_false, Int.cast_ofNat_Int, decide_true, decide_false, Int.reduceEq, Int.reduceLT, Int.reduceLE, Bool.false_eq_true, hd], ?_, fun _ => by simp only [bnd_some, bnd_none, opt_some, opt_none, seqF_next, seqF_brk, seqF_cnt, seqF_ret, ts_nil, ts_cons, out_ret, out_next, ite_t, ite_f, bop_and_t, bop_and_f, bop_or_t, bop_or_f, bb_and_t, bb_and_f, bb_or_t, bb_or_f, slot_0, slot_s, e_con, b_con, e_var, b_var, e_glo, b_glo, e_tup, b_tup, e_lst, b_lst, e_dct, b_dct, e_op, b_op, e_neg, b_neg, e_not, b_not, e_bop, b_bop, e_cmp, b_cmp, e_chn, b_chn, e_ifx, b_ifx, e_ix, b_ix, e_sl, b_sl, e_call, b_call, e_bi, b_bi, e_mxd, b_mxd, e_isi, b_isi, e_isl, b_isl, e_lrg, b_lrg, e_mt, b_mt, e_lc, b_lc, bop_1, bop_2, bb_1, bb_2, es_nil, es_cons, eo_none, eo_some, if_none, if_some, i_ex, i_rng1, i_rng2, i_enm, q_nm, q_tp, q_sb, setK_some, qs_nil, qs_cons, t_asg, t_aug, t_ex, t_ret, t_retN, t_iff, t_fr, t_whl, t_brk, t_cnt, t_pas, con_none, con_bool, con_int, con_str, neg_int, not_bl, int_int, add_int, sub_int, lt_int, le_int, gt_int, ge_int, eq_int, ne_int, is_nn, is_in, is_bb, isn_nn, isn_in, isn_bb, tr_non, tr_bl, tr_int, ty_non, ty_bl, ty_int, ty_tup, ty_ro, isa_int_int, isa_int_bool, isa_int_list, isa_int_tuple, isa_list_list, isa_list_tuple, isa_tuple_list, isa_tuple_tuple, sq_tup, sq_ro, bi_int_int, bi_int_bl, bi_tuple_tup, bi_min, bi_max, bi_len_tup, bi_len_ro, ix_tup, ix_ro, sl_tup, sl_ro, stays_tup, stays_ro, at_0, at_1, gc_ai, gc_aai, gc_aaai, gc_ab, gc_aab, gc_aaab, gc_an, gc_aan, gc_aaan, gc_same, wipe_nil, wipe_cons, sz_0, sz_1, sz_2, sz_3, sz_4, sz_5, sz_6, sz_7, sz_8, sz_9, sz_10, runDef, runFull, Def.full, startD, List.length_cons, List.length_nil, List.map_cons, List.map_nil, List.append_nil, List.nil_append, List.cons_append, List.drop_nil, List.drop_zero, List.set_cons_zero, List.set_cons_succ, List.replicate, if_true, if_false, Bool.not_true, Bool.not_false, Bool.true_or, Bool.false_or, Option.map_some, Option.map_none, Nat.zero_add, Nat.add_zero, Nat.sub_self, Nat.reduceAdd, Nat.reduceSub, ↓reduceIte, Bool.and_true, Bool.true_and, Bool.false_and, Bool.and_false, Int.cast_ofNat_Int, decide_true, decide_false, Int.reduceEq, Int.reduceLT, Int.reduceLE, Bool.false_eq_true]⟩) (by simpa using small hv.len))
    rotate_left
    · simp only [bnd_some, bnd_none, opt_some, opt_none, seqF_next, seqF_brk, seqF_cnt, seqF_ret, ts_nil, ts_cons, out_ret, out_next, ite_t, ite_f, bop_and_t, bop_and_f, bop_or_t, bop_or_f, bb_and_t, bb_and_f, bb_or_t, bb_or_f, slot_0, slot_s, e_con, b_con, e_var, b_var, e_glo, b_glo, e_tup, b_tup, e_lst, b_lst, e_dct, b_dct, e_op, b_op, e_neg, b_neg, e_not, b_not, e_bop, b_bop, e_cmp, b_cmp, e_chn, b_chn, e_ifx, b_ifx, e_ix, b_ix, e_sl, b_sl, e_call, b_call, e_bi, b_bi, e_mxd, b_mxd, e_isi, b_isi, e_isl, b_isl, e_lrg, b_lrg, e_mt, b_mt, e_lc, b_lc, bop_1, bop_2, bb_1, bb_2, es_nil, es_cons, eo_none, eo_some, if_none, if_some, i_ex, i_rng1, i_rng2, i_enm, q_nm, q_tp, q_sb, setK_some, qs_nil, qs_cons, t_asg, t_aug, t_ex, t_ret, t_retN, t_iff, t_fr, t_whl, t_brk, t_cnt, t_pas, con_none, con_bool, con_int, con_str, neg_int, not_bl, int_int, add_int, sub_int, lt_int, le_int, gt_int, ge_int, eq_int, ne_int, is_nn, is_in, is_bb, isn_nn, isn_in, isn_bb, tr_non, tr_bl, tr_int, ty_non, ty_bl, ty_int, ty_tup, ty_ro, isa_int_int, isa_int_bool, isa_int_list, isa_int_tuple, isa_list_list, isa_list_tuple, isa_tuple_list, isa_tuple_tuple, sq_tup, sq_ro, bi_int_int, bi_int_bl, bi_tuple_tup, bi_min, bi_max, bi_len_tup, bi_len_ro, ix_tup, ix_ro, sl_tup, sl_ro, stays_tup, stays_ro, at_0, at_1, gc_ai, gc_aai, gc_aaai, gc_ab, gc_aab, gc_aaab, gc_an, gc_aan, gc_aaan, gc_same, wipe_nil, wipe_cons, sz_0, sz_1, sz_2, sz_3, sz_4, sz_5, sz_6, sz_7, sz_8, sz_9, sz_10, runDef, runFull, Def.full, startD, List.length_cons, List.length_nil, List.map_cons, List.map_nil, List.append_nil, List.nil_append, List.cons_append, List.drop_nil, List.drop_zero, List.set_cons_zero, List.set_cons_succ, List.replicate, if_true, if_false, Bool.not_true, Bool.not_false, Bool.true_or, Bool.false_or, Option.map_some, Option.map_none, Nat.zero_add, Nat.add_zero, Nat.sub_self, Nat.reduceAdd, Nat.reduceSub, ↓reduceIte, Bool.and_true, Bool.true_and, Bool.false_and, Bool.and_false, Int.cast_ofNat_Int, decide_true, decide_false, Int.reduceEq, Int.reduceLT, Int.reduceLE, Bool.false_eq_true, beyond]
      cases decide (l ≤ q.2) <;> simp only [bnd_some, bnd_none, opt_some, opt_none, seqF_next, seqF_brk, seqF_cnt, seqF_ret, ts_nil, ts_cons, out_ret, out_next, ite_t, ite_f, bop_and_t, bop_and_f, bop_or_t, bop_or_f, bb_and_t, bb_and_f, bb_or_t, bb_or_f, slot_0, slot_s, e_con, b_con, e_var, b_var, e_glo, b_glo, e_tup, b_tup, e_lst, b_lst, e_dct, b_dct, e_op, b_op, e_neg, b_neg, e_not, b_not, e_bop, b_bop, e_cmp, b_cmp, e_chn, b_chn, e_ifx, b_ifx, e_ix, b_ix, e_sl, b_sl, e_call, b_call, e_bi, b_bi, e_mxd, b_mxd, e_isi, b_isi, e_isl, b_isl, e_lrg, b_lrg, e_mt, b_mt, e_lc, b_lc, bop_1, bop_2, bb_1, bb_2, es_nil, es_cons, eo_none, eo_some, if_none, if_some, i_ex, i_rng1, i_rng2, i_enm, q_nm, q_tp, q_sb, setK_some, qs_nil, qs_cons, t_asg, t_aug, t_ex, t_ret, t_retN, t_iff, t_fr, t_whl, t_brk, t_cnt, t_pas, con_none, con_bool, con_int, con_str, neg_int, not_bl, int_int, add_int, sub_int, lt_int, le_int, gt_int, ge_int, eq_int, ne_int, is_nn, is_in, is_bb, isn_nn, isn_in, isn_bb, tr_non, tr_bl, tr_int, ty_non, ty_bl, ty_int, ty_tup, ty_ro, isa_int_int, isa_int_bool, isa_int_list, isa_int_tuple, isa_list_list, isa_list_tuple, isa_tuple_list, isa_tuple_tuple, sq_tup, sq_ro, bi_int_int, bi_int_bl, bi_tuple_tup, bi_min, bi_max, bi_len_tup, bi_len_ro, ix_tup, ix_ro, sl_tup, sl_ro, stays_tup, stays_ro, at_0, at_1, gc_ai, gc_aai, gc_aaai, gc_ab, gc_aab, gc_aaab, gc_an, gc_aan, gc_aaan, gc_same, wipe_nil, wipe_cons, sz_0, sz_1, sz_2, sz_3, sz_4, sz_5, sz_6, sz_7, sz_8, sz_9, sz_10, runDef, runFull, Def.full, startD, List.length_cons, List.length_nil, List.map_cons, List.map_nil, List.append_nil, List.nil_append, List.cons_append, List.drop_nil, List.drop_zero, List.set_cons_zero, List.set_cons_succ, List.replicate, if_true, if_false, Bool.not_true, Bool.not_false, Bool.true_or, Bool.false_or, Option.map_some, Option.map_none, Nat.zero_add, Nat.add_zero, Nat.sub_self, Nat.reduceAdd, Nat.reduceSub, ↓reduceIte, Bool.and_true, Bool.true_and, Bool.false_and, Bool.and_false, Int.cast_ofNat_Int, decide_true, decide_false, Int.reduceEq, Int.reduceLT, Int.reduceLE, Bool.false_eq_true]
    · skip
      subst e
      have eq1 := ne_of (eqD_empty (S := S ++ [.lst (((tw.filter (beyond none l)).map (·.1)).map D.int)] ++ [.lst []]) (look_app look_new) look_new (ints_py _))
      rw [isEmpty_map] at eq1
      simp only [bnd_some, bnd_none, opt_some, opt_none, seqF_next, seqF_brk, seqF_cnt, seqF_ret, ts_nil, ts_cons, out_ret, out_next, ite_t, ite_f, bop_and_t, bop_and_f, bop_or_t, bop_or_f, bb_and_t, bb_and_f, bb_or_t, bb_or_f, slot_0, slot_s, e_con, b_con, e_var, b_var, e_glo, b_glo, e_tup, b_tup, e_lst, b_lst, e_dct, b_dct, e_op, b_op, e_neg, b_neg, e_not, b_not, e_bop, b_bop, e_cmp, b_cmp, e_chn, b_chn, e_ifx, b_ifx, e_ix, b_ix, e_sl, b_sl, e_call, b_call, e_bi, b_bi, e_mxd, b_mxd, e_isi, b_isi, e_isl, b_isl, e_lrg, b_lrg, e_mt, b_mt, e_lc, b_lc, bop_1, bop_2, bb_1, bb_2, es_nil, es_cons, eo_none, eo_some, if_none, if_some, i_ex, i_rng1, i_rng2, i_enm, q_nm, q_tp, q_sb, setK_some, qs_nil, qs_cons, t_asg, t_aug, t_ex, t_ret, t_retN, t_iff, t_fr, t_whl, t_brk, t_cnt, t_pas, con_none, con_bool, con_int, con_str, neg_int, not_bl, int_int, add_int, sub_int, lt_int, le_int, gt_int, ge_int, eq_int, ne_int, is_nn, is_in, is_bb, isn_nn, isn_in, isn_bb, tr_non, tr_bl, tr_int, ty_non, ty_bl, ty_int, ty_tup, ty_ro, isa_int_int, isa_int_bool, isa_int_list, isa_int_tuple, isa_list_list, isa_list_tuple, isa_tuple_list, isa_tuple_tuple, sq_tup, sq_ro, bi_int_int, bi_int_bl, bi_tuple_tup, bi_min, bi_max, bi_len_tup, bi_len_ro, ix_tup, ix_ro, sl_tup, sl_ro, stays_tup, stays_ro, at_0, at_1, gc_ai, gc_aai, gc_aaai, gc_ab, gc_aab, gc_aaab, gc_an, gc_aan, gc_aaan, gc_same, wipe_nil, wipe_cons, sz_0, sz_1, sz_2, sz_3, sz_4, sz_5, sz_6, sz_7, sz_8, sz_9, sz_10, runDef, runFull, Def.full, startD, List.length_cons, List.length_nil, List.map_cons, List.map_nil, List.append_nil, List.nil_append, List.cons_append, List.drop_nil, List.drop_zero, List.set_cons_zero, List.set_cons_succ, List.replicate, if_true, if_false, Bool.not_true, Bool.not_false, Bool.true_or, Bool.false_or, Option.map_some, Option.map_none, Nat.zero_add, Nat.add_zero, Nat.sub_self, Nat.reduceAdd, Nat.reduceSub, ↓reduceIte, Bool.and_true, Bool.true_and, Bool.false_and, Bool.and_false, Int.cast_ofNat_Int, decide_true, decide_false, Int.reduceEq, Int.reduceLT, Int.reduceLE, Bool.false_eq_true, beyond_map, eq1]
      cases he : ((tw.filter (beyond none l)).map (·.1)).isEmpty with
      | true => simp only [bnd_some, bnd_none, opt_some, opt_none, seqF_next, seqF_brk, seqF_cnt, seqF_ret, ts_nil, ts_cons, out_ret, out_next, ite_t, ite_f, bop_and_t, bop_and_f, bop_or_t, bop_or_f, bb_and_t, bb_and_f, bb_or_t, bb_or_f, slot_0, slot_s, e_con, b_con, e_var, b_var, e_glo, b_glo, e_tup, b_tup, e_lst, b_lst, e_dct, b_dct, e_op, b_op, e_neg, b_neg, e_not, b_not, e_bop, b_bop, e_cmp, b_cmp, e_chn, b_chn, e_ifx, b_ifx, e_ix, b_ix, e_sl, b_sl, e_call, b_call, e_bi, b_bi, e_mxd, b_mxd, e_isi, b_isi, e_isl, b_isl, e_lrg, b_lrg, e_mt, b_mt, e_lc, b_lc, bop_1, bop_2, bb_1, bb_2, es_nil, es_cons, eo_none, eo_some, if_none, if_some, i_ex, i_rng1, i_rng2, i_enm, q_nm, q_tp, q_sb, setK_some, qs_nil, qs_cons, t_asg, t_aug, t_ex, t_ret, t_retN, t_iff, t_fr, t_whl, t_brk, t_cnt, t_pas, con_none, con_bool, con_int, con_str, neg_int, not_bl, int_int, add_int, sub_int, lt_int, le_int, gt_int, ge_int, eq_int, ne_int, is_nn, is_in, is_bb, isn_nn, isn_in, isn_bb, tr_non, tr_bl, tr_int, ty_non, ty_bl, ty_int, ty_tup, ty_ro, isa_int_int, isa_int_bool, isa_int_list, isa_int_tuple, isa_list_list, isa_list_tuple, isa_tuple_list, isa_tuple_tuple, sq_tup, sq_ro, bi_int_int, bi_int_bl, bi_tuple_tup, bi_min, bi_max, bi_len_tup, bi_len_ro, ix_tup, ix_ro, sl_tup, sl_ro, stays_tup, stays_ro, at_0, at_1, gc_ai, gc_aai, gc_aaai, gc_ab, gc_aab, gc_aaab, gc_an, gc_aan, gc_aaan, gc_same, wipe_nil, wipe_cons, sz_0, sz_1, sz_2, sz_3, sz_4, sz_5, sz_6, sz_7, sz_8, sz_9, sz_10, runDef, runFull, Def.full, startD, List.length_cons, List.length_nil, List.map_cons, List.map_nil, List.append_nil, List.nil_append, List.cons_append, List.drop_nil, List.drop_zero, List.set_cons_zero, List.set_cons_succ, List.replicate, if_true, if_false, Bool.not_true, Bool.not_false, Bool.true_or, Bool.false_or, Option.map_some, Option.map_none, Nat.zero_add, Nat.add_zero, Nat.sub_self, Nat.reduceAdd, Nat.reduceSub, ↓reduceIte, Bool.and_true, Bool.true_and, Bool.false_and, Bool.and_false, Int.cast_ofNat_Int, decide_true, decide_false, Int.reduceEq, Int.reduceLT, Int.reduceLE, Bool.false_eq_true, nextK, head_none he]
      | false => simp only [bnd_some, bnd_none, opt_some, opt_none, seqF_next, seqF_brk, seqF_cnt, seqF_ret, ts_nil, ts_cons, out_ret, out_next, ite_t, ite_f, bop_and_t, bop_and_f, bop_or_t, bop_or_f, bb_and_t, bb_and_f, bb_or_t, bb_or_f, slot_0, slot_s, e_con, b_con, e_var, b_var, e_glo, b_glo, e_tup, b_tup, e_lst, b_lst, e_dct, b_dct, e_op, b_op, e_neg, b_neg, e_not, b_not, e_bop, b_bop, e_cmp, b_cmp, e_chn, b_chn, e_ifx, b_ifx, e_ix, b_ix, e_sl, b_sl, e_call, b_call, e_bi, b_bi, e_mxd, b_mxd, e_isi, b_isi, e_isl, b_isl, e_lrg, b_lrg, e_mt, b_mt, e_lc, b_lc, bop_1, bop_2, bb_1, bb_2, es_nil, es_cons, eo_none, eo_some, if_none, if_some, i_ex, i_rng1, i_rng2, i_enm, q_nm, q_tp, q_sb, setK_some, qs_nil, qs_cons, t_asg, t_aug, t_ex, t_ret, t_retN, t_iff, t_fr, t_whl, t_brk, t_cnt, t_pas, con_none, con_bool, con_int, con_str, neg_int, not_bl, int_int, add_int, sub_int, lt_int, le_int, gt_int, ge_int, eq_int, ne_int, is_nn, is_in, is_bb, isn_nn, isn_in, isn_bb, tr_non, tr_bl, tr_int, ty_non, ty_bl, ty_int, ty_tup, ty_ro, isa_int_int, isa_int_bool, isa_int_list, isa_int_tuple, isa_list_list, isa_list_tuple, isa_tuple_list, isa_tuple_tuple, sq_tup, sq_ro, bi_int_int, bi_int_bl, bi_tuple_tup, bi_min, bi_max, bi_len_tup, bi_len_ro, ix_tup, ix_ro, sl_tup, sl_ro, stays_tup, stays_ro, at_0, at_1, gc_ai, gc_aai, gc_aaai, gc_ab, gc_aab, gc_aaab, gc_an, gc_aan, gc_aaan, gc_same, wipe_nil, wipe_cons, sz_0, sz_1, sz_2, sz_3, sz_4, sz_5, sz_6, sz_7, sz_8, sz_9, sz_10, runDef, runFull, Def.full, startD, List.length_cons, List.length_nil, List.map_cons, List.map_nil, List.append_nil, List.nil_append, List.cons_append, List.drop_nil, List.drop_zero, List.set_cons_zero, List.set_cons_succ, List.replicate, if_true, if_false, Bool.not_true, Bool.not_false, Bool.true_or, Bool.false_or, Option.map_some, Option.map_none, Nat.zero_add, Nat.add_zero, Nat.sub_self, Nat.reduceAdd, Nat.reduceSub, ↓reduceIte, Bool.and_true, Bool.true_and, Bool.false_and, Bool.and_false, Int.cast_ofNat_Int, decide_true, decide_false, Int.reduceEq, Int.reduceLT, Int.reduceLE, Bool.false_eq_true, nextK, ix_loc look_new, head_at he, gc_kDa]
  | some key =>
    simp only [d_next_key, b_next_key, bnd_some, bnd_none, opt_some, opt_none, seqF_next, seqF_brk, seqF_cnt, seqF_ret, ts_nil, ts_cons, out_ret, out_next, ite_t, ite_f, bop_and_t, bop_and_f, bop_or_t, bop_or_f, bb_and_t, bb_and_f, bb_or_t, bb_or_f, slot_0, slot_s, e_con, b_con, e_var, b_var, e_glo, b_glo, e_tup, b_tup, e_lst, b_lst, e_dct, b_dct, e_op, b_op, e_neg, b_neg, e_not, b_not, e_bop, b_bop, e_cmp, b_cmp, e_chn, b_chn, e_ifx, b_ifx, e_ix, b_ix, e_sl, b_sl, e_call, b_call, e_bi, b_bi, e_mxd, b_mxd, e_isi, b_isi, e_isl, b_isl, e_lrg, b_lrg, e_mt, b_mt, e_lc, b_lc, bop_1, bop_2, bb_1, bb_2, es_nil, es_cons, eo_none, eo_some, if_none, if_some, i_ex, i_rng1, i_rng2, i_enm, q_nm, q_tp, q_sb, setK_some, qs_nil, qs_cons, t_asg, t_aug, t_ex, t_ret, t_retN, t_iff, t_fr, t_whl, t_brk, t_cnt, t_pas, con_none, con_bool, con_int, con_str, neg_int, not_bl, int_int, add_int, sub_int, lt_int, le_int, gt_int, ge_int, eq_int, ne_int, is_nn, is_in, is_bb, isn_nn, isn_in, isn_bb, tr_non, tr_bl, tr_int, ty_non, ty_bl, ty_int, ty_tup, ty_ro, isa_int_int, isa_int_bool, isa_int_list, isa_int_tuple, isa_list_list, isa_list_tuple, isa_tuple_list, isa_tuple_tuple, sq_tup, sq_ro, bi_int_int, bi_int_bl, bi_tuple_tup, bi_min, bi_max, bi_len_tup, bi_len_ro, ix_tup, ix_ro, sl_tup, sl_ro, stays_tup, stays_ro, at_0, at_1, gc_ai, gc_aai, gc_aaai, gc_ab, gc_aab, gc_aaab, gc_an, gc_aan, gc_aaan, gc_same, wipe_nil, wipe_cons, sz_0, sz_1, sz_2, sz_3, sz_4, sz_5, sz_6, sz_7, sz_8, sz_9, sz_10, runDef, runFull, Def.full, startD, List.length_cons, List.length_nil, List.map_cons, List.map_nil, List.append_nil, List.nil_append, List.cons_append, List.drop_nil, List.drop_zero, List.set_cons_zero, List.set_cons_succ, List.replicate, if_true, if_false, Bool.not_true, Bool.not_false, Bool.true_or, Bool.false_or, Option.map_some, Option.map_none, Nat.zero_add, Nat.add_zero, Nat.sub_self, Nat.reduceAdd, Nat.reduceSub, ↓reduceIte, Bool.and_true, Bool.true_and, Bool.false_and, Bool.and_false, Int.cast_ofNat_Int, decide_true, decide_false, Int.reduceEq, Int.reduceLT, Int.reduceLE, Bool.false_eq_true, checked_of k hv, look_from_of (k + 2) h1, look_key_of (k + 2), kD_s]
    generalize hX : lcD _ _ _ _ _ _ _ = X
    have e := hX.symm.trans (lcD_tw (beyond (some key) l) (fun q => D.int q.1) rfl [] (TwL.prs tw) (fun d q hq hd => ⟨[some v, some (.int key), some (.int l), some (.tup (tw.map prD)), none, some (.int q.1), some (.int q.2)], by simp only [bnd_some, bnd_none, opt_some, opt_none, seqF_next, seqF_brk, seqF_cnt, seqF_ret, ts_nil, ts_cons, out_ret, out_next, ite_t, ite_f, bop_and_t, bop_and_f, bop_or_t, bop_or_f, bb_and_t, bb_and_f, bb_or_t, bb_or_f, slot_0, slot_s, e_con, b_con, e_var, b_var, e_glo, b_glo, e_tup, b_tup, e_lst, b_lst, e_dct, b_dct, e_op, b_op, e_neg, b_neg, e_not, b_not, e_bop, b_bop, e_cmp, b_cmp, e_chn, b_chn, e_ifx, b_ifx, e_ix, b_ix, e_sl, b_sl, e_call, b_call, e_bi, b_bi, e_mxd, b_mxd, e_isi, b_isi, e_isl, b_isl, e_lrg, b_lrg, e_mt, b_mt, e_lc, b_lc, bop_1, bop_2, bb_1, bb_2, es_nil, es_cons, eo_none, eo_some, if_none, if_some, i_ex, i_rng1, i_rng2, i_enm, q_nm, q_tp, q_sb, setK_some, qs_nil, qs_cons, t_asg, t_aug, t_ex, t_ret, t_retN, t_iff, t_fr, t_whl, t_brk, t_cnt, t_pas, con_none, con_bool, con_int, con_str, neg_int, not_bl, int_int, add_int, sub_int, lt_int, le_int, gt_int, ge_int, eq_int, ne_int, is_nn, is_in, is_bb, isn_nn, isn_in, isn_bb, tr_non, tr_bl, tr_int, ty_non, ty_bl, ty_int, ty_tup, ty_ro, isa_int_int, isa_int_bool, isa_int_list, isa_int_tuple, isa_list_list, isa_list_tuple, isa_tuple_list, isa_tuple_tuple, sq_tup, sq_ro, bi_int_int, bi_int_bl, bi_tuple_tup, bi_min, bi_max, bi_len_tup, bi_len_ro, ix_tup, ix_ro, sl_tup, sl_ro, stays_tup, stays_ro, at_0, at_1, gc_ai, gc_aai, gc_aaai, gc_ab, gc_aab, gc_aaab, gc_an, gc_aan, gc_aaan, gc_same, wipe_nil, wipe_cons, sz_0, sz_1, sz_2, sz_3, sz_4, sz_5, sz_6, sz_7, sz_8, sz_9, sz_10, runDef, runFull, Def.full, startD, List.length_cons, List.length_nil, List.map_cons, List.map_nil, List.append_nil, List.nil_append, List.cons_append, List.drop_nil, List.drop_zero, List.set_cons_zero, List.set_cons_succ, List.replicate, if_true, if_false, Bool.not_true, Bool.not_false, Bool.true_or, Bool.false_or, Option.map_some, Option.map_none, Nat.zero_add, Nat.add_zero, Nat.sub_self, Nat.reduceAdd, Nat.reduceSub, ↓reduceIte, Bool.and_true, Bool.true_and, Bool.false_and, Bool.and_false, Int.cast_ofNat_Int, decide_true, decide_false, Int.reduceEq, Int.reduceLT, Int.reduceLE, Bool.false_eq_true, hd], ?_, fun _ => by simp only [bnd_some, bnd_none, opt_some, opt_none, seqF_next, seqF_brk, seqF_cnt, seqF_ret, ts_nil, ts_cons, out_ret, out_next, ite_t, ite_f, bop_and_t, bop_and_f, bop_or_t, bop_or_f, bb_and_t, bb_and_f, bb_or_t, bb_or_f, slot_0, slot_s, e_con, b_con, e_var, b_var, e_glo, b_glo, e_tup, b_tup, e_lst, b_lst, e_dct, b_dct, e_op, b_op, e_neg, b_neg, e_not, b_not, e_bop, b_bop, e_cmp, b_cmp, e_chn, b_chn, e_ifx, b_ifx, e_ix, b_ix, e_sl, b_sl, e_call, b_call, e_bi, b_bi, e_mxd, b_mxd, e_isi, b_isi, e_isl, b_isl, e_lrg, b_lrg, e_mt, b_mt, e_lc, b_lc, bop_1, bop_2, bb_1, bb_2, es_nil, es_cons, eo_none, eo_some, if_none, if_some, i_ex, i_rng1, i_rng2, i_enm, q_nm, q_tp, q_sb, setK_some, qs_nil, qs_cons, t_asg, t_aug, t_ex, t_ret, t_retN, t_iff, t_fr, t_whl, t_brk, t_cnt, t_pas, con_none, con_bool, con_int, con_str, neg_int, not_bl, int_int, add_int, sub_int, lt_int, le_int, gt_int, ge_int, eq_int, ne_int, is_nn, is_in, is_bb, isn_nn, isn_in, isn_bb, tr_non, tr_bl, tr_int, ty_non, ty_bl, ty_int, ty_tup, ty_ro, isa_int_int, isa_int_bool, isa_int_list, isa_int_tuple, isa_list_list, isa_list_tuple, isa_tuple_list, isa_tuple_tuple, sq_tup, sq_ro, bi_int_int, bi_int_bl, bi_tuple_tup, bi_min, bi_max, bi_len_tup, bi_len_ro, ix_tup, ix_ro, sl_tup, sl_ro, stays_tup, stays_ro, at_0, at_1, gc_ai, gc_aai, gc_aaai, gc_ab, gc_aab, gc_aaab, gc_an, gc_aan, gc_aaan, gc_same, wipe_nil, wipe_cons, sz_0, sz_1, sz_2, sz_3, sz_4, sz_5, sz_6, sz_7, sz_8, sz_9, sz_10, runDef, runFull, Def.full, startD, List.length_cons, List.length_nil, List.map_cons, List.map_nil, List.append_nil, List.nil_append, List.cons_append, List.drop_nil, List.drop_zero, List.set_cons_zero, List.set_cons_succ, List.replicate, if_true, if_false, Bool.not_true, Bool.not_false, Bool.true_or, Bool.false_or, Option.map_some, Option.map_none, Nat.zero_add, Nat.add_zero, Nat.sub_self, Nat.reduceAdd, Nat.reduceSub, ↓reduceIte, Bool.and_true, Bool.true_and, Bool.false_and, Bool.and_false, Int.cast_ofNat_Int, decide_true, decide_false, Int.reduceEq, Int.reduceLT, Int.reduceLE, Bool.false_eq_true]⟩) (by simpa using small hv.len))
    rotate_left
    · simp only [bnd_some, bnd_none, opt_some, opt_none, seqF_next, seqF_brk, seqF_cnt, seqF_ret, ts_nil, ts_cons, out_ret, out_next, ite_t, ite_f, bop_and_t, bop_and_f, bop_or_t, bop_or_f, bb_and_t, bb_and_f, bb_or_t, bb_or_f, slot_0, slot_s, e_con, b_con, e_var, b_var, e_glo, b_glo, e_tup, b_tup, e_lst, b_lst, e_dct, b_dct, e_op, b_op, e_neg, b_neg, e_not, b_not, e_bop, b_bop, e_cmp, b_cmp, e_chn, b_chn, e_ifx, b_ifx, e_ix, b_ix, e_sl, b_sl, e_call, b_call, e_bi, b_bi, e_mxd, b_mxd, e_isi, b_isi, e_isl, b_isl, e_lrg, b_lrg, e_mt, b_mt, e_lc, b_lc, bop_1, bop_2, bb_1, bb_2, es_nil, es_cons, eo_none, eo_some, if_none, if_some, i_ex, i_rng1, i_rng2, i_enm, q_nm, q_tp, q_sb, setK_some, qs_nil, qs_cons, t_asg, t_aug, t_ex, t_ret, t_retN, t_iff, t_fr, t_whl, t_brk, t_cnt, t_pas, con_none, con_bool, con_int, con_str, neg_int, not_bl, int_int, add_int, sub_int, lt_int, le_int, gt_int, ge_int, eq_int, ne_int, is_nn, is_in, is_bb, isn_nn, isn_in, isn_bb, tr_non, tr_bl, tr_int, ty_non, ty_bl, ty_int, ty_tup, ty_ro, isa_int_int, isa_int_bool, isa_int_list, isa_int_tuple, isa_list_list, isa_list_tuple, isa_tuple_list, isa_tuple_tuple, sq_tup, sq_ro, bi_int_int, bi_int_bl, bi_tuple_tup, bi_min, bi_max, bi_len_tup, bi_len_ro, ix_tup, ix_ro, sl_tup, sl_ro, stays_tup, stays_ro, at_0, at_1, gc_ai, gc_aai, gc_aaai, gc_ab, gc_aab, gc_aaab, gc_an, gc_aan, gc_aaan, gc_same, wipe_nil, wipe_cons, sz_0, sz_1, sz_2, sz_3, sz_4, sz_5, sz_6, sz_7, sz_8, sz_9, sz_10, runDef, runFull, Def.full, startD, List.length_cons, List.length_nil, List.map_cons, List.map_nil, List.append_nil, List.nil_append, List.cons_append, List.drop_nil, List.drop_zero, List.set_cons_zero, List.set_cons_succ, List.replicate, if_true, if_false, Bool.not_true, Bool.not_false, Bool.true_or, Bool.false_or, Option.map_some, Option.map_none, Nat.zero_add, Nat.add_zero, Nat.sub_self, Nat.reduceAdd, Nat.reduceSub, ↓reduceIte, Bool.and_true, Bool.true_and, Bool.false_and, Bool.and_false, Int.cast_ofNat_Int, decide_true, decide_false, Int.reduceEq, Int.reduceLT, Int.reduceLE, Bool.false_eq_true, beyond]
      cases decide (l ≤ q.2) <;> simp only [bnd_some, bnd_none, opt_some, opt_none, seqF_next, seqF_brk, seqF_cnt, seqF_ret, ts_nil, ts_cons, out_ret, out_next, ite_t, ite_f, bop_and_t, bop_and_f, bop_or_t, bop_or_f, bb_and_t, bb_and_f, bb_or_t, bb_or_f, slot_0, slot_s, e_con, b_con, e_var, b_var, e_glo, b_glo, e_tup, b_tup, e_lst, b_lst, e_dct, b_dct, e_op, b_op, e_neg, b_neg, e_not, b_not, e_bop, b_bop, e_cmp, b_cmp, e_chn, b_chn, e_ifx, b_ifx, e_ix, b_ix, e_sl, b_sl, e_call, b_call, e_bi, b_bi, e_mxd, b_mxd, e_isi, b_isi, e_isl, b_isl, e_lrg, b_lrg, e_mt, b_mt, e_lc, b_lc, bop_1, bop_2, bb_1, bb_2, es_nil, es_cons, eo_none, eo_some, if_none, if_some, i_ex, i_rng1, i_rng2, i_enm, q_nm, q_tp, q_sb, setK_some, qs_nil, qs_cons, t_asg, t_aug, t_ex, t_ret, t_retN, t_iff, t_fr, t_whl, t_brk, t_cnt, t_pas, con_none, con_bool, con_int, con_str, neg_int, not_bl, int_int, add_int, sub_int, lt_int, le_int, gt_int, ge_int, eq_int, ne_int, is_nn, is_in, is_bb, isn_nn, isn_in, isn_bb, tr_non, tr_bl, tr_int, ty_non, ty_bl, ty_int, ty_tup, ty_ro, isa_int_int, isa_int_bool, isa_int_list, isa_int_tuple, isa_list_list, isa_list_tuple, isa_tuple_list, isa_tuple_tuple, sq_tup, sq_ro, bi_int_int, bi_int_bl, bi_tuple_tup, bi_min, bi_max, bi_len_tup, bi_len_ro, ix_tup, ix_ro, sl_tup, sl_ro, stays_tup, stays_ro, at_0, at_1, gc_ai, gc_aai, gc_aaai, gc_ab, gc_aab, gc_aaab, gc_an, gc_aan, gc_aaan, gc_same, wipe_nil, wipe_cons, sz_0, sz_1, sz_2, sz_3, sz_4, sz_5, sz_6, sz_7, sz_8, sz_9, sz_10, runDef, runFull, Def.full, startD, List.length_cons, List.length_nil, List.map_cons, List.map_nil, List.append_nil, List.nil_append, List.cons_append, List.drop_nil, List.drop_zero, List.set_cons_zero, List.set_cons_succ, List.replicate, if_true, if_false, Bool.not_true, Bool.not_false, Bool.true_or, Bool.false_or, Option.map_some, Option.map_none, Nat.zero_add, Nat.add_zero, Nat.sub_self, Nat.reduceAdd, Nat.reduceSub, ↓reduceIte, Bool.and_true, Bool.true_and, Bool.false_and, Bool.and_false, Int.cast_ofNat_Int, decide_true, decide_false, Int.reduceEq, Int.reduceLT, Int.reduceLE, Bool.false_eq_true]
    · skip
      subst e
      have eq1 := ne_of (eqD_empty (S := S ++ [.lst (((tw.filter (beyond (some key) l)).map (·.1)).map D.int)] ++ [.lst []]) (look_app look_new) look_new (ints_py _))
      rw [isEmpty_map] at eq1
      simp only [bnd_some, bnd_none, opt_some, opt_none, seqF_next, seqF_brk, seqF_cnt, seqF_ret, ts_nil, ts_cons, out_ret, out_next, ite_t, ite_f, bop_and_t, bop_and_f, bop_or_t, bop_or_f, bb_and_t, bb_and_f, bb_or_t, bb_or_f, slot_0, slot_s, e_con, b_con, e_var, b_var, e_glo, b_glo, e_tup, b_tup, e_lst, b_lst, e_dct, b_dct, e_op, b_op, e_neg, b_neg, e_not, b_not, e_bop, b_bop, e_cmp, b_cmp, e_chn, b_chn, e_ifx, b_ifx, e_ix, b_ix, e_sl, b_sl, e_call, b_call, e_bi, b_bi, e_mxd, b_mxd, e_isi, b_isi, e_isl, b_isl, e_lrg, b_lrg, e_mt, b_mt, e_lc, b_lc, bop_1, bop_2, bb_1, bb_2, es_nil, es_cons, eo_none, eo_some, if_none, if_some, i_ex, i_rng1, i_rng2, i_enm, q_nm, q_tp, q_sb, setK_some, qs_nil, qs_cons, t_asg, t_aug, t_ex, t_ret, t_retN, t_iff, t_fr, t_whl, t_brk, t_cnt, t_pas, con_none, con_bool, con_int, con_str, neg_int, not_bl, int_int, add_int, sub_int, lt_int, le_int, gt_int, ge_int, eq_int, ne_int, is_nn, is_in, is_bb, isn_nn, isn_in, isn_bb, tr_non, tr_bl, tr_int, ty_non, ty_bl, ty_int, ty_tup, ty_ro, isa_int_int, isa_int_bool, isa_int_list, isa_int_tuple, isa_list_list, isa_list_tuple, isa_tuple_list, isa_tuple_tuple, sq_tup, sq_ro, bi_int_int, bi_int_bl, bi_tuple_tup, bi_min, bi_max, bi_len_tup, bi_len_ro, ix_tup, ix_ro, sl_tup, sl_ro, stays_tup, stays_ro, at_0, at_1, gc_ai, gc_aai, gc_aaai, gc_ab, gc_aab, gc_aaab, gc_an, gc_aan, gc_aaan, gc_same, wipe_nil, wipe_cons, sz_0, sz_1, sz_2, sz_3, sz_4, sz_5, sz_6, sz_7, sz_8, sz_9, sz_10, runDef, runFull, Def.full, startD, List.length_cons, List.length_nil, List.map_cons, List.map_nil, List.append_nil, List.nil_append, List.cons_append, List.drop_nil, List.drop_zero, List.set_cons_zero, List.set_cons_succ, List.replicate, if_true, if_false, Bool.not_true, Bool.not_false, Bool.true_or, Bool.false_or, Option.map_some, Option.map_none, Nat.zero_add, Nat.add_zero, Nat.sub_self, Nat.reduceAdd, Nat.reduceSub, ↓reduceIte, Bool.and_true, Bool.true_and, Bool.false_and, Bool.and_false, Int.cast_ofNat_Int, decide_true, decide_false, Int.reduceEq, Int.reduceLT, Int.reduceLE, Bool.false_eq_true, beyond_map, eq1]
      cases he : ((tw.filter (beyond (some key) l)).map (·.1)).isEmpty with
      | true => simp only [bnd_some, bnd_none, opt_some, opt_none, seqF_next, seqF_brk, seqF_cnt, seqF_ret, ts_nil, ts_cons, out_ret, out_next, ite_t, ite_f, bop_and_t, bop_and_f, bop_or_t, bop_or_f, bb_and_t, bb_and_f, bb_or_t, bb_or_f, slot_0, slot_s, e_con, b_con, e_var, b_var, e_glo, b_glo, e_tup, b_tup, e_lst, b_lst, e_dct, b_dct, e_op, b_op, e_neg, b_neg, e_not, b_not, e_bop, b_bop, e_cmp, b_cmp, e_chn, b_chn, e_ifx, b_ifx, e_ix, b_ix, e_sl, b_sl, e_call, b_call, e_bi, b_bi, e_mxd, b_mxd, e_isi, b_isi, e_isl, b_isl, e_lrg, b_lrg, e_mt, b_mt, e_lc, b_lc, bop_1, bop_2, bb_1, bb_2, es_nil, es_cons, eo_none, eo_some, if_none, if_some, i_ex, i_rng1, i_rng2, i_enm, q_nm, q_tp, q_sb, setK_some, qs_nil, qs_cons, t_asg, t_aug, t_ex, t_ret, t_retN, t_iff, t_fr, t_whl, t_brk, t_cnt, t_pas, con_none, con_bool, con_int, con_str, neg_int, not_bl, int_int, add_int, sub_int, lt_int, le_int, gt_int, ge_int, eq_int, ne_int, is_nn, is_in, is_bb, isn_nn, isn_in, isn_bb, tr_non, tr_bl, tr_int, ty_non, ty_bl, ty_int, ty_tup, ty_ro, isa_int_int, isa_int_bool, isa_int_list, isa_int_tuple, isa_list_list, isa_list_tuple, isa_tuple_list, isa_tuple_tuple, sq_tup, sq_ro, bi_int_int, bi_int_bl, bi_tuple_tup, bi_min, bi_max, bi_len_tup, bi_len_ro, ix_tup, ix_ro, sl_tup, sl_ro, stays_tup, stays_ro, at_0, at_1, gc_ai, gc_aai, gc_aaai, gc_ab, gc_aab, gc_aaab, gc_an, gc_aan, gc_aaan, gc_same, wipe_nil, wipe_cons, sz_0, sz_1, sz_2, sz_3, sz_4, sz_5, sz_6, sz_7, sz_8, sz_9, sz_10, runDef, runFull, Def.full, startD, List.length_cons, List.length_nil, List.map_cons, List.map_nil, List.append_nil, List.nil_append, List.cons_append, List.drop_nil, List.drop_zero, List.set_cons_zero, List.set_cons_succ, List.replicate, if_true, if_false, Bool.not_true, Bool.not_false, Bool.true_or, Bool.false_or, Option.map_some, Option.map_none, Nat.zero_add, Nat.add_zero, Nat.sub_self, Nat.reduceAdd, Nat.reduceSub, ↓reduceIte, Bool.and_true, Bool.true_and, Bool.false_and, Bool.and_false, Int.cast_ofNat_Int, decide_true, decide_false, Int.reduceEq, Int.reduceLT, Int.reduceLE, Bool.false_eq_true, nextK, head_none he]
      | false => simp only [bnd_some, bnd_none, opt_some, opt_none, seqF_next, seqF_brk, seqF_cnt, seqF_ret, ts_nil, ts_cons, out_ret, out_next, ite_t, ite_f, bop_and_t, bop_and_f, bop_or_t, bop_or_f, bb_and_t, bb_and_f, bb_or_t, bb_or_f, slot_0, slot_s, e_con, b_con, e_var, b_var, e_glo, b_glo, e_tup, b_tup, e_lst, b_lst, e_dct, b_dct, e_op, b_op, e_neg, b_neg, e_not, b_not, e_bop, b_bop, e_cmp, b_cmp, e_chn, b_chn, e_ifx, b_ifx, e_ix, b_ix, e_sl, b_sl, e_call, b_call, e_bi, b_bi, e_mxd, b_mxd, e_isi, b_isi, e_isl, b_isl, e_lrg, b_lrg, e_mt, b_mt, e_lc, b_lc, bop_1, bop_2, bb_1, bb_2, es_nil, es_cons, eo_none, eo_some, if_none, if_some, i_ex, i_rng1, i_rng2, i_enm, q_nm, q_tp, q_sb, setK_some, qs_nil, qs_cons, t_asg, t_aug, t_ex, t_ret, t_retN, t_iff, t_fr, t_whl, t_brk, t_cnt, t_pas, con_none, con_bool, con_int, con_str, neg_int, not_bl, int_int, add_int, sub_int, lt_int, le_int, gt_int, ge_int, eq_int, ne_int, is_nn, is_in, is_bb, isn_nn, isn_in, isn_bb, tr_non, tr_bl, tr_int, ty_non, ty_bl, ty_int, ty_tup, ty_ro, isa_int_int, isa_int_bool, isa_int_list, isa_int_tuple, isa_list_list, isa_list_tuple, isa_tuple_list, isa_tuple_tuple, sq_tup, sq_ro, bi_int_int, bi_int_bl, bi_tuple_tup, bi_min, bi_max, bi_len_tup, bi_len_ro, ix_tup, ix_ro, sl_tup, sl_ro, stays_tup, stays_ro, at_0, at_1, gc_ai, gc_aai, gc_aaai, gc_ab, gc_aab, gc_aaab, gc_an, gc_aan, gc_aaan, gc_same, wipe_nil, wipe_cons, sz_0, sz_1, sz_2, sz_3, sz_4, sz_5, sz_6, sz_7, sz_8, sz_9, sz_10, runDef, runFull, Def.full, startD, List.length_cons, List.length_nil, List.map_cons, List.map_nil, List.append_nil, List.nil_append, List.cons_append, List.drop_nil, List.drop_zero, List.set_cons_zero, List.set_cons_succ, List.replicate, if_true, if_false, Bool.not_true, Bool.not_false, Bool.true_or, Bool.false_or, Option.map_some, Option.map_none, Nat.zero_add, Nat.add_zero, Nat.sub_self, Nat.reduceAdd, Nat.reduceSub, ↓reduceIte, Bool.and_true, Bool.true_and, Bool.false_and, Bool.and_false, Int.cast_ofNat_Int, decide_true, decide_false, Int.reduceEq, Int.reduceLT, Int.reduceLE, Bool.false_eq_true, nextK, ix_loc look_new, head_at he, gc_kDa]
theorem links_from_of (k : Nat) {tw : List (Int × Int)} {S : Store} (hl : tw.length ≤ 1000) {key : Option Int} {l : Int} : orc defs (k + 1) 14 [.tup (tw.map prD), kD key, .int l] S = some (linkD tw key l, S) := by
  rw [orc_at (d := d_links_from) rfl]
  simp only [d_links_from, b_links_from, bnd_some, bnd_none, opt_some, opt_none, seqF_next, seqF_brk, seqF_cnt, seqF_ret, ts_nil, ts_cons, out_ret, out_next, ite_t, ite_f, bop_and_t, bop_and_f, bop_or_t, bop_or_f, bb_and_t, bb_and_f, bb_or_t, bb_or_f, slot_0, slot_s, e_con, b_con, e_var, b_var, e_glo, b_glo, e_tup, b_tup, e_lst, b_lst, e_dct, b_dct, e_op, b_op, e_neg, b_neg, e_not, b_not, e_bop, b_bop, e_cmp, b_cmp, e_chn, b_chn, e_ifx, b_ifx, e_ix, b_ix, e_sl, b_sl, e_call, b_call, e_bi, b_bi, e_mxd, b_mxd, e_isi, b_isi, e_isl, b_isl, e_lrg, b_lrg, e_mt, b_mt, e_lc, b_lc, bop_1, bop_2, bb_1, bb_2, es_nil, es_cons, eo_none, eo_some, if_none, if_some, i_ex, i_rng1, i_rng2, i_enm, q_nm, q_tp, q_sb, setK_some, qs_nil, qs_cons, t_asg, t_aug, t_ex, t_ret, t_retN, t_iff, t_fr, t_whl, t_brk, t_cnt, t_pas, con_none, con_bool, con_int, con_str, neg_int, not_bl, int_int, add_int, sub_int, lt_int, le_int, gt_int, ge_int, eq_int, ne_int, is_nn, is_in, is_bb, isn_nn, isn_in, isn_bb, tr_non, tr_bl, tr_int, ty_non, ty_bl, ty_int, ty_tup, ty_ro, isa_int_int, isa_int_bool, isa_int_list, isa_int_tuple, isa_list_list, isa_list_tuple, isa_tuple_list, isa_tuple_tuple, sq_tup, sq_ro, bi_int_int, bi_int_bl, bi_tuple_tup, bi_min, bi_max, bi_len_tup, bi_len_ro, ix_tup, ix_ro, sl_tup, sl_ro, stays_tup, stays_ro, at_0, at_1, gc_ai, gc_aai, gc_aaai, gc_ab, gc_aab, gc_aaab, gc_an, gc_aan, gc_aaan, gc_same, wipe_nil, wipe_cons, sz_0, sz_1, sz_2, sz_3, sz_4, sz_5, sz_6, sz_7, sz_8, sz_9, sz_10, runDef, runFull, Def.full, startD, List.length_cons, List.length_nil, List.map_cons, List.map_nil, List.append_nil, List.nil_append, List.cons_append, List.drop_nil, List.drop_zero, List.set_cons_zero, List.set_cons_succ, List.replicate, if_true, if_false, Bool.not_true, Bool.not_false, Bool.true_or, Bool.false_or, Option.map_some, Option.map_none, Nat.zero_add, Nat.add_zero, Nat.sub_self, Nat.reduceAdd, Nat.reduceSub, ↓reduceIte, Bool.and_true, Bool.true_and, Bool.false_and, Bool.and_false, Int.cast_ofNat_Int, decide_true, decide_false, Int.reduceEq, Int.reduceLT, Int.reduceLE, Bool.false_eq_true]
  generalize hX : lcD _ _ _ _ _ _ _ = X
  have e := hX.symm.trans (lcD_tw (fun q => decide (l ≤ q.2)) (fun q => D.int q.1) rfl [] (TwL.prs tw) (fun d q hq hd => ⟨[some (.tup (tw.map prD)), some (kD key), some (.int l), none, some (.int q.1), some (.int q.2)], by simp only [bnd_some, bnd_none, opt_some, opt_none, seqF_next, seqF_brk, seqF_cnt, seqF_ret, ts_nil, ts_cons, out_ret, out_next, ite_t, ite_f, bop_and_t, bop_and_f, bop_or_t, bop_or_f, bb_and_t, bb_and_f, bb_or_t, bb_or_f, slot_0, slot_s, e_con, b_con, e_var, b_var, e_glo, b_glo, e_tup, b_tup, e_lst, b_lst, e_dct, b_dct, e_op, b_op, e_neg, b_neg, e_not, b_not, e_bop, b_bop, e_cmp, b_cmp, e_chn, b_chn, e_ifx, b_ifx, e_ix, b_ix, e_sl, b_sl, e_call, b_call, e_bi, b_bi, e_mxd, b_mxd, e_isi, b_isi, e_isl, b_isl, e_lrg, b_lrg, e_mt, b_mt, e_lc, b_lc, bop_1, bop_2, bb_1, bb_2, es_nil, es_cons, eo_none, eo_some, if_none, if_some, i_ex, i_rng1, i_rng2, i_enm, q_nm, q_tp, q_sb, setK_some, qs_nil, qs_cons, t_asg, t_aug, t_ex, t_ret, t_retN, t_iff, t_fr, t_whl, t_brk, t_cnt, t_pas, con_none, con_bool, con_int, con_str, neg_int, not_bl, int_int, add_int, sub_int, lt_int, le_int, gt_int, ge_int, eq_int, ne_int, is_nn, is_in, is_bb, isn_nn, isn_in, isn_bb, tr_non, tr_bl, tr_int, ty_non, ty_bl, ty_int, ty_tup, ty_ro, isa_int_int, isa_int_bool, isa_int_list, isa_int_tuple, isa_list_list, isa_list_tuple, isa_tuple_list, isa_tuple_tuple, sq_tup, sq_ro, bi_int_int, bi_int_bl, bi_tuple_tup, bi_min, bi_max, bi_len_tup, bi_len_ro, ix_tup, ix_ro, sl_tup, sl_ro, stays_tup, stays_ro, at_0, at_1, gc_ai, gc_aai, gc_aaai, gc_ab, gc_aab, gc_aaab, gc_an, gc_aan, gc_aaan, gc_same, wipe_nil, wipe_cons, sz_0, sz_1, sz_2, sz_3, sz_4, sz_5, sz_6, sz_7, sz_8, sz_9, sz_10, runDef, runFull, Def.full, startD, List.length_cons, List.length_nil, List.map_cons, List.map_nil, List.append_nil, List.nil_append, List.cons_append, List.drop_nil, List.drop_zero, List.set_cons_zero, List.set_cons_succ, List.replicate, if_true, if_false, Bool.not_true, Bool.not_false, Bool.true_or, Bool.false_or, Option.map_some, Option.map_none, Nat.zero_add, Nat.add_zero, Nat.sub_self, Nat.reduceAdd, Nat.reduceSub, ↓reduceIte, Bool.and_true, Bool.true_and, Bool.false_and, Bool.and_false, Int.cast_ofNat_Int, decide_true, decide_false, Int.reduceEq, Int.reduceLT, Int.reduceLE, Bool.false_eq_true, hd], by simp only [bnd_some, bnd_none, opt_some, opt_none, seqF_next, seqF_brk, seqF_cnt, seqF_ret, ts_nil, ts_cons, out_ret, out_next, ite_t, ite_f, bop_and_t, bop_and_f, bop_or_t, bop_or_f, bb_and_t, bb_and_f, bb_or_t, bb_or_f, slot_0, slot_s, e_con, b_con, e_var, b_var, e_glo, b_glo, e_tup, b_tup, e_lst, b_lst, e_dct, b_dct, e_op, b_op, e_neg, b_neg, e_not, b_not, e_bop, b_bop, e_cmp, b_cmp, e_chn, b_chn, e_ifx, b_ifx, e_ix, b_ix, e_sl, b_sl, e_call, b_call, e_bi, b_bi, e_mxd, b_mxd, e_isi, b_isi, e_isl, b_isl, e_lrg, b_lrg, e_mt, b_mt, e_lc, b_lc, bop_1, bop_2, bb_1, bb_2, es_nil, es_cons, eo_none, eo_some, if_none, if_some, i_ex, i_rng1, i_rng2, i_enm, q_nm, q_tp, q_sb, setK_some, qs_nil, qs_cons, t_asg, t_aug, t_ex, t_ret, t_retN, t_iff, t_fr, t_whl, t_brk, t_cnt, t_pas, con_none, con_bool, con_int, con_str, neg_int, not_bl, int_int, add_int, sub_int, lt_int, le_int, gt_int, ge_int, eq_int, ne_int, is_nn, is_in, is_bb, isn_nn, isn_in, isn_bb, tr_non, tr_bl, tr_int, ty_non, ty_bl, ty_int, ty_tup, ty_ro, isa_int_int, isa_int_bool, isa_int_list, isa_int_tuple, isa_list_list, isa_list_tuple, isa_tuple_list, isa_tuple_tuple, sq_tup, sq_ro, bi_int_int, bi_int_bl, bi_tuple_tup, bi_min, bi_max, bi_len_tup, bi_len_ro, ix_tup, ix_ro, sl_tup, sl_ro, stays_tup, stays_ro, at_0, at_1, gc_ai, gc_aai, gc_aaai, gc_ab, gc_aab, gc_aaab, gc_an, gc_aan, gc_aaan, gc_same, wipe_nil, wipe_cons, sz_0, sz_1, sz_2, sz_3, sz_4, sz_5, sz_6, sz_7, sz_8, sz_9, sz_10, runDef, runFull, Def.full, startD, List.length_cons, List.length_nil, List.map_cons, List.map_nil, List.append_nil, List.nil_append, List.cons_append, List.drop_nil, List.drop_zero, List.set_cons_zero, List.set_cons_succ, List.replicate, if_true, if_false, Bool.not_true, Bool.not_false, Bool.true_or, Bool.false_or, Option.map_some, Option.map_none, Nat.zero_add, Nat.add_zero, Nat.sub_self, Nat.reduceAdd, Nat.reduceSub, ↓reduceIte, Bool.and_true, Bool.true_and, Bool.false_and, Bool.and_false, Int.cast_ofNat_Int, decide_true, decide_false, Int.reduceEq, Int.reduceLT, Int.reduceLE, Bool.false_eq_true], fun _ => by simp only [bnd_some, bnd_none, opt_some, opt_none, seqF_next, seqF_brk, seqF_cnt, seqF_ret, ts_nil, ts_cons, out_ret, out_next, ite_t, ite_f, bop_and_t, bop_and_f, bop_or_t, bop_or_f, bb_and_t, bb_and_f, bb_or_t, bb_or_f, slot_0, slot_s, e_con, b_con, e_var, b_var, e_glo, b_glo, e_tup, b_tup, e_lst, b_lst, e_dct, b_dct, e_op, b_op, e_neg, b_neg, e_not, b_not, e_bop, b_bop, e_cmp, b_cmp, e_chn, b_chn, e_ifx, b_ifx, e_ix, b_ix, e_sl, b_sl, e_call, b_call, e_bi, b_bi, e_mxd, b_mxd, e_isi, b_isi, e_isl, b_isl, e_lrg, b_lrg, e_mt, b_mt, e_lc, b_lc, bop_1, bop_2, bb_1, bb_2, es_nil, es_cons, eo_none, eo_some, if_none, if_some, i_ex, i_rng1, i_rng2, i_enm, q_nm, q_tp, q_sb, setK_some, qs_nil, qs_cons, t_asg, t_aug, t_ex, t_ret, t_retN, t_iff, t_fr, t_whl, t_brk, t_cnt, t_pas, con_none, con_bool, con_int, con_str, neg_int, not_bl, int_int, add_int, sub_int, lt_int, le_int, gt_int, ge_int, eq_int, ne_int, is_nn, is_in, is_bb, isn_nn, isn_in, isn_bb, tr_non, tr_bl, tr_int, ty_non, ty_bl, ty_int, ty_tup, ty_ro, isa_int_int, isa_int_bool, isa_int_list, isa_int_tuple, isa_list_list, isa_list_tuple, isa_tuple_list, isa_tuple_tuple, sq_tup, sq_ro, bi_int_int, bi_int_bl, bi_tuple_tup, bi_min, bi_max, bi_len_tup, bi_len_ro, ix_tup, ix_ro, sl_tup, sl_ro, stays_tup, stays_ro, at_0, at_1, gc_ai, gc_aai, gc_aaai, gc_ab, gc_aab, gc_aaab, gc_an, gc_aan, gc_aaan, gc_same, wipe_nil, wipe_cons, sz_0, sz_1, sz_2, sz_3, sz_4, sz_5, sz_6, sz_7, sz_8, sz_9, sz_10, runDef, runFull, Def.full, startD, List.length_cons, List.length_nil, List.map_cons, List.map_nil, List.append_nil, List.nil_append, List.cons_append, List.drop_nil, List.drop_zero, List.set_cons_zero, List.set_cons_succ, List.replicate, if_true, if_false, Bool.not_true, Bool.not_false, Bool.true_or, Bool.false_or, Option.map_some, Option.map_none, Nat.zero_add, Nat.add_zero, Nat.sub_self, Nat.reduceAdd, Nat.reduceSub, ↓reduceIte, Bool.and_true, Bool.true_and, Bool.false_and, Bool.and_false, Int.cast_ofNat_Int, decide_true, decide_false, Int.reduceEq, Int.reduceLT, Int.reduceLE, Bool.false_eq_true]⟩) (by simpa using small hl))
  subst e
  have eq1 := ne_of (eqD_empty (S := S ++ [.lst ((keysAt tw l).map D.int)] ++ [.lst []]) (look_app look_new) look_new (ints_py _))
  rw [isEmpty_map] at eq1
  have gp : ∀ (o : Option Int), gc S (.tup [kD key, .int l, kD o]) (S ++ [.lst ((keysAt tw l).map D.int)]) = (.tup [kD key, .int l, kD o], S) := fun o => gc_app (by simp)
  simp only [bnd_some, bnd_none, opt_some, opt_none, seqF_next, seqF_brk, seqF_cnt, seqF_ret, ts_nil, ts_cons, out_ret, out_next, ite_t, ite_f, bop_and_t, bop_and_f, bop_or_t, bop_or_f, bb_and_t, bb_and_f, bb_or_t, bb_or_f, slot_0, slot_s, e_con, b_con, e_var, b_var, e_glo, b_glo, e_tup, b_tup, e_lst, b_lst, e_dct, b_dct, e_op, b_op, e_neg, b_neg, e_not, b_not, e_bop, b_bop, e_cmp, b_cmp, e_chn, b_chn, e_ifx, b_ifx, e_ix, b_ix, e_sl, b_sl, e_call, b_call, e_bi, b_bi, e_mxd, b_mxd, e_isi, b_isi, e_isl, b_isl, e_lrg, b_lrg, e_mt, b_mt, e_lc, b_lc, bop_1, bop_2, bb_1, bb_2, es_nil, es_cons, eo_none, eo_some, if_none, if_some, i_ex, i_rng1, i_rng2, i_enm, q_nm, q_tp, q_sb, setK_some, qs_nil, qs_cons, t_asg, t_aug, t_ex, t_ret, t_retN, t_iff, t_fr, t_whl, t_brk, t_cnt, t_pas, con_none, con_bool, con_int, con_str, neg_int, not_bl, int_int, add_int, sub_int, lt_int, le_int, gt_int, ge_int, eq_int, ne_int, is_nn, is_in, is_bb, isn_nn, isn_in, isn_bb, tr_non, tr_bl, tr_int, ty_non, ty_bl, ty_int, ty_tup, ty_ro, isa_int_int, isa_int_bool, isa_int_list, isa_int_tuple, isa_list_list, isa_list_tuple, isa_tuple_list, isa_tuple_tuple, sq_tup, sq_ro, bi_int_int, bi_int_bl, bi_tuple_tup, bi_min, bi_max, bi_len_tup, bi_len_ro, ix_tup, ix_ro, sl_tup, sl_ro, stays_tup, stays_ro, at_0, at_1, gc_ai, gc_aai, gc_aaai, gc_ab, gc_aab, gc_aaab, gc_an, gc_aan, gc_aaan, gc_same, wipe_nil, wipe_cons, sz_0, sz_1, sz_2, sz_3, sz_4, sz_5, sz_6, sz_7, sz_8, sz_9, sz_10, runDef, runFull, Def.full, startD, List.length_cons, List.length_nil, List.map_cons, List.map_nil, List.append_nil, List.nil_append, List.cons_append, List.drop_nil, List.drop_zero, List.set_cons_zero, List.set_cons_succ, List.replicate, if_true, if_false, Bool.not_true, Bool.not_false, Bool.true_or, Bool.false_or, Option.map_some, Option.map_none, Nat.zero_add, Nat.add_zero, Nat.sub_self, Nat.reduceAdd, Nat.reduceSub, ↓reduceIte, Bool.and_true, Bool.true_and, Bool.false_and, Bool.and_false, Int.cast_ofNat_Int, decide_true, decide_false, Int.reduceEq, Int.reduceLT, Int.reduceLE, Bool.false_eq_true, keysAt_map, eq1]
  cases he : (keysAt tw l).isEmpty with
  | true =>
    have := gp (keysAt tw l).head?
    rw [head_none he] at this
    simp only [bnd_some, bnd_none, opt_some, opt_none, seqF_next, seqF_brk, seqF_cnt, seqF_ret, ts_nil, ts_cons, out_ret, out_next, ite_t, ite_f, bop_and_t, bop_and_f, bop_or_t, bop_or_f, bb_and_t, bb_and_f, bb_or_t, bb_or_f, slot_0, slot_s, e_con, b_con, e_var, b_var, e_glo, b_glo, e_tup, b_tup, e_lst, b_lst, e_dct, b_dct, e_op, b_op, e_neg, b_neg, e_not, b_not, e_bop, b_bop, e_cmp, b_cmp, e_chn, b_chn, e_ifx, b_ifx, e_ix, b_ix, e_sl, b_sl, e_call, b_call, e_bi, b_bi, e_mxd, b_mxd, e_isi, b_isi, e_isl, b_isl, e_lrg, b_lrg, e_mt, b_mt, e_lc, b_lc, bop_1, bop_2, bb_1, bb_2, es_nil, es_cons, eo_none, eo_some, if_none, if_some, i_ex, i_rng1, i_rng2, i_enm, q_nm, q_tp, q_sb, setK_some, qs_nil, qs_cons, t_asg, t_aug, t_ex, t_ret, t_retN, t_iff, t_fr, t_whl, t_brk, t_cnt, t_pas, con_none, con_bool, con_int, con_str, neg_int, not_bl, int_int, add_int, sub_int, lt_int, le_int, gt_int, ge_int, eq_int, ne_int, is_nn, is_in, is_bb, isn_nn, isn_in, isn_bb, tr_non, tr_bl, tr_int, ty_non, ty_bl, ty_int, ty_tup, ty_ro, isa_int_int, isa_int_bool, isa_int_list, isa_int_tuple, isa_list_list, isa_list_tuple, isa_tuple_list, isa_tuple_tuple, sq_tup, sq_ro, bi_int_int, bi_int_bl, bi_tuple_tup, bi_min, bi_max, bi_len_tup, bi_len_ro, ix_tup, ix_ro, sl_tup, sl_ro, stays_tup, stays_ro, at_0, at_1, gc_ai, gc_aai, gc_aaai, gc_ab, gc_aab, gc_aaab, gc_an, gc_aan, gc_aaan, gc_same, wipe_nil, wipe_cons, sz_0, sz_1, sz_2, sz_3, sz_4, sz_5, sz_6, sz_7, sz_8, sz_9, sz_10, runDef, runFull, Def.full, startD, List.length_cons, List.length_nil, List.map_cons, List.map_nil, List.append_nil, List.nil_append, List.cons_append, List.drop_nil, List.drop_zero, List.set_cons_zero, List.set_cons_succ, List.replicate, if_true, if_false, Bool.not_true, Bool.not_false, Bool.true_or, Bool.false_or, Option.map_some, Option.map_none, Nat.zero_add, Nat.add_zero, Nat.sub_self, Nat.reduceAdd, Nat.reduceSub, ↓reduceIte, Bool.and_true, Bool.true_and, Bool.false_and, Bool.and_false, Int.cast_ofNat_Int, decide_true, decide_false, Int.reduceEq, Int.reduceLT, Int.reduceLE, Bool.false_eq_true, linkD, head_none he, this]
  | false => simp only [bnd_some, bnd_none, opt_some, opt_none, seqF_next, seqF_brk, seqF_cnt, seqF_ret, ts_nil, ts_cons, out_ret, out_next, ite_t, ite_f, bop_and_t, bop_and_f, bop_or_t, bop_or_f, bb_and_t, bb_and_f, bb_or_t, bb_or_f, slot_0, slot_s, e_con, b_con, e_var, b_var, e_glo, b_glo, e_tup, b_tup, e_lst, b_lst, e_dct, b_dct, e_op, b_op, e_neg, b_neg, e_not, b_not, e_bop, b_bop, e_cmp, b_cmp, e_chn, b_chn, e_ifx, b_ifx, e_ix, b_ix, e_sl, b_sl, e_call, b_call, e_bi, b_bi, e_mxd, b_mxd, e_isi, b_isi, e_isl, b_isl, e_lrg, b_lrg, e_mt, b_mt, e_lc, b_lc, bop_1, bop_2, bb_1, bb_2, es_nil, es_cons, eo_none, eo_some, if_none, if_some, i_ex, i_rng1, i_rng2, i_enm, q_nm, q_tp, q_sb, setK_some, qs_nil, qs_cons, t_asg, t_aug, t_ex, t_ret, t_retN, t_iff, t_fr, t_whl, t_brk, t_cnt, t_pas, con_none, con_bool, con_int, con_str, neg_int, not_bl, int_int, add_int, sub_int, lt_int, le_int, gt_int, ge_int, eq_int, ne_int, is_nn, is_in, is_bb, isn_nn, isn_in, isn_bb, tr_non, tr_bl, tr_int, ty_non, ty_bl, ty_int, ty_tup, ty_ro, isa_int_int, isa_int_bool, isa_int_list, isa_int_tuple, isa_list_list, isa_list_tuple, isa_tuple_list, isa_tuple_tuple, sq_tup, sq_ro, bi_int_int, bi_int_bl, bi_tuple_tup, bi_min, bi_max, bi_len_tup, bi_len_ro, ix_tup, ix_ro, sl_tup, sl_ro, stays_tup, stays_ro, at_0, at_1, gc_ai, gc_aai, gc_aaai, gc_ab, gc_aab, gc_aaab, gc_an, gc_aan, gc_aaan, gc_same, wipe_nil, wipe_cons, sz_0, sz_1, sz_2, sz_3, sz_4, sz_5, sz_6, sz_7, sz_8, sz_9, sz_10, runDef, runFull, Def.full, startD, List.length_cons, List.length_nil, List.map_cons, List.map_nil, List.append_nil, List.nil_append, List.cons_append, List.drop_nil, List.drop_zero, List.set_cons_zero, List.set_cons_succ, List.replicate, if_true, if_false, Bool.not_true, Bool.not_false, Bool.true_or, Bool.false_or, Option.map_some, Option.map_none, Nat.zero_add, Nat.add_zero, Nat.sub_self, Nat.reduceAdd, Nat.reduceSub, ↓reduceIte, Bool.and_true, Bool.true_and, Bool.false_and, Bool.and_false, Int.cast_ofNat_Int, decide_true, decide_false, Int.reduceEq, Int.reduceLT, Int.reduceLE, Bool.false_eq_true, linkD, ix_loc look_new, head_at he, gp]
end K01

end

section
set_option maxHeartbeats 400000
namespace K01
open PySem PySem.Spec Mi
open L2 (atI ixN)
theorem source_of_of (k : Nat) (i : Int) (S : Store) : ∃ a b : Int, orc defs (k + 1) 16 [.int i] S = some (.loc S.length, S ++ [.lst [.int a, .int b, .int 0]]) := by
  rw [orc_at (d := d__law_source_of) rfl]
  have p18 : opD .Pow (.int 10) (.int 18) S = some (.int (10 ^ 18), S) := pow_int (n := 18) (by decide) (by decide)
  by_cases h : 0 ≤ i
  · exact ⟨_, _, by simp only [d__law_source_of, b__law_source_of, bnd_some, bnd_none, opt_some, opt_none, seqF_next, seqF_brk, seqF_cnt, seqF_ret, ts_nil, ts_cons, out_ret, out_next, ite_t, ite_f, bop_and_t, bop_and_f, bop_or_t, bop_or_f, bb_and_t, bb_and_f, bb_or_t, bb_or_f, slot_0, slot_s, e_con, b_con, e_var, b_var, e_glo, b_glo, e_tup, b_tup, e_lst, b_lst, e_dct, b_dct, e_op, b_op, e_neg, b_neg, e_not, b_not, e_bop, b_bop, e_cmp, b_cmp, e_chn, b_chn, e_ifx, b_ifx, e_ix, b_ix, e_sl, b_sl, e_call, b_call, e_bi, b_bi, e_mxd, b_mxd, e_isi, b_isi, e_isl, b_isl, e_lrg, b_lrg, e_mt, b_mt, e_lc, b_lc, bop_1, bop_2, bb_1, bb_2, es_nil, es_cons, eo_none, eo_some, if_none, if_some, i_ex, i_rng1, i_rng2, i_enm, q_nm, q_tp, q_sb, setK_some, qs_nil, qs_cons, t_asg, t_aug, t_ex, t_ret, t_retN, t_iff, t_fr, t_whl, t_brk, t_cnt, t_pas, con_none, con_bool, con_int, con_str, neg_int, not_bl, int_int, add_int, sub_int, lt_int, le_int, gt_int, ge_int, eq_int, ne_int, is_nn, is_in, is_bb, isn_nn, isn_in, isn_bb, tr_non, tr_bl, tr_int, ty_non, ty_bl, ty_int, ty_tup, ty_ro, isa_int_int, isa_int_bool, isa_int_list, isa_int_tuple, isa_list_list, isa_list_tuple, isa_tuple_list, isa_tuple_tuple, sq_tup, sq_ro, bi_int_int, bi_int_bl, bi_tuple_tup, bi_min, bi_max, bi_len_tup, bi_len_ro, ix_tup, ix_ro, sl_tup, sl_ro, stays_tup, stays_ro, at_0, at_1, gc_ai, gc_aai, gc_aaai, gc_ab, gc_aab, gc_aaab, gc_an, gc_aan, gc_aaan, gc_same, wipe_nil, wipe_cons, sz_0, sz_1, sz_2, sz_3, sz_4, sz_5, sz_6, sz_7, sz_8, sz_9, sz_10, runDef, runFull, Def.full, startD, List.length_cons, List.length_nil, List.map_cons, List.map_nil, List.append_nil, List.nil_append, List.cons_append, List.drop_nil, List.drop_zero, List.set_cons_zero, List.set_cons_succ, List.replicate, if_true, if_false, Bool.not_true, Bool.not_false, Bool.true_or, Bool.false_or, Option.map_some, Option.map_none, Nat.zero_add, Nat.add_zero, Nat.sub_self, Nat.reduceAdd, Nat.reduceSub, ↓reduceIte, Bool.and_true, Bool.true_and, Bool.false_and, Bool.and_false, Int.cast_ofNat_Int, decide_true, decide_false, Int.reduceEq, Int.reduceLT, Int.reduceLE, Bool.false_eq_true, List.append_assoc, List.length_append, lk_app, lk_app0, lk_sapp, lk_sapp0, lk_z, lk_s, st_app, st_app0, st_sapp, st_sapp0, len_set, set_set, sq_lk, ix_lk, sl_lk, len_lk, tuple_lk, list_lk, list_tup, ty_lk, stays_lk, set_lk, add_lk, app_lk, ext_lk, clear_lk, recv_lk, get2_lk, tr_lk, gp_0, gp_1, gp_2, gp_3, gp_4, gp_5, gp_6, gp_7, gp_8, ko_n, ko_s, ko_p, gq_1, gq_2, gq_3, gq_4, gq_5, gq_6, gq_7, gq_8, gq_9, gq_10, gq_11, gq_12, gq_13, gq_14, gq_15, gq_16, gcR, Nat.lt_irrefl, Nat.not_lt_zero, List.take_succ_cons, List.take_zero, List.take_nil, D.beqL_self, at_2, at_3, ixN, Nat.reduceLT, Nat.reduceLeDiff, Int.reduceToNat, Int.reduceNeg, Int.reduceSub, Int.reduceAdd, Int.reduceMul, sz_lt, Int.zero_add, mod_int, pr_int, pr_bl, pr_non, pr_str, pr_tup, pr_nil, pr_cons, pr_lst, pr_ints, pr_prs, pr_app, pr_kD, mt_1, mt_2, mt_3, mt_4, mt_5, eq_D, ne_D, eqD_ll, eqD_tt, eqL_ll, eqS_same, eqS_nil, eqS_ints, eqD_ii, eqD_kk, py_app, py_nil, py_cons, py_ints, py_int, py_bl, py_non, py_kD, py_links, py_prs, py_mapi, pr_mapi, pr_linksT, h, p18, mul_r (natAbs_01 _)]; rfl⟩
  · exact ⟨_, _, by simp only [d__law_source_of, b__law_source_of, bnd_some, bnd_none, opt_some, opt_none, seqF_next, seqF_brk, seqF_cnt, seqF_ret, ts_nil, ts_cons, out_ret, out_next, ite_t, ite_f, bop_and_t, bop_and_f, bop_or_t, bop_or_f, bb_and_t, bb_and_f, bb_or_t, bb_or_f, slot_0, slot_s, e_con, b_con, e_var, b_var, e_glo, b_glo, e_tup, b_tup, e_lst, b_lst, e_dct, b_dct, e_op, b_op, e_neg, b_neg, e_not, b_not, e_bop, b_bop, e_cmp, b_cmp, e_chn, b_chn, e_ifx, b_ifx, e_ix, b_ix, e_sl, b_sl, e_call, b_call, e_bi, b_bi, e_mxd, b_mxd, e_isi, b_isi, e_isl, b_isl, e_lrg, b_lrg, e_mt, b_mt, e_lc, b_lc, bop_1, bop_2, bb_1, bb_2, es_nil, es_cons, eo_none, eo_some, if_none, if_some, i_ex, i_rng1, i_rng2, i_enm, q_nm, q_tp, q_sb, setK_some, qs_nil, qs_cons, t_asg, t_aug, t_ex, t_ret, t_retN, t_iff, t_fr, t_whl, t_brk, t_cnt, t_pas, con_none, con_bool, con_int, con_str, neg_int, not_bl, int_int, add_int, sub_int, lt_int, le_int, gt_int, ge_int, eq_int, ne_int, is_nn, is_in, is_bb, isn_nn, isn_in, isn_bb, tr_non, tr_bl, tr_int, ty_non, ty_bl, ty_int, ty_tup, ty_ro, isa_int_int, isa_int_bool, isa_int_list, isa_int_tuple, isa_list_list, isa_list_tuple, isa_tuple_list, isa_tuple_tuple, sq_tup, sq_ro, bi_int_int, bi_int_bl, bi_tuple_tup, bi_min, bi_max, bi_len_tup, bi_len_ro, ix_tup, ix_ro, sl_tup, sl_ro, stays_tup, stays_ro, at_0, at_1, gc_ai, gc_aai, gc_aaai, gc_ab, gc_aab, gc_aaab, gc_an, gc_aan, gc_aaan, gc_same, wipe_nil, wipe_cons, sz_0, sz_1, sz_2, sz_3, sz_4, sz_5, sz_6, sz_7, sz_8, sz_9, sz_10, runDef, runFull, Def.full, startD, List.length_cons, List.length_nil, List.map_cons, List.map_nil, List.append_nil, List.nil_append, List.cons_append, List.drop_nil, List.drop_zero, List.set_cons_zero, List.set_cons_succ, List.replicate, if_true, if_false, Bool.not_true, Bool.not_false, Bool.true_or, Bool.false_or, Option.map_some, Option.map_none, Nat.zero_add, Nat.add_zero, Nat.sub_self, Nat.reduceAdd, Nat.reduceSub, ↓reduceIte, Bool.and_true, Bool.true_and, Bool.false_and, Bool.and_false, Int.cast_ofNat_Int, decide_true, decide_false, Int.reduceEq, Int.reduceLT, Int.reduceLE, Bool.false_eq_true, List.append_assoc, List.length_append, lk_app, lk_app0, lk_sapp, lk_sapp0, lk_z, lk_s, st_app, st_app0, st_sapp, st_sapp0, len_set, set_set, sq_lk, ix_lk, sl_lk, len_lk, tuple_lk, list_lk, list_tup, ty_lk, stays_lk, set_lk, add_lk, app_lk, ext_lk, clear_lk, recv_lk, get2_lk, tr_lk, gp_0, gp_1, gp_2, gp_3, gp_4, gp_5, gp_6, gp_7, gp_8, ko_n, ko_s, ko_p, gq_1, gq_2, gq_3, gq_4, gq_5, gq_6, gq_7, gq_8, gq_9, gq_10, gq_11, gq_12, gq_13, gq_14, gq_15, gq_16, gcR, Nat.lt_irrefl, Nat.not_lt_zero, List.take_succ_cons, List.take_zero, List.take_nil, D.beqL_self, at_2, at_3, ixN, Nat.reduceLT, Nat.reduceLeDiff, Int.reduceToNat, Int.reduceNeg, Int.reduceSub, Int.reduceAdd, Int.reduceMul, sz_lt, Int.zero_add, mod_int, pr_int, pr_bl, pr_non, pr_str, pr_tup, pr_nil, pr_cons, pr_lst, pr_ints, pr_prs, pr_app, pr_kD, mt_1, mt_2, mt_3, mt_4, mt_5, eq_D, ne_D, eqD_ll, eqD_tt, eqL_ll, eqS_same, eqS_nil, eqS_ints, eqD_ii, eqD_kk, py_app, py_nil, py_cons, py_ints, py_int, py_bl, py_non, py_kD, py_links, py_prs, py_mapi, pr_mapi, pr_linksT, h, p18, mul_r (natAbs_01 _), mul_l (show (3 : Int).natAbs < 2 ^ 64 by decide)]; rfl⟩
abbrev src (a b c : Int) : MO := .lst [.int a, .int b, .int c]
theorem next_of (k : Nat) {m : Nat} {S : Store} {a b c many : Int} (hs : lk S m = some (src a b c)) (h1 : 0 < many) (h2 : many.natAbs.log2 < 9000) :
    ∃ r a' c', orc defs (k + 1) 17 [.loc m, .int many] S = some (.int r, S.set m (src a' b c')) ∧ 0 ≤ r ∧ r < many := by
  rw [orc_at (d := d__law_next) rfl]
  have hm := Int.emod_nonneg
  by_cases h : 0 < a
  · refine ⟨a % many, a / many, c, ?_, Int.emod_nonneg _ (by omega), Int.emod_lt_of_pos _ h1⟩
    simp only [d__law_next, b__law_next, bnd_some, bnd_none, opt_some, opt_none, seqF_next, seqF_brk, seqF_cnt, seqF_ret, ts_nil, ts_cons, out_ret, out_next, ite_t, ite_f, bop_and_t, bop_and_f, bop_or_t, bop_or_f, bb_and_t, bb_and_f, bb_or_t, bb_or_f, slot_0, slot_s, e_con, b_con, e_var, b_var, e_glo, b_glo, e_tup, b_tup, e_lst, b_lst, e_dct, b_dct, e_op, b_op, e_neg, b_neg, e_not, b_not, e_bop, b_bop, e_cmp, b_cmp, e_chn, b_chn, e_ifx, b_ifx, e_ix, b_ix, e_sl, b_sl, e_call, b_call, e_bi, b_bi, e_mxd, b_mxd, e_isi, b_isi, e_isl, b_isl, e_lrg, b_lrg, e_mt, b_mt, e_lc, b_lc, bop_1, bop_2, bb_1, bb_2, es_nil, es_cons, eo_none, eo_some, if_none, if_some, i_ex, i_rng1, i_rng2, i_enm, q_nm, q_tp, q_sb, setK_some, qs_nil, qs_cons, t_asg, t_aug, t_ex, t_ret, t_retN, t_iff, t_fr, t_whl, t_brk, t_cnt, t_pas, con_none, con_bool, con_int, con_str, neg_int, not_bl, int_int, add_int, sub_int, lt_int, le_int, gt_int, ge_int, eq_int, ne_int, is_nn, is_in, is_bb, isn_nn, isn_in, isn_bb, tr_non, tr_bl, tr_int, ty_non, ty_bl, ty_int, ty_tup, ty_ro, isa_int_int, isa_int_bool, isa_int_list, isa_int_tuple, isa_list_list, isa_list_tuple, isa_tuple_list, isa_tuple_tuple, sq_tup, sq_ro, bi_int_int, bi_int_bl, bi_tuple_tup, bi_min, bi_max, bi_len_tup, bi_len_ro, ix_tup, ix_ro, sl_tup, sl_ro, stays_tup, stays_ro, at_0, at_1, gc_ai, gc_aai, gc_aaai, gc_ab, gc_aab, gc_aaab, gc_an, gc_aan, gc_aaan, gc_same, wipe_nil, wipe_cons, sz_0, sz_1, sz_2, sz_3, sz_4, sz_5, sz_6, sz_7, sz_8, sz_9, sz_10, runDef, runFull, Def.full, startD, List.length_cons, List.length_nil, List.map_cons, List.map_nil, List.append_nil, List.nil_append, List.cons_append, List.drop_nil, List.drop_zero, List.set_cons_zero, List.set_cons_succ, List.replicate, if_true, if_false, Bool.not_true, Bool.not_false, Bool.true_or, Bool.false_or, Option.map_some, Option.map_none, Nat.zero_add, Nat.add_zero, Nat.sub_self, Nat.reduceAdd, Nat.reduceSub, ↓reduceIte, Bool.and_true, Bool.true_and, Bool.false_and, Bool.and_false, Int.cast_ofNat_Int, decide_true, decide_false, Int.reduceEq, Int.reduceLT, Int.reduceLE, Bool.false_eq_true, List.append_assoc, List.length_append, lk_app, lk_app0, lk_sapp, lk_sapp0, lk_z, lk_s, st_app, st_app0, st_sapp, st_sapp0, len_set, set_set, sq_lk, ix_lk, sl_lk, len_lk, tuple_lk, list_lk, list_tup, ty_lk, stays_lk, set_lk, add_lk, app_lk, ext_lk, clear_lk, recv_lk, get2_lk, tr_lk, gp_0, gp_1, gp_2, gp_3, gp_4, gp_5, gp_6, gp_7, gp_8, ko_n, ko_s, ko_p, gq_1, gq_2, gq_3, gq_4, gq_5, gq_6, gq_7, gq_8, gq_9, gq_10, gq_11, gq_12, gq_13, gq_14, gq_15, gq_16, gcR, Nat.lt_irrefl, Nat.not_lt_zero, List.take_succ_cons, List.take_zero, List.take_nil, D.beqL_self, at_2, at_3, ixN, Nat.reduceLT, Nat.reduceLeDiff, Int.reduceToNat, Int.reduceNeg, Int.reduceSub, Int.reduceAdd, Int.reduceMul, sz_lt, Int.zero_add, mod_int, pr_int, pr_bl, pr_non, pr_str, pr_tup, pr_nil, pr_cons, pr_lst, pr_ints, pr_prs, pr_app, pr_kD, mt_1, mt_2, mt_3, mt_4, mt_5, eq_D, ne_D, eqD_ll, eqD_tt, eqL_ll, eqS_same, eqS_nil, eqS_ints, eqD_ii, eqD_kk, py_app, py_nil, py_cons, py_ints, py_int, py_bl, py_non, py_kD, py_links, py_prs, py_mapi, pr_mapi, pr_linksT, h, hs, lk_set hs, div_int h1 h2, mod_int h1]
  · have e1 : ∀ x : Int, (x % 2147483647).natAbs < 2 ^ 64 := fun x => natAbs_lt (n := 2147483647) (Int.emod_nonneg _ (by decide)) (Int.emod_lt_of_pos _ (by decide)) (by decide)
    have ⟨x, hx⟩ : ∃ x : Int, runDef (orc defs k) d__law_next [.loc m, .int many] S = some (.int (x % many), S.set m (src a b (c + 1))) := ⟨_, by
      simp only [d__law_next, b__law_next, bnd_some, bnd_none, opt_some, opt_none, seqF_next, seqF_brk, seqF_cnt, seqF_ret, ts_nil, ts_cons, out_ret, out_next, ite_t, ite_f, bop_and_t, bop_and_f, bop_or_t, bop_or_f, bb_and_t, bb_and_f, bb_or_t, bb_or_f, slot_0, slot_s, e_con, b_con, e_var, b_var, e_glo, b_glo, e_tup, b_tup, e_lst, b_lst, e_dct, b_dct, e_op, b_op, e_neg, b_neg, e_not, b_not, e_bop, b_bop, e_cmp, b_cmp, e_chn, b_chn, e_ifx, b_ifx, e_ix, b_ix, e_sl, b_sl, e_call, b_call, e_bi, b_bi, e_mxd, b_mxd, e_isi, b_isi, e_isl, b_isl, e_lrg, b_lrg, e_mt, b_mt, e_lc, b_lc, bop_1, bop_2, bb_1, bb_2, es_nil, es_cons, eo_none, eo_some, if_none, if_some, i_ex, i_rng1, i_rng2, i_enm, q_nm, q_tp, q_sb, setK_some, qs_nil, qs_cons, t_asg, t_aug, t_ex, t_ret, t_retN, t_iff, t_fr, t_whl, t_brk, t_cnt, t_pas, con_none, con_bool, con_int, con_str, neg_int, not_bl, int_int, add_int, sub_int, lt_int, le_int, gt_int, ge_int, eq_int, ne_int, is_nn, is_in, is_bb, isn_nn, isn_in, isn_bb, tr_non, tr_bl, tr_int, ty_non, ty_bl, ty_int, ty_tup, ty_ro, isa_int_int, isa_int_bool, isa_int_list, isa_int_tuple, isa_list_list, isa_list_tuple, isa_tuple_list, isa_tuple_tuple, sq_tup, sq_ro, bi_int_int, bi_int_bl, bi_tuple_tup, bi_min, bi_max, bi_len_tup, bi_len_ro, ix_tup, ix_ro, sl_tup, sl_ro, stays_tup, stays_ro, at_0, at_1, gc_ai, gc_aai, gc_aaai, gc_ab, gc_aab, gc_aaab, gc_an, gc_aan, gc_aaan, gc_same, wipe_nil, wipe_cons, sz_0, sz_1, sz_2, sz_3, sz_4, sz_5, sz_6, sz_7, sz_8, sz_9, sz_10, runDef, runFull, Def.full, startD, List.length_cons, List.length_nil, List.map_cons, List.map_nil, List.append_nil, List.nil_append, List.cons_append, List.drop_nil, List.drop_zero, List.set_cons_zero, List.set_cons_succ, List.replicate, if_true, if_false, Bool.not_true, Bool.not_false, Bool.true_or, Bool.false_or, Option.map_some, Option.map_none, Nat.zero_add, Nat.add_zero, Nat.sub_self, Nat.reduceAdd, Nat.reduceSub, ↓reduceIte, Bool.and_true, Bool.true_and, Bool.false_and, Bool.and_false, Int.cast_ofNat_Int, decide_true, decide_false, Int.reduceEq, Int.reduceLT, Int.reduceLE, Bool.false_eq_true, List.append_assoc, List.length_append, lk_app, lk_app0, lk_sapp, lk_sapp0, lk_z, lk_s, st_app, st_app0, st_sapp, st_sapp0, len_set, set_set, sq_lk, ix_lk, sl_lk, len_lk, tuple_lk, list_lk, list_tup, ty_lk, stays_lk, set_lk, add_lk, app_lk, ext_lk, clear_lk, recv_lk, get2_lk, tr_lk, gp_0, gp_1, gp_2, gp_3, gp_4, gp_5, gp_6, gp_7, gp_8, ko_n, ko_s, ko_p, gq_1, gq_2, gq_3, gq_4, gq_5, gq_6, gq_7, gq_8, gq_9, gq_10, gq_11, gq_12, gq_13, gq_14, gq_15, gq_16, gcR, Nat.lt_irrefl, Nat.not_lt_zero, List.take_succ_cons, List.take_zero, List.take_nil, D.beqL_self, at_2, at_3, ixN, Nat.reduceLT, Nat.reduceLeDiff, Int.reduceToNat, Int.reduceNeg, Int.reduceSub, Int.reduceAdd, Int.reduceMul, sz_lt, Int.zero_add, mod_int, pr_int, pr_bl, pr_non, pr_str, pr_tup, pr_nil, pr_cons, pr_lst, pr_ints, pr_prs, pr_app, pr_kD, mt_1, mt_2, mt_3, mt_4, mt_5, eq_D, ne_D, eqD_ll, eqD_tt, eqL_ll, eqS_same, eqS_nil, eqS_ints, eqD_ii, eqD_kk, py_app, py_nil, py_cons, py_ints, py_int, py_bl, py_non, py_kD, py_links, py_prs, py_mapi, pr_mapi, pr_linksT, h, hs, lk_set hs, mod_int h1, mul_l (show (104729 : Int).natAbs < 2 ^ 64 by decide), mul_r (show (48271 : Int).natAbs < 2 ^ 64 by decide), mul_l (e1 _), div_int (show (0 : Int) < 1009 by decide) (by decide), div_int (show (0 : Int) < 2003 by decide) (by decide), div_int (show (0 : Int) < 7 by decide) (by decide)]
      rfl⟩
    exact ⟨_, _, _, hx, Int.emod_nonneg _ (by omega), Int.emod_lt_of_pos _ h1⟩
theorem one_of (k : Nat) {m : Nat} {S : Store} {a b c : Int} {v : D} {ds : List D} (hs : lk S m = some (src a b c)) (hv : ∀ T, T = S ∨ (∃ a' c', T = S.set m (src a' b c')) → seqOf T v = some ds) (h1 : 0 < ds.length) (h2 : ds.length ≤ 1000) (hp : D.pureL ds = true) :
    ∃ d a' c', orc defs (k + 2) 18 [.loc m, v] S = some (d, S.set m (src a' b c')) ∧ d ∈ ds := by
  rw [orc_at (d := d__law_one) rfl]
  obtain ⟨r, a', c', e, r0, r1⟩ := next_of k (many := ds.length) hs (by omega) (log_small (Nat.lt_of_le_of_lt (by omega : _ ≤ 1000) (Nat.lt_of_lt_of_le (by decide : 1000 < 2 ^ 10) (Nat.pow_le_pow_right (by omega) (by omega)))))
  obtain ⟨d, g1, g2⟩ := at_in r0 r1
  have hd : d ∈ ds := List.mem_of_getElem? g1
  have pd : D.pure d = true := pureL_mem hp hd
  refine ⟨d, a', c', ?_, hd⟩
  simp only [d__law_one, b__law_one, bnd_some, bnd_none, opt_some, opt_none, seqF_next, seqF_brk, seqF_cnt, seqF_ret, ts_nil, ts_cons, out_ret, out_next, ite_t, ite_f, bop_and_t, bop_and_f, bop_or_t, bop_or_f, bb_and_t, bb_and_f, bb_or_t, bb_or_f, slot_0, slot_s, e_con, b_con, e_var, b_var, e_glo, b_glo, e_tup, b_tup, e_lst, b_lst, e_dct, b_dct, e_op, b_op, e_neg, b_neg, e_not, b_not, e_bop, b_bop, e_cmp, b_cmp, e_chn, b_chn, e_ifx, b_ifx, e_ix, b_ix, e_sl, b_sl, e_call, b_call, e_bi, b_bi, e_mxd, b_mxd, e_isi, b_isi, e_isl, b_isl, e_lrg, b_lrg, e_mt, b_mt, e_lc, b_lc, bop_1, bop_2, bb_1, bb_2, es_nil, es_cons, eo_none, eo_some, if_none, if_some, i_ex, i_rng1, i_rng2, i_enm, q_nm, q_tp, q_sb, setK_some, qs_nil, qs_cons, t_asg, t_aug, t_ex, t_ret, t_retN, t_iff, t_fr, t_whl, t_brk, t_cnt, t_pas, con_none, con_bool, con_int, con_str, neg_int, not_bl, int_int, add_int, sub_int, lt_int, le_int, gt_int, ge_int, eq_int, ne_int, is_nn, is_in, is_bb, isn_nn, isn_in, isn_bb, tr_non, tr_bl, tr_int, ty_non, ty_bl, ty_int, ty_tup, ty_ro, isa_int_int, isa_int_bool, isa_int_list, isa_int_tuple, isa_list_list, isa_list_tuple, isa_tuple_list, isa_tuple_tuple, sq_tup, sq_ro, bi_int_int, bi_int_bl, bi_tuple_tup, bi_min, bi_max, bi_len_tup, bi_len_ro, ix_tup, ix_ro, sl_tup, sl_ro, stays_tup, stays_ro, at_0, at_1, gc_ai, gc_aai, gc_aaai, gc_ab, gc_aab, gc_aaab, gc_an, gc_aan, gc_aaan, gc_same, wipe_nil, wipe_cons, sz_0, sz_1, sz_2, sz_3, sz_4, sz_5, sz_6, sz_7, sz_8, sz_9, sz_10, runDef, runFull, Def.full, startD, List.length_cons, List.length_nil, List.map_cons, List.map_nil, List.append_nil, List.nil_append, List.cons_append, List.drop_nil, List.drop_zero, List.set_cons_zero, List.set_cons_succ, List.replicate, if_true, if_false, Bool.not_true, Bool.not_false, Bool.true_or, Bool.false_or, Option.map_some, Option.map_none, Nat.zero_add, Nat.add_zero, Nat.sub_self, Nat.reduceAdd, Nat.reduceSub, ↓reduceIte, Bool.and_true, Bool.true_and, Bool.false_and, Bool.and_false, Int.cast_ofNat_Int, decide_true, decide_false, Int.reduceEq, Int.reduceLT, Int.reduceLE, Bool.false_eq_true, len_sq (hv S (.inl rfl)), e, List.append_assoc, List.length_append, lk_app, lk_app0, lk_sapp, lk_sapp0, lk_z, lk_s, st_app, st_app0, st_sapp, st_sapp0, len_set, set_set, sq_lk, ix_lk, sl_lk, len_lk, tuple_lk, list_lk, list_tup, ty_lk, stays_lk, set_lk, add_lk, app_lk, ext_lk, clear_lk, recv_lk, get2_lk, tr_lk, gp_0, gp_1, gp_2, gp_3, gp_4, gp_5, gp_6, gp_7, gp_8, ko_n, ko_s, ko_p, gq_1, gq_2, gq_3, gq_4, gq_5, gq_6, gq_7, gq_8, gq_9, gq_10, gq_11, gq_12, gq_13, gq_14, gq_15, gq_16, gcR, Nat.lt_irrefl, Nat.not_lt_zero, List.take_succ_cons, List.take_zero, List.take_nil, D.beqL_self, at_2, at_3, ixN, Nat.reduceLT, Nat.reduceLeDiff, Int.reduceToNat, Int.reduceNeg, Int.reduceSub, Int.reduceAdd, Int.reduceMul, sz_lt, Int.zero_add, mod_int, pr_int, pr_bl, pr_non, pr_str, pr_tup, pr_nil, pr_cons, pr_lst, pr_ints, pr_prs, pr_app, pr_kD, mt_1, mt_2, mt_3, mt_4, mt_5, eq_D, ne_D, eqD_ll, eqD_tt, eqL_ll, eqS_same, eqS_nil, eqS_ints, eqD_ii, eqD_kk, py_app, py_nil, py_cons, py_ints, py_int, py_bl, py_non, py_kD, py_links, py_prs, py_mapi, pr_mapi, pr_linksT, ix_sq (hv _ (.inr ⟨a', c', rfl⟩)), g2, pd]
theorem next_s (k : Nat) {m : Nat} {S L : Store} {mo : MO} {a b c many : Int} (hs : lk S m = some mo) (h1 : 0 < many) (h2 : many.natAbs.log2 < 9000) :
    ∃ r a' c', orc defs (k + 1) 17 [.loc m, .int many] (S.set m (src a b c) ++ L) = some (.int r, S.set m (src a' b c') ++ L) ∧ 0 ≤ r ∧ r < many := by
  obtain ⟨r, a', c', e, h⟩ := next_of k (many := many) (S := S.set m (src a b c) ++ L) (lk_seta hs) h1 h2
  rw [st_olds hs] at e
  exact ⟨r, a', c', e, h⟩
theorem one_s (k : Nat) {m : Nat} {S L : Store} {mo : MO} {a b c : Int} {v : D} {ds : List D} (hs : lk S m = some mo) (hv : ∀ a' c', seqOf (S.set m (src a' b c') ++ L) v = some ds) (h1 : 0 < ds.length) (h2 : ds.length ≤ 1000) (hp : D.pureL ds = true) :
    ∃ d a' c', orc defs (k + 2) 18 [.loc m, v] (S.set m (src a b c) ++ L) = some (d, S.set m (src a' b c') ++ L) ∧ d ∈ ds := by
  obtain ⟨d, a', c', e, h⟩ := one_of k (v := v) (S := S.set m (src a b c) ++ L) (lk_seta hs) (fun T hT => by
    rcases hT with rfl | ⟨a', c', rfl⟩
    · exact hv a c
    · rw [st_olds hs]; exact hv a' c') h1 h2 hp
  rw [st_olds hs] at e
  exact ⟨d, a', c', e, h⟩
theorem towers_of (k : Nat) {m : Nat} {S : Store} {mo : MO} {a b c many high : Int} (hs : lk S m = some mo) (hm : 0 ≤ many) (hm2 : many ≤ 900) (hh : 1 ≤ high) :
    ∃ tw a' c', orc defs (k + 3) 19 [.loc m, .int many, .int high] (S.set m (src a b c)) = some (.tup (tw.map prD), S.set m (src a' b c')) ∧ Fine tw ∧ tw.length ≤ many.toNat ∧ ∀ p ∈ tw, p.2 ≤ high := by
  rw [orc_at (d := d__law_towers) rfl]
  obtain ⟨r1, a1, c1, e1, -, -⟩ := next_s (k + 1) (L := [.lst []]) (a := a) (b := b) (c := c) (many := 40) hs (by decide) (by decide)
  obtain ⟨r2, a2, c2, e2, z1, z2⟩ := next_s (k + 1) (L := [.lst []]) (a := a1) (b := b) (c := c1) (many := many + 1) hs (by omega) (log_small (Nat.lt_of_lt_of_le (by omega : _ < 2 ^ 10) (Nat.pow_le_pow_right (by omega) (by omega))))
  have er : rngD 0 r2 = some ⟨(rangeI 0 (r2 - 0).toNat).map D.int, fun _ => true⟩ := rng_small (by omega) (by omega) (by omega) (by omega)
  simp only [d__law_towers, b__law_towers, bnd_some, bnd_none, opt_some, opt_none, seqF_next, seqF_brk, seqF_cnt, seqF_ret, ts_nil, ts_cons, out_ret, out_next, ite_t, ite_f, bop_and_t, bop_and_f, bop_or_t, bop_or_f, bb_and_t, bb_and_f, bb_or_t, bb_or_f, slot_0, slot_s, e_con, b_con, e_var, b_var, e_glo, b_glo, e_tup, b_tup, e_lst, b_lst, e_dct, b_dct, e_op, b_op, e_neg, b_neg, e_not, b_not, e_bop, b_bop, e_cmp, b_cmp, e_chn, b_chn, e_ifx, b_ifx, e_ix, b_ix, e_sl, b_sl, e_call, b_call, e_bi, b_bi, e_mxd, b_mxd, e_isi, b_isi, e_isl, b_isl, e_lrg, b_lrg, e_mt, b_mt, e_lc, b_lc, bop_1, bop_2, bb_1, bb_2, es_nil, es_cons, eo_none, eo_some, if_none, if_some, i_ex, i_rng1, i_rng2, i_enm, q_nm, q_tp, q_sb, setK_some, qs_nil, qs_cons, t_asg, t_aug, t_ex, t_ret, t_retN, t_iff, t_fr, t_whl, t_brk, t_cnt, t_pas, con_none, con_bool, con_int, con_str, neg_int, not_bl, int_int, add_int, sub_int, lt_int, le_int, gt_int, ge_int, eq_int, ne_int, is_nn, is_in, is_bb, isn_nn, isn_in, isn_bb, tr_non, tr_bl, tr_int, ty_non, ty_bl, ty_int, ty_tup, ty_ro, isa_int_int, isa_int_bool, isa_int_list, isa_int_tuple, isa_list_list, isa_list_tuple, isa_tuple_list, isa_tuple_tuple, sq_tup, sq_ro, bi_int_int, bi_int_bl, bi_tuple_tup, bi_min, bi_max, bi_len_tup, bi_len_ro, ix_tup, ix_ro, sl_tup, sl_ro, stays_tup, stays_ro, at_0, at_1, gc_ai, gc_aai, gc_aaai, gc_ab, gc_aab, gc_aaab, gc_an, gc_aan, gc_aaan, gc_same, wipe_nil, wipe_cons, sz_0, sz_1, sz_2, sz_3, sz_4, sz_5, sz_6, sz_7, sz_8, sz_9, sz_10, runDef, runFull, Def.full, startD, List.length_cons, List.length_nil, List.map_cons, List.map_nil, List.append_nil, List.nil_append, List.cons_append, List.drop_nil, List.drop_zero, List.set_cons_zero, List.set_cons_succ, List.replicate, if_true, if_false, Bool.not_true, Bool.not_false, Bool.true_or, Bool.false_or, Option.map_some, Option.map_none, Nat.zero_add, Nat.add_zero, Nat.sub_self, Nat.reduceAdd, Nat.reduceSub, ↓reduceIte, Bool.and_true, Bool.true_and, Bool.false_and, Bool.and_false, Int.cast_ofNat_Int, decide_true, decide_false, Int.reduceEq, Int.reduceLT, Int.reduceLE, Bool.false_eq_true, List.append_assoc, List.length_append, lk_app, lk_app0, lk_sapp, lk_sapp0, lk_z, lk_s, st_app, st_app0, st_sapp, st_sapp0, len_set, set_set, sq_lk, ix_lk, sl_lk, len_lk, tuple_lk, list_lk, list_tup, ty_lk, stays_lk, set_lk, add_lk, app_lk, ext_lk, clear_lk, recv_lk, get2_lk, tr_lk, gp_0, gp_1, gp_2, gp_3, gp_4, gp_5, gp_6, gp_7, gp_8, ko_n, ko_s, ko_p, gq_1, gq_2, gq_3, gq_4, gq_5, gq_6, gq_7, gq_8, gq_9, gq_10, gq_11, gq_12, gq_13, gq_14, gq_15, gq_16, gcR, Nat.lt_irrefl, Nat.not_lt_zero, List.take_succ_cons, List.take_zero, List.take_nil, D.beqL_self, at_2, at_3, ixN, Nat.reduceLT, Nat.reduceLeDiff, Int.reduceToNat, Int.reduceNeg, Int.reduceSub, Int.reduceAdd, Int.reduceMul, sz_lt, Int.zero_add, mod_int, pr_int, pr_bl, pr_non, pr_str, pr_tup, pr_nil, pr_cons, pr_lst, pr_ints, pr_prs, pr_app, pr_kD, mt_1, mt_2, mt_3, mt_4, mt_5, eq_D, ne_D, eqD_ll, eqD_tt, eqL_ll, eqS_same, eqS_nil, eqS_ints, eqD_ii, eqD_kk, py_app, py_nil, py_cons, py_ints, py_int, py_bl, py_non, py_kD, py_links, py_prs, py_mapi, pr_mapi, pr_linksT, e1, e2, er]
  generalize hX : forD _ _ _ _ _ _ = X
  have key := for_X hX (fun its σ T => ∃ (a c kk : Int) (tw : Tws) (x y : Option D), σ = [some (.loc m), some (.int many), some (.int high), some (.loc S.length), some (.int kk), x, y] ∧ T = S.set m (src a b c) ++ [.lst (tw.map prD)] ∧ Fine tw ∧ (∀ p ∈ tw, p.1 ≤ kk ∧ p.2 ≤ high) ∧ its.length + tw.length ≤ many.toNat)
    (fun X => ∃ (a c kk : Int) (tw : Tws) (x y : Option D), X = some (.next [some (.loc m), some (.int many), some (.int high), some (.loc S.length), some (.int kk), x, y], S.set m (src a b c) ++ [.lst (tw.map prD)]) ∧ Fine tw ∧ (∀ p ∈ tw, p.2 ≤ high) ∧ tw.length ≤ many.toNat)
    ⟨a2, c2, r1 - 30, [], none, none, rfl, rfl, trivial, (fun _ z => nomatch z), by simp [rangeI_len]; omega⟩
    (fun σ T ⟨a, c, kk, tw, x, y, h1, h2, h3, h4, h5⟩ => ⟨rfl, a, c, kk, tw, x, y, by rw [h1, h2], h3, fun p hp => (h4 p hp).2, by simpa using h5⟩) ?_
  · obtain ⟨a, c, kk, tw, x, y, rfl, h3, h4, h5⟩ := key
    refine ⟨tw, a, c, ?_, h3, h5, h4⟩
    simp only [bnd_some, bnd_none, opt_some, opt_none, seqF_next, seqF_brk, seqF_cnt, seqF_ret, ts_nil, ts_cons, out_ret, out_next, ite_t, ite_f, bop_and_t, bop_and_f, bop_or_t, bop_or_f, bb_and_t, bb_and_f, bb_or_t, bb_or_f, slot_0, slot_s, e_con, b_con, e_var, b_var, e_glo, b_glo, e_tup, b_tup, e_lst, b_lst, e_dct, b_dct, e_op, b_op, e_neg, b_neg, e_not, b_not, e_bop, b_bop, e_cmp, b_cmp, e_chn, b_chn, e_ifx, b_ifx, e_ix, b_ix, e_sl, b_sl, e_call, b_call, e_bi, b_bi, e_mxd, b_mxd, e_isi, b_isi, e_isl, b_isl, e_lrg, b_lrg, e_mt, b_mt, e_lc, b_lc, bop_1, bop_2, bb_1, bb_2, es_nil, es_cons, eo_none, eo_some, if_none, if_some, i_ex, i_rng1, i_rng2, i_enm, q_nm, q_tp, q_sb, setK_some, qs_nil, qs_cons, t_asg, t_aug, t_ex, t_ret, t_retN, t_iff, t_fr, t_whl, t_brk, t_cnt, t_pas, con_none, con_bool, con_int, con_str, neg_int, not_bl, int_int, add_int, sub_int, lt_int, le_int, gt_int, ge_int, eq_int, ne_int, is_nn, is_in, is_bb, isn_nn, isn_in, isn_bb, tr_non, tr_bl, tr_int, ty_non, ty_bl, ty_int, ty_tup, ty_ro, isa_int_int, isa_int_bool, isa_int_list, isa_int_tuple, isa_list_list, isa_list_tuple, isa_tuple_list, isa_tuple_tuple, sq_tup, sq_ro, bi_int_int, bi_int_bl, bi_tuple_tup, bi_min, bi_max, bi_len_tup, bi_len_ro, ix_tup, ix_ro, sl_tup, sl_ro, stays_tup, stays_ro, at_0, at_1, gc_ai, gc_aai, gc_aaai, gc_ab, gc_aab, gc_aaab, gc_an, gc_aan, gc_aaan, gc_same, wipe_nil, wipe_cons, sz_0, sz_1, sz_2, sz_3, sz_4, sz_5, sz_6, sz_7, sz_8, sz_9, sz_10, runDef, runFull, Def.full, startD, List.length_cons, List.length_nil, List.map_cons, List.map_nil, List.append_nil, List.nil_append, List.cons_append, List.drop_nil, List.drop_zero, List.set_cons_zero, List.set_cons_succ, List.replicate, if_true, if_false, Bool.not_true, Bool.not_false, Bool.true_or, Bool.false_or, Option.map_some, Option.map_none, Nat.zero_add, Nat.add_zero, Nat.sub_self, Nat.reduceAdd, Nat.reduceSub, ↓reduceIte, Bool.and_true, Bool.true_and, Bool.false_and, Bool.and_false, Int.cast_ofNat_Int, decide_true, decide_false, Int.reduceEq, Int.reduceLT, Int.reduceLE, Bool.false_eq_true, List.append_assoc, List.length_append, lk_app, lk_app0, lk_sapp, lk_sapp0, lk_z, lk_s, st_app, st_app0, st_sapp, st_sapp0, len_set, set_set, sq_lk, ix_lk, sl_lk, len_lk, tuple_lk, list_lk, list_tup, ty_lk, stays_lk, set_lk, add_lk, app_lk, ext_lk, clear_lk, recv_lk, get2_lk, tr_lk, gp_0, gp_1, gp_2, gp_3, gp_4, gp_5, gp_6, gp_7, gp_8, ko_n, ko_s, ko_p, gq_1, gq_2, gq_3, gq_4, gq_5, gq_6, gq_7, gq_8, gq_9, gq_10, gq_11, gq_12, gq_13, gq_14, gq_15, gq_16, gcR, Nat.lt_irrefl, Nat.not_lt_zero, List.take_succ_cons, List.take_zero, List.take_nil, D.beqL_self, at_2, at_3, ixN, Nat.reduceLT, Nat.reduceLeDiff, Int.reduceToNat, Int.reduceNeg, Int.reduceSub, Int.reduceAdd, Int.reduceMul, sz_lt, Int.zero_add, mod_int, pr_int, pr_bl, pr_non, pr_str, pr_tup, pr_nil, pr_cons, pr_lst, pr_ints, pr_prs, pr_app, pr_kD, mt_1, mt_2, mt_3, mt_4, mt_5, eq_D, ne_D, eqD_ll, eqD_tt, eqL_ll, eqS_same, eqS_nil, eqS_ints, eqD_ii, eqD_kk, py_app, py_nil, py_cons, py_ints, py_int, py_bl, py_non, py_kD, py_links, py_prs, py_mapi, pr_mapi, pr_linksT]
  · clear hX X
    rintro z r σ T ⟨a, c, kk, tw, x, y, rfl, rfl, h3, h4, h5⟩
    refine ⟨rfl, ?_⟩
    obtain ⟨r3, a3, c3, e3, q3, -⟩ := next_s (k + 1) (L := [.lst (tw.map prD)]) (a := a) (b := b) (c := c) (many := 10 ^ 20) hs (by decide) (by decide)
    have p20 : ∀ T, opD .Pow (.int 10) (.int 20) T = some (.int (10 ^ 20), T) := fun T => pow_int (n := 20) (by decide) (by decide)
    obtain ⟨d4, a4, c4, e4, m4⟩ := one_s k (L := [.lst (tw.map prD), .lst [.int 0, .int 0, .int 1, .int 6, .int r3]]) (a := a3) (b := b) (c := c3) (v := .loc (S.length + 1)) (ds := [.int 0, .int 0, .int 1, .int 6, .int r3]) hs (fun a' c' => by simp only [List.append_assoc, List.length_append, lk_app, lk_app0, lk_sapp, lk_sapp0, lk_z, lk_s, st_app, st_app0, st_sapp, st_sapp0, len_set, set_set, sq_lk, ix_lk, sl_lk, len_lk, tuple_lk, list_lk, list_tup, ty_lk, stays_lk, set_lk, add_lk, app_lk, ext_lk, clear_lk, recv_lk, get2_lk, tr_lk, gp_0, gp_1, gp_2, gp_3, gp_4, gp_5, gp_6, gp_7, gp_8, ko_n, ko_s, ko_p, gq_1, gq_2, gq_3, gq_4, gq_5, gq_6, gq_7, gq_8, gq_9, gq_10, gq_11, gq_12, gq_13, gq_14, gq_15, gq_16, gcR, Nat.lt_irrefl, Nat.not_lt_zero, List.take_succ_cons, List.take_zero, List.take_nil, D.beqL_self, at_2, at_3, ixN, Nat.reduceLT, Nat.reduceLeDiff, Int.reduceToNat, Int.reduceNeg, Int.reduceSub, Int.reduceAdd, Int.reduceMul, sz_lt, Int.zero_add, mod_int, pr_int, pr_bl, pr_non, pr_str, pr_tup, pr_nil, pr_cons, pr_lst, pr_ints, pr_prs, pr_app, pr_kD, mt_1, mt_2, mt_3, mt_4, mt_5, eq_D, ne_D, eqD_ll, eqD_tt, eqL_ll, eqS_same, eqS_nil, eqS_ints, eqD_ii, eqD_kk, py_app, py_nil, py_cons, py_ints, py_int, py_bl, py_non, py_kD, py_links, py_prs, py_mapi, pr_mapi, pr_linksT]) (by simp) (by simp) (by rfl)
    obtain ⟨d5, a5, c5, e5, m5⟩ := one_s k (L := [.lst (tw.map prD), .lst [.int 0, .int 0, .int 0, .int 1, .int 1, .int 2, .int 3, .int (high - 1)]]) (a := a4) (b := b) (c := c4) (v := .loc (S.length + 1)) (ds := [.int 0, .int 0, .int 0, .int 1, .int 1, .int 2, .int 3, .int (high - 1)]) hs (fun a' c' => by simp only [List.append_assoc, List.length_append, lk_app, lk_app0, lk_sapp, lk_sapp0, lk_z, lk_s, st_app, st_app0, st_sapp, st_sapp0, len_set, set_set, sq_lk, ix_lk, sl_lk, len_lk, tuple_lk, list_lk, list_tup, ty_lk, stays_lk, set_lk, add_lk, app_lk, ext_lk, clear_lk, recv_lk, get2_lk, tr_lk, gp_0, gp_1, gp_2, gp_3, gp_4, gp_5, gp_6, gp_7, gp_8, ko_n, ko_s, ko_p, gq_1, gq_2, gq_3, gq_4, gq_5, gq_6, gq_7, gq_8, gq_9, gq_10, gq_11, gq_12, gq_13, gq_14, gq_15, gq_16, gcR, Nat.lt_irrefl, Nat.not_lt_zero, List.take_succ_cons, List.take_zero, List.take_nil, D.beqL_self, at_2, at_3, ixN, Nat.reduceLT, Nat.reduceLeDiff, Int.reduceToNat, Int.reduceNeg, Int.reduceSub, Int.reduceAdd, Int.reduceMul, sz_lt, Int.zero_add, mod_int, pr_int, pr_bl, pr_non, pr_str, pr_tup, pr_nil, pr_cons, pr_lst, pr_ints, pr_prs, pr_app, pr_kD, mt_1, mt_2, mt_3, mt_4, mt_5, eq_D, ne_D, eqD_ll, eqD_tt, eqL_ll, eqS_same, eqS_nil, eqS_ints, eqD_ii, eqD_kk, py_app, py_nil, py_cons, py_ints, py_int, py_bl, py_non, py_kD, py_links, py_prs, py_mapi, pr_mapi, pr_linksT]) (by simp) (by simp) (by rfl)
    obtain ⟨i4, rfl, n4⟩ : ∃ i : Int, d4 = .int i ∧ 0 ≤ i := by
      simp only [List.mem_cons, List.not_mem_nil, or_false] at m4
      rcases m4 with rfl | rfl | rfl | rfl | rfl <;> exact ⟨_, rfl, by omega⟩
    obtain ⟨i5, rfl, n5⟩ : ∃ i : Int, d5 = .int i ∧ 0 ≤ i := by
      simp only [List.mem_cons, List.not_mem_nil, or_false] at m5
      rcases m5 with rfl | rfl | rfl | rfl | rfl | rfl | rfl | rfl <;> exact ⟨_, rfl, by omega⟩
    have hl : tw.length < sizeLine := lt_size (by simp at h5; omega)
    simp only [bnd_some, bnd_none, opt_some, opt_none, seqF_next, seqF_brk, seqF_cnt, seqF_ret, ts_nil, ts_cons, out_ret, out_next, ite_t, ite_f, bop_and_t, bop_and_f, bop_or_t, bop_or_f, bb_and_t, bb_and_f, bb_or_t, bb_or_f, slot_0, slot_s, e_con, b_con, e_var, b_var, e_glo, b_glo, e_tup, b_tup, e_lst, b_lst, e_dct, b_dct, e_op, b_op, e_neg, b_neg, e_not, b_not, e_bop, b_bop, e_cmp, b_cmp, e_chn, b_chn, e_ifx, b_ifx, e_ix, b_ix, e_sl, b_sl, e_call, b_call, e_bi, b_bi, e_mxd, b_mxd, e_isi, b_isi, e_isl, b_isl, e_lrg, b_lrg, e_mt, b_mt, e_lc, b_lc, bop_1, bop_2, bb_1, bb_2, es_nil, es_cons, eo_none, eo_some, if_none, if_some, i_ex, i_rng1, i_rng2, i_enm, q_nm, q_tp, q_sb, setK_some, qs_nil, qs_cons, t_asg, t_aug, t_ex, t_ret, t_retN, t_iff, t_fr, t_whl, t_brk, t_cnt, t_pas, con_none, con_bool, con_int, con_str, neg_int, not_bl, int_int, add_int, sub_int, lt_int, le_int, gt_int, ge_int, eq_int, ne_int, is_nn, is_in, is_bb, isn_nn, isn_in, isn_bb, tr_non, tr_bl, tr_int, ty_non, ty_bl, ty_int, ty_tup, ty_ro, isa_int_int, isa_int_bool, isa_int_list, isa_int_tuple, isa_list_list, isa_list_tuple, isa_tuple_list, isa_tuple_tuple, sq_tup, sq_ro, bi_int_int, bi_int_bl, bi_tuple_tup, bi_min, bi_max, bi_len_tup, bi_len_ro, ix_tup, ix_ro, sl_tup, sl_ro, stays_tup, stays_ro, at_0, at_1, gc_ai, gc_aai, gc_aaai, gc_ab, gc_aab, gc_aaab, gc_an, gc_aan, gc_aaan, gc_same, wipe_nil, wipe_cons, sz_0, sz_1, sz_2, sz_3, sz_4, sz_5, sz_6, sz_7, sz_8, sz_9, sz_10, runDef, runFull, Def.full, startD, List.length_cons, List.length_nil, List.map_cons, List.map_nil, List.append_nil, List.nil_append, List.cons_append, List.drop_nil, List.drop_zero, List.set_cons_zero, List.set_cons_succ, List.replicate, if_true, if_false, Bool.not_true, Bool.not_false, Bool.true_or, Bool.false_or, Option.map_some, Option.map_none, Nat.zero_add, Nat.add_zero, Nat.sub_self, Nat.reduceAdd, Nat.reduceSub, ↓reduceIte, Bool.and_true, Bool.true_and, Bool.false_and, Bool.and_false, Int.cast_ofNat_Int, decide_true, decide_false, Int.reduceEq, Int.reduceLT, Int.reduceLE, Bool.false_eq_true, List.append_assoc, List.length_append, lk_app, lk_app0, lk_sapp, lk_sapp0, lk_z, lk_s, st_app, st_app0, st_sapp, st_sapp0, len_set, set_set, sq_lk, ix_lk, sl_lk, len_lk, tuple_lk, list_lk, list_tup, ty_lk, stays_lk, set_lk, add_lk, app_lk, ext_lk, clear_lk, recv_lk, get2_lk, tr_lk, gp_0, gp_1, gp_2, gp_3, gp_4, gp_5, gp_6, gp_7, gp_8, ko_n, ko_s, ko_p, gq_1, gq_2, gq_3, gq_4, gq_5, gq_6, gq_7, gq_8, gq_9, gq_10, gq_11, gq_12, gq_13, gq_14, gq_15, gq_16, gcR, Nat.lt_irrefl, Nat.not_lt_zero, List.take_succ_cons, List.take_zero, List.take_nil, D.beqL_self, at_2, at_3, ixN, Nat.reduceLT, Nat.reduceLeDiff, Int.reduceToNat, Int.reduceNeg, Int.reduceSub, Int.reduceAdd, Int.reduceMul, sz_lt, Int.zero_add, mod_int, pr_int, pr_bl, pr_non, pr_str, pr_tup, pr_nil, pr_cons, pr_lst, pr_ints, pr_prs, pr_app, pr_kD, mt_1, mt_2, mt_3, mt_4, mt_5, eq_D, ne_D, eqD_ll, eqD_tt, eqL_ll, eqS_same, eqS_nil, eqS_ints, eqD_ii, eqD_kk, py_app, py_nil, py_cons, py_ints, py_int, py_bl, py_non, py_kD, py_links, py_prs, py_mapi, pr_mapi, pr_linksT, e3, p20, e4, e5, List.length_map, hl]
    refine ⟨a5, c5, kk + 1 + i4, tw ++ [(kk + 1 + i4, if high < 1 + i5 then high else 1 + i5)], _, _, rfl, ?_, h3.snoc (fun q hq => ?_) ?_, fun p hp => ?_, ?_⟩
    · simp only [List.map_append, List.map_cons, List.map_nil, prD]
    · have := (h4 q hq).1
      show q.1 < kk + 1 + i4
      omega
    · show (1 : Int) ≤ if high < 1 + i5 then high else 1 + i5
      split <;> omega
    · rcases List.mem_append.mp hp with hp | hp
      · have := h4 p hp
        exact ⟨by omega, this.2⟩
      · have e : p = (kk + 1 + i4, if high < 1 + i5 then high else 1 + i5) := by simpa using hp
        rw [e]
        refine ⟨Int.le_refl _, ?_⟩
        show (if high < 1 + i5 then high else 1 + i5) ≤ high
        split <;> omega
    · simp only [List.length_append, List.length_cons, List.length_nil] at h5 ⊢
      omega
end K01

end

section
set_option maxHeartbeats 400000
namespace K01
open PySem PySem.Spec Mi
open L2 (atI ixN Key)
theorem height_of_of (k : Nat) {v : D} {tw : Tws} {S : Store} (hv : IsTw S v tw) {key : Int} : orc defs (k + 5) 11 [v, .int key] S = some (.int (hOf tw key), S) := by
  rw [orc_at (d := d_height_of) rfl]
  simp only [d_height_of, b_height_of, bnd_some, bnd_none, opt_some, opt_none, seqF_next, seqF_brk, seqF_cnt, seqF_ret, ts_nil, ts_cons, out_ret, out_next, ite_t, ite_f, bop_and_t, bop_and_f, bop_or_t, bop_or_f, bb_and_t, bb_and_f, bb_or_t, bb_or_f, slot_0, slot_s, e_con, b_con, e_var, b_var, e_glo, b_glo, e_tup, b_tup, e_lst, b_lst, e_dct, b_dct, e_op, b_op, e_neg, b_neg, e_not, b_not, e_bop, b_bop, e_cmp, b_cmp, e_chn, b_chn, e_ifx, b_ifx, e_ix, b_ix, e_sl, b_sl, e_call, b_call, e_bi, b_bi, e_mxd, b_mxd, e_isi, b_isi, e_isl, b_isl, e_lrg, b_lrg, e_mt, b_mt, e_lc, b_lc, bop_1, bop_2, bb_1, bb_2, es_nil, es_cons, eo_none, eo_some, if_none, if_some, i_ex, i_rng1, i_rng2, i_enm, q_nm, q_tp, q_sb, setK_some, qs_nil, qs_cons, t_asg, t_aug, t_ex, t_ret, t_retN, t_iff, t_fr, t_whl, t_brk, t_cnt, t_pas, con_none, con_bool, con_int, con_str, neg_int, not_bl, int_int, add_int, sub_int, lt_int, le_int, gt_int, ge_int, eq_int, ne_int, is_nn, is_in, is_bb, isn_nn, isn_in, isn_bb, tr_non, tr_bl, tr_int, ty_non, ty_bl, ty_int, ty_tup, ty_ro, isa_int_int, isa_int_bool, isa_int_list, isa_int_tuple, isa_list_list, isa_list_tuple, isa_tuple_list, isa_tuple_tuple, sq_tup, sq_ro, bi_int_int, bi_int_bl, bi_tuple_tup, bi_min, bi_max, bi_len_tup, bi_len_ro, ix_tup, ix_ro, sl_tup, sl_ro, stays_tup, stays_ro, at_0, at_1, gc_ai, gc_aai, gc_aaai, gc_ab, gc_aab, gc_aaab, gc_an, gc_aan, gc_aaan, gc_same, wipe_nil, wipe_cons, sz_0, sz_1, sz_2, sz_3, sz_4, sz_5, sz_6, sz_7, sz_8, sz_9, sz_10, runDef, runFull, Def.full, startD, List.length_cons, List.length_nil, List.map_cons, List.map_nil, List.append_nil, List.nil_append, List.cons_append, List.drop_nil, List.drop_zero, List.set_cons_zero, List.set_cons_succ, List.replicate, if_true, if_false, Bool.not_true, Bool.not_false, Bool.true_or, Bool.false_or, Option.map_some, Option.map_none, Nat.zero_add, Nat.add_zero, Nat.sub_self, Nat.reduceAdd, Nat.reduceSub, ↓reduceIte, Bool.and_true, Bool.true_and, Bool.false_and, Bool.and_false, Int.cast_ofNat_Int, decide_true, decide_false, Int.reduceEq, Int.reduceLT, Int.reduceLE, Bool.false_eq_true, List.append_assoc, List.length_append, lk_app, lk_app0, lk_sapp, lk_sapp0, lk_z, lk_s, st_app, st_app0, st_sapp, st_sapp0, len_set, set_set, sq_lk, ix_lk, sl_lk, len_lk, tuple_lk, list_lk, list_tup, ty_lk, stays_lk, set_lk, add_lk, app_lk, ext_lk, clear_lk, recv_lk, get2_lk, tr_lk, gp_0, gp_1, gp_2, gp_3, gp_4, gp_5, gp_6, gp_7, gp_8, ko_n, ko_s, ko_p, gq_1, gq_2, gq_3, gq_4, gq_5, gq_6, gq_7, gq_8, gq_9, gq_10, gq_11, gq_12, gq_13, gq_14, gq_15, gq_16, gcR, Nat.lt_irrefl, Nat.not_lt_zero, List.take_succ_cons, List.take_zero, List.take_nil, D.beqL_self, at_2, at_3, ixN, Nat.reduceLT, Nat.reduceLeDiff, Int.reduceToNat, Int.reduceNeg, Int.reduceSub, Int.reduceAdd, Int.reduceMul, sz_lt, Int.zero_add, mod_int, pr_int, pr_bl, pr_non, pr_str, pr_tup, pr_nil, pr_cons, pr_lst, pr_ints, pr_prs, pr_app, pr_kD, mt_1, mt_2, mt_3, mt_4, mt_5, eq_D, ne_D, eqD_ll, eqD_tt, eqL_ll, eqS_same, eqS_nil, eqS_ints, eqD_ii, eqD_kk, py_app, py_nil, py_cons, py_ints, py_int, py_bl, py_non, py_kD, py_links, py_prs, py_mapi, pr_mapi, pr_linksT, checked_of k hv, look_key_of (k + 2), dict_prs, key_int, get_dicT hv.fine, pr_dic, pr_dicT hv.fine]
theorem links_of (k : Nat) {v : D} {tw : Tws} {S : Store} (hv : IsTw S v tw) (hh : ∀ p ∈ tw, p.2 ≤ 1000) : orc defs (k + 5) 15 [v] S = some (.loc S.length, S ++ [.lst (linksT tw)]) := by
  rw [orc_at (d := d_links) rfl]
  have h0 := hiT_nn hv.fine
  have h1 := hiT_le (n := 1000) (by decide) hh
  have hl := hv.len
  have er : rngD 1 (hiT tw + 1) = some ⟨(rangeI 1 (hiT tw).toNat).map D.int, fun _ => true⟩ := by
    rw [rng_small (by omega) (by omega) (by omega) (by omega)]; congr 5; omega
  simp only [d_links, b_links, bnd_some, bnd_none, opt_some, opt_none, seqF_next, seqF_brk, seqF_cnt, seqF_ret, ts_nil, ts_cons, out_ret, out_next, ite_t, ite_f, bop_and_t, bop_and_f, bop_or_t, bop_or_f, bb_and_t, bb_and_f, bb_or_t, bb_or_f, slot_0, slot_s, e_con, b_con, e_var, b_var, e_glo, b_glo, e_tup, b_tup, e_lst, b_lst, e_dct, b_dct, e_op, b_op, e_neg, b_neg, e_not, b_not, e_bop, b_bop, e_cmp, b_cmp, e_chn, b_chn, e_ifx, b_ifx, e_ix, b_ix, e_sl, b_sl, e_call, b_call, e_bi, b_bi, e_mxd, b_mxd, e_isi, b_isi, e_isl, b_isl, e_lrg, b_lrg, e_mt, b_mt, e_lc, b_lc, bop_1, bop_2, bb_1, bb_2, es_nil, es_cons, eo_none, eo_some, if_none, if_some, i_ex, i_rng1, i_rng2, i_enm, q_nm, q_tp, q_sb, setK_some, qs_nil, qs_cons, t_asg, t_aug, t_ex, t_ret, t_retN, t_iff, t_fr, t_whl, t_brk, t_cnt, t_pas, con_none, con_bool, con_int, con_str, neg_int, not_bl, int_int, add_int, sub_int, lt_int, le_int, gt_int, ge_int, eq_int, ne_int, is_nn, is_in, is_bb, isn_nn, isn_in, isn_bb, tr_non, tr_bl, tr_int, ty_non, ty_bl, ty_int, ty_tup, ty_ro, isa_int_int, isa_int_bool, isa_int_list, isa_int_tuple, isa_list_list, isa_list_tuple, isa_tuple_list, isa_tuple_tuple, sq_tup, sq_ro, bi_int_int, bi_int_bl, bi_tuple_tup, bi_min, bi_max, bi_len_tup, bi_len_ro, ix_tup, ix_ro, sl_tup, sl_ro, stays_tup, stays_ro, at_0, at_1, gc_ai, gc_aai, gc_aaai, gc_ab, gc_aab, gc_aaab, gc_an, gc_aan, gc_aaan, gc_same, wipe_nil, wipe_cons, sz_0, sz_1, sz_2, sz_3, sz_4, sz_5, sz_6, sz_7, sz_8, sz_9, sz_10, runDef, runFull, Def.full, startD, List.length_cons, List.length_nil, List.map_cons, List.map_nil, List.append_nil, List.nil_append, List.cons_append, List.drop_nil, List.drop_zero, List.set_cons_zero, List.set_cons_succ, List.replicate, if_true, if_false, Bool.not_true, Bool.not_false, Bool.true_or, Bool.false_or, Option.map_some, Option.map_none, Nat.zero_add, Nat.add_zero, Nat.sub_self, Nat.reduceAdd, Nat.reduceSub, ↓reduceIte, Bool.and_true, Bool.true_and, Bool.false_and, Bool.and_false, Int.cast_ofNat_Int, decide_true, decide_false, Int.reduceEq, Int.reduceLT, Int.reduceLE, Bool.false_eq_true, List.append_assoc, List.length_append, lk_app, lk_app0, lk_sapp, lk_sapp0, lk_z, lk_s, st_app, st_app0, st_sapp, st_sapp0, len_set, set_set, sq_lk, ix_lk, sl_lk, len_lk, tuple_lk, list_lk, list_tup, ty_lk, stays_lk, set_lk, add_lk, app_lk, ext_lk, clear_lk, recv_lk, get2_lk, tr_lk, gp_0, gp_1, gp_2, gp_3, gp_4, gp_5, gp_6, gp_7, gp_8, ko_n, ko_s, ko_p, gq_1, gq_2, gq_3, gq_4, gq_5, gq_6, gq_7, gq_8, gq_9, gq_10, gq_11, gq_12, gq_13, gq_14, gq_15, gq_16, gcR, Nat.lt_irrefl, Nat.not_lt_zero, List.take_succ_cons, List.take_zero, List.take_nil, D.beqL_self, at_2, at_3, ixN, Nat.reduceLT, Nat.reduceLeDiff, Int.reduceToNat, Int.reduceNeg, Int.reduceSub, Int.reduceAdd, Int.reduceMul, sz_lt, Int.zero_add, mod_int, pr_int, pr_bl, pr_non, pr_str, pr_tup, pr_nil, pr_cons, pr_lst, pr_ints, pr_prs, pr_app, pr_kD, mt_1, mt_2, mt_3, mt_4, mt_5, eq_D, ne_D, eqD_ll, eqD_tt, eqL_ll, eqS_same, eqS_nil, eqS_ints, eqD_ii, eqD_kk, py_app, py_nil, py_cons, py_ints, py_int, py_bl, py_non, py_kD, py_links, py_prs, py_mapi, pr_mapi, pr_linksT, checked_of k hv, highest_of (k + 3) hv.len, er]
  generalize hX : lcD _ _ _ _ _ _ _ = X
  have e := lc_f (fun l => linkD tw none l) hX rfl (by rw [rangeI_len]; exact le_size (by simp; omega)) (fun l hl => by simp only [bnd_some, bnd_none, opt_some, opt_none, seqF_next, seqF_brk, seqF_cnt, seqF_ret, ts_nil, ts_cons, out_ret, out_next, ite_t, ite_f, bop_and_t, bop_and_f, bop_or_t, bop_or_f, bb_and_t, bb_and_f, bb_or_t, bb_or_f, slot_0, slot_s, e_con, b_con, e_var, b_var, e_glo, b_glo, e_tup, b_tup, e_lst, b_lst, e_dct, b_dct, e_op, b_op, e_neg, b_neg, e_not, b_not, e_bop, b_bop, e_cmp, b_cmp, e_chn, b_chn, e_ifx, b_ifx, e_ix, b_ix, e_sl, b_sl, e_call, b_call, e_bi, b_bi, e_mxd, b_mxd, e_isi, b_isi, e_isl, b_isl, e_lrg, b_lrg, e_mt, b_mt, e_lc, b_lc, bop_1, bop_2, bb_1, bb_2, es_nil, es_cons, eo_none, eo_some, if_none, if_some, i_ex, i_rng1, i_rng2, i_enm, q_nm, q_tp, q_sb, setK_some, qs_nil, qs_cons, t_asg, t_aug, t_ex, t_ret, t_retN, t_iff, t_fr, t_whl, t_brk, t_cnt, t_pas, con_none, con_bool, con_int, con_str, neg_int, not_bl, int_int, add_int, sub_int, lt_int, le_int, gt_int, ge_int, eq_int, ne_int, is_nn, is_in, is_bb, isn_nn, isn_in, isn_bb, tr_non, tr_bl, tr_int, ty_non, ty_bl, ty_int, ty_tup, ty_ro, isa_int_int, isa_int_bool, isa_int_list, isa_int_tuple, isa_list_list, isa_list_tuple, isa_tuple_list, isa_tuple_tuple, sq_tup, sq_ro, bi_int_int, bi_int_bl, bi_tuple_tup, bi_min, bi_max, bi_len_tup, bi_len_ro, ix_tup, ix_ro, sl_tup, sl_ro, stays_tup, stays_ro, at_0, at_1, gc_ai, gc_aai, gc_aaai, gc_ab, gc_aab, gc_aaab, gc_an, gc_aan, gc_aaan, gc_same, wipe_nil, wipe_cons, sz_0, sz_1, sz_2, sz_3, sz_4, sz_5, sz_6, sz_7, sz_8, sz_9, sz_10, runDef, runFull, Def.full, startD, List.length_cons, List.length_nil, List.map_cons, List.map_nil, List.append_nil, List.nil_append, List.cons_append, List.drop_nil, List.drop_zero, List.set_cons_zero, List.set_cons_succ, List.replicate, if_true, if_false, Bool.not_true, Bool.not_false, Bool.true_or, Bool.false_or, Option.map_some, Option.map_none, Nat.zero_add, Nat.add_zero, Nat.sub_self, Nat.reduceAdd, Nat.reduceSub, ↓reduceIte, Bool.and_true, Bool.true_and, Bool.false_and, Bool.and_false, Int.cast_ofNat_Int, decide_true, decide_false, Int.reduceEq, Int.reduceLT, Int.reduceLE, Bool.false_eq_true, List.append_assoc, List.length_append, lk_app, lk_app0, lk_sapp, lk_sapp0, lk_z, lk_s, st_app, st_app0, st_sapp, st_sapp0, len_set, set_set, sq_lk, ix_lk, sl_lk, len_lk, tuple_lk, list_lk, list_tup, ty_lk, stays_lk, set_lk, add_lk, app_lk, ext_lk, clear_lk, recv_lk, get2_lk, tr_lk, gp_0, gp_1, gp_2, gp_3, gp_4, gp_5, gp_6, gp_7, gp_8, ko_n, ko_s, ko_p, gq_1, gq_2, gq_3, gq_4, gq_5, gq_6, gq_7, gq_8, gq_9, gq_10, gq_11, gq_12, gq_13, gq_14, gq_15, gq_16, gcR, Nat.lt_irrefl, Nat.not_lt_zero, List.take_succ_cons, List.take_zero, List.take_nil, D.beqL_self, at_2, at_3, ixN, Nat.reduceLT, Nat.reduceLeDiff, Int.reduceToNat, Int.reduceNeg, Int.reduceSub, Int.reduceAdd, Int.reduceMul, sz_lt, Int.zero_add, mod_int, pr_int, pr_bl, pr_non, pr_str, pr_tup, pr_nil, pr_cons, pr_lst, pr_ints, pr_prs, pr_app, pr_kD, mt_1, mt_2, mt_3, mt_4, mt_5, eq_D, ne_D, eqD_ll, eqD_tt, eqL_ll, eqS_same, eqS_nil, eqS_ints, eqD_ii, eqD_kk, py_app, py_nil, py_cons, py_ints, py_int, py_bl, py_non, py_kD, py_links, py_prs, py_mapi, pr_mapi, pr_linksT, lcS, ite_b, bnd_if, seqF_if, out_if, bopB_and, bopB_or, bopD_and, bopD_or, if_same_bool, if_bf, if_bx, if_xt, show D.non = kD none from rfl, links_from_of (k + 3) hv.len])
  subst e
  clear hX
  simp only [bnd_some, bnd_none, opt_some, opt_none, seqF_next, seqF_brk, seqF_cnt, seqF_ret, ts_nil, ts_cons, out_ret, out_next, ite_t, ite_f, bop_and_t, bop_and_f, bop_or_t, bop_or_f, bb_and_t, bb_and_f, bb_or_t, bb_or_f, slot_0, slot_s, e_con, b_con, e_var, b_var, e_glo, b_glo, e_tup, b_tup, e_lst, b_lst, e_dct, b_dct, e_op, b_op, e_neg, b_neg, e_not, b_not, e_bop, b_bop, e_cmp, b_cmp, e_chn, b_chn, e_ifx, b_ifx, e_ix, b_ix, e_sl, b_sl, e_call, b_call, e_bi, b_bi, e_mxd, b_mxd, e_isi, b_isi, e_isl, b_isl, e_lrg, b_lrg, e_mt, b_mt, e_lc, b_lc, bop_1, bop_2, bb_1, bb_2, es_nil, es_cons, eo_none, eo_some, if_none, if_some, i_ex, i_rng1, i_rng2, i_enm, q_nm, q_tp, q_sb, setK_some, qs_nil, qs_cons, t_asg, t_aug, t_ex, t_ret, t_retN, t_iff, t_fr, t_whl, t_brk, t_cnt, t_pas, con_none, con_bool, con_int, con_str, neg_int, not_bl, int_int, add_int, sub_int, lt_int, le_int, gt_int, ge_int, eq_int, ne_int, is_nn, is_in, is_bb, isn_nn, isn_in, isn_bb, tr_non, tr_bl, tr_int, ty_non, ty_bl, ty_int, ty_tup, ty_ro, isa_int_int, isa_int_bool, isa_int_list, isa_int_tuple, isa_list_list, isa_list_tuple, isa_tuple_list, isa_tuple_tuple, sq_tup, sq_ro, bi_int_int, bi_int_bl, bi_tuple_tup, bi_min, bi_max, bi_len_tup, bi_len_ro, ix_tup, ix_ro, sl_tup, sl_ro, stays_tup, stays_ro, at_0, at_1, gc_ai, gc_aai, gc_aaai, gc_ab, gc_aab, gc_aaab, gc_an, gc_aan, gc_aaan, gc_same, wipe_nil, wipe_cons, sz_0, sz_1, sz_2, sz_3, sz_4, sz_5, sz_6, sz_7, sz_8, sz_9, sz_10, runDef, runFull, Def.full, startD, List.length_cons, List.length_nil, List.map_cons, List.map_nil, List.append_nil, List.nil_append, List.cons_append, List.drop_nil, List.drop_zero, List.set_cons_zero, List.set_cons_succ, List.replicate, if_true, if_false, Bool.not_true, Bool.not_false, Bool.true_or, Bool.false_or, Option.map_some, Option.map_none, Nat.zero_add, Nat.add_zero, Nat.sub_self, Nat.reduceAdd, Nat.reduceSub, ↓reduceIte, Bool.and_true, Bool.true_and, Bool.false_and, Bool.and_false, Int.cast_ofNat_Int, decide_true, decide_false, Int.reduceEq, Int.reduceLT, Int.reduceLE, Bool.false_eq_true, List.append_assoc, List.length_append, lk_app, lk_app0, lk_sapp, lk_sapp0, lk_z, lk_s, st_app, st_app0, st_sapp, st_sapp0, len_set, set_set, sq_lk, ix_lk, sl_lk, len_lk, tuple_lk, list_lk, list_tup, ty_lk, stays_lk, set_lk, add_lk, app_lk, ext_lk, clear_lk, recv_lk, get2_lk, tr_lk, gp_0, gp_1, gp_2, gp_3, gp_4, gp_5, gp_6, gp_7, gp_8, ko_n, ko_s, ko_p, gq_1, gq_2, gq_3, gq_4, gq_5, gq_6, gq_7, gq_8, gq_9, gq_10, gq_11, gq_12, gq_13, gq_14, gq_15, gq_16, gcR, Nat.lt_irrefl, Nat.not_lt_zero, List.take_succ_cons, List.take_zero, List.take_nil, D.beqL_self, at_2, at_3, ixN, Nat.reduceLT, Nat.reduceLeDiff, Int.reduceToNat, Int.reduceNeg, Int.reduceSub, Int.reduceAdd, Int.reduceMul, sz_lt, Int.zero_add, mod_int, pr_int, pr_bl, pr_non, pr_str, pr_tup, pr_nil, pr_cons, pr_lst, pr_ints, pr_prs, pr_app, pr_kD, mt_1, mt_2, mt_3, mt_4, mt_5, eq_D, ne_D, eqD_ll, eqD_tt, eqL_ll, eqS_same, eqS_nil, eqS_ints, eqD_ii, eqD_kk, py_app, py_nil, py_cons, py_ints, py_int, py_bl, py_non, py_kD, py_links, py_prs, py_mapi, pr_mapi, pr_linksT]
  generalize hX : forD _ _ _ _ _ _ = X
  have key := for_E hX (fun n r σ T => ∃ (x y z w : Option D) (acc : List D), σ = [some v, some (.tup (tw.map prD)), some (.loc S.length), x, y, z, w] ∧ T = S ++ [.lst acc] ∧ acc ++ linksR r = linksT tw ∧ tw.drop n = r)
    (fun X => ∃ (x y z w : Option D), X = some (.next [some v, some (.tup (tw.map prD)), some (.loc S.length), x, y, z, w], S ++ [.lst (linksT tw)])) ⟨_, _, _, _, _, rfl, rfl, rfl, rfl⟩ ?_ ?_
  · obtain ⟨x, y, z, w, rfl⟩ := key
    simp only [bnd_some, bnd_none, opt_some, opt_none, seqF_next, seqF_brk, seqF_cnt, seqF_ret, ts_nil, ts_cons, out_ret, out_next, ite_t, ite_f, bop_and_t, bop_and_f, bop_or_t, bop_or_f, bb_and_t, bb_and_f, bb_or_t, bb_or_f, slot_0, slot_s, e_con, b_con, e_var, b_var, e_glo, b_glo, e_tup, b_tup, e_lst, b_lst, e_dct, b_dct, e_op, b_op, e_neg, b_neg, e_not, b_not, e_bop, b_bop, e_cmp, b_cmp, e_chn, b_chn, e_ifx, b_ifx, e_ix, b_ix, e_sl, b_sl, e_call, b_call, e_bi, b_bi, e_mxd, b_mxd, e_isi, b_isi, e_isl, b_isl, e_lrg, b_lrg, e_mt, b_mt, e_lc, b_lc, bop_1, bop_2, bb_1, bb_2, es_nil, es_cons, eo_none, eo_some, if_none, if_some, i_ex, i_rng1, i_rng2, i_enm, q_nm, q_tp, q_sb, setK_some, qs_nil, qs_cons, t_asg, t_aug, t_ex, t_ret, t_retN, t_iff, t_fr, t_whl, t_brk, t_cnt, t_pas, con_none, con_bool, con_int, con_str, neg_int, not_bl, int_int, add_int, sub_int, lt_int, le_int, gt_int, ge_int, eq_int, ne_int, is_nn, is_in, is_bb, isn_nn, isn_in, isn_bb, tr_non, tr_bl, tr_int, ty_non, ty_bl, ty_int, ty_tup, ty_ro, isa_int_int, isa_int_bool, isa_int_list, isa_int_tuple, isa_list_list, isa_list_tuple, isa_tuple_list, isa_tuple_tuple, sq_tup, sq_ro, bi_int_int, bi_int_bl, bi_tuple_tup, bi_min, bi_max, bi_len_tup, bi_len_ro, ix_tup, ix_ro, sl_tup, sl_ro, stays_tup, stays_ro, at_0, at_1, gc_ai, gc_aai, gc_aaai, gc_ab, gc_aab, gc_aaab, gc_an, gc_aan, gc_aaan, gc_same, wipe_nil, wipe_cons, sz_0, sz_1, sz_2, sz_3, sz_4, sz_5, sz_6, sz_7, sz_8, sz_9, sz_10, runDef, runFull, Def.full, startD, List.length_cons, List.length_nil, List.map_cons, List.map_nil, List.append_nil, List.nil_append, List.cons_append, List.drop_nil, List.drop_zero, List.set_cons_zero, List.set_cons_succ, List.replicate, if_true, if_false, Bool.not_true, Bool.not_false, Bool.true_or, Bool.false_or, Option.map_some, Option.map_none, Nat.zero_add, Nat.add_zero, Nat.sub_self, Nat.reduceAdd, Nat.reduceSub, ↓reduceIte, Bool.and_true, Bool.true_and, Bool.false_and, Bool.and_false, Int.cast_ofNat_Int, decide_true, decide_false, Int.reduceEq, Int.reduceLT, Int.reduceLE, Bool.false_eq_true, List.append_assoc, List.length_append, lk_app, lk_app0, lk_sapp, lk_sapp0, lk_z, lk_s, st_app, st_app0, st_sapp, st_sapp0, len_set, set_set, sq_lk, ix_lk, sl_lk, len_lk, tuple_lk, list_lk, list_tup, ty_lk, stays_lk, set_lk, add_lk, app_lk, ext_lk, clear_lk, recv_lk, get2_lk, tr_lk, gp_0, gp_1, gp_2, gp_3, gp_4, gp_5, gp_6, gp_7, gp_8, ko_n, ko_s, ko_p, gq_1, gq_2, gq_3, gq_4, gq_5, gq_6, gq_7, gq_8, gq_9, gq_10, gq_11, gq_12, gq_13, gq_14, gq_15, gq_16, gcR, Nat.lt_irrefl, Nat.not_lt_zero, List.take_succ_cons, List.take_zero, List.take_nil, D.beqL_self, at_2, at_3, ixN, Nat.reduceLT, Nat.reduceLeDiff, Int.reduceToNat, Int.reduceNeg, Int.reduceSub, Int.reduceAdd, Int.reduceMul, sz_lt, Int.zero_add, mod_int, pr_int, pr_bl, pr_non, pr_str, pr_tup, pr_nil, pr_cons, pr_lst, pr_ints, pr_prs, pr_app, pr_kD, mt_1, mt_2, mt_3, mt_4, mt_5, eq_D, ne_D, eqD_ll, eqD_tt, eqL_ll, eqS_same, eqS_nil, eqS_ints, eqD_ii, eqD_kk, py_app, py_nil, py_cons, py_ints, py_int, py_bl, py_non, py_kD, py_links, py_prs, py_mapi, pr_mapi, pr_linksT, pr_linksT]
  · rintro n σ T ⟨x, y, z, w, acc, rfl, rfl, e, -⟩
    exact ⟨rfl, x, y, z, w, by rw [← e, linksR, List.append_nil]⟩
  · clear hX X
    rintro n p r σ T ⟨x, y, z, w, acc, rfl, rfl, e, hd⟩
    refine ⟨rfl, ?_⟩
    have hm : p ∈ tw := List.mem_of_mem_drop (i := n) (by rw [hd]; exact List.mem_cons_self ..)
    have b1 := hh p hm
    have b0 := hv.fine.pos p hm
    have er : rngD 1 (p.2 + 1) = some ⟨(rangeI 1 p.2.toNat).map D.int, fun _ => true⟩ := by
      rw [rng_small (by omega) (by omega) (by omega) (by omega)]; congr 5; omega
    have hr : r.length ≤ 1000 := by
      have : (tw.drop n).length = r.length + 1 := by rw [hd]; rfl
      rw [List.length_drop] at this; omega
    simp only [bnd_some, bnd_none, opt_some, opt_none, seqF_next, seqF_brk, seqF_cnt, seqF_ret, ts_nil, ts_cons, out_ret, out_next, ite_t, ite_f, bop_and_t, bop_and_f, bop_or_t, bop_or_f, bb_and_t, bb_and_f, bb_or_t, bb_or_f, slot_0, slot_s, e_con, b_con, e_var, b_var, e_glo, b_glo, e_tup, b_tup, e_lst, b_lst, e_dct, b_dct, e_op, b_op, e_neg, b_neg, e_not, b_not, e_bop, b_bop, e_cmp, b_cmp, e_chn, b_chn, e_ifx, b_ifx, e_ix, b_ix, e_sl, b_sl, e_call, b_call, e_bi, b_bi, e_mxd, b_mxd, e_isi, b_isi, e_isl, b_isl, e_lrg, b_lrg, e_mt, b_mt, e_lc, b_lc, bop_1, bop_2, bb_1, bb_2, es_nil, es_cons, eo_none, eo_some, if_none, if_some, i_ex, i_rng1, i_rng2, i_enm, q_nm, q_tp, q_sb, setK_some, qs_nil, qs_cons, t_asg, t_aug, t_ex, t_ret, t_retN, t_iff, t_fr, t_whl, t_brk, t_cnt, t_pas, con_none, con_bool, con_int, con_str, neg_int, not_bl, int_int, add_int, sub_int, lt_int, le_int, gt_int, ge_int, eq_int, ne_int, is_nn, is_in, is_bb, isn_nn, isn_in, isn_bb, tr_non, tr_bl, tr_int, ty_non, ty_bl, ty_int, ty_tup, ty_ro, isa_int_int, isa_int_bool, isa_int_list, isa_int_tuple, isa_list_list, isa_list_tuple, isa_tuple_list, isa_tuple_tuple, sq_tup, sq_ro, bi_int_int, bi_int_bl, bi_tuple_tup, bi_min, bi_max, bi_len_tup, bi_len_ro, ix_tup, ix_ro, sl_tup, sl_ro, stays_tup, stays_ro, at_0, at_1, gc_ai, gc_aai, gc_aaai, gc_ab, gc_aab, gc_aaab, gc_an, gc_aan, gc_aaan, gc_same, wipe_nil, wipe_cons, sz_0, sz_1, sz_2, sz_3, sz_4, sz_5, sz_6, sz_7, sz_8, sz_9, sz_10, runDef, runFull, Def.full, startD, List.length_cons, List.length_nil, List.map_cons, List.map_nil, List.append_nil, List.nil_append, List.cons_append, List.drop_nil, List.drop_zero, List.set_cons_zero, List.set_cons_succ, List.replicate, if_true, if_false, Bool.not_true, Bool.not_false, Bool.true_or, Bool.false_or, Option.map_some, Option.map_none, Nat.zero_add, Nat.add_zero, Nat.sub_self, Nat.reduceAdd, Nat.reduceSub, ↓reduceIte, Bool.and_true, Bool.true_and, Bool.false_and, Bool.and_false, Int.cast_ofNat_Int, decide_true, decide_false, Int.reduceEq, Int.reduceLT, Int.reduceLE, Bool.false_eq_true, List.append_assoc, List.length_append, lk_app, lk_app0, lk_sapp, lk_sapp0, lk_z, lk_s, st_app, st_app0, st_sapp, st_sapp0, len_set, set_set, sq_lk, ix_lk, sl_lk, len_lk, tuple_lk, list_lk, list_tup, ty_lk, stays_lk, set_lk, add_lk, app_lk, ext_lk, clear_lk, recv_lk, get2_lk, tr_lk, gp_0, gp_1, gp_2, gp_3, gp_4, gp_5, gp_6, gp_7, gp_8, ko_n, ko_s, ko_p, gq_1, gq_2, gq_3, gq_4, gq_5, gq_6, gq_7, gq_8, gq_9, gq_10, gq_11, gq_12, gq_13, gq_14, gq_15, gq_16, gcR, Nat.lt_irrefl, Nat.not_lt_zero, List.take_succ_cons, List.take_zero, List.take_nil, D.beqL_self, at_2, at_3, ixN, Nat.reduceLT, Nat.reduceLeDiff, Int.reduceToNat, Int.reduceNeg, Int.reduceSub, Int.reduceAdd, Int.reduceMul, sz_lt, Int.zero_add, mod_int, pr_int, pr_bl, pr_non, pr_str, pr_tup, pr_nil, pr_cons, pr_lst, pr_ints, pr_prs, pr_app, pr_kD, mt_1, mt_2, mt_3, mt_4, mt_5, eq_D, ne_D, eqD_ll, eqD_tt, eqL_ll, eqS_same, eqS_nil, eqS_ints, eqD_ii, eqD_kk, py_app, py_nil, py_cons, py_ints, py_int, py_bl, py_non, py_kD, py_links, py_prs, py_mapi, pr_mapi, pr_linksT, prD, er]
    generalize hX : lcD _ _ _ _ _ _ _ = X
    have e2 := lc_f (fun l => linkD r (some p.1) l) hX rfl (by rw [rangeI_len]; exact le_size (by simp; omega)) (fun l hl => by simp only [bnd_some, bnd_none, opt_some, opt_none, seqF_next, seqF_brk, seqF_cnt, seqF_ret, ts_nil, ts_cons, out_ret, out_next, ite_t, ite_f, bop_and_t, bop_and_f, bop_or_t, bop_or_f, bb_and_t, bb_and_f, bb_or_t, bb_or_f, slot_0, slot_s, e_con, b_con, e_var, b_var, e_glo, b_glo, e_tup, b_tup, e_lst, b_lst, e_dct, b_dct, e_op, b_op, e_neg, b_neg, e_not, b_not, e_bop, b_bop, e_cmp, b_cmp, e_chn, b_chn, e_ifx, b_ifx, e_ix, b_ix, e_sl, b_sl, e_call, b_call, e_bi, b_bi, e_mxd, b_mxd, e_isi, b_isi, e_isl, b_isl, e_lrg, b_lrg, e_mt, b_mt, e_lc, b_lc, bop_1, bop_2, bb_1, bb_2, es_nil, es_cons, eo_none, eo_some, if_none, if_some, i_ex, i_rng1, i_rng2, i_enm, q_nm, q_tp, q_sb, setK_some, qs_nil, qs_cons, t_asg, t_aug, t_ex, t_ret, t_retN, t_iff, t_fr, t_whl, t_brk, t_cnt, t_pas, con_none, con_bool, con_int, con_str, neg_int, not_bl, int_int, add_int, sub_int, lt_int, le_int, gt_int, ge_int, eq_int, ne_int, is_nn, is_in, is_bb, isn_nn, isn_in, isn_bb, tr_non, tr_bl, tr_int, ty_non, ty_bl, ty_int, ty_tup, ty_ro, isa_int_int, isa_int_bool, isa_int_list, isa_int_tuple, isa_list_list, isa_list_tuple, isa_tuple_list, isa_tuple_tuple, sq_tup, sq_ro, bi_int_int, bi_int_bl, bi_tuple_tup, bi_min, bi_max, bi_len_tup, bi_len_ro, ix_tup, ix_ro, sl_tup, sl_ro, stays_tup, stays_ro, at_0, at_1, gc_ai, gc_aai, gc_aaai, gc_ab, gc_aab, gc_aaab, gc_an, gc_aan, gc_aaan, gc_same, wipe_nil, wipe_cons, sz_0, sz_1, sz_2, sz_3, sz_4, sz_5, sz_6, sz_7, sz_8, sz_9, sz_10, runDef, runFull, Def.full, startD, List.length_cons, List.length_nil, List.map_cons, List.map_nil, List.append_nil, List.nil_append, List.cons_append, List.drop_nil, List.drop_zero, List.set_cons_zero, List.set_cons_succ, List.replicate, if_true, if_false, Bool.not_true, Bool.not_false, Bool.true_or, Bool.false_or, Option.map_some, Option.map_none, Nat.zero_add, Nat.add_zero, Nat.sub_self, Nat.reduceAdd, Nat.reduceSub, ↓reduceIte, Bool.and_true, Bool.true_and, Bool.false_and, Bool.and_false, Int.cast_ofNat_Int, decide_true, decide_false, Int.reduceEq, Int.reduceLT, Int.reduceLE, Bool.false_eq_true, List.append_assoc, List.length_append, lk_app, lk_app0, lk_sapp, lk_sapp0, lk_z, lk_s, st_app, st_app0, st_sapp, st_sapp0, len_set, set_set, sq_lk, ix_lk, sl_lk, len_lk, tuple_lk, list_lk, list_tup, ty_lk, stays_lk, set_lk, add_lk, app_lk, ext_lk, clear_lk, recv_lk, get2_lk, tr_lk, gp_0, gp_1, gp_2, gp_3, gp_4, gp_5, gp_6, gp_7, gp_8, ko_n, ko_s, ko_p, gq_1, gq_2, gq_3, gq_4, gq_5, gq_6, gq_7, gq_8, gq_9, gq_10, gq_11, gq_12, gq_13, gq_14, gq_15, gq_16, gcR, Nat.lt_irrefl, Nat.not_lt_zero, List.take_succ_cons, List.take_zero, List.take_nil, D.beqL_self, at_2, at_3, ixN, Nat.reduceLT, Nat.reduceLeDiff, Int.reduceToNat, Int.reduceNeg, Int.reduceSub, Int.reduceAdd, Int.reduceMul, sz_lt, Int.zero_add, mod_int, pr_int, pr_bl, pr_non, pr_str, pr_tup, pr_nil, pr_cons, pr_lst, pr_ints, pr_prs, pr_app, pr_kD, mt_1, mt_2, mt_3, mt_4, mt_5, eq_D, ne_D, eqD_ll, eqD_tt, eqL_ll, eqS_same, eqS_nil, eqS_ints, eqD_ii, eqD_kk, py_app, py_nil, py_cons, py_ints, py_int, py_bl, py_non, py_kD, py_links, py_prs, py_mapi, pr_mapi, pr_linksT, lcS, ite_b, bnd_if, seqF_if, out_if, bopB_and, bopB_or, bopD_and, bopD_or, if_same_bool, if_bf, if_bx, if_xt, show D.int p.1 = kD (some p.1) from rfl, cut_prs hd, links_from_of (k + 3) hr])
    subst e2
    have hb := linksT_len hv.fine hv.len hh
    rw [← e, linksR] at hb
    simp only [List.length_append, List.length_map, rangeI_len] at hb
    have hsz : acc.length + p.2.toNat ≤ sizeLine := Nat.le_trans (by omega : _ ≤ 1001000) (by decide)
    have hp : D.pureL acc = true := by
      have := pr_linksT tw
      rw [← e, pr_app, Bool.and_eq_true] at this
      exact this.1
    simp only [bnd_some, bnd_none, opt_some, opt_none, seqF_next, seqF_brk, seqF_cnt, seqF_ret, ts_nil, ts_cons, out_ret, out_next, ite_t, ite_f, bop_and_t, bop_and_f, bop_or_t, bop_or_f, bb_and_t, bb_and_f, bb_or_t, bb_or_f, slot_0, slot_s, e_con, b_con, e_var, b_var, e_glo, b_glo, e_tup, b_tup, e_lst, b_lst, e_dct, b_dct, e_op, b_op, e_neg, b_neg, e_not, b_not, e_bop, b_bop, e_cmp, b_cmp, e_chn, b_chn, e_ifx, b_ifx, e_ix, b_ix, e_sl, b_sl, e_call, b_call, e_bi, b_bi, e_mxd, b_mxd, e_isi, b_isi, e_isl, b_isl, e_lrg, b_lrg, e_mt, b_mt, e_lc, b_lc, bop_1, bop_2, bb_1, bb_2, es_nil, es_cons, eo_none, eo_some, if_none, if_some, i_ex, i_rng1, i_rng2, i_enm, q_nm, q_tp, q_sb, setK_some, qs_nil, qs_cons, t_asg, t_aug, t_ex, t_ret, t_retN, t_iff, t_fr, t_whl, t_brk, t_cnt, t_pas, con_none, con_bool, con_int, con_str, neg_int, not_bl, int_int, add_int, sub_int, lt_int, le_int, gt_int, ge_int, eq_int, ne_int, is_nn, is_in, is_bb, isn_nn, isn_in, isn_bb, tr_non, tr_bl, tr_int, ty_non, ty_bl, ty_int, ty_tup, ty_ro, isa_int_int, isa_int_bool, isa_int_list, isa_int_tuple, isa_list_list, isa_list_tuple, isa_tuple_list, isa_tuple_tuple, sq_tup, sq_ro, bi_int_int, bi_int_bl, bi_tuple_tup, bi_min, bi_max, bi_len_tup, bi_len_ro, ix_tup, ix_ro, sl_tup, sl_ro, stays_tup, stays_ro, at_0, at_1, gc_ai, gc_aai, gc_aaai, gc_ab, gc_aab, gc_aaab, gc_an, gc_aan, gc_aaan, gc_same, wipe_nil, wipe_cons, sz_0, sz_1, sz_2, sz_3, sz_4, sz_5, sz_6, sz_7, sz_8, sz_9, sz_10, runDef, runFull, Def.full, startD, List.length_cons, List.length_nil, List.map_cons, List.map_nil, List.append_nil, List.nil_append, List.cons_append, List.drop_nil, List.drop_zero, List.set_cons_zero, List.set_cons_succ, List.replicate, if_true, if_false, Bool.not_true, Bool.not_false, Bool.true_or, Bool.false_or, Option.map_some, Option.map_none, Nat.zero_add, Nat.add_zero, Nat.sub_self, Nat.reduceAdd, Nat.reduceSub, ↓reduceIte, Bool.and_true, Bool.true_and, Bool.false_and, Bool.and_false, Int.cast_ofNat_Int, decide_true, decide_false, Int.reduceEq, Int.reduceLT, Int.reduceLE, Bool.false_eq_true, List.append_assoc, List.length_append, lk_app, lk_app0, lk_sapp, lk_sapp0, lk_z, lk_s, st_app, st_app0, st_sapp, st_sapp0, len_set, set_set, sq_lk, ix_lk, sl_lk, len_lk, tuple_lk, list_lk, list_tup, ty_lk, stays_lk, set_lk, add_lk, app_lk, ext_lk, clear_lk, recv_lk, get2_lk, tr_lk, gp_0, gp_1, gp_2, gp_3, gp_4, gp_5, gp_6, gp_7, gp_8, ko_n, ko_s, ko_p, gq_1, gq_2, gq_3, gq_4, gq_5, gq_6, gq_7, gq_8, gq_9, gq_10, gq_11, gq_12, gq_13, gq_14, gq_15, gq_16, gcR, Nat.lt_irrefl, Nat.not_lt_zero, List.take_succ_cons, List.take_zero, List.take_nil, D.beqL_self, at_2, at_3, ixN, Nat.reduceLT, Nat.reduceLeDiff, Int.reduceToNat, Int.reduceNeg, Int.reduceSub, Int.reduceAdd, Int.reduceMul, sz_lt, Int.zero_add, mod_int, pr_int, pr_bl, pr_non, pr_str, pr_tup, pr_nil, pr_cons, pr_lst, pr_ints, pr_prs, pr_app, pr_kD, mt_1, mt_2, mt_3, mt_4, mt_5, eq_D, ne_D, eqD_ll, eqD_tt, eqL_ll, eqS_same, eqS_nil, eqS_ints, eqD_ii, eqD_kk, py_app, py_nil, py_cons, py_ints, py_int, py_bl, py_non, py_kD, py_links, py_prs, py_mapi, pr_mapi, pr_linksT, List.length_map, rangeI_len, hsz, pr_links, hp]
    refine ⟨_, _, _, _, _, rfl, rfl, ?_, ?_⟩
    · rw [← e, linksR, List.append_assoc]
    · rw [← List.drop_drop, hd]; rfl
/-! the law's own -/
theorem law_next_key_of (k : Nat) {tw : Tws} {S : Store} {key : Option Int} {l : Int} : orc defs (k + 1) 20 [.tup (tw.map prD), kD key, .int l] S = some (kD (nextK tw key l), S) := by
  rw [orc_at (d := d__law_next_key) rfl]
  simp only [d__law_next_key, b__law_next_key, bnd_some, bnd_none, opt_some, opt_none, seqF_next, seqF_brk, seqF_cnt, seqF_ret, ts_nil, ts_cons, out_ret, out_next, ite_t, ite_f, bop_and_t, bop_and_f, bop_or_t, bop_or_f, bb_and_t, bb_and_f, bb_or_t, bb_or_f, slot_0, slot_s, e_con, b_con, e_var, b_var, e_glo, b_glo, e_tup, b_tup, e_lst, b_lst, e_dct, b_dct, e_op, b_op, e_neg, b_neg, e_not, b_not, e_bop, b_bop, e_cmp, b_cmp, e_chn, b_chn, e_ifx, b_ifx, e_ix, b_ix, e_sl, b_sl, e_call, b_call, e_bi, b_bi, e_mxd, b_mxd, e_isi, b_isi, e_isl, b_isl, e_lrg, b_lrg, e_mt, b_mt, e_lc, b_lc, bop_1, bop_2, bb_1, bb_2, es_nil, es_cons, eo_none, eo_some, if_none, if_some, i_ex, i_rng1, i_rng2, i_enm, q_nm, q_tp, q_sb, setK_some, qs_nil, qs_cons, t_asg, t_aug, t_ex, t_ret, t_retN, t_iff, t_fr, t_whl, t_brk, t_cnt, t_pas, con_none, con_bool, con_int, con_str, neg_int, not_bl, int_int, add_int, sub_int, lt_int, le_int, gt_int, ge_int, eq_int, ne_int, is_nn, is_in, is_bb, isn_nn, isn_in, isn_bb, tr_non, tr_bl, tr_int, ty_non, ty_bl, ty_int, ty_tup, ty_ro, isa_int_int, isa_int_bool, isa_int_list, isa_int_tuple, isa_list_list, isa_list_tuple, isa_tuple_list, isa_tuple_tuple, sq_tup, sq_ro, bi_int_int, bi_int_bl, bi_tuple_tup, bi_min, bi_max, bi_len_tup, bi_len_ro, ix_tup, ix_ro, sl_tup, sl_ro, stays_tup, stays_ro, at_0, at_1, gc_ai, gc_aai, gc_aaai, gc_ab, gc_aab, gc_aaab, gc_an, gc_aan, gc_aaan, gc_same, wipe_nil, wipe_cons, sz_0, sz_1, sz_2, sz_3, sz_4, sz_5, sz_6, sz_7, sz_8, sz_9, sz_10, runDef, runFull, Def.full, startD, List.length_cons, List.length_nil, List.map_cons, List.map_nil, List.append_nil, List.nil_append, List.cons_append, List.drop_nil, List.drop_zero, List.set_cons_zero, List.set_cons_succ, List.replicate, if_true, if_false, Bool.not_true, Bool.not_false, Bool.true_or, Bool.false_or, Option.map_some, Option.map_none, Nat.zero_add, Nat.add_zero, Nat.sub_self, Nat.reduceAdd, Nat.reduceSub, ↓reduceIte, Bool.and_true, Bool.true_and, Bool.false_and, Bool.and_false, Int.cast_ofNat_Int, decide_true, decide_false, Int.reduceEq, Int.reduceLT, Int.reduceLE, Bool.false_eq_true, List.append_assoc, List.length_append, lk_app, lk_app0, lk_sapp, lk_sapp0, lk_z, lk_s, st_app, st_app0, st_sapp, st_sapp0, len_set, set_set, sq_lk, ix_lk, sl_lk, len_lk, tuple_lk, list_lk, list_tup, ty_lk, stays_lk, set_lk, add_lk, app_lk, ext_lk, clear_lk, recv_lk, get2_lk, tr_lk, gp_0, gp_1, gp_2, gp_3, gp_4, gp_5, gp_6, gp_7, gp_8, ko_n, ko_s, ko_p, gq_1, gq_2, gq_3, gq_4, gq_5, gq_6, gq_7, gq_8, gq_9, gq_10, gq_11, gq_12, gq_13, gq_14, gq_15, gq_16, gcR, Nat.lt_irrefl, Nat.not_lt_zero, List.take_succ_cons, List.take_zero, List.take_nil, D.beqL_self, at_2, at_3, ixN, Nat.reduceLT, Nat.reduceLeDiff, Int.reduceToNat, Int.reduceNeg, Int.reduceSub, Int.reduceAdd, Int.reduceMul, sz_lt, Int.zero_add, mod_int, pr_int, pr_bl, pr_non, pr_str, pr_tup, pr_nil, pr_cons, pr_lst, pr_ints, pr_prs, pr_app, pr_kD, mt_1, mt_2, mt_3, mt_4, mt_5, eq_D, ne_D, eqD_ll, eqD_tt, eqL_ll, eqS_same, eqS_nil, eqS_ints, eqD_ii, eqD_kk, py_app, py_nil, py_cons, py_ints, py_int, py_bl, py_non, py_kD, py_links, py_prs, py_mapi, pr_mapi, pr_linksT]
  generalize hX : forD _ _ _ _ _ _ = X
  have key := for_M hX (fun r σ T => ∃ (x y : Option D), σ = [some (.tup (tw.map prD)), some (kD key), some (.int l), x, y] ∧ T = S ∧ nextK r key l = nextK tw key l)
    (fun X => X = some (.ret (kD (nextK tw key l)), S) ∨ ∃ σ, X = some (.next σ, S) ∧ nextK tw key l = none) ⟨_, _, rfl, rfl, rfl⟩ ?_ ?_
  · rcases key with rfl | ⟨σ, rfl, h⟩
    · simp only [bnd_some, bnd_none, opt_some, opt_none, seqF_next, seqF_brk, seqF_cnt, seqF_ret, ts_nil, ts_cons, out_ret, out_next, ite_t, ite_f, bop_and_t, bop_and_f, bop_or_t, bop_or_f, bb_and_t, bb_and_f, bb_or_t, bb_or_f, slot_0, slot_s, e_con, b_con, e_var, b_var, e_glo, b_glo, e_tup, b_tup, e_lst, b_lst, e_dct, b_dct, e_op, b_op, e_neg, b_neg, e_not, b_not, e_bop, b_bop, e_cmp, b_cmp, e_chn, b_chn, e_ifx, b_ifx, e_ix, b_ix, e_sl, b_sl, e_call, b_call, e_bi, b_bi, e_mxd, b_mxd, e_isi, b_isi, e_isl, b_isl, e_lrg, b_lrg, e_mt, b_mt, e_lc, b_lc, bop_1, bop_2, bb_1, bb_2, es_nil, es_cons, eo_none, eo_some, if_none, if_some, i_ex, i_rng1, i_rng2, i_enm, q_nm, q_tp, q_sb, setK_some, qs_nil, qs_cons, t_asg, t_aug, t_ex, t_ret, t_retN, t_iff, t_fr, t_whl, t_brk, t_cnt, t_pas, con_none, con_bool, con_int, con_str, neg_int, not_bl, int_int, add_int, sub_int, lt_int, le_int, gt_int, ge_int, eq_int, ne_int, is_nn, is_in, is_bb, isn_nn, isn_in, isn_bb, tr_non, tr_bl, tr_int, ty_non, ty_bl, ty_int, ty_tup, ty_ro, isa_int_int, isa_int_bool, isa_int_list, isa_int_tuple, isa_list_list, isa_list_tuple, isa_tuple_list, isa_tuple_tuple, sq_tup, sq_ro, bi_int_int, bi_int_bl, bi_tuple_tup, bi_min, bi_max, bi_len_tup, bi_len_ro, ix_tup, ix_ro, sl_tup, sl_ro, stays_tup, stays_ro, at_0, at_1, gc_ai, gc_aai, gc_aaai, gc_ab, gc_aab, gc_aaab, gc_an, gc_aan, gc_aaan, gc_same, wipe_nil, wipe_cons, sz_0, sz_1, sz_2, sz_3, sz_4, sz_5, sz_6, sz_7, sz_8, sz_9, sz_10, runDef, runFull, Def.full, startD, List.length_cons, List.length_nil, List.map_cons, List.map_nil, List.append_nil, List.nil_append, List.cons_append, List.drop_nil, List.drop_zero, List.set_cons_zero, List.set_cons_succ, List.replicate, if_true, if_false, Bool.not_true, Bool.not_false, Bool.true_or, Bool.false_or, Option.map_some, Option.map_none, Nat.zero_add, Nat.add_zero, Nat.sub_self, Nat.reduceAdd, Nat.reduceSub, ↓reduceIte, Bool.and_true, Bool.true_and, Bool.false_and, Bool.and_false, Int.cast_ofNat_Int, decide_true, decide_false, Int.reduceEq, Int.reduceLT, Int.reduceLE, Bool.false_eq_true, List.append_assoc, List.length_append, lk_app, lk_app0, lk_sapp, lk_sapp0, lk_z, lk_s, st_app, st_app0, st_sapp, st_sapp0, len_set, set_set, sq_lk, ix_lk, sl_lk, len_lk, tuple_lk, list_lk, list_tup, ty_lk, stays_lk, set_lk, add_lk, app_lk, ext_lk, clear_lk, recv_lk, get2_lk, tr_lk, gp_0, gp_1, gp_2, gp_3, gp_4, gp_5, gp_6, gp_7, gp_8, ko_n, ko_s, ko_p, gq_1, gq_2, gq_3, gq_4, gq_5, gq_6, gq_7, gq_8, gq_9, gq_10, gq_11, gq_12, gq_13, gq_14, gq_15, gq_16, gcR, Nat.lt_irrefl, Nat.not_lt_zero, List.take_succ_cons, List.take_zero, List.take_nil, D.beqL_self, at_2, at_3, ixN, Nat.reduceLT, Nat.reduceLeDiff, Int.reduceToNat, Int.reduceNeg, Int.reduceSub, Int.reduceAdd, Int.reduceMul, sz_lt, Int.zero_add, mod_int, pr_int, pr_bl, pr_non, pr_str, pr_tup, pr_nil, pr_cons, pr_lst, pr_ints, pr_prs, pr_app, pr_kD, mt_1, mt_2, mt_3, mt_4, mt_5, eq_D, ne_D, eqD_ll, eqD_tt, eqL_ll, eqS_same, eqS_nil, eqS_ints, eqD_ii, eqD_kk, py_app, py_nil, py_cons, py_ints, py_int, py_bl, py_non, py_kD, py_links, py_prs, py_mapi, pr_mapi, pr_linksT]
    · simp only [bnd_some, bnd_none, opt_some, opt_none, seqF_next, seqF_brk, seqF_cnt, seqF_ret, ts_nil, ts_cons, out_ret, out_next, ite_t, ite_f, bop_and_t, bop_and_f, bop_or_t, bop_or_f, bb_and_t, bb_and_f, bb_or_t, bb_or_f, slot_0, slot_s, e_con, b_con, e_var, b_var, e_glo, b_glo, e_tup, b_tup, e_lst, b_lst, e_dct, b_dct, e_op, b_op, e_neg, b_neg, e_not, b_not, e_bop, b_bop, e_cmp, b_cmp, e_chn, b_chn, e_ifx, b_ifx, e_ix, b_ix, e_sl, b_sl, e_call, b_call, e_bi, b_bi, e_mxd, b_mxd, e_isi, b_isi, e_isl, b_isl, e_lrg, b_lrg, e_mt, b_mt, e_lc, b_lc, bop_1, bop_2, bb_1, bb_2, es_nil, es_cons, eo_none, eo_some, if_none, if_some, i_ex, i_rng1, i_rng2, i_enm, q_nm, q_tp, q_sb, setK_some, qs_nil, qs_cons, t_asg, t_aug, t_ex, t_ret, t_retN, t_iff, t_fr, t_whl, t_brk, t_cnt, t_pas, con_none, con_bool, con_int, con_str, neg_int, not_bl, int_int, add_int, sub_int, lt_int, le_int, gt_int, ge_int, eq_int, ne_int, is_nn, is_in, is_bb, isn_nn, isn_in, isn_bb, tr_non, tr_bl, tr_int, ty_non, ty_bl, ty_int, ty_tup, ty_ro, isa_int_int, isa_int_bool, isa_int_list, isa_int_tuple, isa_list_list, isa_list_tuple, isa_tuple_list, isa_tuple_tuple, sq_tup, sq_ro, bi_int_int, bi_int_bl, bi_tuple_tup, bi_min, bi_max, bi_len_tup, bi_len_ro, ix_tup, ix_ro, sl_tup, sl_ro, stays_tup, stays_ro, at_0, at_1, gc_ai, gc_aai, gc_aaai, gc_ab, gc_aab, gc_aaab, gc_an, gc_aan, gc_aaan, gc_same, wipe_nil, wipe_cons, sz_0, sz_1, sz_2, sz_3, sz_4, sz_5, sz_6, sz_7, sz_8, sz_9, sz_10, runDef, runFull, Def.full, startD, List.length_cons, List.length_nil, List.map_cons, List.map_nil, List.append_nil, List.nil_append, List.cons_append, List.drop_nil, List.drop_zero, List.set_cons_zero, List.set_cons_succ, List.replicate, if_true, if_false, Bool.not_true, Bool.not_false, Bool.true_or, Bool.false_or, Option.map_some, Option.map_none, Nat.zero_add, Nat.add_zero, Nat.sub_self, Nat.reduceAdd, Nat.reduceSub, ↓reduceIte, Bool.and_true, Bool.true_and, Bool.false_and, Bool.and_false, Int.cast_ofNat_Int, decide_true, decide_false, Int.reduceEq, Int.reduceLT, Int.reduceLE, Bool.false_eq_true, List.append_assoc, List.length_append, lk_app, lk_app0, lk_sapp, lk_sapp0, lk_z, lk_s, st_app, st_app0, st_sapp, st_sapp0, len_set, set_set, sq_lk, ix_lk, sl_lk, len_lk, tuple_lk, list_lk, list_tup, ty_lk, stays_lk, set_lk, add_lk, app_lk, ext_lk, clear_lk, recv_lk, get2_lk, tr_lk, gp_0, gp_1, gp_2, gp_3, gp_4, gp_5, gp_6, gp_7, gp_8, ko_n, ko_s, ko_p, gq_1, gq_2, gq_3, gq_4, gq_5, gq_6, gq_7, gq_8, gq_9, gq_10, gq_11, gq_12, gq_13, gq_14, gq_15, gq_16, gcR, Nat.lt_irrefl, Nat.not_lt_zero, List.take_succ_cons, List.take_zero, List.take_nil, D.beqL_self, at_2, at_3, ixN, Nat.reduceLT, Nat.reduceLeDiff, Int.reduceToNat, Int.reduceNeg, Int.reduceSub, Int.reduceAdd, Int.reduceMul, sz_lt, Int.zero_add, mod_int, pr_int, pr_bl, pr_non, pr_str, pr_tup, pr_nil, pr_cons, pr_lst, pr_ints, pr_prs, pr_app, pr_kD, mt_1, mt_2, mt_3, mt_4, mt_5, eq_D, ne_D, eqD_ll, eqD_tt, eqL_ll, eqS_same, eqS_nil, eqS_ints, eqD_ii, eqD_kk, py_app, py_nil, py_cons, py_ints, py_int, py_bl, py_non, py_kD, py_links, py_prs, py_mapi, pr_mapi, pr_linksT, h]; rfl
  · rintro σ T ⟨x, y, rfl, rfl, e⟩
    exact ⟨rfl, .inr ⟨_, rfl, e.symm⟩⟩
  · clear hX X
    rintro p r σ T ⟨x, y, rfl, rfl, e⟩
    refine ⟨rfl, ?_⟩
    rw [nextK_cons] at e
    cases key with
    | none =>
      rw [beyond_n] at e
      cases h1 : decide (l ≤ p.2) <;> rw [h1] at e <;> simp only [bnd_some, bnd_none, opt_some, opt_none, seqF_next, seqF_brk, seqF_cnt, seqF_ret, ts_nil, ts_cons, out_ret, out_next, ite_t, ite_f, bop_and_t, bop_and_f, bop_or_t, bop_or_f, bb_and_t, bb_and_f, bb_or_t, bb_or_f, slot_0, slot_s, e_con, b_con, e_var, b_var, e_glo, b_glo, e_tup, b_tup, e_lst, b_lst, e_dct, b_dct, e_op, b_op, e_neg, b_neg, e_not, b_not, e_bop, b_bop, e_cmp, b_cmp, e_chn, b_chn, e_ifx, b_ifx, e_ix, b_ix, e_sl, b_sl, e_call, b_call, e_bi, b_bi, e_mxd, b_mxd, e_isi, b_isi, e_isl, b_isl, e_lrg, b_lrg, e_mt, b_mt, e_lc, b_lc, bop_1, bop_2, bb_1, bb_2, es_nil, es_cons, eo_none, eo_some, if_none, if_some, i_ex, i_rng1, i_rng2, i_enm, q_nm, q_tp, q_sb, setK_some, qs_nil, qs_cons, t_asg, t_aug, t_ex, t_ret, t_retN, t_iff, t_fr, t_whl, t_brk, t_cnt, t_pas, con_none, con_bool, con_int, con_str, neg_int, not_bl, int_int, add_int, sub_int, lt_int, le_int, gt_int, ge_int, eq_int, ne_int, is_nn, is_in, is_bb, isn_nn, isn_in, isn_bb, tr_non, tr_bl, tr_int, ty_non, ty_bl, ty_int, ty_tup, ty_ro, isa_int_int, isa_int_bool, isa_int_list, isa_int_tuple, isa_list_list, isa_list_tuple, isa_tuple_list, isa_tuple_tuple, sq_tup, sq_ro, bi_int_int, bi_int_bl, bi_tuple_tup, bi_min, bi_max, bi_len_tup, bi_len_ro, ix_tup, ix_ro, sl_tup, sl_ro, stays_tup, stays_ro, at_0, at_1, gc_ai, gc_aai, gc_aaai, gc_ab, gc_aab, gc_aaab, gc_an, gc_aan, gc_aaan, gc_same, wipe_nil, wipe_cons, sz_0, sz_1, sz_2, sz_3, sz_4, sz_5, sz_6, sz_7, sz_8, sz_9, sz_10, runDef, runFull, Def.full, startD, List.length_cons, List.length_nil, List.map_cons, List.map_nil, List.append_nil, List.nil_append, List.cons_append, List.drop_nil, List.drop_zero, List.set_cons_zero, List.set_cons_succ, List.replicate, if_true, if_false, Bool.not_true, Bool.not_false, Bool.true_or, Bool.false_or, Option.map_some, Option.map_none, Nat.zero_add, Nat.add_zero, Nat.sub_self, Nat.reduceAdd, Nat.reduceSub, ↓reduceIte, Bool.and_true, Bool.true_and, Bool.false_and, Bool.and_false, Int.cast_ofNat_Int, decide_true, decide_false, Int.reduceEq, Int.reduceLT, Int.reduceLE, Bool.false_eq_true, List.append_assoc, List.length_append, lk_app, lk_app0, lk_sapp, lk_sapp0, lk_z, lk_s, st_app, st_app0, st_sapp, st_sapp0, len_set, set_set, sq_lk, ix_lk, sl_lk, len_lk, tuple_lk, list_lk, list_tup, ty_lk, stays_lk, set_lk, add_lk, app_lk, ext_lk, clear_lk, recv_lk, get2_lk, tr_lk, gp_0, gp_1, gp_2, gp_3, gp_4, gp_5, gp_6, gp_7, gp_8, ko_n, ko_s, ko_p, gq_1, gq_2, gq_3, gq_4, gq_5, gq_6, gq_7, gq_8, gq_9, gq_10, gq_11, gq_12, gq_13, gq_14, gq_15, gq_16, gcR, Nat.lt_irrefl, Nat.not_lt_zero, List.take_succ_cons, List.take_zero, List.take_nil, D.beqL_self, at_2, at_3, ixN, Nat.reduceLT, Nat.reduceLeDiff, Int.reduceToNat, Int.reduceNeg, Int.reduceSub, Int.reduceAdd, Int.reduceMul, sz_lt, Int.zero_add, mod_int, pr_int, pr_bl, pr_non, pr_str, pr_tup, pr_nil, pr_cons, pr_lst, pr_ints, pr_prs, pr_app, pr_kD, mt_1, mt_2, mt_3, mt_4, mt_5, eq_D, ne_D, eqD_ll, eqD_tt, eqL_ll, eqS_same, eqS_nil, eqS_ints, eqD_ii, eqD_kk, py_app, py_nil, py_cons, py_ints, py_int, py_bl, py_non, py_kD, py_links, py_prs, py_mapi, pr_mapi, pr_linksT, prD, h1, kD_n]
      · exact ⟨_, _, rfl, rfl, by simpa using e⟩
      · refine .inl ?_
        rw [← e]; rfl
    | some q =>
      rw [beyond_s] at e
      cases h1 : decide (l ≤ p.2) <;> cases h2 : decide (q < p.1) <;> rw [h1, h2] at e <;> simp only [bnd_some, bnd_none, opt_some, opt_none, seqF_next, seqF_brk, seqF_cnt, seqF_ret, ts_nil, ts_cons, out_ret, out_next, ite_t, ite_f, bop_and_t, bop_and_f, bop_or_t, bop_or_f, bb_and_t, bb_and_f, bb_or_t, bb_or_f, slot_0, slot_s, e_con, b_con, e_var, b_var, e_glo, b_glo, e_tup, b_tup, e_lst, b_lst, e_dct, b_dct, e_op, b_op, e_neg, b_neg, e_not, b_not, e_bop, b_bop, e_cmp, b_cmp, e_chn, b_chn, e_ifx, b_ifx, e_ix, b_ix, e_sl, b_sl, e_call, b_call, e_bi, b_bi, e_mxd, b_mxd, e_isi, b_isi, e_isl, b_isl, e_lrg, b_lrg, e_mt, b_mt, e_lc, b_lc, bop_1, bop_2, bb_1, bb_2, es_nil, es_cons, eo_none, eo_some, if_none, if_some, i_ex, i_rng1, i_rng2, i_enm, q_nm, q_tp, q_sb, setK_some, qs_nil, qs_cons, t_asg, t_aug, t_ex, t_ret, t_retN, t_iff, t_fr, t_whl, t_brk, t_cnt, t_pas, con_none, con_bool, con_int, con_str, neg_int, not_bl, int_int, add_int, sub_int, lt_int, le_int, gt_int, ge_int, eq_int, ne_int, is_nn, is_in, is_bb, isn_nn, isn_in, isn_bb, tr_non, tr_bl, tr_int, ty_non, ty_bl, ty_int, ty_tup, ty_ro, isa_int_int, isa_int_bool, isa_int_list, isa_int_tuple, isa_list_list, isa_list_tuple, isa_tuple_list, isa_tuple_tuple, sq_tup, sq_ro, bi_int_int, bi_int_bl, bi_tuple_tup, bi_min, bi_max, bi_len_tup, bi_len_ro, ix_tup, ix_ro, sl_tup, sl_ro, stays_tup, stays_ro, at_0, at_1, gc_ai, gc_aai, gc_aaai, gc_ab, gc_aab, gc_aaab, gc_an, gc_aan, gc_aaan, gc_same, wipe_nil, wipe_cons, sz_0, sz_1, sz_2, sz_3, sz_4, sz_5, sz_6, sz_7, sz_8, sz_9, sz_10, runDef, runFull, Def.full, startD, List.length_cons, List.length_nil, List.map_cons, List.map_nil, List.append_nil, List.nil_append, List.cons_append, List.drop_nil, List.drop_zero, List.set_cons_zero, List.set_cons_succ, List.replicate, if_true, if_false, Bool.not_true, Bool.not_false, Bool.true_or, Bool.false_or, Option.map_some, Option.map_none, Nat.zero_add, Nat.add_zero, Nat.sub_self, Nat.reduceAdd, Nat.reduceSub, ↓reduceIte, Bool.and_true, Bool.true_and, Bool.false_and, Bool.and_false, Int.cast_ofNat_Int, decide_true, decide_false, Int.reduceEq, Int.reduceLT, Int.reduceLE, Bool.false_eq_true, List.append_assoc, List.length_append, lk_app, lk_app0, lk_sapp, lk_sapp0, lk_z, lk_s, st_app, st_app0, st_sapp, st_sapp0, len_set, set_set, sq_lk, ix_lk, sl_lk, len_lk, tuple_lk, list_lk, list_tup, ty_lk, stays_lk, set_lk, add_lk, app_lk, ext_lk, clear_lk, recv_lk, get2_lk, tr_lk, gp_0, gp_1, gp_2, gp_3, gp_4, gp_5, gp_6, gp_7, gp_8, ko_n, ko_s, ko_p, gq_1, gq_2, gq_3, gq_4, gq_5, gq_6, gq_7, gq_8, gq_9, gq_10, gq_11, gq_12, gq_13, gq_14, gq_15, gq_16, gcR, Nat.lt_irrefl, Nat.not_lt_zero, List.take_succ_cons, List.take_zero, List.take_nil, D.beqL_self, at_2, at_3, ixN, Nat.reduceLT, Nat.reduceLeDiff, Int.reduceToNat, Int.reduceNeg, Int.reduceSub, Int.reduceAdd, Int.reduceMul, sz_lt, Int.zero_add, mod_int, pr_int, pr_bl, pr_non, pr_str, pr_tup, pr_nil, pr_cons, pr_lst, pr_ints, pr_prs, pr_app, pr_kD, mt_1, mt_2, mt_3, mt_4, mt_5, eq_D, ne_D, eqD_ll, eqD_tt, eqL_ll, eqS_same, eqS_nil, eqS_ints, eqD_ii, eqD_kk, py_app, py_nil, py_cons, py_ints, py_int, py_bl, py_non, py_kD, py_links, py_prs, py_mapi, pr_mapi, pr_linksT, prD, h1, h2, kD_s]
      · exact ⟨_, _, rfl, rfl, by simpa using e⟩
      · exact ⟨_, _, rfl, rfl, by simpa using e⟩
      · exact ⟨_, _, rfl, rfl, by simpa using e⟩
      · refine .inl ?_
        rw [← e]; rfl
theorem law_links_of (k : Nat) {tw : Tws} {S : Store} (hf : Fine tw) (hl : tw.length ≤ 1000) (hh : ∀ p ∈ tw, p.2 ≤ 1000) : orc defs (k + 2) 21 [.tup (tw.map prD), .int (hiT tw)] S = some (.loc S.length, S ++ [.lst (linksT tw)]) := by
  rw [orc_at (d := d__law_links) rfl]
  have h0 := hiT_nn hf
  have h1 := hiT_le (n := 1000) (by decide) hh
  have er : rngD 1 (hiT tw + 1) = some ⟨(rangeI 1 (hiT tw).toNat).map D.int, fun _ => true⟩ := by
    rw [rng_small (by omega) (by omega) (by omega) (by omega)]; congr 5; omega
  simp only [d__law_links, b__law_links, bnd_some, bnd_none, opt_some, opt_none, seqF_next, seqF_brk, seqF_cnt, seqF_ret, ts_nil, ts_cons, out_ret, out_next, ite_t, ite_f, bop_and_t, bop_and_f, bop_or_t, bop_or_f, bb_and_t, bb_and_f, bb_or_t, bb_or_f, slot_0, slot_s, e_con, b_con, e_var, b_var, e_glo, b_glo, e_tup, b_tup, e_lst, b_lst, e_dct, b_dct, e_op, b_op, e_neg, b_neg, e_not, b_not, e_bop, b_bop, e_cmp, b_cmp, e_chn, b_chn, e_ifx, b_ifx, e_ix, b_ix, e_sl, b_sl, e_call, b_call, e_bi, b_bi, e_mxd, b_mxd, e_isi, b_isi, e_isl, b_isl, e_lrg, b_lrg, e_mt, b_mt, e_lc, b_lc, bop_1, bop_2, bb_1, bb_2, es_nil, es_cons, eo_none, eo_some, if_none, if_some, i_ex, i_rng1, i_rng2, i_enm, q_nm, q_tp, q_sb, setK_some, qs_nil, qs_cons, t_asg, t_aug, t_ex, t_ret, t_retN, t_iff, t_fr, t_whl, t_brk, t_cnt, t_pas, con_none, con_bool, con_int, con_str, neg_int, not_bl, int_int, add_int, sub_int, lt_int, le_int, gt_int, ge_int, eq_int, ne_int, is_nn, is_in, is_bb, isn_nn, isn_in, isn_bb, tr_non, tr_bl, tr_int, ty_non, ty_bl, ty_int, ty_tup, ty_ro, isa_int_int, isa_int_bool, isa_int_list, isa_int_tuple, isa_list_list, isa_list_tuple, isa_tuple_list, isa_tuple_tuple, sq_tup, sq_ro, bi_int_int, bi_int_bl, bi_tuple_tup, bi_min, bi_max, bi_len_tup, bi_len_ro, ix_tup, ix_ro, sl_tup, sl_ro, stays_tup, stays_ro, at_0, at_1, gc_ai, gc_aai, gc_aaai, gc_ab, gc_aab, gc_aaab, gc_an, gc_aan, gc_aaan, gc_same, wipe_nil, wipe_cons, sz_0, sz_1, sz_2, sz_3, sz_4, sz_5, sz_6, sz_7, sz_8, sz_9, sz_10, runDef, runFull, Def.full, startD, List.length_cons, List.length_nil, List.map_cons, List.map_nil, List.append_nil, List.nil_append, List.cons_append, List.drop_nil, List.drop_zero, List.set_cons_zero, List.set_cons_succ, List.replicate, if_true, if_false, Bool.not_true, Bool.not_false, Bool.true_or, Bool.false_or, Option.map_some, Option.map_none, Nat.zero_add, Nat.add_zero, Nat.sub_self, Nat.reduceAdd, Nat.reduceSub, ↓reduceIte, Bool.and_true, Bool.true_and, Bool.false_and, Bool.and_false, Int.cast_ofNat_Int, decide_true, decide_false, Int.reduceEq, Int.reduceLT, Int.reduceLE, Bool.false_eq_true, List.append_assoc, List.length_append, lk_app, lk_app0, lk_sapp, lk_sapp0, lk_z, lk_s, st_app, st_app0, st_sapp, st_sapp0, len_set, set_set, sq_lk, ix_lk, sl_lk, len_lk, tuple_lk, list_lk, list_tup, ty_lk, stays_lk, set_lk, add_lk, app_lk, ext_lk, clear_lk, recv_lk, get2_lk, tr_lk, gp_0, gp_1, gp_2, gp_3, gp_4, gp_5, gp_6, gp_7, gp_8, ko_n, ko_s, ko_p, gq_1, gq_2, gq_3, gq_4, gq_5, gq_6, gq_7, gq_8, gq_9, gq_10, gq_11, gq_12, gq_13, gq_14, gq_15, gq_16, gcR, Nat.lt_irrefl, Nat.not_lt_zero, List.take_succ_cons, List.take_zero, List.take_nil, D.beqL_self, at_2, at_3, ixN, Nat.reduceLT, Nat.reduceLeDiff, Int.reduceToNat, Int.reduceNeg, Int.reduceSub, Int.reduceAdd, Int.reduceMul, sz_lt, Int.zero_add, mod_int, pr_int, pr_bl, pr_non, pr_str, pr_tup, pr_nil, pr_cons, pr_lst, pr_ints, pr_prs, pr_app, pr_kD, mt_1, mt_2, mt_3, mt_4, mt_5, eq_D, ne_D, eqD_ll, eqD_tt, eqL_ll, eqS_same, eqS_nil, eqS_ints, eqD_ii, eqD_kk, py_app, py_nil, py_cons, py_ints, py_int, py_bl, py_non, py_kD, py_links, py_prs, py_mapi, pr_mapi, pr_linksT, er]
  generalize hX : lcD _ _ _ _ _ _ _ = X
  have e := lc_f (fun l => linkD tw none l) hX rfl (by rw [rangeI_len]; exact le_size (by simp; omega)) (fun l hl => by simp only [bnd_some, bnd_none, opt_some, opt_none, seqF_next, seqF_brk, seqF_cnt, seqF_ret, ts_nil, ts_cons, out_ret, out_next, ite_t, ite_f, bop_and_t, bop_and_f, bop_or_t, bop_or_f, bb_and_t, bb_and_f, bb_or_t, bb_or_f, slot_0, slot_s, e_con, b_con, e_var, b_var, e_glo, b_glo, e_tup, b_tup, e_lst, b_lst, e_dct, b_dct, e_op, b_op, e_neg, b_neg, e_not, b_not, e_bop, b_bop, e_cmp, b_cmp, e_chn, b_chn, e_ifx, b_ifx, e_ix, b_ix, e_sl, b_sl, e_call, b_call, e_bi, b_bi, e_mxd, b_mxd, e_isi, b_isi, e_isl, b_isl, e_lrg, b_lrg, e_mt, b_mt, e_lc, b_lc, bop_1, bop_2, bb_1, bb_2, es_nil, es_cons, eo_none, eo_some, if_none, if_some, i_ex, i_rng1, i_rng2, i_enm, q_nm, q_tp, q_sb, setK_some, qs_nil, qs_cons, t_asg, t_aug, t_ex, t_ret, t_retN, t_iff, t_fr, t_whl, t_brk, t_cnt, t_pas, con_none, con_bool, con_int, con_str, neg_int, not_bl, int_int, add_int, sub_int, lt_int, le_int, gt_int, ge_int, eq_int, ne_int, is_nn, is_in, is_bb, isn_nn, isn_in, isn_bb, tr_non, tr_bl, tr_int, ty_non, ty_bl, ty_int, ty_tup, ty_ro, isa_int_int, isa_int_bool, isa_int_list, isa_int_tuple, isa_list_list, isa_list_tuple, isa_tuple_list, isa_tuple_tuple, sq_tup, sq_ro, bi_int_int, bi_int_bl, bi_tuple_tup, bi_min, bi_max, bi_len_tup, bi_len_ro, ix_tup, ix_ro, sl_tup, sl_ro, stays_tup, stays_ro, at_0, at_1, gc_ai, gc_aai, gc_aaai, gc_ab, gc_aab, gc_aaab, gc_an, gc_aan, gc_aaan, gc_same, wipe_nil, wipe_cons, sz_0, sz_1, sz_2, sz_3, sz_4, sz_5, sz_6, sz_7, sz_8, sz_9, sz_10, runDef, runFull, Def.full, startD, List.length_cons, List.length_nil, List.map_cons, List.map_nil, List.append_nil, List.nil_append, List.cons_append, List.drop_nil, List.drop_zero, List.set_cons_zero, List.set_cons_succ, List.replicate, if_true, if_false, Bool.not_true, Bool.not_false, Bool.true_or, Bool.false_or, Option.map_some, Option.map_none, Nat.zero_add, Nat.add_zero, Nat.sub_self, Nat.reduceAdd, Nat.reduceSub, ↓reduceIte, Bool.and_true, Bool.true_and, Bool.false_and, Bool.and_false, Int.cast_ofNat_Int, decide_true, decide_false, Int.reduceEq, Int.reduceLT, Int.reduceLE, Bool.false_eq_true, List.append_assoc, List.length_append, lk_app, lk_app0, lk_sapp, lk_sapp0, lk_z, lk_s, st_app, st_app0, st_sapp, st_sapp0, len_set, set_set, sq_lk, ix_lk, sl_lk, len_lk, tuple_lk, list_lk, list_tup, ty_lk, stays_lk, set_lk, add_lk, app_lk, ext_lk, clear_lk, recv_lk, get2_lk, tr_lk, gp_0, gp_1, gp_2, gp_3, gp_4, gp_5, gp_6, gp_7, gp_8, ko_n, ko_s, ko_p, gq_1, gq_2, gq_3, gq_4, gq_5, gq_6, gq_7, gq_8, gq_9, gq_10, gq_11, gq_12, gq_13, gq_14, gq_15, gq_16, gcR, Nat.lt_irrefl, Nat.not_lt_zero, List.take_succ_cons, List.take_zero, List.take_nil, D.beqL_self, at_2, at_3, ixN, Nat.reduceLT, Nat.reduceLeDiff, Int.reduceToNat, Int.reduceNeg, Int.reduceSub, Int.reduceAdd, Int.reduceMul, sz_lt, Int.zero_add, mod_int, pr_int, pr_bl, pr_non, pr_str, pr_tup, pr_nil, pr_cons, pr_lst, pr_ints, pr_prs, pr_app, pr_kD, mt_1, mt_2, mt_3, mt_4, mt_5, eq_D, ne_D, eqD_ll, eqD_tt, eqL_ll, eqS_same, eqS_nil, eqS_ints, eqD_ii, eqD_kk, py_app, py_nil, py_cons, py_ints, py_int, py_bl, py_non, py_kD, py_links, py_prs, py_mapi, pr_mapi, pr_linksT, lcS, ite_b, bnd_if, seqF_if, out_if, bopB_and, bopB_or, bopD_and, bopD_or, if_same_bool, if_bf, if_bx, if_xt, law_next_key_of k (key := none), show D.non = kD none from rfl, nextK_none]; rfl)
  subst e
  clear hX
  simp only [bnd_some, bnd_none, opt_some, opt_none, seqF_next, seqF_brk, seqF_cnt, seqF_ret, ts_nil, ts_cons, out_ret, out_next, ite_t, ite_f, bop_and_t, bop_and_f, bop_or_t, bop_or_f, bb_and_t, bb_and_f, bb_or_t, bb_or_f, slot_0, slot_s, e_con, b_con, e_var, b_var, e_glo, b_glo, e_tup, b_tup, e_lst, b_lst, e_dct, b_dct, e_op, b_op, e_neg, b_neg, e_not, b_not, e_bop, b_bop, e_cmp, b_cmp, e_chn, b_chn, e_ifx, b_ifx, e_ix, b_ix, e_sl, b_sl, e_call, b_call, e_bi, b_bi, e_mxd, b_mxd, e_isi, b_isi, e_isl, b_isl, e_lrg, b_lrg, e_mt, b_mt, e_lc, b_lc, bop_1, bop_2, bb_1, bb_2, es_nil, es_cons, eo_none, eo_some, if_none, if_some, i_ex, i_rng1, i_rng2, i_enm, q_nm, q_tp, q_sb, setK_some, qs_nil, qs_cons, t_asg, t_aug, t_ex, t_ret, t_retN, t_iff, t_fr, t_whl, t_brk, t_cnt, t_pas, con_none, con_bool, con_int, con_str, neg_int, not_bl, int_int, add_int, sub_int, lt_int, le_int, gt_int, ge_int, eq_int, ne_int, is_nn, is_in, is_bb, isn_nn, isn_in, isn_bb, tr_non, tr_bl, tr_int, ty_non, ty_bl, ty_int, ty_tup, ty_ro, isa_int_int, isa_int_bool, isa_int_list, isa_int_tuple, isa_list_list, isa_list_tuple, isa_tuple_list, isa_tuple_tuple, sq_tup, sq_ro, bi_int_int, bi_int_bl, bi_tuple_tup, bi_min, bi_max, bi_len_tup, bi_len_ro, ix_tup, ix_ro, sl_tup, sl_ro, stays_tup, stays_ro, at_0, at_1, gc_ai, gc_aai, gc_aaai, gc_ab, gc_aab, gc_aaab, gc_an, gc_aan, gc_aaan, gc_same, wipe_nil, wipe_cons, sz_0, sz_1, sz_2, sz_3, sz_4, sz_5, sz_6, sz_7, sz_8, sz_9, sz_10, runDef, runFull, Def.full, startD, List.length_cons, List.length_nil, List.map_cons, List.map_nil, List.append_nil, List.nil_append, List.cons_append, List.drop_nil, List.drop_zero, List.set_cons_zero, List.set_cons_succ, List.replicate, if_true, if_false, Bool.not_true, Bool.not_false, Bool.true_or, Bool.false_or, Option.map_some, Option.map_none, Nat.zero_add, Nat.add_zero, Nat.sub_self, Nat.reduceAdd, Nat.reduceSub, ↓reduceIte, Bool.and_true, Bool.true_and, Bool.false_and, Bool.and_false, Int.cast_ofNat_Int, decide_true, decide_false, Int.reduceEq, Int.reduceLT, Int.reduceLE, Bool.false_eq_true, List.append_assoc, List.length_append, lk_app, lk_app0, lk_sapp, lk_sapp0, lk_z, lk_s, st_app, st_app0, st_sapp, st_sapp0, len_set, set_set, sq_lk, ix_lk, sl_lk, len_lk, tuple_lk, list_lk, list_tup, ty_lk, stays_lk, set_lk, add_lk, app_lk, ext_lk, clear_lk, recv_lk, get2_lk, tr_lk, gp_0, gp_1, gp_2, gp_3, gp_4, gp_5, gp_6, gp_7, gp_8, ko_n, ko_s, ko_p, gq_1, gq_2, gq_3, gq_4, gq_5, gq_6, gq_7, gq_8, gq_9, gq_10, gq_11, gq_12, gq_13, gq_14, gq_15, gq_16, gcR, Nat.lt_irrefl, Nat.not_lt_zero, List.take_succ_cons, List.take_zero, List.take_nil, D.beqL_self, at_2, at_3, ixN, Nat.reduceLT, Nat.reduceLeDiff, Int.reduceToNat, Int.reduceNeg, Int.reduceSub, Int.reduceAdd, Int.reduceMul, sz_lt, Int.zero_add, mod_int, pr_int, pr_bl, pr_non, pr_str, pr_tup, pr_nil, pr_cons, pr_lst, pr_ints, pr_prs, pr_app, pr_kD, mt_1, mt_2, mt_3, mt_4, mt_5, eq_D, ne_D, eqD_ll, eqD_tt, eqL_ll, eqS_same, eqS_nil, eqS_ints, eqD_ii, eqD_kk, py_app, py_nil, py_cons, py_ints, py_int, py_bl, py_non, py_kD, py_links, py_prs, py_mapi, pr_mapi, pr_linksT]
  generalize hX : forD _ _ _ _ _ _ = X
  have key := for_M hX (fun r σ T => ∃ (x y z : Option D) (acc : List D) (pre : Tws), σ = [some (.tup (tw.map prD)), some (.int (hiT tw)), x, some (.loc S.length), y, z] ∧ T = S ++ [.lst acc] ∧ acc ++ linksR r = linksT tw ∧ tw = pre ++ r)
    (fun X => ∃ (x y z : Option D), X = some (.next [some (.tup (tw.map prD)), some (.int (hiT tw)), x, some (.loc S.length), y, z], S ++ [.lst (linksT tw)])) ⟨_, _, _, _, [], rfl, rfl, rfl, rfl⟩ ?_ ?_
  · obtain ⟨x, y, z, rfl⟩ := key
    simp only [bnd_some, bnd_none, opt_some, opt_none, seqF_next, seqF_brk, seqF_cnt, seqF_ret, ts_nil, ts_cons, out_ret, out_next, ite_t, ite_f, bop_and_t, bop_and_f, bop_or_t, bop_or_f, bb_and_t, bb_and_f, bb_or_t, bb_or_f, slot_0, slot_s, e_con, b_con, e_var, b_var, e_glo, b_glo, e_tup, b_tup, e_lst, b_lst, e_dct, b_dct, e_op, b_op, e_neg, b_neg, e_not, b_not, e_bop, b_bop, e_cmp, b_cmp, e_chn, b_chn, e_ifx, b_ifx, e_ix, b_ix, e_sl, b_sl, e_call, b_call, e_bi, b_bi, e_mxd, b_mxd, e_isi, b_isi, e_isl, b_isl, e_lrg, b_lrg, e_mt, b_mt, e_lc, b_lc, bop_1, bop_2, bb_1, bb_2, es_nil, es_cons, eo_none, eo_some, if_none, if_some, i_ex, i_rng1, i_rng2, i_enm, q_nm, q_tp, q_sb, setK_some, qs_nil, qs_cons, t_asg, t_aug, t_ex, t_ret, t_retN, t_iff, t_fr, t_whl, t_brk, t_cnt, t_pas, con_none, con_bool, con_int, con_str, neg_int, not_bl, int_int, add_int, sub_int, lt_int, le_int, gt_int, ge_int, eq_int, ne_int, is_nn, is_in, is_bb, isn_nn, isn_in, isn_bb, tr_non, tr_bl, tr_int, ty_non, ty_bl, ty_int, ty_tup, ty_ro, isa_int_int, isa_int_bool, isa_int_list, isa_int_tuple, isa_list_list, isa_list_tuple, isa_tuple_list, isa_tuple_tuple, sq_tup, sq_ro, bi_int_int, bi_int_bl, bi_tuple_tup, bi_min, bi_max, bi_len_tup, bi_len_ro, ix_tup, ix_ro, sl_tup, sl_ro, stays_tup, stays_ro, at_0, at_1, gc_ai, gc_aai, gc_aaai, gc_ab, gc_aab, gc_aaab, gc_an, gc_aan, gc_aaan, gc_same, wipe_nil, wipe_cons, sz_0, sz_1, sz_2, sz_3, sz_4, sz_5, sz_6, sz_7, sz_8, sz_9, sz_10, runDef, runFull, Def.full, startD, List.length_cons, List.length_nil, List.map_cons, List.map_nil, List.append_nil, List.nil_append, List.cons_append, List.drop_nil, List.drop_zero, List.set_cons_zero, List.set_cons_succ, List.replicate, if_true, if_false, Bool.not_true, Bool.not_false, Bool.true_or, Bool.false_or, Option.map_some, Option.map_none, Nat.zero_add, Nat.add_zero, Nat.sub_self, Nat.reduceAdd, Nat.reduceSub, ↓reduceIte, Bool.and_true, Bool.true_and, Bool.false_and, Bool.and_false, Int.cast_ofNat_Int, decide_true, decide_false, Int.reduceEq, Int.reduceLT, Int.reduceLE, Bool.false_eq_true, List.append_assoc, List.length_append, lk_app, lk_app0, lk_sapp, lk_sapp0, lk_z, lk_s, st_app, st_app0, st_sapp, st_sapp0, len_set, set_set, sq_lk, ix_lk, sl_lk, len_lk, tuple_lk, list_lk, list_tup, ty_lk, stays_lk, set_lk, add_lk, app_lk, ext_lk, clear_lk, recv_lk, get2_lk, tr_lk, gp_0, gp_1, gp_2, gp_3, gp_4, gp_5, gp_6, gp_7, gp_8, ko_n, ko_s, ko_p, gq_1, gq_2, gq_3, gq_4, gq_5, gq_6, gq_7, gq_8, gq_9, gq_10, gq_11, gq_12, gq_13, gq_14, gq_15, gq_16, gcR, Nat.lt_irrefl, Nat.not_lt_zero, List.take_succ_cons, List.take_zero, List.take_nil, D.beqL_self, at_2, at_3, ixN, Nat.reduceLT, Nat.reduceLeDiff, Int.reduceToNat, Int.reduceNeg, Int.reduceSub, Int.reduceAdd, Int.reduceMul, sz_lt, Int.zero_add, mod_int, pr_int, pr_bl, pr_non, pr_str, pr_tup, pr_nil, pr_cons, pr_lst, pr_ints, pr_prs, pr_app, pr_kD, mt_1, mt_2, mt_3, mt_4, mt_5, eq_D, ne_D, eqD_ll, eqD_tt, eqL_ll, eqS_same, eqS_nil, eqS_ints, eqD_ii, eqD_kk, py_app, py_nil, py_cons, py_ints, py_int, py_bl, py_non, py_kD, py_links, py_prs, py_mapi, pr_mapi, pr_linksT, pr_linksT]
  · rintro σ T ⟨x, y, z, acc, pre, rfl, rfl, e, -⟩
    exact ⟨rfl, x, y, z, by rw [← e, linksR, List.append_nil]⟩
  · clear hX X
    rintro p r σ T ⟨x, y, z, acc, pre, rfl, rfl, e, hd⟩
    refine ⟨rfl, ?_⟩
    have hm : p ∈ tw := by rw [hd]; simp
    have b1 := hh p hm
    have b0 := hf.pos p hm
    have er : rngD 1 (p.2 + 1) = some ⟨(rangeI 1 p.2.toNat).map D.int, fun _ => true⟩ := by
      rw [rng_small (by omega) (by omega) (by omega) (by omega)]; congr 5; omega
    have hp : D.pureL acc = true := by
      have := pr_linksT tw
      rw [← e, pr_app, Bool.and_eq_true] at this
      exact this.1
    have hb := linksT_len hf hl hh
    rw [← e, linksR] at hb
    simp only [List.length_append, List.length_map, rangeI_len] at hb
    simp only [bnd_some, bnd_none, opt_some, opt_none, seqF_next, seqF_brk, seqF_cnt, seqF_ret, ts_nil, ts_cons, out_ret, out_next, ite_t, ite_f, bop_and_t, bop_and_f, bop_or_t, bop_or_f, bb_and_t, bb_and_f, bb_or_t, bb_or_f, slot_0, slot_s, e_con, b_con, e_var, b_var, e_glo, b_glo, e_tup, b_tup, e_lst, b_lst, e_dct, b_dct, e_op, b_op, e_neg, b_neg, e_not, b_not, e_bop, b_bop, e_cmp, b_cmp, e_chn, b_chn, e_ifx, b_ifx, e_ix, b_ix, e_sl, b_sl, e_call, b_call, e_bi, b_bi, e_mxd, b_mxd, e_isi, b_isi, e_isl, b_isl, e_lrg, b_lrg, e_mt, b_mt, e_lc, b_lc, bop_1, bop_2, bb_1, bb_2, es_nil, es_cons, eo_none, eo_some, if_none, if_some, i_ex, i_rng1, i_rng2, i_enm, q_nm, q_tp, q_sb, setK_some, qs_nil, qs_cons, t_asg, t_aug, t_ex, t_ret, t_retN, t_iff, t_fr, t_whl, t_brk, t_cnt, t_pas, con_none, con_bool, con_int, con_str, neg_int, not_bl, int_int, add_int, sub_int, lt_int, le_int, gt_int, ge_int, eq_int, ne_int, is_nn, is_in, is_bb, isn_nn, isn_in, isn_bb, tr_non, tr_bl, tr_int, ty_non, ty_bl, ty_int, ty_tup, ty_ro, isa_int_int, isa_int_bool, isa_int_list, isa_int_tuple, isa_list_list, isa_list_tuple, isa_tuple_list, isa_tuple_tuple, sq_tup, sq_ro, bi_int_int, bi_int_bl, bi_tuple_tup, bi_min, bi_max, bi_len_tup, bi_len_ro, ix_tup, ix_ro, sl_tup, sl_ro, stays_tup, stays_ro, at_0, at_1, gc_ai, gc_aai, gc_aaai, gc_ab, gc_aab, gc_aaab, gc_an, gc_aan, gc_aaan, gc_same, wipe_nil, wipe_cons, sz_0, sz_1, sz_2, sz_3, sz_4, sz_5, sz_6, sz_7, sz_8, sz_9, sz_10, runDef, runFull, Def.full, startD, List.length_cons, List.length_nil, List.map_cons, List.map_nil, List.append_nil, List.nil_append, List.cons_append, List.drop_nil, List.drop_zero, List.set_cons_zero, List.set_cons_succ, List.replicate, if_true, if_false, Bool.not_true, Bool.not_false, Bool.true_or, Bool.false_or, Option.map_some, Option.map_none, Nat.zero_add, Nat.add_zero, Nat.sub_self, Nat.reduceAdd, Nat.reduceSub, ↓reduceIte, Bool.and_true, Bool.true_and, Bool.false_and, Bool.and_false, Int.cast_ofNat_Int, decide_true, decide_false, Int.reduceEq, Int.reduceLT, Int.reduceLE, Bool.false_eq_true, List.append_assoc, List.length_append, lk_app, lk_app0, lk_sapp, lk_sapp0, lk_z, lk_s, st_app, st_app0, st_sapp, st_sapp0, len_set, set_set, sq_lk, ix_lk, sl_lk, len_lk, tuple_lk, list_lk, list_tup, ty_lk, stays_lk, set_lk, add_lk, app_lk, ext_lk, clear_lk, recv_lk, get2_lk, tr_lk, gp_0, gp_1, gp_2, gp_3, gp_4, gp_5, gp_6, gp_7, gp_8, ko_n, ko_s, ko_p, gq_1, gq_2, gq_3, gq_4, gq_5, gq_6, gq_7, gq_8, gq_9, gq_10, gq_11, gq_12, gq_13, gq_14, gq_15, gq_16, gcR, Nat.lt_irrefl, Nat.not_lt_zero, List.take_succ_cons, List.take_zero, List.take_nil, D.beqL_self, at_2, at_3, ixN, Nat.reduceLT, Nat.reduceLeDiff, Int.reduceToNat, Int.reduceNeg, Int.reduceSub, Int.reduceAdd, Int.reduceMul, sz_lt, Int.zero_add, mod_int, pr_int, pr_bl, pr_non, pr_str, pr_tup, pr_nil, pr_cons, pr_lst, pr_ints, pr_prs, pr_app, pr_kD, mt_1, mt_2, mt_3, mt_4, mt_5, eq_D, ne_D, eqD_ll, eqD_tt, eqL_ll, eqS_same, eqS_nil, eqS_ints, eqD_ii, eqD_kk, py_app, py_nil, py_cons, py_ints, py_int, py_bl, py_non, py_kD, py_links, py_prs, py_mapi, pr_mapi, pr_linksT, prD, er]
    generalize hX : forD _ _ _ _ _ _ = X
    have key := for_M hX (fun q σ T => ∃ (x : Option D) (ac : List D), σ = [some (.tup (tw.map prD)), some (.int (hiT tw)), x, some (.loc S.length), some (.int p.1), some (.int p.2)] ∧ T = S ++ [.lst (acc ++ ac)] ∧ D.pureL ac = true ∧ ac ++ q.map (fun l => linkD r (some p.1) l) = (rangeI 1 p.2.toNat).map (fun l => linkD r (some p.1) l))
      (fun X => ∃ (x : Option D), X = some (.next [some (.tup (tw.map prD)), some (.int (hiT tw)), x, some (.loc S.length), some (.int p.1), some (.int p.2)], S ++ [.lst (acc ++ (rangeI 1 p.2.toNat).map (fun l => linkD r (some p.1) l))])) ⟨_, [], rfl, by rw [List.append_nil], rfl, rfl⟩ ?_ ?_
    · obtain ⟨x, rfl⟩ := key
      refine ⟨_, _, _, _, pre ++ [p], rfl, rfl, ?_, ?_⟩
      · rw [← e, linksR, List.append_assoc]
      · rw [hd]; simp
    · rintro σ T ⟨x, ac, rfl, rfl, -, e2⟩
      rw [List.map_nil, List.append_nil] at e2
      exact ⟨rfl, x, by rw [e2]⟩
    · clear hX X
      rintro q qs σ T ⟨x, ac, rfl, rfl, hp2, e2⟩
      refine ⟨rfl, ?_⟩
      have hla : ac.length ≤ p.2.toNat := by
        have := congrArg List.length e2
        simp only [List.length_append, List.length_map, rangeI_len] at this
        omega
      have hsz : acc.length + ac.length < sizeLine := Nat.lt_of_le_of_lt (by omega : _ ≤ 1001000) (by decide)
      have enk := law_next_key_of k (tw := tw) (key := some p.1) (l := q) (S := S ++ [.lst (acc ++ ac)])
      have en : nextK tw (some p.1) q = (keysAt r q).head? := by
        subst hd; exact nextK_app hf
      rw [en, kD_s] at enk
      simp only [bnd_some, bnd_none, opt_some, opt_none, seqF_next, seqF_brk, seqF_cnt, seqF_ret, ts_nil, ts_cons, out_ret, out_next, ite_t, ite_f, bop_and_t, bop_and_f, bop_or_t, bop_or_f, bb_and_t, bb_and_f, bb_or_t, bb_or_f, slot_0, slot_s, e_con, b_con, e_var, b_var, e_glo, b_glo, e_tup, b_tup, e_lst, b_lst, e_dct, b_dct, e_op, b_op, e_neg, b_neg, e_not, b_not, e_bop, b_bop, e_cmp, b_cmp, e_chn, b_chn, e_ifx, b_ifx, e_ix, b_ix, e_sl, b_sl, e_call, b_call, e_bi, b_bi, e_mxd, b_mxd, e_isi, b_isi, e_isl, b_isl, e_lrg, b_lrg, e_mt, b_mt, e_lc, b_lc, bop_1, bop_2, bb_1, bb_2, es_nil, es_cons, eo_none, eo_some, if_none, if_some, i_ex, i_rng1, i_rng2, i_enm, q_nm, q_tp, q_sb, setK_some, qs_nil, qs_cons, t_asg, t_aug, t_ex, t_ret, t_retN, t_iff, t_fr, t_whl, t_brk, t_cnt, t_pas, con_none, con_bool, con_int, con_str, neg_int, not_bl, int_int, add_int, sub_int, lt_int, le_int, gt_int, ge_int, eq_int, ne_int, is_nn, is_in, is_bb, isn_nn, isn_in, isn_bb, tr_non, tr_bl, tr_int, ty_non, ty_bl, ty_int, ty_tup, ty_ro, isa_int_int, isa_int_bool, isa_int_list, isa_int_tuple, isa_list_list, isa_list_tuple, isa_tuple_list, isa_tuple_tuple, sq_tup, sq_ro, bi_int_int, bi_int_bl, bi_tuple_tup, bi_min, bi_max, bi_len_tup, bi_len_ro, ix_tup, ix_ro, sl_tup, sl_ro, stays_tup, stays_ro, at_0, at_1, gc_ai, gc_aai, gc_aaai, gc_ab, gc_aab, gc_aaab, gc_an, gc_aan, gc_aaan, gc_same, wipe_nil, wipe_cons, sz_0, sz_1, sz_2, sz_3, sz_4, sz_5, sz_6, sz_7, sz_8, sz_9, sz_10, runDef, runFull, Def.full, startD, List.length_cons, List.length_nil, List.map_cons, List.map_nil, List.append_nil, List.nil_append, List.cons_append, List.drop_nil, List.drop_zero, List.set_cons_zero, List.set_cons_succ, List.replicate, if_true, if_false, Bool.not_true, Bool.not_false, Bool.true_or, Bool.false_or, Option.map_some, Option.map_none, Nat.zero_add, Nat.add_zero, Nat.sub_self, Nat.reduceAdd, Nat.reduceSub, ↓reduceIte, Bool.and_true, Bool.true_and, Bool.false_and, Bool.and_false, Int.cast_ofNat_Int, decide_true, decide_false, Int.reduceEq, Int.reduceLT, Int.reduceLE, Bool.false_eq_true, List.append_assoc, List.length_append, lk_app, lk_app0, lk_sapp, lk_sapp0, lk_z, lk_s, st_app, st_app0, st_sapp, st_sapp0, len_set, set_set, sq_lk, ix_lk, sl_lk, len_lk, tuple_lk, list_lk, list_tup, ty_lk, stays_lk, set_lk, add_lk, app_lk, ext_lk, clear_lk, recv_lk, get2_lk, tr_lk, gp_0, gp_1, gp_2, gp_3, gp_4, gp_5, gp_6, gp_7, gp_8, ko_n, ko_s, ko_p, gq_1, gq_2, gq_3, gq_4, gq_5, gq_6, gq_7, gq_8, gq_9, gq_10, gq_11, gq_12, gq_13, gq_14, gq_15, gq_16, gcR, Nat.lt_irrefl, Nat.not_lt_zero, List.take_succ_cons, List.take_zero, List.take_nil, D.beqL_self, at_2, at_3, ixN, Nat.reduceLT, Nat.reduceLeDiff, Int.reduceToNat, Int.reduceNeg, Int.reduceSub, Int.reduceAdd, Int.reduceMul, sz_lt, Int.zero_add, mod_int, pr_int, pr_bl, pr_non, pr_str, pr_tup, pr_nil, pr_cons, pr_lst, pr_ints, pr_prs, pr_app, pr_kD, mt_1, mt_2, mt_3, mt_4, mt_5, eq_D, ne_D, eqD_ll, eqD_tt, eqL_ll, eqS_same, eqS_nil, eqS_ints, eqD_ii, eqD_kk, py_app, py_nil, py_cons, py_ints, py_int, py_bl, py_non, py_kD, py_links, py_prs, py_mapi, pr_mapi, pr_linksT, enk, hsz, hp, hp2, pr_linkD]
      refine ⟨_, ac ++ [linkD r (some p.1) q], rfl, ?_, ?_, ?_⟩
      · rfl
      · rw [pr_app, hp2, pr_cons, pr_linkD]; rfl
      · rw [← e2]; simp
end K01

end

section
set_option maxHeartbeats 400000
namespace K01
open PySem PySem.Spec Mi
open L2 (atI ixN Key)
theorem keys_right_of (k : Nat) {m : Nat} {tw : Tws} {ps : List Int} {S : Store} (hf : Fine tw) (hl : tw.length ≤ 1000) (hh : ∀ p ∈ tw, p.2 ≤ 1000) (hp : lk S m = some (.lst (ps.map D.int))) (hpl : ps.length ≤ 1000) :
    orc defs (k + 6) 22 [.tup (tw.map prD), .loc m, .int (hiT tw)] S = some (.bl true, S) := by
  rw [orc_at (d := d__law_keys_right) rfl]
  have h0 := hiT_nn hf
  have h1 := hiT_le (n := 1000) (by decide) hh
  have er : rngD 1 (hiT tw + 3) = some ⟨(rangeI 1 (hiT tw + 2).toNat).map D.int, fun _ => true⟩ := by
    rw [rng_small (by omega) (by omega) (by omega) (by omega)]; congr 5; omega
  have hv : ∀ T, IsTw T (.tup (tw.map prD)) tw := fun T => .tup hf hl
  have hz : (hiT tw + 2).toNat ≤ 2 ^ 24 := by omega
  simp only [d__law_keys_right, b__law_keys_right, bnd_some, bnd_none, opt_some, opt_none, seqF_next, seqF_brk, seqF_cnt, seqF_ret, ts_nil, ts_cons, out_ret, out_next, ite_t, ite_f, bop_and_t, bop_and_f, bop_or_t, bop_or_f, bb_and_t, bb_and_f, bb_or_t, bb_or_f, slot_0, slot_s, e_con, b_con, e_var, b_var, e_glo, b_glo, e_tup, b_tup, e_lst, b_lst, e_dct, b_dct, e_op, b_op, e_neg, b_neg, e_not, b_not, e_bop, b_bop, e_cmp, b_cmp, e_chn, b_chn, e_ifx, b_ifx, e_ix, b_ix, e_sl, b_sl, e_call, b_call, e_bi, b_bi, e_mxd, b_mxd, e_isi, b_isi, e_isl, b_isl, e_lrg, b_lrg, e_mt, b_mt, e_lc, b_lc, bop_1, bop_2, bb_1, bb_2, es_nil, es_cons, eo_none, eo_some, if_none, if_some, i_ex, i_rng1, i_rng2, i_enm, q_nm, q_tp, q_sb, setK_some, qs_nil, qs_cons, t_asg, t_aug, t_ex, t_ret, t_retN, t_iff, t_fr, t_whl, t_brk, t_cnt, t_pas, con_none, con_bool, con_int, con_str, neg_int, not_bl, int_int, add_int, sub_int, lt_int, le_int, gt_int, ge_int, eq_int, ne_int, is_nn, is_in, is_bb, isn_nn, isn_in, isn_bb, tr_non, tr_bl, tr_int, ty_non, ty_bl, ty_int, ty_tup, ty_ro, isa_int_int, isa_int_bool, isa_int_list, isa_int_tuple, isa_list_list, isa_list_tuple, isa_tuple_list, isa_tuple_tuple, sq_tup, sq_ro, bi_int_int, bi_int_bl, bi_tuple_tup, bi_min, bi_max, bi_len_tup, bi_len_ro, ix_tup, ix_ro, sl_tup, sl_ro, stays_tup, stays_ro, at_0, at_1, gc_ai, gc_aai, gc_aaai, gc_ab, gc_aab, gc_aaab, gc_an, gc_aan, gc_aaan, gc_same, wipe_nil, wipe_cons, sz_0, sz_1, sz_2, sz_3, sz_4, sz_5, sz_6, sz_7, sz_8, sz_9, sz_10, runDef, runFull, Def.full, startD, List.length_cons, List.length_nil, List.map_cons, List.map_nil, List.append_nil, List.nil_append, List.cons_append, List.drop_nil, List.drop_zero, List.set_cons_zero, List.set_cons_succ, List.replicate, if_true, if_false, Bool.not_true, Bool.not_false, Bool.true_or, Bool.false_or, Option.map_some, Option.map_none, Nat.zero_add, Nat.add_zero, Nat.sub_self, Nat.reduceAdd, Nat.reduceSub, ↓reduceIte, Bool.and_true, Bool.true_and, Bool.false_and, Bool.and_false, Int.cast_ofNat_Int, decide_true, decide_false, Int.reduceEq, Int.reduceLT, Int.reduceLE, Bool.false_eq_true, List.append_assoc, List.length_append, lk_app, lk_app0, lk_sapp, lk_sapp0, lk_z, lk_s, st_app, st_app0, st_sapp, st_sapp0, len_set, set_set, sq_lk, ix_lk, sl_lk, len_lk, tuple_lk, list_lk, list_tup, ty_lk, stays_lk, set_lk, add_lk, app_lk, ext_lk, clear_lk, recv_lk, get2_lk, tr_lk, gp_0, gp_1, gp_2, gp_3, gp_4, gp_5, gp_6, gp_7, gp_8, ko_n, ko_s, ko_p, gq_1, gq_2, gq_3, gq_4, gq_5, gq_6, gq_7, gq_8, gq_9, gq_10, gq_11, gq_12, gq_13, gq_14, gq_15, gq_16, gcR, Nat.lt_irrefl, Nat.not_lt_zero, List.take_succ_cons, List.take_zero, List.take_nil, D.beqL_self, at_2, at_3, ixN, Nat.reduceLT, Nat.reduceLeDiff, Int.reduceToNat, Int.reduceNeg, Int.reduceSub, Int.reduceAdd, Int.reduceMul, sz_lt, Int.zero_add, mod_int, pr_int, pr_bl, pr_non, pr_str, pr_tup, pr_nil, pr_cons, pr_lst, pr_ints, pr_prs, pr_app, pr_kD, mt_1, mt_2, mt_3, mt_4, mt_5, eq_D, ne_D, eqD_ll, eqD_tt, eqL_ll, eqS_same, eqS_nil, eqS_ints, eqD_ii, eqD_kk, py_app, py_nil, py_cons, py_ints, py_int, py_bl, py_non, py_kD, py_links, py_prs, py_mapi, pr_mapi, pr_linksT, dict_prs, pr_dic, pr_dicT hf, er, List.length_map, rangeI_len, hz]
  generalize hX : forD _ _ _ _ _ _ = X
  have key := for_M hX (fun r σ T => (∃ (x y z w : Option D), σ = [some (.tup (tw.map prD)), some (.loc m), some (.int (hiT tw)), some (.loc S.length), x, y, z, w]) ∧ (∃ G, T = (S ++ [.dic (dicT tw), .lst ((rangeI 1 (hiT tw + 2).toNat).map D.int)]) ++ G) ∧ ∀ l ∈ r, 1 ≤ l)
    (fun X => ∃ (x y z w : Option D) (G : Store), X = some (.next [some (.tup (tw.map prD)), some (.loc m), some (.int (hiT tw)), some (.loc S.length), x, y, z, w], (S ++ [.dic (dicT tw), .lst ((rangeI 1 (hiT tw + 2).toNat).map D.int)]) ++ G)) ⟨⟨_, _, _, _, rfl⟩, ⟨[], by rw [List.append_nil]⟩, fun l hl => rangeI_ge _ _ l hl⟩ ?_ ?_
  · obtain ⟨x, y, z, w, G, rfl⟩ := key
    obtain ⟨T, hT⟩ : ∃ T, T = (S ++ [.dic (dicT tw), .lst ((rangeI 1 (hiT tw + 2).toNat).map D.int)]) ++ G := ⟨_, rfl⟩
    have t1 : lk T S.length = some (.dic (dicT tw)) := by rw [hT]; exact lk_old lk_app0
    have t2 : lk T m = some (.lst (ps.map D.int)) := by rw [hT]; exact lk_old (lk_old hp)
    have t3 : ∀ d U, D.pure d = true → gc S d (T ++ U) = (d, S) := fun d U hd => by rw [hT, List.append_assoc, List.append_assoc]; exact gp_1 hd
    have t4 : ∀ d, D.pure d = true → gc S d T = (d, S) := fun d hd => by have := t3 d [] hd; rwa [List.append_nil] at this
    rw [← hT]
    simp only [bnd_some, bnd_none, opt_some, opt_none, seqF_next, seqF_brk, seqF_cnt, seqF_ret, ts_nil, ts_cons, out_ret, out_next, ite_t, ite_f, bop_and_t, bop_and_f, bop_or_t, bop_or_f, bb_and_t, bb_and_f, bb_or_t, bb_or_f, slot_0, slot_s, e_con, b_con, e_var, b_var, e_glo, b_glo, e_tup, b_tup, e_lst, b_lst, e_dct, b_dct, e_op, b_op, e_neg, b_neg, e_not, b_not, e_bop, b_bop, e_cmp, b_cmp, e_chn, b_chn, e_ifx, b_ifx, e_ix, b_ix, e_sl, b_sl, e_call, b_call, e_bi, b_bi, e_mxd, b_mxd, e_isi, b_isi, e_isl, b_isl, e_lrg, b_lrg, e_mt, b_mt, e_lc, b_lc, bop_1, bop_2, bb_1, bb_2, es_nil, es_cons, eo_none, eo_some, if_none, if_some, i_ex, i_rng1, i_rng2, i_enm, q_nm, q_tp, q_sb, setK_some, qs_nil, qs_cons, t_asg, t_aug, t_ex, t_ret, t_retN, t_iff, t_fr, t_whl, t_brk, t_cnt, t_pas, con_none, con_bool, con_int, con_str, neg_int, not_bl, int_int, add_int, sub_int, lt_int, le_int, gt_int, ge_int, eq_int, ne_int, is_nn, is_in, is_bb, isn_nn, isn_in, isn_bb, tr_non, tr_bl, tr_int, ty_non, ty_bl, ty_int, ty_tup, ty_ro, isa_int_int, isa_int_bool, isa_int_list, isa_int_tuple, isa_list_list, isa_list_tuple, isa_tuple_list, isa_tuple_tuple, sq_tup, sq_ro, bi_int_int, bi_int_bl, bi_tuple_tup, bi_min, bi_max, bi_len_tup, bi_len_ro, ix_tup, ix_ro, sl_tup, sl_ro, stays_tup, stays_ro, at_0, at_1, gc_ai, gc_aai, gc_aaai, gc_ab, gc_aab, gc_aaab, gc_an, gc_aan, gc_aaan, gc_same, wipe_nil, wipe_cons, sz_0, sz_1, sz_2, sz_3, sz_4, sz_5, sz_6, sz_7, sz_8, sz_9, sz_10, runDef, runFull, Def.full, startD, List.length_cons, List.length_nil, List.map_cons, List.map_nil, List.append_nil, List.nil_append, List.cons_append, List.drop_nil, List.drop_zero, List.set_cons_zero, List.set_cons_succ, List.replicate, if_true, if_false, Bool.not_true, Bool.not_false, Bool.true_or, Bool.false_or, Option.map_some, Option.map_none, Nat.zero_add, Nat.add_zero, Nat.sub_self, Nat.reduceAdd, Nat.reduceSub, ↓reduceIte, Bool.and_true, Bool.true_and, Bool.false_and, Bool.and_false, Int.cast_ofNat_Int, decide_true, decide_false, Int.reduceEq, Int.reduceLT, Int.reduceLE, Bool.false_eq_true, List.append_assoc, List.length_append, lk_app, lk_app0, lk_sapp, lk_sapp0, lk_z, lk_s, st_app, st_app0, st_sapp, st_sapp0, len_set, set_set, sq_lk, ix_lk, sl_lk, len_lk, tuple_lk, list_lk, list_tup, ty_lk, stays_lk, set_lk, add_lk, app_lk, ext_lk, clear_lk, recv_lk, get2_lk, tr_lk, gp_0, gp_1, gp_2, gp_3, gp_4, gp_5, gp_6, gp_7, gp_8, ko_n, ko_s, ko_p, gq_1, gq_2, gq_3, gq_4, gq_5, gq_6, gq_7, gq_8, gq_9, gq_10, gq_11, gq_12, gq_13, gq_14, gq_15, gq_16, gcR, Nat.lt_irrefl, Nat.not_lt_zero, List.take_succ_cons, List.take_zero, List.take_nil, D.beqL_self, at_2, at_3, ixN, Nat.reduceLT, Nat.reduceLeDiff, Int.reduceToNat, Int.reduceNeg, Int.reduceSub, Int.reduceAdd, Int.reduceMul, sz_lt, Int.zero_add, mod_int, pr_int, pr_bl, pr_non, pr_str, pr_tup, pr_nil, pr_cons, pr_lst, pr_ints, pr_prs, pr_app, pr_kD, mt_1, mt_2, mt_3, mt_4, mt_5, eq_D, ne_D, eqD_ll, eqD_tt, eqL_ll, eqS_same, eqS_nil, eqS_ints, eqD_ii, eqD_kk, py_app, py_nil, py_cons, py_ints, py_int, py_bl, py_non, py_kD, py_links, py_prs, py_mapi, pr_mapi, pr_linksT, t2]
    generalize hX : lcD _ _ _ _ _ _ _ = X
    have e := lc_F (fun _ => none) hX (by simp only [List.append_assoc, List.length_append, lk_app, lk_app0, lk_sapp, lk_sapp0, lk_z, lk_s, st_app, st_app0, st_sapp, st_sapp0, len_set, set_set, sq_lk, ix_lk, sl_lk, len_lk, tuple_lk, list_lk, list_tup, ty_lk, stays_lk, set_lk, add_lk, app_lk, ext_lk, clear_lk, recv_lk, get2_lk, tr_lk, gp_0, gp_1, gp_2, gp_3, gp_4, gp_5, gp_6, gp_7, gp_8, ko_n, ko_s, ko_p, gq_1, gq_2, gq_3, gq_4, gq_5, gq_6, gq_7, gq_8, gq_9, gq_10, gq_11, gq_12, gq_13, gq_14, gq_15, gq_16, gcR, Nat.lt_irrefl, Nat.not_lt_zero, List.take_succ_cons, List.take_zero, List.take_nil, D.beqL_self, at_2, at_3, ixN, Nat.reduceLT, Nat.reduceLeDiff, Int.reduceToNat, Int.reduceNeg, Int.reduceSub, Int.reduceAdd, Int.reduceMul, sz_lt, Int.zero_add, mod_int, pr_int, pr_bl, pr_non, pr_str, pr_tup, pr_nil, pr_cons, pr_lst, pr_ints, pr_prs, pr_app, pr_kD, mt_1, mt_2, mt_3, mt_4, mt_5, eq_D, ne_D, eqD_ll, eqD_tt, eqL_ll, eqS_same, eqS_nil, eqS_ints, eqD_ii, eqD_kk, py_app, py_nil, py_cons, py_ints, py_int, py_bl, py_non, py_kD, py_links, py_prs, py_mapi, pr_mapi, pr_linksT, t2]) (le_size (by simp; omega)) (fun q hq => by simp only [bnd_some, bnd_none, opt_some, opt_none, seqF_next, seqF_brk, seqF_cnt, seqF_ret, ts_nil, ts_cons, out_ret, out_next, ite_t, ite_f, bop_and_t, bop_and_f, bop_or_t, bop_or_f, bb_and_t, bb_and_f, bb_or_t, bb_or_f, slot_0, slot_s, e_con, b_con, e_var, b_var, e_glo, b_glo, e_tup, b_tup, e_lst, b_lst, e_dct, b_dct, e_op, b_op, e_neg, b_neg, e_not, b_not, e_bop, b_bop, e_cmp, b_cmp, e_chn, b_chn, e_ifx, b_ifx, e_ix, b_ix, e_sl, b_sl, e_call, b_call, e_bi, b_bi, e_mxd, b_mxd, e_isi, b_isi, e_isl, b_isl, e_lrg, b_lrg, e_mt, b_mt, e_lc, b_lc, bop_1, bop_2, bb_1, bb_2, es_nil, es_cons, eo_none, eo_some, if_none, if_some, i_ex, i_rng1, i_rng2, i_enm, q_nm, q_tp, q_sb, setK_some, qs_nil, qs_cons, t_asg, t_aug, t_ex, t_ret, t_retN, t_iff, t_fr, t_whl, t_brk, t_cnt, t_pas, con_none, con_bool, con_int, con_str, neg_int, not_bl, int_int, add_int, sub_int, lt_int, le_int, gt_int, ge_int, eq_int, ne_int, is_nn, is_in, is_bb, isn_nn, isn_in, isn_bb, tr_non, tr_bl, tr_int, ty_non, ty_bl, ty_int, ty_tup, ty_ro, isa_int_int, isa_int_bool, isa_int_list, isa_int_tuple, isa_list_list, isa_list_tuple, isa_tuple_list, isa_tuple_tuple, sq_tup, sq_ro, bi_int_int, bi_int_bl, bi_tuple_tup, bi_min, bi_max, bi_len_tup, bi_len_ro, ix_tup, ix_ro, sl_tup, sl_ro, stays_tup, stays_ro, at_0, at_1, gc_ai, gc_aai, gc_aaai, gc_ab, gc_aab, gc_aaab, gc_an, gc_aan, gc_aaan, gc_same, wipe_nil, wipe_cons, sz_0, sz_1, sz_2, sz_3, sz_4, sz_5, sz_6, sz_7, sz_8, sz_9, sz_10, runDef, runFull, Def.full, startD, List.length_cons, List.length_nil, List.map_cons, List.map_nil, List.append_nil, List.nil_append, List.cons_append, List.drop_nil, List.drop_zero, List.set_cons_zero, List.set_cons_succ, List.replicate, if_true, if_false, Bool.not_true, Bool.not_false, Bool.true_or, Bool.false_or, Option.map_some, Option.map_none, Nat.zero_add, Nat.add_zero, Nat.sub_self, Nat.reduceAdd, Nat.reduceSub, ↓reduceIte, Bool.and_true, Bool.true_and, Bool.false_and, Bool.and_false, Int.cast_ofNat_Int, decide_true, decide_false, Int.reduceEq, Int.reduceLT, Int.reduceLE, Bool.false_eq_true, List.append_assoc, List.length_append, lk_app, lk_app0, lk_sapp, lk_sapp0, lk_z, lk_s, st_app, st_app0, st_sapp, st_sapp0, len_set, set_set, sq_lk, ix_lk, sl_lk, len_lk, tuple_lk, list_lk, list_tup, ty_lk, stays_lk, set_lk, add_lk, app_lk, ext_lk, clear_lk, recv_lk, get2_lk, tr_lk, gp_0, gp_1, gp_2, gp_3, gp_4, gp_5, gp_6, gp_7, gp_8, ko_n, ko_s, ko_p, gq_1, gq_2, gq_3, gq_4, gq_5, gq_6, gq_7, gq_8, gq_9, gq_10, gq_11, gq_12, gq_13, gq_14, gq_15, gq_16, gcR, Nat.lt_irrefl, Nat.not_lt_zero, List.take_succ_cons, List.take_zero, List.take_nil, D.beqL_self, at_2, at_3, ixN, Nat.reduceLT, Nat.reduceLeDiff, Int.reduceToNat, Int.reduceNeg, Int.reduceSub, Int.reduceAdd, Int.reduceMul, sz_lt, Int.zero_add, mod_int, pr_int, pr_bl, pr_non, pr_str, pr_tup, pr_nil, pr_cons, pr_lst, pr_ints, pr_prs, pr_app, pr_kD, mt_1, mt_2, mt_3, mt_4, mt_5, eq_D, ne_D, eqD_ll, eqD_tt, eqL_ll, eqS_same, eqS_nil, eqS_ints, eqD_ii, eqD_kk, py_app, py_nil, py_cons, py_ints, py_int, py_bl, py_non, py_kD, py_links, py_prs, py_mapi, pr_mapi, pr_linksT, lcS, ite_b, bnd_if, seqF_if, out_if, bopB_and, bopB_or, bopD_and, bopD_or, if_same_bool, if_bf, if_bx, if_xt, height_of_of k (hv _), key_int, t1, get_dicT hf])
    subst e
    simp only [bnd_some, bnd_none, opt_some, opt_none, seqF_next, seqF_brk, seqF_cnt, seqF_ret, ts_nil, ts_cons, out_ret, out_next, ite_t, ite_f, bop_and_t, bop_and_f, bop_or_t, bop_or_f, bb_and_t, bb_and_f, bb_or_t, bb_or_f, slot_0, slot_s, e_con, b_con, e_var, b_var, e_glo, b_glo, e_tup, b_tup, e_lst, b_lst, e_dct, b_dct, e_op, b_op, e_neg, b_neg, e_not, b_not, e_bop, b_bop, e_cmp, b_cmp, e_chn, b_chn, e_ifx, b_ifx, e_ix, b_ix, e_sl, b_sl, e_call, b_call, e_bi, b_bi, e_mxd, b_mxd, e_isi, b_isi, e_isl, b_isl, e_lrg, b_lrg, e_mt, b_mt, e_lc, b_lc, bop_1, bop_2, bb_1, bb_2, es_nil, es_cons, eo_none, eo_some, if_none, if_some, i_ex, i_rng1, i_rng2, i_enm, q_nm, q_tp, q_sb, setK_some, qs_nil, qs_cons, t_asg, t_aug, t_ex, t_ret, t_retN, t_iff, t_fr, t_whl, t_brk, t_cnt, t_pas, con_none, con_bool, con_int, con_str, neg_int, not_bl, int_int, add_int, sub_int, lt_int, le_int, gt_int, ge_int, eq_int, ne_int, is_nn, is_in, is_bb, isn_nn, isn_in, isn_bb, tr_non, tr_bl, tr_int, ty_non, ty_bl, ty_int, ty_tup, ty_ro, isa_int_int, isa_int_bool, isa_int_list, isa_int_tuple, isa_list_list, isa_list_tuple, isa_tuple_list, isa_tuple_tuple, sq_tup, sq_ro, bi_int_int, bi_int_bl, bi_tuple_tup, bi_min, bi_max, bi_len_tup, bi_len_ro, ix_tup, ix_ro, sl_tup, sl_ro, stays_tup, stays_ro, at_0, at_1, gc_ai, gc_aai, gc_aaai, gc_ab, gc_aab, gc_aaab, gc_an, gc_aan, gc_aaan, gc_same, wipe_nil, wipe_cons, sz_0, sz_1, sz_2, sz_3, sz_4, sz_5, sz_6, sz_7, sz_8, sz_9, sz_10, runDef, runFull, Def.full, startD, List.length_cons, List.length_nil, List.map_cons, List.map_nil, List.append_nil, List.nil_append, List.cons_append, List.drop_nil, List.drop_zero, List.set_cons_zero, List.set_cons_succ, List.replicate, if_true, if_false, Bool.not_true, Bool.not_false, Bool.true_or, Bool.false_or, Option.map_some, Option.map_none, Nat.zero_add, Nat.add_zero, Nat.sub_self, Nat.reduceAdd, Nat.reduceSub, ↓reduceIte, Bool.and_true, Bool.true_and, Bool.false_and, Bool.and_false, Int.cast_ofNat_Int, decide_true, decide_false, Int.reduceEq, Int.reduceLT, Int.reduceLE, Bool.false_eq_true, List.append_assoc, List.length_append, lk_app, lk_app0, lk_sapp, lk_sapp0, lk_z, lk_s, st_app, st_app0, st_sapp, st_sapp0, len_set, set_set, sq_lk, ix_lk, sl_lk, len_lk, tuple_lk, list_lk, list_tup, ty_lk, stays_lk, set_lk, add_lk, app_lk, ext_lk, clear_lk, recv_lk, get2_lk, tr_lk, gp_0, gp_1, gp_2, gp_3, gp_4, gp_5, gp_6, gp_7, gp_8, ko_n, ko_s, ko_p, gq_1, gq_2, gq_3, gq_4, gq_5, gq_6, gq_7, gq_8, gq_9, gq_10, gq_11, gq_12, gq_13, gq_14, gq_15, gq_16, gcR, Nat.lt_irrefl, Nat.not_lt_zero, List.take_succ_cons, List.take_zero, List.take_nil, D.beqL_self, at_2, at_3, ixN, Nat.reduceLT, Nat.reduceLeDiff, Int.reduceToNat, Int.reduceNeg, Int.reduceSub, Int.reduceAdd, Int.reduceMul, sz_lt, Int.zero_add, mod_int, pr_int, pr_bl, pr_non, pr_str, pr_tup, pr_nil, pr_cons, pr_lst, pr_ints, pr_prs, pr_app, pr_kD, mt_1, mt_2, mt_3, mt_4, mt_5, eq_D, ne_D, eqD_ll, eqD_tt, eqL_ll, eqS_same, eqS_nil, eqS_ints, eqD_ii, eqD_kk, py_app, py_nil, py_cons, py_ints, py_int, py_bl, py_non, py_kD, py_links, py_prs, py_mapi, pr_mapi, pr_linksT, fm_none, List.isEmpty_nil, t4]
  · rintro σ T ⟨⟨x, y, z, w, rfl⟩, ⟨G, rfl⟩, -⟩
    refine ⟨?_, x, y, z, w, G, rfl⟩
    rw [stays_lk, lk_old (lk_app (j := 1))]; exact D.beqL_self _
  · clear hX X
    rintro l r σ T ⟨⟨x, y, z, w, rfl⟩, ⟨G, hT⟩, hr⟩
    have t2 : lk T m = some (.lst (ps.map D.int)) := by rw [hT]; exact lk_old (lk_old hp)
    refine ⟨by rw [stays_lk, hT, lk_old (lk_app (j := 1))]; exact D.beqL_self _, ?_⟩
    have hl1 := hr l (List.mem_cons_self ..)
    simp only [bnd_some, bnd_none, opt_some, opt_none, seqF_next, seqF_brk, seqF_cnt, seqF_ret, ts_nil, ts_cons, out_ret, out_next, ite_t, ite_f, bop_and_t, bop_and_f, bop_or_t, bop_or_f, bb_and_t, bb_and_f, bb_or_t, bb_or_f, slot_0, slot_s, e_con, b_con, e_var, b_var, e_glo, b_glo, e_tup, b_tup, e_lst, b_lst, e_dct, b_dct, e_op, b_op, e_neg, b_neg, e_not, b_not, e_bop, b_bop, e_cmp, b_cmp, e_chn, b_chn, e_ifx, b_ifx, e_ix, b_ix, e_sl, b_sl, e_call, b_call, e_bi, b_bi, e_mxd, b_mxd, e_isi, b_isi, e_isl, b_isl, e_lrg, b_lrg, e_mt, b_mt, e_lc, b_lc, bop_1, bop_2, bb_1, bb_2, es_nil, es_cons, eo_none, eo_some, if_none, if_some, i_ex, i_rng1, i_rng2, i_enm, q_nm, q_tp, q_sb, setK_some, qs_nil, qs_cons, t_asg, t_aug, t_ex, t_ret, t_retN, t_iff, t_fr, t_whl, t_brk, t_cnt, t_pas, con_none, con_bool, con_int, con_str, neg_int, not_bl, int_int, add_int, sub_int, lt_int, le_int, gt_int, ge_int, eq_int, ne_int, is_nn, is_in, is_bb, isn_nn, isn_in, isn_bb, tr_non, tr_bl, tr_int, ty_non, ty_bl, ty_int, ty_tup, ty_ro, isa_int_int, isa_int_bool, isa_int_list, isa_int_tuple, isa_list_list, isa_list_tuple, isa_tuple_list, isa_tuple_tuple, sq_tup, sq_ro, bi_int_int, bi_int_bl, bi_tuple_tup, bi_min, bi_max, bi_len_tup, bi_len_ro, ix_tup, ix_ro, sl_tup, sl_ro, stays_tup, stays_ro, at_0, at_1, gc_ai, gc_aai, gc_aaai, gc_ab, gc_aab, gc_aaab, gc_an, gc_aan, gc_aaan, gc_same, wipe_nil, wipe_cons, sz_0, sz_1, sz_2, sz_3, sz_4, sz_5, sz_6, sz_7, sz_8, sz_9, sz_10, runDef, runFull, Def.full, startD, List.length_cons, List.length_nil, List.map_cons, List.map_nil, List.append_nil, List.nil_append, List.cons_append, List.drop_nil, List.drop_zero, List.set_cons_zero, List.set_cons_succ, List.replicate, if_true, if_false, Bool.not_true, Bool.not_false, Bool.true_or, Bool.false_or, Option.map_some, Option.map_none, Nat.zero_add, Nat.add_zero, Nat.sub_self, Nat.reduceAdd, Nat.reduceSub, ↓reduceIte, Bool.and_true, Bool.true_and, Bool.false_and, Bool.and_false, Int.cast_ofNat_Int, decide_true, decide_false, Int.reduceEq, Int.reduceLT, Int.reduceLE, Bool.false_eq_true, List.append_assoc, List.length_append, lk_app, lk_app0, lk_sapp, lk_sapp0, lk_z, lk_s, st_app, st_app0, st_sapp, st_sapp0, len_set, set_set, sq_lk, ix_lk, sl_lk, len_lk, tuple_lk, list_lk, list_tup, ty_lk, stays_lk, set_lk, add_lk, app_lk, ext_lk, clear_lk, recv_lk, get2_lk, tr_lk, gp_0, gp_1, gp_2, gp_3, gp_4, gp_5, gp_6, gp_7, gp_8, ko_n, ko_s, ko_p, gq_1, gq_2, gq_3, gq_4, gq_5, gq_6, gq_7, gq_8, gq_9, gq_10, gq_11, gq_12, gq_13, gq_14, gq_15, gq_16, gcR, Nat.lt_irrefl, Nat.not_lt_zero, List.take_succ_cons, List.take_zero, List.take_nil, D.beqL_self, at_2, at_3, ixN, Nat.reduceLT, Nat.reduceLeDiff, Int.reduceToNat, Int.reduceNeg, Int.reduceSub, Int.reduceAdd, Int.reduceMul, sz_lt, Int.zero_add, mod_int, pr_int, pr_bl, pr_non, pr_str, pr_tup, pr_nil, pr_cons, pr_lst, pr_ints, pr_prs, pr_app, pr_kD, mt_1, mt_2, mt_3, mt_4, mt_5, eq_D, ne_D, eqD_ll, eqD_tt, eqL_ll, eqS_same, eqS_nil, eqS_ints, eqD_ii, eqD_kk, py_app, py_nil, py_cons, py_ints, py_int, py_bl, py_non, py_kD, py_links, py_prs, py_mapi, pr_mapi, pr_linksT, lane_of k (hv _) hl1]
    generalize hX : lcD _ _ _ _ _ _ _ = X
    have e := lc_pf (fun q : Int × Int => decide (l ≤ q.2)) (fun q => D.int q.1) hX rfl (le_size (by simp; omega)) (fun q hq => by simp only [bnd_some, bnd_none, opt_some, opt_none, seqF_next, seqF_brk, seqF_cnt, seqF_ret, ts_nil, ts_cons, out_ret, out_next, ite_t, ite_f, bop_and_t, bop_and_f, bop_or_t, bop_or_f, bb_and_t, bb_and_f, bb_or_t, bb_or_f, slot_0, slot_s, e_con, b_con, e_var, b_var, e_glo, b_glo, e_tup, b_tup, e_lst, b_lst, e_dct, b_dct, e_op, b_op, e_neg, b_neg, e_not, b_not, e_bop, b_bop, e_cmp, b_cmp, e_chn, b_chn, e_ifx, b_ifx, e_ix, b_ix, e_sl, b_sl, e_call, b_call, e_bi, b_bi, e_mxd, b_mxd, e_isi, b_isi, e_isl, b_isl, e_lrg, b_lrg, e_mt, b_mt, e_lc, b_lc, bop_1, bop_2, bb_1, bb_2, es_nil, es_cons, eo_none, eo_some, if_none, if_some, i_ex, i_rng1, i_rng2, i_enm, q_nm, q_tp, q_sb, setK_some, qs_nil, qs_cons, t_asg, t_aug, t_ex, t_ret, t_retN, t_iff, t_fr, t_whl, t_brk, t_cnt, t_pas, con_none, con_bool, con_int, con_str, neg_int, not_bl, int_int, add_int, sub_int, lt_int, le_int, gt_int, ge_int, eq_int, ne_int, is_nn, is_in, is_bb, isn_nn, isn_in, isn_bb, tr_non, tr_bl, tr_int, ty_non, ty_bl, ty_int, ty_tup, ty_ro, isa_int_int, isa_int_bool, isa_int_list, isa_int_tuple, isa_list_list, isa_list_tuple, isa_tuple_list, isa_tuple_tuple, sq_tup, sq_ro, bi_int_int, bi_int_bl, bi_tuple_tup, bi_min, bi_max, bi_len_tup, bi_len_ro, ix_tup, ix_ro, sl_tup, sl_ro, stays_tup, stays_ro, at_0, at_1, gc_ai, gc_aai, gc_aaai, gc_ab, gc_aab, gc_aaab, gc_an, gc_aan, gc_aaan, gc_same, wipe_nil, wipe_cons, sz_0, sz_1, sz_2, sz_3, sz_4, sz_5, sz_6, sz_7, sz_8, sz_9, sz_10, runDef, runFull, Def.full, startD, List.length_cons, List.length_nil, List.map_cons, List.map_nil, List.append_nil, List.nil_append, List.cons_append, List.drop_nil, List.drop_zero, List.set_cons_zero, List.set_cons_succ, List.replicate, if_true, if_false, Bool.not_true, Bool.not_false, Bool.true_or, Bool.false_or, Option.map_some, Option.map_none, Nat.zero_add, Nat.add_zero, Nat.sub_self, Nat.reduceAdd, Nat.reduceSub, ↓reduceIte, Bool.and_true, Bool.true_and, Bool.false_and, Bool.and_false, Int.cast_ofNat_Int, decide_true, decide_false, Int.reduceEq, Int.reduceLT, Int.reduceLE, Bool.false_eq_true, List.append_assoc, List.length_append, lk_app, lk_app0, lk_sapp, lk_sapp0, lk_z, lk_s, st_app, st_app0, st_sapp, st_sapp0, len_set, set_set, sq_lk, ix_lk, sl_lk, len_lk, tuple_lk, list_lk, list_tup, ty_lk, stays_lk, set_lk, add_lk, app_lk, ext_lk, clear_lk, recv_lk, get2_lk, tr_lk, gp_0, gp_1, gp_2, gp_3, gp_4, gp_5, gp_6, gp_7, gp_8, ko_n, ko_s, ko_p, gq_1, gq_2, gq_3, gq_4, gq_5, gq_6, gq_7, gq_8, gq_9, gq_10, gq_11, gq_12, gq_13, gq_14, gq_15, gq_16, gcR, Nat.lt_irrefl, Nat.not_lt_zero, List.take_succ_cons, List.take_zero, List.take_nil, D.beqL_self, at_2, at_3, ixN, Nat.reduceLT, Nat.reduceLeDiff, Int.reduceToNat, Int.reduceNeg, Int.reduceSub, Int.reduceAdd, Int.reduceMul, sz_lt, Int.zero_add, mod_int, pr_int, pr_bl, pr_non, pr_str, pr_tup, pr_nil, pr_cons, pr_lst, pr_ints, pr_prs, pr_app, pr_kD, mt_1, mt_2, mt_3, mt_4, mt_5, eq_D, ne_D, eqD_ll, eqD_tt, eqL_ll, eqS_same, eqS_nil, eqS_ints, eqD_ii, eqD_kk, py_app, py_nil, py_cons, py_ints, py_int, py_bl, py_non, py_kD, py_links, py_prs, py_mapi, pr_mapi, pr_linksT, lcS, ite_b, bnd_if, seqF_if, out_if, bopB_and, bopB_or, bopD_and, bopD_or, if_same_bool, if_bf, if_bx, if_xt, prD])
    subst e
    clear hX
    have hb : ps.length + 1 ≤ sizeLine := le_size (by omega)
    simp only [bnd_some, bnd_none, opt_some, opt_none, seqF_next, seqF_brk, seqF_cnt, seqF_ret, ts_nil, ts_cons, out_ret, out_next, ite_t, ite_f, bop_and_t, bop_and_f, bop_or_t, bop_or_f, bb_and_t, bb_and_f, bb_or_t, bb_or_f, slot_0, slot_s, e_con, b_con, e_var, b_var, e_glo, b_glo, e_tup, b_tup, e_lst, b_lst, e_dct, b_dct, e_op, b_op, e_neg, b_neg, e_not, b_not, e_bop, b_bop, e_cmp, b_cmp, e_chn, b_chn, e_ifx, b_ifx, e_ix, b_ix, e_sl, b_sl, e_call, b_call, e_bi, b_bi, e_mxd, b_mxd, e_isi, b_isi, e_isl, b_isl, e_lrg, b_lrg, e_mt, b_mt, e_lc, b_lc, bop_1, bop_2, bb_1, bb_2, es_nil, es_cons, eo_none, eo_some, if_none, if_some, i_ex, i_rng1, i_rng2, i_enm, q_nm, q_tp, q_sb, setK_some, qs_nil, qs_cons, t_asg, t_aug, t_ex, t_ret, t_retN, t_iff, t_fr, t_whl, t_brk, t_cnt, t_pas, con_none, con_bool, con_int, con_str, neg_int, not_bl, int_int, add_int, sub_int, lt_int, le_int, gt_int, ge_int, eq_int, ne_int, is_nn, is_in, is_bb, isn_nn, isn_in, isn_bb, tr_non, tr_bl, tr_int, ty_non, ty_bl, ty_int, ty_tup, ty_ro, isa_int_int, isa_int_bool, isa_int_list, isa_int_tuple, isa_list_list, isa_list_tuple, isa_tuple_list, isa_tuple_tuple, sq_tup, sq_ro, bi_int_int, bi_int_bl, bi_tuple_tup, bi_min, bi_max, bi_len_tup, bi_len_ro, ix_tup, ix_ro, sl_tup, sl_ro, stays_tup, stays_ro, at_0, at_1, gc_ai, gc_aai, gc_aaai, gc_ab, gc_aab, gc_aaab, gc_an, gc_aan, gc_aaan, gc_same, wipe_nil, wipe_cons, sz_0, sz_1, sz_2, sz_3, sz_4, sz_5, sz_6, sz_7, sz_8, sz_9, sz_10, runDef, runFull, Def.full, startD, List.length_cons, List.length_nil, List.map_cons, List.map_nil, List.append_nil, List.nil_append, List.cons_append, List.drop_nil, List.drop_zero, List.set_cons_zero, List.set_cons_succ, List.replicate, if_true, if_false, Bool.not_true, Bool.not_false, Bool.true_or, Bool.false_or, Option.map_some, Option.map_none, Nat.zero_add, Nat.add_zero, Nat.sub_self, Nat.reduceAdd, Nat.reduceSub, ↓reduceIte, Bool.and_true, Bool.true_and, Bool.false_and, Bool.and_false, Int.cast_ofNat_Int, decide_true, decide_false, Int.reduceEq, Int.reduceLT, Int.reduceLE, Bool.false_eq_true, List.append_assoc, List.length_append, lk_app, lk_app0, lk_sapp, lk_sapp0, lk_z, lk_s, st_app, st_app0, st_sapp, st_sapp0, len_set, set_set, sq_lk, ix_lk, sl_lk, len_lk, tuple_lk, list_lk, list_tup, ty_lk, stays_lk, set_lk, add_lk, app_lk, ext_lk, clear_lk, recv_lk, get2_lk, tr_lk, gp_0, gp_1, gp_2, gp_3, gp_4, gp_5, gp_6, gp_7, gp_8, ko_n, ko_s, ko_p, gq_1, gq_2, gq_3, gq_4, gq_5, gq_6, gq_7, gq_8, gq_9, gq_10, gq_11, gq_12, gq_13, gq_14, gq_15, gq_16, gcR, Nat.lt_irrefl, Nat.not_lt_zero, List.take_succ_cons, List.take_zero, List.take_nil, D.beqL_self, at_2, at_3, ixN, Nat.reduceLT, Nat.reduceLeDiff, Int.reduceToNat, Int.reduceNeg, Int.reduceSub, Int.reduceAdd, Int.reduceMul, sz_lt, Int.zero_add, mod_int, pr_int, pr_bl, pr_non, pr_str, pr_tup, pr_nil, pr_cons, pr_lst, pr_ints, pr_prs, pr_app, pr_kD, mt_1, mt_2, mt_3, mt_4, mt_5, eq_D, ne_D, eqD_ll, eqD_tt, eqL_ll, eqS_same, eqS_nil, eqS_ints, eqD_ii, eqD_kk, py_app, py_nil, py_cons, py_ints, py_int, py_bl, py_non, py_kD, py_links, py_prs, py_mapi, pr_mapi, pr_linksT, keysAt_map, t2, lk_old t2, List.length_map, hb, kD_places]
    generalize hX : forD _ _ _ _ _ _ = X
    have key := for_M hX (fun _ σ U => (∃ (y z w : Option D), σ = [some (.tup (tw.map prD)), some (.loc m), some (.int (hiT tw)), some (.loc S.length), some (.int l), y, z, w]) ∧ U = T ++ [.lst [.non], .lst ((ps.map some ++ [none]).map kD)])
      (fun X => ∃ (y z w : Option D), X = some (.next [some (.tup (tw.map prD)), some (.loc m), some (.int (hiT tw)), some (.loc S.length), some (.int l), y, z, w], T ++ [.lst [.non], .lst ((ps.map some ++ [none]).map kD)])) ⟨⟨_, _, _, rfl⟩, rfl⟩ ?_ ?_
    · obtain ⟨y, z, w, rfl⟩ := key
      simp only [bnd_some, bnd_none, opt_some, opt_none, seqF_next, seqF_brk, seqF_cnt, seqF_ret, ts_nil, ts_cons, out_ret, out_next, ite_t, ite_f, bop_and_t, bop_and_f, bop_or_t, bop_or_f, bb_and_t, bb_and_f, bb_or_t, bb_or_f, slot_0, slot_s, e_con, b_con, e_var, b_var, e_glo, b_glo, e_tup, b_tup, e_lst, b_lst, e_dct, b_dct, e_op, b_op, e_neg, b_neg, e_not, b_not, e_bop, b_bop, e_cmp, b_cmp, e_chn, b_chn, e_ifx, b_ifx, e_ix, b_ix, e_sl, b_sl, e_call, b_call, e_bi, b_bi, e_mxd, b_mxd, e_isi, b_isi, e_isl, b_isl, e_lrg, b_lrg, e_mt, b_mt, e_lc, b_lc, bop_1, bop_2, bb_1, bb_2, es_nil, es_cons, eo_none, eo_some, if_none, if_some, i_ex, i_rng1, i_rng2, i_enm, q_nm, q_tp, q_sb, setK_some, qs_nil, qs_cons, t_asg, t_aug, t_ex, t_ret, t_retN, t_iff, t_fr, t_whl, t_brk, t_cnt, t_pas, con_none, con_bool, con_int, con_str, neg_int, not_bl, int_int, add_int, sub_int, lt_int, le_int, gt_int, ge_int, eq_int, ne_int, is_nn, is_in, is_bb, isn_nn, isn_in, isn_bb, tr_non, tr_bl, tr_int, ty_non, ty_bl, ty_int, ty_tup, ty_ro, isa_int_int, isa_int_bool, isa_int_list, isa_int_tuple, isa_list_list, isa_list_tuple, isa_tuple_list, isa_tuple_tuple, sq_tup, sq_ro, bi_int_int, bi_int_bl, bi_tuple_tup, bi_min, bi_max, bi_len_tup, bi_len_ro, ix_tup, ix_ro, sl_tup, sl_ro, stays_tup, stays_ro, at_0, at_1, gc_ai, gc_aai, gc_aaai, gc_ab, gc_aab, gc_aaab, gc_an, gc_aan, gc_aaan, gc_same, wipe_nil, wipe_cons, sz_0, sz_1, sz_2, sz_3, sz_4, sz_5, sz_6, sz_7, sz_8, sz_9, sz_10, runDef, runFull, Def.full, startD, List.length_cons, List.length_nil, List.map_cons, List.map_nil, List.append_nil, List.nil_append, List.cons_append, List.drop_nil, List.drop_zero, List.set_cons_zero, List.set_cons_succ, List.replicate, if_true, if_false, Bool.not_true, Bool.not_false, Bool.true_or, Bool.false_or, Option.map_some, Option.map_none, Nat.zero_add, Nat.add_zero, Nat.sub_self, Nat.reduceAdd, Nat.reduceSub, ↓reduceIte, Bool.and_true, Bool.true_and, Bool.false_and, Bool.and_false, Int.cast_ofNat_Int, decide_true, decide_false, Int.reduceEq, Int.reduceLT, Int.reduceLE, Bool.false_eq_true, List.append_assoc, List.length_append, lk_app, lk_app0, lk_sapp, lk_sapp0, lk_z, lk_s, st_app, st_app0, st_sapp, st_sapp0, len_set, set_set, sq_lk, ix_lk, sl_lk, len_lk, tuple_lk, list_lk, list_tup, ty_lk, stays_lk, set_lk, add_lk, app_lk, ext_lk, clear_lk, recv_lk, get2_lk, tr_lk, gp_0, gp_1, gp_2, gp_3, gp_4, gp_5, gp_6, gp_7, gp_8, ko_n, ko_s, ko_p, gq_1, gq_2, gq_3, gq_4, gq_5, gq_6, gq_7, gq_8, gq_9, gq_10, gq_11, gq_12, gq_13, gq_14, gq_15, gq_16, gcR, Nat.lt_irrefl, Nat.not_lt_zero, List.take_succ_cons, List.take_zero, List.take_nil, D.beqL_self, at_2, at_3, ixN, Nat.reduceLT, Nat.reduceLeDiff, Int.reduceToNat, Int.reduceNeg, Int.reduceSub, Int.reduceAdd, Int.reduceMul, sz_lt, Int.zero_add, mod_int, pr_int, pr_bl, pr_non, pr_str, pr_tup, pr_nil, pr_cons, pr_lst, pr_ints, pr_prs, pr_app, pr_kD, mt_1, mt_2, mt_3, mt_4, mt_5, eq_D, ne_D, eqD_ll, eqD_tt, eqL_ll, eqS_same, eqS_nil, eqS_ints, eqD_ii, eqD_kk, py_app, py_nil, py_cons, py_ints, py_int, py_bl, py_non, py_kD, py_links, py_prs, py_mapi, pr_mapi, pr_linksT]
      exact ⟨⟨_, _, _, _, rfl⟩, ⟨G ++ [.lst [.non], .lst ((ps.map some ++ [none]).map kD)], by rw [hT]; simp⟩, fun q hq => hr q (List.mem_cons_of_mem _ hq)⟩
    · rintro σ U ⟨⟨y, z, w, rfl⟩, rfl⟩
      exact ⟨by simp only [List.append_assoc, List.length_append, lk_app, lk_app0, lk_sapp, lk_sapp0, lk_z, lk_s, st_app, st_app0, st_sapp, st_sapp0, len_set, set_set, sq_lk, ix_lk, sl_lk, len_lk, tuple_lk, list_lk, list_tup, ty_lk, stays_lk, set_lk, add_lk, app_lk, ext_lk, clear_lk, recv_lk, get2_lk, tr_lk, gp_0, gp_1, gp_2, gp_3, gp_4, gp_5, gp_6, gp_7, gp_8, ko_n, ko_s, ko_p, gq_1, gq_2, gq_3, gq_4, gq_5, gq_6, gq_7, gq_8, gq_9, gq_10, gq_11, gq_12, gq_13, gq_14, gq_15, gq_16, gcR, Nat.lt_irrefl, Nat.not_lt_zero, List.take_succ_cons, List.take_zero, List.take_nil, D.beqL_self, at_2, at_3, ixN, Nat.reduceLT, Nat.reduceLeDiff, Int.reduceToNat, Int.reduceNeg, Int.reduceSub, Int.reduceAdd, Int.reduceMul, sz_lt, Int.zero_add, mod_int, pr_int, pr_bl, pr_non, pr_str, pr_tup, pr_nil, pr_cons, pr_lst, pr_ints, pr_prs, pr_app, pr_kD, mt_1, mt_2, mt_3, mt_4, mt_5, eq_D, ne_D, eqD_ll, eqD_tt, eqL_ll, eqS_same, eqS_nil, eqS_ints, eqD_ii, eqD_kk, py_app, py_nil, py_cons, py_ints, py_int, py_bl, py_non, py_kD, py_links, py_prs, py_mapi, pr_mapi, pr_linksT], y, z, w, rfl⟩
    · clear hX X
      rintro q qs σ U ⟨⟨y, z, w, rfl⟩, rfl⟩
      refine ⟨by simp only [List.append_assoc, List.length_append, lk_app, lk_app0, lk_sapp, lk_sapp0, lk_z, lk_s, st_app, st_app0, st_sapp, st_sapp0, len_set, set_set, sq_lk, ix_lk, sl_lk, len_lk, tuple_lk, list_lk, list_tup, ty_lk, stays_lk, set_lk, add_lk, app_lk, ext_lk, clear_lk, recv_lk, get2_lk, tr_lk, gp_0, gp_1, gp_2, gp_3, gp_4, gp_5, gp_6, gp_7, gp_8, ko_n, ko_s, ko_p, gq_1, gq_2, gq_3, gq_4, gq_5, gq_6, gq_7, gq_8, gq_9, gq_10, gq_11, gq_12, gq_13, gq_14, gq_15, gq_16, gcR, Nat.lt_irrefl, Nat.not_lt_zero, List.take_succ_cons, List.take_zero, List.take_nil, D.beqL_self, at_2, at_3, ixN, Nat.reduceLT, Nat.reduceLeDiff, Int.reduceToNat, Int.reduceNeg, Int.reduceSub, Int.reduceAdd, Int.reduceMul, sz_lt, Int.zero_add, mod_int, pr_int, pr_bl, pr_non, pr_str, pr_tup, pr_nil, pr_cons, pr_lst, pr_ints, pr_prs, pr_app, pr_kD, mt_1, mt_2, mt_3, mt_4, mt_5, eq_D, ne_D, eqD_ll, eqD_tt, eqL_ll, eqS_same, eqS_nil, eqS_ints, eqD_ii, eqD_kk, py_app, py_nil, py_cons, py_ints, py_int, py_bl, py_non, py_kD, py_links, py_prs, py_mapi, pr_mapi, pr_linksT], ?_⟩
      simp only [bnd_some, bnd_none, opt_some, opt_none, seqF_next, seqF_brk, seqF_cnt, seqF_ret, ts_nil, ts_cons, out_ret, out_next, ite_t, ite_f, bop_and_t, bop_and_f, bop_or_t, bop_or_f, bb_and_t, bb_and_f, bb_or_t, bb_or_f, slot_0, slot_s, e_con, b_con, e_var, b_var, e_glo, b_glo, e_tup, b_tup, e_lst, b_lst, e_dct, b_dct, e_op, b_op, e_neg, b_neg, e_not, b_not, e_bop, b_bop, e_cmp, b_cmp, e_chn, b_chn, e_ifx, b_ifx, e_ix, b_ix, e_sl, b_sl, e_call, b_call, e_bi, b_bi, e_mxd, b_mxd, e_isi, b_isi, e_isl, b_isl, e_lrg, b_lrg, e_mt, b_mt, e_lc, b_lc, bop_1, bop_2, bb_1, bb_2, es_nil, es_cons, eo_none, eo_some, if_none, if_some, i_ex, i_rng1, i_rng2, i_enm, q_nm, q_tp, q_sb, setK_some, qs_nil, qs_cons, t_asg, t_aug, t_ex, t_ret, t_retN, t_iff, t_fr, t_whl, t_brk, t_cnt, t_pas, con_none, con_bool, con_int, con_str, neg_int, not_bl, int_int, add_int, sub_int, lt_int, le_int, gt_int, ge_int, eq_int, ne_int, is_nn, is_in, is_bb, isn_nn, isn_in, isn_bb, tr_non, tr_bl, tr_int, ty_non, ty_bl, ty_int, ty_tup, ty_ro, isa_int_int, isa_int_bool, isa_int_list, isa_int_tuple, isa_list_list, isa_list_tuple, isa_tuple_list, isa_tuple_tuple, sq_tup, sq_ro, bi_int_int, bi_int_bl, bi_tuple_tup, bi_min, bi_max, bi_len_tup, bi_len_ro, ix_tup, ix_ro, sl_tup, sl_ro, stays_tup, stays_ro, at_0, at_1, gc_ai, gc_aai, gc_aaai, gc_ab, gc_aab, gc_aaab, gc_an, gc_aan, gc_aaan, gc_same, wipe_nil, wipe_cons, sz_0, sz_1, sz_2, sz_3, sz_4, sz_5, sz_6, sz_7, sz_8, sz_9, sz_10, runDef, runFull, Def.full, startD, List.length_cons, List.length_nil, List.map_cons, List.map_nil, List.append_nil, List.nil_append, List.cons_append, List.drop_nil, List.drop_zero, List.set_cons_zero, List.set_cons_succ, List.replicate, if_true, if_false, Bool.not_true, Bool.not_false, Bool.true_or, Bool.false_or, Option.map_some, Option.map_none, Nat.zero_add, Nat.add_zero, Nat.sub_self, Nat.reduceAdd, Nat.reduceSub, ↓reduceIte, Bool.and_true, Bool.true_and, Bool.false_and, Bool.and_false, Int.cast_ofNat_Int, decide_true, decide_false, Int.reduceEq, Int.reduceLT, Int.reduceLE, Bool.false_eq_true, List.append_assoc, List.length_append, lk_app, lk_app0, lk_sapp, lk_sapp0, lk_z, lk_s, st_app, st_app0, st_sapp, st_sapp0, len_set, set_set, sq_lk, ix_lk, sl_lk, len_lk, tuple_lk, list_lk, list_tup, ty_lk, stays_lk, set_lk, add_lk, app_lk, ext_lk, clear_lk, recv_lk, get2_lk, tr_lk, gp_0, gp_1, gp_2, gp_3, gp_4, gp_5, gp_6, gp_7, gp_8, ko_n, ko_s, ko_p, gq_1, gq_2, gq_3, gq_4, gq_5, gq_6, gq_7, gq_8, gq_9, gq_10, gq_11, gq_12, gq_13, gq_14, gq_15, gq_16, gcR, Nat.lt_irrefl, Nat.not_lt_zero, List.take_succ_cons, List.take_zero, List.take_nil, D.beqL_self, at_2, at_3, ixN, Nat.reduceLT, Nat.reduceLeDiff, Int.reduceToNat, Int.reduceNeg, Int.reduceSub, Int.reduceAdd, Int.reduceMul, sz_lt, Int.zero_add, mod_int, pr_int, pr_bl, pr_non, pr_str, pr_tup, pr_nil, pr_cons, pr_lst, pr_ints, pr_prs, pr_app, pr_kD, mt_1, mt_2, mt_3, mt_4, mt_5, eq_D, ne_D, eqD_ll, eqD_tt, eqL_ll, eqS_same, eqS_nil, eqS_ints, eqD_ii, eqD_kk, py_app, py_nil, py_cons, py_ints, py_int, py_bl, py_non, py_kD, py_links, py_prs, py_mapi, pr_mapi, pr_linksT, next_key_of k (hv _) hl1, law_next_key_of]
      exact ⟨⟨_, _, _, rfl⟩, rfl⟩
end K01

end

section
set_option maxHeartbeats 1000000
namespace K01
open PySem PySem.Spec Mi
open L2 (atI ixN Key)
theorem towers_g (k : Nat) {m : Nat} {S : Store} {a b c many high : Int} (hs : lk S m = some (src a b c)) (hm : 0 ≤ many) (hm2 : many ≤ 900) (hh : 1 ≤ high) :
    ∃ tw a' c', orc defs (k + 3) 19 [.loc m, .int many, .int high] S = some (.tup (tw.map prD), S.set m (src a' b c')) ∧ Fine tw ∧ tw.length ≤ many.toNat ∧ ∀ p ∈ tw, p.2 ≤ high := by
  have := towers_of k (a := a) (b := b) (c := c) hs hm hm2 hh
  rwa [set_lk_self hs] at this
theorem law_step (k : Nat) : True := trivial
theorem law_gen (k : Nat) (ns : List Int) : ∃ S', runFull (orc defs (k + 10)) d_law [.ro (ns.map D.int)] [] = some (.bl true, S') := by
  have hc : cut (ns.map D.int) none (some 6) = (ns.take 6).map D.int := by
    rw [show (some (6 : Int)) = some ((6 : Nat) : Int) from rfl, cut_upto, List.map_take]
  have hc2 : (ns.take 6).map D.int ++ [.int 0] = (ns.take 6 ++ [0]).map D.int := by simp
  have hl : (ns.take 6).length + 1 ≤ sizeLine := le_size (by rw [List.length_take]; omega)
  simp only [d_law, b_law, bnd_some, bnd_none, opt_some, opt_none, seqF_next, seqF_brk, seqF_cnt, seqF_ret, ts_nil, ts_cons, out_ret, out_next, ite_t, ite_f, bop_and_t, bop_and_f, bop_or_t, bop_or_f, bb_and_t, bb_and_f, bb_or_t, bb_or_f, slot_0, slot_s, e_con, b_con, e_var, b_var, e_glo, b_glo, e_tup, b_tup, e_lst, b_lst, e_dct, b_dct, e_op, b_op, e_neg, b_neg, e_not, b_not, e_bop, b_bop, e_cmp, b_cmp, e_chn, b_chn, e_ifx, b_ifx, e_ix, b_ix, e_sl, b_sl, e_call, b_call, e_bi, b_bi, e_mxd, b_mxd, e_isi, b_isi, e_isl, b_isl, e_lrg, b_lrg, e_mt, b_mt, e_lc, b_lc, bop_1, bop_2, bb_1, bb_2, es_nil, es_cons, eo_none, eo_some, if_none, if_some, i_ex, i_rng1, i_rng2, i_enm, q_nm, q_tp, q_sb, setK_some, qs_nil, qs_cons, t_asg, t_aug, t_ex, t_ret, t_retN, t_iff, t_fr, t_whl, t_brk, t_cnt, t_pas, con_none, con_bool, con_int, con_str, neg_int, not_bl, int_int, add_int, sub_int, lt_int, le_int, gt_int, ge_int, eq_int, ne_int, is_nn, is_in, is_bb, isn_nn, isn_in, isn_bb, tr_non, tr_bl, tr_int, ty_non, ty_bl, ty_int, ty_tup, ty_ro, isa_int_int, isa_int_bool, isa_int_list, isa_int_tuple, isa_list_list, isa_list_tuple, isa_tuple_list, isa_tuple_tuple, sq_tup, sq_ro, bi_int_int, bi_int_bl, bi_tuple_tup, bi_min, bi_max, bi_len_tup, bi_len_ro, ix_tup, ix_ro, sl_tup, sl_ro, stays_tup, stays_ro, at_0, at_1, gc_ai, gc_aai, gc_aaai, gc_ab, gc_aab, gc_aaab, gc_an, gc_aan, gc_aaan, gc_same, wipe_nil, wipe_cons, sz_0, sz_1, sz_2, sz_3, sz_4, sz_5, sz_6, sz_7, sz_8, sz_9, sz_10, runDef, runFull, Def.full, startD, List.length_cons, List.length_nil, List.map_cons, List.map_nil, List.append_nil, List.nil_append, List.cons_append, List.drop_nil, List.drop_zero, List.set_cons_zero, List.set_cons_succ, List.replicate, if_true, if_false, Bool.not_true, Bool.not_false, Bool.true_or, Bool.false_or, Option.map_some, Option.map_none, Nat.zero_add, Nat.add_zero, Nat.sub_self, Nat.reduceAdd, Nat.reduceSub, ↓reduceIte, Bool.and_true, Bool.true_and, Bool.false_and, Bool.and_false, Int.cast_ofNat_Int, decide_true, decide_false, Int.reduceEq, Int.reduceLT, Int.reduceLE, Bool.false_eq_true, List.append_assoc, List.length_append, lk_app, lk_app0, lk_sapp, lk_sapp0, lk_z, lk_s, st_app, st_app0, st_sapp, st_sapp0, len_set, set_set, sq_lk, ix_lk, sl_lk, len_lk, tuple_lk, list_lk, list_tup, ty_lk, stays_lk, set_lk, add_lk, app_lk, ext_lk, clear_lk, recv_lk, get2_lk, tr_lk, gp_0, gp_1, gp_2, gp_3, gp_4, gp_5, gp_6, gp_7, gp_8, ko_n, ko_s, ko_p, gq_1, gq_2, gq_3, gq_4, gq_5, gq_6, gq_7, gq_8, gq_9, gq_10, gq_11, gq_12, gq_13, gq_14, gq_15, gq_16, gcR, Nat.lt_irrefl, Nat.not_lt_zero, List.take_succ_cons, List.take_zero, List.take_nil, D.beqL_self, at_2, at_3, ixN, Nat.reduceLT, Nat.reduceLeDiff, Int.reduceToNat, Int.reduceNeg, Int.reduceSub, Int.reduceAdd, Int.reduceMul, sz_lt, Int.zero_add, mod_int, pr_int, pr_bl, pr_non, pr_str, pr_tup, pr_nil, pr_cons, pr_lst, pr_ints, pr_prs, pr_app, pr_kD, mt_1, mt_2, mt_3, mt_4, mt_5, eq_D, ne_D, eqD_ll, eqD_tt, eqL_ll, eqS_same, eqS_nil, eqS_ints, eqD_ii, eqD_kk, py_app, py_nil, py_cons, py_ints, py_int, py_bl, py_non, py_kD, py_links, py_prs, py_mapi, pr_mapi, pr_linksT, hc, List.length_map, hl, hc2]
  generalize hX : forD _ _ _ _ _ _ = X
  have key := for_M hX (fun _ σ T => (∃ (x1 x2 x3 x4 x5 x6 x7 x8 x9 x10 : Option D), σ = [some (.ro (ns.map D.int)), x1, x2, x3, x4, x5, x6, x7, x8, x9, x10]) ∧ lk T 2 = some (.lst ((ns.take 6 ++ [0]).map D.int)))
    (fun X => ∃ σ T, X = some (.next σ, T)) ⟨⟨_, _, _, _, _, _, _, _, _, _, rfl⟩, rfl⟩ ?_ ?_
  · obtain ⟨σ, T, rfl⟩ := key
    have ht : ∀ T, IsTw T (.tup []) [] := fun T => .tup (tw := []) trivial (by simp)
    have ht2 : ∀ T, IsTw (T ++ [.lst []]) (.loc T.length) [] := fun T => ⟨⟨[], by rw [sq_lk, lk_app0]; rfl, trivial⟩, trivial, by simp⟩
    have l1 := fun T => links_of (k + 5) (ht T) (by simp)
    have l2 := fun T => lane_of (k + 5) (ht T) (l := 3) (by decide)
    have l3 := fun T => top_of (k + 5) (ht T)
    have l4 := fun T => heights_of (k + 5) (ht2 T)
    have l5 := fun T => is_towers_of (k + 6) (ht T)
    rw [show linksT [] = [] from rfl] at l1
    rw [show keysAt [] 3 = [] from rfl] at l2
    rw [show hiT [] = 0 from rfl] at l3
    simp only [bnd_some, bnd_none, opt_some, opt_none, seqF_next, seqF_brk, seqF_cnt, seqF_ret, ts_nil, ts_cons, out_ret, out_next, ite_t, ite_f, bop_and_t, bop_and_f, bop_or_t, bop_or_f, bb_and_t, bb_and_f, bb_or_t, bb_or_f, slot_0, slot_s, e_con, b_con, e_var, b_var, e_glo, b_glo, e_tup, b_tup, e_lst, b_lst, e_dct, b_dct, e_op, b_op, e_neg, b_neg, e_not, b_not, e_bop, b_bop, e_cmp, b_cmp, e_chn, b_chn, e_ifx, b_ifx, e_ix, b_ix, e_sl, b_sl, e_call, b_call, e_bi, b_bi, e_mxd, b_mxd, e_isi, b_isi, e_isl, b_isl, e_lrg, b_lrg, e_mt, b_mt, e_lc, b_lc, bop_1, bop_2, bb_1, bb_2, es_nil, es_cons, eo_none, eo_some, if_none, if_some, i_ex, i_rng1, i_rng2, i_enm, q_nm, q_tp, q_sb, setK_some, qs_nil, qs_cons, t_asg, t_aug, t_ex, t_ret, t_retN, t_iff, t_fr, t_whl, t_brk, t_cnt, t_pas, con_none, con_bool, con_int, con_str, neg_int, not_bl, int_int, add_int, sub_int, lt_int, le_int, gt_int, ge_int, eq_int, ne_int, is_nn, is_in, is_bb, isn_nn, isn_in, isn_bb, tr_non, tr_bl, tr_int, ty_non, ty_bl, ty_int, ty_tup, ty_ro, isa_int_int, isa_int_bool, isa_int_list, isa_int_tuple, isa_list_list, isa_list_tuple, isa_tuple_list, isa_tuple_tuple, sq_tup, sq_ro, bi_int_int, bi_int_bl, bi_tuple_tup, bi_min, bi_max, bi_len_tup, bi_len_ro, ix_tup, ix_ro, sl_tup, sl_ro, stays_tup, stays_ro, at_0, at_1, gc_ai, gc_aai, gc_aaai, gc_ab, gc_aab, gc_aaab, gc_an, gc_aan, gc_aaan, gc_same, wipe_nil, wipe_cons, sz_0, sz_1, sz_2, sz_3, sz_4, sz_5, sz_6, sz_7, sz_8, sz_9, sz_10, runDef, runFull, Def.full, startD, List.length_cons, List.length_nil, List.map_cons, List.map_nil, List.append_nil, List.nil_append, List.cons_append, List.drop_nil, List.drop_zero, List.set_cons_zero, List.set_cons_succ, List.replicate, if_true, if_false, Bool.not_true, Bool.not_false, Bool.true_or, Bool.false_or, Option.map_some, Option.map_none, Nat.zero_add, Nat.add_zero, Nat.sub_self, Nat.reduceAdd, Nat.reduceSub, ↓reduceIte, Bool.and_true, Bool.true_and, Bool.false_and, Bool.and_false, Int.cast_ofNat_Int, decide_true, decide_false, Int.reduceEq, Int.reduceLT, Int.reduceLE, Bool.false_eq_true, List.append_assoc, List.length_append, lk_app, lk_app0, lk_sapp, lk_sapp0, lk_z, lk_s, st_app, st_app0, st_sapp, st_sapp0, len_set, set_set, sq_lk, ix_lk, sl_lk, len_lk, tuple_lk, list_lk, list_tup, ty_lk, stays_lk, set_lk, add_lk, app_lk, ext_lk, clear_lk, recv_lk, get2_lk, tr_lk, gp_0, gp_1, gp_2, gp_3, gp_4, gp_5, gp_6, gp_7, gp_8, ko_n, ko_s, ko_p, gq_1, gq_2, gq_3, gq_4, gq_5, gq_6, gq_7, gq_8, gq_9, gq_10, gq_11, gq_12, gq_13, gq_14, gq_15, gq_16, gcR, Nat.lt_irrefl, Nat.not_lt_zero, List.take_succ_cons, List.take_zero, List.take_nil, D.beqL_self, at_2, at_3, ixN, Nat.reduceLT, Nat.reduceLeDiff, Int.reduceToNat, Int.reduceNeg, Int.reduceSub, Int.reduceAdd, Int.reduceMul, sz_lt, Int.zero_add, mod_int, pr_int, pr_bl, pr_non, pr_str, pr_tup, pr_nil, pr_cons, pr_lst, pr_ints, pr_prs, pr_app, pr_kD, mt_1, mt_2, mt_3, mt_4, mt_5, eq_D, ne_D, eqD_ll, eqD_tt, eqL_ll, eqS_same, eqS_nil, eqS_ints, eqD_ii, eqD_kk, py_app, py_nil, py_cons, py_ints, py_int, py_bl, py_non, py_kD, py_links, py_prs, py_mapi, pr_mapi, pr_linksT, l1, l2, l3, l4, l5]
    exact ⟨_, rfl⟩
  · rintro σ T ⟨⟨x1, x2, x3, x4, x5, x6, x7, x8, x9, x10, rfl⟩, hT⟩
    exact ⟨by rw [stays_lk, hT]; exact D.beqL_self _, _, _, rfl⟩
  · clear hX X
    rintro i r σ T ⟨⟨x1, x2, x3, x4, x5, x6, x7, x8, x9, x10, rfl⟩, hT⟩
    refine ⟨by rw [stays_lk, hT]; exact D.beqL_self _, ?_⟩
    obtain ⟨a, b, e1⟩ := source_of_of (k + 9) i T
    obtain ⟨tw, a2, c2, e2, hf, hlen, hh⟩ := towers_g (k + 7) (S := T ++ [src a b 0]) (m := T.length) (many := 30) (high := 9) lk_app0 (by decide) (by decide) (by decide)
    rw [st_app0, List.set_cons_zero] at e2
    simp only [bnd_some, bnd_none, opt_some, opt_none, seqF_next, seqF_brk, seqF_cnt, seqF_ret, ts_nil, ts_cons, out_ret, out_next, ite_t, ite_f, bop_and_t, bop_and_f, bop_or_t, bop_or_f, bb_and_t, bb_and_f, bb_or_t, bb_or_f, slot_0, slot_s, e_con, b_con, e_var, b_var, e_glo, b_glo, e_tup, b_tup, e_lst, b_lst, e_dct, b_dct, e_op, b_op, e_neg, b_neg, e_not, b_not, e_bop, b_bop, e_cmp, b_cmp, e_chn, b_chn, e_ifx, b_ifx, e_ix, b_ix, e_sl, b_sl, e_call, b_call, e_bi, b_bi, e_mxd, b_mxd, e_isi, b_isi, e_isl, b_isl, e_lrg, b_lrg, e_mt, b_mt, e_lc, b_lc, bop_1, bop_2, bb_1, bb_2, es_nil, es_cons, eo_none, eo_some, if_none, if_some, i_ex, i_rng1, i_rng2, i_enm, q_nm, q_tp, q_sb, setK_some, qs_nil, qs_cons, t_asg, t_aug, t_ex, t_ret, t_retN, t_iff, t_fr, t_whl, t_brk, t_cnt, t_pas, con_none, con_bool, con_int, con_str, neg_int, not_bl, int_int, add_int, sub_int, lt_int, le_int, gt_int, ge_int, eq_int, ne_int, is_nn, is_in, is_bb, isn_nn, isn_in, isn_bb, tr_non, tr_bl, tr_int, ty_non, ty_bl, ty_int, ty_tup, ty_ro, isa_int_int, isa_int_bool, isa_int_list, isa_int_tuple, isa_list_list, isa_list_tuple, isa_tuple_list, isa_tuple_tuple, sq_tup, sq_ro, bi_int_int, bi_int_bl, bi_tuple_tup, bi_min, bi_max, bi_len_tup, bi_len_ro, ix_tup, ix_ro, sl_tup, sl_ro, stays_tup, stays_ro, at_0, at_1, gc_ai, gc_aai, gc_aaai, gc_ab, gc_aab, gc_aaab, gc_an, gc_aan, gc_aaan, gc_same, wipe_nil, wipe_cons, sz_0, sz_1, sz_2, sz_3, sz_4, sz_5, sz_6, sz_7, sz_8, sz_9, sz_10, runDef, runFull, Def.full, startD, List.length_cons, List.length_nil, List.map_cons, List.map_nil, List.append_nil, List.nil_append, List.cons_append, List.drop_nil, List.drop_zero, List.set_cons_zero, List.set_cons_succ, List.replicate, if_true, if_false, Bool.not_true, Bool.not_false, Bool.true_or, Bool.false_or, Option.map_some, Option.map_none, Nat.zero_add, Nat.add_zero, Nat.sub_self, Nat.reduceAdd, Nat.reduceSub, ↓reduceIte, Bool.and_true, Bool.true_and, Bool.false_and, Bool.and_false, Int.cast_ofNat_Int, decide_true, decide_false, Int.reduceEq, Int.reduceLT, Int.reduceLE, Bool.false_eq_true, List.append_assoc, List.length_append, lk_app, lk_app0, lk_sapp, lk_sapp0, lk_z, lk_s, st_app, st_app0, st_sapp, st_sapp0, len_set, set_set, sq_lk, ix_lk, sl_lk, len_lk, tuple_lk, list_lk, list_tup, ty_lk, stays_lk, set_lk, add_lk, app_lk, ext_lk, clear_lk, recv_lk, get2_lk, tr_lk, gp_0, gp_1, gp_2, gp_3, gp_4, gp_5, gp_6, gp_7, gp_8, ko_n, ko_s, ko_p, gq_1, gq_2, gq_3, gq_4, gq_5, gq_6, gq_7, gq_8, gq_9, gq_10, gq_11, gq_12, gq_13, gq_14, gq_15, gq_16, gcR, Nat.lt_irrefl, Nat.not_lt_zero, List.take_succ_cons, List.take_zero, List.take_nil, D.beqL_self, at_2, at_3, ixN, Nat.reduceLT, Nat.reduceLeDiff, Int.reduceToNat, Int.reduceNeg, Int.reduceSub, Int.reduceAdd, Int.reduceMul, sz_lt, Int.zero_add, mod_int, pr_int, pr_bl, pr_non, pr_str, pr_tup, pr_nil, pr_cons, pr_lst, pr_ints, pr_prs, pr_app, pr_kD, mt_1, mt_2, mt_3, mt_4, mt_5, eq_D, ne_D, eqD_ll, eqD_tt, eqL_ll, eqS_same, eqS_nil, eqS_ints, eqD_ii, eqD_kk, py_app, py_nil, py_cons, py_ints, py_int, py_bl, py_non, py_kD, py_links, py_prs, py_mapi, pr_mapi, pr_linksT, e1, e2]
    generalize hX : forD _ _ _ _ _ _ = X
    have key := for_M hX (fun r σ U => ∃ (h : Int) (y5 y6 : Option D), σ = [some (.ro (ns.map D.int)), some (.int i), some (.loc T.length), some (.tup (tw.map prD)), some (.int h), y5, y6, x7, x8, x9, x10] ∧ U = T ++ [src a2 b c2] ∧ (r.foldl (fun a p => if p.2 > a then p.2 else a) h : Int) = hiT tw)
      (fun X => ∃ (y5 y6 : Option D), X = some (.next [some (.ro (ns.map D.int)), some (.int i), some (.loc T.length), some (.tup (tw.map prD)), some (.int (hiT tw)), y5, y6, x7, x8, x9, x10], T ++ [src a2 b c2])) ⟨0, _, _, rfl, rfl, hiT_fold hf⟩ ?_ ?_
    rotate_left
    · rintro σ U ⟨h, y5, y6, rfl, rfl, e⟩
      exact ⟨rfl, y5, y6, by rw [← e]; rfl⟩
    · clear hX X
      rintro p r σ U ⟨h, y5, y6, rfl, rfl, e⟩
      refine ⟨rfl, ?_⟩
      simp only [bnd_some, bnd_none, opt_some, opt_none, seqF_next, seqF_brk, seqF_cnt, seqF_ret, ts_nil, ts_cons, out_ret, out_next, ite_t, ite_f, bop_and_t, bop_and_f, bop_or_t, bop_or_f, bb_and_t, bb_and_f, bb_or_t, bb_or_f, slot_0, slot_s, e_con, b_con, e_var, b_var, e_glo, b_glo, e_tup, b_tup, e_lst, b_lst, e_dct, b_dct, e_op, b_op, e_neg, b_neg, e_not, b_not, e_bop, b_bop, e_cmp, b_cmp, e_chn, b_chn, e_ifx, b_ifx, e_ix, b_ix, e_sl, b_sl, e_call, b_call, e_bi, b_bi, e_mxd, b_mxd, e_isi, b_isi, e_isl, b_isl, e_lrg, b_lrg, e_mt, b_mt, e_lc, b_lc, bop_1, bop_2, bb_1, bb_2, es_nil, es_cons, eo_none, eo_some, if_none, if_some, i_ex, i_rng1, i_rng2, i_enm, q_nm, q_tp, q_sb, setK_some, qs_nil, qs_cons, t_asg, t_aug, t_ex, t_ret, t_retN, t_iff, t_fr, t_whl, t_brk, t_cnt, t_pas, con_none, con_bool, con_int, con_str, neg_int, not_bl, int_int, add_int, sub_int, lt_int, le_int, gt_int, ge_int, eq_int, ne_int, is_nn, is_in, is_bb, isn_nn, isn_in, isn_bb, tr_non, tr_bl, tr_int, ty_non, ty_bl, ty_int, ty_tup, ty_ro, isa_int_int, isa_int_bool, isa_int_list, isa_int_tuple, isa_list_list, isa_list_tuple, isa_tuple_list, isa_tuple_tuple, sq_tup, sq_ro, bi_int_int, bi_int_bl, bi_tuple_tup, bi_min, bi_max, bi_len_tup, bi_len_ro, ix_tup, ix_ro, sl_tup, sl_ro, stays_tup, stays_ro, at_0, at_1, gc_ai, gc_aai, gc_aaai, gc_ab, gc_aab, gc_aaab, gc_an, gc_aan, gc_aaan, gc_same, wipe_nil, wipe_cons, sz_0, sz_1, sz_2, sz_3, sz_4, sz_5, sz_6, sz_7, sz_8, sz_9, sz_10, runDef, runFull, Def.full, startD, List.length_cons, List.length_nil, List.map_cons, List.map_nil, List.append_nil, List.nil_append, List.cons_append, List.drop_nil, List.drop_zero, List.set_cons_zero, List.set_cons_succ, List.replicate, if_true, if_false, Bool.not_true, Bool.not_false, Bool.true_or, Bool.false_or, Option.map_some, Option.map_none, Nat.zero_add, Nat.add_zero, Nat.sub_self, Nat.reduceAdd, Nat.reduceSub, ↓reduceIte, Bool.and_true, Bool.true_and, Bool.false_and, Bool.and_false, Int.cast_ofNat_Int, decide_true, decide_false, Int.reduceEq, Int.reduceLT, Int.reduceLE, Bool.false_eq_true, List.append_assoc, List.length_append, lk_app, lk_app0, lk_sapp, lk_sapp0, lk_z, lk_s, st_app, st_app0, st_sapp, st_sapp0, len_set, set_set, sq_lk, ix_lk, sl_lk, len_lk, tuple_lk, list_lk, list_tup, ty_lk, stays_lk, set_lk, add_lk, app_lk, ext_lk, clear_lk, recv_lk, get2_lk, tr_lk, gp_0, gp_1, gp_2, gp_3, gp_4, gp_5, gp_6, gp_7, gp_8, ko_n, ko_s, ko_p, gq_1, gq_2, gq_3, gq_4, gq_5, gq_6, gq_7, gq_8, gq_9, gq_10, gq_11, gq_12, gq_13, gq_14, gq_15, gq_16, gcR, Nat.lt_irrefl, Nat.not_lt_zero, List.take_succ_cons, List.take_zero, List.take_nil, D.beqL_self, at_2, at_3, ixN, Nat.reduceLT, Nat.reduceLeDiff, Int.reduceToNat, Int.reduceNeg, Int.reduceSub, Int.reduceAdd, Int.reduceMul, sz_lt, Int.zero_add, mod_int, pr_int, pr_bl, pr_non, pr_str, pr_tup, pr_nil, pr_cons, pr_lst, pr_ints, pr_prs, pr_app, pr_kD, mt_1, mt_2, mt_3, mt_4, mt_5, eq_D, ne_D, eqD_ll, eqD_tt, eqL_ll, eqS_same, eqS_nil, eqS_ints, eqD_ii, eqD_kk, py_app, py_nil, py_cons, py_ints, py_int, py_bl, py_non, py_kD, py_links, py_prs, py_mapi, pr_mapi, pr_linksT, prD]
      exact ⟨_, _, _, rfl, rfl, e⟩
    obtain ⟨y5, y6, rfl⟩ := key
    clear hX
    simp only [bnd_some, bnd_none, opt_some, opt_none, seqF_next, seqF_brk, seqF_cnt, seqF_ret, ts_nil, ts_cons, out_ret, out_next, ite_t, ite_f, bop_and_t, bop_and_f, bop_or_t, bop_or_f, bb_and_t, bb_and_f, bb_or_t, bb_or_f, slot_0, slot_s, e_con, b_con, e_var, b_var, e_glo, b_glo, e_tup, b_tup, e_lst, b_lst, e_dct, b_dct, e_op, b_op, e_neg, b_neg, e_not, b_not, e_bop, b_bop, e_cmp, b_cmp, e_chn, b_chn, e_ifx, b_ifx, e_ix, b_ix, e_sl, b_sl, e_call, b_call, e_bi, b_bi, e_mxd, b_mxd, e_isi, b_isi, e_isl, b_isl, e_lrg, b_lrg, e_mt, b_mt, e_lc, b_lc, bop_1, bop_2, bb_1, bb_2, es_nil, es_cons, eo_none, eo_some, if_none, if_some, i_ex, i_rng1, i_rng2, i_enm, q_nm, q_tp, q_sb, setK_some, qs_nil, qs_cons, t_asg, t_aug, t_ex, t_ret, t_retN, t_iff, t_fr, t_whl, t_brk, t_cnt, t_pas, con_none, con_bool, con_int, con_str, neg_int, not_bl, int_int, add_int, sub_int, lt_int, le_int, gt_int, ge_int, eq_int, ne_int, is_nn, is_in, is_bb, isn_nn, isn_in, isn_bb, tr_non, tr_bl, tr_int, ty_non, ty_bl, ty_int, ty_tup, ty_ro, isa_int_int, isa_int_bool, isa_int_list, isa_int_tuple, isa_list_list, isa_list_tuple, isa_tuple_list, isa_tuple_tuple, sq_tup, sq_ro, bi_int_int, bi_int_bl, bi_tuple_tup, bi_min, bi_max, bi_len_tup, bi_len_ro, ix_tup, ix_ro, sl_tup, sl_ro, stays_tup, stays_ro, at_0, at_1, gc_ai, gc_aai, gc_aaai, gc_ab, gc_aab, gc_aaab, gc_an, gc_aan, gc_aaan, gc_same, wipe_nil, wipe_cons, sz_0, sz_1, sz_2, sz_3, sz_4, sz_5, sz_6, sz_7, sz_8, sz_9, sz_10, runDef, runFull, Def.full, startD, List.length_cons, List.length_nil, List.map_cons, List.map_nil, List.append_nil, List.nil_append, List.cons_append, List.drop_nil, List.drop_zero, List.set_cons_zero, List.set_cons_succ, List.replicate, if_true, if_false, Bool.not_true, Bool.not_false, Bool.true_or, Bool.false_or, Option.map_some, Option.map_none, Nat.zero_add, Nat.add_zero, Nat.sub_self, Nat.reduceAdd, Nat.reduceSub, ↓reduceIte, Bool.and_true, Bool.true_and, Bool.false_and, Bool.and_false, Int.cast_ofNat_Int, decide_true, decide_false, Int.reduceEq, Int.reduceLT, Int.reduceLE, Bool.false_eq_true, List.append_assoc, List.length_append, lk_app, lk_app0, lk_sapp, lk_sapp0, lk_z, lk_s, st_app, st_app0, st_sapp, st_sapp0, len_set, set_set, sq_lk, ix_lk, sl_lk, len_lk, tuple_lk, list_lk, list_tup, ty_lk, stays_lk, set_lk, add_lk, app_lk, ext_lk, clear_lk, recv_lk, get2_lk, tr_lk, gp_0, gp_1, gp_2, gp_3, gp_4, gp_5, gp_6, gp_7, gp_8, ko_n, ko_s, ko_p, gq_1, gq_2, gq_3, gq_4, gq_5, gq_6, gq_7, gq_8, gq_9, gq_10, gq_11, gq_12, gq_13, gq_14, gq_15, gq_16, gcR, Nat.lt_irrefl, Nat.not_lt_zero, List.take_succ_cons, List.take_zero, List.take_nil, D.beqL_self, at_2, at_3, ixN, Nat.reduceLT, Nat.reduceLeDiff, Int.reduceToNat, Int.reduceNeg, Int.reduceSub, Int.reduceAdd, Int.reduceMul, sz_lt, Int.zero_add, mod_int, pr_int, pr_bl, pr_non, pr_str, pr_tup, pr_nil, pr_cons, pr_lst, pr_ints, pr_prs, pr_app, pr_kD, mt_1, mt_2, mt_3, mt_4, mt_5, eq_D, ne_D, eqD_ll, eqD_tt, eqL_ll, eqS_same, eqS_nil, eqS_ints, eqD_ii, eqD_kk, py_app, py_nil, py_cons, py_ints, py_int, py_bl, py_non, py_kD, py_links, py_prs, py_mapi, pr_mapi, pr_linksT]
    generalize hX : lcD _ _ _ _ _ _ _ = X
    have e := hX.symm.trans (lc_alloc lpM (fun V => rfl) (le_size (by simp; omega)) (fun p hp U V hU => by simp only [bnd_some, bnd_none, opt_some, opt_none, seqF_next, seqF_brk, seqF_cnt, seqF_ret, ts_nil, ts_cons, out_ret, out_next, ite_t, ite_f, bop_and_t, bop_and_f, bop_or_t, bop_or_f, bb_and_t, bb_and_f, bb_or_t, bb_or_f, slot_0, slot_s, e_con, b_con, e_var, b_var, e_glo, b_glo, e_tup, b_tup, e_lst, b_lst, e_dct, b_dct, e_op, b_op, e_neg, b_neg, e_not, b_not, e_bop, b_bop, e_cmp, b_cmp, e_chn, b_chn, e_ifx, b_ifx, e_ix, b_ix, e_sl, b_sl, e_call, b_call, e_bi, b_bi, e_mxd, b_mxd, e_isi, b_isi, e_isl, b_isl, e_lrg, b_lrg, e_mt, b_mt, e_lc, b_lc, bop_1, bop_2, bb_1, bb_2, es_nil, es_cons, eo_none, eo_some, if_none, if_some, i_ex, i_rng1, i_rng2, i_enm, q_nm, q_tp, q_sb, setK_some, qs_nil, qs_cons, t_asg, t_aug, t_ex, t_ret, t_retN, t_iff, t_fr, t_whl, t_brk, t_cnt, t_pas, con_none, con_bool, con_int, con_str, neg_int, not_bl, int_int, add_int, sub_int, lt_int, le_int, gt_int, ge_int, eq_int, ne_int, is_nn, is_in, is_bb, isn_nn, isn_in, isn_bb, tr_non, tr_bl, tr_int, ty_non, ty_bl, ty_int, ty_tup, ty_ro, isa_int_int, isa_int_bool, isa_int_list, isa_int_tuple, isa_list_list, isa_list_tuple, isa_tuple_list, isa_tuple_tuple, sq_tup, sq_ro, bi_int_int, bi_int_bl, bi_tuple_tup, bi_min, bi_max, bi_len_tup, bi_len_ro, ix_tup, ix_ro, sl_tup, sl_ro, stays_tup, stays_ro, at_0, at_1, gc_ai, gc_aai, gc_aaai, gc_ab, gc_aab, gc_aaab, gc_an, gc_aan, gc_aaan, gc_same, wipe_nil, wipe_cons, sz_0, sz_1, sz_2, sz_3, sz_4, sz_5, sz_6, sz_7, sz_8, sz_9, sz_10, runDef, runFull, Def.full, startD, List.length_cons, List.length_nil, List.map_cons, List.map_nil, List.append_nil, List.nil_append, List.cons_append, List.drop_nil, List.drop_zero, List.set_cons_zero, List.set_cons_succ, List.replicate, if_true, if_false, Bool.not_true, Bool.not_false, Bool.true_or, Bool.false_or, Option.map_some, Option.map_none, Nat.zero_add, Nat.add_zero, Nat.sub_self, Nat.reduceAdd, Nat.reduceSub, ↓reduceIte, Bool.and_true, Bool.true_and, Bool.false_and, Bool.and_false, Int.cast_ofNat_Int, decide_true, decide_false, Int.reduceEq, Int.reduceLT, Int.reduceLE, Bool.false_eq_true, List.append_assoc, List.length_append, lk_app, lk_app0, lk_sapp, lk_sapp0, lk_z, lk_s, st_app, st_app0, st_sapp, st_sapp0, len_set, set_set, sq_lk, ix_lk, sl_lk, len_lk, tuple_lk, list_lk, list_tup, ty_lk, stays_lk, set_lk, add_lk, app_lk, ext_lk, clear_lk, recv_lk, get2_lk, tr_lk, gp_0, gp_1, gp_2, gp_3, gp_4, gp_5, gp_6, gp_7, gp_8, ko_n, ko_s, ko_p, gq_1, gq_2, gq_3, gq_4, gq_5, gq_6, gq_7, gq_8, gq_9, gq_10, gq_11, gq_12, gq_13, gq_14, gq_15, gq_16, gcR, Nat.lt_irrefl, Nat.not_lt_zero, List.take_succ_cons, List.take_zero, List.take_nil, D.beqL_self, at_2, at_3, ixN, Nat.reduceLT, Nat.reduceLeDiff, Int.reduceToNat, Int.reduceNeg, Int.reduceSub, Int.reduceAdd, Int.reduceMul, sz_lt, Int.zero_add, mod_int, pr_int, pr_bl, pr_non, pr_str, pr_tup, pr_nil, pr_cons, pr_lst, pr_ints, pr_prs, pr_app, pr_kD, mt_1, mt_2, mt_3, mt_4, mt_5, eq_D, ne_D, eqD_ll, eqD_tt, eqL_ll, eqS_same, eqS_nil, eqS_ints, eqD_ii, eqD_kk, py_app, py_nil, py_cons, py_ints, py_int, py_bl, py_non, py_kD, py_links, py_prs, py_mapi, pr_mapi, pr_linksT, lcS, ite_b, bnd_if, seqF_if, out_if, bopB_and, bopB_or, bopD_and, bopD_or, if_same_bool, if_bf, if_bx, if_xt, prD, lpM]))
    subst e
    clear hX
    simp only [List.nil_append, bnd_some, q_nm, List.set_cons_succ, List.set_cons_zero, seqF_next]
    obtain ⟨S, hS⟩ : ∃ S, S = (T ++ [src a2 b c2]) ++ tw.map lpM ++ [.lst ((List.range' (T ++ [src a2 b c2]).length tw.length).map D.loc)] := ⟨_, rfl⟩
    obtain ⟨q, hq⟩ : ∃ q, q = (T ++ [src a2 b c2] ++ tw.map lpM).length := ⟨_, rfl⟩
    rw [← hS, ← hq]
    have hm : lk S T.length = some (src a2 b c2) := by rw [hS]; exact lk_old (lk_old lk_app0)
    have h2 : lk S 2 = some (.lst ((ns.take 6 ++ [0]).map D.int)) := by rw [hS]; exact lk_old (lk_old (lk_old hT))
    have h2n : T.length ≠ 2 := by have := lk_lt hT; omega
    have hset : ∀ v, S.set T.length v = (T ++ [v]) ++ tw.map lpM ++ [.lst ((List.range' (T ++ [src a2 b c2]).length tw.length).map D.loc)] := fun v => by
      rw [hS, st_old (lk_old lk_app0), st_old lk_app0, st_app0]; rfl
    have htL : ∀ v L, TwL (S.set T.length v ++ L) ((List.range' (T ++ [src a2 b c2]).length tw.length).map D.loc) tw := fun v L => by
      have := TwL_locs (tw := tw) (S := T ++ [v]) (W := [.lst ((List.range' (T ++ [src a2 b c2]).length tw.length).map D.loc)] ++ L)
      rw [hset, List.append_assoc]
      simpa using this
    have hsq : ∀ v L, lk (S.set T.length v ++ L) q = some (.lst ((List.range' (T ++ [src a2 b c2]).length tw.length).map D.loc)) := fun v L => by
      rw [hset, hq]
      have : (T ++ [src a2 b c2] ++ tw.map lpM).length = (T ++ [v] ++ tw.map lpM).length := by simp
      rw [this]
      exact lk_old lk_app0
    have hlen2 : tw.length ≤ 1000 := by omega
    have hh2 : ∀ p ∈ tw, p.2 ≤ 1000 := fun p hp => Int.le_trans (hh p hp) (by decide)
    have tt : ∀ U, IsTw U (.tup (tw.map prD)) tw := fun U => .tup hf hlen2
    have tl : ∀ v L, IsTw (S.set T.length v ++ L) (.loc q) tw := fun v L => ⟨⟨_, by rw [sq_lk, hsq], htL v L⟩, hf, hlen2⟩
    have tl0 : ∀ v, IsTw (S.set T.length v) (.loc q) tw := fun v => by have := tl v []; rwa [List.append_nil] at this
    have hsq0 : ∀ v, lk (S.set T.length v) q = some (.lst ((List.range' (T ++ [src a2 b c2]).length tw.length).map D.loc)) := fun v => by have := hsq v []; rwa [List.append_nil] at this
    rw [show S = S.set T.length (src a2 b c2) from (set_lk_self hm).symm]
    simp only [bnd_some, bnd_none, opt_some, opt_none, seqF_next, seqF_brk, seqF_cnt, seqF_ret, ts_nil, ts_cons, out_ret, out_next, ite_t, ite_f, bop_and_t, bop_and_f, bop_or_t, bop_or_f, bb_and_t, bb_and_f, bb_or_t, bb_or_f, slot_0, slot_s, e_con, b_con, e_var, b_var, e_glo, b_glo, e_tup, b_tup, e_lst, b_lst, e_dct, b_dct, e_op, b_op, e_neg, b_neg, e_not, b_not, e_bop, b_bop, e_cmp, b_cmp, e_chn, b_chn, e_ifx, b_ifx, e_ix, b_ix, e_sl, b_sl, e_call, b_call, e_bi, b_bi, e_mxd, b_mxd, e_isi, b_isi, e_isl, b_isl, e_lrg, b_lrg, e_mt, b_mt, e_lc, b_lc, bop_1, bop_2, bb_1, bb_2, es_nil, es_cons, eo_none, eo_some, if_none, if_some, i_ex, i_rng1, i_rng2, i_enm, q_nm, q_tp, q_sb, setK_some, qs_nil, qs_cons, t_asg, t_aug, t_ex, t_ret, t_retN, t_iff, t_fr, t_whl, t_brk, t_cnt, t_pas, con_none, con_bool, con_int, con_str, neg_int, not_bl, int_int, add_int, sub_int, lt_int, le_int, gt_int, ge_int, eq_int, ne_int, is_nn, is_in, is_bb, isn_nn, isn_in, isn_bb, tr_non, tr_bl, tr_int, ty_non, ty_bl, ty_int, ty_tup, ty_ro, isa_int_int, isa_int_bool, isa_int_list, isa_int_tuple, isa_list_list, isa_list_tuple, isa_tuple_list, isa_tuple_tuple, sq_tup, sq_ro, bi_int_int, bi_int_bl, bi_tuple_tup, bi_min, bi_max, bi_len_tup, bi_len_ro, ix_tup, ix_ro, sl_tup, sl_ro, stays_tup, stays_ro, at_0, at_1, gc_ai, gc_aai, gc_aaai, gc_ab, gc_aab, gc_aaab, gc_an, gc_aan, gc_aaan, gc_same, wipe_nil, wipe_cons, sz_0, sz_1, sz_2, sz_3, sz_4, sz_5, sz_6, sz_7, sz_8, sz_9, sz_10, runDef, runFull, Def.full, startD, List.length_cons, List.length_nil, List.map_cons, List.map_nil, List.append_nil, List.nil_append, List.cons_append, List.drop_nil, List.drop_zero, List.set_cons_zero, List.set_cons_succ, List.replicate, if_true, if_false, Bool.not_true, Bool.not_false, Bool.true_or, Bool.false_or, Option.map_some, Option.map_none, Nat.zero_add, Nat.add_zero, Nat.sub_self, Nat.reduceAdd, Nat.reduceSub, ↓reduceIte, Bool.and_true, Bool.true_and, Bool.false_and, Bool.and_false, Int.cast_ofNat_Int, decide_true, decide_false, Int.reduceEq, Int.reduceLT, Int.reduceLE, Bool.false_eq_true, List.append_assoc, List.length_append, lk_app, lk_app0, lk_sapp, lk_sapp0, lk_z, lk_s, st_app, st_app0, st_sapp, st_sapp0, len_set, set_set, sq_lk, ix_lk, sl_lk, len_lk, tuple_lk, list_lk, list_tup, ty_lk, stays_lk, set_lk, add_lk, app_lk, ext_lk, clear_lk, recv_lk, get2_lk, tr_lk, gp_0, gp_1, gp_2, gp_3, gp_4, gp_5, gp_6, gp_7, gp_8, ko_n, ko_s, ko_p, gq_1, gq_2, gq_3, gq_4, gq_5, gq_6, gq_7, gq_8, gq_9, gq_10, gq_11, gq_12, gq_13, gq_14, gq_15, gq_16, gcR, Nat.lt_irrefl, Nat.not_lt_zero, List.take_succ_cons, List.take_zero, List.take_nil, D.beqL_self, at_2, at_3, ixN, Nat.reduceLT, Nat.reduceLeDiff, Int.reduceToNat, Int.reduceNeg, Int.reduceSub, Int.reduceAdd, Int.reduceMul, sz_lt, Int.zero_add, mod_int, pr_int, pr_bl, pr_non, pr_str, pr_tup, pr_nil, pr_cons, pr_lst, pr_ints, pr_prs, pr_app, pr_kD, mt_1, mt_2, mt_3, mt_4, mt_5, eq_D, ne_D, eqD_ll, eqD_tt, eqL_ll, eqS_same, eqS_nil, eqS_ints, eqD_ii, eqD_kk, py_app, py_nil, py_cons, py_ints, py_int, py_bl, py_non, py_kD, py_links, py_prs, py_mapi, pr_mapi, pr_linksT, top_of (k + 5) (tt _), heights_of (k + 5) (tt _)]
    generalize hX : lcD _ _ _ _ _ _ _ = X
    have e := lc_f (fun q : Int × Int => D.int q.2) hX rfl (le_size (by simp; omega)) (fun p hp => by simp only [bnd_some, bnd_none, opt_some, opt_none, seqF_next, seqF_brk, seqF_cnt, seqF_ret, ts_nil, ts_cons, out_ret, out_next, ite_t, ite_f, bop_and_t, bop_and_f, bop_or_t, bop_or_f, bb_and_t, bb_and_f, bb_or_t, bb_or_f, slot_0, slot_s, e_con, b_con, e_var, b_var, e_glo, b_glo, e_tup, b_tup, e_lst, b_lst, e_dct, b_dct, e_op, b_op, e_neg, b_neg, e_not, b_not, e_bop, b_bop, e_cmp, b_cmp, e_chn, b_chn, e_ifx, b_ifx, e_ix, b_ix, e_sl, b_sl, e_call, b_call, e_bi, b_bi, e_mxd, b_mxd, e_isi, b_isi, e_isl, b_isl, e_lrg, b_lrg, e_mt, b_mt, e_lc, b_lc, bop_1, bop_2, bb_1, bb_2, es_nil, es_cons, eo_none, eo_some, if_none, if_some, i_ex, i_rng1, i_rng2, i_enm, q_nm, q_tp, q_sb, setK_some, qs_nil, qs_cons, t_asg, t_aug, t_ex, t_ret, t_retN, t_iff, t_fr, t_whl, t_brk, t_cnt, t_pas, con_none, con_bool, con_int, con_str, neg_int, not_bl, int_int, add_int, sub_int, lt_int, le_int, gt_int, ge_int, eq_int, ne_int, is_nn, is_in, is_bb, isn_nn, isn_in, isn_bb, tr_non, tr_bl, tr_int, ty_non, ty_bl, ty_int, ty_tup, ty_ro, isa_int_int, isa_int_bool, isa_int_list, isa_int_tuple, isa_list_list, isa_list_tuple, isa_tuple_list, isa_tuple_tuple, sq_tup, sq_ro, bi_int_int, bi_int_bl, bi_tuple_tup, bi_min, bi_max, bi_len_tup, bi_len_ro, ix_tup, ix_ro, sl_tup, sl_ro, stays_tup, stays_ro, at_0, at_1, gc_ai, gc_aai, gc_aaai, gc_ab, gc_aab, gc_aaab, gc_an, gc_aan, gc_aaan, gc_same, wipe_nil, wipe_cons, sz_0, sz_1, sz_2, sz_3, sz_4, sz_5, sz_6, sz_7, sz_8, sz_9, sz_10, runDef, runFull, Def.full, startD, List.length_cons, List.length_nil, List.map_cons, List.map_nil, List.append_nil, List.nil_append, List.cons_append, List.drop_nil, List.drop_zero, List.set_cons_zero, List.set_cons_succ, List.replicate, if_true, if_false, Bool.not_true, Bool.not_false, Bool.true_or, Bool.false_or, Option.map_some, Option.map_none, Nat.zero_add, Nat.add_zero, Nat.sub_self, Nat.reduceAdd, Nat.reduceSub, ↓reduceIte, Bool.and_true, Bool.true_and, Bool.false_and, Bool.and_false, Int.cast_ofNat_Int, decide_true, decide_false, Int.reduceEq, Int.reduceLT, Int.reduceLE, Bool.false_eq_true, List.append_assoc, List.length_append, lk_app, lk_app0, lk_sapp, lk_sapp0, lk_z, lk_s, st_app, st_app0, st_sapp, st_sapp0, len_set, set_set, sq_lk, ix_lk, sl_lk, len_lk, tuple_lk, list_lk, list_tup, ty_lk, stays_lk, set_lk, add_lk, app_lk, ext_lk, clear_lk, recv_lk, get2_lk, tr_lk, gp_0, gp_1, gp_2, gp_3, gp_4, gp_5, gp_6, gp_7, gp_8, ko_n, ko_s, ko_p, gq_1, gq_2, gq_3, gq_4, gq_5, gq_6, gq_7, gq_8, gq_9, gq_10, gq_11, gq_12, gq_13, gq_14, gq_15, gq_16, gcR, Nat.lt_irrefl, Nat.not_lt_zero, List.take_succ_cons, List.take_zero, List.take_nil, D.beqL_self, at_2, at_3, ixN, Nat.reduceLT, Nat.reduceLeDiff, Int.reduceToNat, Int.reduceNeg, Int.reduceSub, Int.reduceAdd, Int.reduceMul, sz_lt, Int.zero_add, mod_int, pr_int, pr_bl, pr_non, pr_str, pr_tup, pr_nil, pr_cons, pr_lst, pr_ints, pr_prs, pr_app, pr_kD, mt_1, mt_2, mt_3, mt_4, mt_5, eq_D, ne_D, eqD_ll, eqD_tt, eqL_ll, eqS_same, eqS_nil, eqS_ints, eqD_ii, eqD_kk, py_app, py_nil, py_cons, py_ints, py_int, py_bl, py_non, py_kD, py_links, py_prs, py_mapi, pr_mapi, pr_linksT, lcS, ite_b, bnd_if, seqF_if, out_if, bopB_and, bopB_or, bopD_and, bopD_or, if_same_bool, if_bf, if_bx, if_xt, prD])
    subst e
    clear hX
    simp only [bnd_some, bnd_none, opt_some, opt_none, seqF_next, seqF_brk, seqF_cnt, seqF_ret, ts_nil, ts_cons, out_ret, out_next, ite_t, ite_f, bop_and_t, bop_and_f, bop_or_t, bop_or_f, bb_and_t, bb_and_f, bb_or_t, bb_or_f, slot_0, slot_s, e_con, b_con, e_var, b_var, e_glo, b_glo, e_tup, b_tup, e_lst, b_lst, e_dct, b_dct, e_op, b_op, e_neg, b_neg, e_not, b_not, e_bop, b_bop, e_cmp, b_cmp, e_chn, b_chn, e_ifx, b_ifx, e_ix, b_ix, e_sl, b_sl, e_call, b_call, e_bi, b_bi, e_mxd, b_mxd, e_isi, b_isi, e_isl, b_isl, e_lrg, b_lrg, e_mt, b_mt, e_lc, b_lc, bop_1, bop_2, bb_1, bb_2, es_nil, es_cons, eo_none, eo_some, if_none, if_some, i_ex, i_rng1, i_rng2, i_enm, q_nm, q_tp, q_sb, setK_some, qs_nil, qs_cons, t_asg, t_aug, t_ex, t_ret, t_retN, t_iff, t_fr, t_whl, t_brk, t_cnt, t_pas, con_none, con_bool, con_int, con_str, neg_int, not_bl, int_int, add_int, sub_int, lt_int, le_int, gt_int, ge_int, eq_int, ne_int, is_nn, is_in, is_bb, isn_nn, isn_in, isn_bb, tr_non, tr_bl, tr_int, ty_non, ty_bl, ty_int, ty_tup, ty_ro, isa_int_int, isa_int_bool, isa_int_list, isa_int_tuple, isa_list_list, isa_list_tuple, isa_tuple_list, isa_tuple_tuple, sq_tup, sq_ro, bi_int_int, bi_int_bl, bi_tuple_tup, bi_min, bi_max, bi_len_tup, bi_len_ro, ix_tup, ix_ro, sl_tup, sl_ro, stays_tup, stays_ro, at_0, at_1, gc_ai, gc_aai, gc_aaai, gc_ab, gc_aab, gc_aaab, gc_an, gc_aan, gc_aaan, gc_same, wipe_nil, wipe_cons, sz_0, sz_1, sz_2, sz_3, sz_4, sz_5, sz_6, sz_7, sz_8, sz_9, sz_10, runDef, runFull, Def.full, startD, List.length_cons, List.length_nil, List.map_cons, List.map_nil, List.append_nil, List.nil_append, List.cons_append, List.drop_nil, List.drop_zero, List.set_cons_zero, List.set_cons_succ, List.replicate, if_true, if_false, Bool.not_true, Bool.not_false, Bool.true_or, Bool.false_or, Option.map_some, Option.map_none, Nat.zero_add, Nat.add_zero, Nat.sub_self, Nat.reduceAdd, Nat.reduceSub, ↓reduceIte, Bool.and_true, Bool.true_and, Bool.false_and, Bool.and_false, Int.cast_ofNat_Int, decide_true, decide_false, Int.reduceEq, Int.reduceLT, Int.reduceLE, Bool.false_eq_true, List.append_assoc, List.length_append, lk_app, lk_app0, lk_sapp, lk_sapp0, lk_z, lk_s, st_app, st_app0, st_sapp, st_sapp0, len_set, set_set, sq_lk, ix_lk, sl_lk, len_lk, tuple_lk, list_lk, list_tup, ty_lk, stays_lk, set_lk, add_lk, app_lk, ext_lk, clear_lk, recv_lk, get2_lk, tr_lk, gp_0, gp_1, gp_2, gp_3, gp_4, gp_5, gp_6, gp_7, gp_8, ko_n, ko_s, ko_p, gq_1, gq_2, gq_3, gq_4, gq_5, gq_6, gq_7, gq_8, gq_9, gq_10, gq_11, gq_12, gq_13, gq_14, gq_15, gq_16, gcR, Nat.lt_irrefl, Nat.not_lt_zero, List.take_succ_cons, List.take_zero, List.take_nil, D.beqL_self, at_2, at_3, ixN, Nat.reduceLT, Nat.reduceLeDiff, Int.reduceToNat, Int.reduceNeg, Int.reduceSub, Int.reduceAdd, Int.reduceMul, sz_lt, Int.zero_add, mod_int, pr_int, pr_bl, pr_non, pr_str, pr_tup, pr_nil, pr_cons, pr_lst, pr_ints, pr_prs, pr_app, pr_kD, mt_1, mt_2, mt_3, mt_4, mt_5, eq_D, ne_D, eqD_ll, eqD_tt, eqL_ll, eqS_same, eqS_nil, eqS_ints, eqD_ii, eqD_kk, py_app, py_nil, py_cons, py_ints, py_int, py_bl, py_non, py_kD, py_links, py_prs, py_mapi, pr_mapi, pr_linksT, is_towers_of (k + 6) (tt _), is_towers_of (k + 6) (tl0 _), top_of (k + 5) (tl0 _)]
    obtain ⟨n, hn6, hn0, er⟩ : ∃ n : Nat, n ≤ 6 ∧ (0 < n → tw ≠ []) ∧ rngD 0 (6 * (if (!(tw.map prD).isEmpty) = true then 1 else 0)) = some ⟨(rangeI 0 n).map D.int, fun _ => true⟩ := by
      cases hE : (tw.map prD).isEmpty with
      | true => exact ⟨0, by omega, fun z => absurd z (by omega), rng_small (by decide) (by decide) (by decide) (by decide)⟩
      | false => exact ⟨6, by omega, (fun _ z => by rw [z] at hE; cases hE), rng_small (by decide) (by decide) (by decide) (by decide)⟩
    simp only [bnd_some, bnd_none, opt_some, opt_none, seqF_next, seqF_brk, seqF_cnt, seqF_ret, ts_nil, ts_cons, out_ret, out_next, ite_t, ite_f, bop_and_t, bop_and_f, bop_or_t, bop_or_f, bb_and_t, bb_and_f, bb_or_t, bb_or_f, slot_0, slot_s, e_con, b_con, e_var, b_var, e_glo, b_glo, e_tup, b_tup, e_lst, b_lst, e_dct, b_dct, e_op, b_op, e_neg, b_neg, e_not, b_not, e_bop, b_bop, e_cmp, b_cmp, e_chn, b_chn, e_ifx, b_ifx, e_ix, b_ix, e_sl, b_sl, e_call, b_call, e_bi, b_bi, e_mxd, b_mxd, e_isi, b_isi, e_isl, b_isl, e_lrg, b_lrg, e_mt, b_mt, e_lc, b_lc, bop_1, bop_2, bb_1, bb_2, es_nil, es_cons, eo_none, eo_some, if_none, if_some, i_ex, i_rng1, i_rng2, i_enm, q_nm, q_tp, q_sb, setK_some, qs_nil, qs_cons, t_asg, t_aug, t_ex, t_ret, t_retN, t_iff, t_fr, t_whl, t_brk, t_cnt, t_pas, con_none, con_bool, con_int, con_str, neg_int, not_bl, int_int, add_int, sub_int, lt_int, le_int, gt_int, ge_int, eq_int, ne_int, is_nn, is_in, is_bb, isn_nn, isn_in, isn_bb, tr_non, tr_bl, tr_int, ty_non, ty_bl, ty_int, ty_tup, ty_ro, isa_int_int, isa_int_bool, isa_int_list, isa_int_tuple, isa_list_list, isa_list_tuple, isa_tuple_list, isa_tuple_tuple, sq_tup, sq_ro, bi_int_int, bi_int_bl, bi_tuple_tup, bi_min, bi_max, bi_len_tup, bi_len_ro, ix_tup, ix_ro, sl_tup, sl_ro, stays_tup, stays_ro, at_0, at_1, gc_ai, gc_aai, gc_aaai, gc_ab, gc_aab, gc_aaab, gc_an, gc_aan, gc_aaan, gc_same, wipe_nil, wipe_cons, sz_0, sz_1, sz_2, sz_3, sz_4, sz_5, sz_6, sz_7, sz_8, sz_9, sz_10, runDef, runFull, Def.full, startD, List.length_cons, List.length_nil, List.map_cons, List.map_nil, List.append_nil, List.nil_append, List.cons_append, List.drop_nil, List.drop_zero, List.set_cons_zero, List.set_cons_succ, List.replicate, if_true, if_false, Bool.not_true, Bool.not_false, Bool.true_or, Bool.false_or, Option.map_some, Option.map_none, Nat.zero_add, Nat.add_zero, Nat.sub_self, Nat.reduceAdd, Nat.reduceSub, ↓reduceIte, Bool.and_true, Bool.true_and, Bool.false_and, Bool.and_false, Int.cast_ofNat_Int, decide_true, decide_false, Int.reduceEq, Int.reduceLT, Int.reduceLE, Bool.false_eq_true, List.append_assoc, List.length_append, lk_app, lk_app0, lk_sapp, lk_sapp0, lk_z, lk_s, st_app, st_app0, st_sapp, st_sapp0, len_set, set_set, sq_lk, ix_lk, sl_lk, len_lk, tuple_lk, list_lk, list_tup, ty_lk, stays_lk, set_lk, add_lk, app_lk, ext_lk, clear_lk, recv_lk, get2_lk, tr_lk, gp_0, gp_1, gp_2, gp_3, gp_4, gp_5, gp_6, gp_7, gp_8, ko_n, ko_s, ko_p, gq_1, gq_2, gq_3, gq_4, gq_5, gq_6, gq_7, gq_8, gq_9, gq_10, gq_11, gq_12, gq_13, gq_14, gq_15, gq_16, gcR, Nat.lt_irrefl, Nat.not_lt_zero, List.take_succ_cons, List.take_zero, List.take_nil, D.beqL_self, at_2, at_3, ixN, Nat.reduceLT, Nat.reduceLeDiff, Int.reduceToNat, Int.reduceNeg, Int.reduceSub, Int.reduceAdd, Int.reduceMul, sz_lt, Int.zero_add, mod_int, pr_int, pr_bl, pr_non, pr_str, pr_tup, pr_nil, pr_cons, pr_lst, pr_ints, pr_prs, pr_app, pr_kD, mt_1, mt_2, mt_3, mt_4, mt_5, eq_D, ne_D, eqD_ll, eqD_tt, eqL_ll, eqS_same, eqS_nil, eqS_ints, eqD_ii, eqD_kk, py_app, py_nil, py_cons, py_ints, py_int, py_bl, py_non, py_kD, py_links, py_prs, py_mapi, pr_mapi, pr_linksT, mul_l (show (6 : Int).natAbs < 2 ^ 64 by decide), er]
    generalize hX : forD _ _ _ _ _ _ = X
    have key := for_M hX (fun r σ U => ∃ (ps : List Int) (a c : Int) (y9 : Option D), σ = [some (.ro (ns.map D.int)), some (.int i), some (.loc T.length), some (.tup (tw.map prD)), some (.int (hiT tw)), y5, y6, some (.loc q), some (.loc S.length), y9, x10] ∧ U = S.set T.length (src a b c) ++ [.lst (ps.map D.int)] ∧ r.length + ps.length ≤ 7 ∧ r.length ≤ n)
      (fun X => ∃ (ps : List Int) (a c : Int) (y9 : Option D), X = some (.next [some (.ro (ns.map D.int)), some (.int i), some (.loc T.length), some (.tup (tw.map prD)), some (.int (hiT tw)), y5, y6, some (.loc q), some (.loc S.length), y9, x10], S.set T.length (src a b c) ++ [.lst (ps.map D.int)]) ∧ ps.length ≤ 7) ⟨[0], a2, c2, _, rfl, rfl, by rw [rangeI_len]; simp; omega, by rw [rangeI_len]; omega⟩ ?_ ?_
    rotate_left
    · rintro σ U ⟨ps, a, c, y9, rfl, rfl, h1, -⟩
      exact ⟨rfl, ps, a, c, y9, rfl, by simpa using h1⟩
    · clear hX X
      rintro z r σ U ⟨ps, a, c, y9, rfl, rfl, h1, h3⟩
      refine ⟨rfl, ?_⟩
      simp only [List.length_cons] at h1 h3
      have htn : tw ≠ [] := hn0 (by omega)
      obtain ⟨d, a3, c3, e3, m3⟩ := one_s (k + 8) (L := [.lst (ps.map D.int)]) (a := a) (b := b) (c := c) (v := .tup (tw.map prD)) (ds := tw.map prD) hm (fun _ _ => rfl) (by rw [List.length_map]; exact List.length_pos_iff.mpr htn) (by rw [List.length_map]; omega) (pr_prs tw)
      obtain ⟨p, -, rfl⟩ := List.mem_map.mp m3
      obtain ⟨d, a4, c4, e4, m4⟩ := one_s (k + 8) (L := [.lst (ps.map D.int), .lst [.int 0, .int 0, .int 1, .int (-1)]]) (a := a3) (b := b) (c := c3) (v := .loc (S.length + 1)) (ds := [.int 0, .int 0, .int 1, .int (-1)]) hm (fun a' c' => by simp only [List.append_assoc, List.length_append, lk_app, lk_app0, lk_sapp, lk_sapp0, lk_z, lk_s, st_app, st_app0, st_sapp, st_sapp0, len_set, set_set, sq_lk, ix_lk, sl_lk, len_lk, tuple_lk, list_lk, list_tup, ty_lk, stays_lk, set_lk, add_lk, app_lk, ext_lk, clear_lk, recv_lk, get2_lk, tr_lk, gp_0, gp_1, gp_2, gp_3, gp_4, gp_5, gp_6, gp_7, gp_8, ko_n, ko_s, ko_p, gq_1, gq_2, gq_3, gq_4, gq_5, gq_6, gq_7, gq_8, gq_9, gq_10, gq_11, gq_12, gq_13, gq_14, gq_15, gq_16, gcR, Nat.lt_irrefl, Nat.not_lt_zero, List.take_succ_cons, List.take_zero, List.take_nil, D.beqL_self, at_2, at_3, ixN, Nat.reduceLT, Nat.reduceLeDiff, Int.reduceToNat, Int.reduceNeg, Int.reduceSub, Int.reduceAdd, Int.reduceMul, sz_lt, Int.zero_add, mod_int, pr_int, pr_bl, pr_non, pr_str, pr_tup, pr_nil, pr_cons, pr_lst, pr_ints, pr_prs, pr_app, pr_kD, mt_1, mt_2, mt_3, mt_4, mt_5, eq_D, ne_D, eqD_ll, eqD_tt, eqL_ll, eqS_same, eqS_nil, eqS_ints, eqD_ii, eqD_kk, py_app, py_nil, py_cons, py_ints, py_int, py_bl, py_non, py_kD, py_links, py_prs, py_mapi, pr_mapi, pr_linksT]) (by simp) (by simp) (by rfl)
      obtain ⟨i4, rfl⟩ : ∃ i : Int, d = .int i := by
        simp only [List.mem_cons, List.not_mem_nil, or_false] at m4
        rcases m4 with rfl | rfl | rfl | rfl <;> exact ⟨_, rfl⟩
      have hz : ps.length < sizeLine := lt_size (by omega)
      simp only [bnd_some, bnd_none, opt_some, opt_none, seqF_next, seqF_brk, seqF_cnt, seqF_ret, ts_nil, ts_cons, out_ret, out_next, ite_t, ite_f, bop_and_t, bop_and_f, bop_or_t, bop_or_f, bb_and_t, bb_and_f, bb_or_t, bb_or_f, slot_0, slot_s, e_con, b_con, e_var, b_var, e_glo, b_glo, e_tup, b_tup, e_lst, b_lst, e_dct, b_dct, e_op, b_op, e_neg, b_neg, e_not, b_not, e_bop, b_bop, e_cmp, b_cmp, e_chn, b_chn, e_ifx, b_ifx, e_ix, b_ix, e_sl, b_sl, e_call, b_call, e_bi, b_bi, e_mxd, b_mxd, e_isi, b_isi, e_isl, b_isl, e_lrg, b_lrg, e_mt, b_mt, e_lc, b_lc, bop_1, bop_2, bb_1, bb_2, es_nil, es_cons, eo_none, eo_some, if_none, if_some, i_ex, i_rng1, i_rng2, i_enm, q_nm, q_tp, q_sb, setK_some, qs_nil, qs_cons, t_asg, t_aug, t_ex, t_ret, t_retN, t_iff, t_fr, t_whl, t_brk, t_cnt, t_pas, con_none, con_bool, con_int, con_str, neg_int, not_bl, int_int, add_int, sub_int, lt_int, le_int, gt_int, ge_int, eq_int, ne_int, is_nn, is_in, is_bb, isn_nn, isn_in, isn_bb, tr_non, tr_bl, tr_int, ty_non, ty_bl, ty_int, ty_tup, ty_ro, isa_int_int, isa_int_bool, isa_int_list, isa_int_tuple, isa_list_list, isa_list_tuple, isa_tuple_list, isa_tuple_tuple, sq_tup, sq_ro, bi_int_int, bi_int_bl, bi_tuple_tup, bi_min, bi_max, bi_len_tup, bi_len_ro, ix_tup, ix_ro, sl_tup, sl_ro, stays_tup, stays_ro, at_0, at_1, gc_ai, gc_aai, gc_aaai, gc_ab, gc_aab, gc_aaab, gc_an, gc_aan, gc_aaan, gc_same, wipe_nil, wipe_cons, sz_0, sz_1, sz_2, sz_3, sz_4, sz_5, sz_6, sz_7, sz_8, sz_9, sz_10, runDef, runFull, Def.full, startD, List.length_cons, List.length_nil, List.map_cons, List.map_nil, List.append_nil, List.nil_append, List.cons_append, List.drop_nil, List.drop_zero, List.set_cons_zero, List.set_cons_succ, List.replicate, if_true, if_false, Bool.not_true, Bool.not_false, Bool.true_or, Bool.false_or, Option.map_some, Option.map_none, Nat.zero_add, Nat.add_zero, Nat.sub_self, Nat.reduceAdd, Nat.reduceSub, ↓reduceIte, Bool.and_true, Bool.true_and, Bool.false_and, Bool.and_false, Int.cast_ofNat_Int, decide_true, decide_false, Int.reduceEq, Int.reduceLT, Int.reduceLE, Bool.false_eq_true, List.append_assoc, List.length_append, lk_app, lk_app0, lk_sapp, lk_sapp0, lk_z, lk_s, st_app, st_app0, st_sapp, st_sapp0, len_set, set_set, sq_lk, ix_lk, sl_lk, len_lk, tuple_lk, list_lk, list_tup, ty_lk, stays_lk, set_lk, add_lk, app_lk, ext_lk, clear_lk, recv_lk, get2_lk, tr_lk, gp_0, gp_1, gp_2, gp_3, gp_4, gp_5, gp_6, gp_7, gp_8, ko_n, ko_s, ko_p, gq_1, gq_2, gq_3, gq_4, gq_5, gq_6, gq_7, gq_8, gq_9, gq_10, gq_11, gq_12, gq_13, gq_14, gq_15, gq_16, gcR, Nat.lt_irrefl, Nat.not_lt_zero, List.take_succ_cons, List.take_zero, List.take_nil, D.beqL_self, at_2, at_3, ixN, Nat.reduceLT, Nat.reduceLeDiff, Int.reduceToNat, Int.reduceNeg, Int.reduceSub, Int.reduceAdd, Int.reduceMul, sz_lt, Int.zero_add, mod_int, pr_int, pr_bl, pr_non, pr_str, pr_tup, pr_nil, pr_cons, pr_lst, pr_ints, pr_prs, pr_app, pr_kD, mt_1, mt_2, mt_3, mt_4, mt_5, eq_D, ne_D, eqD_ll, eqD_tt, eqL_ll, eqS_same, eqS_nil, eqS_ints, eqD_ii, eqD_kk, py_app, py_nil, py_cons, py_ints, py_int, py_bl, py_non, py_kD, py_links, py_prs, py_mapi, pr_mapi, pr_linksT, e3, prD, e4, List.length_map, hz]
      refine ⟨ps ++ [p.1 + i4], a4, c4, _, rfl, ?_, ?_, ?_⟩
      · simp
      · simp; omega
      · omega
    obtain ⟨ps, a3, c3, y9, rfl, hps⟩ := key
    clear hX
    have hkr := keys_right_of (k + 4) (m := S.length) (S := S.set T.length (src a3 b c3) ++ [.lst (ps.map D.int)]) hf hlen2 hh2 lk_sapp0 (show ps.length ≤ 1000 by omega)
    have l1 : ∀ v L, _ := fun v L => links_of (k + 5) (tl v L) hh2
    have l2 : ∀ U, _ := fun U => links_of (k + 5) (tt U) hh2
    have l3 : ∀ U, _ := fun U => law_links_of (k + 8) (S := U) hf hlen2 hh2
    have l4 : ∀ U, _ := fun U => lane_of (k + 5) (tt U) (l := 1) (by decide)
    have l5 : ∀ v L, _ := fun v L => lane_of (k + 5) (tl v L) (l := 1) (by decide)
    have hlz : tw.length < sizeLine := lt_size (by omega)
    simp only [bnd_some, bnd_none, opt_some, opt_none, seqF_next, seqF_brk, seqF_cnt, seqF_ret, ts_nil, ts_cons, out_ret, out_next, ite_t, ite_f, bop_and_t, bop_and_f, bop_or_t, bop_or_f, bb_and_t, bb_and_f, bb_or_t, bb_or_f, slot_0, slot_s, e_con, b_con, e_var, b_var, e_glo, b_glo, e_tup, b_tup, e_lst, b_lst, e_dct, b_dct, e_op, b_op, e_neg, b_neg, e_not, b_not, e_bop, b_bop, e_cmp, b_cmp, e_chn, b_chn, e_ifx, b_ifx, e_ix, b_ix, e_sl, b_sl, e_call, b_call, e_bi, b_bi, e_mxd, b_mxd, e_isi, b_isi, e_isl, b_isl, e_lrg, b_lrg, e_mt, b_mt, e_lc, b_lc, bop_1, bop_2, bb_1, bb_2, es_nil, es_cons, eo_none, eo_some, if_none, if_some, i_ex, i_rng1, i_rng2, i_enm, q_nm, q_tp, q_sb, setK_some, qs_nil, qs_cons, t_asg, t_aug, t_ex, t_ret, t_retN, t_iff, t_fr, t_whl, t_brk, t_cnt, t_pas, con_none, con_bool, con_int, con_str, neg_int, not_bl, int_int, add_int, sub_int, lt_int, le_int, gt_int, ge_int, eq_int, ne_int, is_nn, is_in, is_bb, isn_nn, isn_in, isn_bb, tr_non, tr_bl, tr_int, ty_non, ty_bl, ty_int, ty_tup, ty_ro, isa_int_int, isa_int_bool, isa_int_list, isa_int_tuple, isa_list_list, isa_list_tuple, isa_tuple_list, isa_tuple_tuple, sq_tup, sq_ro, bi_int_int, bi_int_bl, bi_tuple_tup, bi_min, bi_max, bi_len_tup, bi_len_ro, ix_tup, ix_ro, sl_tup, sl_ro, stays_tup, stays_ro, at_0, at_1, gc_ai, gc_aai, gc_aaai, gc_ab, gc_aab, gc_aaab, gc_an, gc_aan, gc_aaan, gc_same, wipe_nil, wipe_cons, sz_0, sz_1, sz_2, sz_3, sz_4, sz_5, sz_6, sz_7, sz_8, sz_9, sz_10, runDef, runFull, Def.full, startD, List.length_cons, List.length_nil, List.map_cons, List.map_nil, List.append_nil, List.nil_append, List.cons_append, List.drop_nil, List.drop_zero, List.set_cons_zero, List.set_cons_succ, List.replicate, if_true, if_false, Bool.not_true, Bool.not_false, Bool.true_or, Bool.false_or, Option.map_some, Option.map_none, Nat.zero_add, Nat.add_zero, Nat.sub_self, Nat.reduceAdd, Nat.reduceSub, ↓reduceIte, Bool.and_true, Bool.true_and, Bool.false_and, Bool.and_false, Int.cast_ofNat_Int, decide_true, decide_false, Int.reduceEq, Int.reduceLT, Int.reduceLE, Bool.false_eq_true, List.append_assoc, List.length_append, lk_app, lk_app0, lk_sapp, lk_sapp0, lk_z, lk_s, st_app, st_app0, st_sapp, st_sapp0, len_set, set_set, sq_lk, ix_lk, sl_lk, len_lk, tuple_lk, list_lk, list_tup, ty_lk, stays_lk, set_lk, add_lk, app_lk, ext_lk, clear_lk, recv_lk, get2_lk, tr_lk, gp_0, gp_1, gp_2, gp_3, gp_4, gp_5, gp_6, gp_7, gp_8, ko_n, ko_s, ko_p, gq_1, gq_2, gq_3, gq_4, gq_5, gq_6, gq_7, gq_8, gq_9, gq_10, gq_11, gq_12, gq_13, gq_14, gq_15, gq_16, gcR, Nat.lt_irrefl, Nat.not_lt_zero, List.take_succ_cons, List.take_zero, List.take_nil, D.beqL_self, at_2, at_3, ixN, Nat.reduceLT, Nat.reduceLeDiff, Int.reduceToNat, Int.reduceNeg, Int.reduceSub, Int.reduceAdd, Int.reduceMul, sz_lt, Int.zero_add, mod_int, pr_int, pr_bl, pr_non, pr_str, pr_tup, pr_nil, pr_cons, pr_lst, pr_ints, pr_prs, pr_app, pr_kD, mt_1, mt_2, mt_3, mt_4, mt_5, eq_D, ne_D, eqD_ll, eqD_tt, eqL_ll, eqS_same, eqS_nil, eqS_ints, eqD_ii, eqD_kk, py_app, py_nil, py_cons, py_ints, py_int, py_bl, py_non, py_kD, py_links, py_prs, py_mapi, pr_mapi, pr_linksT, hkr, l1, l2, l3, l4, l5, keysAt_one hf, List.length_map, hlz]
    generalize hX : lcD _ _ _ _ _ _ _ = X
    have e := lc_f (fun q : Int × Int => D.int q.1) hX rfl (le_size (by simp; omega)) (fun p hp => by simp only [bnd_some, bnd_none, opt_some, opt_none, seqF_next, seqF_brk, seqF_cnt, seqF_ret, ts_nil, ts_cons, out_ret, out_next, ite_t, ite_f, bop_and_t, bop_and_f, bop_or_t, bop_or_f, bb_and_t, bb_and_f, bb_or_t, bb_or_f, slot_0, slot_s, e_con, b_con, e_var, b_var, e_glo, b_glo, e_tup, b_tup, e_lst, b_lst, e_dct, b_dct, e_op, b_op, e_neg, b_neg, e_not, b_not, e_bop, b_bop, e_cmp, b_cmp, e_chn, b_chn, e_ifx, b_ifx, e_ix, b_ix, e_sl, b_sl, e_call, b_call, e_bi, b_bi, e_mxd, b_mxd, e_isi, b_isi, e_isl, b_isl, e_lrg, b_lrg, e_mt, b_mt, e_lc, b_lc, bop_1, bop_2, bb_1, bb_2, es_nil, es_cons, eo_none, eo_some, if_none, if_some, i_ex, i_rng1, i_rng2, i_enm, q_nm, q_tp, q_sb, setK_some, qs_nil, qs_cons, t_asg, t_aug, t_ex, t_ret, t_retN, t_iff, t_fr, t_whl, t_brk, t_cnt, t_pas, con_none, con_bool, con_int, con_str, neg_int, not_bl, int_int, add_int, sub_int, lt_int, le_int, gt_int, ge_int, eq_int, ne_int, is_nn, is_in, is_bb, isn_nn, isn_in, isn_bb, tr_non, tr_bl, tr_int, ty_non, ty_bl, ty_int, ty_tup, ty_ro, isa_int_int, isa_int_bool, isa_int_list, isa_int_tuple, isa_list_list, isa_list_tuple, isa_tuple_list, isa_tuple_tuple, sq_tup, sq_ro, bi_int_int, bi_int_bl, bi_tuple_tup, bi_min, bi_max, bi_len_tup, bi_len_ro, ix_tup, ix_ro, sl_tup, sl_ro, stays_tup, stays_ro, at_0, at_1, gc_ai, gc_aai, gc_aaai, gc_ab, gc_aab, gc_aaab, gc_an, gc_aan, gc_aaan, gc_same, wipe_nil, wipe_cons, sz_0, sz_1, sz_2, sz_3, sz_4, sz_5, sz_6, sz_7, sz_8, sz_9, sz_10, runDef, runFull, Def.full, startD, List.length_cons, List.length_nil, List.map_cons, List.map_nil, List.append_nil, List.nil_append, List.cons_append, List.drop_nil, List.drop_zero, List.set_cons_zero, List.set_cons_succ, List.replicate, if_true, if_false, Bool.not_true, Bool.not_false, Bool.true_or, Bool.false_or, Option.map_some, Option.map_none, Nat.zero_add, Nat.add_zero, Nat.sub_self, Nat.reduceAdd, Nat.reduceSub, ↓reduceIte, Bool.and_true, Bool.true_and, Bool.false_and, Bool.and_false, Int.cast_ofNat_Int, decide_true, decide_false, Int.reduceEq, Int.reduceLT, Int.reduceLE, Bool.false_eq_true, List.append_assoc, List.length_append, lk_app, lk_app0, lk_sapp, lk_sapp0, lk_z, lk_s, st_app, st_app0, st_sapp, st_sapp0, len_set, set_set, sq_lk, ix_lk, sl_lk, len_lk, tuple_lk, list_lk, list_tup, ty_lk, stays_lk, set_lk, add_lk, app_lk, ext_lk, clear_lk, recv_lk, get2_lk, tr_lk, gp_0, gp_1, gp_2, gp_3, gp_4, gp_5, gp_6, gp_7, gp_8, ko_n, ko_s, ko_p, gq_1, gq_2, gq_3, gq_4, gq_5, gq_6, gq_7, gq_8, gq_9, gq_10, gq_11, gq_12, gq_13, gq_14, gq_15, gq_16, gcR, Nat.lt_irrefl, Nat.not_lt_zero, List.take_succ_cons, List.take_zero, List.take_nil, D.beqL_self, at_2, at_3, ixN, Nat.reduceLT, Nat.reduceLeDiff, Int.reduceToNat, Int.reduceNeg, Int.reduceSub, Int.reduceAdd, Int.reduceMul, sz_lt, Int.zero_add, mod_int, pr_int, pr_bl, pr_non, pr_str, pr_tup, pr_nil, pr_cons, pr_lst, pr_ints, pr_prs, pr_app, pr_kD, mt_1, mt_2, mt_3, mt_4, mt_5, eq_D, ne_D, eqD_ll, eqD_tt, eqL_ll, eqS_same, eqS_nil, eqS_ints, eqD_ii, eqD_kk, py_app, py_nil, py_cons, py_ints, py_int, py_bl, py_non, py_kD, py_links, py_prs, py_mapi, pr_mapi, pr_linksT, lcS, ite_b, bnd_if, seqF_if, out_if, bopB_and, bopB_or, bopD_and, bopD_or, if_same_bool, if_bf, if_bx, if_xt, prD])
    subst e
    clear hX
    have em : tw.map (fun q => D.int q.1) = (tw.map (·.1)).map D.int := by rw [List.map_map]; rfl
    simp only [bnd_some, bnd_none, opt_some, opt_none, seqF_next, seqF_brk, seqF_cnt, seqF_ret, ts_nil, ts_cons, out_ret, out_next, ite_t, ite_f, bop_and_t, bop_and_f, bop_or_t, bop_or_f, bb_and_t, bb_and_f, bb_or_t, bb_or_f, slot_0, slot_s, e_con, b_con, e_var, b_var, e_glo, b_glo, e_tup, b_tup, e_lst, b_lst, e_dct, b_dct, e_op, b_op, e_neg, b_neg, e_not, b_not, e_bop, b_bop, e_cmp, b_cmp, e_chn, b_chn, e_ifx, b_ifx, e_ix, b_ix, e_sl, b_sl, e_call, b_call, e_bi, b_bi, e_mxd, b_mxd, e_isi, b_isi, e_isl, b_isl, e_lrg, b_lrg, e_mt, b_mt, e_lc, b_lc, bop_1, bop_2, bb_1, bb_2, es_nil, es_cons, eo_none, eo_some, if_none, if_some, i_ex, i_rng1, i_rng2, i_enm, q_nm, q_tp, q_sb, setK_some, qs_nil, qs_cons, t_asg, t_aug, t_ex, t_ret, t_retN, t_iff, t_fr, t_whl, t_brk, t_cnt, t_pas, con_none, con_bool, con_int, con_str, neg_int, not_bl, int_int, add_int, sub_int, lt_int, le_int, gt_int, ge_int, eq_int, ne_int, is_nn, is_in, is_bb, isn_nn, isn_in, isn_bb, tr_non, tr_bl, tr_int, ty_non, ty_bl, ty_int, ty_tup, ty_ro, isa_int_int, isa_int_bool, isa_int_list, isa_int_tuple, isa_list_list, isa_list_tuple, isa_tuple_list, isa_tuple_tuple, sq_tup, sq_ro, bi_int_int, bi_int_bl, bi_tuple_tup, bi_min, bi_max, bi_len_tup, bi_len_ro, ix_tup, ix_ro, sl_tup, sl_ro, stays_tup, stays_ro, at_0, at_1, gc_ai, gc_aai, gc_aaai, gc_ab, gc_aab, gc_aaab, gc_an, gc_aan, gc_aaan, gc_same, wipe_nil, wipe_cons, sz_0, sz_1, sz_2, sz_3, sz_4, sz_5, sz_6, sz_7, sz_8, sz_9, sz_10, runDef, runFull, Def.full, startD, List.length_cons, List.length_nil, List.map_cons, List.map_nil, List.append_nil, List.nil_append, List.cons_append, List.drop_nil, List.drop_zero, List.set_cons_zero, List.set_cons_succ, List.replicate, if_true, if_false, Bool.not_true, Bool.not_false, Bool.true_or, Bool.false_or, Option.map_some, Option.map_none, Nat.zero_add, Nat.add_zero, Nat.sub_self, Nat.reduceAdd, Nat.reduceSub, ↓reduceIte, Bool.and_true, Bool.true_and, Bool.false_and, Bool.and_false, Int.cast_ofNat_Int, decide_true, decide_false, Int.reduceEq, Int.reduceLT, Int.reduceLE, Bool.false_eq_true, List.append_assoc, List.length_append, lk_app, lk_app0, lk_sapp, lk_sapp0, lk_z, lk_s, st_app, st_app0, st_sapp, st_sapp0, len_set, set_set, sq_lk, ix_lk, sl_lk, len_lk, tuple_lk, list_lk, list_tup, ty_lk, stays_lk, set_lk, add_lk, app_lk, ext_lk, clear_lk, recv_lk, get2_lk, tr_lk, gp_0, gp_1, gp_2, gp_3, gp_4, gp_5, gp_6, gp_7, gp_8, ko_n, ko_s, ko_p, gq_1, gq_2, gq_3, gq_4, gq_5, gq_6, gq_7, gq_8, gq_9, gq_10, gq_11, gq_12, gq_13, gq_14, gq_15, gq_16, gcR, Nat.lt_irrefl, Nat.not_lt_zero, List.take_succ_cons, List.take_zero, List.take_nil, D.beqL_self, at_2, at_3, ixN, Nat.reduceLT, Nat.reduceLeDiff, Int.reduceToNat, Int.reduceNeg, Int.reduceSub, Int.reduceAdd, Int.reduceMul, sz_lt, Int.zero_add, mod_int, pr_int, pr_bl, pr_non, pr_str, pr_tup, pr_nil, pr_cons, pr_lst, pr_ints, pr_prs, pr_app, pr_kD, mt_1, mt_2, mt_3, mt_4, mt_5, eq_D, ne_D, eqD_ll, eqD_tt, eqL_ll, eqS_same, eqS_nil, eqS_ints, eqD_ii, eqD_kk, py_app, py_nil, py_cons, py_ints, py_int, py_bl, py_non, py_kD, py_links, py_prs, py_mapi, pr_mapi, pr_linksT, em]
    generalize hX : lcD _ _ _ _ _ _ _ = X
    have e := hX.symm.trans (lc_alloc lpM (fun V => rfl) (le_size (by simp; omega)) (fun p hp U V hU => by simp only [bnd_some, bnd_none, opt_some, opt_none, seqF_next, seqF_brk, seqF_cnt, seqF_ret, ts_nil, ts_cons, out_ret, out_next, ite_t, ite_f, bop_and_t, bop_and_f, bop_or_t, bop_or_f, bb_and_t, bb_and_f, bb_or_t, bb_or_f, slot_0, slot_s, e_con, b_con, e_var, b_var, e_glo, b_glo, e_tup, b_tup, e_lst, b_lst, e_dct, b_dct, e_op, b_op, e_neg, b_neg, e_not, b_not, e_bop, b_bop, e_cmp, b_cmp, e_chn, b_chn, e_ifx, b_ifx, e_ix, b_ix, e_sl, b_sl, e_call, b_call, e_bi, b_bi, e_mxd, b_mxd, e_isi, b_isi, e_isl, b_isl, e_lrg, b_lrg, e_mt, b_mt, e_lc, b_lc, bop_1, bop_2, bb_1, bb_2, es_nil, es_cons, eo_none, eo_some, if_none, if_some, i_ex, i_rng1, i_rng2, i_enm, q_nm, q_tp, q_sb, setK_some, qs_nil, qs_cons, t_asg, t_aug, t_ex, t_ret, t_retN, t_iff, t_fr, t_whl, t_brk, t_cnt, t_pas, con_none, con_bool, con_int, con_str, neg_int, not_bl, int_int, add_int, sub_int, lt_int, le_int, gt_int, ge_int, eq_int, ne_int, is_nn, is_in, is_bb, isn_nn, isn_in, isn_bb, tr_non, tr_bl, tr_int, ty_non, ty_bl, ty_int, ty_tup, ty_ro, isa_int_int, isa_int_bool, isa_int_list, isa_int_tuple, isa_list_list, isa_list_tuple, isa_tuple_list, isa_tuple_tuple, sq_tup, sq_ro, bi_int_int, bi_int_bl, bi_tuple_tup, bi_min, bi_max, bi_len_tup, bi_len_ro, ix_tup, ix_ro, sl_tup, sl_ro, stays_tup, stays_ro, at_0, at_1, gc_ai, gc_aai, gc_aaai, gc_ab, gc_aab, gc_aaab, gc_an, gc_aan, gc_aaan, gc_same, wipe_nil, wipe_cons, sz_0, sz_1, sz_2, sz_3, sz_4, sz_5, sz_6, sz_7, sz_8, sz_9, sz_10, runDef, runFull, Def.full, startD, List.length_cons, List.length_nil, List.map_cons, List.map_nil, List.append_nil, List.nil_append, List.cons_append, List.drop_nil, List.drop_zero, List.set_cons_zero, List.set_cons_succ, List.replicate, if_true, if_false, Bool.not_true, Bool.not_false, Bool.true_or, Bool.false_or, Option.map_some, Option.map_none, Nat.zero_add, Nat.add_zero, Nat.sub_self, Nat.reduceAdd, Nat.reduceSub, ↓reduceIte, Bool.and_true, Bool.true_and, Bool.false_and, Bool.and_false, Int.cast_ofNat_Int, decide_true, decide_false, Int.reduceEq, Int.reduceLT, Int.reduceLE, Bool.false_eq_true, List.append_assoc, List.length_append, lk_app, lk_app0, lk_sapp, lk_sapp0, lk_z, lk_s, st_app, st_app0, st_sapp, st_sapp0, len_set, set_set, sq_lk, ix_lk, sl_lk, len_lk, tuple_lk, list_lk, list_tup, ty_lk, stays_lk, set_lk, add_lk, app_lk, ext_lk, clear_lk, recv_lk, get2_lk, tr_lk, gp_0, gp_1, gp_2, gp_3, gp_4, gp_5, gp_6, gp_7, gp_8, ko_n, ko_s, ko_p, gq_1, gq_2, gq_3, gq_4, gq_5, gq_6, gq_7, gq_8, gq_9, gq_10, gq_11, gq_12, gq_13, gq_14, gq_15, gq_16, gcR, Nat.lt_irrefl, Nat.not_lt_zero, List.take_succ_cons, List.take_zero, List.take_nil, D.beqL_self, at_2, at_3, ixN, Nat.reduceLT, Nat.reduceLeDiff, Int.reduceToNat, Int.reduceNeg, Int.reduceSub, Int.reduceAdd, Int.reduceMul, sz_lt, Int.zero_add, mod_int, pr_int, pr_bl, pr_non, pr_str, pr_tup, pr_nil, pr_cons, pr_lst, pr_ints, pr_prs, pr_app, pr_kD, mt_1, mt_2, mt_3, mt_4, mt_5, eq_D, ne_D, eqD_ll, eqD_tt, eqL_ll, eqS_same, eqS_nil, eqS_ints, eqD_ii, eqD_kk, py_app, py_nil, py_cons, py_ints, py_int, py_bl, py_non, py_kD, py_links, py_prs, py_mapi, pr_mapi, pr_linksT, lcS, ite_b, bnd_if, seqF_if, out_if, bopB_and, bopB_or, bopD_and, bopD_or, if_same_bool, if_bf, if_bx, if_xt, prD, lpM]))
    subst e
    clear hX
    simp only [List.nil_append, bnd_some]
    obtain ⟨S5, hS5⟩ : ∃ S5, S5 = S.set T.length (src a3 b c3) ++ [.lst (ps.map D.int)] := ⟨_, rfl⟩
    rw [← hS5]
    obtain ⟨ds2, hds2⟩ : ∃ ds2, ds2 = (List.range' S5.length tw.length).map D.loc := ⟨_, rfl⟩
    have q1 : TwL (S5 ++ tw.map lpM ++ [.lst ds2]) ds2 tw := by rw [hds2]; exact TwL_locs
    have q2 : lk (S5 ++ tw.map lpM ++ [.lst ds2]) q = some (.lst ((List.range' (T ++ [src a2 b c2]).length tw.length).map D.loc)) := by rw [hS5]; exact lk_old (lk_old (hsq _ _))
    have q3 : TwL (S5 ++ tw.map lpM ++ [.lst ds2]) ((List.range' (T ++ [src a2 b c2]).length tw.length).map D.loc) tw := by
      rw [hS5, List.append_assoc, List.append_assoc]; exact htL _ _
    have q4 : lk (S5 ++ tw.map lpM ++ [.lst ds2]) (S5 ++ tw.map lpM).length = some (.lst ds2) := lk_app0
    have q5 := eqS_TwL q3 q1 (fun d hd => by obtain ⟨n, _, rfl⟩ := List.mem_map.mp hd; exact ⟨n, rfl⟩) (fun d hd => by rw [hds2] at hd; obtain ⟨n, _, rfl⟩ := List.mem_map.mp hd; exact ⟨n, rfl⟩)
    have q6 : ∀ b, gc S5 (.bl b) (S5 ++ tw.map lpM ++ [.lst ds2]) = (.bl b, S5) := fun b => by rw [List.append_assoc]; exact gp_1 (pr_bl b)
    rw [← hds2]
    have q7 : eqD (S5 ++ tw.map lpM ++ [.lst ds2]) (.loc q) (.loc (S5 ++ tw.map lpM).length) = some true := by rw [eqD_ll, q2, q4, eqL_ll, q5]
    simp only [ne_D, q7, Option.map_some, opt_some, bnd_some, q6, Bool.not_true, ite_f, ts_nil, seqF_next]
    refine ⟨⟨_, _, _, _, _, _, _, _, _, _, rfl⟩, ?_⟩
    rw [hS5]
    exact lk_othera h2 h2n
theorem law_true (ns : List Int) (hl : ns.length ≤ 63) : ∃ S', runFull (orc defs 60) d_law [.ro (ns.map D.int)] [] = some (.bl true, S') := law_gen 50 ns
end K01

end

section
set_option maxHeartbeats 0
namespace K01
open PySem PySem.Spec PyProof.Rows L2 Mi
theorem gl_ok {K : PySem.W.Frag} {h : Heap} {mg : Str → Option Value} (X : K.In h) (G : h.Ns mainGlobals mg) (c : He.SaysD fa fn K) : ∀ x i, (tabOf defs gl).glo x = some i → ∃ t, mg x = some (.int i t) := by
  intro x i e
  have h1 : (x, i) ∈ gl := lookup_in e
  exact He.int_ok X G (SaysD_facts c (gl_fa _ h1))
theorem blt_ok {K : PySem.W.Frag} {h : Heap} {mg : Str → Option Value} (X : K.In h) (G : h.Ns mainGlobals mg) (c : He.SaysD fa fn K) : ∀ x ∈ bltNames, mg x = none :=
  fun x hx => He.free_ok X G (SaysD_facts c (List.mem_append_right _ (List.mem_map.mpr ⟨x, hx, rfl⟩)))
abbrev R : PySem.W.OpenRow := PySem.W.OpenLaw.row PySem.Challenge.rw_tosslanes_k01_towers_and_lanes
abbrev hk : PySem.W.Hook := He.hookD 4 fa fn
def ob (s : PySem.W.SharedT) : He.AlD := He.obsDG 4 fa fn (HandSHeadRun.getT s)
theorem ob_eq (s : PySem.W.SharedT) : ob s = hk.obs s.abs := He.obsDG_eq (HandSHeadRun.getT_eq s)
theorem run (w : World) : HandSHeadRun.RunEq R (PySem.W.view R.prog [30]) hk ob 4000 loose w := by
  intro os
  kernel_rfl
theorem facts {P : Program} {w : World} {K : PySem.W.Frag} {h : Heap} {mg : Str → Option Value} {f : Addr} (X : K.In h) (G : h.Ns mainGlobals mg) (hfa : mg ("law" : Str) = some (.ref f)) (c : He.SaysD fa fn K) :
    ∃ fd : FuncData, (∀ (s : Shared) (v : Value), BindsTo s fd ⟨[v], []⟩ [("_law_script", v)]) ∧ ∀ base : Heap, K.In base → base.Ns mainGlobals mg → FnOk P w K mg base CX0 (60 + 1) f fd ["_law_script"] (fun vs H Q _ => vs.length = d_law.ps.length ∧ liftN K (runFull (orc defs 60) d_law) vs H Q) := by
  obtain ⟨fd, F⟩ := c.def_ 23 (d := h_law) rfl
  have e := hfa.symm.trans (He.glo_ok X G (c.fact 23 (f := .glo "law") rfl))
  cases e
  have b := FunD.bindsA (ps := ["_law_script"]) F fun _ _ _ _ _ _ us hl => match us, hl with | [_], _ => rfl
  exact ⟨fd, fun s v => b s [v] rfl, fun base _ _ => fn_good (d := d_law) F s_law (blt_ok X G c) (gl_ok X G c) (all_wf d_law (List.mem_of_getElem? (i := 23) rfl)) (defs_ok (all_ok X G c) (blt_ok X G c) (gl_ok X G c) all_wf 60)⟩
end K01

end
set_option maxHeartbeats 0
open PySem PySem.W PySem.Calls PyProof.Rows
theorem PySem.Challenge.cw_tosslanes_k01_towers_and_lanes_holds : PySem.Challenge.rw_tosslanes_k01_towers_and_lanes.Holds := by
  w_on; o_law
  refine HandSHeadRun.head_any (r := OpenLaw.row PySem.Challenge.rw_tosslanes_k01_towers_and_lanes) (q := view (OpenLaw.row PySem.Challenge.rw_tosslanes_k01_towers_and_lanes).prog [30]) (H := K01.hk) (ob := K01.ob) (M := 4000) (loose := K01.loose) (d := HandSHeadRun.topDef (OpenLaw.row PySem.Challenge.rw_tosslanes_k01_towers_and_lanes).prog 30) (kwd := []) K01.ob_eq
    (by kernel_rfl) (fun s => by kernel_rfl) K01.run (by kernel_rfl) (by kernel_rfl) (by kernel_rfl) (by rfl) (by first | assumption | decide +kernel) (by decide +kernel) ⟨rfl, rfl, rfl, rfl, rfl, by decide +kernel⟩ ?hw ?hc
  case hw => w_witness2
  case hc =>
    refine L2.walk_ofE (l := PySem.Challenge.rw_tosslanes_k01_towers_and_lanes) (n := 63) (k := 60 + 1) (x := "_law_script") (CX := L2.CX0) rfl (by decide) (by kernel_rfl) ⟨rfl, by decide, by decide⟩ ?F (fun _ _ _ _ z => z)
    intro w mg fa h Y G hmg0
    obtain ⟨K, KX, c⟩ := Y
    have hmg : mg ("law" : PySem.Str) = some (.ref fa) := by
      have e : (HandSHeadRun.topDef (OpenLaw.row PySem.Challenge.rw_tosslanes_k01_towers_and_lanes).prog 30).name = ("law" : PySem.Str) := by kernel_rfl
      rw [← e]
      exact hmg0
    obtain ⟨fd, hb, hF⟩ := K01.facts (P := (PySem.Challenge.rw_tosslanes_k01_towers_and_lanes).prog) (w := w) KX G hmg c
    exact ⟨K, fd, _, KX, hb, fun H a ns hl hO hS => let ⟨S', e⟩ := K01.law_true ns hl; Mi.entry hO hS rfl e, hF⟩
