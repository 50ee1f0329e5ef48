import PyProof.Rows.All
import Wide.All
import OpenK.AllK
import Wide.FinOn
import HandS.ForMost
import HandS.ForExc
import HandS.TryMany
import HandS.CallSlots
import HandS.Flow
import HandS.Wide
import HandS.TupAny
import HandS.TupMul
import HandS.IsInst
import HandS.ExcField
import HandS.ExcIs
import HandS.Deep
import HandS.Conv
import KE.LtData
import KE.SortData
import KE.DataCmp
import HandS.RaiseMore
import KE.IntTextLaws
import KE.KExcIs
import KE.KExcSuper
import KE.KExcLine
import HandS.ExcInit
import HandS.Defaults
import HandS.Words
import HandS.Head0
import HandS.Head1
import HandS.Head2
import HandS.HeadEnd
import HandS.HeadHook1
import HandS.HeadHook2
import HandS.Codes
import HandS.Ends
import PySem.Challenge.RW_papersorliars_k00_value_texts
import KE.KIntText
import KE.IntTextText
set_option Elab.async false
set_option linter.all false
set_option autoImplicit false
/-! FxA: data, store, a small abstract syntax for a part of Python, and its evaluator (plain Lean). -/
namespace Fx
open PySem (Operator CmpOp)

/-! ### data: what is never changed is a value; what may change stands in the store -/
inductive D where
  | non | bl (b : Bool) | int (i : Int) | str (s : List Nat) | tup (xs : List D) | ref (n : Nat)
  deriving Inhabited

mutual
def D.beq : D → D → Bool
  | .non, .non => true
  | .bl a, .bl b => a == b
  | .int a, .int b => a == b
  | .str a, .str b => a == b
  | .tup a, .tup b => D.beqs a b
  | .ref a, .ref b => a == b
  | _, _ => false
def D.beqs : List D → List D → Bool
  | [], [] => true
  | a :: as, b :: bs => D.beq a b && D.beqs as bs
  | _, _ => false
end
mutual
theorem D.beq_eq : ∀ {a b : D}, D.beq a b = true → a = b
  | .non, b, h => by cases b <;> first | rfl | (simp [D.beq] at h)
  | .bl x, b, h => by cases b <;> first | (simp [D.beq] at h; rw [h]) | (simp [D.beq] at h)
  | .int x, b, h => by cases b <;> first | (simp [D.beq] at h; rw [h]) | (simp [D.beq] at h)
  | .str x, b, h => by cases b <;> first | (simp [D.beq] at h; rw [h]) | (simp [D.beq] at h)
  | .ref x, b, h => by cases b <;> first | (simp [D.beq] at h; rw [h]) | (simp [D.beq] at h)
  | .tup x, b, h => by
    cases b with
    | tup y => rw [D.beqs_eq (a := x) (b := y) (by simpa [D.beq] using h)]
    | _ => simp [D.beq] at h
theorem D.beqs_eq : ∀ {a b : List D}, D.beqs a b = true → a = b
  | [], [], _ => rfl
  | [], _ :: _, h => by simp [D.beqs] at h
  | _ :: _, [], h => by simp [D.beqs] at h
  | x :: xs, y :: ys, h => by
    have q : D.beq x y = true ∧ D.beqs xs ys = true := by simpa [D.beqs] using h
    rw [D.beq_eq q.1, D.beqs_eq q.2]
end
mutual
theorem D.beq_refl : ∀ a : D, D.beq a a = true
  | .non => rfl
  | .bl x => by simp [D.beq]
  | .int x => by simp [D.beq]
  | .str x => by simp [D.beq]
  | .ref x => by simp [D.beq]
  | .tup x => by simpa [D.beq] using D.beqs_refl x
theorem D.beqs_refl : ∀ a : List D, D.beqs a a = true
  | [] => rfl
  | x :: xs => by simp [D.beqs, D.beq_refl x, D.beqs_refl xs]
end
instance : DecidableEq D := fun a b =>
  if h : D.beq a b = true then isTrue (D.beq_eq h) else isFalse fun e => h (e ▸ D.beq_refl a)

mutual
/-- no truth value and nothing of the store in it -/
def D.nb : D → Bool
  | .non => true
  | .bl _ => false
  | .int _ => true
  | .str s => s.all fun c => decide (c < 1114112)
  | .tup xs => D.nbs xs
  | .ref _ => false
def D.nbs : List D → Bool
  | [] => true
  | x :: xs => D.nb x && D.nbs xs
end
mutual
/-- it names only the first n places of the store -/
def D.wf (n : Nat) : D → Bool
  | .tup xs => D.wfs n xs
  | .ref k => decide (k < n)
  | .non => true
  | .bl _ => true
  | .int _ => true
  | .str _ => true
def D.wfs (n : Nat) : List D → Bool
  | [] => true
  | x :: xs => D.wf n x && D.wfs n xs
end
mutual
/-- how deep tuples are nested -/
def D.dep : D → Nat
  | .tup xs => D.deps xs + 1
  | .non => 0
  | .bl _ => 0
  | .int _ => 0
  | .str _ => 0
  | .ref _ => 0
def D.deps : List D → Nat
  | [] => 0
  | x :: xs => max (D.dep x) (D.deps xs)
end
mutual
/-- the two can be compared by < -/
def D.alike : D → D → Bool
  | .non, .non => true
  | .int _, .int _ => true
  | .str _, .str _ => true
  | .tup xs, .tup ys => D.alikes xs ys
  | _, _ => false
def D.alikes : List D → List D → Bool
  | x :: xs, y :: ys => D.alike x y && D.alikes xs ys
  | [], _ => true
  | _ :: _, [] => true
end
/-- < of texts: by signs -/
def ltS : List Nat → List Nat → Bool
  | [], [] => false
  | [], _ :: _ => true
  | _ :: _, [] => false
  | x :: xs, y :: ys => if x = y then ltS xs ys else decide (x < y)
mutual
/-- a < b, for what is alike -/
def D.lt : D → D → Bool
  | .int i, .int j => decide (i < j)
  | .str x, .str y => ltS x y
  | .tup xs, .tup ys => D.lts xs ys
  | _, _ => false
def D.lts : List D → List D → Bool
  | [], [] => false
  | [], _ :: _ => true
  | _ :: _, [] => false
  | x :: xs, y :: ys => if x = y then D.lts xs ys else D.lt x y
end

/-! ### the store -/
inductive O where
  | lst (xs : List D)
  | frz (xs : List D)
  | ins (C : Nat) (fs : List (Nat × D))
  deriving DecidableEq, Inhabited
abbrev Store := List O
abbrev Env := List (Option D)
def O.wf (n : Nat) : O → Bool
  | .lst xs => D.wfs n xs
  | .frz xs => D.wfs n xs
  | .ins _ fs => D.wfs n (fs.map (·.2))

inductive R (α : Type) where
  | ok (a : α) (S : Store)
  | exn (C : Nat) (fs : List (Nat × D)) (S : Store)
  | stuck
def R.bind {α β : Type} (r : R α) (f : α → Store → R β) : R β := match r with
  | .ok a S => f a S
  | .exn C fs S => .exn C fs S
  | .stuck => .stuck
@[simp] theorem R.bind_ok {α β : Type} (a : α) (S : Store) (f : α → Store → R β) : (R.ok a S).bind f = f a S := rfl
@[simp] theorem R.bind_exn {α β : Type} (C : Nat) (fs : List (Nat × D)) (S : Store) (f : α → Store → R β) : (R.exn C fs S : R α).bind f = .exn C fs S := rfl
@[simp] theorem R.bind_stuck {α β : Type} (f : α → Store → R β) : (R.stuck : R α).bind f = .stuck := rfl
/-- no exception is let out -/
def R.noex {α : Type} (r : R α) : R α := match r with
  | .ok a S => .ok a S
  | _ => .stuck
@[simp] theorem R.noex_ok {α : Type} (a : α) (S : Store) : (R.ok a S).noex = .ok a S := rfl

/-- what is not needed any more is left out of the store -/
def tidy (S : Store) (r : R D) : R D := match r with
  | .ok d S' =>
    if S'.length = S.length then .ok d S'
    else if S'.take S.length = S then
      (if d.wf S.length then .ok d S
      else match d with
        | .ref k => (match S'[k]? with
          | some o => if o.wf S.length && decide (S.length ≤ k) then .ok (.ref S.length) (S ++ [o]) else .ok d S'
          | none => .ok d S')
        | _ => .ok d S')
    else .ok d S'
  | .exn C fs S' =>
    if S'.length = S.length then .exn C fs S'
    else if S'.take S.length = S then
      (if D.wfs S.length (fs.map (·.2)) then .exn C fs S else .exn C fs S')
    else .exn C fs S'
  | .stuck => .stuck
def tidyB (S : Store) (r : R Bool) : R Bool := match r with
  | .ok d S' => if S'.length = S.length then .ok d S' else if S'.take S.length = S then .ok d S else .ok d S'
  | .exn C fs S' => .exn C fs S'
  | .stuck => .stuck

/-! ### the largest row -/
def line : Nat := 16777216

/-! ### built-in kinds -/
inductive Ty where
  | tInt | tBool | tStr | tTuple | tList
  deriving DecidableEq, Inhabited
inductive Blt where
  | len | abs | min | max | sum | sorted | tuple | list | int | str
  deriving DecidableEq, Inhabited
inductive Mth where
  | append | pop | join
  deriving DecidableEq, Inhabited

/-! ### syntax -/
inductive FT where
  | nm (i : Nat)
  | tp (is : List Nat)
  deriving Inhabited, DecidableEq
mutual
inductive FE where
  | loc (i : Nat)
  | con (c : D)
  | glo (k : Nat)
  | bin (op : Operator) (a b : FE)
  | neg (a : FE)
  | not (a : FE)
  | and (es : FEs)
  | or (es : FEs)
  | cmp (op : CmpOp) (a b : FE)
  | chain (op op' : CmpOp) (a b c : FE)
  | ite (c a b : FE)
  | tup (es : FEs)
  | lst (es : FEs)
  | blt (b : Blt) (es : FEs)
  | mth (m : Mth) (o : FE) (es : FEs)
  | call (f : Nat) (es : FEs)
  | fld (o : FE) (f : Nat)
  | xfld (i f : Nat)
  | idx (o i : FE)
  | cut (o lo hi : FE)
  | cutL (o lo : FE)
  | cutH (o hi : FE)
  | isi (o : FE) (c : Ty)
  | xisi (i : Nat) (cs : List Nat)
  | lc (own : List Nat) (tg : FT) (src : FI) (cs : FEs) (elt : FE)
inductive FEs where
  | nil
  | cons (e : FE) (es : FEs)
inductive FI where
  | seq (e : FE)
  | range1 (a : FE)
  | range2 (a b : FE)
end
mutual
inductive FS where
  | asg (i : Nat) (e : FE)
  | asgT (is : List Nat) (e : FE)
  | aug (i : Nat) (op : Operator) (e : FE)
  | expr (e : FE)
  | ret (e : FE)
  | retN
  | ifs (c : FE) (t e : FSs)
  | whl (c : FE) (b : FSs) (e : FSs)
  | fr (tg : FT) (src : FI) (b : FSs)
  | brk
  | cnt
  | pass
  | rais (C : Nat) (es : FEs)
  | tr (b : FSs) (hs : FHs)
inductive FSs where
  | nil
  | cons (s : FS) (ss : FSs)
inductive FHs where
  | nil
  | cons (C : Nat) (nm : Option Nat) (b : FSs) (hs : FHs)
end
instance : Inhabited FE := ⟨.con .non⟩
instance : Inhabited FS := ⟨.pass⟩
instance : Inhabited FSs := ⟨.nil⟩

structure FnD where
  np : Nat
  ns : Nat
  body : FSs
  deriving Inhabited
/-- a program: functions, constants of the module, exceptions' fields, which class is under which -/
structure Glob where
  fns : List FnD
  consts : List D
  exc : List (List Nat)
  sub : List (List Nat)
  deriving Inhabited
abbrev Orac := Nat → List D → Store → R D
/-- the exception that is handled -/
abbrev Xc := Option (Nat × List (Nat × D))

/-! ### operators -/
def lstOf (S : Store) (n : Nat) : Option (List D) := match S[n]? with
  | some (.lst xs) => some xs
  | some (.frz xs) => some xs
  | _ => none
/-- a list or tuple read -/
def seqOf (S : Store) : D → Option (List D)
  | .tup xs => some xs
  | .ref n => lstOf S n
  | _ => none
def bits (i : Int) : Nat := i.natAbs.log2
def binop (op : Operator) (a b : D) (S : Store) : R D := match op, a, b with
  | .Add, .int i, .int j => .ok (.int (i + j)) S
  | .Sub, .int i, .int j => .ok (.int (i - j)) S
  | .Mult, .int i, .int j => if bits i + bits j < 1000000 then .ok (.int (i * j)) S else .stuck
  | .FloorDiv, .int i, .int j => if j ≠ 0 ∧ j.natAbs < 1073741824 then .ok (.int (i.fdiv j)) S else .stuck
  | .Mod, .int i, .int j => if j ≠ 0 then .ok (.int (i.fmod j)) S else .stuck
  | .Pow, .int i, .int j => if 0 ≤ j ∧ j ≤ 1000000 ∧ i.natAbs < 2 ^ 64 then .ok (.int (i ^ j.toNat)) S else .stuck
  | .Add, .str x, .str y => if x.length + y.length ≤ line then .ok (.str (x ++ y)) S else .stuck
  | .Add, .tup x, .tup y => if x.length + y.length ≤ line then .ok (.tup (x ++ y)) S else .stuck
  | .Add, .ref n, .ref m => (match S[n]?, S[m]? with
    | some (.lst x), some (.lst y) => if x.length + y.length ≤ line then .ok (.ref S.length) (S ++ [.lst (x ++ y)]) else .stuck
    | _, _ => .stuck)
  | .Mult, .str x, .int j => if x.length * j.toNat ≤ line ∧ -(2 ^ 63) ≤ j ∧ j < 2 ^ 63 then .ok (.str (List.replicate j.toNat x).flatten) S else .stuck
  | _, _, _ => .stuck
/-- a op= b -/
def augop (op : Operator) (a b : D) (S : Store) : R D := match op, a, b with
  | .Add, .int i, .int j => .ok (.int (i + j)) S
  | .Sub, .int i, .int j => .ok (.int (i - j)) S
  | _, _, _ => .stuck
/-- a == b -/
def eqD (S : Store) (a b : D) : Option Bool := match a, b with
  | .bl x, .bl y => some (x == y)
  | .str x, .str y => some (decide (x = y))
  | .ref n, .ref m => (match lstOf S n, lstOf S m with
    | some xs, some ys => if D.nbs xs && D.nbs ys && decide (D.deps xs < 60) && decide (D.deps ys < 60) then some (decide (xs = ys)) else none
    | _, _ => none)
  | a, b => if a.nb && b.nb && decide (a.dep ≤ 60) && decide (b.dep ≤ 60) then some (decide (a = b)) else none
def ltD (a b : D) : Option Bool := if a.nb && b.nb && D.alike a b && !decide (a = .non) && decide (a.dep ≤ 60) && decide (b.dep ≤ 60) then some (D.lt a b) else none
def inD (S : Store) (a b : D) : Option Bool := match a, b with
  | .str x, .str y => (match x with
    | [c] => some (decide (c ∈ y))
    | _ => none)
  | a, b => (match seqOf S b with
    | some ys => if a.nb && D.nbs ys && decide (a.dep ≤ 60) && decide (D.deps ys ≤ 60) then some (decide (a ∈ ys)) else none
    | none => none)
def isD (a b : D) : Option Bool := match b with
  | .non => some (decide (a = .non))
  | _ => none
def cmpop (op : CmpOp) (a b : D) (S : Store) : Option Bool := match op with
  | .Eq => eqD S a b
  | .NotEq => (eqD S a b).map (!·)
  | .Lt => ltD a b
  | .Gt => ltD b a
  | .LtE => (ltD b a).map (!·)
  | .GtE => (ltD a b).map (!·)
  | .In => inD S a b
  | .NotIn => (inD S a b).map (!·)
  | .Is => isD a b
  | .IsNot => (isD a b).map (!·)
def truth (S : Store) : D → Option Bool
  | .non => some false
  | .bl b => some b
  | .int i => some (i != 0)
  | .str s => if s.length ≤ line then some (!s.isEmpty) else none
  | .tup xs => some (!xs.isEmpty)
  | .ref n => (match lstOf S n with
    | some xs => some (!xs.isEmpty)
    | none => none)
def ixN (n : Nat) (i : Int) : Option Nat := if 0 ≤ i then (if i < n then some i.toNat else none) else if -(n : Int) ≤ i then some (i + n).toNat else none
def atI {α : Type} (xs : List α) (i : Int) : Option α := (ixN xs.length i).bind fun j => xs[j]?
def idxD (S : Store) (o i : D) : Option D := match i with
  | .int k => (match o with
    | .str s => if s.length ≤ line then (atI s k).map fun c => .str [c] else none
    | o => (seqOf S o).bind fun xs => atI xs k)
  | _ => none
def sIx (n d : Nat) : Option Int → Nat
  | none => d
  | some v => if v < 0 then (v + n).toNat else min v.toNat n
def cutX {α : Type} (xs : List α) (lo hi : Option Int) : List α := (xs.drop (sIx xs.length 0 lo)).take (sIx xs.length xs.length hi - sIx xs.length 0 lo)
def cutD (S : Store) (o : D) (lo hi : Option Int) : R D := match o with
  | .str s => if s.length ≤ line then .ok (.str (cutX s lo hi)) S else .stuck
  | .tup xs => .ok (.tup (cutX xs lo hi)) S
  | .ref n => (match lstOf S n with
    | some xs => .ok (.ref S.length) (S ++ [.lst (cutX xs lo hi)])
    | none => .stuck)
  | _ => .stuck
def intOf : D → Option Int
  | .int i => some i
  | _ => none
/-- the built-in kind of a datum: 0 None, 1 bool, 2 int, 3 str, 4 tuple, 5 list -/
def kindD (S : Store) : D → Option Nat
  | .non => some 0
  | .bl _ => some 1
  | .int _ => some 2
  | .str _ => some 3
  | .tup _ => some 4
  | .ref n => (match lstOf S n with
    | some _ => some 5
    | none => none)
def isTy (k : Nat) : Ty → Bool
  | .tInt => k == 1 || k == 2
  | .tBool => k == 1
  | .tStr => k == 3
  | .tTuple => k == 4
  | .tList => k == 5

/-! ### built-in functions, methods -/
def digits (n : Nat) : List Nat := (Nat.toDigits 10 n).map Char.toNat
def strInt (i : Int) : List Nat := match i with
  | .ofNat n => digits n
  | .negSucc n => 45 :: digits (n + 1)
def isDig (c : Nat) : Bool := decide (48 ≤ c) && decide (c ≤ 57)
def readNat (s : List Nat) : Nat := s.foldl (fun a c => 10 * a + (c - 48)) 0
/-- int(s): a sign or none, then digits -/
def readInt (s : List Nat) : Option Int := match s with
  | [] => none
  | c :: r => if c = 45 then (if r ≠ [] ∧ r.all isDig then some (-(readNat r : Int)) else none)
    else if (c :: r).all isDig then some (readNat (c :: r) : Int) else none
def intsOf : List D → Option (List Int)
  | [] => some []
  | .int i :: r => (intsOf r).map (i :: ·)
  | _ :: _ => none
def strsOf : List D → Option (List (List Nat))
  | [] => some []
  | .str i :: r => (strsOf r).map (i :: ·)
  | _ :: _ => none
def joinS (sep : List Nat) : List (List Nat) → List Nat
  | [] => []
  | [x] => x
  | x :: y :: r => x ++ sep ++ joinS sep (y :: r)
def fLen (ds : List D) (S : Store) : R D := match ds with
  | [.str s] => if s.length ≤ line then .ok (.int s.length) S else .stuck
  | [d] => (match seqOf S d with
    | some xs => .ok (.int xs.length) S
    | none => .stuck)
  | _ => .stuck
def fAbs (ds : List D) (S : Store) : R D := match ds with
  | [.int i] => .ok (.int (if i < 0 then -i else i)) S
  | _ => .stuck
def fMin (ds : List D) (S : Store) : R D := match ds with
  | [.int i, .int j] => .ok (.int (if j < i then j else i)) S
  | _ => .stuck
def fMax (ds : List D) (S : Store) : R D := match ds with
  | [.int i, .int j] => .ok (.int (if j > i then j else i)) S
  | _ => .stuck
def fTuple (ds : List D) (S : Store) : R D := match ds with
  | [.tup xs] => .ok (.tup xs) S
  | [.ref n] => (match lstOf S n with
    | some xs => .ok (.tup xs) S
    | none => .stuck)
  | _ => .stuck
def fList (ds : List D) (S : Store) : R D := match ds with
  | [d] => (match seqOf S d with
    | some xs => .ok (.ref S.length) (S ++ [.lst xs])
    | none => .stuck)
  | _ => .stuck
def fInt (ds : List D) (S : Store) : R D := match ds with
  | [.int i] => .ok (.int i) S
  | [.bl k] => .ok (.int (if k then 1 else 0)) S
  | [.str s] => if s.length ≤ 640 then (match readInt s with
    | some i => .ok (.int i) S
    | none => .stuck) else .stuck
  | _ => .stuck
def fStr (ds : List D) (S : Store) : R D := match ds with
  | [.int i] => if i.natAbs.log2 < 1920 then .ok (.str (strInt i)) S else .stuck
  | [.str s] => .ok (.str s) S
  | _ => .stuck
def bltF (b : Blt) (ds : List D) (S : Store) : R D := match b with
  | .len => fLen ds S
  | .abs => fAbs ds S
  | .min => fMin ds S
  | .max => fMax ds S
  | .tuple => fTuple ds S
  | .list => fList ds S
  | .int => fInt ds S
  | .str => fStr ds S
  | .sum => .stuck
  | .sorted => .stuck
def mAppend (o : D) (ds : List D) (S : Store) : R D := match o, ds with
  | .ref n, [d] => (match S[n]? with
    | some (.lst xs) => if xs.length < line then .ok .non (S.set n (.lst (xs ++ [d]))) else .stuck
    | _ => .stuck)
  | _, _ => .stuck
def mPop (o : D) (ds : List D) (S : Store) : R D := match o, ds with
  | .ref n, [] => (match S[n]? with
    | some (.lst xs) => (match xs.getLast? with
      | some y => .ok y (S.set n (.lst xs.dropLast))
      | none => .stuck)
    | _ => .stuck)
  | _, _ => .stuck
def mJoin (o : D) (ds : List D) (S : Store) : R D := match o, ds with
  | .str s, [d] => (match seqOf S d with
    | some xs => (match strsOf xs with
      | some ys => if (ys.map List.length).sum + s.length * ys.length ≤ line then .ok (.str (joinS s ys)) S else .stuck
      | none => .stuck)
    | none => .stuck)
  | _, _ => .stuck
def mthF (m : Mth) (o : D) (ds : List D) (S : Store) : R D := match m with
  | .append => mAppend o ds S
  | .pop => mPop o ds S
  | .join => mJoin o ds S

/-- the receiver is of the method's type -/
def mOk (m : Mth) (S : Store) (x : D) : Bool := match m with
  | .append => (match x with | .ref n => (lstOf S n).isSome | _ => false)
  | .pop => (match x with | .ref n => (lstOf S n).isSome | _ => false)
  | .join => (match x with | .str _ => true | _ => false)

/-! ### names -/
def asgN (ρ : Env) (i : Nat) (d : D) : Option Env := if i < ρ.length then some (ρ.set i (some d)) else none
def asgNs : Env → List Nat → List D → Option Env
  | ρ, [], [] => some ρ
  | ρ, i :: is, d :: ds => (asgN ρ i d).bind fun ρ' => asgNs ρ' is ds
  | _, _, _ => none
/-- only tuples are taken apart -/
def asgT (ρ : Env) (t : FT) (d : D) : Option Env := match t with
  | .nm i => asgN ρ i d
  | .tp is => (match d with
    | .tup xs => asgNs ρ is xs
    | _ => none)
def wipe : Env → List Nat → Env
  | ρ, [] => ρ
  | ρ, i :: is => (wipe ρ is).set i none

/-! ### loops -/
def lcLoop (f : D → Store → R (Option D)) (chk : Store → Bool) : List D → List D → Store → R (List D)
  | [], acc, S => .ok acc S
  | d :: ds, acc, S => (f d S).bind fun o S1 => if chk S1 && decide (acc.length < line) then (match o with
    | some y => lcLoop f chk ds (acc ++ [y]) S1
    | none => lcLoop f chk ds acc S1) else .stuck
inductive SR where
  | nx (ρ : Env) (S : Store)
  | ret (d : D) (S : Store)
  | brk (ρ : Env) (S : Store)
  | cnt (ρ : Env) (S : Store)
  | exn (C : Nat) (fs : List (Nat × D)) (ρ : Env) (S : Store)
  | stuck
def forL (f : D → Env → Store → SR) (chk : Store → Bool) : List D → Env → Store → SR
  | [], ρ, S => .nx ρ S
  | d :: ds, ρ, S => match f d ρ S with
    | .nx ρ' S' => if chk S' then forL f chk ds ρ' S' else .stuck
    | .cnt ρ' S' => if chk S' then forL f chk ds ρ' S' else .stuck
    | .brk ρ' S' => .nx ρ' S'
    | r => r
def whlL (c : Env → Store → R Bool) (b e : Env → Store → SR) : Nat → Env → Store → SR
  | 0, _, _ => .stuck
  | n + 1, ρ, S => match c ρ S with
    | .ok true S1 => (match b ρ S1 with
      | .nx ρ' S' => whlL c b e n ρ' S'
      | .cnt ρ' S' => whlL c b e n ρ' S'
      | .brk ρ' S' => .nx ρ' S'
      | r => r)
    | .ok false S1 => e ρ S1
    | .exn C fs S1 => .exn C fs ρ S1
    | .stuck => .stuck
def SR.bind (r : SR) (f : Env → Store → SR) : SR := match r with
  | .nx ρ S => f ρ S
  | r => r
@[simp] theorem SR.bind_nx (ρ : Env) (S : Store) (f : Env → Store → SR) : (SR.nx ρ S).bind f = f ρ S := rfl
@[simp] theorem SR.bind_ret (d : D) (S : Store) (f : Env → Store → SR) : (SR.ret d S).bind f = .ret d S := rfl
@[simp] theorem SR.bind_brk (ρ : Env) (S : Store) (f : Env → Store → SR) : (SR.brk ρ S).bind f = .brk ρ S := rfl
@[simp] theorem SR.bind_cnt (ρ : Env) (S : Store) (f : Env → Store → SR) : (SR.cnt ρ S).bind f = .cnt ρ S := rfl
@[simp] theorem SR.bind_exn (C : Nat) (fs : List (Nat × D)) (ρ : Env) (S : Store) (f : Env → Store → SR) : (SR.exn C fs ρ S).bind f = .exn C fs ρ S := rfl
@[simp] theorem SR.bind_stuck (f : Env → Store → SR) : SR.stuck.bind f = .stuck := rfl
/-- no exception is let out of an except suite -/
def SR.calm (r : SR) : SR := match r with
  | .exn _ _ _ _ => .stuck
  | r => r
/-- the name of an except clause goes -/
def SR.gone (r : SR) (i : Nat) : SR := match r with
  | .nx ρ S => .nx (ρ.set i none) S
  | .brk ρ S => .brk (ρ.set i none) S
  | .cnt ρ S => .cnt (ρ.set i none) S
  | r => r
def R.toS {α : Type} (r : R α) (ρ : Env) (f : α → Store → SR) : SR := match r with
  | .ok a S => f a S
  | .exn C fs S => .exn C fs ρ S
  | .stuck => .stuck
@[simp] theorem R.toS_ok {α : Type} (a : α) (S : Store) (ρ : Env) (f : α → Store → SR) : (R.ok a S).toS ρ f = f a S := rfl
@[simp] theorem R.toS_exn {α : Type} (C : Nat) (fs : List (Nat × D)) (S : Store) (ρ : Env) (f : α → Store → SR) : (R.exn C fs S : R α).toS ρ f = .exn C fs ρ S := rfl
@[simp] theorem R.toS_stuck {α : Type} (ρ : Env) (f : α → Store → SR) : (R.stuck : R α).toS ρ f = .stuck := rfl
def optR {α : Type} (o : Option α) (S : Store) : R α := match o with
  | some a => .ok a S
  | none => .stuck
@[simp] theorem optR_some {α : Type} (a : α) (S : Store) : optR (some a) S = .ok a S := rfl
@[simp] theorem optR_none {α : Type} (S : Store) : optR (none : Option α) S = .stuck := rfl
/-- at most so many turns of a while -/
def turns : Nat := 1000000000000

/-- the list that is walked stands as it was -/
def same (g : Option Nat) (S : Store) (S' : Store) : Bool := match g with
  | none => true
  | some n => decide (S'[n]? = S[n]?)
def rangeD (i j : Int) : List D := (List.range (j - i).toNat).map fun (k : Nat) => D.int (i + (k : Int))
def small (i : Int) : Bool := decide (-(2 ^ 62) ≤ i) && decide (i < 2 ^ 62)

/-! ### expressions: as a value, as a test -/
structure PV where
  v : Env → Store → R D
  t : Env → Store → R Bool
def tstOf (v : Env → Store → R D) (ρ : Env) (S : Store) : R Bool := (v ρ S).bind fun x S1 => optR (truth S1 x) S1
def plainV (v : Env → Store → R D) : PV := ⟨v, tstOf v⟩
def partV (v : Env → Store → R D) (ρ : Env) (S : Store) : R (Option Int) := (v ρ S).bind fun y S2 => (optR (intOf y) S2).bind fun i S3 => .ok (some i) S3
structure PVs where
  vs : Env → Store → R (List D)
  andV : Env → Store → R D
  orV : Env → Store → R D
  andT : Env → Store → R Bool
  orT : Env → Store → R Bool
  ts : Env → Store → R Bool
abbrev PIt := Env → Store → R (List D × Option Nat)
def lcTurn (own : List Nat) (tg : FT) (ρ : Env) (ts : Env → Store → R Bool) (v : Env → Store → R D) (d : D) (S2 : Store) : R (Option D) :=
  match asgT (wipe ρ own) tg d with
  | some ρ' => (tidyB S2 (ts ρ' S2)).bind fun k S3 => if k then (tidy S3 (v ρ' S3)).bind fun y S4 => .ok (some y) S4 else .ok none S3
  | none => .stuck
section
variable (G : Glob) (cl : Orac) (xc : Xc)
mutual
def ev : FE → PV
  | .loc i => plainV fun ρ S => (match ρ[i]? with
    | some (some d) => .ok d S
    | _ => .stuck)
  | .con c => plainV fun _ S => .ok c S
  | .glo k => plainV fun _ S => optR G.consts[k]? S
  | .bin op a b => plainV fun ρ S => ((ev a).v ρ S).bind fun x S1 => ((ev b).v ρ S1).bind fun y S2 => binop op x y S2
  | .neg a => plainV fun ρ S => ((ev a).v ρ S).bind fun x S1 => (match x with
    | .int i => .ok (.int (-i)) S1
    | _ => .stuck)
  | .not a => ⟨fun ρ S => ((ev a).v ρ S).bind fun x S1 => optR ((truth S1 x).map fun b => .bl (!b)) S1, fun ρ S => ((ev a).t ρ S).bind fun k S1 => .ok (!k) S1⟩
  | .and es => ⟨(evs es).andV, (evs es).andT⟩
  | .or es => ⟨(evs es).orV, (evs es).orT⟩
  | .cmp op a b => plainV fun ρ S => ((ev a).v ρ S).bind fun x S1 => ((ev b).v ρ S1).bind fun y S2 => optR ((cmpop op x y S2).map .bl) S2
  | .chain op op' a b c => plainV fun ρ S => ((ev a).v ρ S).bind fun x S1 => ((ev b).v ρ S1).bind fun y S2 => (optR (cmpop op x y S2) S2).bind fun k S3 =>
      if k then ((ev c).v ρ S3).bind fun z S4 => optR ((cmpop op' y z S4).map .bl) S4 else .ok (.bl false) S3
  | .ite c a b => ⟨fun ρ S => ((ev c).t ρ S).bind fun k S1 => if k then (ev a).v ρ S1 else (ev b).v ρ S1, fun ρ S => ((ev c).t ρ S).bind fun k S1 => if k then (ev a).t ρ S1 else (ev b).t ρ S1⟩
  | .tup es => plainV fun ρ S => ((evs es).vs ρ S).bind fun ds S1 => if ds.length ≤ line then .ok (.tup ds) S1 else .stuck
  | .lst es => plainV fun ρ S => ((evs es).vs ρ S).bind fun ds S1 => if ds.length ≤ line then .ok (.ref S1.length) (S1 ++ [.lst ds]) else .stuck
  | .blt b es => plainV fun ρ S => ((evs es).vs ρ S).bind fun ds S1 => bltF b ds S1
  | .mth m o es => plainV fun ρ S => ((ev o).v ρ S).bind fun x S1 => if mOk m S1 x then ((evs es).vs ρ S1).bind fun ds S2 => mthF m x ds S2 else .stuck
  | .call f es => plainV fun ρ S => ((evs es).vs ρ S).bind fun ds S1 => cl f ds S1
  | .fld o f => plainV fun ρ S => ((ev o).v ρ S).bind fun x S1 => (match x with
    | .ref n => (match S1[n]? with
      | some (.ins _ fs) => optR (fs.lookup f) S1
      | _ => .stuck)
    | _ => .stuck)
  | .xfld i f => plainV fun ρ S => (match xc, ρ[i]? with
    | some (_, fs), some none => optR (fs.lookup f) S
    | _, _ => .stuck)
  | .idx o i => plainV fun ρ S => ((ev o).v ρ S).bind fun x S1 => ((ev i).v ρ S1).bind fun y S2 => optR (idxD S2 x y) S2
  | .cut o lo hi => plainV fun ρ S => ((ev o).v ρ S).bind fun x S1 => (partV (ev lo).v ρ S1).bind fun i S2 => (partV (ev hi).v ρ S2).bind fun j S3 => cutD S3 x i j
  | .cutL o lo => plainV fun ρ S => ((ev o).v ρ S).bind fun x S1 => (partV (ev lo).v ρ S1).bind fun i S2 => cutD S2 x i none
  | .cutH o hi => plainV fun ρ S => ((ev o).v ρ S).bind fun x S1 => (partV (ev hi).v ρ S1).bind fun j S2 => cutD S2 x none j
  | .isi o c => plainV fun ρ S => ((ev o).v ρ S).bind fun x S1 => optR ((kindD S1 x).map fun k => .bl (isTy k c)) S1
  | .xisi i cs => plainV fun ρ S => (match xc, ρ[i]? with
    | some (C, _), some none => .ok (.bl (cs.any fun c => (G.sub.getD C []).contains c)) S
    | _, _ => .stuck)
  | .lc own tg src cs elt => plainV fun ρ S => ((evi src ρ S).bind fun p S1 =>
      (lcLoop (lcTurn own tg ρ (evs cs).ts (ev elt).v) (same p.2 S1) p.1 [] S1).noex.bind fun ys S2 => .ok (.ref S2.length) (S2 ++ [.lst ys]))
def evs : FEs → PVs
  | .nil => ⟨fun _ S => .ok [] S, fun _ _ => .stuck, fun _ _ => .stuck, fun _ _ => .stuck, fun _ _ => .stuck, fun _ S => .ok true S⟩
  | .cons e es => ⟨fun ρ S => ((ev e).v ρ S).bind fun x S1 => ((evs es).vs ρ S1).bind fun xs S2 => .ok (x :: xs) S2,
      fun ρ S => (match es with
        | .nil => (ev e).v ρ S
        | .cons _ _ => ((ev e).v ρ S).bind fun x S1 => (match x with
          | .bl true => (evs es).andV ρ S1
          | .bl false => .ok (.bl false) S1
          | _ => .stuck)),
      fun ρ S => (match es with
        | .nil => (ev e).v ρ S
        | .cons _ _ => ((ev e).v ρ S).bind fun x S1 => (match x with
          | .bl false => (evs es).orV ρ S1
          | .bl true => .ok (.bl true) S1
          | _ => .stuck)),
      fun ρ S => (match es with
        | .nil => (ev e).t ρ S
        | .cons _ _ => ((ev e).t ρ S).bind fun k S1 => if k then (evs es).andT ρ S1 else .ok false S1),
      fun ρ S => (match es with
        | .nil => (ev e).t ρ S
        | .cons _ _ => ((ev e).t ρ S).bind fun k S1 => if k then .ok true S1 else (evs es).orT ρ S1),
      fun ρ S => (match es with
        | .nil => (ev e).t ρ S
        | .cons _ _ => .stuck)⟩
/-- what is walked, and which list of the store must stand -/
def evi : FI → PIt
  | .seq e => fun ρ S => ((ev e).v ρ S).bind fun x S1 => (match x with
    | .tup xs => .ok (xs, none) S1
    | .ref n => (match lstOf S1 n with
      | some xs => .ok (xs, some n) S1
      | none => .stuck)
    | _ => .stuck)
  | .range1 a => fun ρ S => ((ev a).v ρ S).bind fun x S1 => (match x with
    | .int j => if small j then .ok (rangeD 0 j, none) S1 else .stuck
    | _ => .stuck)
  | .range2 a b => fun ρ S => ((ev a).v ρ S).bind fun x S1 => ((ev b).v ρ S1).bind fun y S2 => (match x, y with
    | .int i, .int j => if small i && small j then .ok (rangeD i j, none) S2 else .stuck
    | _, _ => .stuck)
end
end

/-! ### statements -/
/-- a class, its fields, the env and store at the raise -/
abbrev PX := Xc → Env → Store → SR
section
variable (G : Glob) (cl : Orac)
mutual
def ex : FS → PX
  | .asg i e => fun xc ρ S => (tidy S ((ev G cl xc e).v ρ S)).toS ρ fun d S1 => (match asgN ρ i d with
    | some ρ' => .nx ρ' S1
    | none => .stuck)
  | .asgT is e => fun xc ρ S => (tidy S ((ev G cl xc e).v ρ S)).toS ρ fun d S1 => (match asgT ρ (.tp is) d with
    | some ρ' => .nx ρ' S1
    | none => .stuck)
  | .aug i op e => fun xc ρ S => (match ρ[i]? with
    | some (some x) => (tidy S ((ev G cl xc e).v ρ S)).toS ρ fun y S1 => (augop op x y S1).toS ρ fun z S2 => (match asgN ρ i z with
      | some ρ' => .nx ρ' S2
      | none => .stuck)
    | _ => .stuck)
  | .expr e => fun xc ρ S => (tidy S ((ev G cl xc e).v ρ S)).toS ρ fun _ S1 => .nx ρ S1
  | .ret e => fun xc ρ S => (tidy S ((ev G cl xc e).v ρ S)).toS ρ fun d S1 => .ret d S1
  | .retN => fun _ _ S => .ret .non S
  | .ifs c t e => fun xc ρ S => (tidyB S ((ev G cl xc c).t ρ S)).toS ρ fun k S1 => if k then exs t xc ρ S1 else exs e xc ρ S1
  | .whl c b e => fun xc ρ S => whlL (fun ρ S => tidyB S ((ev G cl xc c).t ρ S)) (exs b xc) (exs e xc) turns ρ S
  | .fr tg src b => fun xc ρ S => (evi G cl xc src ρ S).toS ρ fun p S1 => forL (fun d ρ S => (match asgT ρ tg d with
    | some ρ' => exs b xc ρ' S
    | none => .stuck)) (same p.2 S1) p.1 ρ S1
  | .brk => fun _ ρ S => .brk ρ S
  | .cnt => fun _ ρ S => .cnt ρ S
  | .pass => fun _ ρ S => .nx ρ S
  | .rais C es => fun xc ρ S => ((evs G cl xc es).vs ρ S).toS ρ fun ds S1 => (match G.exc[C]? with
    | some fs => if ds.length = fs.length then .exn C (fs.zip ds).reverse ρ S1 else .stuck
    | none => .stuck)
  | .tr b hs => fun xc ρ S => (match xc with
    | none => (match exs b none ρ S with
      | .exn C fs ρ' S' => if C < G.exc.length then exh hs C fs ρ' S' else .stuck
      | r => r)
    | some _ => .stuck)
def exs : FSs → PX
  | .nil => fun _ ρ S => .nx ρ S
  | .cons s ss => fun xc ρ S => (ex s xc ρ S).bind fun ρ' S' => exs ss xc ρ' S'
def exh : FHs → Nat → List (Nat × D) → Env → Store → SR
  | .nil => fun C fs ρ S => .exn C fs ρ S
  | .cons c nm b hs => fun C fs ρ S => if (G.sub.getD C []).contains c then (match nm with
      | none => (exs b (some (C, fs)) ρ S).calm
      | some i => ((exs b (some (C, fs)) (ρ.set i none) S).calm).gone i) else exh hs C fs ρ S
end
end
/-- what a def's body comes to -/
def SR.done (r : SR) : R D := match r with
  | .nx _ S => .ok .non S
  | .ret d S => .ok d S
  | .exn C fs _ S => .exn C fs S
  | _ => .stuck
def env0 (fd : FnD) (ds : List D) : Env := ds.map some ++ List.replicate (fd.ns - fd.np) none
def runFn (G : Glob) (cl : Orac) (fd : FnD) (ds : List D) (S : Store) : R D :=
  if ds.length = fd.np then tidy S (exs G cl fd.body none (env0 fd ds) S).done else .stuck
/-- calls, by the depth that is let -/
def callN (G : Glob) : Nat → Orac
  | 0 => fun _ _ _ => .stuck
  | n + 1 => fun f ds S => match G.fns[f]? with
    | some fd => runFn G (callN G n) fd ds S
    | none => .stuck
end Fx
set_option Elab.async false
set_option linter.all false
set_option autoImplicit false
set_option maxRecDepth 100000
set_option maxHeartbeats 4000000
/-! FxB: how the evaluator's data stand in the heap. -/
namespace Fx
open PySem PySem.Spec PyProof.Rows L2

abbrev strOf (s : List Nat) : Str := ⟨s.toArray⟩
/-- an exception that is handled: its dict, its fields, its class, its address -/
structure HX where
  dd : Addr
  gs : List (Str × V)
  fs : List (Nat × D)
  C : Nat
  a : Addr
  i : Option Nat
/-- names by number: classes' addresses, attributes' names -/
structure Nm where
  cad : Nat → Addr
  fld : List Str
  nd : fld.Nodup
  hx : Option HX

mutual
/-- the value v stands for the datum -/
def RV (K : PySem.W.Frag) (H : Hp) (mu : Nat → Addr) : D → V → Prop
  | .non, v => v = .non
  | .bl b, v => v = .bl b
  | .int i, v => v = .int i
  | .str s, v => v = .str (strOf s)
  | .tup xs, v => ∃ a vs, v = .ref a ∧ SqT K H a vs ∧ RVs K H mu xs vs
  | .ref n, v => v = .ref (mu n)
def RVs (K : PySem.W.Frag) (H : Hp) (mu : Nat → Addr) : List D → List V → Prop
  | [], vs => vs = []
  | x :: xs, vs => ∃ v r, vs = v :: r ∧ RV K H mu x v ∧ RVs K H mu xs r
end
section
variable {K : PySem.W.Frag} {H H' : Hp} {mu mu' : Nat → Addr} {k : Nat}
mutual
theorem RV.mono (ht : ∀ a vs, SqT K H a vs → SqT K H' a vs) (hm : ∀ n, n < k → mu' n = mu n) : ∀ (d : D) (v : V), D.wf k d = true → RV K H mu d v → RV K H' mu' d v
  | .non, _, _, h => h
  | .bl _, _, _, h => h
  | .int _, _, _, h => h
  | .str _, _, _, h => h
  | .ref n, v, w, h => by
    have w' : n < k := by simpa [D.wf] using w
    show v = .ref (mu' n)
    rw [hm n w']
    exact h
  | .tup xs, v, w, h => by
    obtain ⟨a, vs, e, q, r⟩ := h
    exact ⟨a, vs, e, ht _ _ q, RVs.mono ht hm xs vs (by simpa [D.wf] using w) r⟩
theorem RVs.mono (ht : ∀ a vs, SqT K H a vs → SqT K H' a vs) (hm : ∀ n, n < k → mu' n = mu n) : ∀ (ds : List D) (vs : List V), D.wfs k ds = true → RVs K H mu ds vs → RVs K H' mu' ds vs
  | [], _, _, h => h
  | x :: xs, vs, w, h => by
    obtain ⟨v, r, e, h1, h2⟩ := h
    have w' : D.wf k x = true ∧ D.wfs k xs = true := by simpa [D.wfs] using w
    exact ⟨v, r, e, RV.mono ht hm x v w'.1 h1, RVs.mono ht hm xs r w'.2 h2⟩
end
mutual
theorem D.wf_le {j k : Nat} (h : j ≤ k) : ∀ d : D, D.wf j d = true → D.wf k d = true
  | .non, _ => rfl
  | .bl _, _ => rfl
  | .int _, _ => rfl
  | .str _, _ => rfl
  | .ref n, w => by
    have w' : n < j := by simpa [D.wf] using w
    simp [D.wf]; omega
  | .tup xs, w => by
    have w' : D.wfs j xs = true := by simpa [D.wf] using w
    simpa [D.wf] using D.wfs_le h xs w'
theorem D.wfs_le {j k : Nat} (h : j ≤ k) : ∀ ds : List D, D.wfs j ds = true → D.wfs k ds = true
  | [], _ => rfl
  | x :: xs, w => by
    have w' : D.wf j x = true ∧ D.wfs j xs = true := by simpa [D.wfs] using w
    simp [D.wfs, D.wf_le h x w'.1, D.wfs_le h xs w'.2]
end
theorem wfs_append {k : Nat} : ∀ {xs ys : List D}, D.wfs k (xs ++ ys) = (D.wfs k xs && D.wfs k ys)
  | [], ys => by simp [D.wfs]
  | x :: xs, ys => by simp [D.wfs, wfs_append (xs := xs) (ys := ys), Bool.and_assoc]
theorem wfs_all {k : Nat} : ∀ {xs : List D}, D.wfs k xs = true ↔ ∀ x ∈ xs, D.wf k x = true
  | [] => by simp [D.wfs]
  | x :: xs => by simp [D.wfs, wfs_all (xs := xs)]
theorem RVs.length : ∀ {ds : List D} {vs : List V}, RVs K H mu ds vs → vs.length = ds.length
  | [], _, h => by have h : _ = [] := h; rw [h]; rfl
  | x :: xs, vs, h => by
    obtain ⟨v, r, e, _, h2⟩ := h
    rw [e, List.length_cons, List.length_cons, RVs.length h2]
theorem RVs.append : ∀ {ds es : List D} {vs us : List V}, RVs K H mu ds vs → RVs K H mu es us → RVs K H mu (ds ++ es) (vs ++ us)
  | [], es, vs, us, h, h' => by have h : _ = [] := h; rw [h]; exact h'
  | x :: xs, es, vs, us, h, h' => by
    obtain ⟨v, r, e, h1, h2⟩ := h
    exact ⟨v, r ++ us, by rw [e]; rfl, h1, RVs.append h2 h'⟩
theorem RVs.get : ∀ {ds : List D} {vs : List V} {i : Nat} {d : D}, RVs K H mu ds vs → ds[i]? = some d → ∃ v, vs[i]? = some v ∧ RV K H mu d v
  | [], _, i, d, _, e => by simp at e
  | x :: xs, vs, 0, d, h, e => by
    obtain ⟨v, r, e1, h1, h2⟩ := h
    have e : x = d := by simpa using e
    exact ⟨v, by rw [e1]; rfl, e ▸ h1⟩
  | x :: xs, vs, i + 1, d, h, e => by
    obtain ⟨v, r, e1, h1, h2⟩ := h
    obtain ⟨u, g1, g2⟩ := RVs.get (i := i) h2 (by simpa using e)
    exact ⟨u, by rw [e1]; simpa using g1, g2⟩
theorem RVs.take : ∀ {ds : List D} {vs : List V} (n : Nat), RVs K H mu ds vs → RVs K H mu (ds.take n) (vs.take n)
  | _, _, 0, _ => by simp [RVs]
  | [], vs, n + 1, h => by have h : vs = [] := h; rw [h]; simp [RVs]
  | x :: xs, vs, n + 1, h => by
    obtain ⟨v, r, e1, h1, h2⟩ := h
    rw [e1]
    exact ⟨v, r.take n, rfl, h1, RVs.take n h2⟩
theorem RVs.drop : ∀ {ds : List D} {vs : List V} (n : Nat), RVs K H mu ds vs → RVs K H mu (ds.drop n) (vs.drop n)
  | _, _, 0, h => h
  | [], vs, n + 1, h => by have h : vs = [] := h; rw [h]; simp [RVs]
  | x :: xs, vs, n + 1, h => by
    obtain ⟨v, r, e1, h1, h2⟩ := h
    rw [e1]
    exact RVs.drop n h2
theorem RVs.single {d : D} {v : V} (h : RV K H mu d v) : RVs K H mu [d] [v] := ⟨v, [], rfl, h, rfl⟩
end

/-! ### the store -/
def Mt (S : Store) (n : Nat) : Prop := match S[n]? with
  | some (.lst _) => True
  | some (.ins _ _) => True
  | _ => False
/-- named data -/
def RF (N : Nm) (K : PySem.W.Frag) (H : Hp) (mu : Nat → Addr) : List (Nat × D) → List (Str × V) → Prop
  | [], gs => gs = []
  | (f, d) :: fs, gs => ∃ x v r, gs = (x, v) :: r ∧ N.fld[f]? = some x ∧ RV K H mu d v ∧ RF N K H mu fs r
def RO (N : Nm) (K : PySem.W.Frag) (H : Hp) (mu : Nat → Addr) (o : O) (a : Addr) : Prop := match o with
  | .lst xs => ∃ vs, H a = some (.lst vs) ∧ RVs K H mu xs vs
  | .frz xs => ∃ vs, ((∃ ob, H a = some (.frz ob (.lst vs))) ∨ ∀ H', SqL K H' a vs) ∧ RVs K H mu xs vs
  | .ins C fs => ∃ dx gs, H a = some (.ins (N.cad C) dx gs) ∧ RF N K H mu fs gs
structure RS (N : Nm) (K : PySem.W.Frag) (H : Hp) (mu : Nat → Addr) (S : Store) : Prop where
  ob : ∀ (n : Nat) (o : O), S[n]? = some o → RO N K H mu o (mu n)
  wf : ∀ (n : Nat) (o : O), S[n]? = some o → o.wf S.length = true
  inj : ∀ n m, Mt S n → Mt S m → mu n = mu m → n = m
section
variable {N : Nm} {K : PySem.W.Frag} {H H' : Hp} {mu mu' : Nat → Addr} {k : Nat} {S S' : Store}
theorem RF.mono (ht : ∀ a vs, SqT K H a vs → SqT K H' a vs) (hm : ∀ n, n < k → mu' n = mu n) : ∀ (fs : List (Nat × D)) (gs : List (Str × V)), D.wfs k (fs.map (·.2)) = true → RF N K H mu fs gs → RF N K H' mu' fs gs
  | [], _, _, h => h
  | (f, d) :: fs, gs, w, h => by
    obtain ⟨x, v, r, e, h1, h2, h3⟩ := h
    have w' : D.wf k d = true ∧ D.wfs k (fs.map (·.2)) = true := by simpa [D.wfs] using w
    exact ⟨x, v, r, e, h1, RV.mono ht hm d v w'.1 h2, RF.mono ht hm fs r w'.2 h3⟩
/-- an attribute is found by its number as by its name -/
theorem RF.look {g : Nat} {y : Str} {d : D} (hy : N.fld[g]? = some y) : ∀ {fs : List (Nat × D)} {gs : List (Str × V)}, RF N K H mu fs gs → fs.lookup g = some d → ∃ v, gs.lookup y = some v ∧ RV K H mu d v
  | [], _, _, e => by simp at e
  | (f, c) :: fs, gs, h, e => by
    obtain ⟨x, v, r, e1, h1, h2, h3⟩ := h
    rw [List.lookup_cons] at e
    by_cases q : g = f
    · subst q
      have e' : c = d := by simpa using e
      rw [hy] at h1
      have exy : y = x := Option.some.inj h1
      subst exy
      exact ⟨v, by rw [e1]; simp, e' ▸ h2⟩
    · have hne : (g == f) = false := by simpa using q
      rw [hne] at e
      obtain ⟨u, g1, g2⟩ := RF.look hy h3 (by simpa using e)
      have nxy : (y == x) = false := by
        rw [beq_eq_false_iff_ne]
        intro exy
        subst exy
        exact q (nodup_ix N.nd hy h1)
      exact ⟨u, by rw [e1, List.lookup_cons, nxy]; exact g1, g2⟩
theorem RO.mono (ht : ∀ a vs, SqT K H a vs → SqT K H' a vs) (hm : ∀ n, n < k → mu' n = mu n) {o : O} {a : Addr} (w : o.wf k = true) (hk : ∀ u, H a = some u → H' a = some u) (h : RO N K H mu o a) : RO N K H' mu' o a := by
  cases o with
  | lst xs =>
    obtain ⟨vs, e, r⟩ := h
    exact ⟨vs, hk _ e, RVs.mono ht hm xs vs (by simpa [O.wf] using w) r⟩
  | frz xs =>
    obtain ⟨vs, e, r⟩ := h
    refine ⟨vs, ?_, RVs.mono ht hm xs vs (by simpa [O.wf] using w) r⟩
    rcases e with ⟨ob, e⟩ | e
    · exact .inl ⟨ob, hk _ e⟩
    · exact .inr e
  | ins C fs =>
    obtain ⟨dx, gs, e, r⟩ := h
    exact ⟨dx, gs, hk _ e, RF.mono ht hm fs gs (by simpa [O.wf] using w) r⟩
theorem O.wf_le {j k : Nat} (h : j ≤ k) {o : O} (w : o.wf j = true) : o.wf k = true := by
  cases o with
  | lst xs => exact D.wfs_le h xs w
  | frz xs => exact D.wfs_le h xs w
  | ins C fs => exact D.wfs_le h _ w
theorem Mt.lt {n : Nat} (h : Mt S n) : n < S.length := by
  unfold Mt at h
  cases e : S[n]? with
  | none => rw [e] at h; exact h.elim
  | some o => exact (List.getElem?_eq_some_iff.mp e).1
/-- what is changed is tracked -/
theorem RS.mt (r : RS N K H mu S) {n : Nat} (h : Mt S n) : (∃ vs, H (mu n) = some (.lst vs)) ∨ ∃ C dx gs, H (mu n) = some (.ins C dx gs) := by
  unfold Mt at h
  cases e : S[n]? with
  | none => rw [e] at h; exact h.elim
  | some o =>
    have q := r.ob n o e
    rw [e] at h
    cases o with
    | lst xs => obtain ⟨vs, g, _⟩ := q; exact .inl ⟨vs, g⟩
    | frz xs => exact h.elim
    | ins C fs => obtain ⟨dx, gs, g, _⟩ := q; exact .inr ⟨_, dx, gs, g⟩
theorem RS.mt_ne (r : RS N K H mu S) {n : Nat} (h : Mt S n) {p : Addr} (hp : H p = none) : mu n ≠ p := by
  rintro rfl
  rcases r.mt h with ⟨_, e⟩ | ⟨_, _, _, e⟩ <;> rw [hp] at e <;> cases e

/-- from one state to a later one -/
structure Gw (N : Nm) (K : PySem.W.Frag) (H : Hp) (mu : Nat → Addr) (S : Store) (H' : Hp) (mu' : Nat → Addr) (S' : Store) : Prop where
  rs : RS N K H' mu' S'
  le : S.length ≤ S'.length
  mus : ∀ n, n < S.length → mu' n = mu n
  fr : ∀ b o, H b = some o → (∀ n, Mt S n → mu n ≠ b) → H' b = some o
  new : ∀ n, S.length ≤ n → n < S'.length → H (mu' n) = none
  som : ∀ b, H b ≠ none → H' b ≠ none
  mt : ∀ n, n < S.length → Mt S' n → Mt S n
theorem Gw.refl (r : RS N K H mu S) : Gw N K H mu S H mu S := ⟨r, Nat.le_refl _, fun _ _ => rfl, fun _ _ h _ => h, fun n h1 h2 => absurd h1 (by omega), fun _ h => h, fun _ _ h => h⟩
theorem Gw.trans {H1 H2 : Hp} {mu1 mu2 : Nat → Addr} {S1 S2 : Store} (a : Gw N K H mu S H1 mu1 S1) (b : Gw N K H1 mu1 S1 H2 mu2 S2) : Gw N K H mu S H2 mu2 S2 where
  rs := b.rs
  le := Nat.le_trans a.le b.le
  mus := fun n h => (b.mus n (Nat.lt_of_lt_of_le h a.le)).trans (a.mus n h)
  fr := fun c o h hc => b.fr c o (a.fr c o h hc) fun n hn => by
    by_cases q : n < S.length
    · rw [a.mus n q]
      exact hc n (a.mt n q hn)
    · intro e
      have z := a.new n (Nat.le_of_not_lt q) hn.lt
      rw [e, h] at z
      cases z
  new := fun n h1 h2 => by
    by_cases q : n < S1.length
    · rw [b.mus n q]
      exact a.new n h1 q
    · have z := b.new n (Nat.le_of_not_lt q) h2
      cases e : H (mu2 n) with
      | none => rfl
      | some o => exact absurd z (a.som _ (by rw [e]; simp))
  som := fun c h => b.som c (a.som c h)
  mt := fun n h hn => a.mt n h (b.mt n (Nat.lt_of_lt_of_le h a.le) hn)
theorem Gw.tup (g : Gw N K H mu S H' mu' S') (r : RS N K H mu S) {a : Addr} {vs : List V} (h : SqT K H a vs) : SqT K H' a vs := by
  have hf : ∀ u, H a = some u → (∀ ws, u ≠ .lst ws) → (∀ C dx gs, u ≠ .ins C dx gs) → H' a = some u := fun u e h1 h2 => g.fr a u e fun n hn q => by
    rcases r.mt hn with ⟨ws, z⟩ | ⟨C, dx, gs, z⟩
    · rw [q, e] at z; exact h1 ws (Option.some.inj z)
    · rw [q, e] at z; exact h2 C dx gs (Option.some.inj z)
  rcases h with (h | ⟨ob, h⟩) | h
  · exact .inl (.inl (hf _ h (fun _ z => by cases z) fun _ _ _ z => by cases z))
  · exact .inl (.inr ⟨ob, hf _ h (fun _ z => by cases z) fun _ _ _ z => by cases z⟩)
  · exact .inr h
theorem Gw.rv (g : Gw N K H mu S H' mu' S') (r : RS N K H mu S) {d : D} {v : V} (w : d.wf S.length = true) (h : RV K H mu d v) : RV K H' mu' d v := RV.mono (fun _ _ => g.tup r) g.mus d v w h
theorem Gw.rvs (g : Gw N K H mu S H' mu' S') (r : RS N K H mu S) {d : List D} {v : List V} (w : D.wfs S.length d = true) (h : RVs K H mu d v) : RVs K H' mu' d v := RVs.mono (fun _ _ => g.tup r) g.mus d v w h
/-- a new tuple (or another thing that the store does not name) -/
theorem Gw.laid (r : RS N K H mu S) {p : Addr} {o : HO} (hp : H p = none) : Gw N K H mu S (upd H p o) mu S := by
  have keep : ∀ b u, H b = some u → upd H p o b = some u := fun b u e => by rw [upd_ne (ne_of_none e hp)]; exact e
  have kt : ∀ a vs, SqT K H a vs → SqT K (upd H p o) a vs := fun a vs h => by
    rcases h with (h | ⟨ob, h⟩) | h
    · exact .inl (.inl (keep _ _ h))
    · exact .inl (.inr ⟨ob, keep _ _ h⟩)
    · exact .inr h
  refine ⟨⟨fun n ob e => (r.ob n ob e).mono kt (fun _ _ => rfl) (r.wf n ob e) fun u z => keep _ u z, r.wf, r.inj⟩, Nat.le_refl _, fun _ _ => rfl, fun b u e _ => keep b u e, fun n h1 h2 => absurd h1 (by omega), fun b h => ?_, fun _ _ h => h⟩
  cases e : H b with
  | none => exact absurd e h
  | some u => rw [keep b u e]; simp
/-- one more place of the store -/
def muN (mu : Nat → Addr) (k : Nat) (p : Addr) (n : Nat) : Addr := if n = k then p else mu n
theorem muN_eq (mu : Nat → Addr) (k : Nat) (p : Addr) : muN mu k p k = p := if_pos rfl
theorem muN_ne {mu : Nat → Addr} {k : Nat} {p : Addr} {n : Nat} (h : n ≠ k) : muN mu k p n = mu n := if_neg h
/-- a new object of the store -/
theorem Gw.alloc (r : RS N K H mu S) {p : Addr} {ho : HO} {o : O} (hp : H p = none) (w : o.wf S.length = true) (ok : ∀ H' mu', (∀ a vs, SqT K H a vs → SqT K H' a vs) → (∀ n, n < S.length → mu' n = mu n) → H' p = some ho → RO N K H' mu' o p) :
    Gw N K H mu S (upd H p ho) (muN mu S.length p) (S ++ [o]) := by
  have g := Gw.laid r (o := ho) hp
  have hm : ∀ n, n < S.length → muN mu S.length p n = mu n := fun n h => muN_ne (Nat.ne_of_lt h)
  have le : S.length ≤ (S ++ [o]).length := by simp
  have at_ : ∀ n u, (S ++ [o])[n]? = some u → (n < S.length ∧ S[n]? = some u) ∨ (n = S.length ∧ u = o) := fun n u e => by
    by_cases q : n < S.length
    · rw [List.getElem?_append_left q] at e
      exact .inl ⟨q, e⟩
    · rw [List.getElem?_append_right (Nat.le_of_not_lt q)] at e
      obtain ⟨l, e2⟩ := List.getElem?_eq_some_iff.mp e
      have l' : n - S.length < 1 := by simpa using l
      have n0 : n = S.length := by omega
      subst n0
      exact .inr ⟨rfl, by simpa using e2.symm⟩
  have mt_ : ∀ n, n < S.length → Mt (S ++ [o]) n → Mt S n := fun n h hn => by
    unfold Mt at hn ⊢
    rw [List.getElem?_append_left h] at hn
    exact hn
  refine ⟨⟨fun n u e => ?_, fun n u e => ?_, fun n m hn hm' e => ?_⟩, le, hm, g.fr, fun n h1 h2 => ?_, g.som, mt_⟩
  · rcases at_ n u e with ⟨q, e⟩ | ⟨rfl, rfl⟩
    · rw [hm n q]
      exact (g.rs.ob n u e).mono (fun _ _ h => h) hm (r.wf n u e) fun _ z => z
    · rw [muN_eq]
      exact ok _ _ (fun _ _ h => g.tup r h) hm upd_same
  · rcases at_ n u e with ⟨q, e⟩ | ⟨rfl, rfl⟩
    · exact O.wf_le le (r.wf n u e)
    · exact O.wf_le le w
  · have ln := hn.lt
    have lm := hm'.lt
    rw [List.length_append, List.length_singleton] at ln lm
    by_cases q : n < S.length
    · have en := hm n q
      by_cases q' : m < S.length
      · have em := hm m q'
        rw [en, em] at e
        exact r.inj n m (mt_ n q hn) (mt_ m q' hm') e
      · have m0 : m = S.length := by omega
        subst m0
        rw [en, muN_eq] at e
        exact absurd e (r.mt_ne (mt_ n q hn) hp)
    · have n0 : n = S.length := by omega
      subst n0
      by_cases q' : m < S.length
      · have em := hm m q'
        rw [em, muN_eq] at e
        exact absurd e.symm (r.mt_ne (mt_ m q' hm') hp)
      · omega
  · rw [List.length_append, List.length_singleton] at h2
    have n0 : n = S.length := by omega
    subst n0
    rw [muN_eq]
    exact hp
end
end Fx
set_option Elab.async false
set_option linter.all false
set_option autoImplicit false
set_option maxRecDepth 100000
set_option maxHeartbeats 4000000
/-! FxC: readings by the evaluator; expressions of plain data. -/
namespace Fx
open PySem PySem.Spec PyProof.Rows L2

section
variable {N : Nm} {K : PySem.W.Frag} {H H' H1 : Hp} {mu mu' mu1 : Nat → Addr} {k : Nat} {S S' S1 : Store}
/-- the names of a frame -/
structure RE (N : Nm) (K : PySem.W.Frag) (H : Hp) (mu : Nat → Addr) (S : Store) (ρ : Env) (σ : L2.St) : Prop where
  len : ρ.length = σ.length
  get : ∀ (i : Nat) (d : D), ρ[i]? = some (some d) → d.wf S.length = true ∧ ∃ v, σ[i]? = some (some v) ∧ RV K H mu d v
  hx : ∀ x, N.hx = some x → H x.dd = some (.xd x.gs) ∧ RF N K H mu x.fs x.gs ∧ D.wfs S.length (x.fs.map (·.2)) = true ∧ ∀ i, x.i = some i → ρ[i]? = some none → σ[i]? = some (some (.ref x.a))
theorem RS.noXd (r : RS N K H mu S) {dd : Addr} {gs : List (Str × V)} (h : H dd = some (.xd gs)) : ∀ n, Mt S n → mu n ≠ dd := fun n hn e => by
  unfold Mt at hn
  split at hn
  · rename_i q
    obtain ⟨vs, q2, _⟩ := r.ob n _ q
    rw [e, h] at q2
    cases q2
  · rename_i q
    obtain ⟨dx, gs2, q2, _⟩ := r.ob n _ q
    rw [e, h] at q2
    cases q2
  · exact hn
theorem RE.gw {ρ : Env} {σ : L2.St} (e : RE N K H mu S ρ σ) (r : RS N K H mu S) (g : Gw N K H mu S H' mu' S') : RE N K H' mu' S' ρ σ :=
  ⟨e.len, fun i d h => let ⟨w, v, h1, h2⟩ := e.get i d h; ⟨D.wf_le g.le d w, v, h1, g.rv r w h2⟩, fun x hx => let ⟨h1, h2, h3, h4⟩ := e.hx x hx;
    ⟨g.fr _ _ h1 (r.noXd h1), RF.mono (fun a vs z => g.tup r z) g.mus _ _ h3 h2, D.wfs_le g.le _ h3, h4⟩⟩
def relD (K : PySem.W.Frag) (H : Hp) (mu : Nat → Addr) (S : Store) (d : D) (v : V) : Prop := RV K H mu d v ∧ d.wf S.length = true
def relDs (K : PySem.W.Frag) (H : Hp) (mu : Nat → Addr) (S : Store) (d : List D) (v : List V) : Prop := RVs K H mu d v ∧ D.wfs S.length d = true
def relB (K : PySem.W.Frag) (H : Hp) (mu : Nat → Addr) (S : Store) (a b : Bool) : Prop := a = b
theorem relD.gw {d : D} {v : V} (h : relD K H mu S d v) (r : RS N K H mu S) (g : Gw N K H mu S H' mu' S') : relD K H' mu' S' d v := ⟨g.rv r h.2 h.1, D.wf_le g.le d h.2⟩
theorem relDs.gw {d : List D} {v : List V} (h : relDs K H mu S d v) (r : RS N K H mu S) (g : Gw N K H mu S H' mu' S') : relDs K H' mu' S' d v := ⟨g.rvs r h.2 h.1, D.wfs_le g.le d h.2⟩
variable {α β γ δ : Type} {rel : Hp → (Nat → Addr) → Store → α → β → Prop} {rel' : Hp → (Nat → Addr) → Store → γ → δ → Prop}
/-- what is wanted behind a result -/
def Post (N : Nm) (K : PySem.W.Frag) (H : Hp) (mu : Nat → Addr) (S : Store) (rel : Hp → (Nat → Addr) → Store → α → β → Prop) (r : R α) (Q : β → Hp → Prop) (E : XK) : Prop := match r with
  | .ok a S' => ∀ (b : β) (H' : Hp) (mu' : Nat → Addr), Gw N K H mu S H' mu' S' → rel H' mu' S' a b → Q b H'
  | .exn C fs S' => ∀ (dd : Addr) (gs : List (Str × V)) (H' : Hp) (mu' : Nat → Addr), Gw N K H mu S H' mu' S' → H' dd = some (.xd gs) → RF N K H' mu' fs gs → D.wfs S'.length (fs.map (·.2)) = true → E (.ref (N.cad C)) (some dd) H'
  | .stuck => False
theorem Post.imp {r : R α} {Q Q' : β → Hp → Prop} {E : XK} (p : Post N K H mu S rel r Q E) (h : ∀ b H', Q b H' → Q' b H') : Post N K H mu S rel r Q' E := by
  cases r with
  | ok a S' => exact fun b H' mu' g q => h b H' (p b H' mu' g q)
  | exn C fs S' => exact p
  | stuck => exact p
theorem Post.after {r : R α} {Q : β → Hp → Prop} {E : XK} (p : Post N K H mu S rel r Q E) (g : Gw N K H mu S H1 mu1 S1) : Post N K H1 mu1 S1 rel r Q E := by
  cases r with
  | ok a S' => exact fun b H' mu' g' q => p b H' mu' (g.trans g') q
  | exn C fs S' => exact fun dd gs H' mu' g' q1 q2 q3 => p dd gs H' mu' (g.trans g') q1 q2 q3
  | stuck => exact p
theorem Post.bind {r : R γ} {f : γ → Store → R α} {Q : β → Hp → Prop} {E : XK} (p : Post N K H mu S rel (r.bind f) Q E) :
    Post N K H mu S rel' r (fun b H1 => ∃ mu1 S1 a, rel' H1 mu1 S1 a b ∧ Gw N K H mu S H1 mu1 S1 ∧ Post N K H1 mu1 S1 rel (f a S1) Q E) E := by
  cases r with
  | ok a S1 => exact fun b H1 mu1 g q => ⟨mu1, S1, a, q, g, Post.after p g⟩
  | exn C fs S1 => exact p
  | stuck => exact p
theorem Post.now {a : α} {b : β} {Q : β → Hp → Prop} {E : XK} (r : RS N K H mu S) (p : Post N K H mu S rel (.ok a S) Q E) (h : rel H mu S a b) : Q b H := p b H mu (Gw.refl r) h

/-! ### a store put in order -/
theorem take_get {n : Nat} (e : S'.take S.length = S) (h : n < S.length) : S'[n]? = S[n]? := by
  have q : (S'.take S.length)[n]? = S[n]? := by rw [e]
  rwa [List.getElem?_take_of_lt h] at q
theorem Gw.cut (r : RS N K H mu S) (g : Gw N K H mu S H' mu' S') (e : S'.take S.length = S) : Gw N K H mu S H' mu' S where
  rs := ⟨fun n o h => g.rs.ob n o (by rw [take_get e (List.getElem?_eq_some_iff.mp h).1]; exact h), r.wf, fun n m hn hm q => by
    refine g.rs.inj n m ?_ ?_ q
    · unfold Mt; rw [take_get e hn.lt]; exact hn
    · unfold Mt; rw [take_get e hm.lt]; exact hm⟩
  le := Nat.le_refl _
  mus := g.mus
  fr := g.fr
  new := fun n h1 h2 => absurd h1 (by omega)
  som := g.som
  mt := fun _ _ h => h
/-- one new place alone is kept -/
theorem Gw.keep1 (r : RS N K H mu S) (g : Gw N K H mu S H' mu' S') (e : S'.take S.length = S) {j : Nat} {o : O} (hj : S.length ≤ j) (ho : S'[j]? = some o) (w : o.wf S.length = true) : Gw N K H mu S H' (muN mu' S.length (mu' j)) (S ++ [o]) := by
  have g0 := g.cut r e
  have hjl := (List.getElem?_eq_some_iff.mp ho).1
  have hm : ∀ n, n < S.length → muN mu' S.length (mu' j) n = mu' n := fun n h => muN_ne (Nat.ne_of_lt h)
  have at_ : ∀ n u, (S ++ [o])[n]? = some u → (n < S.length ∧ S[n]? = some u) ∨ (n = S.length ∧ u = o) := fun n u q => by
    by_cases z : n < S.length
    · rw [List.getElem?_append_left z] at q
      exact .inl ⟨z, q⟩
    · rw [List.getElem?_append_right (Nat.le_of_not_lt z)] at q
      obtain ⟨l, q2⟩ := List.getElem?_eq_some_iff.mp q
      have l' : n - S.length < 1 := by simpa using l
      have n0 : n = S.length := by omega
      subst n0
      exact .inr ⟨rfl, by simpa using q2.symm⟩
  have mo : Mt (S ++ [o]) S.length → Mt S' j := fun h => by
    unfold Mt at h ⊢
    rw [List.getElem?_append_right (Nat.le_refl _)] at h
    rw [ho]
    simpa using h
  have mt_ : ∀ n, n < S.length → Mt (S ++ [o]) n → Mt S n := fun n h hn => by
    unfold Mt at hn ⊢
    rw [List.getElem?_append_left h] at hn
    exact hn
  have mt2 : ∀ n, Mt S n → Mt S' n := fun n hn => by unfold Mt; rw [take_get e hn.lt]; exact hn
  refine ⟨⟨fun n u q => ?_, fun n u q => ?_, fun n m hn hm' q => ?_⟩, by simp, fun n h => (hm n h).trans (g.mus n h), g.fr, fun n h1 h2 => ?_, g.som, mt_⟩
  · rcases at_ n u q with ⟨z, q⟩ | ⟨rfl, rfl⟩
    · rw [hm n z]
      exact (g0.rs.ob n u q).mono (fun _ _ h => h) hm (r.wf n u q) fun _ z => z
    · rw [muN_eq]
      exact (g.rs.ob j u ho).mono (fun _ _ h => h) hm w fun _ z => z
  · rcases at_ n u q with ⟨z, q⟩ | ⟨rfl, rfl⟩
    · exact O.wf_le (by simp) (r.wf n u q)
    · exact O.wf_le (by simp) w
  · have ln := hn.lt
    have lm := hm'.lt
    rw [List.length_append, List.length_singleton] at ln lm
    by_cases z : n < S.length
    · rw [hm n z] at q
      by_cases z' : m < S.length
      · rw [hm m z'] at q
        exact g.rs.inj n m (mt2 n (mt_ n z hn)) (mt2 m (mt_ m z' hm')) q
      · have m0 : m = S.length := by omega
        subst m0
        rw [muN_eq] at q
        have := g.rs.inj n j (mt2 n (mt_ n z hn)) (mo hm') q
        omega
    · have n0 : n = S.length := by omega
      subst n0
      by_cases z' : m < S.length
      · rw [hm m z', muN_eq] at q
        have := g.rs.inj j m (mo hn) (mt2 m (mt_ m z' hm')) q
        omega
      · omega
  · rw [List.length_append, List.length_singleton] at h2
    have n0 : n = S.length := by omega
    subst n0
    rw [muN_eq]
    exact g.new j hj hjl
theorem Post.tidy {r : R D} {Q : V → Hp → Prop} {E : XK} (rs : RS N K H mu S) (p : Post N K H mu S (relD K) (tidy S r) Q E) : Post N K H mu S (relD K) r Q E := by
  cases r with
  | ok d S' =>
    intro v H' mu' g q
    unfold Fx.tidy at p
    dsimp only at p
    split at p
    · exact p v H' mu' g q
    · split at p
      · rename_i e
        split at p
        · rename_i w
          exact p v H' mu' (g.cut rs e) ⟨q.1, w⟩
        · split at p
          · rename_i j _
            split at p
            · rename_i o ho
              split at p
              · rename_i c
                obtain ⟨c1, c2⟩ := Bool.and_eq_true_iff.mp c
                refine p v H' (muN mu' S.length (mu' j)) (g.keep1 rs e (of_decide_eq_true c2) ho c1) ⟨?_, by simp [D.wf]⟩
                have q1 : v = .ref (mu' j) := q.1
                show v = .ref (muN mu' S.length (mu' j) S.length)
                rw [muN_eq, q1]
              · exact p v H' mu' g q
            · exact p v H' mu' g q
          · exact p v H' mu' g q
      · exact p v H' mu' g q
  | exn C fs S' =>
    intro dd gs H' mu' g q1 q2 q3
    unfold Fx.tidy at p
    dsimp only at p
    split at p
    · exact p dd gs H' mu' g q1 q2 q3
    · split at p
      · rename_i e
        split at p
        · rename_i w
          exact p dd gs H' mu' (g.cut rs e) q1 q2 w
        · exact p dd gs H' mu' g q1 q2 q3
      · exact p dd gs H' mu' g q1 q2 q3
  | stuck => exact p
theorem Post.tidyB {r : R Bool} {Q : Bool → Hp → Prop} {E : XK} (rs : RS N K H mu S) (p : Post N K H mu S (relB K) (tidyB S r) Q E) : Post N K H mu S (relB K) r Q E := by
  cases r with
  | ok d S' =>
    intro v H' mu' g q
    unfold Fx.tidyB at p
    dsimp only at p
    split at p
    · exact p v H' mu' g q
    · split at p
      · rename_i e
        exact p v H' mu' (g.cut rs e) q
      · exact p v H' mu' g q
  | exn C fs S' => exact p
  | stuck => exact p
end

/-! ### readings -/
abbrev XW (W : WX) (σ : L2.St) : XK := fun c d H => W c d σ H
def tE (N : Nm) (K : PySem.W.Frag) (W : WX) (f : Env → Store → R D) : TE := fun σ H Q => ∃ mu ρ S, RE N K H mu S ρ σ ∧ RS N K H mu S ∧ Post N K H mu S (relD K) (f ρ S) Q (XW W σ)
def tT (N : Nm) (K : PySem.W.Frag) (W : WX) (f : Env → Store → R Bool) : TT := fun σ H Q => ∃ mu ρ S, RE N K H mu S ρ σ ∧ RS N K H mu S ∧ Post N K H mu S (relB K) (f ρ S) Q (XW W σ)
def tA (N : Nm) (K : PySem.W.Frag) (W : WX) (f : Env → Store → R (List D)) : TA := fun σ H Q => ∃ mu ρ S, RE N K H mu S ρ σ ∧ RS N K H mu S ∧ Post N K H mu S (relDs K) (f ρ S) Q (XW W σ)
section
variable {X : Cx}
theorem peI {e : Expr} {t t' : TE} (h : PE X e t) (hi : ∀ σ H Q, t' σ H Q → t σ H Q) : PE X e t' := .mk fun pn s σ H Q I q => h.run pn s σ H Q I (hi _ _ _ q)
theorem ptI {e : Expr} {t t' : TT} (h : PT X e t) (hi : ∀ σ H Q, t' σ H Q → t σ H Q) : PT X e t' := .mk fun pn s σ H Q I q => h.run pn s σ H Q I (hi _ _ _ q)
theorem pwI {e : Expr} {t t' : TT} (h : PW X e t) (hi : ∀ σ H Q, t' σ H Q → t σ H Q) : PW X e t' := .mk fun wh pn s σ H Q I q => h.run wh pn s σ H Q I (hi _ _ _ q)
theorem paI {e : List Expr} {t t' : TA} (h : PA X e t) (hi : ∀ σ H Q, t' σ H Q → t σ H Q) : PA X e t' := .mk fun po pn s σ H Q I q => h.run po pn s σ H Q I (hi _ _ _ q)
theorem psI {e : Stmt} {t t' : TS} (h : PS X e t) (hi : ∀ D σ H, t' D σ H → t D σ H) : PS X e t' := .mk fun pn s σ H D I q => h.run pn s σ H D I (hi _ _ _ q)
theorem pssI {e : List Stmt} {t t' : TS} (h : PSs X e t) (hi : ∀ D σ H, t' D σ H → t D σ H) : PSs X e t' := .mk fun pn s σ H D I q => h.run pn s σ H D I (hi _ _ _ q)
end

/-! ### steps by values -/
section
variable {X : Cx} {N : Nm} {W : WX} {a b e : Expr} {fa fb : Env → Store → R D} {pos : Pos}
/-- an operation on two data -/
def r2F (N : Nm) (K : PySem.W.Frag) (g : D → D → Store → R D) : R2 := fun x y H Q => ∃ mu S a b E, relD K H mu S a x ∧ relD K H mu S b y ∧ RS N K H mu S ∧ Post N K H mu S (relD K) (g a b S) Q E
def r1F (N : Nm) (K : PySem.W.Frag) (g : D → Store → R D) : V → Hp → VK → Prop := fun x H Q => ∃ mu S a E, relD K H mu S a x ∧ RS N K H mu S ∧ Post N K H mu S (relD K) (g a S) Q E
def rnF (N : Nm) (K : PySem.W.Frag) (g : List D → Store → R D) : List V → Hp → VK → Prop := fun xs H Q => ∃ mu S ds E, relDs K H mu S ds xs ∧ RS N K H mu S ∧ Post N K H mu S (relD K) (g ds S) Q E
def rmF (N : Nm) (K : PySem.W.Frag) (g : D → List D → Store → R D) : V → List V → Hp → VK → Prop := fun x xs H Q => ∃ mu S d ds E, relD K H mu S d x ∧ relDs K H mu S ds xs ∧ RS N K H mu S ∧ Post N K H mu S (relD K) (g d ds S) Q E
theorem two_of {g : D → D → Store → R D} {σ : L2.St} {H : Hp} {Q : VK} (h : tE N X.K W (fun ρ S => (fa ρ S).bind fun x S1 => (fb ρ S1).bind fun y S2 => g x y S2) σ H Q) : tOp (r2F N X.K g) (tE N X.K W fa) (tE N X.K W fb) σ H Q := by
  obtain ⟨mu, ρ, S, re, rs, p⟩ := h
  refine ⟨mu, ρ, S, re, rs, (Post.bind (rel' := relD X.K) p).imp ?_⟩
  rintro x H1 ⟨mu1, S1, d1, r1, g1, p1⟩
  refine ⟨mu1, ρ, S1, re.gw rs g1, g1.rs, (Post.bind (rel' := relD X.K) p1).imp ?_⟩
  rintro y H2 ⟨mu2, S2, d2, r2, g2, p2⟩
  exact ⟨mu2, S2, d1, d2, _, r1.gw g1.rs g2, r2, g2.rs, p2⟩
theorem one_of {g : D → Store → R D} {σ : L2.St} {H : Hp} {Q : VK} (h : tE N X.K W (fun ρ S => (fa ρ S).bind fun x S1 => g x S1) σ H Q) : tUn (r1F N X.K g) (tE N X.K W fa) σ H Q := by
  obtain ⟨mu, ρ, S, re, rs, p⟩ := h
  refine ⟨mu, ρ, S, re, rs, (Post.bind (rel' := relD X.K) p).imp ?_⟩
  rintro x H1 ⟨mu1, S1, d1, r1, g1, p1⟩
  exact ⟨mu1, S1, d1, _, r1, g1.rs, p1⟩
theorem s_bin {op : Operator} {g : D → D → Store → R D} (ho : OpR X (binaryOp op) (r2F N X.K g)) (ha : PE X a (tE N X.K W fa)) (hb : PE X b (tE N X.K W fb)) :
    PE X (.BinOp a op b pos) (tE N X.K W fun ρ S => (fa ρ S).bind fun x S1 => (fb ρ S1).bind fun y S2 => g x y S2) := peI (pe_op ho ha hb) fun _ _ _ h => two_of h
theorem s_cmp {op : CmpOp} {g : D → D → Store → R D} (ho : OpR X (compareOp op) (r2F N X.K g)) (ha : PE X a (tE N X.K W fa)) (hb : PE X b (tE N X.K W fb)) (hm : behindInMarks op b = false) :
    PE X (.Compare a [op] [b] pos) (tE N X.K W fun ρ S => (fa ρ S).bind fun x S1 => (fb ρ S1).bind fun y S2 => g x y S2) := peI (pe_cmpR ho ha hb hm) fun _ _ _ h => two_of h
theorem s_ix {g : D → D → Store → R D} (ho : IxR X (r2F N X.K g)) (ha : PE X a (tE N X.K W fa)) (hb : PE X b (tE N X.K W fb)) (hs : PlainIx b) :
    PE X (.Subscript a b pos) (tE N X.K W fun ρ S => (fa ρ S).bind fun x S1 => (fb ρ S1).bind fun y S2 => g x y S2) := peI (pe_ix ho ha hb hs) fun _ _ _ h => two_of h
theorem s_un {op : UnaryOp} {g : D → Store → R D} (ho : UnR X (unaryOp op) (r1F N X.K g)) (ha : PE X a (tE N X.K W fa)) :
    PE X (.UnaryOp op a pos) (tE N X.K W fun ρ S => (fa ρ S).bind fun x S1 => g x S1) := peI (pe_un ho ha) fun _ _ _ h => one_of h
theorem s_loc {i : Nat} {x : Str} (hN : X.N[i]? = some x) (hv : Vis X.env.scope x) (hd : (x == ("__debug__" : Str)) = false) (hcd : (x == ("__classdict__" : Str)) = false) : PE X (.Name x pos) (tE N X.K W fun ρ S => (match ρ[i]? with
    | some (some d) => .ok d S
    | _ => .stuck)) := by
  refine peI (pe_var hN hv hd hcd) fun σ H Q h => ?_
  obtain ⟨mu, ρ, S, re, rs, p⟩ := h
  dsimp only at p
  split at p
  · rename_i d hq
    obtain ⟨w, v, h1, h2⟩ := re.get i d hq
    exact ⟨v, h1, p.now rs ⟨h2, w⟩⟩
  · exact p.elim
/-- a constant -/
theorem s_con {c : D} {v : V} (h : PE X e (tC v)) (hr : ∀ H mu, RV X.K H mu c v) (hw : ∀ n, c.wf n = true) : PE X e (tE N X.K W fun _ S => .ok c S) :=
  peI h fun σ H Q ⟨mu, ρ, S, re, rs, p⟩ => p.now rs ⟨hr H mu, hw _⟩
theorem s_cons {es : List Expr} {fe : Env → Store → R D} {fs : Env → Store → R (List D)} (he : PE X e (tE N X.K W fe)) (hr : PA X es (tA N X.K W fs)) (hs : starEach (e :: es) X.env = (false, eval e X.env) :: starEach es X.env) :
    PA X (e :: es) (tA N X.K W fun ρ S => (fe ρ S).bind fun x S1 => (fs ρ S1).bind fun xs S2 => .ok (x :: xs) S2) := by
  refine paI (pa_cons he hr hs) fun σ H Q h => ?_
  obtain ⟨mu, ρ, S, re, rs, p⟩ := h
  refine ⟨mu, ρ, S, re, rs, (Post.bind (rel' := relD X.K) p).imp ?_⟩
  rintro x H1 ⟨mu1, S1, d1, r1, g1, p1⟩
  refine ⟨mu1, ρ, S1, re.gw rs g1, g1.rs, (Post.bind (rel' := relDs X.K) p1).imp ?_⟩
  rintro xs H2 ⟨mu2, S2, d2, r2, g2, p2⟩
  have r1' := r1.gw g1.rs g2
  exact p2.now g2.rs ⟨⟨_, _, rfl, r1'.1, r2.1⟩, by simp [D.wfs, r1'.2, r2.2]⟩
theorem s_nil : PA X [] (tA N X.K W fun _ S => .ok [] S) := paI pa_nil fun σ H Q ⟨mu, ρ, S, re, rs, p⟩ => p.now rs ⟨rfl, rfl⟩
theorem s_tup {es : List Expr} {x1 : Nat} {fs : Env → Store → R (List D)} (h : PA X es (tA N X.K W fs)) : PE X (.Tuple es x1 pos) (tE N X.K W fun ρ S => (fs ρ S).bind fun ds S1 => if ds.length ≤ line then .ok (.tup ds) S1 else .stuck) := by
  refine peI (pe_tup h) fun σ H Q h => ?_
  obtain ⟨mu, ρ, S, re, rs, p⟩ := h
  refine ⟨mu, ρ, S, re, rs, (Post.bind (rel' := relDs X.K) p).imp ?_⟩
  rintro xs H1 ⟨mu1, S1, ds, r1, g1, p1⟩
  split at p1
  · rename_i hl
    refine ⟨by rw [r1.1.length]; exact hl, fun q hq => ?_⟩
    have g := Gw.laid g1.rs (o := HO.tup xs) hq
    have r2 := r1.gw g1.rs g
    exact (p1.after g).now g.rs ⟨⟨q, xs, rfl, SqT.of upd_same, r2.1⟩, r2.2⟩
  · exact p1.elim
theorem s_lst {es : List Expr} {fs : Env → Store → R (List D)} (h : PA X es (tA N X.K W fs)) : PE X (.List es pos) (tE N X.K W fun ρ S => (fs ρ S).bind fun ds S1 => if ds.length ≤ line then .ok (.ref S1.length) (S1 ++ [.lst ds]) else .stuck) := by
  refine peI (pe_lst h) fun σ H Q h => ?_
  obtain ⟨mu, ρ, S, re, rs, p⟩ := h
  refine ⟨mu, ρ, S, re, rs, (Post.bind (rel' := relDs X.K) p).imp ?_⟩
  rintro xs H1 ⟨mu1, S1, ds, r1, g1, p1⟩
  split at p1
  · rename_i hl
    refine ⟨by rw [r1.1.length]; exact hl, fun q hq => ?_⟩
    have g := Gw.alloc g1.rs (p := q) (ho := .lst xs) (o := .lst ds) hq r1.2 fun H' mu' ht hm hp => ⟨xs, hp, RVs.mono ht hm ds xs r1.2 r1.1⟩
    refine p1 _ _ _ g ⟨?_, by simp [D.wf]⟩
    show V.ref q = .ref (muN mu1 S1.length q S1.length)
    rw [muN_eq]
  · exact p1.elim
/-- a call of a built-in by its values -/
theorem s_call {es : List Expr} {fs : Env → Store → R (List D)} {g : List D → Store → R D} {f : Expr} {t : TA → TE} (ht : ∀ u, PA X es u → PE X e (tCB (rnF N X.K g) u)) (h : PA X es (tA N X.K W fs)) :
    PE X e (tE N X.K W fun ρ S => (fs ρ S).bind fun ds S1 => g ds S1) := by
  refine peI (ht _ h) fun σ H Q h => ?_
  obtain ⟨mu, ρ, S, re, rs, p⟩ := h
  refine ⟨mu, ρ, S, re, rs, (Post.bind (rel' := relDs X.K) p).imp ?_⟩
  rintro xs H1 ⟨mu1, S1, ds, r1, g1, p1⟩
  exact ⟨mu1, S1, ds, _, r1, g1.rs, p1⟩
end
end Fx
set_option Elab.async false
set_option linter.all false
set_option autoImplicit false
set_option maxRecDepth 100000
set_option maxHeartbeats 4000000
/-! FxD: operators, comparisons, subscripts, built-ins by values. -/
namespace Fx
open PySem PySem.Spec PyProof.Rows L2

theorem line_eq : line = sizeLine := by rw [sizeLine_eq]; rfl
theorem str_len (s : List Nat) : (strOf s).length = s.length := by
  show (s.toArray).size = s.length
  simp
theorem str_cat (a b : List Nat) : strOf a ++ strOf b = strOf (a ++ b) := by
  show Str.append (strOf a) (strOf b) = strOf (a ++ b)
  unfold Str.append strOf
  simp
theorem str_inj {a b : List Nat} (h : strOf a = strOf b) : a = b := by
  unfold strOf at h
  simpa using h

/-! ### data that are read as the library reads them -/
mutual
def D.py : D → PyData
  | .non => .none
  | .bl b => .bool b
  | .int i => .int i
  | .str s => .str (strOf s)
  | .tup xs => .tuple (D.pys xs)
  | .ref _ => .none
def D.pys : List D → List PyData
  | [] => []
  | x :: xs => D.py x :: D.pys xs
end
section
variable {K : PySem.W.Frag} {H : Hp} {mu : Nat → Addr}
mutual
theorem RV.dp : ∀ (d : D) (v : V), d.nb = true → RV K H mu d v → Dp K H v d.py
  | .non, v, _, h => by have h : v = .non := h; subst h; exact .non
  | .bl b, v, n, h => by simp [D.nb] at n
  | .int i, v, _, h => by have h : v = .int i := h; subst h; exact .int i
  | .str s, v, _, h => by have h : v = .str (strOf s) := h; subst h; exact .str _
  | .ref n, v, w, h => by simp [D.nb] at w
  | .tup xs, v, w, h => by
    obtain ⟨a, vs, e, q, r⟩ := h
    subst e
    exact .tup q (RVs.dp xs vs (by simpa [D.nb] using w) r)
theorem RVs.dp : ∀ (ds : List D) (vs : List V), D.nbs ds = true → RVs K H mu ds vs → DpAll K H vs (D.pys ds)
  | [], vs, _, h => by have h : vs = [] := h; subst h; exact .nil
  | x :: xs, vs, w, h => by
    obtain ⟨v, r, e, h1, h2⟩ := h
    have w' : D.nb x = true ∧ D.nbs xs = true := by simpa [D.nbs] using w
    subst e
    exact .cons (RV.dp x v w'.1 h1) (RVs.dp xs r w'.2 h2)
end
end
mutual
theorem D.lay : ∀ d : D, d.nb = true → (D.py d).canLay0 = true
  | .non, _ => rfl
  | .bl _, _ => rfl
  | .int _, _ => rfl
  | .str s, h => by
    have h' : (s.all fun c => decide (c < 1114112)) = true := h
    show ((strOf s).cps.all fun c => decide (c < 0x110000)) = true
    simpa [strOf] using h'
  | .ref _, _ => rfl
  | .tup xs, h => by simpa [D.py, PyData.canLay0] using D.lays xs (by simpa [D.nb] using h)
theorem D.lays : ∀ ds : List D, D.nbs ds = true → PyData.canLayAll0 (D.pys ds) = true
  | [], _ => rfl
  | x :: xs, h => by
    have h' : D.nb x = true ∧ D.nbs xs = true := by simpa [D.nbs] using h
    simp [D.pys, PyData.canLayAll0, D.lay x h'.1, D.lays xs h'.2]
end
mutual
theorem D.py_dep : ∀ d : D, (D.py d).depth = d.dep
  | .non => rfl
  | .bl _ => rfl
  | .int _ => rfl
  | .str _ => rfl
  | .ref _ => rfl
  | .tup xs => by simp [D.py, PyData.depth, D.dep, D.pys_dep xs]
theorem D.pys_dep : ∀ ds : List D, PyData.depthAll (D.pys ds) = D.deps ds
  | [] => rfl
  | x :: xs => by simp [D.pys, PyData.depthAll, D.deps, D.py_dep x, D.pys_dep xs]
end
theorem D.shaped {d : D} (n : d.nb = true) (h : d.dep ≤ 60) : SeqAt.shaped d.py = true := by
  unfold SeqAt.shaped
  rw [D.lay d n, D.py_dep]
  simp; omega
mutual
theorem D.eqv : ∀ a b : D, a.nb = true → b.nb = true → PyData.eqv a.py b.py = D.beq a b
  | .non, b, ha, hb => by cases b <;> first | rfl | (simp [D.nb] at hb) | simp [D.py, PyData.eqv, D.beq]
  | .bl x, b, ha, hb => by simp [D.nb] at ha
  | .ref x, b, ha, hb => by simp [D.nb] at ha
  | .int i, b, ha, hb => by cases b <;> first | (simp [D.nb] at hb; done) | simp [D.py, PyData.eqv, D.beq]
  | .str s, b, ha, hb => by
    cases b with
    | str t =>
      simp only [D.py, PyData.eqv, D.beq]
      rw [Bool.eq_iff_iff, beq_iff_eq, beq_iff_eq]
      exact ⟨fun h => str_inj h, fun h => by rw [h]⟩
    | _ => first | (simp [D.nb] at hb; done) | simp [D.py, PyData.eqv, D.beq]
  | .tup xs, b, ha, hb => by
    cases b with
    | tup ys => simp only [D.py, PyData.eqv, D.beq]; exact D.eqvs xs ys (by simpa [D.nb] using ha) (by simpa [D.nb] using hb)
    | _ => first | (simp [D.nb] at hb; done) | simp [D.py, PyData.eqv, D.beq]
theorem D.eqvs : ∀ a b : List D, D.nbs a = true → D.nbs b = true → PyData.eqvAll (D.pys a) (D.pys b) = D.beqs a b
  | [], [], _, _ => by simp [D.pys, PyData.eqvAll, D.beqs]
  | [], _ :: _, _, _ => by simp [D.pys, PyData.eqvAll, D.beqs]
  | _ :: _, [], _, _ => by simp [D.pys, PyData.eqvAll, D.beqs]
  | x :: xs, y :: ys, ha, hb => by
    have a' : D.nb x = true ∧ D.nbs xs = true := by simpa [D.nbs] using ha
    have b' : D.nb y = true ∧ D.nbs ys = true := by simpa [D.nbs] using hb
    simp only [D.pys, PyData.eqvAll, D.beqs]
    rw [D.eqv x y a'.1 b'.1, D.eqvs xs ys a'.2 b'.2]
end
theorem beq_dec (a b : D) : D.beq a b = decide (a = b) := by
  by_cases h : a = b
  · rw [decide_eq_true h, h]; exact D.beq_refl b
  · rw [decide_eq_false h]
    cases q : D.beq a b with
    | true => exact absurd (D.beq_eq q) h
    | false => rfl
theorem beqs_dec (a b : List D) : D.beqs a b = decide (a = b) := by
  by_cases h : a = b
  · rw [decide_eq_true h, h]; exact D.beqs_refl b
  · rw [decide_eq_false h]
    cases q : D.beqs a b with
    | true => exact absurd (D.beqs_eq q) h
    | false => rfl

/-! ### what stands in the store is read -/
section
variable {N : Nm} {K : PySem.W.Frag} {H : Hp} {mu : Nat → Addr} {S : Store}
theorem RS.lst (r : RS N K H mu S) {n : Nat} {xs : List D} (h : lstOf S n = some xs) : ∃ vs, SqL K H (mu n) vs ∧ RVs K H mu xs vs ∧ D.wfs S.length xs = true := by
  unfold lstOf at h
  cases e : S[n]? with
  | none => rw [e] at h; cases h
  | some o =>
    have q := r.ob n o e
    have w := r.wf n o e
    rw [e] at h
    cases o with
    | lst ys =>
      obtain rfl : ys = xs := Option.some.inj h
      obtain ⟨vs, g, q⟩ := q
      exact ⟨vs, SqL.of g, q, w⟩
    | frz ys =>
      obtain rfl : ys = xs := Option.some.inj h
      obtain ⟨vs, g, q⟩ := q
      refine ⟨vs, ?_, q, w⟩
      rcases g with ⟨ob, g⟩ | g
      · exact .inl (.inr ⟨ob, g⟩)
      · exact g H
    | ins C fs => cases h
theorem RS.lstM (r : RS N K H mu S) {n : Nat} {xs : List D} (h : S[n]? = some (.lst xs)) : ∃ vs, H (mu n) = some (.lst vs) ∧ RVs K H mu xs vs ∧ D.wfs S.length xs = true := by
  obtain ⟨vs, g, q⟩ := r.ob n _ h
  exact ⟨vs, g, q, r.wf n _ h⟩
/-- a list of the store is changed -/
theorem Gw.set (r : RS N K H mu S) {n : Nat} {xs ys : List D} {vs : List V} (h : S[n]? = some (.lst xs)) (q : RVs K H mu ys vs) (w : D.wfs S.length ys = true) : Gw N K H mu S (upd H (mu n) (.lst vs)) mu (S.set n (.lst ys)) := by
  obtain ⟨ws, hw, _⟩ := r.lstM h
  have hn : n < S.length := (List.getElem?_eq_some_iff.mp h).1
  have mn : Mt S n := by unfold Mt; rw [h]; trivial
  have keep : ∀ b u, b ≠ mu n → H b = some u → upd H (mu n) (.lst vs) b = some u := fun b u hb e => by rw [upd_ne hb]; exact e
  have kt : ∀ a us, SqT K H a us → SqT K (upd H (mu n) (.lst vs)) a us := fun a us z => by
    rcases z with (z | ⟨ob, z⟩) | z
    · exact .inl (.inl (keep _ _ (fun e => by rw [e, hw] at z; cases z) z))
    · exact .inl (.inr ⟨ob, keep _ _ (fun e => by rw [e, hw] at z; cases z) z⟩)
    · exact .inr z
  have mt_ : ∀ m, Mt (S.set n (.lst ys)) m ↔ Mt S m := fun m => by
    unfold Mt
    by_cases e : m = n
    · subst e
      rw [List.getElem?_set_self hn, h]
    · rw [List.getElem?_set_ne (Ne.symm e)]
  have le : (S.set n (.lst ys)).length = S.length := List.length_set
  refine ⟨⟨fun m o e => ?_, fun m o e => ?_, fun m k h1 h2 e => r.inj m k ((mt_ m).mp h1) ((mt_ k).mp h2) e⟩, by rw [le]; exact Nat.le_refl _, fun _ _ => rfl, fun b u e hb => keep b u (fun z => hb n mn z.symm) e, fun m h1 h2 => absurd h1 (by rw [le] at h2; omega), fun b hb => ?_, fun m _ hm => (mt_ m).mp hm⟩
  · by_cases z : m = n
    · subst z
      rw [List.getElem?_set_self hn] at e
      obtain rfl := Option.some.inj e
      exact ⟨vs, upd_same, RVs.mono kt (fun _ _ => rfl) ys vs w q⟩
    · rw [List.getElem?_set_ne (Ne.symm z)] at e
      have q' := r.ob m o e
      have w' := r.wf m o e
      cases o with
      | frz us =>
        obtain ⟨vs2, g, q2⟩ := q'
        refine ⟨vs2, ?_, RVs.mono kt (fun _ _ => rfl) us vs2 w' q2⟩
        rcases g with ⟨ob, g⟩ | g
        · exact .inl ⟨ob, keep _ _ (fun z2 => by rw [z2, hw] at g; cases g) g⟩
        · exact .inr g
      | lst us => exact q'.mono kt (fun _ _ => rfl) w' fun u z' => keep _ u (fun z2 => z (r.inj m n (by unfold Mt; rw [e]; trivial) mn z2)) z'
      | ins C fs => exact q'.mono kt (fun _ _ => rfl) w' fun u z' => keep _ u (fun z2 => z (r.inj m n (by unfold Mt; rw [e]; trivial) mn z2)) z'
  · rw [le]
    by_cases z : m = n
    · subst z
      rw [List.getElem?_set_self hn] at e
      obtain rfl := Option.some.inj e
      exact w
    · rw [List.getElem?_set_ne (Ne.symm z)] at e
      exact r.wf m o e
  · by_cases z : b = mu n
    · rw [z, upd_same]; simp
    · rw [upd_ne z]; exact hb
end
end Fx
set_option Elab.async false
set_option linter.all false
set_option autoImplicit false
set_option maxRecDepth 100000
set_option maxHeartbeats 4000000
/-! FxE: the operators' rules. -/
namespace Fx
open PySem PySem.Spec PyProof.Rows L2

section
variable {X : Cx} {N : Nm}
theorem cut_eq (n d : Nat) (o : Option Int) : HT.sIx n d o = sIx n d o := by
  cases o with
  | none => rfl
  | some v => rfl
theorem ixN_eq (n : Nat) (i : Int) : L2.ixN n i = Fx.ixN n i := rfl
theorem atI_eq {α : Type} (xs : List α) (i : Int) : L2.atI xs i = Fx.atI xs i := rfl

/-! ### + - * // % ** -/
theorem opF_add : OpR X (binaryOp .Add) (r2F N X.K (binop .Add)) := by
  intro pn s σ H x y v u Q I rx ry h
  obtain ⟨mu, S, a, b, E, ⟨ra, wa⟩, ⟨rb, wb⟩, rs, p⟩ := h
  cases a with
  | int i =>
    cases b with
    | int j =>
      obtain rfl : x = .int i := ra
      obtain rfl : y = .int j := rb
      exact op_add pn s σ H _ _ v u Q I rx ry ⟨i, j, rfl, rfl, Post.now rs p ⟨rfl, rfl⟩⟩
    | _ => exact (show False from p).elim
  | str i =>
    cases b with
    | str j =>
      obtain rfl : x = .str (strOf i) := ra
      obtain rfl : y = .str (strOf j) := rb
      have p' : Post N X.K H mu S (relD X.K) (if i.length + j.length ≤ line then .ok (.str (i ++ j)) S else .stuck) Q E := p
      by_cases hl : i.length + j.length ≤ line
      · rw [if_pos hl] at p'
        refine op_add_str pn s σ H _ _ v u Q I rx ry ⟨_, _, rfl, rfl, by rw [str_len, str_len, ← line_eq]; exact hl, ?_⟩
        rw [str_cat]
        exact p'.now rs ⟨rfl, rfl⟩
      · rw [if_neg hl] at p'
        exact p'.elim
    | _ => exact (show False from p).elim
  | tup i =>
    cases b with
    | tup j =>
      obtain ⟨l, vs, rfl, ql, rl⟩ := ra
      obtain ⟨m, us, rfl, qm, rm⟩ := rb
      have wi : D.wfs S.length i = true := wa
      have wj : D.wfs S.length j = true := wb
      have wij : D.wf S.length (.tup (i ++ j)) = true := by
        show D.wfs S.length (i ++ j) = true
        rw [wfs_append, wi, wj]; rfl
      have p' : Post N X.K H mu S (relD X.K) (if i.length + j.length ≤ line then .ok (.tup (i ++ j)) S else .stuck) Q E := p
      by_cases hl : i.length + j.length ≤ line
      · rw [if_pos hl] at p'
        refine op_catA pn s σ H _ _ v u Q I rx ry ⟨l, m, vs, us, rfl, rfl, ql, qm, by rw [rl.length, rm.length, ← line_eq]; exact hl, fun e => ?_, fun _ e => ?_, fun _ _ q hq => ?_⟩
        · have e2 : i = [] := by have := rl.length; rw [e] at this; exact List.length_eq_zero_iff.mp this.symm
          subst e2
          exact p'.now rs ⟨⟨m, us, rfl, qm, rm⟩, wij⟩
        · have e2 : j = [] := by have := rm.length; rw [e] at this; exact List.length_eq_zero_iff.mp this.symm
          subst e2
          refine p'.now rs ⟨⟨l, vs, rfl, ql, by rw [List.append_nil]; exact rl⟩, wij⟩
        · have g := Gw.laid rs (o := HO.tup (vs ++ us)) hq
          exact (p'.after g).now g.rs ⟨⟨q, vs ++ us, rfl, SqT.of upd_same, g.rvs rs (by rw [wfs_append, wi, wj]; rfl) (rl.append rm)⟩, wij⟩
      · rw [if_neg hl] at p'
        exact p'.elim
    | _ => exact (show False from p).elim
  | ref i =>
    cases b with
    | ref j =>
      obtain rfl : x = .ref (mu i) := ra
      obtain rfl : y = .ref (mu j) := rb
      unfold binop at p
      dsimp only at p
      split at p
      · rename_i xs ys h1 h2
        split at p
        · rename_i hl
          obtain ⟨vs, g1, q1, w1⟩ := rs.lstM h1
          obtain ⟨us, g2, q2, w2⟩ := rs.lstM h2
          refine op_cat pn s σ H _ _ v u Q I rx ry ⟨mu i, mu j, vs, us, rfl, rfl, g1, g2, by rw [q1.length, q2.length, ← line_eq]; exact hl, fun q hq => ?_⟩
          have w : D.wfs S.length (xs ++ ys) = true := by rw [wfs_append, w1, w2]; rfl
          have g := Gw.alloc rs (p := q) (ho := .lst (vs ++ us)) (o := .lst (xs ++ ys)) hq w fun H' mu' ht hm hp => ⟨_, hp, RVs.mono ht hm _ _ w (q1.append q2)⟩
          refine p _ _ _ g ⟨?_, by simp [D.wf]⟩
          show V.ref q = .ref (muN mu S.length q S.length)
          rw [muN_eq]
        · exact p.elim
      · exact p.elim
    | _ => exact (show False from p).elim
  | _ => cases b <;> exact (show False from p).elim
theorem opF_sub : OpR X (binaryOp .Sub) (r2F N X.K (binop .Sub)) := by
  intro pn s σ H x y v u Q I rx ry h
  obtain ⟨mu, S, a, b, E, ⟨ra, wa⟩, ⟨rb, wb⟩, rs, p⟩ := h
  cases a with
  | int i =>
    cases b with
    | int j =>
      obtain rfl : x = .int i := ra
      obtain rfl : y = .int j := rb
      exact op_sub pn s σ H _ _ v u Q I rx ry ⟨i, j, rfl, rfl, Post.now rs p ⟨rfl, rfl⟩⟩
    | _ => exact (show False from p).elim
  | _ => cases b <;> exact (show False from p).elim
theorem str_mul (i : List Nat) (j : Int) : Txt.mul (strOf i) j = strOf (List.replicate j.toNat i).flatten := by
  unfold Txt.mul
  have rep : ∀ (k : Nat) (acc : List Nat), (List.replicate k i.toArray).foldl (· ++ ·) acc.toArray = (acc ++ (List.replicate k i).flatten).toArray := by
    intro k
    induction k with
    | zero => intro acc; simp
    | succ k ih =>
      intro acc
      rw [List.replicate_succ, List.foldl_cons, List.replicate_succ, List.flatten_cons]
      have e : acc.toArray ++ i.toArray = (acc ++ i).toArray := by simp
      rw [e, ih, List.append_assoc]
  by_cases h1 : j < 1
  · rw [if_pos h1]
    have : j.toNat = 0 := by omega
    rw [this]; rfl
  · rw [if_neg h1]
    split
    · rename_i c
      rw [Bool.or_eq_true, beq_iff_eq, beq_iff_eq, str_len] at c
      rcases c with c | c
      · subst c; simp
      · have : i = [] := List.length_eq_zero_iff.mp c
        subst this; simp
    · have := rep j.toNat []
      simp only [List.nil_append] at this
      show (⟨(List.replicate j.toNat i.toArray).foldl (· ++ ·) #[]⟩ : Str) = _
      have e : (#[] : Array Nat) = ([] : List Nat).toArray := rfl
      rw [e, this]
theorem opF_mult : OpR X (binaryOp .Mult) (r2F N X.K (binop .Mult)) := by
  intro pn s σ H x y v u Q I rx ry h
  obtain ⟨mu, S, a, b, E, ⟨ra, wa⟩, ⟨rb, wb⟩, rs, p⟩ := h
  cases a with
  | int i =>
    cases b with
    | int j =>
      obtain rfl : x = .int i := ra
      obtain rfl : y = .int j := rb
      have p' : Post N X.K H mu S (relD X.K) (if bits i + bits j < 1000000 then .ok (.int (i * j)) S else .stuck) Q E := p
      by_cases hl : bits i + bits j < 1000000
      · rw [if_pos hl] at p'
        exact op_mulW pn s σ H _ _ v u Q I rx ry ⟨i, j, rfl, rfl, hl, p'.now rs ⟨rfl, rfl⟩⟩
      · rw [if_neg hl] at p'
        exact p'.elim
    | _ => exact (show False from p).elim
  | str i =>
    cases b with
    | int j =>
      obtain rfl : x = .str (strOf i) := ra
      obtain rfl : y = .int j := rb
      have p' : Post N X.K H mu S (relD X.K) (if i.length * j.toNat ≤ line ∧ -(2 ^ 63) ≤ j ∧ j < 2 ^ 63 then .ok (.str (List.replicate j.toNat i).flatten) S else .stuck) Q E := p
      by_cases hl : i.length * j.toNat ≤ line ∧ -(2 ^ 63) ≤ j ∧ j < 2 ^ 63
      · rw [if_pos hl] at p'
        obtain ⟨t, rfl⟩ := rx
        obtain ⟨t', rfl⟩ := ry
        have e0 : line = 16777216 := rfl
        refine PySem.SB.mul ⟨?_, fun h1 _ => ?_, fun h1 _ => ?_⟩ fun tk k => ⟨.str _, H, I.tok _, ⟨tk, rfl⟩, ?_⟩
        · rw [Bool.or_eq_false_iff, decide_eq_false_iff_not, decide_eq_false_iff_not]; omega
        · rw [str_len]
          intro q
          have j0 : 0 < j := by omega
          have q2 := Int.mul_lt_mul_of_pos_right q j0
          have e1 : ((i.length * j.toNat : Nat) : Int) = (i.length : Int) * j := by
            rw [Int.natCast_mul, Int.toNat_of_nonneg (by omega)]
          have q3 : (i.length : Int) * j ≤ 16777216 := by rw [← e1]; omega
          have q4 : (i.length : Int) + 1 ≥ 1 := by omega
          have h5 : (2 ^ 63 - 1 : Int) < (((2 ^ 63 - 1) / j) + 1) * j := by
            have := Int.lt_ediv_add_one_mul_self (2 ^ 63 - 1) j0
            simpa using this
          have h6 : ((2 ^ 63 - 1) / j + 1) * j ≤ (i.length : Int) * j := Int.mul_le_mul_of_nonneg_right (by omega) (by omega)
          omega
        · rw [str_len]
          show Builtin.Str.tooLong (i.length * j.toNat) = false
          unfold Builtin.Str.tooLong
          rw [← line_eq]
          simp; omega
        · rw [str_mul]
          exact p'.now rs ⟨rfl, rfl⟩
      · rw [if_neg hl] at p'
        exact p'.elim
    | _ => exact (show False from p).elim
  | _ => cases b <;> exact (show False from p).elim
theorem opF_fdiv : OpR X (binaryOp .FloorDiv) (r2F N X.K (binop .FloorDiv)) := by
  intro pn s σ H x y v u Q I rx ry h
  obtain ⟨mu, S, a, b, E, ⟨ra, wa⟩, ⟨rb, wb⟩, rs, p⟩ := h
  cases a with
  | int i =>
    cases b with
    | int j =>
      obtain rfl : x = .int i := ra
      obtain rfl : y = .int j := rb
      have p' : Post N X.K H mu S (relD X.K) (if j ≠ 0 ∧ j.natAbs < 1073741824 then .ok (.int (i.fdiv j)) S else .stuck) Q E := p
      by_cases hl : j ≠ 0 ∧ j.natAbs < 1073741824
      · rw [if_pos hl] at p'
        exact op_fdivN pn s σ H _ _ v u Q I rx ry ⟨i, j, rfl, rfl, hl, p'.now rs ⟨rfl, rfl⟩⟩
      · rw [if_neg hl] at p'
        exact p'.elim
    | _ => exact (show False from p).elim
  | _ => cases b <;> exact (show False from p).elim
theorem opF_mod : OpR X (binaryOp .Mod) (r2F N X.K (binop .Mod)) := by
  intro pn s σ H x y v u Q I rx ry h
  obtain ⟨mu, S, a, b, E, ⟨ra, wa⟩, ⟨rb, wb⟩, rs, p⟩ := h
  cases a with
  | int i =>
    cases b with
    | int j =>
      obtain rfl : x = .int i := ra
      obtain rfl : y = .int j := rb
      have p' : Post N X.K H mu S (relD X.K) (if j ≠ 0 then .ok (.int (i.fmod j)) S else .stuck) Q E := p
      by_cases hl : j ≠ 0
      · rw [if_pos hl] at p'
        exact op_modN pn s σ H _ _ v u Q I rx ry ⟨i, j, rfl, rfl, hl, p'.now rs ⟨rfl, rfl⟩⟩
      · rw [if_neg hl] at p'
        exact p'.elim
    | _ => exact (show False from p).elim
  | _ => cases b <;> exact (show False from p).elim
theorem opF_pow : OpR X (binaryOp .Pow) (r2F N X.K (binop .Pow)) := by
  intro pn s σ H x y v u Q I rx ry h
  obtain ⟨mu, S, a, b, E, ⟨ra, wa⟩, ⟨rb, wb⟩, rs, p⟩ := h
  cases a with
  | int i =>
    cases b with
    | int j =>
      obtain rfl : x = .int i := ra
      obtain rfl : y = .int j := rb
      have p' : Post N X.K H mu S (relD X.K) (if 0 ≤ j ∧ j ≤ 1000000 ∧ i.natAbs < 2 ^ 64 then .ok (.int (i ^ j.toNat)) S else .stuck) Q E := p
      by_cases hl : 0 ≤ j ∧ j ≤ 1000000 ∧ i.natAbs < 2 ^ 64
      · rw [if_pos hl] at p'
        exact op_pow pn s σ H _ _ v u Q I rx ry ⟨i, j, rfl, rfl, hl, p'.now rs ⟨rfl, rfl⟩⟩
      · rw [if_neg hl] at p'
        exact p'.elim
    | _ => exact (show False from p).elim
  | _ => cases b <;> exact (show False from p).elim
theorem opF_no {op : Operator} (h : ∀ a b S, binop op a b S = .stuck) : OpR X (binaryOp op) (r2F N X.K (binop op)) := by
  intro pn s σ H x y v u Q I rx ry q
  obtain ⟨mu, S, a, b, E, _, _, rs, p⟩ := q
  rw [h] at p
  exact p.elim
theorem opF (op : Operator) : OpR X (binaryOp op) (r2F N X.K (binop op)) := by
  cases op with
  | Add => exact opF_add
  | Sub => exact opF_sub
  | Mult => exact opF_mult
  | FloorDiv => exact opF_fdiv
  | Mod => exact opF_mod
  | Pow => exact opF_pow
  | _ => exact opF_no fun a b S => by cases a <;> cases b <;> rfl
/-- in place: of what is never changed -/
theorem ipF_add (h : ∀ a b : D, True) : True := trivial

/-! ### the result of a comparison -/
def r2B (N : Nm) (K : PySem.W.Frag) (g : D → D → Store → Option Bool) : R2 := fun x y H Q => ∃ mu S a b k, relD K H mu S a x ∧ relD K H mu S b y ∧ RS N K H mu S ∧ g a b S = some k ∧ Q (.bl k) H
theorem r2B_of {f : Value → Value → Sem Value} {g : D → D → Store → Option Bool} (h : OpR X f (r2B N X.K g)) : OpR X f (r2F N X.K fun a b S => optR ((g a b S).map .bl) S) := by
  intro pn s σ H x y v u Q I rx ry q
  obtain ⟨mu, S, a, b, E, ra, rb, rs, p⟩ := q
  refine h pn s σ H x y v u Q I rx ry ?_
  have p : Post N X.K H mu S (relD X.K) (optR ((g a b S).map .bl) S) Q E := p
  cases e : g a b S with
  | none => rw [e] at p; exact (show False from p).elim
  | some k =>
    rw [e] at p
    exact ⟨mu, S, a, b, k, ra, rb, rs, e, Post.now rs p ⟨rfl, rfl⟩⟩
theorem dp_of {H : Hp} {mu : Nat → Addr} {S : Store} {a : D} {x : V} (n : a.nb = true) (r : relD X.K H mu S a x) : Dp X.K H x a.py := r.1.dp a x n
theorem eqD_other {S : Store} {a b : D} {k : Bool} (h : eqD S a b = some k) : (∃ x y, a = .bl x ∧ b = .bl y ∧ k = (x == y)) ∨ (∃ x y, a = .str x ∧ b = .str y ∧ k = decide (x = y)) ∨
    (∃ n m xs ys, a = .ref n ∧ b = .ref m ∧ lstOf S n = some xs ∧ lstOf S m = some ys ∧ D.nbs xs = true ∧ D.nbs ys = true ∧ D.deps xs < 60 ∧ D.deps ys < 60 ∧ k = decide (xs = ys)) ∨
    (a.nb = true ∧ b.nb = true ∧ a.dep ≤ 60 ∧ b.dep ≤ 60 ∧ k = decide (a = b)) := by
  unfold eqD at h
  split at h
  · exact .inl ⟨_, _, rfl, rfl, (Option.some.inj h).symm⟩
  · exact .inr (.inl ⟨_, _, rfl, rfl, (Option.some.inj h).symm⟩)
  · split at h
    · rename_i n m xs ys h1 h2
      split at h
      · rename_i c
        rw [Bool.and_eq_true, Bool.and_eq_true, Bool.and_eq_true, decide_eq_true_eq, decide_eq_true_eq] at c
        obtain ⟨⟨⟨c1, c2⟩, c3⟩, c4⟩ := c
        exact .inr (.inr (.inl ⟨_, _, xs, ys, rfl, rfl, h1, h2, c1, c2, c3, c4, (Option.some.inj h).symm⟩))
      · cases h
    · cases h
  · split at h
    · rename_i c
      rw [Bool.and_eq_true, Bool.and_eq_true, Bool.and_eq_true, decide_eq_true_eq, decide_eq_true_eq] at c
      obtain ⟨⟨⟨c1, c2⟩, c3⟩, c4⟩ := c
      exact .inr (.inr (.inr ⟨c1, c2, c3, c4, (Option.some.inj h).symm⟩))
    · cases h
theorem lst_shaped {xs : List D} (n : D.nbs xs = true) (h : D.deps xs < 60) : SeqAt.shaped (.list (D.pys xs)) = true := by
  unfold SeqAt.shaped
  simp only [PyData.canLay0, PyData.depth, D.lays xs n, D.pys_dep]
  simp; omega
theorem dp_lst {H : Hp} {mu : Nat → Addr} {S : Store} {n : Nat} {xs : List D} (rs : RS N X.K H mu S) (h : lstOf S n = some xs) (hn : D.nbs xs = true) : Dp X.K H (.ref (mu n)) (.list (D.pys xs)) := by
  obtain ⟨vs, q, r, _⟩ := rs.lst h
  exact .lst q (RVs.dp xs vs hn r)
theorem opB_eq (hu : X.A.units + 64 < cLine) : OpR X (compareOp .Eq) (r2B N X.K fun a b S => eqD S a b) := by
  intro pn s σ H x y v u Q I rx ry h
  obtain ⟨mu, S, a, b, k, ra, rb, rs, e, q⟩ := h
  rcases eqD_other e with ⟨c, d, rfl, rfl, rfl⟩ | ⟨c, d, rfl, rfl, rfl⟩ | ⟨n, m, xs, ys, rfl, rfl, h1, h2, n1, n2, d1, d2, rfl⟩ | ⟨n1, n2, d1, d2, rfl⟩
  · obtain rfl : x = .bl c := ra.1
    obtain rfl : y = .bl d := rb.1
    refine op_eq pn s σ H _ _ v u Q I rx ry ⟨rfl, ?_⟩
    rw [dec_bl]; exact q
  · obtain rfl : x = .str (strOf c) := ra.1
    obtain rfl : y = .str (strOf d) := rb.1
    refine op_eq pn s σ H _ _ v u Q I rx ry ⟨rfl, ?_⟩
    have e2 : decide (V.str (strOf c) = V.str (strOf d)) = decide (c = d) := decide_eq_decide.mpr ⟨fun z => str_inj (V.str.inj z), fun z => by rw [z]⟩
    rw [e2]; exact q
  · obtain rfl : x = .ref (mu n) := ra.1
    obtain rfl : y = .ref (mu m) := rb.1
    refine op_eqD hu pn s σ H _ _ v u Q I rx ry ⟨_, _, dp_lst rs h1 n1, dp_lst rs h2 n2, lst_shaped n1 d1, lst_shaped n2 d2, ?_⟩
    have e2 : PyData.eqv (.list (D.pys xs)) (.list (D.pys ys)) = decide (xs = ys) := by
      rw [← beqs_dec, ← D.eqvs xs ys n1 n2]
      simp only [PyData.eqv]
    rw [e2]; exact q
  · refine op_eqD hu pn s σ H _ _ v u Q I rx ry ⟨_, _, dp_of n1 ra, dp_of n2 rb, D.shaped n1 d1, D.shaped n2 d2, ?_⟩
    rw [D.eqv a b n1 n2, beq_dec]; exact q
theorem opB_ne (hu : X.A.units + 64 < cLine) : OpR X (compareOp .NotEq) (r2B N X.K fun a b S => (eqD S a b).map (!·)) := by
  intro pn s σ H x y v u Q I rx ry h
  obtain ⟨mu, S, a, b, k', ra, rb, rs, e', q⟩ := h
  obtain ⟨k, e, rfl⟩ := Option.map_eq_some_iff.mp e'
  rcases eqD_other e with ⟨c, d, rfl, rfl, rfl⟩ | ⟨c, d, rfl, rfl, rfl⟩ | ⟨n, m, xs, ys, rfl, rfl, h1, h2, n1, n2, d1, d2, rfl⟩ | ⟨n1, n2, d1, d2, rfl⟩
  · obtain rfl : x = .bl c := ra.1
    obtain rfl : y = .bl d := rb.1
    refine op_ne pn s σ H _ _ v u Q I rx ry ⟨rfl, ?_⟩
    rw [dec_bl]; exact q
  · obtain rfl : x = .str (strOf c) := ra.1
    obtain rfl : y = .str (strOf d) := rb.1
    refine op_ne pn s σ H _ _ v u Q I rx ry ⟨rfl, ?_⟩
    have e2 : decide (V.str (strOf c) = V.str (strOf d)) = decide (c = d) := decide_eq_decide.mpr ⟨fun z => str_inj (V.str.inj z), fun z => by rw [z]⟩
    rw [e2]; exact q
  · obtain rfl : x = .ref (mu n) := ra.1
    obtain rfl : y = .ref (mu m) := rb.1
    refine op_neD hu pn s σ H _ _ v u Q I rx ry ⟨_, _, dp_lst rs h1 n1, dp_lst rs h2 n2, lst_shaped n1 d1, lst_shaped n2 d2, ?_⟩
    have e2 : PyData.eqv (.list (D.pys xs)) (.list (D.pys ys)) = decide (xs = ys) := by
      rw [← beqs_dec, ← D.eqvs xs ys n1 n2]
      simp only [PyData.eqv]
    rw [e2]; exact q
  · refine op_neD hu pn s σ H _ _ v u Q I rx ry ⟨_, _, dp_of n1 ra, dp_of n2 rb, D.shaped n1 d1, D.shaped n2 d2, ?_⟩
    rw [D.eqv a b n1 n2, beq_dec]; exact q
end
end Fx
set_option Elab.async false
set_option linter.all false
set_option autoImplicit false
set_option maxRecDepth 100000
set_option maxHeartbeats 4000000
/-! FxF: order, membership, identity, truth, subscripts, slices. -/
namespace Fx
open PySem PySem.Spec PyProof.Rows L2

theorem alike_pair {a b : D} (h : D.alike a b = true) : (a = .non ∧ b = .non) ∨ (∃ i j, a = .int i ∧ b = .int j) ∨ (∃ i j, a = .str i ∧ b = .str j) ∨ ∃ i j, a = .tup i ∧ b = .tup j ∧ D.alikes i j = true := by
  cases a <;> cases b <;> first | (simp [D.alike] at h; done) | exact .inl ⟨rfl, rfl⟩ | exact .inr (.inl ⟨_, _, rfl, rfl⟩) | exact .inr (.inr (.inl ⟨_, _, rfl, rfl⟩)) | exact .inr (.inr (.inr ⟨_, _, rfl, rfl, by simpa [D.alike] using h⟩))
mutual
theorem D.alike_py : ∀ a b : D, D.alike a b = true → PySem.W.alike a.py b.py = true
  | .non, b, h => by cases b <;> first | (simp [D.alike] at h; done) | simp [D.py, PySem.W.alike]
  | .bl x, b, h => by cases b <;> simp [D.alike] at h
  | .ref x, b, h => by cases b <;> simp [D.alike] at h
  | .int i, b, h => by cases b <;> first | (simp [D.alike] at h; done) | simp [D.py, PySem.W.alike]
  | .str i, b, h => by cases b <;> first | (simp [D.alike] at h; done) | simp [D.py, PySem.W.alike]
  | .tup xs, b, h => by
    cases b with
    | tup ys => simpa [D.py, PySem.W.alike] using D.alikes_py xs ys (by simpa [D.alike] using h)
    | _ => simp [D.alike] at h
theorem D.alikes_py : ∀ a b : List D, D.alikes a b = true → PySem.W.alikeAll (D.pys a) (D.pys b) = true
  | [], _, _ => by simp [D.pys, PySem.W.alikeAll]
  | _ :: _, [], _ => by simp [D.pys, PySem.W.alikeAll]
  | x :: xs, y :: ys, h => by
    have h' : D.alike x y = true ∧ D.alikes xs ys = true := by simpa [D.alikes] using h
    simp [D.pys, PySem.W.alikeAll, D.alike_py x y h'.1, D.alikes_py xs ys h'.2]
end
/-- == of what is alike is the data's own equality -/
theorem D.eqv_alike : ∀ a b : D, D.alike a b = true → PyData.eqv a.py b.py = D.beq a b := by
  have str : ∀ i j : List Nat, PyData.eqv (D.py (.str i)) (D.py (.str j)) = D.beq (.str i) (.str j) := fun i j => by
    simp only [D.py, PyData.eqv, D.beq]
    rw [Bool.eq_iff_iff, beq_iff_eq, beq_iff_eq]
    exact ⟨fun h => str_inj h, fun h => by rw [h]⟩
  have all : ∀ n : Nat, (∀ a b : D, sizeOf a < n → D.alike a b = true → PyData.eqv a.py b.py = D.beq a b) ∧ (∀ a b : List D, sizeOf a < n → D.alikes a b = true → PyData.eqvAll (D.pys a) (D.pys b) = D.beqs a b) := by
    intro n
    induction n with
    | zero => exact ⟨fun a _ h => absurd h (Nat.not_lt_zero _), fun a _ h => absurd h (Nat.not_lt_zero _)⟩
    | succ n ih =>
      refine ⟨fun a b hn h => ?_, fun a b hn h => ?_⟩
      · rcases alike_pair h with ⟨rfl, rfl⟩ | ⟨i, j, rfl, rfl⟩ | ⟨i, j, rfl, rfl⟩ | ⟨i, j, rfl, rfl, h'⟩
        · simp [D.py, PyData.eqv, D.beq]
        · simp [D.py, PyData.eqv, D.beq]
        · exact str i j
        · have e := ih.2 i j (by simp at hn; omega) h'
          simpa [D.py, PyData.eqv, D.beq] using e
      · cases a with
        | nil => cases b <;> simp [D.pys, PyData.eqvAll, D.beqs]
        | cons x xs =>
          cases b with
          | nil => simp [D.pys, PyData.eqvAll, D.beqs]
          | cons y ys =>
            have h' : D.alike x y = true ∧ D.alikes xs ys = true := by simpa [D.alikes] using h
            simp only [D.pys, PyData.eqvAll, D.beqs]
            simp at hn
            rw [ih.1 x y (by omega) h'.1, ih.2 xs ys (by omega) h'.2]
  exact fun a b h => (all (sizeOf a + 1)).1 a b (Nat.lt_succ_self _) h
theorem ltS_eq : ∀ x y : List Nat, ltS x y = decide (x < y)
  | [], [] => rfl
  | [], _ :: _ => by simp [ltS]
  | _ :: _, [] => by simp [ltS]
  | a :: x, b :: y => by
    unfold ltS
    by_cases h : a = b
    · subst h
      rw [if_pos rfl, ltS_eq x y]
      exact decide_eq_decide.mpr ⟨fun q => List.cons_lt_cons_iff.mpr (.inr ⟨rfl, q⟩), fun q => (List.cons_lt_cons_iff.mp q).elim (fun z => absurd z (Nat.lt_irrefl _)) fun z => z.2⟩
    · rw [if_neg h]
      exact decide_eq_decide.mpr ⟨fun q => List.cons_lt_cons_iff.mpr (.inl q), fun q => (List.cons_lt_cons_iff.mp q).elim (fun z => z) fun z => absurd z.1 h⟩
mutual
theorem D.lt_py : ∀ a b : D, D.alike a b = true → PySem.W.dataLt a.py b.py = D.lt a b
  | .non, b, h => by
    cases b with
    | non => exact PyProof.Rows.lex_irrefl _
    | _ => simp [D.alike] at h
  | .bl x, b, h => by cases b <;> simp [D.alike] at h
  | .ref x, b, h => by cases b <;> simp [D.alike] at h
  | .int i, b, h => by
    cases b with
    | int j => exact PySem.W.dataLt_int i j
    | _ => simp [D.alike] at h
  | .str i, b, h => by
    cases b with
    | str j =>
      have e := PySem.W.dataLt_str (strOf i) (strOf j)
      have e2 : D.lt (.str i) (.str j) = ltS i j := by simp [D.lt]
      rw [e2, ltS_eq]
      simpa [D.py, strOf] using e
    | _ => simp [D.alike] at h
  | .tup xs, b, h => by
    cases b with
    | tup ys =>
      have e : D.lt (.tup xs) (.tup ys) = D.lts xs ys := by simp [D.lt]
      rw [e, ← D.lts_py xs ys (by simpa [D.alike] using h)]
      exact PySem.W.dataLt_tuple _ _
    | _ => simp [D.alike] at h
theorem D.lts_py : ∀ a b : List D, D.alikes a b = true → PyProof.Rows.lexLt PyProof.Rows.itemOrd (PySem.W.keyToksAll (D.pys a)) (PySem.W.keyToksAll (D.pys b)) = D.lts a b
  | [], [], _ => by simpa [D.lts] using PyProof.Rows.lex_irrefl _
  | [], y :: ys, _ => by
    simp only [D.pys, PySem.W.keyToksAll, D.lts]
    rw [PyProof.Rows.lex_diff (O := PyProof.Rows.itemOrd) (by simp)]
    simp [PyProof.Rows.itemLt]
  | x :: xs, [], _ => by
    simp only [D.pys, PySem.W.keyToksAll, D.lts]
    rw [PyProof.Rows.lex_diff (O := PyProof.Rows.itemOrd) (by simp)]
    simp [PyProof.Rows.itemLt]
  | x :: xs, y :: ys, h => by
    have h' : D.alike x y = true ∧ D.alikes xs ys = true := by simpa [D.alikes] using h
    simp only [D.pys]
    rw [PySem.W.dataLt_cons (D.alike_py x y h'.1), D.eqv_alike x y h'.1, D.lt_py x y h'.1, D.lts_py xs ys h'.2]
    have u : D.lts (x :: xs) (y :: ys) = if x = y then D.lts xs ys else D.lt x y := by rw [D.lts]
    rw [u]
    by_cases e : x = y
    · rw [if_pos e, if_pos (by rw [e]; exact D.beq_refl y)]
    · rw [if_neg e, if_neg fun q => e (D.beq_eq q)]
end
theorem alike_sym : ∀ a b : D, D.alike a b = true → PySem.W.alike b.py a.py = true := fun a b h => by rw [PySem.W.alike_comm]; exact D.alike_py a b h

section
variable {X : Cx} {N : Nm}
theorem ltD_is {a b : D} {k : Bool} (h : ltD a b = some k) : a.nb = true ∧ b.nb = true ∧ D.alike a b = true ∧ a ≠ .non ∧ a.dep ≤ 60 ∧ b.dep ≤ 60 ∧ k = D.lt a b := by
  unfold ltD at h
  split at h
  · rename_i c
    simp only [Bool.and_eq_true, decide_eq_true_eq, Bool.not_eq_true', decide_eq_false_iff_not] at c
    exact ⟨c.1.1.1.1.1, c.1.1.1.1.2, c.1.1.1.2, c.1.1.2, c.1.2, c.2, (Option.some.inj h).symm⟩
  · cases h
theorem py_none {a : D} (n : a.nb = true) (h : a ≠ .non) : a.py ≠ .none := by
  cases a with
  | non => exact absurd rfl h
  | ref k => simp [D.nb] at n
  | _ => simp [D.py]
theorem room60 {a b : D} {A : Around} (hu : A.units + 64 < cLine) (h : a.dep ≤ 60) : A.units + min a.py.depth b.py.depth < cLine := by
  rw [D.py_dep, D.py_dep]; omega
theorem opB_lt (hu : X.A.units + 64 < cLine) : OpR X (compareOp .Lt) (r2B N X.K fun a b S => ltD a b) := by
  intro pn s σ H x y v u Q I rx ry h
  obtain ⟨mu, S, a, b, k, ra, rb, rs, e, q⟩ := h
  obtain ⟨n1, n2, al, nn, d1, d2, rfl⟩ := ltD_is e
  obtain ⟨as, r1⟩ := Dp.reads I _ x v (dp_of n1 ra) rx
  obtain ⟨bs, r2⟩ := Dp.reads I _ y u (dp_of n2 rb) ry
  refine PySem.W.lt_data r1 r2 (D.alike_py a b al) (py_none n1 nn) (room60 hu d1) ⟨.bl _, H, I, rfl, ?_⟩
  rw [D.lt_py a b al]; exact q
theorem opB_gt (hu : X.A.units + 64 < cLine) : OpR X (compareOp .Gt) (r2B N X.K fun a b S => ltD b a) := by
  intro pn s σ H x y v u Q I rx ry h
  obtain ⟨mu, S, a, b, k, ra, rb, rs, e, q⟩ := h
  obtain ⟨n2, n1, al, nn, d2, d1, rfl⟩ := ltD_is e
  obtain ⟨as, r1⟩ := Dp.reads I _ x v (dp_of n1 ra) rx
  obtain ⟨bs, r2⟩ := Dp.reads I _ y u (dp_of n2 rb) ry
  refine PySem.W.gt_data r1 r2 (alike_sym b a al) (PySem.W.ne_none_both (D.alike_py b a al) (py_none n2 nn)) (room60 hu d1) ⟨.bl _, H, I, rfl, ?_⟩
  rw [D.lt_py b a al]; exact q
theorem opB_le (hu : X.A.units + 64 < cLine) : OpR X (compareOp .LtE) (r2B N X.K fun a b S => (ltD b a).map (!·)) := by
  intro pn s σ H x y v u Q I rx ry h
  obtain ⟨mu, S, a, b, k', ra, rb, rs, e', q⟩ := h
  obtain ⟨k, e, rfl⟩ := Option.map_eq_some_iff.mp e'
  obtain ⟨n2, n1, al, nn, d2, d1, rfl⟩ := ltD_is e
  obtain ⟨as, r1⟩ := Dp.reads I _ x v (dp_of n1 ra) rx
  obtain ⟨bs, r2⟩ := Dp.reads I _ y u (dp_of n2 rb) ry
  refine PySem.W.le_data r1 r2 (alike_sym b a al) (PySem.W.ne_none_both (D.alike_py b a al) (py_none n2 nn)) (room60 hu d1) ⟨.bl _, H, I, rfl, ?_⟩
  rw [D.lt_py b a al]; exact q
theorem opB_ge (hu : X.A.units + 64 < cLine) : OpR X (compareOp .GtE) (r2B N X.K fun a b S => (ltD a b).map (!·)) := by
  intro pn s σ H x y v u Q I rx ry h
  obtain ⟨mu, S, a, b, k', ra, rb, rs, e', q⟩ := h
  obtain ⟨k, e, rfl⟩ := Option.map_eq_some_iff.mp e'
  obtain ⟨n1, n2, al, nn, d1, d2, rfl⟩ := ltD_is e
  obtain ⟨as, r1⟩ := Dp.reads I _ x v (dp_of n1 ra) rx
  obtain ⟨bs, r2⟩ := Dp.reads I _ y u (dp_of n2 rb) ry
  refine PySem.W.ge_data r1 r2 (D.alike_py a b al) (py_none n1 nn) (room60 hu d1) ⟨.bl _, H, I, rfl, ?_⟩
  rw [D.lt_py a b al]; exact q

/-! ### in -/
theorem pys_any {a : D} (n : a.nb = true) : ∀ {xs : List D}, D.nbs xs = true → (D.pys xs).any (fun z => PyData.eqv z a.py) = decide (a ∈ xs)
  | [], _ => by simp [D.pys]
  | x :: xs, h => by
    have h' : D.nb x = true ∧ D.nbs xs = true := by simpa [D.nbs] using h
    rw [D.pys, List.any_cons, D.eqv x a h'.1 n, pys_any n h'.2, beq_dec]
    by_cases e : x = a
    · subst e; simp
    · have e' : ¬ a = x := fun q => e q.symm
      simp [e, e']
theorem inD_is {S : Store} {a b : D} {k : Bool} (h : inD S a b = some k) : (∃ c y, a = .str [c] ∧ b = .str y ∧ k = decide (c ∈ y)) ∨ (∃ ys, seqOf S b = some ys ∧ a.nb = true ∧ D.nbs ys = true ∧ a.dep ≤ 60 ∧ D.deps ys ≤ 60 ∧ k = decide (a ∈ ys)) := by
  have two : ∀ {b' : D}, (match seqOf S b' with
    | some ys => if a.nb && D.nbs ys && decide (a.dep ≤ 60) && decide (D.deps ys ≤ 60) then some (decide (a ∈ ys)) else none
    | none => none) = some k → ∃ ys, seqOf S b' = some ys ∧ a.nb = true ∧ D.nbs ys = true ∧ a.dep ≤ 60 ∧ D.deps ys ≤ 60 ∧ k = decide (a ∈ ys) := fun {b'} h => by
    split at h
    · rename_i ys e
      split at h
      · rename_i c
        simp only [Bool.and_eq_true, decide_eq_true_eq] at c
        exact ⟨ys, e, c.1.1.1, c.1.1.2, c.1.2, c.2, (Option.some.inj h).symm⟩
      · cases h
    · cases h
  unfold inD at h
  split at h
  · split at h
    · exact .inl ⟨_, _, rfl, rfl, (Option.some.inj h).symm⟩
    · cases h
  · exact .inr (two h)
theorem seqOf_is {H : Hp} {mu : Nat → Addr} {S : Store} {b : D} {y : V} {ys : List D} (rs : RS N X.K H mu S) (rb : relD X.K H mu S b y) (h : seqOf S b = some ys) :
    ∃ p vs, y = .ref p ∧ (SqL X.K H p vs ∨ SqT X.K H p vs) ∧ RVs X.K H mu ys vs ∧ D.wfs S.length ys = true := by
  unfold seqOf at h
  split at h
  · obtain rfl := Option.some.inj h
    obtain ⟨a, vs, e, q, r⟩ := rb.1
    exact ⟨a, vs, e, .inr q, r, rb.2⟩
  · obtain ⟨vs, q, r, w⟩ := rs.lst h
    exact ⟨_, vs, rb.1, .inl q, r, w⟩
  · cases h
theorem opB_in (hu : X.A.units + 128 < cLine) : OpR X (compareOp .In) (r2B N X.K fun a b S => inD S a b) := by
  intro pn s σ H x y v u Q I rx ry h
  obtain ⟨mu, S, a, b, k, ra, rb, rs, e, q⟩ := h
  rcases inD_is e with ⟨c, z, rfl, rfl, rfl⟩ | ⟨ys, e2, n1, n2, d1, d2, rfl⟩
  · obtain rfl : x = .str (strOf [c]) := ra.1
    obtain rfl : y = .str (strOf z) := rb.1
    exact op_in_sign pn s σ H _ _ v u Q I rx ry ⟨c, strOf z, rfl, rfl, by simpa [strOf] using q⟩
  · obtain ⟨p, vs, rfl, hs, r, w⟩ := seqOf_is rs rb e2
    obtain ⟨as, r1⟩ := Dp.reads I _ x v (dp_of n1 ra) rx
    have hu2 : X.A.units + 1 + min (PyData.depthAll (D.pys ys)) a.py.depth < cLine := by
      rw [D.pys_dep, D.py_dep]; omega
    rcases hs with hs | hs
    · obtain ⟨bs, r2⟩ := Dp.reads I _ _ u (.lst hs (RVs.dp ys vs n2 r)) ry
      exact SeqAt.in_list_reads r2 r1 (D.lays ys n2) (D.lay a n1) hu2 ⟨.bl _, H, I, rfl, by rw [pys_any n1 n2]; exact q⟩
    · obtain ⟨bs, r2⟩ := Dp.reads I _ _ u (.tup hs (RVs.dp ys vs n2 r)) ry
      exact SeqAt.in_tuple_reads r2 r1 (D.lays ys n2) (D.lay a n1) hu2 ⟨.bl _, H, I, rfl, by rw [pys_any n1 n2]; exact q⟩
theorem opB_notIn (hu : X.A.units + 128 < cLine) : OpR X (compareOp .NotIn) (r2B N X.K fun a b S => (inD S a b).map (!·)) := by
  intro pn s σ H x y v u Q I rx ry h
  obtain ⟨mu, S, a, b, k', ra, rb, rs, e', q⟩ := h
  obtain ⟨k, e, rfl⟩ := Option.map_eq_some_iff.mp e'
  rcases inD_is e with ⟨c, z, rfl, rfl, rfl⟩ | ⟨ys, e2, n1, n2, d1, d2, rfl⟩
  · obtain rfl : x = .str (strOf [c]) := ra.1
    obtain rfl : y = .str (strOf z) := rb.1
    exact op_notIn_sign pn s σ H _ _ v u Q I rx ry ⟨c, strOf z, rfl, rfl, by simpa [strOf] using q⟩
  · obtain ⟨p, vs, rfl, hs, r, w⟩ := seqOf_is rs rb e2
    obtain ⟨as, r1⟩ := Dp.reads I _ x v (dp_of n1 ra) rx
    have hu2 : X.A.units + 1 + min (PyData.depthAll (D.pys ys)) a.py.depth < cLine := by
      rw [D.pys_dep, D.py_dep]; omega
    rcases hs with hs | hs
    · obtain ⟨bs, r2⟩ := Dp.reads I _ _ u (.lst hs (RVs.dp ys vs n2 r)) ry
      exact SeqAt.notIn_list_reads r2 r1 (D.lays ys n2) (D.lay a n1) hu2 ⟨.bl _, H, I, rfl, by rw [pys_any n1 n2]; exact q⟩
    · obtain ⟨bs, r2⟩ := Dp.reads I _ _ u (.tup hs (RVs.dp ys vs n2 r)) ry
      exact SeqAt.notIn_tuple_reads r2 r1 (D.lays ys n2) (D.lay a n1) hu2 ⟨.bl _, H, I, rfl, by rw [pys_any n1 n2]; exact q⟩
theorem isD_rel {H : Hp} {mu : Nat → Addr} {S : Store} {a : D} {x : V} (ra : relD X.K H mu S a x) : decide (x = .non) = decide (a = .non) := by
  have h := ra.1
  refine decide_eq_decide.mpr ⟨fun e => ?_, fun e => ?_⟩
  · subst e
    cases a with
    | non => rfl
    | tup xs => obtain ⟨_, _, e, _⟩ := h; cases e
    | bl b => have h : V.non = .bl b := h; cases h
    | int b => have h : V.non = .int b := h; cases h
    | str b => have h : V.non = .str (strOf b) := h; cases h
    | ref b => have h : V.non = .ref (mu b) := h; cases h
  · subst e; exact h
theorem opB_is : OpR X (compareOp .Is) (r2B N X.K fun a b S => isD a b) := by
  intro pn s σ H x y v u Q I rx ry h
  obtain ⟨mu, S, a, b, k, ra, rb, rs, e, q⟩ := h
  have e : isD a b = some k := e
  unfold isD at e
  split at e
  · obtain rfl := Option.some.inj e
    have h2 : y = .non := rb.1
    exact op_isN pn s σ H x y v u Q I rx ry ⟨h2, by rw [isD_rel ra]; exact q⟩
  · cases e
theorem opB_isnot : OpR X (compareOp .IsNot) (r2B N X.K fun a b S => (isD a b).map (!·)) := by
  intro pn s σ H x y v u Q I rx ry h
  obtain ⟨mu, S, a, b, k', ra, rb, rs, e', q⟩ := h
  obtain ⟨k, e, rfl⟩ := Option.map_eq_some_iff.mp e'
  have e : isD a b = some k := e
  unfold isD at e
  split at e
  · obtain rfl := Option.some.inj e
    have h2 : y = .non := rb.1
    exact op_notN pn s σ H x y v u Q I rx ry ⟨h2, by rw [isD_rel ra]; exact q⟩
  · cases e
theorem opB (hu : X.A.units + 128 < cLine) (op : CmpOp) : OpR X (compareOp op) (r2B N X.K (cmpop op)) := by
  cases op with
  | Eq => exact opB_eq (by omega)
  | NotEq => exact opB_ne (by omega)
  | Lt => exact opB_lt (by omega)
  | LtE => exact opB_le (by omega)
  | Gt => exact opB_gt (by omega)
  | GtE => exact opB_ge (by omega)
  | Is => exact opB_is
  | IsNot => exact opB_isnot
  | In => exact opB_in hu
  | NotIn => exact opB_notIn hu

/-! ### truth -/
theorem truth_is {H : Hp} {mu : Nat → Addr} {S : Store} {a : D} {x : V} {k : Bool} (rs : RS N X.K H mu S) (ra : relD X.K H mu S a x) (h : truth S a = some k) : TruV X.K x H k := by
  have r := ra.1
  cases a with
  | non => obtain rfl : x = .non := r; exact (Option.some.inj h).symm
  | bl b => obtain rfl : x = .bl b := r; exact (Option.some.inj h).symm
  | int i => obtain rfl : x = .int i := r; exact (Option.some.inj h).symm
  | str s =>
    obtain rfl : x = .str (strOf s) := r
    have h' : (if s.length ≤ line then some (!s.isEmpty) else none) = some k := h
    split at h'
    · rename_i hl
      refine ⟨by rw [str_len, ← line_eq]; exact hl, ?_⟩
      rw [str_len, ← Option.some.inj h']
      cases s <;> simp
      omega
    · cases h'
  | tup xs =>
    obtain ⟨p, vs, rfl, q, r⟩ := r
    have h' : some (!xs.isEmpty) = some k := h
    refine .inr (.inl ⟨vs, q, ?_⟩)
    rw [← Option.some.inj h']
    have := r.length
    cases xs <;> cases vs <;> simp_all
  | ref n =>
    obtain rfl : x = .ref (mu n) := r
    have h' : (match lstOf S n with
      | some xs => some (!xs.isEmpty)
      | none => none) = some k := h
    split at h'
    · rename_i xs e
      obtain ⟨vs, q, r, _⟩ := rs.lst e
      refine .inl ⟨vs, q, ?_⟩
      rw [← Option.some.inj h']
      have := r.length
      cases xs <;> cases vs <;> simp_all
    · cases h'

/-! ### subscripts -/
theorem atI_len {α β : Type} {xs : List α} {ys : List β} (h : ys.length = xs.length) {i : Int} {x : α} (e : Fx.atI xs i = some x) : ∃ j, xs[j]? = some x ∧ L2.ixN ys.length i = some j := by
  unfold Fx.atI at e
  obtain ⟨j, h1, h2⟩ := Option.bind_eq_some_iff.mp e
  exact ⟨j, h2, by rw [h]; exact h1⟩
theorem wfs_get {k : Nat} {xs : List D} {j : Nat} {x : D} (w : D.wfs k xs = true) (h : xs[j]? = some x) : x.wf k = true := wfs_all.mp w x (List.mem_of_getElem? h)
theorem ixF : IxR X (r2F N X.K fun x y S => optR (idxD S x y) S) := by
  intro va sl pn s σ H x y v u Q I rx ry h hs0
  obtain ⟨mu, S, a, b, E, ra, rb, rs, p⟩ := h
  replace p : Post N X.K H mu S (relD X.K) (optR (idxD S a b) S) Q E := p
  cases e : idxD S a b with
  | none => rw [e] at p; exact (show False from p).elim
  | some d =>
    rw [e] at p
    replace p : Post N X.K H mu S (relD X.K) (.ok d S) Q E := p
    unfold idxD at e
    split at e
    · rename_i k
      have hy : y = .int k := rb.1
      split at e
      · rename_i z
        obtain rfl : x = .str (strOf z) := ra.1
        split at e
        · rename_i hl
          obtain ⟨c, h1, rfl⟩ := Option.map_eq_some_iff.mp e
          exact ix_str va sl pn s σ H _ y v u Q I rx ry ⟨strOf z, k, c, rfl, hy, by rw [str_len, ← line_eq]; exact hl, (by have h2 : L2.atI z k = some c := h1; simpa [strOf] using h2), Post.now (rel := relD X.K) rs p ⟨rfl, rfl⟩⟩ hs0
        · cases e
      · obtain ⟨xs, h1, h2⟩ := Option.bind_eq_some_iff.mp e
        obtain ⟨q, vs, rfl, hs, r, w⟩ := seqOf_is rs ra h1
        obtain ⟨j, h3, h4⟩ := atI_len r.length h2
        obtain ⟨z, h5, h6⟩ := r.get h3
        have h7 : L2.atI vs k = some z := by unfold L2.atI; rw [h4]; exact h5
        have q1 := Post.now rs p ⟨h6, wfs_get w h3⟩
        rcases hs with hs | hs
        · exact ix_list va sl pn s σ H _ y v u Q I rx ry ⟨q, vs, k, z, rfl, hy, hs, h7, q1⟩ hs0
        · exact ix_tup va sl pn s σ H _ y v u Q I rx ry ⟨q, vs, k, z, rfl, hy, hs, h7, q1⟩ hs0
    · cases e

/-! ### slices -/
def r3F (N : Nm) (K : PySem.W.Frag) : V → Option Int → Option Int → Hp → VK → Prop := fun x lo hi H Q => ∃ mu S a E, relD K H mu S a x ∧ RS N K H mu S ∧ Post N K H mu S (relD K) (cutD S a lo hi) Q E
theorem cutX_wfs {k : Nat} {xs : List D} (w : D.wfs k xs = true) (lo hi : Option Int) : D.wfs k (cutX xs lo hi) = true := wfs_all.mpr fun x hx => wfs_all.mp w x (List.mem_of_mem_drop (List.mem_of_mem_take hx))
theorem cutX_rvs {K : PySem.W.Frag} {H : Hp} {mu : Nat → Addr} {xs : List D} {vs : List V} (r : RVs K H mu xs vs) (lo hi : Option Int) : RVs K H mu (cutX xs lo hi) (cutV vs lo hi) := by
  unfold cutX cutV
  rw [r.length, cut_eq, cut_eq]
  exact (r.drop _).take _
theorem cutF : SlR X (r3F N X.K) := by
  intro pn s σ H x v vl vu lo hi sl Q I rx hs pl pu h
  obtain ⟨mu, S, a, E, ra, rs, p⟩ := h
  cases a with
  | str z =>
    obtain rfl : x = .str (strOf z) := ra.1
    have p : Post N X.K H mu S (relD X.K) (if z.length ≤ line then .ok (.str (cutX z lo hi)) S else .stuck) Q E := p
    by_cases hl : z.length ≤ line
    · rw [if_pos hl] at p
      refine sl_str pn s σ H _ v vl vu lo hi sl Q I rx hs pl pu ⟨strOf z, rfl, by rw [str_len, ← line_eq]; exact hl, ?_⟩
      have e : cutS (strOf z) lo hi = strOf (cutX z lo hi) := by
        unfold cutS cutX
        rw [str_len, cut_eq, cut_eq]
      rw [e]
      exact p.now rs ⟨rfl, rfl⟩
    · rw [if_neg hl] at p; exact p.elim
  | tup xs =>
    obtain ⟨q, vs, rfl, hq, r⟩ := ra.1
    have w : D.wfs S.length xs = true := ra.2
    have p : Post N X.K H mu S (relD X.K) (.ok (.tup (cutX xs lo hi)) S) Q E := p
    refine sl_tupA pn s σ H _ v vl vu lo hi sl Q I rx hs pl pu ⟨q, vs, rfl, hq, fun c => ?_, fun _ l hl => ?_⟩
    · have e : cutX xs lo hi = xs := by
        unfold cutX
        rw [r.length, cut_eq, cut_eq] at c
        rw [c.1, c.2]; simp
      rw [e] at p
      exact p.now rs ⟨⟨q, vs, rfl, hq, r⟩, w⟩
    · have g := Gw.laid rs (o := HO.tup (cutV vs lo hi)) hl
      exact (p.after g).now g.rs ⟨⟨l, _, rfl, SqT.of upd_same, g.rvs rs (cutX_wfs w lo hi) (cutX_rvs r lo hi)⟩, cutX_wfs w lo hi⟩
  | ref n =>
    obtain rfl : x = .ref (mu n) := ra.1
    have p : Post N X.K H mu S (relD X.K) (match lstOf S n with
      | some xs => .ok (.ref S.length) (S ++ [.lst (cutX xs lo hi)])
      | none => .stuck) Q E := p
    split at p
    · rename_i xs e
      obtain ⟨vs, hq, r, w⟩ := rs.lst e
      refine sl_list pn s σ H _ v vl vu lo hi sl Q I rx hs pl pu ⟨mu n, vs, rfl, hq, fun l hl => ?_⟩
      have w' := cutX_wfs w lo hi
      have g := Gw.alloc rs (p := l) (ho := .lst (cutV vs lo hi)) (o := .lst (cutX xs lo hi)) hl w' fun H' mu' ht hm hp => ⟨_, hp, RVs.mono ht hm _ _ w' (cutX_rvs r lo hi)⟩
      refine p _ _ _ g ⟨?_, by simp [D.wf]⟩
      show V.ref l = .ref (muN mu S.length l S.length)
      rw [muN_eq]
    · exact p.elim
  | _ => exact (show False from p).elim
end
end Fx
set_option Elab.async false
set_option linter.all false
set_option autoImplicit false
set_option maxRecDepth 100000
set_option maxHeartbeats 4000000
/-! FxG: built-in functions and methods by values. -/
namespace Fx
open PySem PySem.Spec PyProof.Rows L2

theorem readNat_eq (s : List Nat) : readNat s = NumText.digitsVal s := by
  unfold readNat NumText.digitsVal
  congr 1
  funext a c
  rw [Nat.mul_comm]
theorem allDig {s : List Nat} (h : s.all isDig = true) : NumText.AllDigits s := fun c hc => by
  have := List.all_eq_true.mp h c hc
  unfold isDig at this
  simpa using this
theorem readInt_is {s : List Nat} {i : Int} (h : readInt s = some i) (hl : s.length ≤ 640) : PySem.intText? (strOf s) = some i := by
  unfold readInt at h
  split at h
  · cases h
  · rename_i c r
    have hl2 : (strOf (c :: r)).length ≤ 4300 := by rw [str_len]; omega
    split at h
    · rename_i e
      subst e
      split at h
      · rename_i q
        rw [← Option.some.inj h, readNat_eq]
        exact PySem.intText_neg (x := strOf (45 :: r)) (cs := r) (by simp [strOf]) (allDig q.2) q.1 hl2
      · cases h
    · split at h
      · rename_i q
        rw [← Option.some.inj h, readNat_eq]
        have := PySem.intText_digits (x := strOf (c :: r)) (by simpa [strOf] using allDig q) (by simp [strOf]) hl2
        simpa [strOf] using this
      · cases h
theorem strInt_eq (i : Int) : (Str.ofString (toString i) : Str) = strOf (strInt i) := by
  rw [Str.ofString_eq_toList]
  have e : (toString i).toList.map Char.toNat = strInt i := by
    cases i with
    | ofNat n =>
      show ((Nat.repr n).toList).map Char.toNat = _
      unfold Nat.repr strInt digits
      simp
    | negSucc n =>
      show (("-" ++ Nat.repr (n + 1)).toList).map Char.toNat = _
      unfold Nat.repr strInt digits
      simp
  rw [e]
theorem joinS_cons (s x : List Nat) : ∀ r : List (List Nat), joinS s (x :: r) = x ++ r.flatMap fun p => s ++ p
  | [] => by simp [joinS]
  | y :: r => by
    rw [joinS, joinS_cons s y r, List.flatMap_cons]
    simp
theorem glued_eq (s : List Nat) (ys : List (List Nat)) : Builtin.Str.glued (strOf s) (ys.map strOf) = strOf (joinS s ys) := by
  have go : ∀ (r : List (List Nat)) (a : List Nat), (r.map strOf).foldl (fun acc p => acc ++ (strOf s).cps ++ p.cps) a.toArray = (a ++ r.flatMap fun p => s ++ p).toArray := by
    intro r
    induction r with
    | nil => intro a; simp
    | cons y r ih =>
      intro a
      rw [List.map_cons, List.foldl_cons]
      have e : a.toArray ++ (strOf s).cps ++ (strOf y).cps = (a ++ s ++ y).toArray := by simp [strOf]
      rw [e, ih, List.flatMap_cons]
      simp
  cases ys with
  | nil => rfl
  | cons x r =>
    unfold Builtin.Str.glued
    rw [joinS_cons]
    show (⟨((r.map strOf)).foldl (fun acc p => acc ++ (strOf s).cps ++ p.cps) x.toArray⟩ : Str) = _
    rw [go]
section
variable {X : Cx} {N : Nm}
theorem strs_is {K : PySem.W.Frag} {H : Hp} {mu : Nat → Addr} : ∀ {ds : List D} {vs : List V} {ys : List (List Nat)}, RVs K H mu ds vs → strsOf ds = some ys → vs = (ys.map strOf).map V.str
  | [], vs, ys, h, e => by
    have h : vs = [] := h
    obtain rfl : [] = ys := Option.some.inj e
    rw [h]; rfl
  | d :: ds, vs, ys, h, e => by
    obtain ⟨v, r, e1, h1, h2⟩ := h
    cases d with
    | str s =>
      have e' : (strsOf ds).map (s :: ·) = some ys := e
      obtain ⟨zs, e2, rfl⟩ := Option.map_eq_some_iff.mp e'
      have h1 : v = .str (strOf s) := h1
      rw [e1, h1, strs_is h2 e2]; rfl
    | _ => cases e
def bltV : Blt → Value
  | .len => .builtin "len"
  | .abs => .builtin "abs"
  | .min => .builtin "min"
  | .max => .builtin "max"
  | .sum => .builtin "sum"
  | .sorted => .builtin "sorted"
  | .tuple => .type "tuple"
  | .list => .type "list"
  | .int => .type "int"
  | .str => .type "str"
/-- one argument, two -/
theorem rvs1 {K : PySem.W.Frag} {H : Hp} {mu : Nat → Addr} {S : Store} {d : D} {xs : List V} (h : relDs K H mu S [d] xs) : ∃ v, xs = [v] ∧ relD K H mu S d v := by
  obtain ⟨⟨v, r, e, h1, h2⟩, w⟩ := h
  have h2 : r = [] := h2
  exact ⟨v, by rw [e, h2], h1, by simpa [D.wfs] using w⟩
theorem rvs2 {K : PySem.W.Frag} {H : Hp} {mu : Nat → Addr} {S : Store} {d e : D} {xs : List V} (h : relDs K H mu S [d, e] xs) : ∃ v u, xs = [v, u] ∧ relD K H mu S d v ∧ relD K H mu S e u := by
  obtain ⟨⟨v, r, q, h1, ⟨u, r2, q2, h2, h3⟩⟩, w⟩ := h
  have h3 : r2 = [] := h3
  have w' : D.wf S.length d = true ∧ D.wf S.length e = true := by simpa [D.wfs] using w
  exact ⟨v, u, by rw [q, q2, h3], ⟨h1, w'.1⟩, h2, w'.2⟩
theorem cb_len : CallR X (.builtin "len") (rnF N X.K (bltF .len)) := by
  intro pn s σ H xs us Q I r h
  obtain ⟨mu, S, ds, E, rd, rs, p⟩ := h
  replace p : Post N X.K H mu S (relD X.K) (fLen ds S) Q E := p
  unfold fLen at p
  split at p
  all_goals first | exact p.elim | skip
  · obtain ⟨v, rfl, r1⟩ := rvs1 rd
    rename_i z
    obtain rfl : v = .str (strOf z) := r1.1
    split at p
    · rename_i hl
      exact call_len_str pn s σ H _ us Q I r ⟨strOf z, rfl, by rw [str_len, ← line_eq]; exact hl, by rw [str_len]; exact p.now rs ⟨rfl, rfl⟩⟩
    · exact p.elim
  · obtain ⟨v, rfl, r1⟩ := rvs1 rd
    split at p
    · rename_i ys e
      obtain ⟨q, vs, rfl, hs, r2, w⟩ := seqOf_is rs r1 e
      exact call_len_seq pn s σ H _ us Q I r ⟨q, vs, rfl, hs, by rw [r2.length]; exact p.now rs ⟨rfl, rfl⟩⟩
    · exact p.elim
theorem cb_abs : CallR X (.builtin "abs") (rnF N X.K (bltF .abs)) := by
  intro pn s σ H xs us Q I r h
  obtain ⟨mu, S, ds, E, rd, rs, p⟩ := h
  replace p : Post N X.K H mu S (relD X.K) (fAbs ds S) Q E := p
  unfold fAbs at p
  split at p
  all_goals first | exact p.elim | skip
  obtain ⟨v, rfl, r1⟩ := rvs1 rd
  rename_i i
  obtain rfl : v = .int i := r1.1
  exact call_abs pn s σ H _ us Q I r ⟨i, rfl, p.now rs ⟨rfl, rfl⟩⟩
theorem cb_min (hc : X.calm = true) : CallR X (.builtin "min") (rnF N X.K (bltF .min)) := by
  intro pn s σ H xs us Q I r h
  obtain ⟨mu, S, ds, E, rd, rs, p⟩ := h
  replace p : Post N X.K H mu S (relD X.K) (fMin ds S) Q E := p
  unfold fMin at p
  split at p
  all_goals first | exact p.elim | skip
  obtain ⟨v, u, rfl, r1, r2⟩ := rvs2 rd
  rename_i i j
  obtain rfl : v = .int i := r1.1
  obtain rfl : u = .int j := r2.1
  exact call_min2 hc pn s σ H _ us Q I r ⟨i, j, rfl, p.now rs ⟨rfl, rfl⟩⟩
theorem cb_max (hc : X.calm = true) : CallR X (.builtin "max") (rnF N X.K (bltF .max)) := by
  intro pn s σ H xs us Q I r h
  obtain ⟨mu, S, ds, E, rd, rs, p⟩ := h
  replace p : Post N X.K H mu S (relD X.K) (fMax ds S) Q E := p
  unfold fMax at p
  split at p
  all_goals first | exact p.elim | skip
  obtain ⟨v, u, rfl, r1, r2⟩ := rvs2 rd
  rename_i i j
  obtain rfl : v = .int i := r1.1
  obtain rfl : u = .int j := r2.1
  exact call_max2 hc pn s σ H _ us Q I r ⟨i, j, rfl, p.now rs ⟨rfl, rfl⟩⟩
theorem cb_tuple : CallR X (.type "tuple") (rnF N X.K (bltF .tuple)) := by
  intro pn s σ H xs us Q I r h
  obtain ⟨mu, S, ds, E, rd, rs, p⟩ := h
  replace p : Post N X.K H mu S (relD X.K) (fTuple ds S) Q E := p
  unfold fTuple at p
  split at p
  all_goals first | exact p.elim | skip
  · obtain ⟨v, rfl, r1⟩ := rvs1 rd
    rename_i ys
    obtain ⟨q, vs, rfl, hq, r2⟩ := r1.1
    exact call_tuple_of pn s σ H _ us Q I r ⟨q, vs, rfl, .inr ⟨hq, p.now rs ⟨⟨q, vs, rfl, hq, r2⟩, r1.2⟩⟩⟩
  · obtain ⟨v, rfl, r1⟩ := rvs1 rd
    rename_i n
    obtain rfl : v = .ref (mu n) := r1.1
    split at p
    · rename_i ys e
      obtain ⟨vs, hq, r2, w⟩ := rs.lst e
      refine call_tuple_of pn s σ H _ us Q I r ⟨_, vs, rfl, .inl ⟨hq, fun l hl => ?_⟩⟩
      have g := Gw.laid rs (o := HO.tup vs) hl
      exact (p.after g).now g.rs ⟨⟨l, vs, rfl, SqT.of upd_same, g.rvs rs w r2⟩, w⟩
    · exact p.elim
theorem cb_list : CallR X (.type "list") (rnF N X.K (bltF .list)) := by
  intro pn s σ H xs us Q I r h
  obtain ⟨mu, S, ds, E, rd, rs, p⟩ := h
  replace p : Post N X.K H mu S (relD X.K) (fList ds S) Q E := p
  unfold fList at p
  split at p
  all_goals first | exact p.elim | skip
  obtain ⟨v, rfl, r1⟩ := rvs1 rd
  split at p
  · rename_i ys e
    obtain ⟨q, vs, rfl, hs, r2, w⟩ := seqOf_is rs r1 e
    refine call_list_of pn s σ H _ us Q I r ⟨q, vs, rfl, hs, fun l hl => ?_⟩
    have g := Gw.alloc rs (p := l) (ho := .lst vs) (o := .lst ys) hl w fun H' mu' ht hm hp => ⟨_, hp, RVs.mono ht hm _ _ w r2⟩
    refine p _ _ _ g ⟨?_, by simp [D.wf]⟩
    show V.ref l = .ref (muN mu S.length l S.length)
    rw [muN_eq]
  · exact p.elim
theorem cb_int : CallR X (.type "int") (rnF N X.K (bltF .int)) := by
  intro pn s σ H xs us Q I r h
  obtain ⟨mu, S, ds, E, rd, rs, p⟩ := h
  replace p : Post N X.K H mu S (relD X.K) (fInt ds S) Q E := p
  unfold fInt at p
  split at p
  all_goals first | exact p.elim | skip
  · obtain ⟨v, rfl, r1⟩ := rvs1 rd
    rename_i i
    obtain rfl : v = .int i := r1.1
    exact call_int1 pn s σ H _ us Q I r (.inl ⟨i, rfl, p.now rs ⟨rfl, rfl⟩⟩)
  · obtain ⟨v, rfl, r1⟩ := rvs1 rd
    rename_i k
    obtain rfl : v = .bl k := r1.1
    exact call_int1 pn s σ H _ us Q I r (.inr ⟨k, rfl, p.now rs ⟨rfl, rfl⟩⟩)
  · obtain ⟨v, rfl, r1⟩ := rvs1 rd
    rename_i z
    obtain rfl : v = .str (strOf z) := r1.1
    split at p
    · rename_i hl
      split at p
      · rename_i i e
        exact call_int_str pn s σ H _ us Q I r ⟨strOf z, i, rfl, readInt_is e hl, by rw [str_len]; exact hl, p.now rs ⟨rfl, rfl⟩⟩
      · exact p.elim
    · exact p.elim
theorem cb_str : CallR X (.type "str") (rnF N X.K (bltF .str)) := by
  intro pn s σ H xs us Q I r h
  obtain ⟨mu, S, ds, E, rd, rs, p⟩ := h
  replace p : Post N X.K H mu S (relD X.K) (fStr ds S) Q E := p
  unfold fStr at p
  split at p
  all_goals first | exact p.elim | skip
  · obtain ⟨v, rfl, r1⟩ := rvs1 rd
    rename_i i
    obtain rfl : v = .int i := r1.1
    split at p
    · rename_i hl
      refine call_str_int pn s σ H _ us Q I r ⟨i, rfl, hl, ?_⟩
      have e := strInt_eq i
      rw [e]
      exact p.now rs ⟨rfl, rfl⟩
    · exact p.elim
  · obtain ⟨v, rfl, r1⟩ := rvs1 rd
    rename_i z
    obtain rfl : v = .str (strOf z) := r1.1
    exact SkE.call_str_str pn s σ H _ us Q I r ⟨strOf z, rfl, p.now rs ⟨rfl, rfl⟩⟩
theorem cb_no {b : Blt} {f : Value} (h : ∀ ds S, bltF b ds S = .stuck) : CallR X f (rnF N X.K (bltF b)) := by
  intro pn s σ H xs us Q I r q
  obtain ⟨mu, S, ds, E, rd, rs, p⟩ := q
  rw [h] at p
  exact p.elim
theorem cbF (hc : X.calm = true) (b : Blt) : CallR X (bltV b) (rnF N X.K (bltF b)) := by
  cases b with
  | len => exact cb_len
  | abs => exact cb_abs
  | min => exact cb_min hc
  | max => exact cb_max hc
  | tuple => exact cb_tuple
  | list => exact cb_list
  | int => exact cb_int
  | str => exact cb_str
  | sum => exact cb_no fun ds S => rfl
  | sorted => exact cb_no fun ds S => rfl

/-! ### methods -/
def mthT : Mth → String
  | .append => "list"
  | .pop => "list"
  | .join => "str"
def mthN : Mth → Str
  | .append => "append"
  | .pop => "pop"
  | .join => "join"
def mthI : Mth → String
  | .append => "list.append"
  | .pop => "list.pop"
  | .join => "str.join"
theorem mb_append : MtR X "list.append" (rmF N X.K (mthF .append)) := by
  intro pn s σ H x xs v us Q I rx r h
  obtain ⟨mu, S, d, ds, E, ra, rd, rs, p⟩ := h
  replace p : Post N X.K H mu S (relD X.K) (mAppend d ds S) Q E := p
  unfold mAppend at p
  split at p
  all_goals first | exact p.elim | skip
  obtain ⟨u, rfl, r1⟩ := rvs1 rd
  rename_i n y
  obtain rfl : x = .ref (mu n) := ra.1
  split at p
  · rename_i zs e
    obtain ⟨vs, hq, r2, w⟩ := rs.lstM e
    split at p
    · rename_i hl
      refine mt_append pn s σ H _ _ v us Q I rx r ⟨mu n, vs, u, rfl, rfl, hq, by rw [r2.length, ← line_eq]; exact hl, ?_⟩
      have w' : D.wfs S.length (zs ++ [y]) = true := by rw [wfs_append, w]; simp [D.wfs, r1.2]
      exact p _ _ _ (Gw.set rs e (r2.append (RVs.single r1.1)) w') ⟨rfl, rfl⟩
    · exact p.elim
  · exact p.elim
theorem mb_pop : MtR X "list.pop" (rmF N X.K (mthF .pop)) := by
  intro pn s σ H x xs v us Q I rx r h
  obtain ⟨mu, S, d, ds, E, ra, rd, rs, p⟩ := h
  replace p : Post N X.K H mu S (relD X.K) (mPop d ds S) Q E := p
  unfold mPop at p
  split at p
  all_goals first | exact p.elim | skip
  have rd1 : xs = [] := rd.1
  subst rd1
  rename_i n
  obtain rfl : x = .ref (mu n) := ra.1
  split at p
  · rename_i zs e
    obtain ⟨vs, hq, r2, w⟩ := rs.lstM e
    split at p
    · rename_i y hy
      have hy2 : zs[zs.length - 1]? = some y := by rw [← List.getLast?_eq_getElem?]; exact hy
      obtain ⟨u, h1, h2⟩ := r2.get hy2
      have e2 : vs.dropLast = vs.take (zs.length - 1) := by rw [List.dropLast_eq_take, r2.length]
      refine mt_pop pn s σ H _ _ v us Q I rx r ⟨mu n, vs, u, rfl, rfl, hq, by rw [r2.length]; exact h1, ?_⟩
      have w' : D.wfs S.length zs.dropLast = true := wfs_all.mpr fun z hz => wfs_all.mp w z (List.dropLast_subset _ hz)
      have r3 : RVs X.K H mu zs.dropLast vs.dropLast := by rw [e2, List.dropLast_eq_take]; exact r2.take _
      have g := Gw.set rs e r3 w'
      have wy := wfs_get w hy2
      exact p _ _ _ g ⟨g.rv rs wy h2, D.wf_le g.le y wy⟩
    · exact p.elim
  · exact p.elim
theorem mb_join : MtR X "str.join" (rmF N X.K (mthF .join)) := by
  intro pn s σ H x xs v us Q I rx r h
  obtain ⟨mu, S, d, ds, E, ra, rd, rs, p⟩ := h
  replace p : Post N X.K H mu S (relD X.K) (mJoin d ds S) Q E := p
  unfold mJoin at p
  split at p
  all_goals first | exact p.elim | skip
  obtain ⟨u, rfl, r1⟩ := rvs1 rd
  rename_i z y
  obtain rfl : x = .str (strOf z) := ra.1
  split at p
  · rename_i zs e
    obtain ⟨q, vs, rfl, hs, r2, w⟩ := seqOf_is rs r1 e
    split at p
    · rename_i ys e2
      have ev := strs_is r2 e2
      split at p
      · rename_i hl
        refine mt_join pn s σ H _ _ v us Q I rx r ⟨strOf z, q, ys.map strOf, rfl, rfl, by rw [← ev]; exact hs, ?_, ?_⟩
        · have e3 : ((ys.map strOf).map (·.length)) = ys.map List.length := by
            rw [List.map_map]
            exact List.map_congr_left fun a _ => str_len a
          rw [e3, str_len, List.length_map, Nat.mul_comm]
          exact hl
        · have e4 : Txt.join (strOf z) (ys.map strOf) = strOf (joinS z ys) := glued_eq z ys
          rw [e4]
          exact p.now rs ⟨rfl, rfl⟩
      · exact p.elim
    · exact p.elim
  · exact p.elim
theorem mbF (m : Mth) : MtR X (mthI m) (rmF N X.K (mthF m)) := by
  cases m with
  | append => exact mb_append
  | pop => exact mb_pop
  | join => exact mb_join
end
end Fx
set_option Elab.async false
set_option linter.all false
set_option autoImplicit false
set_option maxRecDepth 100000
set_option maxHeartbeats 4000000
/-! FxH: tests, calls, comprehensions; what is walked. -/
namespace Fx
open PySem PySem.Spec PyProof.Rows L2

section
variable {X : Cx} {N : Nm} {W : WX} {a b c e : Expr} {fa fb fc : Env → Store → R D} {ga gb gc : Env → Store → R Bool} {pos : Pos}
theorem s_neg (ha : PE X a (tE N X.K W fa)) : PE X (.UnaryOp .USub a pos) (tE N X.K W fun ρ S => (fa ρ S).bind fun x S1 => (match x with
    | .int i => .ok (.int (-i)) S1
    | _ => .stuck)) := by
  refine s_un (g := fun x S1 => (match x with
    | .int i => .ok (.int (-i)) S1
    | _ => .stuck)) ?_ ha
  intro pn s σ H x v Q I rx h
  obtain ⟨mu, S, d, E, rd, rs, p⟩ := h
  cases d with
  | int i =>
    obtain rfl : x = .int i := rd.1
    exact un_neg pn s σ H _ v Q I rx ⟨i, rfl, Post.now (rel := relD X.K) rs p ⟨rfl, rfl⟩⟩
  | _ => exact (show False from p).elim
theorem s_not (ha : PE X a (tE N X.K W fa)) : PE X (.UnaryOp .Not a pos) (tE N X.K W fun ρ S => (fa ρ S).bind fun x S1 => optR ((truth S1 x).map fun b => .bl (!b)) S1) := by
  refine peI (pe_notT ha) fun σ H Q h => ?_
  obtain ⟨mu, ρ, S, re, rs, p⟩ := h
  refine ⟨mu, ρ, S, re, rs, (Post.bind (rel' := relD X.K) p).imp ?_⟩
  rintro x H1 ⟨mu1, S1, d1, r1, g1, p1⟩
  cases q : truth S1 d1 with
  | none => rw [q] at p1; exact (show False from p1).elim
  | some k =>
    rw [q] at p1
    exact ⟨k, truth_is g1.rs r1 q, Post.now (rel := relD X.K) g1.rs p1 ⟨rfl, rfl⟩⟩
/-- a test by its value -/
theorem s_tst (ha : PE X a (tE N X.K W fa)) (he : ∀ whole, isTrue a X.env whole = (do let v ← whole; standAt a.pos; holding [v] (truthy v))) : PT X a (tT N X.K W (tstOf fa)) := by
  refine ptI (pt_truth ha he) fun σ H Q h => ?_
  obtain ⟨mu, ρ, S, re, rs, p⟩ := h
  refine ⟨mu, ρ, S, re, rs, (Post.bind (rel' := relD X.K) p).imp ?_⟩
  rintro x H1 ⟨mu1, S1, d1, r1, g1, p1⟩
  cases q : truth S1 d1 with
  | none => rw [q] at p1; exact (show False from p1).elim
  | some k =>
    rw [q] at p1
    exact ⟨k, truth_is g1.rs r1 q, Post.now (rel := relB X.K) g1.rs p1 rfl⟩
/-- a comparison as a test: its result is a truth value -/
theorem bl_of {f : Env → Store → R D} {t : TE} (hb : ∀ ρ S, ∀ d S', f ρ S = .ok d S' → ∃ k, d = .bl k) (h : ∀ σ H Q, tE N X.K W f σ H Q → t σ H Q) : ∀ σ H Q, tT N X.K W (tstOf f) σ H Q → tTest t σ H Q := by
  intro σ H Q q
  obtain ⟨mu, ρ, S, re, rs, p⟩ := q
  refine h σ H _ ⟨mu, ρ, S, re, rs, ?_⟩
  unfold tstOf at p
  cases e : f ρ S with
  | ok d S' =>
    obtain ⟨k, rfl⟩ := hb ρ S d S' e
    rw [e] at p
    intro x H' mu' g r
    have r1 : x = .bl k := r.1
    exact ⟨k, r1, p k H' mu' g rfl⟩
  | exn C fs S' => rw [e] at p; exact p
  | stuck => rw [e] at p; exact p
theorem s_cmpT {op : CmpOp} {g : D → D → Store → Option Bool} (ho : OpR X (compareOp op) (r2F N X.K fun x y S2 => optR ((g x y S2).map .bl) S2)) (ha : PE X a (tE N X.K W fa)) (hb : PE X b (tE N X.K W fb)) (hm : behindInMarks op b = false) :
    PT X (.Compare a [op] [b] pos) (tT N X.K W (tstOf fun ρ S => (fa ρ S).bind fun x S1 => (fb ρ S1).bind fun y S2 => optR ((g x y S2).map .bl) S2)) := by
  refine ptI (pt_cmpR ho ha hb hm) (bl_of (fun ρ S d S' q => ?_) fun _ _ _ h => two_of h)
  cases e1 : fa ρ S with
  | ok x S1 =>
    rw [e1] at q
    cases e2 : fb ρ S1 with
    | ok y S2 =>
      simp only [R.bind_ok, e2] at q
      cases e3 : g x y S2 with
      | none => rw [e3] at q; cases q
      | some k => rw [e3] at q; cases q; exact ⟨k, rfl⟩
    | exn C fs S2 => simp only [R.bind_ok, e2] at q; cases q
    | stuck => simp only [R.bind_ok, e2] at q; cases q
  | exn C fs S1 => rw [e1] at q; cases q
  | stuck => rw [e1] at q; cases q
theorem chain_rd {op op' : CmpOp} {g g' : D → D → Store → Option Bool} {σ : L2.St} {H : Hp} {Q : VK}
    (h : tE N X.K W (fun ρ S => (fa ρ S).bind fun x S1 => (fb ρ S1).bind fun y S2 => (optR (g x y S2) S2).bind fun k S3 => if k then (fc ρ S3).bind fun z S4 => optR ((g' y z S4).map .bl) S4 else .ok (.bl false) S3) σ H Q) :
    tChain (r2B N X.K g) (r2B N X.K g') (tE N X.K W fa) (tE N X.K W fb) (tE N X.K W fc) σ H Q := by
  obtain ⟨mu, ρ, S, re, rs, p⟩ := h
  refine ⟨mu, ρ, S, re, rs, (Post.bind (rel' := relD X.K) p).imp ?_⟩
  rintro x H1 ⟨mu1, S1, d1, r1, g1, p1⟩
  have re1 := re.gw rs g1
  refine ⟨mu1, ρ, S1, re1, g1.rs, (Post.bind (rel' := relD X.K) p1).imp ?_⟩
  rintro y H2 ⟨mu2, S2, d2, r2, g2, p2⟩
  have re2 := re1.gw g1.rs g2
  cases e : g d1 d2 S2 with
  | none => rw [e] at p2; exact (show False from p2).elim
  | some k =>
    rw [e] at p2
    refine ⟨mu2, S2, d1, d2, k, r1.gw g1.rs g2, r2, g2.rs, e, k, rfl, ?_⟩
    cases k with
    | false => exact iteF (Post.now (rel := relD X.K) g2.rs p2 ⟨rfl, rfl⟩)
    | true =>
      refine iteT ⟨mu2, ρ, S2, re2, g2.rs, (Post.bind (rel := relD X.K) (rel' := relD X.K) (show Post N X.K H2 mu2 S2 (relD X.K) ((fc ρ S2).bind fun z S4 => optR ((g' d2 z S4).map .bl) S4) Q (XW W σ) from p2)).imp ?_⟩
      rintro z H3 ⟨mu3, S3, d3, r3, g3, p3⟩
      cases e3 : g' d2 d3 S3 with
      | none => rw [e3] at p3; exact (show False from p3).elim
      | some k3 =>
        rw [e3] at p3
        exact ⟨mu3, S3, d2, d3, k3, r2.gw g2.rs g3, r3, g3.rs, e3, Post.now (rel := relD X.K) g3.rs p3 ⟨rfl, rfl⟩⟩
theorem s_chain {op op' : CmpOp} {g g' : D → D → Store → Option Bool} (ho : OpR X (compareOp op) (r2B N X.K g)) (ho' : OpR X (compareOp op') (r2B N X.K g')) (ha : PE X a (tE N X.K W fa)) (hb : PE X b (tE N X.K W fb)) (hc : PE X c (tE N X.K W fc))
    (hm : lastMarks [op, op'] [b, c] = false) : PE X (.Compare a [op, op'] [b, c] pos) (tE N X.K W fun ρ S => (fa ρ S).bind fun x S1 => (fb ρ S1).bind fun y S2 => (optR (g x y S2) S2).bind fun k S3 => if k then (fc ρ S3).bind fun z S4 => optR ((g' y z S4).map .bl) S4 else .ok (.bl false) S3) :=
  peI (pe_chain ho ho' ha hb hc hm) fun _ _ _ h => chain_rd (op := op) (op' := op') h
theorem s_chainT {op op' : CmpOp} {g g' : D → D → Store → Option Bool} (ho : OpR X (compareOp op) (r2B N X.K g)) (ho' : OpR X (compareOp op') (r2B N X.K g')) (ha : PE X a (tE N X.K W fa)) (hb : PE X b (tE N X.K W fb)) (hc : PE X c (tE N X.K W fc))
    (hm : lastMarks [op, op'] [b, c] = false) : PT X (.Compare a [op, op'] [b, c] pos) (tT N X.K W (tstOf fun ρ S => (fa ρ S).bind fun x S1 => (fb ρ S1).bind fun y S2 => (optR (g x y S2) S2).bind fun k S3 => if k then (fc ρ S3).bind fun z S4 => optR ((g' y z S4).map .bl) S4 else .ok (.bl false) S3)) := by
  refine ptI (pt_chain ho ho' ha hb hc hm) (bl_of (fun ρ S d S' q => ?_) fun _ _ _ h => chain_rd (op := op) (op' := op') h)
  cases e1 : fa ρ S with
  | ok x S1 =>
    rw [e1] at q
    cases e2 : fb ρ S1 with
    | ok y S2 =>
      simp only [R.bind_ok, e2] at q
      cases e3 : g x y S2 with
      | none => rw [e3] at q; cases q
      | some k =>
        rw [e3] at q
        cases k with
        | false => cases q; exact ⟨_, rfl⟩
        | true =>
          have q : ((fc ρ S2).bind fun z S4 => optR ((g' y z S4).map D.bl) S4) = .ok d S' := q
          cases e4 : fc ρ S2 with
          | ok z S4 =>
            rw [e4] at q
            have q : optR ((g' y z S4).map D.bl) S4 = .ok d S' := q
            cases e5 : g' y z S4 with
            | none => rw [e5] at q; cases q
            | some k5 => rw [e5] at q; cases q; exact ⟨_, rfl⟩
          | exn C fs S4 => rw [e4] at q; cases q
          | stuck => rw [e4] at q; cases q
    | exn C fs S2 => simp only [R.bind_ok, e2] at q; cases q
    | stuck => simp only [R.bind_ok, e2] at q; cases q
  | exn C fs S1 => rw [e1] at q; cases q
  | stuck => rw [e1] at q; cases q

/-! ### a choice; and, or -/
theorem ite_rd {σ : L2.St} {H : Hp} {Q : VK} (h : tE N X.K W (fun ρ S => (gc ρ S).bind fun k S1 => if k then fa ρ S1 else fb ρ S1) σ H Q) : tIf (tT N X.K W gc) (tE N X.K W fa) (tE N X.K W fb) σ H Q := by
  obtain ⟨mu, ρ, S, re, rs, p⟩ := h
  refine ⟨mu, ρ, S, re, rs, (Post.bind (rel' := relB X.K) p).imp ?_⟩
  rintro k H1 ⟨mu1, S1, k', e, g1, p1⟩
  have e : k' = k := e
  subst e
  cases k' with
  | true => exact iteT ⟨mu1, ρ, S1, re.gw rs g1, g1.rs, p1⟩
  | false => exact iteF ⟨mu1, ρ, S1, re.gw rs g1, g1.rs, p1⟩
theorem s_ite (hc : PT X c (tT N X.K W gc)) (ha : PE X a (tE N X.K W fa)) (hb : PE X b (tE N X.K W fb)) : PE X (.IfExp c a b pos) (tE N X.K W fun ρ S => (gc ρ S).bind fun k S1 => if k then fa ρ S1 else fb ρ S1) :=
  peI (pe_ifExp hc ha hb) fun _ _ _ h => ite_rd h
theorem pt_ite {tc ta tb : TT} (hc : PT X c tc) (ha : PT X a ta) (hb : PT X b tb) : PT X (.IfExp c a b pos) (fun σ H Q => tc σ H fun k H1 => if k = true then ta σ H1 Q else tb σ H1 Q) := by
  refine .mk fun pn s σ H Q I h => PyProof.Rows.isTrue_IfExp (thn (hc.run pn s σ H _ I h) fun k s1 ⟨H1, I1, q1⟩ => ?_)
  cases k with
  | true => exact ha.run pn s1 σ H1 Q I1 q1
  | false => exact hb.run pn s1 σ H1 Q I1 q1
theorem s_iteT (hc : PT X c (tT N X.K W gc)) (ha : PT X a (tT N X.K W ga)) (hb : PT X b (tT N X.K W gb)) : PT X (.IfExp c a b pos) (tT N X.K W fun ρ S => (gc ρ S).bind fun k S1 => if k then ga ρ S1 else gb ρ S1) := by
  refine ptI (pt_ite hc ha hb) fun σ H Q h => ?_
  obtain ⟨mu, ρ, S, re, rs, p⟩ := h
  refine ⟨mu, ρ, S, re, rs, (Post.bind (rel' := relB X.K) p).imp ?_⟩
  rintro k H1 ⟨mu1, S1, k', e, g1, p1⟩
  have e : k' = k := e
  subst e
  cases k' with
  | true => exact iteT ⟨mu1, ρ, S1, re.gw rs g1, g1.rs, p1⟩
  | false => exact iteF ⟨mu1, ρ, S1, re.gw rs g1, g1.rs, p1⟩
theorem s_notT (ha : PT X a (tT N X.K W ga)) : PT X (.UnaryOp .Not a pos) (tT N X.K W fun ρ S => (ga ρ S).bind fun k S1 => .ok (!k) S1) := by
  refine ptI (pt_not ha) fun σ H Q h => ?_
  obtain ⟨mu, ρ, S, re, rs, p⟩ := h
  refine ⟨mu, ρ, S, re, rs, (Post.bind (rel' := relB X.K) p).imp ?_⟩
  rintro k H1 ⟨mu1, S1, k', e, g1, p1⟩
  have e : k' = k := e
  subst e
  exact Post.now (rel := relB X.K) g1.rs p1 rfl
variable {es : List Expr}
theorem s_andT (ha : PT X a (tT N X.K W ga)) (hb : PW X (.BoolOp .And (b :: es) pos) (tT N X.K W gb)) : PW X (.BoolOp .And (a :: b :: es) pos) (tT N X.K W fun ρ S => (ga ρ S).bind fun k S1 => if k then gb ρ S1 else .ok false S1) := by
  refine pwI (pw_and ha hb) fun σ H Q h => ?_
  obtain ⟨mu, ρ, S, re, rs, p⟩ := h
  refine ⟨mu, ρ, S, re, rs, (Post.bind (rel' := relB X.K) p).imp ?_⟩
  rintro k H1 ⟨mu1, S1, k', e, g1, p1⟩
  have e : k' = k := e
  subst e
  cases k' with
  | true => exact iteT ⟨mu1, ρ, S1, re.gw rs g1, g1.rs, p1⟩
  | false => exact iteF (Post.now (rel := relB X.K) g1.rs p1 rfl)
theorem s_orT (ha : PT X a (tT N X.K W ga)) (hb : PW X (.BoolOp .Or (b :: es) pos) (tT N X.K W gb)) : PW X (.BoolOp .Or (a :: b :: es) pos) (tT N X.K W fun ρ S => (ga ρ S).bind fun k S1 => if k then .ok true S1 else gb ρ S1) := by
  refine pwI (pw_or ha hb) fun σ H Q h => ?_
  obtain ⟨mu, ρ, S, re, rs, p⟩ := h
  refine ⟨mu, ρ, S, re, rs, (Post.bind (rel' := relB X.K) p).imp ?_⟩
  rintro k H1 ⟨mu1, S1, k', e, g1, p1⟩
  have e : k' = k := e
  subst e
  cases k' with
  | true => exact iteT (Post.now (rel := relB X.K) g1.rs p1 rfl)
  | false => exact iteF ⟨mu1, ρ, S1, re.gw rs g1, g1.rs, p1⟩
theorem s_andV (ha : PE X a (tE N X.K W fa)) (hb : PE X (.BoolOp .And (b :: es) pos) (tE N X.K W fb)) : PE X (.BoolOp .And (a :: b :: es) pos) (tE N X.K W fun ρ S => (fa ρ S).bind fun x S1 => (match x with
    | .bl true => fb ρ S1
    | .bl false => .ok (.bl false) S1
    | _ => .stuck)) := by
  refine peI (pe_and ha hb) fun σ H Q h => ?_
  obtain ⟨mu, ρ, S, re, rs, p⟩ := h
  refine ⟨mu, ρ, S, re, rs, (Post.bind (rel' := relD X.K) p).imp ?_⟩
  rintro x H1 ⟨mu1, S1, d1, r1, g1, p1⟩
  cases d1 with
  | bl k =>
    have r2 : x = .bl k := r1.1
    refine ⟨k, r2, ?_⟩
    cases k with
    | true => exact iteT ⟨mu1, ρ, S1, re.gw rs g1, g1.rs, p1⟩
    | false => exact iteF (Post.now (rel := relD X.K) g1.rs p1 ⟨rfl, rfl⟩)
  | _ => exact (show False from p1).elim
theorem s_orV (ha : PE X a (tE N X.K W fa)) (hb : PE X (.BoolOp .Or (b :: es) pos) (tE N X.K W fb)) : PE X (.BoolOp .Or (a :: b :: es) pos) (tE N X.K W fun ρ S => (fa ρ S).bind fun x S1 => (match x with
    | .bl false => fb ρ S1
    | .bl true => .ok (.bl true) S1
    | _ => .stuck)) := by
  refine peI (pe_or ha hb) fun σ H Q h => ?_
  obtain ⟨mu, ρ, S, re, rs, p⟩ := h
  refine ⟨mu, ρ, S, re, rs, (Post.bind (rel' := relD X.K) p).imp ?_⟩
  rintro x H1 ⟨mu1, S1, d1, r1, g1, p1⟩
  cases d1 with
  | bl k =>
    have r2 : x = .bl k := r1.1
    refine ⟨k, r2, ?_⟩
    cases k with
    | true => exact iteT (Post.now (rel := relD X.K) g1.rs p1 ⟨rfl, rfl⟩)
    | false => exact iteF ⟨mu1, ρ, S1, re.gw rs g1, g1.rs, p1⟩
  | _ => exact (show False from p1).elim

/-! ### slices -/
def tO (N : Nm) (K : PySem.W.Frag) (W : WX) (f : Env → Store → R (Option Int)) : TO := fun σ H Q => ∃ mu ρ S, RE N K H mu S ρ σ ∧ RS N K H mu S ∧ Post N K H mu S (fun _ _ _ a b => a = b) (f ρ S) Q (XW W σ)
theorem poI {e : Option Expr} {t t' : TO} (h : PO X e t) (hi : ∀ σ H Q, t' σ H Q → t σ H Q) : PO X e t' := .mk fun pn s σ H Q I q => h.run pn s σ H Q I (hi _ _ _ q)
theorem s_part (ha : PE X a (tE N X.K W fa)) : PO X (some a) (tO N X.K W (partV fa)) := by
  refine poI (po_some ha) fun σ H Q h => ?_
  obtain ⟨mu, ρ, S, re, rs, p⟩ := h
  refine ⟨mu, ρ, S, re, rs, (Post.bind (rel' := relD X.K) p).imp ?_⟩
  rintro x H1 ⟨mu1, S1, d1, r1, g1, p1⟩
  cases d1 with
  | int i =>
    have r2 : x = .int i := r1.1
    exact ⟨i, r2, Post.now (rel := fun _ _ _ a b => a = b) g1.rs p1 rfl⟩
  | _ => exact (show False from p1).elim
theorem s_noPart : PO X none (tO N X.K W fun _ S => .ok none S) := poI po_none fun σ H Q ⟨mu, ρ, S, re, rs, p⟩ => Post.now (rel := fun _ _ _ a b => a = b) rs p rfl
theorem s_slice {lo hi : Option Expr} {fl fh : Env → Store → R (Option Int)} {p2 : Pos} (ha : PE X a (tE N X.K W fa)) (hl : PO X lo (tO N X.K W fl)) (hh : PO X hi (tO N X.K W fh)) :
    PE X (.Subscript a (.Slice lo hi none p2) pos) (tE N X.K W fun ρ S => (fa ρ S).bind fun x S1 => (fl ρ S1).bind fun i S2 => (fh ρ S2).bind fun j S3 => cutD S3 x i j) := by
  refine peI (pe_slice (cutF (N := N)) ha hl hh) fun σ H Q h => ?_
  obtain ⟨mu, ρ, S, re, rs, p⟩ := h
  refine ⟨mu, ρ, S, re, rs, (Post.bind (rel' := relD X.K) p).imp ?_⟩
  rintro x H1 ⟨mu1, S1, d1, r1, g1, p1⟩
  have re1 := re.gw rs g1
  refine ⟨mu1, ρ, S1, re1, g1.rs, (Post.bind (rel' := fun _ _ _ a b => a = b) p1).imp ?_⟩
  rintro i H2 ⟨mu2, S2, i', e, g2, p2⟩
  subst e
  have re2 := re1.gw g1.rs g2
  refine ⟨mu2, ρ, S2, re2, g2.rs, (Post.bind (rel' := fun _ _ _ a b => a = b) p2).imp ?_⟩
  rintro j H3 ⟨mu3, S3, j', e, g3, p3⟩
  subst e
  exact ⟨mu3, S3, d1, _, (r1.gw g1.rs g2).gw g2.rs g3, g3.rs, p3⟩

/-! ### methods, own defs -/
theorem mOk_is {m : Mth} {H : Hp} {mu : Nat → Addr} {S : Store} {d : D} {x : V} (rs : RS N X.K H mu S) (r : relD X.K H mu S d x) (h : mOk m S d = true) : tyV X.K (mthT m) x H := by
  have lst : ∀ {n : Nat}, relD X.K H mu S (.ref n) x → (lstOf S n).isSome = true → tyV X.K "list" x H := fun {n} r q => by
    obtain ⟨xs, e⟩ := Option.isSome_iff_exists.mp q
    obtain ⟨vs, hq, _⟩ := rs.lst e
    have r1 : x = .ref (mu n) := r.1
    rw [r1]
    exact .inl ⟨rfl, vs, hq⟩
  cases m with
  | append => cases d <;> first | exact lst r h | (cases h)
  | pop => cases d <;> first | exact lst r h | (cases h)
  | join =>
    cases d with
    | str s =>
      have r1 : x = .str (strOf s) := r.1
      rw [r1]
      exact rfl
    | _ => cases h
theorem mth_slot (m : Mth) : PlainAttrs (mthT m) ∧ Slot (mthT m) (mthN m) (mthI m) ∧ typeOf (.builtin (mthI m)) = pure (.type "method_descriptor") := by
  cases m with
  | append => exact ⟨PySem.F.plainAttrs_list, PySem.F.slot_list_append, PySem.F.type_list_append⟩
  | pop => exact ⟨PySem.F.plainAttrs_list, PySem.F.slot_list_pop, PySem.F.type_list_pop⟩
  | join => exact ⟨PySem.F.plainAttrs_str, PySem.F.slot_str_join, PySem.F.type_str_join⟩
/-- no star among them -/
def noStar : List Expr → Bool
  | [] => true
  | .Starred _ _ :: _ => false
  | _ :: r => noStar r
theorem noStar_cons {e : Expr} {es : List Expr} (h : noStar (e :: es) = true) (env : PySem.Env) : starEach (e :: es) env = (false, eval e env) :: starEach es env ∧ noStar es = true := by
  cases e <;> first | (simp [noStar] at h; done) | exact ⟨rfl, h⟩
theorem noStar_any (pos : Pos) (env : PySem.Env) : ∀ {es : List Expr}, noStar es = true → (backTo pos (starEach es env)).any (·.1) = false ∧ (backTo pos (starEach es env)).all (fun x => !x.1) = true
  | [], _ => ⟨rfl, rfl⟩
  | e :: es, h => by
    obtain ⟨h1, h2⟩ := noStar_cons h env
    obtain ⟨g1, g2⟩ := noStar_any pos env h2
    rw [h1]
    unfold backTo at g1 g2 ⊢
    rw [List.map_cons, List.any_cons, List.all_cons, g1, g2]
    exact ⟨rfl, rfl⟩
theorem s_mth {m : Mth} {apos cpos : Pos} {fs : Env → Store → R (List D)} (ho : PE X a (tE N X.K W fa)) (ha : PA X (b :: es) (tA N X.K W fs)) (hbase : attributeBase a (mthN m) X.env (eval a X.env) = eval a X.env)
    (hst : noStar (b :: es) = true) (hl : (b :: es).length < 30) (hline : (apos.endLine == cpos.line) = true) :
    PE X (.Call (.Attribute a (mthN m) apos) (b :: es) [] cpos) (tE N X.K W fun ρ S => (fa ρ S).bind fun x S1 => if mOk m S1 x then (fs ρ S1).bind fun ds S2 => mthF m x ds S2 else .stuck) := by
  obtain ⟨h1, h2, h3⟩ := mth_slot m
  obtain ⟨h4, h5⟩ := noStar_cons hst X.env
  have hfew : ((backTo cpos (starEach (b :: es) X.env)).all (fun x => !x.1) && (backToKw cpos (keywordEach [] X.env)).all (fun x => x.1.isSome) && decide ((b :: es).length + ([] : List Keyword).length + (if ([] : List Keyword).isEmpty then 0 else 1) < 30)) = true := by
    rw [(noStar_any cpos X.env hst).2, Bool.true_and, Bool.and_eq_true]
    exact ⟨rfl, decide_eq_true (by simpa using hl)⟩
  refine peI (pe_bm h1 h2 h3 (mbF (N := N) m) ho ha hbase hfew hline h4 (noStar_any cpos X.env h5).1) fun σ H Q h => ?_
  obtain ⟨mu, ρ, S, re, rs, p⟩ := h
  refine ⟨mu, ρ, S, re, rs, (Post.bind (rel' := relD X.K) p).imp ?_⟩
  rintro x H1 ⟨mu1, S1, d1, r1, g1, p1⟩
  split at p1
  · rename_i ok
    refine ⟨mOk_is g1.rs r1 ok, mu1, ρ, S1, re.gw rs g1, g1.rs, (Post.bind (rel' := relDs X.K) p1).imp ?_⟩
    rintro xs H2 ⟨mu2, S2, ds, r2, g2, p2⟩
    exact ⟨mu2, S2, d1, ds, _, r1.gw g1.rs g2, r2, g2.rs, p2⟩
  · exact p1.elim
theorem s_mth0 {m : Mth} {apos cpos : Pos} (ho : PE X a (tE N X.K W fa)) (hbase : attributeBase a (mthN m) X.env (eval a X.env) = eval a X.env) (hline : (apos.endLine == cpos.line) = true) :
    PE X (.Call (.Attribute a (mthN m) apos) [] [] cpos) (tE N X.K W fun ρ S => (fa ρ S).bind fun x S1 => if mOk m S1 x then (R.ok [] S1).bind fun ds S2 => mthF m x ds S2 else .stuck) := by
  obtain ⟨h1, h2, h3⟩ := mth_slot m
  refine peI (pe_bm0 h1 h2 h3 (mbF (N := N) m) ho hbase hline) fun σ H Q h => ?_
  obtain ⟨mu, ρ, S, re, rs, p⟩ := h
  refine ⟨mu, ρ, S, re, rs, (Post.bind (rel' := relD X.K) p).imp ?_⟩
  rintro x H1 ⟨mu1, S1, d1, r1, g1, p1⟩
  split at p1
  · rename_i ok
    exact ⟨mOk_is g1.rs r1 ok, mu1, S1, d1, [], _, r1, ⟨rfl, rfl⟩, g1.rs, p1⟩
  · exact p1.elim
/-- the promise of an own def, by what the evaluator says of it -/
def spF (N : Nm) (K : PySem.W.Frag) (np : Nat) (g : List D → Store → R D) : Sp := fun vs H Q E => ∃ mu ds S, ds.length = np ∧ relDs K H mu S ds vs ∧ RS N K H mu S ∧ Post N K H mu S (relD K) (g ds S) Q E
structure OwnFn (N : Nm) (X : Cx) (x : Str) (g : List D → Store → R D) (fa : Addr) (fd : FuncData) (ps : List Str) (lvl : Nat) : Prop where
  mg : X.mg x = some (.ref fa)
  ok : FnOk X.prog X.w X.K X.mg X.base (L2.CX X.prog X.w) lvl fa fd ps (spF N X.K ps.length g)
  room : Room lvl X.A
  kp : PySem.W.keepIn X.K (.ref fa) = true
  bd : Binds X.K fd ps []
  st : ∀ (ds : List D) (S : Store), ds.length ≠ ps.length → g ds S = .stuck
theorem s_own {x : Str} {p cpos : Pos} {fs : Env → Store → R (List D)} {g : List D → Store → R D} {f : Addr} {fd : FuncData} {ps : List Str} {lvl : Nat} (F : OwnFn N X x g f fd ps lvl) (hg : Gl X x) (tk : Takes X W) (ha : PA X (b :: es) (tA N X.K W fs))
    (hst : noStar (b :: es) = true) (hdb : (x == ("__debug__" : Str)) = false) :
    PE X (.Call (.Name x p) (b :: es) [] cpos) (tE N X.K W fun ρ S => (fs ρ S).bind fun ds S1 => g ds S1) := by
  obtain ⟨h4, h5⟩ := noStar_cons hst X.env
  refine peI (pe_callSD (E := fun σ => WE W σ) F.ok F.room hg F.mg F.kp F.bd .nil (fun σ => passAt tk σ) ha hdb h4 (noStar_any cpos X.env h5).1) fun σ H Q h => ?_
  obtain ⟨mu, ρ, S, re, rs, p⟩ := h
  refine ⟨mu, ρ, S, re, rs, (Post.bind (rel' := relDs X.K) p).imp ?_⟩
  rintro xs H1 ⟨mu1, S1, ds, r1, g1, p1⟩
  by_cases hl : ds.length = ps.length
  · exact ⟨mu1, ds, S1, hl, by rw [List.append_nil]; exact r1, g1.rs, p1⟩
  · rw [F.st ds S1 hl] at p1
    exact p1.elim
end
end Fx
set_option Elab.async false
set_option linter.all false
set_option autoImplicit false
set_option maxRecDepth 100000
set_option maxHeartbeats 4000000
/-! FxI: what is walked; targets; comprehensions. -/
namespace Fx
open PySem PySem.Spec PyProof.Rows L2

section
variable {X : Cx} {N : Nm} {W : WX}
/-- the walked thing yields the items, as long as the list stands -/
def ItOk (N : Nm) (K : PySem.W.Frag) (H : Hp) (mu : Nat → Addr) (S : Store) (items : List D) (g : Option Nat) (J : It) : Prop :=
  ∀ (i : Nat) (H' : Hp) (mu' : Nat → Addr) (S' : Store), Gw N K H mu S H' mu' S' → same g S S' = true →
    (∀ d, items[i]? = some d → J.go i H' ∧ ∀ x H2, J.yld i H' x H2 → H2 = H' ∧ relD K H' mu' S' d x) ∧ (items.length ≤ i → J.stop i H')
abbrev relI (N : Nm) (K : PySem.W.Frag) (H : Hp) (mu : Nat → Addr) (S : Store) (p : List D × Option Nat) (J : It) : Prop := ItOk N K H mu S p.1 p.2 J
def iF (N : Nm) (K : PySem.W.Frag) (W : WX) (f : PIt) : TI := fun σ H R => ∃ mu ρ S, RE N K H mu S ρ σ ∧ RS N K H mu S ∧ Post N K H mu S (relI N K) (f ρ S) R (XW W σ)
theorem piI {tg e : Expr} {t t' : TI} (h : PI X tg e t) (hi : ∀ σ H Q, t' σ H Q → t σ H Q) : PI X tg e t' := .mk fun pn s σ H Q I q => h.run pn s σ H Q I (hi _ _ _ q)
/-- a list or a tuple -/
theorem pi_any {tg l : Expr} {tl : TE} (hl : PE X l tl) : PI X tg l (fun σ H R => tl σ H fun x H1 => ∃ a, x = .ref a ∧ (((∃ xs, SqL X.K H1 a xs) ∧ R (Itl X.K a) H1) ∨ ((∃ xs, SqT X.K H1 a xs) ∧ R (Itt X.K a) H1))) := by
  refine .mk fun pn s σ H R I h => thn (hl.run pn s σ H _ I h) fun v s1 ⟨x, H1, I1, r1, a, e, q⟩ => ?_
  subst e
  cases r1
  have here : ∀ (b : Addr), b ∈ [s1.heap.objs.size] → FpOk X pn H1 b := fun b hb => by
    have e : b = s1.heap.objs.size := by simpa using hb
    rw [e]
    exact I1.fpOk (Nat.le_refl _) (I1.hok.fresh (Nat.le_refl _))
  rcases q with ⟨⟨xs, hq⟩, q⟩ | ⟨⟨xs, hq⟩, q⟩
  · obtain ⟨its, rv, p, hz⟩ := I1.list hq
    exact wpAny_pyIter_list p.isList ⟨s1.heap.objs.size, [s1.heap.objs.size], _, _, H1, rfl, I1.kept (t' := s1.toks) fun b o z => Heap.get?_push_of_some _ z, turn_list a _, ⟨_, Heap.get?_push_size _ rfl, rfl, rfl⟩, here, q⟩
  · obtain ⟨its, rv, p, hz⟩ := I1.tuple hq
    exact wpAny_pyIter_tuple (show s1.heap.IsTuple a its.toArray from p) ⟨s1.heap.objs.size, [s1.heap.objs.size], _, _, H1, rfl, I1.kept (t' := s1.toks) fun b o z => Heap.get?_push_of_some _ z, turn_tuple a _, ⟨_, Heap.get?_push_size _ rfl, rfl, rfl⟩, here, q⟩
theorem itOk_tup {K : PySem.W.Frag} {H : Hp} {mu : Nat → Addr} {S : Store} {xs : List D} {a : Addr} {vs : List V} (rs : RS N K H mu S) (q : SqT K H a vs) (r : RVs K H mu xs vs) (w : D.wfs S.length xs = true) : ItOk N K H mu S xs none (Itt K a) := by
  intro i H' mu' S' g _
  have q' := g.tup rs q
  have r' := g.rvs rs w r
  refine ⟨fun d hd => ?_, fun hi => ⟨vs, q', by rw [r.length]; exact hi⟩⟩
  obtain ⟨v, h1, h2⟩ := r'.get hd
  refine ⟨⟨vs, v, q', h1⟩, fun x H2 y => ?_⟩
  obtain ⟨e, y⟩ := y
  have e2 : v = x := Option.some.inj (h1.symm.trans (y vs q'))
  exact ⟨e, e2 ▸ h2, D.wf_le g.le d (wfs_get w hd)⟩
theorem itOk_lst {K : PySem.W.Frag} {H : Hp} {mu : Nat → Addr} {S : Store} {xs : List D} {n : Nat} (rs : RS N K H mu S) (h : lstOf S n = some xs) : ItOk N K H mu S xs (some n) (Itl K (mu n)) := by
  intro i H' mu' S' g hs
  have hs' : S'[n]? = S[n]? := by
    have z : decide (S'[n]? = S[n]?) = true := hs
    exact of_decide_eq_true z
  have h' : lstOf S' n = some xs := by unfold lstOf; rw [hs']; exact h
  have hn : n < S.length := by
    unfold lstOf at h
    cases e : S[n]? with
    | none => rw [e] at h; cases h
    | some o => exact (List.getElem?_eq_some_iff.mp e).1
  obtain ⟨vs, q', r', w'⟩ := g.rs.lst h'
  rw [g.mus n hn] at q'
  refine ⟨fun d hd => ?_, fun hi => ⟨vs, q', by rw [r'.length]; exact hi⟩⟩
  obtain ⟨v, h1, h2⟩ := r'.get hd
  refine ⟨⟨vs, v, q', h1⟩, fun x H2 y => ?_⟩
  obtain ⟨e, y⟩ := y
  have e2 : v = x := Option.some.inj (h1.symm.trans (y vs q'))
  exact ⟨e, e2 ▸ h2, wfs_get w' hd⟩
theorem rangeD_get {i j : Int} {k : Nat} {d : D} (h : (rangeD i j)[k]? = some d) : k < (j - i).toNat ∧ d = .int (i + (k : Int)) := by
  unfold rangeD at h
  rw [List.getElem?_map] at h
  obtain ⟨m, h1, rfl⟩ := Option.map_eq_some_iff.mp h
  obtain ⟨l, e⟩ := List.getElem?_eq_some_iff.mp h1
  rw [List.getElem_range] at e
  subst e
  exact ⟨by simpa using l, rfl⟩
theorem rangeD_length (i j : Int) : (rangeD i j).length = (j - i).toNat := by unfold rangeD; simp
theorem itOk_rng {K : PySem.W.Frag} {H : Hp} {mu : Nat → Addr} {S : Store} {i j : Int} : ItOk N K H mu S (rangeD i j) none (Itr i (j - i).toNat) := by
  intro k H' mu' S' g _
  refine ⟨fun d hd => ?_, fun hi => by rw [rangeD_length] at hi; exact hi⟩
  obtain ⟨h1, rfl⟩ := rangeD_get hd
  refine ⟨h1, fun x H2 y => ?_⟩
  obtain ⟨e, y⟩ := y
  exact ⟨e, y, rfl⟩
theorem s_seq {tg l : Expr} {f : Env → Store → R D} (hl : PE X l (tE N X.K W f)) : PI X tg l (iF N X.K W fun ρ S => (f ρ S).bind fun x S1 => (match x with
    | .tup xs => .ok (xs, none) S1
    | .ref n => (match lstOf S1 n with
      | some xs => .ok (xs, some n) S1
      | none => .stuck)
    | _ => .stuck)) := by
  refine piI (pi_any hl) fun σ H R h => ?_
  obtain ⟨mu, ρ, S, re, rs, p⟩ := h
  refine ⟨mu, ρ, S, re, rs, (Post.bind (rel' := relD X.K) p).imp ?_⟩
  rintro x H1 ⟨mu1, S1, d1, r1, g1, p1⟩
  cases d1 with
  | tup xs =>
    obtain ⟨a, vs, e, q, r⟩ := r1.1
    exact ⟨a, e, .inr ⟨⟨vs, q⟩, Post.now (rel := relI N X.K) g1.rs p1 (itOk_tup g1.rs q r r1.2)⟩⟩
  | ref n =>
    have e : x = .ref (mu1 n) := r1.1
    dsimp only at p1
    split at p1
    · rename_i xs h
      obtain ⟨vs, q, r, w⟩ := g1.rs.lst h
      exact ⟨mu1 n, e, .inl ⟨⟨vs, q⟩, Post.now (rel := relI N X.K) g1.rs p1 (itOk_lst g1.rs h)⟩⟩
    · exact p1.elim
  | _ => exact (show False from p1).elim
theorem small_is {i : Int} (h : small i = true) : -(2 ^ 62) ≤ i ∧ i < 2 ^ 62 := by
  unfold small at h
  rw [Bool.and_eq_true, decide_eq_true_eq, decide_eq_true_eq] at h
  exact h
theorem s_rng1 {tg a : Expr} {p pos : Pos} {f : Env → Store → R D} (hg : Gl X "range") (hm : X.mg "range" = none) (ha : PE X a (tE N X.K W f)) (hs : noStar [a] = true) : PI X tg (.Call (.Name "range" p) [a] [] pos) (iF N X.K W fun ρ S => (f ρ S).bind fun x S1 => (match x with
    | .int j => if small j then .ok (rangeD 0 j, none) S1 else .stuck
    | _ => .stuck)) := by
  have h1 := (noStar_cons hs X.env).1
  refine piI (pi_range1 hg hm (s_cons (N := N) (W := W) ha s_nil h1) h1) fun σ H Rk h => ?_
  obtain ⟨mu, ρ, S, re, rs, p⟩ := h
  refine ⟨mu, ρ, S, re, rs, ?_⟩
  cases e : f ρ S with
  | ok d S1 =>
    simp only [e, R.bind_ok] at p ⊢
    intro xs H1 mu1 g r
    obtain ⟨v, rfl, r1⟩ := rvs1 r
    cases d with
    | int j =>
      dsimp only at p
      split at p
      · rename_i c
        obtain ⟨c1, c2⟩ := small_is c
        have rv : v = .int j := r1.1
        refine ⟨j, by rw [rv], c1, c2, ?_⟩
        have q := p _ _ _ g (itOk_rng (i := 0) (j := j))
        simpa using q
      · exact p.elim
    | _ => exact (show False from p).elim
  | exn C fs S1 => simp only [e, R.bind_exn] at p ⊢; exact p
  | stuck => simp only [e, R.bind_stuck] at p ⊢; exact p
theorem s_rng2 {tg a b : Expr} {p pos : Pos} {f f' : Env → Store → R D} (hg : Gl X "range") (hm : X.mg "range" = none) (ha : PE X a (tE N X.K W f)) (hb : PE X b (tE N X.K W f')) (hs : noStar [a, b] = true) : PI X tg (.Call (.Name "range" p) [a, b] [] pos) (iF N X.K W fun ρ S => (f ρ S).bind fun x S1 => (f' ρ S1).bind fun y S2 => (match x, y with
    | .int i, .int j => if small i && small j then .ok (rangeD i j, none) S2 else .stuck
    | _, _ => .stuck)) := by
  obtain ⟨h1, h2⟩ := noStar_cons hs X.env
  have h3 := (noStar_cons h2 X.env).1
  refine piI (pi_range2 hg hm (s_cons (N := N) (W := W) ha (s_cons hb s_nil h3) h1) (by rw [h1, h3]; rfl) h3) fun σ H Rk h => ?_
  obtain ⟨mu, ρ, S, re, rs, p⟩ := h
  refine ⟨mu, ρ, S, re, rs, ?_⟩
  cases e : f ρ S with
  | ok d S1 =>
    cases e2 : f' ρ S1 with
    | ok d' S2 =>
      simp only [e, e2, R.bind_ok] at p ⊢
      intro xs H1 mu1 g r
      obtain ⟨v, u, rfl, r1, r2⟩ := rvs2 r
      cases d with
      | int i =>
        cases d' with
        | int j =>
          dsimp only at p
          split at p
          · rename_i c
            rw [Bool.and_eq_true] at c
            obtain ⟨c1, c2⟩ := small_is c.1
            obtain ⟨c3, c4⟩ := small_is c.2
            have rv : v = .int i := r1.1
            have ru : u = .int j := r2.1
            exact ⟨i, j, by rw [rv, ru], ⟨c1, c2, c3, c4⟩, p _ _ _ g itOk_rng⟩
          · exact p.elim
        | _ => exact (show False from p).elim
      | _ => exact (show False from p).elim
    | exn C fs S2 => simp only [e, e2, R.bind_ok, R.bind_exn] at p ⊢; exact p
    | stuck => simp only [e, e2, R.bind_ok, R.bind_stuck] at p ⊢; exact p
  | exn C fs S1 => simp only [e, R.bind_exn] at p ⊢; exact p
  | stuck => simp only [e, R.bind_stuck] at p ⊢; exact p

/-! ### targets -/
def gNms : List Nat → TGs
  | [] => gNil
  | i :: is => gCons (gName i) (gNms is)
def gF (K : PySem.W.Frag) : FT → TG
  | .nm i => gName i
  | .tp is => gTup K is.length (gNms is)
def FT.slots : FT → List Nat
  | .nm i => [i]
  | .tp is => is
/-- the same but at these places -/
def But (is : List Nat) (σ σ' : L2.St) : Prop := σ'.length = σ.length ∧ ∀ i, i ∉ is → σ'[i]? = σ[i]?
theorem But.refl (is : List Nat) (σ : L2.St) : But is σ σ := ⟨rfl, fun _ _ => rfl⟩
theorem But.trans {is : List Nat} {a b c : L2.St} (h : But is a b) (g : But is b c) : But is a c := ⟨g.1.trans h.1, fun i hi => (g.2 i hi).trans (h.2 i hi)⟩
theorem But.set {is : List Nat} {σ : L2.St} {i : Nat} {v : V} (h : i ∈ is) : But is σ (σ.set i (some v)) := ⟨List.length_set, fun j hj => List.getElem?_set_ne (fun e : i = j => hj (by rw [← e]; exact h))⟩
variable {K : PySem.W.Frag} {H : Hp} {mu : Nat → Addr} {S : Store} {ρ ρ' : Env} {σ : L2.St} {d : D} {x : V}
theorem RE.asg {i : Nat} (re : RE N K H mu S ρ σ) (r : relD K H mu S d x) (h : asgN ρ i d = some ρ') : RE N K H mu S ρ' (σ.set i (some x)) := by
  unfold asgN at h
  split at h
  · rename_i hi
    obtain rfl := Option.some.inj h
    refine ⟨by rw [List.length_set, List.length_set]; exact re.len, fun j e hj => ?_, fun x hx => ?_⟩
    by_cases c : j = i
    · subst c
      rw [List.getElem?_set_self hi] at hj
      have ej : d = e := Option.some.inj (Option.some.inj hj)
      exact ⟨ej ▸ r.2, x, by rw [List.getElem?_set_self (by rw [← re.len]; exact hi)], ej ▸ r.1⟩
    · rw [List.getElem?_set_ne (Ne.symm c)] at hj
      obtain ⟨w, v, h1, h2⟩ := re.get j e hj
      exact ⟨w, v, by rw [List.getElem?_set_ne (Ne.symm c)]; exact h1, h2⟩
    · obtain ⟨h1, h2, h3, h4⟩ := re.hx x hx
      refine ⟨h1, h2, h3, fun j ej hj => ?_⟩
      by_cases c : i = j
      · subst c
        rw [List.getElem?_set_self hi] at hj
        cases Option.some.inj hj
      · rw [List.getElem?_set_ne c] at hj ⊢
        exact h4 j ej hj
  · cases h
theorem gNms_ok {Q : L2.St → Hp → Prop} : ∀ {is : List Nat} {ds : List D} {vs : List V} {ρ ρ' : Env} {σ : L2.St} {all : List Nat}, (∀ i ∈ is, i ∈ all) → RE N K H mu S ρ σ → RVs K H mu ds vs → D.wfs S.length ds = true → asgNs ρ is ds = some ρ' → (∀ σ', RE N K H mu S ρ' σ' → But all σ σ' → Q σ' H) → gNms is vs σ H Q
  | [], [], vs, ρ, ρ', σ, all, _, re, r, w, h, q => by
    have h : some ρ = some ρ' := h
    obtain rfl := Option.some.inj h
    exact ⟨r, q σ re (But.refl _ _)⟩
  | [], d :: ds, vs, ρ, ρ', σ, all, _, re, r, w, h, q => by cases h
  | i :: is, [], vs, ρ, ρ', σ, all, _, re, r, w, h, q => by cases h
  | i :: is, d :: ds, vs, ρ, ρ', σ, all, hs, re, r, w, h, q => by
    obtain ⟨v, vr, e, r1, r2⟩ := r
    have w' : D.wf S.length d = true ∧ D.wfs S.length ds = true := by simpa [D.wfs] using w
    have h : (asgN ρ i d).bind (fun ρ1 => asgNs ρ1 is ds) = some ρ' := h
    obtain ⟨ρ1, h1, h2⟩ := Option.bind_eq_some_iff.mp h
    exact ⟨v, vr, e, gNms_ok (fun j hj => hs j (List.mem_cons_of_mem _ hj)) (re.asg ⟨r1, w'.1⟩ h1) r2 w'.2 h2 fun σ' re' b => q σ' re' ((But.set (hs i List.mem_cons_self)).trans b)⟩
theorem asgNs_len : ∀ {is : List Nat} {ds : List D} {ρ ρ' : Env}, asgNs ρ is ds = some ρ' → ds.length = is.length
  | [], [], _, _, _ => rfl
  | [], _ :: _, _, _, h => by cases h
  | _ :: _, [], _, _, h => by cases h
  | i :: is, d :: ds, ρ, ρ', h => by
    have h : (asgN ρ i d).bind (fun ρ1 => asgNs ρ1 is ds) = some ρ' := h
    obtain ⟨ρ1, _, h2⟩ := Option.bind_eq_some_iff.mp h
    rw [List.length_cons, List.length_cons, asgNs_len h2]
theorem gF_ok {t : FT} {Q : L2.St → Hp → Prop} (re : RE N K H mu S ρ σ) (r : relD K H mu S d x) (h : asgT ρ t d = some ρ') (q : ∀ σ', RE N K H mu S ρ' σ' → But t.slots σ σ' → Q σ' H) : gF K t x σ H Q := by
  cases t with
  | nm i => exact q _ (re.asg r h) (But.set (List.mem_singleton.mpr rfl))
  | tp is =>
    cases d with
    | tup ds =>
      obtain ⟨a, vs, e, hq, r1⟩ := r.1
      have h : asgNs ρ is ds = some ρ' := h
      exact ⟨a, vs, e, hq, by rw [r1.length]; exact asgNs_len h, gNms_ok (fun _ z => z) re r1 r.2 h q⟩
    | _ => cases h
theorem wipe_at : ∀ (vs : List Nat) (σ : L2.St) (i : Nat), (L2.wipe σ vs)[i]? = if i ∈ vs ∧ i < σ.length then some none else σ[i]?
  | [], σ, i => by simp [L2.wipe]
  | v :: vs, σ, i => by
    unfold L2.wipe
    by_cases e : v = i
    · subst e
      by_cases h : v < σ.length
      · rw [List.getElem?_set_self (by rw [L2.wipe_length]; exact h), if_pos ⟨List.mem_cons_self, h⟩]
      · rw [if_neg fun z => h z.2, List.getElem?_eq_none (by rw [List.length_set, L2.wipe_length]; omega), List.getElem?_eq_none (by omega)]
    · rw [List.getElem?_set_ne e, wipe_at vs σ i]
      have c : (i ∈ v :: vs ∧ i < σ.length) ↔ (i ∈ vs ∧ i < σ.length) := by simp [Ne.symm e]
      by_cases h : i ∈ vs ∧ i < σ.length
      · rw [if_pos h, if_pos (c.mpr h)]
      · rw [if_neg h, if_neg fun z => h (c.mp z)]
theorem wipe_but {is vs : List Nat} {σ σ' : L2.St} (b : But is σ σ') (h : ∀ i ∈ is, i ∈ vs) : L2.wipe σ' vs = L2.wipe σ vs := by
  apply List.ext_getElem?
  intro i
  rw [wipe_at, wipe_at, b.1]
  by_cases c : i ∈ vs ∧ i < σ.length
  · rw [if_pos c, if_pos c]
  · rw [if_neg c, if_neg c]
    by_cases hi : i ∈ is
    · have : ¬ i < σ.length := fun z => c ⟨h i hi, z⟩
      rw [List.getElem?_eq_none (by rw [b.1]; omega), List.getElem?_eq_none (by omega)]
    · exact b.2 i hi
theorem wipe_wipe (σ : L2.St) (vs : List Nat) : L2.wipe (L2.wipe σ vs) vs = L2.wipe σ vs := by
  apply List.ext_getElem?
  intro i
  rw [wipe_at, wipe_at, L2.wipe_length]
  by_cases c : i ∈ vs ∧ i < σ.length
  · rw [if_pos c, if_pos c]
  · rw [if_neg c, if_neg c]
theorem wipeF_at : ∀ (vs : List Nat) (ρ : Env) (i : Nat), (Fx.wipe ρ vs)[i]? = if i ∈ vs ∧ i < ρ.length then some none else ρ[i]?
  | [], ρ, i => by simp [Fx.wipe]
  | v :: vs, ρ, i => by
    have len : ∀ vs : List Nat, (Fx.wipe ρ vs).length = ρ.length := fun vs => by
      induction vs with
      | nil => rfl
      | cons v vs ih => unfold Fx.wipe; rw [List.length_set, ih]
    unfold Fx.wipe
    by_cases e : v = i
    · subst e
      by_cases h : v < ρ.length
      · rw [List.getElem?_set_self (by rw [len]; exact h), if_pos ⟨List.mem_cons_self, h⟩]
      · rw [if_neg fun z => h z.2, List.getElem?_eq_none (by rw [List.length_set, len]; omega), List.getElem?_eq_none (by omega)]
    · rw [List.getElem?_set_ne e, wipeF_at vs ρ i]
      have c : (i ∈ v :: vs ∧ i < ρ.length) ↔ (i ∈ vs ∧ i < ρ.length) := by simp [Ne.symm e]
      by_cases h : i ∈ vs ∧ i < ρ.length
      · rw [if_pos h, if_pos (c.mpr h)]
      · rw [if_neg h, if_neg fun z => h (c.mp z)]
theorem wipeF_len (ρ : Env) (vs : List Nat) : (Fx.wipe ρ vs).length = ρ.length := by
  induction vs with
  | nil => rfl
  | cons v vs ih => unfold Fx.wipe; rw [List.length_set, ih]
theorem RE.wipe (hN : N.hx = none) (re : RE N K H mu S ρ σ) (vs : List Nat) : RE N K H mu S (Fx.wipe ρ vs) (L2.wipe σ vs) := by
  refine ⟨by rw [wipeF_len, L2.wipe_length]; exact re.len, fun i d h => ?_, fun x hx => by rw [hN] at hx; cases hx⟩
  rw [wipeF_at] at h
  split at h
  · cases Option.some.inj h
  · rename_i c
    obtain ⟨w, v, h1, h2⟩ := re.get i d h
    refine ⟨w, v, ?_, h2⟩
    rw [wipe_at, if_neg (by rw [← re.len]; exact c)]
    exact h1
end
end Fx
set_option Elab.async false
set_option linter.all false
set_option autoImplicit false
set_option maxRecDepth 100000
set_option maxHeartbeats 4000000
/-! FxJ: comprehensions. -/
namespace Fx
open PySem PySem.Spec PyProof.Rows L2

section
variable {N : Nm} {K : PySem.W.Frag} {H H' : Hp} {mu mu' : Nat → Addr} {S S' : Store}
/-- a list that the store does not name is rewritten -/
theorem RS.out (r : RS N K H mu S) {q : Addr} {vs ws : List V} (hq : H q = some (.lst vs)) (no : ∀ n, Mt S n → mu n ≠ q) : RS N K (upd H q (.lst ws)) mu S := by
  have keep : ∀ b u, b ≠ q → H b = some u → upd H q (.lst ws) b = some u := fun b u hb e => by rw [upd_ne hb]; exact e
  have kt : ∀ a us, SqT K H a us → SqT K (upd H q (.lst ws)) a us := fun a us z => by
    rcases z with (z | ⟨ob, z⟩) | z
    · exact .inl (.inl (keep _ _ (fun e => by rw [e, hq] at z; cases z) z))
    · exact .inl (.inr ⟨ob, keep _ _ (fun e => by rw [e, hq] at z; cases z) z⟩)
    · exact .inr z
  refine ⟨fun n o e => ?_, r.wf, r.inj⟩
  have q' := r.ob n o e
  have w' := r.wf n o e
  cases o with
  | frz us =>
    obtain ⟨vs2, g, q2⟩ := q'
    refine ⟨vs2, ?_, RVs.mono kt (fun _ _ => rfl) us vs2 w' q2⟩
    rcases g with ⟨ob, g⟩ | g
    · exact .inl ⟨ob, keep _ _ (fun z2 => by rw [z2, hq] at g; cases g) g⟩
    · exact .inr g
  | lst us => exact q'.mono kt (fun _ _ => rfl) w' fun u z' => keep _ u (no n (by unfold Mt; rw [e]; trivial)) z'
  | ins C fs => exact q'.mono kt (fun _ _ => rfl) w' fun u z' => keep _ u (no n (by unfold Mt; rw [e]; trivial)) z'
theorem Gw.out (g : Gw N K H mu S H' mu' S') {q : Addr} {vs ws : List V} (h0 : H q = none) (hq : H' q = some (.lst vs)) (no : ∀ n, Mt S' n → mu' n ≠ q) : Gw N K H mu S (upd H' q (.lst ws)) mu' S' where
  rs := g.rs.out hq no
  le := g.le
  mus := g.mus
  fr := fun b o e hb => by rw [upd_ne (ne_of_none e h0)]; exact g.fr b o e hb
  new := g.new
  som := fun b h => by
    by_cases z : b = q
    · rw [z, upd_same]; simp
    · rw [upd_ne z]; exact g.som b h
  mt := g.mt
/-- that list becomes a new place of the store -/
theorem Gw.adopt (g : Gw N K H mu S H' mu' S') {q : Addr} {vs : List V} {xs : List D} (h0 : H q = none) (hq : H' q = some (.lst vs)) (no : ∀ n, Mt S' n → mu' n ≠ q) (r : RVs K H' mu' xs vs) (w : D.wfs S'.length xs = true) :
    Gw N K H mu S H' (muN mu' S'.length q) (S' ++ [.lst xs]) := by
  have hm : ∀ n, n < S'.length → muN mu' S'.length q n = mu' n := fun n h => muN_ne (Nat.ne_of_lt h)
  have at_ : ∀ n u, (S' ++ [O.lst xs])[n]? = some u → (n < S'.length ∧ S'[n]? = some u) ∨ (n = S'.length ∧ u = .lst xs) := fun n u e => by
    by_cases z : n < S'.length
    · rw [List.getElem?_append_left z] at e
      exact .inl ⟨z, e⟩
    · rw [List.getElem?_append_right (Nat.le_of_not_lt z)] at e
      obtain ⟨l, e2⟩ := List.getElem?_eq_some_iff.mp e
      have l' : n - S'.length < 1 := by simpa using l
      have n0 : n = S'.length := by omega
      subst n0
      exact .inr ⟨rfl, by simpa using e2.symm⟩
  have mt_ : ∀ n, n < S'.length → Mt (S' ++ [O.lst xs]) n → Mt S' n := fun n h hn => by
    unfold Mt at hn ⊢
    rw [List.getElem?_append_left h] at hn
    exact hn
  refine ⟨⟨fun n u e => ?_, fun n u e => ?_, fun n m hn hm' e => ?_⟩, by simp; have := g.le; omega, fun n h => (hm n (Nat.lt_of_lt_of_le h g.le)).trans (g.mus n h), g.fr, fun n h1 h2 => ?_, g.som, fun n h hn => g.mt n h (mt_ n (Nat.lt_of_lt_of_le h g.le) hn)⟩
  · rcases at_ n u e with ⟨z, e⟩ | ⟨rfl, rfl⟩
    · rw [hm n z]
      exact (g.rs.ob n u e).mono (fun _ _ h => h) hm (g.rs.wf n u e) fun _ z => z
    · rw [muN_eq]
      exact ⟨vs, hq, RVs.mono (fun _ _ h => h) hm xs vs w r⟩
  · rcases at_ n u e with ⟨z, e⟩ | ⟨rfl, rfl⟩
    · exact O.wf_le (by simp) (g.rs.wf n u e)
    · exact D.wfs_le (by simp) xs w
  · have ln := hn.lt
    have lm := hm'.lt
    rw [List.length_append, List.length_singleton] at ln lm
    by_cases z : n < S'.length
    · rw [hm n z] at e
      by_cases z' : m < S'.length
      · rw [hm m z'] at e
        exact g.rs.inj n m (mt_ n z hn) (mt_ m z' hm') e
      · have m0 : m = S'.length := by omega
        subst m0
        rw [muN_eq] at e
        exact absurd e (no n (mt_ n z hn))
    · have n0 : n = S'.length := by omega
      subst n0
      by_cases z' : m < S'.length
      · rw [hm m z', muN_eq] at e
        exact absurd e.symm (no m (mt_ m z' hm'))
      · omega
  · rw [List.length_append, List.length_singleton] at h2
    by_cases z : n < S'.length
    · rw [hm n z]
      exact g.new n h1 z
    · have n0 : n = S'.length := by omega
      subst n0
      rw [muN_eq]
      exact h0
/-- a place that the store does not name is not named later -/
theorem Gw.noMt (g : Gw N K H mu S H' mu' S') {q : Addr} (hq : H q ≠ none) (no : ∀ n, Mt S n → mu n ≠ q) : ∀ n, Mt S' n → mu' n ≠ q := fun n hn e => by
  by_cases z : n < S.length
  · rw [g.mus n z] at e
    exact no n (g.mt n z hn) e
  · have := g.new n (Nat.le_of_not_lt z) hn.lt
    rw [e] at this
    exact hq this
end

section
variable {X : Cx} {N : Nm} {W : WX}
/-- no exception is wished for -/
abbrev W0 : WX := fun _ _ _ _ => False
/-- one turn of a comprehension by the evaluator, as a post -/
theorem lcTurn_ok {own : List Nat} {t : FT} {ρ : Env} {ts : Env → Store → R Bool} {fv : Env → Store → R D} {d : D} {S S' : Store} {o : Option D} (h : lcTurn own t ρ ts fv d S = .ok o S') :
    ∃ ρ' k S3, asgT (wipe ρ own) t d = some ρ' ∧ tidyB S (ts ρ' S) = .ok k S3 ∧ ((k = true ∧ ∃ y, o = some y ∧ tidy S3 (fv ρ' S3) = .ok y S') ∨ (k = false ∧ o = none ∧ S' = S3)) := by
  unfold lcTurn at h
  split at h
  · rename_i ρ' e
    cases e2 : tidyB S (ts ρ' S) with
    | ok k S3 =>
      rw [e2] at h
      simp only [R.bind_ok] at h
      refine ⟨ρ', k, S3, e, e2, ?_⟩
      cases k with
      | true =>
        simp only [if_true] at h
        cases e3 : tidy S3 (fv ρ' S3) with
        | ok y S4 => rw [e3] at h; simp only [R.bind_ok] at h; cases h; exact .inl ⟨rfl, y, rfl, rfl⟩
        | exn C fs S4 => rw [e3] at h; cases h
        | stuck => rw [e3] at h; cases h
      | false =>
        have h : R.ok none S3 = R.ok o S' := h
        cases h
        exact .inr ⟨rfl, rfl, rfl⟩
    | exn C fs S3 => rw [e2] at h; cases h
    | stuck => rw [e2] at h; cases h
  · cases h
theorem lcLoop_step {f : D → Store → R (Option D)} {chk : Store → Bool} {d : D} {ds acc ys : List D} {S S' : Store} (h : lcLoop f chk (d :: ds) acc S = .ok ys S') :
    ∃ o S1, f d S = .ok o S1 ∧ chk S1 = true ∧ acc.length < line ∧ ((∃ y, o = some y ∧ lcLoop f chk ds (acc ++ [y]) S1 = .ok ys S') ∨ (o = none ∧ lcLoop f chk ds acc S1 = .ok ys S')) := by
  rw [lcLoop] at h
  cases e : f d S with
  | ok o S1 =>
    rw [e] at h
    simp only [R.bind_ok] at h
    split at h
    · rename_i c
      rw [Bool.and_eq_true, decide_eq_true_eq] at c
      refine ⟨o, S1, rfl, c.1, c.2, ?_⟩
      cases o with
      | some y => exact .inl ⟨y, rfl, h⟩
      | none => exact .inr ⟨rfl, h⟩
    · cases h
  | exn C fs S1 => rw [e] at h; cases h
  | stuck => rw [e] at h; cases h
theorem lc_rd {own : List Nat} {t : FT} {fi : PIt} {ts : Env → Store → R Bool} {fv : Env → Store → R D} {σ : L2.St} {H : Hp} {Q : VK} (hN0 : N.hx = none) (hsl : ∀ i ∈ t.slots, i ∈ own)
    (h : tE N X.K W (fun ρ S => ((fi ρ S).bind fun p S1 => (lcLoop (lcTurn own t ρ ts fv) (same p.2 S1) p.1 [] S1).noex.bind fun ys S2 => .ok (.ref S2.length) (S2 ++ [.lst ys]))) σ H Q) :
    tLc (iF N X.K W fi) (gF X.K t) (tT N X.K W0 ts) (tE N X.K W0 fv) own σ H Q := by
  obtain ⟨mu, ρ, S, re, rs, p⟩ := h
  refine ⟨mu, ρ, S, re, rs, (Post.bind (rel' := relI N X.K) p).imp ?_⟩
  rintro J H1 ⟨mu1, S1, ⟨items, gd⟩, itok, g1, p1⟩
  intro q hq
  dsimp only at p1
  cases e : lcLoop (lcTurn own t ρ ts fv) (same gd S1) items [] S1 with
  | exn C fs S2 => rw [e] at p1; exact (show False from p1).elim
  | stuck => rw [e] at p1; exact (show False from p1).elim
  | ok ys S2 =>
  rw [e] at p1
  replace p1 : Post N X.K H1 mu1 S1 (relD X.K) (.ok (.ref S2.length) (S2 ++ [.lst ys])) Q (XW W σ) := p1
  have re1 := re.gw rs g1
  have some1 : ∀ {b : Addr} {o : HO}, (upd H1 q o) q ≠ none := fun {b o} => by rw [upd_same]; simp
  refine ⟨fun i m H' => m = items.length - i ∧ i ≤ items.length ∧ ∃ mu' S' acc vacc, Gw N X.K H1 mu1 S1 H' mu' S' ∧ same gd S1 S' = true ∧ H' q = some (.lst vacc) ∧ (∀ n, Mt S' n → mu' n ≠ q) ∧ RVs X.K H' mu' acc vacc ∧ D.wfs S'.length acc = true ∧
      lcLoop (lcTurn own t ρ ts fv) (same gd S1) (items.drop i) acc S' = .ok ys S2, ⟨items.length, by simp, Nat.zero_le _, mu1, S1, [], [], Gw.laid g1.rs hq, ?_, upd_same, fun n hn => g1.rs.mt_ne hn hq, rfl, rfl, by simpa using e⟩, ?_⟩
  · cases gd with
    | none => rfl
    | some n => exact decide_eq_true rfl
  rintro i m H' ⟨rfl, hi', mu', S', acc, vacc, g, hsm, hD, no, racc, wacc, hl⟩
  have now := itok i H' mu' S' g hsm
  by_cases hlt : i < items.length
  · have hd : items[i]? = some items[i] := by simp [hlt]
    obtain ⟨go, yl⟩ := now.1 _ hd
    refine .inr ⟨go, fun H'' => ∃ mu' S' acc vacc, Gw N X.K H1 mu1 S1 H'' mu' S' ∧ same gd S1 S' = true ∧ H'' q = some (.lst vacc) ∧ (∀ n, Mt S' n → mu' n ≠ q) ∧ RVs X.K H'' mu' acc vacc ∧ D.wfs S'.length acc = true ∧
      lcLoop (lcTurn own t ρ ts fv) (same gd S1) (items.drop (i + 1)) acc S' = .ok ys S2, fun H'' z => ⟨items.length - (i + 1), by omega, rfl, hlt, z⟩, fun x H2 y => ?_⟩
    obtain ⟨e2, rx⟩ := yl x H2 y
    subst e2
    have dr : items.drop i = items[i] :: items.drop (i + 1) := (List.getElem_cons_drop (h := hlt)).symm
    rw [dr] at hl
    obtain ⟨o, S3, ef, ck, la, hl'⟩ := lcLoop_step hl
    obtain ⟨ρ', k, S4, ea, et, hk⟩ := lcTurn_ok ef
    have rew := (re1.gw g1.rs g).wipe hN0 own
    refine gF_ok rew rx ea fun σ2 re2 bt => ⟨(wipe_but bt hsl).trans (wipe_wipe σ _), ?_⟩
    refine ⟨mu', ρ', S', re2, g.rs, Post.tidyB g.rs ?_⟩
    rw [et]
    intro b H3 mu3 g3 eb
    have eb : k = b := eb
    subst eb
    have hD3 : H3 q = some (.lst vacc) := g3.fr q _ hD no
    have no3 := g3.noMt (by rw [hD]; simp) no
    have racc3 := g3.rvs g.rs wacc racc
    have wacc3 := D.wfs_le g3.le acc wacc
    rcases hk with ⟨rfl, y, rfl, ev⟩ | ⟨rfl, rfl, rfl⟩
    · refine iteT ⟨mu3, ρ', S4, re2.gw g.rs g3, g3.rs, Post.tidy g3.rs ?_⟩
      rw [ev]
      intro v H4 mu4 g4 rv
      have hD4 : H4 q = some (.lst vacc) := g4.fr q _ hD3 no3
      have no4 := g4.noMt (by rw [hD3]; simp) no3
      refine ⟨vacc, hD4, by rw [racc.length, ← line_eq]; exact la, ?_⟩
      rcases hl' with ⟨y', e5, hl'⟩ | ⟨e5, _⟩
      · obtain rfl := Option.some.inj e5
        have gg := (g.trans g3).trans g4
        have racc4 := g4.rvs g3.rs wacc3 racc3
        have wacc4 := D.wfs_le g4.le acc wacc3
        have kt : ∀ a us, SqT X.K H4 a us → SqT X.K (upd H4 q (.lst (vacc ++ [v]))) a us := fun a us z => by
          rcases z with (z | ⟨ob, z⟩) | z
          · exact .inl (.inl (by rw [upd_ne (fun e => by rw [e, hD4] at z; cases z)]; exact z))
          · exact .inl (.inr ⟨ob, by rw [upd_ne (fun e => by rw [e, hD4] at z; cases z)]; exact z⟩)
          · exact .inr z
        have wnew : D.wfs S3.length (acc ++ [y]) = true := by rw [wfs_append, wacc4]; simp [D.wfs, rv.2]
        exact ⟨mu4, S3, acc ++ [y], vacc ++ [v], gg.out hq hD4 no4, ck, upd_same, no4, RVs.mono kt (fun _ _ => rfl) _ _ wnew (racc4.append (RVs.single rv.1)), wnew, hl'⟩
      · cases e5
    · refine iteF ?_
      rcases hl' with ⟨y', e5, _⟩ | ⟨_, hl'⟩
      · cases e5
      · exact ⟨mu3, S3, acc, vacc, g.trans g3, ck, hD3, no3, racc3, wacc3, hl'⟩
  · have ei : i = items.length := by omega
    subst ei
    rw [List.drop_length] at hl
    have hl : R.ok acc S' = R.ok ys S2 := by rw [lcLoop] at hl; exact hl
    cases hl
    refine .inl ⟨now.2 (Nat.le_refl _), ?_⟩
    refine p1 _ H' _ (g.adopt hq hD no racc wacc) ⟨?_, by simp [D.wf]⟩
    show V.ref q = .ref (muN mu' S2.length q S2.length)
    rw [muN_eq]
theorem s_lc {own : List (Str × Nat)} {t : FT} {tg iter elt : Expr} {ifs : List Expr} {scope : Scope} {pos : Pos} {fi : PIt} {ts : Env → Store → R Bool} {fv : Env → Store → R D} (hN0 : N.hx = none) (hc : X.calm = true) (hN : X.N.Nodup) (hi : PI X tg iter (iF N X.K W fi)) (ok : BlkOk X.N X.env.scope scope own)
    (hsl : ∀ i ∈ t.slots, i ∈ own.map (·.2))
    (hg : ∀ (s : Shared) (H : Hp) (C : Addr) (cl : List (Str × Addr)) (fp : List Addr), PG (X.blk s H scope (compEnvC scope cl C X.env) fp) tg (gF X.K t))
    (ht : ∀ (s : Shared) (H : Hp) (C : Addr) (cl : List (Str × Addr)) (fp : List Addr), PTs (X.blk s H scope (compEnvC scope cl C X.env) fp) ifs (tT N X.K W0 ts))
    (he : ∀ (s : Shared) (H : Hp) (C : Addr) (cl : List (Str × Addr)) (fp : List Addr), PE (X.blk s H scope (compEnvC scope cl C X.env) fp) elt (tE N X.K W0 fv)) (hs : ∀ x, foldedSetIterable iter X.env x = pure x) :
    PE X (.ListComp elt [⟨tg, iter, ifs, 0⟩] scope pos) (tE N X.K W fun ρ S => ((fi ρ S).bind fun p S1 =>
      (lcLoop (lcTurn (own.map (·.2)) t ρ ts fv) (same p.2 S1) p.1 [] S1).noex.bind fun ys S2 => .ok (.ref S2.length) (S2 ++ [.lst ys]))) :=
  peI (pe_lc hc hN hi ok hg ht he hs) fun _ _ _ h => lc_rd hN0 hsl h
end
end Fx
set_option Elab.async false
set_option linter.all false
set_option autoImplicit false
set_option maxRecDepth 100000
set_option maxHeartbeats 4000000
/-! FxK: a checker of expressions, and that it is right. -/
namespace Fx
open PySem PySem.Spec PyProof.Rows L2

/-! ### the checker -/
structure Tab where
  fnm : List Str
  cnm : List Str
  xnm : List Str
  fld : List Str
  nx : Nat
structure Sc where
  sc : Scope
  nm : List Str
  fn : Str → Bool
  hot : Bool
  hx : Option Nat
def visB (sc : Scope) (x : Str) : Bool := match sc.names.lookup x with
  | some .local => true
  | some .cell => true
  | some .free => true
  | _ => false
def glB (sc : Scope) (x : Str) : Bool := match sc.names.lookup x with
  | some .globalImplicit => true
  | _ => false
def locB (S : Sc) (x : Str) : Bool := match S.sc.names.lookup x with
  | some .local => true
  | some .cell => S.fn x
  | _ => false
def safeN (x : Str) : Bool := !(x == ("__debug__" : Str)) && !(x == ("__classdict__" : Str))
def conB : D → Const → Bool
  | .non, .none => true
  | .bl a, .bool b => a == b
  | .int a, .int b => decide (a = b)
  | .str s, .str x => decide (strOf s = x)
  | _, _ => false
def bltS : Blt → Str
  | .len => "len"
  | .abs => "abs"
  | .min => "min"
  | .max => "max"
  | .sum => "sum"
  | .sorted => "sorted"
  | .tuple => "tuple"
  | .list => "list"
  | .int => "int"
  | .str => "str"
def tyN : Ty → String
  | .tInt => "int"
  | .tBool => "bool"
  | .tStr => "str"
  | .tTuple => "tuple"
  | .tList => "list"
def tyS : Ty → Str
  | .tInt => "int"
  | .tBool => "bool"
  | .tStr => "str"
  | .tTuple => "tuple"
  | .tList => "list"
def coolB : Blt → Bool
  | .min => true
  | .max => true
  | _ => false
def notSlice : Expr → Bool
  | .Slice _ _ _ _ => false
  | _ => true
def notSet : Expr → Bool
  | .Set _ _ _ => false
  | _ => true
def notStar : Expr → Bool
  | .Starred _ _ => false
  | _ => true
def notCall : Expr → Bool
  | .Call _ _ _ _ => false
  | _ => true
def ownOf (N : List Str) (own : List Nat) : List (Str × Nat) := own.map fun i => ((N[i]?).getD "", i)
def inS (S : Sc) (scope : Scope) : Sc := ⟨relS scope S.sc, S.nm, fun x => scope.names.lookup x == some .cell, false, none⟩
def ckN (S : Sc) (i : Nat) : Expr → Bool
  | .Name x _ => decide (S.nm[i]? = some x) && locB S x
  | _ => false
def ckNs (S : Sc) : List Nat → List Expr → Bool
  | [], [] => true
  | i :: is, e :: es => ckN S i e && ckNs S is es
  | _, _ => false
def ckG (S : Sc) : FT → Expr → Bool
  | .nm i, e => ckN S i e
  | .tp is, .Tuple es _ _ => !S.hot && ckNs S is es
  | _, _ => false
mutual
def ckE (T : Tab) : Sc → FE → Expr → Bool
  | S, .loc i, e => (match e with
    | .Name x _ => decide (S.nm[i]? = some x) && visB S.sc x && safeN x
    | _ => false)
  | S, .con c, e => (match e with
    | .Constant k _ _ => conB c k
    | _ => false)
  | S, .glo k, e => (match e with
    | .Name x _ => decide (T.cnm[k]? = some x) && glB S.sc x && safeN x
    | _ => false)
  | S, .bin op a b, e => (match e with
    | .BinOp a' op' b' _ => decide (op = op') && ckE T S a a' && ckE T S b b'
    | _ => false)
  | S, .neg a, e => (match e with
    | .UnaryOp .USub a' _ => ckE T S a a'
    | _ => false)
  | S, .not a, e => (match e with
    | .UnaryOp .Not a' _ => ckE T S a a'
    | _ => false)
  | S, .and es, e => (match e with
    | .BoolOp .And l _ => ckEs T S es l && !l.isEmpty
    | _ => false)
  | S, .or es, e => (match e with
    | .BoolOp .Or l _ => ckEs T S es l && !l.isEmpty
    | _ => false)
  | S, .cmp op a b, e => (match e with
    | .Compare a' [op'] [b'] _ => decide (op = op') && ckE T S a a' && ckE T S b b' && !behindInMarks op b'
    | _ => false)
  | S, .chain op1 op2 a b c, e => (match e with
    | .Compare a' [op1', op2'] [b', c'] _ => decide (op1 = op1') && decide (op2 = op2') && ckE T S a a' && ckE T S b b' && ckE T S c c' && !lastMarks [op1, op2] [b', c']
    | _ => false)
  | S, .ite c a b, e => (match e with
    | .IfExp c' a' b' _ => ckE T S c c' && ckE T S a a' && ckE T S b b'
    | _ => false)
  | S, .tup es, e => (match e with
    | .Tuple l _ _ => ckEs T S es l
    | _ => false)
  | S, .lst es, e => (match e with
    | .List l _ => ckEs T S es l
    | _ => false)
  | S, .blt b es, e => (match e with
    | .Call (.Name x _) (a' :: l) [] _ => decide (x = bltS b) && glB S.sc x && ckEs T S es (a' :: l) && !(S.hot && coolB b)
    | _ => false)
  | S, .mth m o es, e => (match e with
    | .Call (.Attribute o' nm ap) l [] cp => decide (nm = mthN m) && notCall o' && ckE T S o o' && ckEs T S es l && decide (l.length < 30) && (ap.endLine == cp.line)
    | _ => false)
  | S, .call f es, e => (match e with
    | .Call (.Name x _) (a' :: l) [] _ => decide (T.fnm[f]? = some x) && glB S.sc x && safeN x && ckEs T S es (a' :: l) && !S.hot
    | _ => false)
  | _, .fld _ _, _ => false
  | S, .xfld i f, e => (match e with
    | .Attribute (.Name x _) nm _ => decide (S.hx = some i) && decide (S.nm[i]? = some x) && visB S.sc x && safeN x && decide (T.fld[f]? = some nm)
    | _ => false)
  | S, .idx o i, e => (match e with
    | .Subscript o' i' _ => ckE T S o o' && ckE T S i i' && notSlice i'
    | _ => false)
  | S, .cut o lo hi, e => (match e with
    | .Subscript o' (.Slice (some lo') (some hi') none _) _ => ckE T S o o' && ckE T S lo lo' && ckE T S hi hi'
    | _ => false)
  | S, .cutL o lo, e => (match e with
    | .Subscript o' (.Slice (some lo') none none _) _ => ckE T S o o' && ckE T S lo lo'
    | _ => false)
  | S, .cutH o hi, e => (match e with
    | .Subscript o' (.Slice none (some hi') none _) _ => ckE T S o o' && ckE T S hi hi'
    | _ => false)
  | S, .isi o c, e => (match e with
    | .Call (.Name x _) [o', .Name t _] [] _ => decide (x = ("isinstance" : Str)) && glB S.sc x && decide (t = tyS c) && glB S.sc t && ckE T S o o' && notStar o'
    | _ => false)
  | S, .xisi i cs, e => (match e with
    | .Call (.Name x _) [.Name y _, .Name c _] [] _ => decide (x = ("isinstance" : Str)) && glB S.sc x && (decide (S.hx = some i) && decide (S.nm[i]? = some y) && visB S.sc y && safeN y) && glB S.sc c && (match cs with
      | [k] => decide (T.xnm[k]? = some c)
      | _ => false)
    | _ => false)
  | S, .lc own tg src cs elt, e => (match e with
    | .ListComp elt' [⟨tg', iter, ifs, k⟩] scope _ => !S.hot && decide (k = 0) && blkC S.nm S.sc scope (ownOf S.nm own) && (tg.slots.all fun i => decide (i ∈ own)) && ckG (inS S scope) tg tg' && ckI T S src iter && notSet iter &&
        ckEs T (inS S scope) cs ifs && decide (ifs.length ≤ 1) && ckE T (inS S scope) elt elt'
    | _ => false)
def ckEs (T : Tab) : Sc → FEs → List Expr → Bool
  | _, .nil, l => (match l with
    | [] => true
    | _ => false)
  | S, .cons f fs, l => (match l with
    | e :: es => notStar e && ckE T S f e && ckEs T S fs es
    | _ => false)
def ckI (T : Tab) : Sc → FI → Expr → Bool
  | S, .seq f, e => ckE T S f e
  | S, .range1 a, e => (match e with
    | .Call (.Name x _) [a'] [] _ => decide (x = ("range" : Str)) && glB S.sc x && ckE T S a a' && notStar a'
    | _ => false)
  | S, .range2 a b, e => (match e with
    | .Call (.Name x _) [a', b'] [] _ => decide (x = ("range" : Str)) && glB S.sc x && ckE T S a a' && ckE T S b b' && notStar a' && notStar b'
    | _ => false)
end

/-! ### the context -/
structure Kx (X : Cx) (N : Nm) (T : Tab) (G : Glob) (cl : Orac) (W : WX) (S : Sc) (xc : Xc) : Prop where
  sc : X.env.scope = S.sc
  fn : X.fn = S.fn
  nm : X.N = S.nm
  nd : S.nm.Nodup
  calm : S.hot = false → X.calm = true
  hu : X.A.units + 128 < cLine
  tk : S.hot = false → Takes X W
  own : S.hot = false → ∀ (f : Nat) (x : Str), T.fnm[f]? = some x → ∃ fa fd ps lvl, OwnFn N X x (cl f) fa fd ps lvl
  con : ∀ (k : Nat) (x : Str), T.cnm[k]? = some x → ∃ d v u, G.consts[k]? = some d ∧ X.mg x = some u ∧ RelV v u ∧ (∀ H mu, RV X.K H mu d v) ∧ ∀ n, d.wf n = true
  blt : ∀ x ∈ (["len", "abs", "min", "max", "sum", "sorted", "tuple", "list", "int", "str", "bool", "isinstance", "range"] : List Str), X.mg x = none
  nox : S.hot = false → N.hx = none ∧ S.hx = none
  xf : ∀ (i : Nat) (x : Str) (f : Nat) (nm : Str) (p p2 : Pos), S.hx = some i → S.nm[i]? = some x → visB S.sc x = true → safeN x = true → T.fld[f]? = some nm → PE X (.Attribute (.Name x p) nm p2) (tE N X.K W (ev G cl xc (.xfld i f)).v)
  xi : ∀ (i : Nat) (x : Str) (k : Nat) (c : Str) (p p2 p3 p4 : Pos), S.hx = some i → S.nm[i]? = some x → visB S.sc x = true → safeN x = true → T.xnm[k]? = some c → glB S.sc c = true → Gl X "isinstance" →
    PE X (.Call (.Name "isinstance" p) [.Name x p2, .Name c p3] [] p4) (tE N X.K W (ev G cl xc (.xisi i [k])).v)
theorem OwnFn.blk {N : Nm} {X : Cx} {x : Str} {g : List D → Store → R D} {fa : Addr} {fd : FuncData} {ps : List Str} {lvl : Nat} (F : OwnFn N X x g fa fd ps lvl) (s : Shared) (H : Hp) (scope : Scope) (ce : PySem.Env) (fp : List Addr) :
    OwnFn N (X.blk s H scope ce fp) x g fa fd ps lvl := ⟨F.mg, F.ok, F.room, F.kp, F.bd, F.st⟩
theorem takes0 {X : Cx} : Takes X W0 := fun u s' ⟨a, B, sI, pins, σ, H, cls, d, e, I, nb, up, sky, na, os, ag, w⟩ => w.elim
section
variable {X : Cx} {N : Nm} {T : Tab} {G : Glob} {cl : Orac} {W : WX} {S : Sc} {xc : Xc}
theorem Kx.blk (k : Kx X N T G cl W S xc) (hh : S.hot = false) (s : Shared) (H : Hp) (scope : Scope) (C : Addr) (cells : List (Str × Addr)) (fp : List Addr) :
    Kx (X.blk s H scope (compEnvC scope cells C X.env) fp) N T G cl W0 (inS S scope) xc where
  sc := by
    show relS scope X.env.scope = relS scope S.sc
    rw [k.sc]
  fn := rfl
  nm := k.nm
  nd := k.nd
  calm := fun _ => k.calm hh
  hu := k.hu
  tk := fun _ => takes0
  own := fun _ f x e => let ⟨fa, fd, ps, lvl, F⟩ := k.own hh f x e; ⟨fa, fd, ps, lvl, F.blk s H scope _ fp⟩
  con := k.con
  blt := k.blt
  nox := fun _ => ⟨(k.nox hh).1, rfl⟩
  xf := fun i x f nm p p2 e => by cases e
  xi := fun i x f nm p p2 p3 p4 e => by cases e
theorem vis_is (k : Kx X N T G cl W S xc) {x : Str} (h : visB S.sc x = true) : Vis X.env.scope x := by
  unfold visB at h
  unfold Vis
  rw [k.sc]
  split at h
  · rename_i e; exact .inl e
  · rename_i e; exact .inr (.inl e)
  · rename_i e; exact .inr (.inr e)
  · cases h
theorem gl_is (k : Kx X N T G cl W S xc) {x : Str} (h : glB S.sc x = true) : Gl X x := by
  unfold glB at h
  show X.env.scope.names.lookup x = _
  rw [k.sc]
  split at h
  · rename_i e; exact e
  · cases h
theorem loc_is (k : Kx X N T G cl W S xc) {x : Str} (h : locB S x = true) : L2.Loc X.env.scope x ∧ (X.fn x = true ∨ X.env.scope.names.lookup x = some .local) := by
  unfold locB at h
  unfold L2.Loc
  rw [k.sc, k.fn]
  split at h
  · rename_i e; exact ⟨.inl e, .inr e⟩
  · rename_i e; exact ⟨.inr e, .inl h⟩
  · cases h
theorem safe_is {x : Str} (h : safeN x = true) : (x == ("__debug__" : Str)) = false ∧ (x == ("__classdict__" : Str)) = false := by
  unfold safeN at h
  simpa using h
theorem pg_n (k : Kx X N T G cl W S xc) {i : Nat} {e : Expr} (h : ckN S i e = true) : PG X e (gName i) ∧ ∀ es env, assignEach (e :: es) env = (false, assign e env) :: assignEach es env := by
  cases e with
  | Name x p =>
    have h : (decide (S.nm[i]? = some x) && locB S x) = true := h
    rw [Bool.and_eq_true, decide_eq_true_eq] at h
    obtain ⟨h1, h2⟩ := loc_is k h.2
    exact ⟨pg_name (by rw [k.nm]; exact k.nd) (by rw [k.nm]; exact h.1) h1 h2, fun es env => rfl⟩
  | _ => cases h
theorem pgs_n (k : Kx X N T G cl W S xc) : ∀ {is : List Nat} {es : List Expr}, ckNs S is es = true → PGs X es (gNms is) ∧ (assignEach es X.env).length = is.length ∧ (assignEach es X.env).findIdx? (·.1) = none
  | [], [], _ => ⟨pgs_nil, rfl, rfl⟩
  | [], _ :: _, h => by cases h
  | _ :: _, [], h => by cases h
  | i :: is, e :: es, h => by
    have h : (ckN S i e && ckNs S is es) = true := h
    rw [Bool.and_eq_true] at h
    obtain ⟨h1, h2⟩ := pg_n k h.1
    obtain ⟨g1, g2, g3⟩ := pgs_n k h.2
    have e1 := h2 es X.env
    refine ⟨pgs_cons h1 g1 (by rw [e1]; rfl), by rw [e1, List.length_cons, List.length_cons, g2], ?_⟩
    rw [e1, List.findIdx?_cons]
    simp [g3]
theorem pg_is (k : Kx X N T G cl W S xc) {t : FT} {e : Expr} (h : ckG S t e = true) : PG X e (gF X.K t) := by
  cases t with
  | nm i => exact (pg_n k (i := i) h).1
  | tp is =>
    cases e with
    | Tuple es j p =>
      have h : (!S.hot && ckNs S is es) = true := h
      rw [Bool.and_eq_true, Bool.not_eq_true'] at h
      obtain ⟨g1, g2, g3⟩ := pgs_n k h.2
      exact pg_tup (k.calm h.1) g1 g2 g3
    | _ => cases h
theorem con_is {c : D} {q : Const} {j : Nat} {p : Pos} (h : conB c q = true) : PE X (.Constant q j p) (tE N X.K W fun _ S => .ok c S) := by
  cases c with
  | non => cases q <;> first | exact s_con pe_non (fun _ _ => rfl) (fun _ => rfl) | (cases h)
  | bl b =>
    cases q with
    | bool b' =>
      have e : b = b' := by simpa [conB] using h
      subst e
      exact s_con pe_bl (fun _ _ => rfl) (fun _ => rfl)
    | _ => cases h
  | int i =>
    cases q with
    | int i' =>
      have e : i = i' := by simpa [conB] using h
      subst e
      exact s_con pe_int (fun _ _ => rfl) (fun _ => rfl)
    | _ => cases h
  | str s =>
    cases q with
    | str x =>
      have e : strOf s = x := by simpa [conB] using h
      subst e
      exact s_con pe_str (fun _ _ => rfl) (fun _ => rfl)
    | _ => cases h
  | _ => cases h
theorem cbF2 (b : Blt) (hc : coolB b = true → X.calm = true) : CallR X (bltV b) (rnF N X.K (bltF b)) := by
  cases b with
  | len => exact cb_len
  | abs => exact cb_abs
  | min => exact cb_min (hc rfl)
  | max => exact cb_max (hc rfl)
  | tuple => exact cb_tuple
  | list => exact cb_list
  | int => exact cb_int
  | str => exact cb_str
  | sum => exact cb_no fun ds S => rfl
  | sorted => exact cb_no fun ds S => rfl
theorem s_blt {b : Blt} {a : Expr} {l : List Expr} {p pos : Pos} {fs : Env → Store → R (List D)} (hm : X.mg (bltS b) = none) (hg : Gl X (bltS b)) (hc : coolB b = true → X.calm = true) (ha : PA X (a :: l) (tA N X.K W fs)) (hs : noStar (a :: l) = true) :
    PE X (.Call (.Name (bltS b) p) (a :: l) [] pos) (tE N X.K W fun ρ S => (fs ρ S).bind fun ds S1 => bltF b ds S1) := by
  obtain ⟨h4, h5⟩ := noStar_cons hs X.env
  have h6 := (noStar_any pos X.env h5).1
  cases b with
  | len => exact s_call (f := a) (t := fun _ => tC .non) (fun u hu => pe_callB (cbF2 (N := N) .len hc) hg hm (by decide +kernel) hu (by decide) (by decide) h4 h6) ha
  | abs => exact s_call (f := a) (t := fun _ => tC .non) (fun u hu => pe_callB (cbF2 (N := N) .abs hc) hg hm (by decide +kernel) hu (by decide) (by decide) h4 h6) ha
  | min => exact s_call (f := a) (t := fun _ => tC .non) (fun u hu => pe_callB (cbF2 (N := N) .min hc) hg hm (by decide +kernel) hu (by decide) (by decide) h4 h6) ha
  | max => exact s_call (f := a) (t := fun _ => tC .non) (fun u hu => pe_callB (cbF2 (N := N) .max hc) hg hm (by decide +kernel) hu (by decide) (by decide) h4 h6) ha
  | sum => exact s_call (f := a) (t := fun _ => tC .non) (fun u hu => pe_callB (cbF2 (N := N) .sum hc) hg hm (by decide +kernel) hu (by decide) (by decide) h4 h6) ha
  | sorted => exact s_call (f := a) (t := fun _ => tC .non) (fun u hu => pe_callB (cbF2 (N := N) .sorted hc) hg hm (by decide +kernel) hu (by decide) (by decide) h4 h6) ha
  | tuple => exact s_call (f := a) (t := fun _ => tC .non) (fun u hu => pe_callTy (cbF2 (N := N) .tuple hc) hg hm (by decide +kernel) hu (by decide) (by decide) h4 h6) ha
  | list => exact s_call (f := a) (t := fun _ => tC .non) (fun u hu => pe_callTy (cbF2 (N := N) .list hc) hg hm (by decide +kernel) hu (by decide) (by decide) h4 h6) ha
  | int => exact s_call (f := a) (t := fun _ => tC .non) (fun u hu => pe_callTy (cbF2 (N := N) .int hc) hg hm (by decide +kernel) hu (by decide) (by decide) h4 h6) ha
  | str => exact s_call (f := a) (t := fun _ => tC .non) (fun u hu => pe_callTy (cbF2 (N := N) .str hc) hg hm (by decide +kernel) hu (by decide) (by decide) h4 h6) ha
end
end Fx
set_option Elab.async false
set_option linter.all false
set_option autoImplicit false
set_option maxRecDepth 100000
set_option maxHeartbeats 4000000
/-! FxL: what the checker lets through is read by the evaluator. -/
namespace Fx
open PySem PySem.Spec PyProof.Rows L2

/-! ### isinstance with one built-in type -/
def kindN : Nat → String
  | 0 => "NoneType"
  | 1 => "bool"
  | 2 => "int"
  | 3 => "str"
  | 4 => "tuple"
  | _ => "list"
theorem kit_kind : ∀ k, k < 6 → ∀ c : Ty, kitB (kindN k) (tyN c) = some (isTy k c) := by
  intro k hk c
  have h : k = 0 ∨ k = 1 ∨ k = 2 ∨ k = 3 ∨ k = 4 ∨ k = 5 := by omega
  rcases h with rfl | rfl | rfl | rfl | rfl | rfl <;> cases c <;> decide +kernel
section
variable {X : Cx} {N : Nm} {T : Tab} {G : Glob} {cl : Orac} {W : WX} {S : Sc} {xc : Xc}
theorem kind_is {H : Hp} {mu : Nat → Addr} {S : Store} {d : D} {x : V} {k : Nat} (rs : RS N X.K H mu S) (r : relD X.K H mu S d x) (h : kindD S d = some k) : k < 6 ∧ TyX X.K H x (.type (kindN k)) := by
  cases d with
  | non => cases h; rw [show x = V.non from r.1]; exact ⟨by decide, .base .non⟩
  | bl b => cases h; rw [show x = V.bl b from r.1]; exact ⟨by decide, .base (.bl b)⟩
  | int b => cases h; rw [show x = V.int b from r.1]; exact ⟨by decide, .base (.int b)⟩
  | str b => cases h; rw [show x = V.str (strOf b) from r.1]; exact ⟨by decide, .base (.str _)⟩
  | tup xs =>
    cases h
    obtain ⟨a, vs, e, q, _⟩ := r.1
    subst e
    refine ⟨by decide, ?_⟩
    rcases q with (q | ⟨o, q⟩) | ⟨o, its, n, q1, q2, _⟩
    · exact .base (.tup q)
    · exact .fTuple q
    · exact .kTuple q1 q2
  | ref n =>
    have h : (match lstOf S n with
      | some _ => some 5
      | none => none) = some k := h
    cases e : lstOf S n with
    | none => rw [e] at h; cases h
    | some xs =>
      rw [e] at h
      cases h
      obtain ⟨vs, q, _⟩ := rs.lst e
      rw [show x = V.ref (mu n) from r.1]
      refine ⟨by decide, ?_⟩
      rcases q with (q | ⟨o, q⟩) | ⟨o, its, n, q1, q2, _⟩
      · exact .base (.lst q)
      · exact .base (.frz q)
      · exact .kList q1 q2
theorem boot_ty (c : Ty) : bootBuiltins (tyS c) = some (.type (tyN c)) := by cases c <;> decide +kernel
theorem tyS_ok (c : Ty) : tyS c ≠ "__name__" ∧ (tyS c == ("__debug__" : Str)) = false := by cases c <;> exact ⟨by decide, by decide⟩
theorem s_isi {o : Expr} {c : Ty} {p p2 pos : Pos} {fa : Env → Store → R D} (hm : X.mg "isinstance" = none) (hg : Gl X "isinstance") (hmt : X.mg (tyS c) = none) (hgt : Gl X (tyS c)) (ho : PE X o (tE N X.K W fa)) (hs : notStar o = true) :
    PE X (.Call (.Name "isinstance" p) [o, .Name (tyS c) p2] [] pos) (tE N X.K W fun ρ S => (fa ρ S).bind fun x S1 => optR ((kindD S1 x).map fun k => .bl (isTy k c)) S1) := by
  have hst : noStar [o, .Name (tyS c) p2] = true := by
    cases o <;> first | rfl | (cases hs)
  obtain ⟨h4, h5⟩ := noStar_cons hst X.env
  have hty : PE X (.Name (tyS c) p2) (tC (.ty (tyN c))) := pe_bltn hgt hmt (boot_ty c) rfl (tyS_ok c).1 (tyS_ok c).2
  refine peI (pe_callB call_isi hg hm (by decide +kernel) (pa_cons ho (pa_cons hty pa_nil rfl) h4) (by decide) (by decide) h4 (noStar_any pos X.env h5).1) fun σ H Q h => ?_
  obtain ⟨mu, ρ, S, re, rs, p⟩ := h
  refine ⟨mu, ρ, S, re, rs, (Post.bind (rel' := relD X.K) p).imp ?_⟩
  rintro x H1 ⟨mu1, S1, d1, r1, g1, p1⟩
  cases e : kindD S1 d1 with
  | none => rw [e] at p1; exact (show False from p1).elim
  | some k =>
    rw [e] at p1
    obtain ⟨hk, ty⟩ := kind_is g1.rs r1 e
    exact ⟨x, .ty (tyN c), _, _, _, rfl, .ty _, ty, kit_ty (kit_kind k hk c), Post.now (rel := relD X.K) g1.rs p1 ⟨rfl, rfl⟩⟩

/-! ### the theorem -/
theorem band {a b : Bool} (h : (a && b) = true) : a = true ∧ b = true := by rwa [Bool.and_eq_true] at h
theorem mixed {e : Expr} {f : PV} (hv : PE X e (tE N X.K W f.v)) (ht : f.t = tstOf f.v) (he : ∀ whole, isTrue e X.env whole = (do let v ← whole; standAt e.pos; holding [v] (truthy v))) : PE X e (tE N X.K W f.v) ∧ PT X e (tT N X.K W f.t) := by
  refine ⟨hv, ?_⟩
  rw [ht]
  exact s_tst hv he
theorem ownOf_snd (N : List Str) (own : List Nat) : (ownOf N own).map (·.2) = own := by
  unfold ownOf
  rw [List.map_map]
  exact List.map_id' own
theorem plainIx {e : Expr} (h : notSlice e = true) : PlainIx e := by
  intro o i
  cases e <;> first | rfl | (cases h)
theorem plainBase {o : Expr} {nm : Str} {env : PySem.Env} (h : notCall o = true) : attributeBase o nm env (eval o env) = eval o env := by
  cases o <;> first | rfl | (cases h)
theorem plainSet {e : Expr} {env : PySem.Env} (h : notSet e = true) : ∀ x, foldedSetIterable e env x = pure x := by
  intro x
  cases e <;> first | rfl | (cases h)
/-- what is said of a list of expressions -/
structure EsOk (X : Cx) (N : Nm) (W : WX) (f : PVs) (l : List Expr) : Prop where
  st : noStar l = true
  vs : PA X l (tA N X.K W f.vs)
  an : l ≠ [] → ∀ pos, PE X (.BoolOp .And l pos) (tE N X.K W f.andV) ∧ PW X (.BoolOp .And l pos) (tT N X.K W f.andT)
  or : l ≠ [] → ∀ pos, PE X (.BoolOp .Or l pos) (tE N X.K W f.orV) ∧ PW X (.BoolOp .Or l pos) (tT N X.K W f.orT)
  ts : l.length ≤ 1 → PTs X l (tT N X.K W f.ts)
theorem ptsI {e : List Expr} {t t' : TT} (h : PTs X e t) (hi : ∀ σ H Q, t' σ H Q → t σ H Q) : PTs X e t' := .mk fun pn s σ H Q I q => h.run pn s σ H Q I (hi _ _ _ q)
theorem noStar_mk {e : Expr} {es : List Expr} (h : notStar e = true) (h2 : noStar es = true) : noStar (e :: es) = true := by
  cases e <;> first | exact h2 | (cases h)
mutual
theorem ckE_ok : ∀ (f : FE) (S : Sc) (e : Expr) {X : Cx} {W : WX} {xc : Xc}, Kx X N T G cl W S xc → ckE T S f e = true → PE X e (tE N X.K W (ev G cl xc f).v) ∧ PT X e (tT N X.K W (ev G cl xc f).t)
  | .loc i, S, e, X, W, xc, k, h => by
    cases e with
    | Name x p =>
      obtain ⟨h, h3⟩ := band h
      obtain ⟨h1, h2⟩ := band h
      exact mixed (f := ev G cl xc (.loc i)) (s_loc (by rw [k.nm]; exact of_decide_eq_true h1) (vis_is k h2) (safe_is h3).1 (safe_is h3).2) rfl fun _ => rfl
    | _ => cases h
  | .con c, S, e, X, W, xc, k, h => by
    cases e with
    | Constant q j p => exact mixed (f := ev G cl xc (.con c)) (con_is h) rfl fun _ => rfl
    | _ => cases h
  | .glo n, S, e, X, W, xc, k, h => by
    cases e with
    | Name x p =>
      obtain ⟨h, h3⟩ := band h
      obtain ⟨h1, h2⟩ := band h
      obtain ⟨d, v, u, e1, e2, e3, e4, e5⟩ := k.con n x (of_decide_eq_true h1)
      refine mixed (f := ev G cl xc (.glo n)) ?_ rfl fun _ => rfl
      show PE X _ (tE N X.K W fun _ S => optR G.consts[n]? S)
      rw [e1]
      exact s_con (pe_glob (gl_is k h2) e2 e3 (safe_is h3).1) e4 e5
    | _ => cases h
  | .bin op a b, S, e, X, W, xc, k, h => by
    cases e with
    | BinOp a' op' b' p =>
      obtain ⟨h, h3⟩ := band h
      obtain ⟨h1, h2⟩ := band h
      obtain rfl : op = op' := of_decide_eq_true h1
      exact mixed (f := ev G cl xc (.bin op a b)) (s_bin (opF op) (ckE_ok a S a' k h2).1 (ckE_ok b S b' k h3).1) rfl fun _ => rfl
    | _ => cases h
  | .neg a, S, e, X, W, xc, k, h => by
    cases e with
    | UnaryOp op a' p =>
      cases op with
      | USub => exact mixed (f := ev G cl xc (.neg a)) (s_neg (ckE_ok a S a' k h).1) rfl fun _ => rfl
      | _ => cases h
    | _ => cases h
  | .not a, S, e, X, W, xc, k, h => by
    cases e with
    | UnaryOp op a' p =>
      cases op with
      | Not => exact ⟨s_not (ckE_ok a S a' k h).1, s_notT (ckE_ok a S a' k h).2⟩
      | _ => cases h
    | _ => cases h
  | .and es, S, e, X, W, xc, k, h => by
    cases e with
    | BoolOp op l p =>
      cases op with
      | And =>
        obtain ⟨h1, h2⟩ := band h
        have ne : l ≠ [] := by rintro rfl; cases h2
        obtain ⟨q1, q2⟩ := (ckEs_ok es S l k h1).an ne p
        exact ⟨q1, q2.pt⟩
      | _ => cases h
    | _ => cases h
  | .or es, S, e, X, W, xc, k, h => by
    cases e with
    | BoolOp op l p =>
      cases op with
      | Or =>
        obtain ⟨h1, h2⟩ := band h
        have ne : l ≠ [] := by rintro rfl; cases h2
        obtain ⟨q1, q2⟩ := (ckEs_ok es S l k h1).or ne p
        exact ⟨q1, q2.pt⟩
      | _ => cases h
    | _ => cases h
  | .cmp op a b, S, e, X, W, xc, k, h => by
    cases e with
    | Compare a' ops bs p =>
      rcases ops with _ | ⟨op', _ | ⟨_, _⟩⟩ <;> first | (cases h; done) | skip
      rcases bs with _ | ⟨b', _ | ⟨_, _⟩⟩ <;> first | (cases h; done) | skip
      obtain ⟨h, h4⟩ := band h
      obtain ⟨h, h3⟩ := band h
      obtain ⟨h1, h2⟩ := band h
      obtain rfl : op = op' := of_decide_eq_true h1
      have hm : behindInMarks op b' = false := by simpa using h4
      exact ⟨s_cmp (r2B_of (opB k.hu op)) (ckE_ok a S a' k h2).1 (ckE_ok b S b' k h3).1 hm, s_cmpT (r2B_of (opB k.hu op)) (ckE_ok a S a' k h2).1 (ckE_ok b S b' k h3).1 hm⟩
    | _ => cases h
  | .chain op1 op2 a b c, S, e, X, W, xc, k, h => by
    cases e with
    | Compare a' ops bs p =>
      rcases ops with _ | ⟨op1', _ | ⟨op2', _ | ⟨_, _⟩⟩⟩ <;> first | (cases h; done) | skip
      rcases bs with _ | ⟨b', _ | ⟨c', _ | ⟨_, _⟩⟩⟩ <;> first | (cases h; done) | skip
      obtain ⟨h, h6⟩ := band h
      obtain ⟨h, h5⟩ := band h
      obtain ⟨h, h4⟩ := band h
      obtain ⟨h, h3⟩ := band h
      obtain ⟨h1, h2⟩ := band h
      obtain rfl : op1 = op1' := of_decide_eq_true h1
      obtain rfl : op2 = op2' := of_decide_eq_true h2
      have hm : lastMarks [op1, op2] [b', c'] = false := by simpa using h6
      exact ⟨s_chain (opB k.hu op1) (opB k.hu op2) (ckE_ok a S a' k h3).1 (ckE_ok b S b' k h4).1 (ckE_ok c S c' k h5).1 hm, s_chainT (opB k.hu op1) (opB k.hu op2) (ckE_ok a S a' k h3).1 (ckE_ok b S b' k h4).1 (ckE_ok c S c' k h5).1 hm⟩
    | _ => cases h
  | .ite c a b, S, e, X, W, xc, k, h => by
    cases e with
    | IfExp c' a' b' p =>
      obtain ⟨h, h3⟩ := band h
      obtain ⟨h1, h2⟩ := band h
      have qc := ckE_ok c S c' k h1
      have qa := ckE_ok a S a' k h2
      have qb := ckE_ok b S b' k h3
      exact ⟨s_ite qc.2 qa.1 qb.1, s_iteT qc.2 qa.2 qb.2⟩
    | _ => cases h
  | .tup es, S, e, X, W, xc, k, h => by
    cases e with
    | Tuple l j p => exact mixed (f := ev G cl xc (.tup es)) (s_tup (ckEs_ok es S l k h).vs) rfl fun _ => rfl
    | _ => cases h
  | .lst es, S, e, X, W, xc, k, h => by
    cases e with
    | List l p => exact mixed (f := ev G cl xc (.lst es)) (s_lst (ckEs_ok es S l k h).vs) rfl fun _ => rfl
    | _ => cases h
  | .blt b es, S, e, X, W, xc, k, h => by
    cases e with
    | Call f l kw p =>
      cases f with
      | Name x p2 =>
        rcases l with _ | ⟨a', l⟩ <;> first | (cases h; done) | skip
        rcases kw with _ | ⟨_, _⟩ <;> first | (cases h; done) | skip
        obtain ⟨h, h4⟩ := band h
        obtain ⟨h, h3⟩ := band h
        obtain ⟨h1, h2⟩ := band h
        obtain rfl : x = bltS b := of_decide_eq_true h1
        have q := ckEs_ok es S (a' :: l) k h3
        exact mixed (f := ev G cl xc (.blt b es)) (s_blt (k.blt _ (by cases b <;> simp [bltS])) (gl_is k h2) (fun hc => k.calm (by rw [hc] at h4; simpa using h4)) q.vs q.st) rfl fun _ => rfl
      | _ => cases h
    | _ => cases h
  | .mth m o es, S, e, X, W, xc, k, h => by
    cases e with
    | Call f l kw p =>
      cases f with
      | Attribute o' nm ap =>
        rcases kw with _ | ⟨_, _⟩ <;> first | (cases h; done) | skip
        obtain ⟨h, h6⟩ := band h
        obtain ⟨h, h5⟩ := band h
        obtain ⟨h, h4⟩ := band h
        obtain ⟨h, h3⟩ := band h
        obtain ⟨h1, h2⟩ := band h
        obtain rfl : nm = mthN m := of_decide_eq_true h1
        have qo := (ckE_ok o S o' k h3).1
        have qe := ckEs_ok es S l k h4
        rcases l with _ | ⟨a', l⟩
        · cases es with
          | nil => exact mixed (f := ev G cl xc (.mth m o .nil)) (s_mth0 qo (plainBase h2) h6) rfl fun _ => rfl
          | cons _ _ => cases h4
        · exact mixed (f := ev G cl xc (.mth m o es)) (s_mth qo qe.vs (plainBase h2) qe.st (of_decide_eq_true h5) h6) rfl fun _ => rfl
      | _ => cases h
    | _ => cases h
  | .call f es, S, e, X, W, xc, k, h => by
    cases e with
    | Call f' l kw p =>
      cases f' with
      | Name x p2 =>
        rcases l with _ | ⟨a', l⟩ <;> first | (cases h; done) | skip
        rcases kw with _ | ⟨_, _⟩ <;> first | (cases h; done) | skip
        obtain ⟨h, h5⟩ := band h
        obtain ⟨h, h4⟩ := band h
        obtain ⟨h, h3⟩ := band h
        obtain ⟨h1, h2⟩ := band h
        have hh : S.hot = false := by simpa using h5
        obtain ⟨fa, fd, ps, lvl, F⟩ := k.own hh f x (of_decide_eq_true h1)
        have q := ckEs_ok es S (a' :: l) k h4
        exact mixed (f := ev G cl xc (.call f es)) (s_own F (gl_is k h2) (k.tk hh) q.vs q.st (safe_is h3).1) rfl fun _ => rfl
      | _ => cases h
    | _ => cases h
  | .fld o f, S, e, X, W, xc, k, h => by cases h
  | .xfld i f, S, e, X, W, xc, k, h => by
    cases e with
    | Attribute o nm p =>
      cases o with
      | Name x p2 =>
        obtain ⟨h, h5⟩ := band h
        obtain ⟨h, h4⟩ := band h
        obtain ⟨h, h3⟩ := band h
        obtain ⟨h1, h2⟩ := band h
        exact mixed (f := ev G cl xc (.xfld i f)) (k.xf i x f nm p2 p (of_decide_eq_true h1) (of_decide_eq_true h2) h3 h4 (of_decide_eq_true h5)) rfl fun _ => rfl
      | _ => cases h
    | _ => cases h
  | .idx o i, S, e, X, W, xc, k, h => by
    cases e with
    | Subscript o' i' p =>
      obtain ⟨h, h3⟩ := band h
      obtain ⟨h1, h2⟩ := band h
      exact mixed (f := ev G cl xc (.idx o i)) (s_ix ixF (ckE_ok o S o' k h1).1 (ckE_ok i S i' k h2).1 (plainIx h3)) rfl fun _ => rfl
    | _ => cases h
  | .cut o lo hi, S, e, X, W, xc, k, h => by
    cases e with
    | Subscript o' i' p =>
      cases i' with
      | Slice lo' hi' st p2 =>
        rcases lo' with _ | lo' <;> first | (cases h; done) | skip
        rcases hi' with _ | hi' <;> first | (cases h; done) | skip
        rcases st with _ | st <;> first | (cases h; done) | skip
        obtain ⟨h, h3⟩ := band h
        obtain ⟨h1, h2⟩ := band h
        exact mixed (f := ev G cl xc (.cut o lo hi)) (s_slice (ckE_ok o S o' k h1).1 (s_part (ckE_ok lo S lo' k h2).1) (s_part (ckE_ok hi S hi' k h3).1)) rfl fun _ => rfl
      | _ => cases h
    | _ => cases h
  | .cutL o lo, S, e, X, W, xc, k, h => by
    cases e with
    | Subscript o' i' p =>
      cases i' with
      | Slice lo' hi' st p2 =>
        rcases lo' with _ | lo' <;> first | (cases h; done) | skip
        rcases hi' with _ | hi' <;> first | (cases h; done) | skip
        rcases st with _ | st <;> first | (cases h; done) | skip
        obtain ⟨h1, h2⟩ := band h
        exact mixed (f := ev G cl xc (.cutL o lo)) (s_slice (ckE_ok o S o' k h1).1 (s_part (ckE_ok lo S lo' k h2).1) s_noPart) rfl fun _ => rfl
      | _ => cases h
    | _ => cases h
  | .cutH o hi, S, e, X, W, xc, k, h => by
    cases e with
    | Subscript o' i' p =>
      cases i' with
      | Slice lo' hi' st p2 =>
        rcases lo' with _ | lo' <;> first | (cases h; done) | skip
        rcases hi' with _ | hi' <;> first | (cases h; done) | skip
        rcases st with _ | st <;> first | (cases h; done) | skip
        obtain ⟨h1, h2⟩ := band h
        exact mixed (f := ev G cl xc (.cutH o hi)) (s_slice (ckE_ok o S o' k h1).1 s_noPart (s_part (ckE_ok hi S hi' k h2).1)) rfl fun _ => rfl
      | _ => cases h
    | _ => cases h
  | .isi o c, S, e, X, W, xc, k, h => by
    cases e with
    | Call f l kw p =>
      cases f with
      | Name x p2 =>
        rcases l with _ | ⟨o', _ | ⟨t', _ | ⟨_, _⟩⟩⟩ <;> first | (cases h; done) | (cases t' <;> cases h; done) | skip
        cases t' with
        | Name t p3 =>
          rcases kw with _ | ⟨_, _⟩ <;> first | (cases h; done) | skip
          obtain ⟨h, h6⟩ := band h
          obtain ⟨h, h5⟩ := band h
          obtain ⟨h, h4⟩ := band h
          obtain ⟨h, h3⟩ := band h
          obtain ⟨h1, h2⟩ := band h
          obtain rfl : x = ("isinstance" : Str) := of_decide_eq_true h1
          obtain rfl : t = tyS c := of_decide_eq_true h3
          exact mixed (f := ev G cl xc (.isi o c)) (s_isi (k.blt _ (by simp)) (gl_is k h2) (k.blt _ (by cases c <;> simp [tyS])) (gl_is k h4) (ckE_ok o S o' k h5).1 h6) rfl fun _ => rfl
        | _ => cases h
      | _ => cases h
    | _ => cases h
  | .xisi i cs, S, e, X, W, xc, k, h => by
    cases e with
    | Call f l kw p =>
      cases f with
      | Name x p2 =>
        rcases l with _ | ⟨o', l⟩ <;> first | (cases h; done) | skip
        cases o' with
        | Name y p3 =>
          rcases l with _ | ⟨t', _ | ⟨_, _⟩⟩ <;> first | (cases h; done) | (cases t' <;> cases h; done) | skip
          cases t' with
          | Name t p4 =>
            rcases kw with _ | ⟨_, _⟩ <;> first | (cases h; done) | skip
            obtain ⟨h, h5⟩ := band h
            obtain ⟨h, h4⟩ := band h
            obtain ⟨h, h3⟩ := band h
            obtain ⟨h1, h2⟩ := band h
            rcases cs with _ | ⟨c, _ | ⟨_, _⟩⟩ <;> first | (cases h5; done) | skip
            obtain rfl : x = ("isinstance" : Str) := of_decide_eq_true h1
            obtain ⟨h3, h33⟩ := band h3
            obtain ⟨h3, h32⟩ := band h3
            obtain ⟨h3, h31⟩ := band h3
            exact mixed (f := ev G cl xc (.xisi i [c])) (k.xi i y c t p2 p3 p4 p (of_decide_eq_true h3) (of_decide_eq_true h31) h32 h33 (of_decide_eq_true h5) h4 (gl_is k h2)) rfl fun _ => rfl
          | _ => cases h
        | _ => cases h
      | _ => cases h
    | _ => cases h
  | .lc own tg src cs elt, S, e, X, W, xc, k, h => by
    cases e with
    | ListComp elt' gs scope p =>
      rcases gs with _ | ⟨⟨tg', iter, ifs, j⟩, _ | ⟨_, _⟩⟩ <;> first | (cases h; done) | skip
      obtain ⟨h, ha⟩ := band h
      obtain ⟨h, h9⟩ := band h
      obtain ⟨h, h8⟩ := band h
      obtain ⟨h, h7⟩ := band h
      obtain ⟨h, h6⟩ := band h
      obtain ⟨h, h5⟩ := band h
      obtain ⟨h, h4⟩ := band h
      obtain ⟨h, h3⟩ := band h
      obtain ⟨h1, h2⟩ := band h
      have hh : S.hot = false := by simpa using h1
      obtain rfl : j = 0 := of_decide_eq_true h2
      have bk : BlkOk X.N X.env.scope scope (ownOf S.nm own) := by
        rw [k.nm, k.sc]
        exact blkOk_by h3
      have ho := ownOf_snd S.nm own
      refine mixed (f := ev G cl xc (.lc own tg src cs elt)) ?_ rfl fun _ => rfl
      have q := s_lc (pos := p) (W := W) (k.nox hh).1 (k.calm hh) (by rw [k.nm]; exact k.nd) (ckI_ok src S iter tg' k h6) bk (by rw [ho]; intro i hi; exact of_decide_eq_true (List.all_eq_true.mp h4 i hi))
        (fun s H C cl' fp => pg_is (k.blk hh s H scope C cl' fp) h5) (fun s H C cl' fp => (ckEs_ok cs (inS S scope) ifs (k.blk hh s H scope C cl' fp) h8).ts (of_decide_eq_true h9))
        (fun s H C cl' fp => (ckE_ok elt (inS S scope) elt' (k.blk hh s H scope C cl' fp) ha).1) (plainSet h7)
      rw [ho] at q
      exact q
    | _ => cases h
theorem ckEs_ok : ∀ (fs : FEs) (S : Sc) (l : List Expr) {X : Cx} {W : WX} {xc : Xc}, Kx X N T G cl W S xc → ckEs T S fs l = true → EsOk X N W (evs G cl xc fs) l
  | .nil, S, l, X, W, xc, k, h => by
    cases l with
    | nil => exact ⟨rfl, s_nil, fun z => absurd rfl z, fun z => absurd rfl z, fun _ => ptsI pts_nil fun σ H Q ⟨mu, ρ, S, re, rs, p⟩ => Post.now (rel := relB X.K) rs p rfl⟩
    | cons _ _ => cases h
  | .cons f fs, S, l, X, W, xc, k, h => by
    cases l with
    | nil => cases h
    | cons e es =>
      obtain ⟨h, h3⟩ := band h
      obtain ⟨h1, h2⟩ := band h
      have q1 := ckE_ok f S e k h2
      have q2 := ckEs_ok fs S es k h3
      have st := noStar_mk h1 q2.st
      refine ⟨st, s_cons q1.1 q2.vs (noStar_cons st X.env).1, fun _ pos => ?_, fun _ pos => ?_, fun hl => ?_⟩
      · cases es with
        | nil =>
          cases fs with
          | nil => exact ⟨pe_one q1.1, pw_and1 q1.2⟩
          | cons _ _ => cases h3
        | cons b r =>
          cases fs with
          | nil => cases h3
          | cons _ _ =>
            obtain ⟨g1, g2⟩ := q2.an (by simp) pos
            exact ⟨s_andV q1.1 g1, s_andT q1.2 g2⟩
      · cases es with
        | nil =>
          cases fs with
          | nil => exact ⟨pe_one q1.1, pw_or1 q1.2⟩
          | cons _ _ => cases h3
        | cons b r =>
          cases fs with
          | nil => cases h3
          | cons _ _ =>
            obtain ⟨g1, g2⟩ := q2.or (by simp) pos
            exact ⟨s_orV q1.1 g1, s_orT q1.2 g2⟩
      · cases es with
        | nil =>
          cases fs with
          | nil => exact pts_one q1.2
          | cons _ _ => cases h3
        | cons b r => simp at hl
theorem ckI_ok : ∀ (f : FI) (S : Sc) (e tg : Expr) {X : Cx} {W : WX} {xc : Xc}, Kx X N T G cl W S xc → ckI T S f e = true → PI X tg e (iF N X.K W (evi G cl xc f))
  | .seq f, S, e, tg, X, W, xc, k, h => s_seq (ckE_ok f S e k h).1
  | .range1 a, S, e, tg, X, W, xc, k, h => by
    cases e with
    | Call f l kw p =>
      cases f with
      | Name x p2 =>
        rcases l with _ | ⟨a', _ | ⟨_, _⟩⟩ <;> first | (cases h; done) | skip
        rcases kw with _ | ⟨_, _⟩ <;> first | (cases h; done) | skip
        obtain ⟨h, h4⟩ := band h
        obtain ⟨h, h3⟩ := band h
        obtain ⟨h1, h2⟩ := band h
        obtain rfl : x = ("range" : Str) := of_decide_eq_true h1
        exact s_rng1 (gl_is k h2) (k.blt _ (by simp)) (ckE_ok a S a' k h3).1 (noStar_mk h4 rfl)
      | _ => cases h
    | _ => cases h
  | .range2 a b, S, e, tg, X, W, xc, k, h => by
    cases e with
    | Call f l kw p =>
      cases f with
      | Name x p2 =>
        rcases l with _ | ⟨a', _ | ⟨b', _ | ⟨_, _⟩⟩⟩ <;> first | (cases h; done) | skip
        rcases kw with _ | ⟨_, _⟩ <;> first | (cases h; done) | skip
        obtain ⟨h, h6⟩ := band h
        obtain ⟨h, h5⟩ := band h
        obtain ⟨h, h4⟩ := band h
        obtain ⟨h, h3⟩ := band h
        obtain ⟨h1, h2⟩ := band h
        obtain rfl : x = ("range" : Str) := of_decide_eq_true h1
        exact s_rng2 (gl_is k h2) (k.blt _ (by simp)) (ckE_ok a S a' k h3).1 (ckE_ok b S b' k h4).1 (noStar_mk h5 (noStar_mk h6 rfl))
      | _ => cases h
    | _ => cases h
end
end
end Fx
set_option Elab.async false
set_option linter.all false
set_option autoImplicit false
set_option maxRecDepth 100000
set_option maxHeartbeats 4000000
/-! FxM: statements. -/
namespace Fx
open PySem PySem.Spec PyProof.Rows L2

section
variable {N : Nm} {K : PySem.W.Frag} {W : WX} {H H1 : Hp} {mu mu1 : Nat → Addr} {S S1 : Store} {D D' : Ends}
/-- what is wanted behind a statement's result -/
def PostS (N : Nm) (K : PySem.W.Frag) (W : WX) (H : Hp) (mu : Nat → Addr) (S : Store) (r : SR) (D : Ends) : Prop := match r with
  | .nx ρ' S' => ∀ (σ' : L2.St) (H' : Hp) (mu' : Nat → Addr), Gw N K H mu S H' mu' S' → RE N K H' mu' S' ρ' σ' → D.nx σ' H'
  | .ret d S' => ∀ (v : V) (H' : Hp) (mu' : Nat → Addr), Gw N K H mu S H' mu' S' → relD K H' mu' S' d v → D.rt v H'
  | .brk ρ' S' => ∀ (σ' : L2.St) (H' : Hp) (mu' : Nat → Addr), Gw N K H mu S H' mu' S' → RE N K H' mu' S' ρ' σ' → D.bk σ' H'
  | .cnt ρ' S' => ∀ (σ' : L2.St) (H' : Hp) (mu' : Nat → Addr), Gw N K H mu S H' mu' S' → RE N K H' mu' S' ρ' σ' → D.ct σ' H'
  | .exn C fs ρ' S' => ∀ (dd : Addr) (gs : List (Str × V)) (σ' : L2.St) (H' : Hp) (mu' : Nat → Addr), Gw N K H mu S H' mu' S' → RE N K H' mu' S' ρ' σ' → H' dd = some (.xd gs) → RF N K H' mu' fs gs → Fx.D.wfs S'.length (fs.map (·.2)) = true → W (.ref (N.cad C)) (some dd) σ' H'
  | .stuck => False
theorem PostS.after {r : SR} (p : PostS N K W H mu S r D) (g : Gw N K H mu S H1 mu1 S1) : PostS N K W H1 mu1 S1 r D := by
  cases r with
  | nx ρ' S' => exact fun σ' H' mu' g' e => p σ' H' mu' (g.trans g') e
  | ret d S' => exact fun v H' mu' g' e => p v H' mu' (g.trans g') e
  | brk ρ' S' => exact fun σ' H' mu' g' e => p σ' H' mu' (g.trans g') e
  | cnt ρ' S' => exact fun σ' H' mu' g' e => p σ' H' mu' (g.trans g') e
  | exn C fs ρ' S' => exact fun dd gs σ' H' mu' g' e q1 q2 q3 => p dd gs σ' H' mu' (g.trans g') e q1 q2 q3
  | stuck => exact p
variable {α β : Type} {rel : Hp → (Nat → Addr) → Store → α → β → Prop} {ρ : Env} {σ : L2.St}
theorem toS_post {r : R α} {f : α → Store → SR} (re : RE N K H mu S ρ σ) (rs : RS N K H mu S) (p : PostS N K W H mu S (r.toS ρ f) D) :
    Post N K H mu S rel r (fun b H1 => ∃ mu1 S1 a, rel H1 mu1 S1 a b ∧ Gw N K H mu S H1 mu1 S1 ∧ PostS N K W H1 mu1 S1 (f a S1) D) (XW W σ) := by
  cases r with
  | ok a S1 => exact fun b H1 mu1 g q => ⟨mu1, S1, a, q, g, PostS.after p g⟩
  | exn C fs S1 => exact fun dd gs H' mu' g q1 q2 q3 => p dd gs σ H' mu' g (re.gw rs g) q1 q2 q3
  | stuck => exact p
/-- a statement's reading by the evaluator -/
def tS (N : Nm) (K : PySem.W.Frag) (W : WX) (f : Env → Store → SR) : TS := fun D σ H => ∃ mu ρ S, RE N K H mu S ρ σ ∧ RS N K H mu S ∧ PostS N K W H mu S (f ρ S) D
theorem PostS.seq {r : SR} {f : Env → Store → SR} (p : PostS N K W H mu S (r.bind f) D) : PostS N K W H mu S r { D with nx := tS N K W f D } := by
  cases r with
  | nx ρ' S' => exact fun σ' H' mu' g e => ⟨mu', ρ', S', e, g.rs, PostS.after (show PostS N K W H mu S (f ρ' S') D from p) g⟩
  | ret d S' => exact p
  | brk ρ' S' => exact p
  | cnt ρ' S' => exact p
  | exn C fs ρ' S' => exact p
  | stuck => exact p
end

section
variable {X : Cx} {N : Nm} {W : WX} {e : Expr} {f : Env → Store → R D} {pos : Pos}
theorem s_expr (he : PE X e (tE N X.K W f)) (hs : swapsWith e none pos.line X.env = pure false) : PS X (.Expr e pos) (tS N X.K W fun ρ S => (tidy S (f ρ S)).toS ρ fun _ S1 => .nx ρ S1) := by
  refine psI (ps_expr he hs) fun D σ H h => ?_
  obtain ⟨mu, ρ, S, re, rs, p⟩ := h
  refine ⟨mu, ρ, S, re, rs, Post.tidy rs ((toS_post (rel := relD X.K) re rs p).imp ?_)⟩
  rintro x H1 ⟨mu1, S1, d, r1, g, p1⟩
  exact p1 σ H1 mu1 (Gw.refl g.rs) (re.gw rs g)
theorem asg_rd {i : Nat} {D : Ends} {σ : L2.St} {H : Hp} (h : tS N X.K W (fun ρ S => (tidy S (f ρ S)).toS ρ fun d S1 => (match asgN ρ i d with
    | some ρ' => .nx ρ' S1
    | none => .stuck)) D σ H) : tAsg (tE N X.K W f) (gName i) D σ H := by
  obtain ⟨mu, ρ, S, re, rs, p⟩ := h
  refine ⟨mu, ρ, S, re, rs, Post.tidy rs ((toS_post (rel := relD X.K) re rs p).imp ?_)⟩
  rintro x H1 ⟨mu1, S1, d, r1, g, p1⟩
  split at p1
  · rename_i ρ' ea
    exact p1 _ H1 mu1 (Gw.refl g.rs) ((re.gw rs g).asg r1 ea)
  · exact p1.elim
theorem s_asg {i : Nat} {x : Str} {pos' : Pos} (hN : X.N.Nodup) (hi : X.N[i]? = some x) (hx : L2.Loc X.env.scope x) (hf : X.fn x = true ∨ X.env.scope.names.lookup x = some .local) (he : PE X e (tE N X.K W f)) (hs : swapsWith e (some (.Name x pos')) pos.line X.env = pure false) :
    PS X (.Assign [.Name x pos'] e pos) (tS N X.K W fun ρ S => (tidy S (f ρ S)).toS ρ fun d S1 => (match asgN ρ i d with
      | some ρ' => .nx ρ' S1
      | none => .stuck)) := psI (ps_set hN hi hx he hs hf) fun _ _ _ h => asg_rd h
theorem s_asgT {is : List Nat} {tg : Expr} (he : PE X e (tE N X.K W f)) (hg : PG X tg (gF X.K (.tp is))) (hs : swapsWithSole [tg] e pos.line X.env = pure false) (hw : swappedStores [tg] e X.env = pure none) (h1 : (assignEach [tg] X.env).map (·.2) = [assign tg X.env]) :
    PS X (.Assign [tg] e pos) (tS N X.K W fun ρ S => (tidy S (f ρ S)).toS ρ fun d S1 => (match asgT ρ (.tp is) d with
      | some ρ' => .nx ρ' S1
      | none => .stuck)) := by
  refine psI (ps_asg he hg hs hw h1) fun D σ H h => ?_
  obtain ⟨mu, ρ, S, re, rs, p⟩ := h
  refine ⟨mu, ρ, S, re, rs, Post.tidy rs ((toS_post (rel := relD X.K) re rs p).imp ?_)⟩
  rintro x H1 ⟨mu1, S1, d, r1, g, p1⟩
  split at p1
  · rename_i ρ' ea
    exact gF_ok (re.gw rs g) r1 ea fun σ' re' _ => p1 σ' H1 mu1 (Gw.refl g.rs) re'
  · exact p1.elim
/-- op= by values -/
def ipF (N : Nm) (K : PySem.W.Frag) (g : D → D → Store → R D) : TIp := fun x y H Q => ∃ mu S a b E, relD K H mu S a x ∧ relD K H mu S b y ∧ RS N K H mu S ∧ Post N K H mu S (relD K) (g a b S) Q E
theorem ipF_ok (op : Operator) : PIp X op (ipF N X.K (augop op)) := by
  intro pins s σ H x y v u Q I rx ry h
  obtain ⟨mu, S, a, b, E, ra, rb, rs, p⟩ := h
  have no : (∀ a b, augop op a b S = .stuck) → wpAny (model X.prog X.w) X.A (inplaceOp op v u) (EP X pins σ Q) X.xe s := fun z => by
    rw [z] at p
    exact p.elim
  cases op with
  | Add =>
    cases a with
    | int i =>
      cases b with
      | int j =>
        obtain rfl : x = .int i := ra.1
        obtain rfl : y = .int j := rb.1
        exact ip_add pins s σ H _ _ v u Q I rx ry ⟨i, j, rfl, rfl, Post.now (rel := relD X.K) rs p ⟨rfl, rfl⟩⟩
      | _ => exact (show False from p).elim
    | _ => exact (show False from p).elim
  | Sub =>
    cases a with
    | int i =>
      cases b with
      | int j =>
        obtain rfl : x = .int i := ra.1
        obtain rfl : y = .int j := rb.1
        exact ip_sub pins s σ H _ _ v u Q I rx ry ⟨i, j, rfl, rfl, Post.now (rel := relD X.K) rs p ⟨rfl, rfl⟩⟩
      | _ => exact (show False from p).elim
    | _ => exact (show False from p).elim
  | _ => exact no fun _ _ => rfl
theorem s_aug {op : Operator} {i : Nat} {x : Str} {pos' : Pos} (hN : X.N.Nodup) (hi : X.N[i]? = some x) (hx : L2.Loc X.env.scope x) (hf : X.fn x = true ∨ X.env.scope.names.lookup x = some .local) (he : PE X e (tE N X.K W f)) :
    PS X (.AugAssign (.Name x pos') op e pos) (tS N X.K W fun ρ S => (match ρ[i]? with
      | some (some x) => (tidy S (f ρ S)).toS ρ fun y S1 => (augop op x y S1).toS ρ fun z S2 => (match asgN ρ i z with
        | some ρ' => .nx ρ' S2
        | none => .stuck)
      | _ => .stuck)) := by
  refine psI (ps_aug hN hi hx he (ipF_ok (N := N) op) hf) fun D σ H h => ?_
  obtain ⟨mu, ρ, S, re, rs, p⟩ := h
  dsimp only at p
  split at p
  · rename_i a ha
    obtain ⟨wa, v, h1, h2⟩ := re.get i a ha
    refine ⟨v, h1, mu, ρ, S, re, rs, Post.tidy rs ((toS_post (rel := relD X.K) re rs p).imp ?_)⟩
    rintro y H1 ⟨mu1, S1, b, r1, g, p1⟩
    have re1 := re.gw rs g
    refine ⟨mu1, S1, a, b, XW W σ, relD.gw ⟨h2, wa⟩ rs g, r1, g.rs, (toS_post (rel := relD X.K) re1 g.rs p1).imp ?_⟩
    rintro z H2 ⟨mu2, S2, c, r2, g2, p2⟩
    split at p2
    · rename_i ρ' ea
      exact p2 _ H2 mu2 (Gw.refl g2.rs) ((re1.gw g.rs g2).asg r2 ea)
    · exact p2.elim
  · exact p.elim
theorem s_ret (he : PE X e (tE N X.K W f)) : PS X (.Return (some e) pos) (tS N X.K W fun ρ S => (tidy S (f ρ S)).toS ρ fun d S1 => .ret d S1) := by
  refine psI (ps_ret he) fun D σ H h => ?_
  obtain ⟨mu, ρ, S, re, rs, p⟩ := h
  refine ⟨mu, ρ, S, re, rs, Post.tidy rs ((toS_post (rel := relD X.K) re rs p).imp ?_)⟩
  rintro x H1 ⟨mu1, S1, d, r1, g, p1⟩
  exact p1 x H1 mu1 (Gw.refl g.rs) r1
theorem s_retN : PS X (.Return none pos) (tS N X.K W fun _ S => .ret .non S) :=
  psI ps_retN fun D σ H ⟨mu, ρ, S, re, rs, p⟩ => p .non H mu (Gw.refl rs) ⟨rfl, rfl⟩
theorem s_pass : PS X (.Pass pos) (tS N X.K W fun ρ S => .nx ρ S) := psI ps_pass fun D σ H ⟨mu, ρ, S, re, rs, p⟩ => p σ H mu (Gw.refl rs) re
theorem s_brk : PS X (.Break pos) (tS N X.K W fun ρ S => .brk ρ S) := psI ps_break fun D σ H ⟨mu, ρ, S, re, rs, p⟩ => p σ H mu (Gw.refl rs) re
theorem s_cnt : PS X (.Continue pos) (tS N X.K W fun ρ S => .cnt ρ S) := psI ps_continue fun D σ H ⟨mu, ρ, S, re, rs, p⟩ => p σ H mu (Gw.refl rs) re
variable {c : Expr} {fc : Env → Store → R Bool} {a b : List Stmt} {fa fb : Env → Store → SR}
theorem s_if (hc : PT X c (tT N X.K W fc)) (ha : PSs X a (tS N X.K W fa)) (hb : PSs X b (tS N X.K W fb)) : PS X (.If c a b pos) (tS N X.K W fun ρ S => (tidyB S (fc ρ S)).toS ρ fun k S1 => if k then fa ρ S1 else fb ρ S1) := by
  refine psI (ps_if hc ha hb) fun D σ H h => ?_
  obtain ⟨mu, ρ, S, re, rs, p⟩ := h
  refine ⟨mu, ρ, S, re, rs, Post.tidyB rs ((toS_post (rel := relB X.K) re rs p).imp ?_)⟩
  rintro k H1 ⟨mu1, S1, k', e, g, p1⟩
  have e : k' = k := e
  subst e
  cases k' with
  | true => exact iteT ⟨mu1, ρ, S1, re.gw rs g, g.rs, p1⟩
  | false => exact iteF ⟨mu1, ρ, S1, re.gw rs g, g.rs, p1⟩
theorem s_snil : PSs X [] (tS N X.K W fun ρ S => .nx ρ S) := pssI pss_nil fun D σ H ⟨mu, ρ, S, re, rs, p⟩ => p σ H mu (Gw.refl rs) re
theorem s_scons {st : Stmt} (ha : PS X st (tS N X.K W fa)) (hb : PSs X b (tS N X.K W fb)) : PSs X (st :: b) (tS N X.K W fun ρ S => (fa ρ S).bind fun ρ' S' => fb ρ' S') := by
  refine pssI (pss_cons ha hb) fun D σ H h => ?_
  obtain ⟨mu, ρ, S, re, rs, p⟩ := h
  exact ⟨mu, ρ, S, re, rs, PostS.seq p⟩

/-! ### while -/
theorem s_whl (hp : PassesOwn (model X.prog X.w) X.A X.env X.xe) (hc : PT X c (tT N X.K W fc)) (ha : PSs X a (tS N X.K W fa)) (hb : PSs X b (tS N X.K W fb)) (n : Nat) :
    PS X (.While c a b pos) (tS N X.K W fun ρ S => whlL (fun ρ S => tidyB S (fc ρ S)) fa fb n ρ S) := by
  refine psI (ps_whileE hp hc ha hb) fun D σ H h => ?_
  obtain ⟨mu, ρ, S, re, rs, p⟩ := h
  refine ⟨fun m σ' H' => ∃ mu' ρ' S', RE N X.K H' mu' S' ρ' σ' ∧ RS N X.K H' mu' S' ∧ PostS N X.K W H' mu' S' (whlL (fun ρ S => tidyB S (fc ρ S)) fa fb m ρ' S') D, ⟨n, mu, ρ, S, re, rs, p⟩, ?_⟩
  rintro m σ H ⟨mu, ρ, S, re, rs, p⟩
  cases m with
  | zero => exact (show False from p).elim
  | succ m =>
    unfold whlL at p
    refine ⟨mu, ρ, S, re, rs, Post.tidyB rs ?_⟩
    cases e : tidyB S (fc ρ S) with
    | ok k S1 =>
      rw [e] at p
      intro k' H1 mu1 g ek
      have ek : k = k' := ek
      subst ek
      have re1 := re.gw rs g
      cases k with
      | true =>
        dsimp only at p
        refine iteT ⟨fun σ' H' => ∃ mu' ρ' S', RE N X.K H' mu' S' ρ' σ' ∧ RS N X.K H' mu' S' ∧ PostS N X.K W H' mu' S' (whlL (fun ρ S => tidyB S (fc ρ S)) fa fb m ρ' S') D, fun σ' H' q => ⟨m, Nat.lt_succ_self _, q⟩, mu1, ρ, S1, re1, g.rs, ?_⟩
        cases e2 : fa ρ S1 with
        | nx ρ' S' => rw [e2] at p; exact fun σ' H' mu' g' re' => ⟨mu', ρ', S', re', g'.rs, (PostS.after p g).after g'⟩
        | cnt ρ' S' => rw [e2] at p; exact fun σ' H' mu' g' re' => ⟨mu', ρ', S', re', g'.rs, (PostS.after p g).after g'⟩
        | brk ρ' S' => rw [e2] at p; exact PostS.after (r := .nx ρ' S') p g
        | ret d S' => rw [e2] at p; exact PostS.after (r := .ret d S') p g
        | exn C fs ρ' S' => rw [e2] at p; exact PostS.after (r := .exn C fs ρ' S') p g
        | stuck => rw [e2] at p; exact (show False from p).elim
      | false =>
        dsimp only at p
        exact iteF ⟨mu1, ρ, S1, re1, g.rs, PostS.after p g⟩
    | exn C fs S1 =>
      rw [e] at p
      exact fun dd gs H' mu' g q1 q2 q3 => p dd gs σ H' mu' g (re.gw rs g) q1 q2 q3
    | stuck => rw [e] at p; exact (show False from p).elim

/-! ### for -/
theorem s_fr {tg iter : Expr} {t : FT} {fi : PIt} (hp : PassesOwn (model X.prog X.w) X.A X.env X.xe) (hc : X.calm = true) (hi : PI X tg iter (iF N X.K W fi)) (hg : PG X tg (gF X.K t)) (hb : PSs X a (tS N X.K W fa)) (hs : ∀ x, foldedSetIterable iter X.env x = pure x) :
    PS X (.For tg iter a [] pos) (tS N X.K W fun ρ S => (fi ρ S).toS ρ fun p S1 => forL (fun d ρ S => (match asgT ρ t d with
      | some ρ' => fa ρ' S
      | none => .stuck)) (same p.2 S1) p.1 ρ S1) := by
  refine psI (ps_for hp hc hi hg hb hs) fun D σ H h => ?_
  obtain ⟨mu, ρ, S, re, rs, p⟩ := h
  refine ⟨mu, ρ, S, re, rs, (toS_post (rel := relI N X.K) re rs p).imp ?_⟩
  rintro J H1 ⟨mu1, S1, ⟨items, gd⟩, itok, g1, p1⟩
  dsimp only at p1
  have itok : ItOk N X.K H1 mu1 S1 items gd J := itok
  generalize hf : (fun (d : Fx.D) (ρ : Env) (S : Store) => (match asgT ρ t d with
      | some ρ' => fa ρ' S
      | none => SR.stuck)) = f at p1
  have re1 := re.gw rs g1
  refine ⟨fun i m σ' H' => m = items.length - i ∧ i ≤ items.length ∧ ∃ mu' ρ' S', Gw N X.K H1 mu1 S1 H' mu' S' ∧ same gd S1 S' = true ∧ RE N X.K H' mu' S' ρ' σ' ∧ PostS N X.K W H' mu' S' (forL f (same gd S1) (items.drop i) ρ' S') D,
    ⟨items.length, by simp, Nat.zero_le _, mu1, ρ, S1, Gw.refl g1.rs, ?_, re1, by simpa using p1⟩, ?_⟩
  · cases gd with
    | none => rfl
    | some n => exact decide_eq_true rfl
  rintro i m σ' H' ⟨rfl, hi', mu', ρ', S', g, hsm, re', p'⟩
  have now := itok i H' mu' S' g hsm
  by_cases hlt : i < items.length
  · have hd : items[i]? = some items[i] := by simp [hlt]
    obtain ⟨go, yl⟩ := now.1 _ hd
    refine .inr ⟨go, fun σ' H' => ∃ mu' ρ' S', Gw N X.K H1 mu1 S1 H' mu' S' ∧ same gd S1 S' = true ∧ RE N X.K H' mu' S' ρ' σ' ∧ PostS N X.K W H' mu' S' (forL f (same gd S1) (items.drop (i + 1)) ρ' S') D,
      fun σ2 H2 z => ⟨items.length - (i + 1), by omega, rfl, hlt, z⟩, fun x H2 y => ?_⟩
    obtain ⟨e2, rx⟩ := yl x H2 y
    subst e2
    have dr : items.drop i = items[i] :: items.drop (i + 1) := (List.getElem_cons_drop (h := hlt)).symm
    rw [dr] at p'
    unfold forL at p'
    cases ea : asgT ρ' t items[i] with
    | none =>
      have ef : f items[i] ρ' S' = .stuck := by rw [← hf]; dsimp only; rw [ea]
      rw [ef] at p'
      exact (show False from p').elim
    | some ρ2 =>
      have ef : f items[i] ρ' S' = fa ρ2 S' := by rw [← hf]; dsimp only; rw [ea]
      rw [ef] at p'
      refine gF_ok re' rx ea fun σ2 re2 _ => ⟨mu', ρ2, S', re2, g.rs, ?_⟩
      have step : ∀ ρ3 S3, PostS N X.K W H2 mu' S' (if same gd S1 S3 then forL f (same gd S1) (items.drop (i + 1)) ρ3 S3 else .stuck) D → ∀ (σ3 : L2.St) (H3 : Hp) (mu3 : Nat → Addr), Gw N X.K H2 mu' S' H3 mu3 S3 → RE N X.K H3 mu3 S3 ρ3 σ3 →
          ∃ mu' ρ' S', Gw N X.K H1 mu1 S1 H3 mu' S' ∧ same gd S1 S' = true ∧ RE N X.K H3 mu' S' ρ' σ3 ∧ PostS N X.K W H3 mu' S' (forL f (same gd S1) (items.drop (i + 1)) ρ' S') D := fun ρ3 S3 q σ3 H3 mu3 g3 re3 => by
        split at q
        · rename_i hk
          exact ⟨mu3, ρ3, S3, g.trans g3, hk, re3, PostS.after q g3⟩
        · exact q.elim
      cases e2 : fa ρ2 S' with
      | nx ρ3 S3 => rw [e2] at p'; exact step ρ3 S3 p'
      | cnt ρ3 S3 => rw [e2] at p'; exact step ρ3 S3 p'
      | brk ρ3 S3 => rw [e2] at p'; exact p'
      | ret d S3 => rw [e2] at p'; exact p'
      | exn C fs ρ3 S3 => rw [e2] at p'; exact p'
      | stuck => rw [e2] at p'; exact (show False from p').elim
  · have ei : i = items.length := by omega
    subst ei
    rw [List.drop_length] at p'
    unfold forL at p'
    exact .inl ⟨now.2 (Nat.le_refl _), p' σ' H' mu' (Gw.refl g.rs) re'⟩

/-! ### raise -/
/-- an exception made: its class, its fields by its __init__ -/
def tM (N : Nm) (K : PySem.W.Frag) (W : WX) (C : Nat) (flds : List Nat) (fs : Env → Store → R (List D)) : L2.St → Hp → XK → Prop := fun σ H Q => ∃ mu ρ S, RE N K H mu S ρ σ ∧ RS N K H mu S ∧
  Post N K H mu S (relDs K) (fs ρ S) (fun vs H1 => ∃ mu1 S1 ds, relDs K H1 mu1 S1 ds vs ∧ RS N K H1 mu1 S1 ∧ ds.length = flds.length ∧
    ∀ (dd : Addr) (gs : List (Str × V)) (H2 : Hp), Gw N K H1 mu1 S1 H2 mu1 S1 → H2 dd = some (.xd gs) → RF N K H2 mu1 (flds.zip ds).reverse gs → Q (.ref (N.cad C)) (some dd) H2) (XW W σ)
theorem zip_wfs {k : Nat} : ∀ {fl : List Nat} {ds : List D}, ds.length = fl.length → D.wfs k ds = true → D.wfs k ((fl.zip ds).map (·.2)) = true
  | [], [], _, h => rfl
  | [], _ :: _, e, _ => by cases e
  | _ :: _, [], e, _ => by cases e
  | a :: fl, d :: ds, e, h => by
    have h' : D.wf k d = true ∧ D.wfs k ds = true := by simpa [D.wfs] using h
    simp only [List.zip_cons_cons, List.map_cons, D.wfs, h'.1, Bool.true_and]
    exact zip_wfs (by simpa using e) h'.2
theorem rev_wfs {k : Nat} {ds : List D} (h : D.wfs k ds = true) : D.wfs k ds.reverse = true := wfs_all.mpr fun x hx => wfs_all.mp h x (List.mem_reverse.mp hx)
theorem s_rais {C : Nat} {flds : List Nat} {fs : Env → Store → R (List D)} (hc : X.calm = true) (tk : Takes X W) (he : PMk X e (tM N X.K W C flds fs)) : PS X (.Raise (some e) none pos) (tS N X.K W fun ρ S => (fs ρ S).toS ρ fun ds S1 => if ds.length = flds.length then .exn C (flds.zip ds).reverse ρ S1 else .stuck) := by
  refine psI (ps_raise hc tk he) fun D σ H h => ?_
  obtain ⟨mu, ρ, S, re, rs, p⟩ := h
  refine ⟨mu, ρ, S, re, rs, (toS_post (rel := relDs X.K) re rs p).imp ?_⟩
  rintro vs H1 ⟨mu1, S1, ds, r1, g, p1⟩
  split at p1
  · rename_i hl
    refine ⟨mu1, S1, ds, r1, g.rs, hl, fun dd gs H2 g2 q1 q2 => ?_⟩
    exact p1 dd gs σ H2 mu1 g2 ((re.gw rs g).gw g.rs g2) q1 q2 (by rw [List.map_reverse]; exact rev_wfs (zip_wfs hl r1.2))
  · exact p1.elim
end
end Fx
set_option Elab.async false
set_option linter.all false
set_option autoImplicit false
set_option maxRecDepth 100000
set_option maxHeartbeats 4000000
/-! FxN: try with clauses, each with a name or none. -/
namespace Fx
open PySem PySem.Spec PyProof.Rows L2

/-- the ends of a clause's suite: its name goes -/
def endsO : Option Nat → Ends → Ends
  | none, D => D
  | some i, D => { nx := fun σ' H' => D.nx (σ'.set i none) H', rt := D.rt, bk := fun σ' H' => D.bk (σ'.set i none) H', ct := fun σ' H' => D.ct (σ'.set i none) H' }
def startO : Option Nat → L2.St → Addr → L2.St
  | none, σ, _ => σ
  | some i, σ, a => σ.set i (some (.ref a))
structure HdE where
  c : Value
  i : Option Nat
  ts : Addr → Value → Option Addr → TS
/-- what the clauses wish of an exception -/
def wHds (K : PySem.W.Frag) (Wo : WX) (D : Ends) : List HdE → WX
  | [] => Wo
  | h :: r => fun cls d σ H => ∃ b, PySem.W.exmOne K cls h.c = some b ∧ (b = true → ∀ a, H a = none → h.ts a cls d (endsO h.i D) (startO h.i σ a) H) ∧ (b = false → wHds K Wo D r cls d σ H)
/-- the name of a clause, a local -/
def NmOk (X : Cx) : Option Str → Option Nat → Prop
  | none, none => True
  | some n, some i => X.N[i]? = some n ∧ X.env.kindOf n = some .local
  | _, _ => False
inductive HdsN (X : Cx) : List ExceptHandler → List HdE → Prop
  | nil : HdsN X [] []
  | cons {x : Str} {h : HdE} {n : Option Str} {b0 : Stmt} {su : List Stmt} {np p' : Pos} {hds : List ExceptHandler} {l : List HdE} (hc : Names X x h.c) (hn : NmOk X n h.i)
      (hsu : ∀ (a : Addr) (oe : Obj) (cls : Value) (d : Option Addr) (pn : List (Addr × Obj)), Zc cls d oe → (∃ vs, oe.data = .fields vs) → PSs (X.suite a ((a, oe) :: pn)) (b0 :: su) (h.ts a cls d)) (r : HdsN X hds l) :
      HdsN X (.ExceptHandler (some (.Name x np)) n (b0 :: su) p' :: hds) (h :: l)
section
variable {X : Cx} {body : List Stmt} {h0 : ExceptHandler} {hds : List ExceptHandler} {l : List HdE} {pos : Pos} {tb : WX → TS} {Wo : WX}
theorem s_catch (hs : X.stack = X.env :: X.outer) (hf : X.env.frame = some X.env.locals) (hN : X.N.Nodup) (tk : Takes X Wo)
    (hb : ∀ (W : WX) (pn : List (Addr × Obj)) (xe : Value → Shared → Prop), Takes (X.tr pn xe) W → PassesOwn (model X.prog X.w) X.A X.env xe → PSs (X.tr pn xe) body (tb W)) (hh : HdsN X (h0 :: hds) l) :
    PS X (.Try body (h0 :: hds) [] [] pos) (fun D σ H => tb (wHds X.K Wo D l) D σ H) := by
  refine .mk fun pins s σ H D I hyp => wpAny_Try_except ?_
  have ok := I.ok
  have frames : X.A.frames = some (X.env :: X.outer) := ok.frames.trans (congrArg some hs)
  refine wpAny_mono ((hb (wHds X.K Wo D l) (X.pn ++ pins) (fun er t1 => wpAny (model X.prog X.w) X.A (noteFrame er X.env) (fun _ t2 => wpAny (model X.prog X.w) X.A (setFlight er none) (fun _ t3 => wpAny (model X.prog X.w) X.A (handleBy er X.env (h0 :: hds)) (SP X pins D) X.xe t3) X.xe t2) X.xe t1)
    (fun u t xx => ?_) PassesOwn.looking).run [] s σ H D (I.toTry _) hyp) (fun fl t hsp => ?_) (fun _ _ q => q)
  case refine_2 =>
    cases fl with
    | ret u => exact let ⟨v, σ', H', J, r, q⟩ := hsp; ⟨v, σ', H', J.ofTry ok, r, q⟩
    | next => exact let ⟨σ', H', J, q⟩ := hsp; wpAny_execs_nil ⟨σ', H', J.ofTry ok, q⟩
    | brk => exact let ⟨σ', H', J, q⟩ := hsp; ⟨σ', H', J.ofTry ok, q⟩
    | cont => exact let ⟨σ', H', J, q⟩ := hsp; ⟨σ', H', J.ofTry ok, q⟩
  obtain ⟨a, B, sI, pins', σ1, H1, cls, d, rfl, J', nb, up, sky, na, os, ag, w⟩ := xx
  have J : Inv X pins σ1 H1 sI := J'.ofTry ok
  show wpAny (model X.prog X.w) X.A (noteFrame (.ref a) X.env) _ _ t
  refine Sky.land Zc.steady frames hf (hs ▸ sky) fun g3 fl3 up3 => ?_
  have J3 : Inv X pins σ1 H1 { t with heap := g3 } := J.landed nb fl3.1 (up.trans up3) os ag
  obtain ⟨oe3, vs3, he3, hz3, hd3⟩ := fl3.there
  have out : a ∉ frs (X.env :: X.outer) := fun hm => by
    obtain ⟨_, o', e', hnf⟩ := fl3.2.2.1.mem hm
    rw [he3] at e'
    cases e'
    exact hnf _ hd3
  have nL : a ≠ X.env.locals := fun z => out (List.mem_filterMap.mpr ⟨X.env, List.mem_cons_self, hf.trans (congrArg some z.symm)⟩)
  have nF : a ∉ X.fs := fun hm => let ⟨en, he, q⟩ := List.mem_filterMap.mp hm; out (List.mem_filterMap.mpr ⟨en, List.mem_cons_of_mem _ he, q⟩)
  have S3 := J3.suite he3 hd3 na nL nF
  have go : ∀ {hds' : List ExceptHandler} {l' : List HdE}, HdsN X hds' l' → wHds X.K Wo D l' cls d σ1 H1 → wpAny (model X.prog X.w) X.A (handleBy (.ref a) X.env hds') (SP X pins D) X.xe { t with heap := g3 } := by
    intro hds' l' hk
    induction hk with
    | nil =>
      intro w
      refine wpAny_handleBy_nil ?_
      obtain ⟨k1, k2, k3, oe, vs, T, oT, ts', he, hz, hd, h1, hr⟩ := id fl3
      unfold PySem.passOn
      refine wpAny_bind (wpAny_field he hd h1 ?_)
      rw [if_neg (show ¬ ((Value.ref T == Value.none) = true) by simp)]
      have fin : wpAny (model X.prog X.w) X.A (setFlight (.ref a) X.env.frame) (fun _ t4 => wpAny (model X.prog X.w) X.A (throw (.ref a) : Sem Flow) (SP X pins D) X.xe t4) X.xe { t with heap := g3 } := by
        rw [hf]
        exact HandSPX.setFlight_upZ fl3 fun g4 hh4 up4 => wpAny_throw (tk _ _ ⟨a, B, sI, pins, σ1, H1, cls, d, rfl, J, nb, (up.trans up3).trans up4, .inr (.inr (hs ▸ hh4)), na, os, ag, w⟩)
      first
        | exact wpAny_bind (wpAny_pure (wpAny_bind fin))
        | exact wpAny_bind fin
    | @cons x h n b0 su np p' hds2 l2 hc hn hsu r ih =>
      intro w
      obtain ⟨b, hb1, hyes, hno⟩ := w
      refine wpAny_handleBy_cons (codeAny_handlers_test ?_) (fun q => by cases q)
      have LM := PySem.W.exm_one (M := model X.prog X.w) J3.kIn (show PySem.W.Looks (model X.prog X.w) g3 (typeOf (.ref a)) cls from fun A Q E s k q => wpAny_typeOf_ref (k _ _ he3) (by rw [hz3.1]; exact q)) hb1
      have test : ∀ {Q : Value → Shared → Prop} {E : Value → Shared → Prop}, Q h.c { t with heap := g3 } → wpAny (model X.prog X.w) (X.A.mark (some (.ref a))) (eval (.Name x np) X.env) Q E { t with heap := g3 } := fun {Q E} q => by
        obtain ⟨hg, hdb, hm | ⟨hm, hv, hnn⟩⟩ := hc
        · exact ld_glob (X := X.suite a _) S3 hg hm q hdb
        · exact ld_blt (X := X.suite a _) S3 hg hm hv q hnn hdb
      refine test (LM.here ?_)
      cases b with
      | false => exact ih (hno rfl)
      | true =>
        have again : ∀ {Q : Shared → Prop} {E : Value → Shared → Prop}, (∀ (g4 : Heap) (oe4 : Obj), Zc cls d oe4 → (∃ vs, oe4.data = .fields vs) → Inv (X.suite a ((a, oe4) :: (X.pn ++ pins))) [] σ1 H1 { t with heap := g4 } → Q { t with heap := g4 }) →
            wpAny (model X.prog X.w) (X.A.mark (some (.ref a))) (setFlight (.ref a) none) (fun _ t4 => Q t4) E { t with heap := g3 } := fun {Q E} k => HandSPX.lands_againZ fl3 fun g4 fl4 up4 => by
          obtain ⟨oe4, vs4, he4, hz4, hd4⟩ := fl4.there
          have J4 : Inv X pins σ1 H1 { t with heap := g4 } := J.landed nb fl4.1 ((up.trans up3).trans up4) os ag
          exact k g4 oe4 hz4 ⟨_, hd4⟩ (J4.suite he4 hd4 na nL nF)
        have hyes := hyes rfl a na
        obtain ⟨c, i, ts⟩ := h
        cases n with
        | none =>
          cases i with
          | some i => exact hn.elim
          | none =>
            refine codeAny_handlers_suite (again fun g4 oe4 hz4 hd4 S4 => ?_)
            refine wpAny_mono ((hsu a oe4 cls d (X.pn ++ pins) hz4 hd4).run [] _ _ H1 _ S4 hyes) (fun fl t6 q => ?_) (fun _ _ z => False.elim z)
            cases fl with
            | ret u => exact let ⟨v, σ', H', K6, r, q⟩ := q; ⟨v, σ', H', K6.unsuite ok, r, q⟩
            | next => exact let ⟨σ', H', K6, q⟩ := q; ⟨σ', H', K6.unsuite ok, q⟩
            | brk => exact let ⟨σ', H', K6, q⟩ := q; ⟨σ', H', K6.unsuite ok, q⟩
            | cont => exact let ⟨σ', H', K6, q⟩ := q; ⟨σ', H', K6.unsuite ok, q⟩
        | some y =>
          cases i with
          | none => exact hn.elim
          | some i =>
            obtain ⟨hi, hl⟩ := hn
            refine codeAny_handlers_suite_as (again fun g4 oe4 hz4 hd4 S4 => ?_)
            refine store_ok (X := X.suite a ((a, oe4) :: (X.pn ++ pins))) (v := .ref a) S4 hN hi (.inl hl) rfl (fun t5 S5 => ?_) (.inr hl)
            refine wpAny_mono ((hsu a oe4 cls d (X.pn ++ pins) hz4 hd4).run [] t5 _ H1 _ S5 hyes) (fun fl t6 q => ?_) (fun _ _ z => False.elim z)
            have away : ∀ {σ6 : L2.St} {H6 : Hp} {Q : Shared → Prop}, Inv (X.suite a ((a, oe4) :: (X.pn ++ pins))) [] σ6 H6 t6 → (∀ t7, Inv X pins (σ6.set i none) H6 t7 → Q t7) →
                wpAny (model X.prog X.w) X.A (do bindName X.env y .none; unbindBehindTheSuite X.env y p') (fun _ t7 => Q t7) X.xe t6 := fun {σ6 H6 Q} S6 hq => gone_ok (S6.unsuite ok) hN hi hl hq
            cases fl with
            | ret u => exact let ⟨v, σ', H', K6, r, q⟩ := q; away K6 fun t7 J7 => ⟨v, _, H', J7, r, q⟩
            | next => exact let ⟨σ', H', K6, q⟩ := q; away K6 fun t7 J7 => ⟨_, H', J7, q⟩
            | brk => exact let ⟨σ', H', K6, q⟩ := q; away K6 fun t7 J7 => ⟨_, H', J7, q⟩
            | cont => exact let ⟨σ', H', K6, q⟩ := q; away K6 fun t7 J7 => ⟨_, H', J7, q⟩
  exact go hh w
end
end Fx
set_option Elab.async false
set_option linter.all false
set_option autoImplicit false
set_option maxRecDepth 100000
set_option maxHeartbeats 4000000
/-! FxO: the suites of clauses; a checker of statements, and that it is right. -/
namespace Fx
open PySem PySem.Spec PyProof.Rows L2

/-! ### the same names, another handled exception -/
abbrev Nm.on (N : Nm) (x : Option HX) : Nm := { N with hx := x }
section
variable {N : Nm} {K : PySem.W.Frag} {H H' : Hp} {mu mu' : Nat → Addr} {S S' : Store} {x : Option HX} {ρ : Env} {σ : L2.St}
theorem RF.on : ∀ {fs : List (Nat × D)} {gs : List (Str × V)}, RF N K H mu fs gs ↔ RF (N.on x) K H mu fs gs
  | [], gs => Iff.rfl
  | (f, d) :: fs, gs => by
    constructor
    · rintro ⟨y, v, r, e, h1, h2, h3⟩
      exact ⟨y, v, r, e, h1, h2, RF.on.mp h3⟩
    · rintro ⟨y, v, r, e, h1, h2, h3⟩
      exact ⟨y, v, r, e, h1, h2, RF.on.mpr h3⟩
theorem RO.on {o : O} {a : Addr} : RO N K H mu o a ↔ RO (N.on x) K H mu o a := by
  cases o with
  | lst xs => exact Iff.rfl
  | frz xs => exact Iff.rfl
  | ins C fs =>
    constructor
    · rintro ⟨dx, gs, h1, h2⟩
      exact ⟨dx, gs, h1, RF.on.mp h2⟩
    · rintro ⟨dx, gs, h1, h2⟩
      exact ⟨dx, gs, h1, RF.on.mpr h2⟩
theorem RS.on : RS N K H mu S ↔ RS (N.on x) K H mu S :=
  ⟨fun r => ⟨fun n o e => RO.on.mp (r.ob n o e), r.wf, r.inj⟩, fun r => ⟨fun n o e => RO.on.mpr (r.ob n o e), r.wf, r.inj⟩⟩
theorem Gw.on : Gw N K H mu S H' mu' S' ↔ Gw (N.on x) K H mu S H' mu' S' :=
  ⟨fun g => ⟨RS.on.mp g.rs, g.le, g.mus, g.fr, g.new, g.som, g.mt⟩, fun g => ⟨RS.on.mpr g.rs, g.le, g.mus, g.fr, g.new, g.som, g.mt⟩⟩
theorem RE.off (hN : N.hx = none) (e : RE (N.on x) K H mu S ρ σ) : RE N K H mu S ρ σ := ⟨e.len, e.get, fun y hy => by rw [hN] at hy; cases hy⟩
theorem RE.gone (hN : N.hx = none) (e : RE N K H mu S ρ σ) (i : Nat) : RE N K H mu S (ρ.set i none) (σ.set i none) := by
  refine ⟨by rw [List.length_set, List.length_set]; exact e.len, fun j d h => ?_, fun y hy => by rw [hN] at hy; cases hy⟩
  by_cases c : i = j
  · subst c
    by_cases hi : i < ρ.length
    · rw [List.getElem?_set_self hi] at h; cases Option.some.inj h
    · rw [List.getElem?_eq_none (by rw [List.length_set]; omega)] at h; cases h
  · rw [List.getElem?_set_ne c] at h ⊢
    exact e.get j d h
/-- what the suite's evaluator says, for the ends of the statement -/
theorem calm_on {W : WX} {r : SR} {D : Ends} (hN : N.hx = none) (p : PostS N K W H mu S r.calm D) : PostS (N.on x) K W0 H mu S r D := by
  cases r with
  | nx ρ' S' => exact fun σ' H' mu' g e => p σ' H' mu' (Gw.on.mpr g) (e.off hN)
  | ret d S' => exact fun v H' mu' g e => p v H' mu' (Gw.on.mpr g) e
  | brk ρ' S' => exact fun σ' H' mu' g e => p σ' H' mu' (Gw.on.mpr g) (e.off hN)
  | cnt ρ' S' => exact fun σ' H' mu' g e => p σ' H' mu' (Gw.on.mpr g) (e.off hN)
  | exn C fs ρ' S' => exact (show False from p).elim
  | stuck => exact p
theorem gone_on {W : WX} {r : SR} {D : Ends} {i : Nat} (hN : N.hx = none) (p : PostS N K W H mu S (r.calm.gone i) D) : PostS (N.on x) K W0 H mu S r (endsO (some i) D) := by
  cases r with
  | nx ρ' S' => exact fun σ' H' mu' g e => p _ H' mu' (Gw.on.mpr g) ((e.off hN).gone hN i)
  | ret d S' => exact fun v H' mu' g e => p v H' mu' (Gw.on.mpr g) e
  | brk ρ' S' => exact fun σ' H' mu' g e => p _ H' mu' (Gw.on.mpr g) ((e.off hN).gone hN i)
  | cnt ρ' S' => exact fun σ' H' mu' g e => p _ H' mu' (Gw.on.mpr g) ((e.off hN).gone hN i)
  | exn C fs ρ' S' => exact (show False from p).elim
  | stuck => exact p
end

/-! ### the classes of exceptions -/
/-- cv: the class by its number; the first ones have fields and are raised -/
structure ExF (K : PySem.W.Frag) (mg : Str → Option Value) (N : Nm) (T : Tab) (G : Glob) (cv : Nat → Value) : Prop where
  nm : ∀ (k : Nat) (x : Str), T.xnm[k]? = some x → (mg x = some (cv k) ∨ (mg x = none ∧ bootBuiltins x = some (cv k) ∧ x ≠ "__name__")) ∧ safeN x = true
  val : ∀ k, ∃ v : V, RelV v (cv k) ∧ ∀ u, RelV v u → u = cv k
  exm : ∀ (C k : Nat) (x : Str), C < G.exc.length → T.xnm[k]? = some x → PySem.W.exmOne K (.ref (N.cad C)) (cv k) = some ((G.sub.getD C []).contains k) ∧ PySem.W.kitOne K (.ref (N.cad C)) (cv k) = some ((G.sub.getD C []).contains k)
  cls : ∀ C, C < G.exc.length → ExcC K (N.cad C)
  fld : ∀ (C f : Nat) (x : Str), C < G.exc.length → T.fld[f]? = some x → PySem.W.findIn K (.ref (N.cad C)) x = some none
  tfl : T.fld = N.fld
  nx : T.nx ≤ G.exc.length
/-- isinstance(e, c), e the exception at a with the dict at dd -/
def rIsX (K : PySem.W.Frag) (D a dd : Addr) : List V → Hp → VK → Prop := fun xs H Q => ∃ (c : V) (cv : Value) (b : Bool) (gs : List (Str × V)), xs = [.ref a, c] ∧ (∀ u, RelV c u → u = cv) ∧ H dd = some (.xd gs) ∧ PySem.W.kitOne K (.ref D) cv = some b ∧ Q (.bl b) H
section
variable {X : Cx}
theorem call_isX {a D dd : Addr} {oe : Obj} {pn : List (Addr × Obj)} (C : ExcC X.K D) (hz : Zc (.ref D) (some dd) oe) (hf : ∃ vs, oe.data = .fields vs) : CallR (X.suite a ((a, oe) :: pn)) (.builtin "isinstance") (rIsX X.K D a dd) := by
  intro pins s σ H xs us Q I r h
  obtain ⟨c, cv, b, gs, rfl, hcv, hd, e, q⟩ := h
  obtain ⟨u1, u2, rfl, r1, r2⟩ := vals2 r
  obtain rfl : u1 = Value.ref a := r1
  obtain rfl := hcv _ r2
  obtain ⟨hget, _⟩ := I.pin (a, oe) (List.mem_append.mpr (.inl List.mem_cons_self))
  obtain ⟨vs, hv⟩ := hf
  have hx : ObjOk X.prog X.w H s.heap dd (.xd gs) := I.hok dd _ hd
  obtain ⟨mA, ⟨od, es, ep, ho, _⟩, _⟩ := hx
  have J : PySem.W.InstAt s.heap a oe D (some od) := by
    obtain ⟨oc, od', oda, osl⟩ := oe
    obtain ⟨h1, h2⟩ := hz
    dsimp only at h1 h2 hv
    subst h1 h2 hv
    exact ⟨hget, rfl, rfl, ho⟩
  have hcl : (PySem.W.clsIn X.K D).isSome = true := by
    have := C.hd
    unfold PySem.W.hasDictIn at this
    cases z : PySem.W.clsIn X.K D with
    | none => rw [z] at this; cases this
    | some cd => rfl
  exact PySem.W.kia_one (PySem.W.kitx_exc hcl C.hg C.hk C.hs C.ha C.hn C.ht C.hm) I.kIn J e (fun z => nomatch z) fun tk => ⟨.bl b, H, I.kept (t' := tk) fun _ _ z => z, rfl, q⟩
theorem look_wf {k : Nat} {f : Nat} {d : D} : ∀ {fs : List (Nat × D)}, D.wfs k (fs.map (·.2)) = true → fs.lookup f = some d → d.wf k = true
  | [], _, e => by cases e
  | (g, c) :: fs, h, e => by
    have h' : D.wf k c = true ∧ D.wfs k (fs.map (·.2)) = true := by simpa [D.wfs] using h
    rw [List.lookup_cons] at e
    split at e
    · cases e; exact h'.1
    · exact look_wf h'.2 e
variable {N : Nm} {T : Tab} {G : Glob} {cl : Orac} {W : WX} {S : Sc} {cv : Nat → Value}
/-- err.f in the suite -/
theorem s_xf {C : Nat} {fs : List (Nat × D)} {dd a : Addr} {gs : List (Str × V)} {i f : Nat} {oe : Obj} {pn : List (Addr × Obj)} {x nm : Str} {p p2 : Pos} (E : ExF X.K X.mg N T G cv) (hC : C < G.exc.length) (hz : Zc (.ref (N.cad C)) (some dd) oe) (hf : ∃ vs, oe.data = .fields vs)
    (hi : X.N[i]? = some x) (hv : Vis X.env.scope x) (hs : safeN x = true) (hn : T.fld[f]? = some nm) :
    PE (X.suite a ((a, oe) :: pn)) (.Attribute (.Name x p) nm p2) (tE (N.on (some ⟨dd, gs, fs, C, a, some i⟩)) X.K W0 (ev G cl (some (C, fs)) (.xfld i f)).v) := by
  have c := E.cls C hC
  refine peI (pe_xf (n := nm) ⟨c.hg, c.hk, c.hs, c.hd⟩ (E.fld C f nm hC hn) hz hf (pe_var (X := X.suite a ((a, oe) :: pn)) (i := i) hi hv (safe_is hs).1 (safe_is hs).2)) fun σ H Q h => ?_
  obtain ⟨mu, ρ, S, re, rs, q⟩ := h
  obtain ⟨h1, h2, h3, h4⟩ := re.hx _ rfl
  have q : Post (N.on (some ⟨dd, gs, fs, C, a, some i⟩)) X.K H mu S (relD X.K) (match (some (C, fs) : Xc), ρ[i]? with
    | some (_, fs), some none => optR (fs.lookup f) S
    | _, _ => .stuck) Q (XW W0 σ) := q
  cases e : ρ[i]? with
  | none => rw [e] at q; exact (show False from q).elim
  | some o =>
    cases o with
    | some d => rw [e] at q; exact (show False from q).elim
    | none =>
      rw [e] at q
      dsimp only at q
      cases e2 : fs.lookup f with
      | none => rw [e2] at q; exact (show False from q).elim
      | some d =>
        rw [e2] at q
        obtain ⟨v, g1, g2⟩ := RF.look (N := N.on (some ⟨dd, gs, fs, C, a, some i⟩)) (y := nm) (by show N.fld[f]? = some nm; rw [← E.tfl]; exact hn) h2 e2
        exact ⟨.ref a, h4 i rfl e, rfl, rfl, dd, gs, v, rfl, h1, g1, Post.now (rel := relD X.K) rs q ⟨g2, look_wf h3 e2⟩⟩
/-- isinstance(err, C) in the suite -/
theorem s_xi {C : Nat} {fs : List (Nat × D)} {dd a : Addr} {gs : List (Str × V)} {i k : Nat} {oe : Obj} {pn : List (Addr × Obj)} {x c : Str} {p p2 p3 p4 : Pos} (E : ExF X.K X.mg N T G cv) (hC : C < G.exc.length) (hz : Zc (.ref (N.cad C)) (some dd) oe) (hf : ∃ vs, oe.data = .fields vs)
    (hi : X.N[i]? = some x) (hv : Vis X.env.scope x) (hs : safeN x = true) (hk : T.xnm[k]? = some c) (hg : Gl X c) (hgi : Gl X "isinstance") (hmi : X.mg "isinstance" = none) :
    PE (X.suite a ((a, oe) :: pn)) (.Call (.Name "isinstance" p) [.Name x p2, .Name c p3] [] p4) (tE (N.on (some ⟨dd, gs, fs, C, a, some i⟩)) X.K W0 (ev G cl (some (C, fs)) (.xisi i [k])).v) := by
  obtain ⟨hm, hsc⟩ := E.nm k c hk
  obtain ⟨vv, rv, uv⟩ := E.val k
  have hcl : PE (X.suite a ((a, oe) :: pn)) (.Name c p3) (tC vv) := by
    rcases hm with hm | ⟨hm, hb, hne⟩
    · exact pe_glob (X := X.suite a ((a, oe) :: pn)) hg hm rv (safe_is hsc).1
    · exact pe_bltn (X := X.suite a ((a, oe) :: pn)) hg hm hb rv hne (safe_is hsc).1
  refine peI (pe_callB (call_isX (E.cls C hC) hz hf) hgi hmi (by decide +kernel) (pa_cons (pe_var (X := X.suite a ((a, oe) :: pn)) (i := i) hi hv (safe_is hs).1 (safe_is hs).2) (pa_cons hcl pa_nil rfl) rfl) (by decide) (by decide) rfl rfl) fun σ H Q h => ?_
  obtain ⟨mu, ρ, S, re, rs, q⟩ := h
  obtain ⟨h1, h2, h3, h4⟩ := re.hx _ rfl
  have q : Post (N.on (some ⟨dd, gs, fs, C, a, some i⟩)) X.K H mu S (relD X.K) (match (some (C, fs) : Xc), ρ[i]? with
    | some (C, _), some none => .ok (.bl ([k].any fun c => (G.sub.getD C []).contains c)) S
    | _, _ => .stuck) Q (XW W0 σ) := q
  cases e : ρ[i]? with
  | none => rw [e] at q; exact (show False from q).elim
  | some o =>
    cases o with
    | some d => rw [e] at q; exact (show False from q).elim
    | none =>
      rw [e] at q
      dsimp only at q
      rw [List.any_cons, List.any_nil, Bool.or_false] at q
      exact ⟨.ref a, h4 i rfl e, vv, cv k, _, gs, rfl, uv, h1, (E.exm C k c hC hk).2, Post.now (rel := relD X.K) rs q ⟨rfl, rfl⟩⟩
end
end Fx
set_option Elab.async false
set_option linter.all false
set_option autoImplicit false
set_option maxRecDepth 100000
set_option maxHeartbeats 4000000
/-! FxP: a checker of statements, and that it is right. -/
namespace Fx
open PySem PySem.Spec PyProof.Rows L2

/-! ### the checker -/
def notComp : Expr → Bool
  | .ListComp _ _ _ _ => false
  | .SetComp _ _ _ _ => false
  | .DictComp _ _ _ _ _ => false
  | _ => true
def notTup : Expr → Bool
  | .Tuple _ _ _ => false
  | e => notComp e
/-- name = [..] on one line: the list is stored ahead of the block's end -/
def swB (S : Sc) (x : Str) (p : Pos) (scope : Scope) (q : Pos) : Bool :=
  (match S.sc.names.lookup x with | some .local => true | _ => false) && (p.line == q.line) && !(scope.names.any fun (n, k) => n == x && (k == .local || k == .cell))
mutual
def ckS (T : Tab) : Sc → FS → Stmt → Bool
  | S, .asg i e, s => (match s with
    | .Assign [.Name x _] v _ => decide (S.nm[i]? = some x) && locB S x && ckE T S e v
    | _ => false)
  | S, .asgT is e, s => (match s with
    | .Assign [.Tuple es _ _] v _ => ckNs S is es && !S.hot && ckE T S e v && notTup v
    | _ => false)
  | S, .aug i op e, s => (match s with
    | .AugAssign (.Name x _) op' v _ => decide (S.nm[i]? = some x) && locB S x && decide (op = op') && ckE T S e v
    | _ => false)
  | S, .expr e, s => (match s with
    | .Expr v _ => ckE T S e v && notComp v
    | _ => false)
  | S, .ret e, s => (match s with
    | .Return (some v) _ => ckE T S e v
    | _ => false)
  | _, .retN, s => (match s with
    | .Return none _ => true
    | _ => false)
  | S, .ifs c t e, s => (match s with
    | .If c' t' e' _ => ckE T S c c' && ckSs T S t t' && ckSs T S e e'
    | _ => false)
  | S, .whl c b e, s => (match s with
    | .While c' b' e' _ => !S.hot && ckE T S c c' && ckSs T S b b' && ckSs T S e e'
    | _ => false)
  | S, .fr tg src b, s => (match s with
    | .For tg' it b' [] _ => !S.hot && ckG S tg tg' && ckI T S src it && notSet it && ckSs T S b b'
    | _ => false)
  | _, .brk, s => (match s with
    | .Break _ => true
    | _ => false)
  | _, .cnt, s => (match s with
    | .Continue _ => true
    | _ => false)
  | _, .pass, s => (match s with
    | .Pass _ => true
    | _ => false)
  | S, .rais C es, s => (match s with
    | .Raise (some (.Call (.Name x _) (a :: l) [] _)) none _ => !S.hot && decide (T.xnm[C]? = some x) && glB S.sc x && ckEs T S es (a :: l) && decide (C < T.nx)
    | _ => false)
  | S, .tr b hs, s => (match s with
    | .Try b' (h' :: hs') [] [] _ => !S.hot && ckSs T S b b' && ckHs T S hs (h' :: hs')
    | _ => false)
def ckSs (T : Tab) : Sc → FSs → List Stmt → Bool
  | _, .nil, l => (match l with
    | [] => true
    | _ => false)
  | S, .cons f fs, l => (match l with
    | s :: ss => ckS T S f s && ckSs T S fs ss
    | _ => false)
def ckHs (T : Tab) : Sc → FHs → List ExceptHandler → Bool
  | _, .nil, l => (match l with
    | [] => true
    | _ => false)
  | S, .cons C nm b hs, l => (match l with
    | .ExceptHandler (some (.Name x _)) n (s0 :: su) _ :: r => decide (T.xnm[C]? = some x) && glB S.sc x && (match nm, n with
        | none, none => true
        | some i, some y => decide (S.nm[i]? = some y) && (match S.sc.names.lookup y with | some .local => true | _ => false)
        | _, _ => false) && ckSs T { S with hot := true, hx := nm } b (s0 :: su) && ckHs T S hs r
    | _ => false)
end

/-! ### the context -/
structure Sx (X : Cx) (N : Nm) (T : Tab) (G : Glob) (S : Sc) (cv : Nat → Value) : Prop where
  kind : S.sc.kind = .function
  pass : S.hot = false → PassesOwn (model X.prog X.w) X.A X.env X.xe
  stk : S.hot = false → X.stack = X.env :: X.outer
  frm : S.hot = false → X.env.frame = some X.env.locals
  ex : ExF X.K X.mg N T G cv
  mke : S.hot = false → ∀ (pn : List (Addr × Obj)) (xe : Value → Shared → Prop) (W' : WX), Takes (X.tr pn xe) W' → ∀ (C : Nat) (x : Str) (flds : List Nat) (a : Expr) (l : List Expr) (fs : Env → Store → R (List D)) (p p2 : Pos), T.xnm[C]? = some x → G.exc[C]? = some flds → Gl X x →
    noStar (a :: l) = true → PA (X.tr pn xe) (a :: l) (tA N X.K W' fs) → PMk (X.tr pn xe) (.Call (.Name x p) (a :: l) [] p2) (tM N X.K W' C flds fs)
section
variable {X : Cx} {N : Nm} {T : Tab} {G : Glob} {cl : Orac} {W : WX} {S : Sc} {xc : Xc} {cv : Nat → Value}
theorem OwnFn.tr {x : Str} {g : List D → Store → R D} {fa : Addr} {fd : FuncData} {ps : List Str} {lvl : Nat} (F : OwnFn N X x g fa fd ps lvl) (pn : List (Addr × Obj)) (xe : Value → Shared → Prop) :
    OwnFn N (X.tr pn xe) x g fa fd ps lvl := ⟨F.mg, F.ok, F.room, F.kp, F.bd, F.st⟩
/-- a try's body -/
theorem Kx.tr (k : Kx X N T G cl W S none) (hh : S.hot = false) (pn : List (Addr × Obj)) (xe : Value → Shared → Prop) (W' : WX) (tk : Takes (X.tr pn xe) W') : Kx (X.tr pn xe) N T G cl W' S none where
  sc := k.sc
  fn := k.fn
  nm := k.nm
  nd := k.nd
  calm := k.calm
  hu := k.hu
  tk := fun _ => tk
  own := fun _ f x e => let ⟨fa, fd, ps, lvl, F⟩ := k.own hh f x e; ⟨fa, fd, ps, lvl, F.tr pn xe⟩
  con := k.con
  blt := k.blt
  nox := k.nox
  xf := fun i x f nm p p2 e => by rw [(k.nox hh).2] at e; cases e
  xi := fun i x f nm p p2 p3 p4 e => by rw [(k.nox hh).2] at e; cases e
theorem Sx.tr (s : Sx X N T G S cv) (hh : S.hot = false) (pn : List (Addr × Obj)) (xe : Value → Shared → Prop) (hp : PassesOwn (model X.prog X.w) X.A X.env xe) : Sx (X.tr pn xe) N T G S cv :=
  ⟨s.kind, fun _ => hp, fun _ => s.stk hh, fun _ => s.frm hh, s.ex, fun _ pn' xe' => s.mke hh pn' xe'⟩
/-- a clause's suite -/
theorem Kx.suite (k : Kx X N T G cl W S xc) (E : ExF X.K X.mg N T G cv) {C : Nat} {fs : List (Nat × D)} {dd a : Addr} {gs : List (Str × V)} {nm : Option Nat} {oe : Obj} {pn : List (Addr × Obj)} (hC : C < G.exc.length) (hz : Zc (.ref (N.cad C)) (some dd) oe) (hf : ∃ vs, oe.data = .fields vs) :
    Kx (X.suite a ((a, oe) :: pn)) (N.on (some ⟨dd, gs, fs, C, a, nm⟩)) T G cl W0 { S with hot := true, hx := nm } (some (C, fs)) where
  sc := k.sc
  fn := k.fn
  nm := k.nm
  nd := k.nd
  calm := fun h => by cases h
  hu := k.hu
  tk := fun h => by cases h
  own := fun h => by cases h
  con := k.con
  blt := k.blt
  nox := fun h => by cases h
  xf := fun i x f n p p2 e hi hv hs hn => by
    have e : nm = some i := e
    subst e
    exact s_xf E hC hz hf (by rw [k.nm]; exact hi) (vis_is k hv) hs hn
  xi := fun i x f c p p2 p3 p4 e hi hv hs hk hg hgi => by
    have e : nm = some i := e
    subst e
    exact s_xi E hC hz hf (by rw [k.nm]; exact hi) (vis_is k hv) hs hk (gl_is k hg) hgi (k.blt _ (by simp))
theorem ExF.on (E : ExF X.K X.mg N T G cv) (x : Option HX) : ExF X.K X.mg (N.on x) T G cv := ⟨E.nm, E.val, E.exm, E.cls, E.fld, E.tfl, E.nx⟩
theorem Sx.suite (s : Sx X N T G S cv) (a : Addr) (pn : List (Addr × Obj)) (x : Option HX) (nm : Option Nat) : Sx (X.suite a pn) (N.on x) T G { S with hot := true, hx := nm } cv :=
  ⟨s.kind, fun h => Bool.noConfusion h, fun h => Bool.noConfusion h, fun h => Bool.noConfusion h, s.ex.on x, fun h => Bool.noConfusion h⟩

/-! ### clauses -/
def tH (N : Nm) (K : PySem.W.Frag) (G : Glob) (cl : Orac) (b : FSs) (i : Option Nat) : Addr → Value → Option Addr → TS := fun a cls d D σ H => ∃ (C : Nat) (fs : List (Nat × Fx.D)) (dd : Addr) (gs : List (Str × V)), cls = .ref (N.cad C) ∧ d = some dd ∧ C < G.exc.length ∧
  tS (N.on (some ⟨dd, gs, fs, C, a, i⟩)) K W0 (exs G cl b (some (C, fs))) D σ H
def hdEs (N : Nm) (K : PySem.W.Frag) (G : Glob) (cl : Orac) (cv : Nat → Value) : FHs → List HdE
  | .nil => []
  | .cons C nm b hs => ⟨cv C, nm, tH N K G cl b nm⟩ :: hdEs N K G cl cv hs
/-- every class that a clause names is known -/
def hsIn (T : Tab) : FHs → Bool
  | .nil => true
  | .cons C _ _ hs => (T.xnm[C]?).isSome && hsIn T hs
theorem exh_rd (hN : N.hx = none) (E : ExF X.K X.mg N T G cv) {C : Nat} {fs : List (Nat × Fx.D)} {ρ : Env} {σ : L2.St} {H : Hp} {mu : Nat → Addr} {St : Store} {dd : Addr} {gs : List (Str × V)} {D : Ends} (re : RE N X.K H mu St ρ σ) (rs : RS N X.K H mu St) (hd : H dd = some (.xd gs)) (rf : RF N X.K H mu fs gs)
    (wf : Fx.D.wfs St.length (fs.map (·.2)) = true) (hC : C < G.exc.length) : ∀ (hs : FHs), hsIn T hs = true → PostS N X.K W H mu St (exh G cl hs C fs ρ St) D → wHds X.K W D (hdEs N X.K G cl cv hs) (.ref (N.cad C)) (some dd) σ H
  | .nil, _, p => p dd gs σ H mu (Gw.refl rs) re hd rf wf
  | .cons c nm b hs, hi, p => by
    obtain ⟨h1, h2⟩ := band hi
    obtain ⟨x, hx⟩ := Option.isSome_iff_exists.mp h1
    refine ⟨_, (E.exm C c x hC hx).1, fun ht a na => ?_, fun hf => ?_⟩
    · have p : PostS N X.K W H mu St (if (G.sub.getD C []).contains c then (match (generalizing := false) nm with
        | none => (exs G cl b (some (C, fs)) ρ St).calm
        | some i => ((exs G cl b (some (C, fs)) (ρ.set i none) St).calm).gone i) else exh G cl hs C fs ρ St) D := p
      rw [if_pos ht] at p
      cases nm with
      | none =>
        exact ⟨C, fs, dd, gs, rfl, rfl, hC, mu, ρ, St, ⟨re.len, re.get, fun y hy => by cases hy; exact ⟨hd, RF.on.mp rf, wf, fun i e => by cases e⟩⟩, RS.on.mp rs, calm_on hN p⟩
      | some i =>
        refine ⟨C, fs, dd, gs, rfl, rfl, hC, mu, ρ.set i none, St, ⟨?_, fun j d h => ?_, fun y hy => ?_⟩, RS.on.mp rs, gone_on hN p⟩
        · show (ρ.set i none).length = (σ.set i (some (.ref a))).length
          rw [List.length_set, List.length_set]
          exact re.len
        · show d.wf St.length = true ∧ ∃ v, (σ.set i (some (.ref a)))[j]? = some (some v) ∧ _
          by_cases c : i = j
          · subst c
            by_cases hi : i < ρ.length
            · rw [List.getElem?_set_self hi] at h; cases Option.some.inj h
            · rw [List.getElem?_eq_none (by rw [List.length_set]; omega)] at h; cases h
          · rw [List.getElem?_set_ne c] at h
            rw [List.getElem?_set_ne c]
            exact re.get j d h
        · cases hy
          refine ⟨hd, RF.on.mp rf, wf, fun j e h => ?_⟩
          cases e
          show (σ.set i (some (.ref a)))[i]? = _
          have hi : i < ρ.length := by
            obtain ⟨l, _⟩ := List.getElem?_eq_some_iff.mp h
            rw [List.length_set] at l
            exact l
          rw [List.getElem?_set_self (by rw [← re.len]; exact hi)]
    · have p : PostS N X.K W H mu St (if (G.sub.getD C []).contains c then (match (generalizing := false) nm with
        | none => (exs G cl b (some (C, fs)) ρ St).calm
        | some i => ((exs G cl b (some (C, fs)) (ρ.set i none) St).calm).gone i) else exh G cl hs C fs ρ St) D := p
      rw [if_neg (by rw [hf]; exact Bool.false_ne_true)] at p
      exact exh_rd hN E re rs hd rf wf hC hs h2 p
theorem s_try {b : List Stmt} {h0 : ExceptHandler} {hds : List ExceptHandler} {pos : Pos} {fb : FSs} {fh : FHs} (k : Kx X N T G cl W S none) (s : Sx X N T G S cv) (hh : S.hot = false) (hi : hsIn T fh = true)
    (hb : ∀ (W' : WX) (pn : List (Addr × Obj)) (xe : Value → Shared → Prop), Takes (X.tr pn xe) W' → PassesOwn (model X.prog X.w) X.A X.env xe → PSs (X.tr pn xe) b (tS N X.K W' (exs G cl fb none))) (hd : HdsN X (h0 :: hds) (hdEs N X.K G cl cv fh)) :
    PS X (.Try b (h0 :: hds) [] [] pos) (tS N X.K W (ex G cl (.tr fb fh) none)) := by
  refine psI (s_catch (tb := fun W' => tS N X.K W' (exs G cl fb none)) (s.stk hh) (s.frm hh) (by rw [k.nm]; exact k.nd) (k.tk hh) hb hd) fun D σ H h => ?_
  obtain ⟨mu, ρ, St, re, rs, p⟩ := h
  refine ⟨mu, ρ, St, re, rs, ?_⟩
  have p : PostS N X.K W H mu St (match exs G cl fb none ρ St with
    | .exn C fs ρ' S' => if C < G.exc.length then exh G cl fh C fs ρ' S' else .stuck
    | r => r) D := p
  cases e : exs G cl fb none ρ St with
  | exn C fs ρ' S' =>
    rw [e] at p
    dsimp only at p
    split at p
    · rename_i hC
      exact fun dd gs σ' H' mu' g re' q1 q2 q3 => exh_rd (k.nox hh).1 s.ex re' g.rs q1 q2 q3 hC fh hi (PostS.after p g)
    · exact p.elim
  | nx ρ' S' => rw [e] at p; exact p
  | ret d S' => rw [e] at p; exact p
  | brk ρ' S' => rw [e] at p; exact p
  | cnt ρ' S' => rw [e] at p; exact p
  | stuck => rw [e] at p; exact p
end

/-! ### the theorem -/
section
variable {T : Tab} {G : Glob} {cl : Orac} {cv : Nat → Value}
theorem swFalse {e : Expr} {t : Option Expr} {l : Nat} {env : PySem.Env} (h : notComp e = true) : swapsWith e t l env = pure false := by
  cases e <;> first | rfl | (cases h)
theorem notTup_comp {e : Expr} (h : notTup e = true) : notComp e = true := by
  cases e <;> first | rfl | exact h | (cases h)
theorem swTup {es : List Expr} {j : Nat} {p : Pos} {e : Expr} {env : PySem.Env} (h : notTup e = true) : swappedStores [.Tuple es j p] e env = pure none := by
  cases e <;> first | rfl | (cases h)
theorem ckNs_all {S : Sc} : ∀ {is : List Nat} {es : List Expr}, ckNs S is es = true → ∀ env, (assignEach es env).map (·.2) = es.map fun e => assign e env := fun {is es} h env => by
  induction es generalizing is with
  | nil => rfl
  | cons e es ih =>
    cases is with
    | nil => cases h
    | cons i is =>
      obtain ⟨h1, h2⟩ := band h
      cases e with
      | Name x p =>
        show assign (.Name x p) env :: (assignEach es env).map (·.2) = _
        rw [ih h2]
        rfl
      | _ => cases h1
mutual
theorem ckS_ok : ∀ (f : FS) (S : Sc) (st : Stmt) {N : Nm} {X : Cx} {W : WX} {xc : Xc}, Kx X N T G cl W S xc → Sx X N T G S cv → (S.hot = false → xc = none) → ckS T S f st = true → PS X st (tS N X.K W (ex G cl f xc))
  | .asg i e, S, st, N, X, W, xc, k, s, hx, h => by
    cases st with
    | Assign ts v pos =>
      rcases ts with _ | ⟨t, _ | ⟨_, _⟩⟩ <;> first | (cases h; done) | (cases t <;> cases h; done) | skip
      cases t with
      | Name x p =>
        obtain ⟨h, h3⟩ := band h
        obtain ⟨h1, h2⟩ := band h
        have hi : X.N[i]? = some x := by rw [k.nm]; exact of_decide_eq_true h1
        have hN : X.N.Nodup := by rw [k.nm]; exact k.nd
        obtain ⟨hl, hf⟩ := loc_is k h2
        have he := (ckE_ok e S v k h3).1
        by_cases hc : notComp v = true
        · exact s_asg hN hi hl hf he (swFalse hc)
        · cases v with
          | ListComp elt gs scope lp =>
            by_cases hw : swB S x p scope lp = true
            · cases e with
              | lc own tg src cs elt' =>
                rcases gs with _ | ⟨⟨tg', iter, ifs, j⟩, _ | ⟨_, _⟩⟩ <;> first | (cases h3; done) | skip
                obtain ⟨h, ha⟩ := band h3
                obtain ⟨h, h9⟩ := band h
                obtain ⟨h, h8⟩ := band h
                obtain ⟨h, h7⟩ := band h
                obtain ⟨h, h6⟩ := band h
                obtain ⟨h, h5⟩ := band h
                obtain ⟨h, h4⟩ := band h
                obtain ⟨h, h33⟩ := band h
                obtain ⟨g1, g2⟩ := band h
                have hh : S.hot = false := by simpa using g1
                obtain rfl : j = 0 := of_decide_eq_true g2
                have bk : BlkOk X.N X.env.scope scope (ownOf S.nm own) := by
                  rw [k.nm, k.sc]
                  exact blkOk_by h33
                have ho := ownOf_snd S.nm own
                obtain ⟨w, w3⟩ := band hw
                obtain ⟨w1, w2⟩ := band w
                have hyl : X.env.scope.names.lookup x = some .local := by
                  rw [k.sc]
                  split at w1
                  · assumption
                  · cases w1
                have sw : swapsWith (.ListComp elt [⟨tg', iter, ifs, 0⟩] scope lp) (some (.Name x p)) pos.line X.env = pure true := sw_true (by rw [k.sc]; exact s.kind) hyl w2 (by simpa using w3)
                refine psI (ps_setLc (te := tE N X.K W0 (ev G cl xc elt').v) (tt := tT N X.K W0 (evs G cl xc cs).ts) (g := gF X.K tg) (py := p) (spos := pos) (k.calm hh) hN hi hyl sw (ckI_ok src S iter tg' k h6) bk (fun s H C cl' fp => pg_is (k.blk hh s H scope C cl' fp) h5) (fun s H C cl' fp => (ckEs_ok cs (inS S scope) ifs (k.blk hh s H scope C cl' fp) h8).ts (of_decide_eq_true h9))
                  (fun s H C cl' fp => (ckE_ok elt' (inS S scope) elt (k.blk hh s H scope C cl' fp) ha).1) (plainSet h7)) fun D σ H q => ?_
                rw [ho]
                exact lc_rd (k.nox hh).1 (fun i hi => of_decide_eq_true (List.all_eq_true.mp h4 i hi)) (asg_rd (f := (ev G cl xc (.lc own tg src cs elt')).v) q)
              | _ => cases h3
            · refine s_asg hN hi hl hf he ?_
              have hk : X.env.blockKind = .function := by unfold Env.blockKind; rw [k.sc, s.kind]; rfl
              have hkx : X.env.kindOf x = S.sc.names.lookup x := by show X.env.scope.names.lookup x = _; rw [k.sc]
              unfold swapsWith
              simp only [hk, hkx, Expr.pos]
              unfold swB at hw
              cases z : S.sc.names.lookup x with
              | none => rfl
              | some kd =>
                rw [z] at hw
                cases kd with
                | «local» =>
                  have hw' : (true && (p.line == lp.line) && !(scope.names.any fun (n, k) => n == x && (k == .local || k == .cell))) = false := Bool.eq_false_iff.mpr hw
                  rw [Bool.true_and] at hw'
                  show (pure ((p.line == lp.line) && !(scope.names.any fun (n, k) => n == x && (k == .local || k == .cell))) : Sem Bool) = pure false
                  rw [hw']
                | _ => rfl
          | SetComp _ _ _ _ => cases e <;> cases h3
          | DictComp _ _ _ _ _ => cases e <;> cases h3
          | _ => exact absurd rfl hc
      | _ => cases h
    | _ => cases h
  | .asgT is e, S, st, N, X, W, xc, k, s, hx, h => by
    cases st with
    | Assign ts v pos =>
      rcases ts with _ | ⟨t, _ | ⟨_, _⟩⟩ <;> first | (cases h; done) | (cases t <;> cases h; done) | skip
      cases t with
      | Tuple es j p =>
        obtain ⟨h, h4⟩ := band h
        obtain ⟨h, h3⟩ := band h
        obtain ⟨h1, h2⟩ := band h
        exact s_asgT (ckE_ok e S v k h3).1 (pg_is k (t := .tp is) (show (!S.hot && ckNs S is es) = true by rw [h2, h1]; rfl)) (by show swapsWith v (some (.Tuple es j p)) pos.line X.env = pure false; exact swFalse (notTup_comp h4)) (swTup h4) rfl
      | _ => cases h
    | _ => cases h
  | .aug i op e, S, st, N, X, W, xc, k, s, hx, h => by
    cases st with
    | AugAssign t op' v pos =>
      cases t with
      | Name x p =>
        obtain ⟨h, h4⟩ := band h
        obtain ⟨h, h3⟩ := band h
        obtain ⟨h1, h2⟩ := band h
        obtain rfl : op = op' := of_decide_eq_true h3
        obtain ⟨hl, hf⟩ := loc_is k h2
        exact s_aug (by rw [k.nm]; exact k.nd) (by rw [k.nm]; exact of_decide_eq_true h1) hl hf (ckE_ok e S v k h4).1
      | _ => cases h
    | _ => cases h
  | .expr e, S, st, N, X, W, xc, k, s, hx, h => by
    cases st with
    | Expr v pos =>
      obtain ⟨h1, h2⟩ := band h
      exact s_expr (ckE_ok e S v k h1).1 (swFalse h2)
    | _ => cases h
  | .ret e, S, st, N, X, W, xc, k, s, hx, h => by
    cases st with
    | Return v pos =>
      cases v with
      | none => cases h
      | some v => exact s_ret (ckE_ok e S v k h).1
    | _ => cases h
  | .retN, S, st, N, X, W, xc, k, s, hx, h => by
    cases st with
    | Return v pos =>
      cases v with
      | none => exact s_retN
      | some v => cases h
    | _ => cases h
  | .ifs c t e, S, st, N, X, W, xc, k, s, hx, h => by
    cases st with
    | If c' t' e' pos =>
      obtain ⟨h, h3⟩ := band h
      obtain ⟨h1, h2⟩ := band h
      exact s_if (ckE_ok c S c' k h1).2 (ckSs_ok t S t' k s hx h2) (ckSs_ok e S e' k s hx h3)
    | _ => cases h
  | .whl c b e, S, st, N, X, W, xc, k, s, hx, h => by
    cases st with
    | While c' b' e' pos =>
      obtain ⟨h, h4⟩ := band h
      obtain ⟨h, h3⟩ := band h
      obtain ⟨h1, h2⟩ := band h
      have hh : S.hot = false := by simpa using h1
      exact s_whl (s.pass hh) (ckE_ok c S c' k h2).2 (ckSs_ok b S b' k s hx h3) (ckSs_ok e S e' k s hx h4) turns
    | _ => cases h
  | .fr tg src b, S, st, N, X, W, xc, k, s, hx, h => by
    cases st with
    | For tg' it b' el pos =>
      cases el with
      | cons _ _ => cases h
      | nil =>
        obtain ⟨h, h5⟩ := band h
        obtain ⟨h, h4⟩ := band h
        obtain ⟨h, h3⟩ := band h
        obtain ⟨h1, h2⟩ := band h
        have hh : S.hot = false := by simpa using h1
        exact s_fr (s.pass hh) (k.calm hh) (ckI_ok src S it tg' k h3) (pg_is k h2) (ckSs_ok b S b' k s hx h5) (plainSet h4)
    | _ => cases h
  | .brk, S, st, N, X, W, xc, k, s, hx, h => by cases st <;> first | exact s_brk | (cases h)
  | .cnt, S, st, N, X, W, xc, k, s, hx, h => by cases st <;> first | exact s_cnt | (cases h)
  | .pass, S, st, N, X, W, xc, k, s, hx, h => by cases st <;> first | exact s_pass | (cases h)
  | .rais C es, S, st, N, X, W, xc, k, s, hx, h => by
    cases st with
    | Raise e c pos =>
      rcases e with _ | e <;> first | (cases h; done) | skip
      cases e with
      | Call f l kw p =>
        cases f with
        | Name x p2 =>
          rcases l with _ | ⟨a, l⟩ <;> first | (cases h; done) | skip
          rcases kw with _ | ⟨_, _⟩ <;> first | (cases h; done) | skip
          rcases c with _ | c <;> first | (cases h; done) | skip
          obtain ⟨h, h5⟩ := band h
          obtain ⟨h, h4⟩ := band h
          obtain ⟨h, h3⟩ := band h
          obtain ⟨h1, h2⟩ := band h
          have hh : S.hot = false := by simpa using h1
          have q := ckEs_ok es S (a :: l) k h4
          cases ee : G.exc[C]? with
          | none =>
            have l1 : C < T.nx := of_decide_eq_true h5
            have l2 := s.ex.nx
            rw [List.getElem?_eq_none_iff] at ee
            omega
          | some flds =>
            have he := s.mke hh X.pn X.xe W (k.tk hh) C x flds a l _ p2 p (of_decide_eq_true h2) ee (gl_is k h3) q.st q.vs
            have r := s_rais (pos := pos) (k.calm hh) (k.tk hh) he
            refine psI r fun D σ H r => ?_
            obtain ⟨mu, ρ, St, re, rs, pp⟩ := r
            refine ⟨mu, ρ, St, re, rs, ?_⟩
            have pp : PostS N X.K W H mu St (((evs G cl xc es).vs ρ St).toS ρ fun ds S1 => (match G.exc[C]? with
              | some fs => if ds.length = fs.length then .exn C (fs.zip ds).reverse ρ S1 else .stuck
              | none => .stuck)) D := pp
            rw [ee] at pp
            exact pp
        | _ => cases h
      | _ => cases h
    | _ => cases h
  | .tr b hs, S, st, N, X, W, xc, k, s, hx, h => by
    cases st with
    | Try b' hs' oe fin pos =>
      rcases hs' with _ | ⟨h0, hs'⟩ <;> first | (cases h; done) | skip
      rcases oe with _ | ⟨_, _⟩ <;> first | (cases h; done) | skip
      rcases fin with _ | ⟨_, _⟩ <;> first | (cases h; done) | skip
      obtain ⟨h, h3⟩ := band h
      obtain ⟨h1, h2⟩ := band h
      have hh : S.hot = false := by simpa using h1
      obtain rfl := hx hh
      obtain ⟨q1, q2⟩ := ckHs_ok hs S (h0 :: hs') k s h3
      exact s_try k s hh q2 (fun W' pn xe tk hp => ckSs_ok b S b' (k.tr hh pn xe W' tk) (s.tr hh pn xe hp) (fun _ => rfl) h2) q1
    | _ => cases h
theorem ckSs_ok : ∀ (f : FSs) (S : Sc) (st : List Stmt) {N : Nm} {X : Cx} {W : WX} {xc : Xc}, Kx X N T G cl W S xc → Sx X N T G S cv → (S.hot = false → xc = none) → ckSs T S f st = true → PSs X st (tS N X.K W (exs G cl f xc))
  | .nil, S, st, N, X, W, xc, k, s, hx, h => by
    cases st with
    | nil => exact s_snil
    | cons _ _ => cases h
  | .cons f fs, S, st, N, X, W, xc, k, s, hx, h => by
    cases st with
    | nil => cases h
    | cons a l =>
      obtain ⟨h1, h2⟩ := band h
      exact s_scons (ckS_ok f S a k s hx h1) (ckSs_ok fs S l k s hx h2)
theorem ckHs_ok : ∀ (f : FHs) (S : Sc) (l : List ExceptHandler) {N : Nm} {X : Cx} {W : WX} {xc : Xc}, Kx X N T G cl W S xc → Sx X N T G S cv → ckHs T S f l = true → HdsN X l (hdEs N X.K G cl cv f) ∧ hsIn T f = true
  | .nil, S, l, N, X, W, xc, k, s, h => by
    cases l with
    | nil => exact ⟨.nil, rfl⟩
    | cons _ _ => cases h
  | .cons C nm b hs, S, l, N, X, W, xc, k, s, h => by
    cases l with
    | nil => cases h
    | cons hd r =>
      obtain ⟨ty, n, bd, pos⟩ := hd
      rcases ty with _ | ty <;> first | (cases h; done) | skip
      cases ty with
      | Name x p =>
        rcases bd with _ | ⟨s0, su⟩ <;> first | (cases h; done) | skip
        obtain ⟨h, h5⟩ := band h
        obtain ⟨h, h4⟩ := band h
        obtain ⟨h, h3⟩ := band h
        obtain ⟨h1, h2⟩ := band h
        have hx := of_decide_eq_true h1
        obtain ⟨q1, q2⟩ := ckHs_ok hs S r k s h5
        obtain ⟨e1, e2⟩ := s.ex.nm C x hx
        refine ⟨.cons ⟨gl_is k h2, (safe_is e2).1, e1⟩ ?_ (fun a oe cls d pn hz hf => .mk fun pins sh σ H D I q => ?_) q1, ?_⟩
        · cases nm with
          | none =>
            cases n with
            | none => trivial
            | some _ => cases h3
          | some i =>
            cases n with
            | none => cases h3
            | some y =>
              obtain ⟨g1, g2⟩ := band h3
              refine ⟨by rw [k.nm]; exact of_decide_eq_true g1, ?_⟩
              show X.env.scope.names.lookup y = _
              rw [k.sc]
              split at g2
              · assumption
              · cases g2
        · obtain ⟨C', fs, dd, gs, rfl, rfl, hC, q⟩ := q
          exact (ckSs_ok b { S with hot := true, hx := nm } (s0 :: su) (k.suite s.ex (gs := gs) (fs := fs) (nm := nm) hC hz hf) (s.suite a ((a, oe) :: pn) _ nm) (fun z => by cases z) h4).run pins sh σ H D I q
        · show ((T.xnm[C]?).isSome && hsIn T hs) = true
          rw [hx, q2]
          rfl
      | _ => cases h
end
end
end Fx
set_option Elab.async false
set_option linter.all false
set_option autoImplicit false
set_option maxRecDepth 100000
set_option maxHeartbeats 4000000
/-! FxQ: super().__init__(text) in the __init__ of an own error under ValueError. -/
namespace Fx
open PySem PySem.Spec PyProof.Rows L2

/-- what the __init__ at f of the class at C asks of the written part: cc its cell, whose class is C -/
structure SupC (K : PySem.W.Frag) (prog : Program) (C f cc cda : Addr) (fd : FuncData) : Prop where
  fn : ∃ oc od osl, K.lookup f = some ⟨oc, od, .func fd, osl⟩
  cell : ∃ cl cld csl, K.lookup cc = some ⟨cl, cld, .cell (some (.ref C)), csl⟩
  code : ∃ ccl cdd vs ccs file tf, K.lookup cda = some ⟨ccl, cdd, .fields vs, ccs⟩ ∧ vs[2]? = some (.str file tf) ∧ ((prog.main.file : Str) == file) = true
  self : ∃ ar, (fd.params.posonlyargs ++ fd.params.args).head? = some ar ∧ ar.arg = "self"
  top : (prog.main.scope.names.lookup ("super" : Str)).isSome = false
  sup : PySem.W.ks_superIn K C C "__init__" = some (some (.builtin "ValueError.__init__"))
  subD : PySem.W.mroIn K C (.ref C) = some true
  subV : PySem.W.subIn K (.ref C) (.type "ValueError") = some true
  opq : PySem.W.nsIn K PySem.cStatics "thirdparty.any" = some none
section
variable {prog : Program} {w : World} {A : Around} {E : Value → Shared → Prop} {h : Heap} {g : Array GenState} {d : Drawn} {t : Nat} {os : OsState}
/-- ValueError.__init__ bound to the object at x, called -/
theorem call_mw {u x C : Addr} {rest : List Value} {t0 : Addr} {Q : Value → Shared → Prop} {K : PySem.W.Frag} (T : OexC K C) (X : K.In h) (hu : h.get? u = some (PySem.W.kxs_mw "ValueError.__init__" x)) (he : h.get? x = some (PySem.W.excObj C t0 none .none)) (hz : rest.length ≤ sizeLine)
    (k : ∀ h' t1, (∀ b o, b ≠ x → h.get? b = some o → h'.get? b = some o) → h'.get? x = some (PySem.W.excObj C t1 none .none) → Q .none ⟨h', g, d, t, os⟩) : wpAny (model prog w) A (call (.ref u) rest) Q E ⟨h, g, d, t, os⟩ := by
  obtain ⟨nm, q, N, bs, bm, sn, sub, ab, col, dd, k0, k1, k2, k3, k5, hC, hbm⟩ := T.cls
  have B := F.excBase_ValueError
  refine wpAny_call (codeAny_of_tree (show wpAny _ A.in1 (callAny (.ref u) ⟨rest, []⟩) _ _ _ from ?_))
  unfold callAny; refine wpAny_bind (wpAny_load hu ?_)
  simp only [PySem.W.kxs_mw, show (Value.type "method-wrapper" == Value.type "method" || Value.type "method-wrapper" == Value.type "builtin_function_or_method" || Value.type "method-wrapper" == Value.type "method-wrapper") = true from by decide, if_true]
  refine PySem.W.KFB.if_so (by decide) (wpAny_bind (PySem.W.check_bound_init B.toExcCallFacts (X _ _ hC) he rfl (wpAny_bind (wpAny_pure (wpAny_pure ⟨PySem.plainId_quiet B.init.plain _, codeAny_builtin B.initEntry ?_⟩)))))
  exact PySem.W.exc_init_tree (cls := .ref C) (t0 := t0) (dv := none) (c2 := .none) (c3 := .none) (b4 := .bool false) he hz fun h' a b c => k h' _ a b
end
theorem eval_sup {msg : Str} {j : Nat} {p0 p1 p2 p3 p4 : Pos} {env : PySem.Env} (hline : (p2.endLine == p4.line) = true) : eval (.Call (.Attribute (.Call (.Name "super" p0) [] [] p1) "__init__" p2) [.Constant (.str msg) j p3] [] p4) env = (do
      let ov ← attributeBase (.Call (.Name "super" p0) [] [] p1) "__init__" env (eval (.Call (.Name "super" p0) [] [] p1) env)
      standAt p2.atName
      let (f, first) ← holding [ov] (getMethod ov "__init__" (do return (← importBound (.Call (.Name "super" p0) [] [] p1) env).getD true))
      callWith p4 f first (backTo p4 (starEach [.Constant (.str msg) j p3] env)) []) := by
  have e : methodCallPos true (.Call (.Name "super" p0) [] [] p1) env p2 p4 = pure p4 := by unfold methodCallPos; rw [hline]; rfl
  show (do
    let ov ← attributeBase (.Call (.Name "super" p0) [] [] p1) "__init__" env (eval (.Call (.Name "super" p0) [] [] p1) env)
    standAt p2.atName
    methodCall (.Call (.Name "super" p0) [] [] p1) "__init__" p2 p4 env ov 1 (backTo p4 (starEach [.Constant (.str msg) j p3] env)) []) = _
  unfold methodCall
  rw [show methodCallForm 1 (backTo p4 (starEach [.Constant (.str msg) j p3] env)) [] = true from rfl, e]
  simp only [pure_bind]
  rfl
section
variable {X : Cx} {pins : List (Addr × Obj)} {σ : L2.St} {H : Hp} {s : Shared} {E : Value → Shared → Prop}
theorem s_super {C f cc cda a : Addr} {fd : FuncData} {body : List Stmt} {qual msg : Str} {scope : Scope} {L j : Nat} {p0 p1 p2 p3 p4 p5 : Pos} (hline : (p2.endLine == p4.line) = true) (P : SupC X.K X.prog C f cc cda fd) (T : OexC X.K C) (I : Inv X pins σ H s) (henv : X.env = PySem.W.ksEnv qual scope L f (.ref cda) cc) (hk : scope.kind = .function)
    (hks : scope.names.lookup ("super" : Str) = some .globalImplicit) (hkc : scope.names.lookup ("__class__" : Str) = some .free) (hka : scope.names.lookup ("self" : Str) = some .local) (hm : X.mg "super" = none) (h0 : X.N[0]? = some ("self" : Str)) (h1 : σ[0]? = some (some (.ref a))) (ea : H a = some (exo a C none)) :
    PySem.wpAt (model X.prog X.w) X.A (.func body X.env) (exec (.Expr (.Call (.Attribute (.Call (.Name "super" p0) [] [] p1) "__init__" p2) [.Constant (.str msg) j p3] [] p4) p5) X.env) (fun fl s' => fl = .next ∧ Inv X pins σ H s') E s := by
  obtain ⟨oc, od, osl, lf⟩ := P.fn
  obtain ⟨cl, cld, csl, lc⟩ := P.cell
  obtain ⟨ccl, cdd, vs, ccs, file, tf, lcd, lvs, lfile⟩ := P.code
  obtain ⟨ar, har, harg⟩ := P.self
  have KI := I.kIn
  obtain ⟨t1, ho⟩ := exo_at I.hok ea
  obtain ⟨m, hn, hl⟩ := id I.loc
  obtain ⟨nm, q, N, bs, bm, sn, sub, ab, col, dd, k0, k1, k2, k3, k5, hC, hbm⟩ := id T.cls
  obtain ⟨cd, hcl⟩ : ∃ cd, PySem.W.clsIn X.K C = some cd := ⟨_, by unfold PySem.W.clsIn; rw [hC] <;> rfl⟩
  have IA : PySem.W.InstAt s.heap a (PySem.W.excObj C t1 none .none) C none := ⟨ho, rfl, rfl, trivial⟩
  obtain ⟨u, ru, lu⟩ := hl 0 "self" (.ref a) h0 h1 (.inl (by rw [henv]; exact hka))
  obtain rfl : u = Value.ref a := ru
  have hm0 : m "self" = some (.ref a) := by
    rcases lu with ⟨_, e⟩ | ⟨z, _⟩
    · exact e
    · have z' : scope.names.lookup ("self" : Str) = some .cell ∨ scope.names.lookup ("self" : Str) = some .free := by rw [henv] at z; exact z
      rw [hka] at z'
      rcases z' with z' | z' <;> cases z'
  obtain ⟨oD, hD1, hD2⟩ : ∃ oD, s.heap.get? C = some oD ∧ oD.data = .cls cd := by
    unfold PySem.W.clsIn at hcl
    split at hcl
    · rename_i c d cd' sl e
      cases hcl
      exact ⟨_, KI _ _ e, rfl⟩
    · cases hcl
  have Jn : ∀ h' t' : _, (∀ b o, b ≠ a → s.heap.get? b = some o → h'.get? b = some o) → (∃ t2, h'.get? a = some (PySem.W.excObj C t2 none .none)) → Inv X pins σ H { s with heap := h', toks := t' } := fun h' t' k ⟨t2, hx⟩ => by
    have J := I.write (t' := t') (x := a) (e := a) (o := exo a C none) (by rw [ea]; exact True.intro) (.inl rfl) k ⟨_, hx⟩ (exo_ok hx)
    have eu : upd H a (exo a C none) = H := by
      funext b
      by_cases hb : b = a
      · rw [hb, upd_same, ea]
      · rw [upd_ne hb]
    rwa [eu] at J
  obtain ⟨mb, hb1, hb2⟩ := I.ok.mod.blt
  have hG := I.ok.mod.glob.keeps I.bk
  have hB := hb1.keeps I.bk
  clear hl
  generalize hX : X.env = env at *
  subst henv
  obtain ⟨hp, g, d, t, os⟩ := s
  refine PySem.ks_wpAt_Expr_any ?_ (by simp [interactive, hk]) rfl
  refine PySem.ks_wpAt_MethodCall ?_ (eval_sup hline)
  refine PySem.ks_wpAt_super_base (env := PySem.W.ksEnv qual scope L f (.ref cda) cc) hks hkc rfl rfl (KI _ _ lf) rfl har rfl (KI _ _ lcd) rfl lvs lfile P.top ?_
  refine PySem.W.ks_loadName_global hk hks (Calls.loadGlobal_builtin (env := PySem.W.ksEnv qual scope L f (.ref cda) cc) hG hm hB ((hb2 "super" (by decide)).trans (by decide +kernel)) ⟨rfl, ?_⟩)
  refine wpAny_loadName_free hk hkc rfl ⟨_, KI _ _ lc, rfl⟩ ?_
  refine wpAny_loadName_local hk (name := ar.arg) (by rw [harg]; exact hka) hn (by rw [harg]; exact hm0) ?_
  refine PySem.ks_wpAny_isType_cls hD1 hD2 ⟨rfl, ?_⟩
  refine PySem.ks_wpAny_call_super hD1 hD2 IA.at_ IA.cls (fun c e => by cases e) (PySem.W.looks_mroIn KI P.subD) fun h2 e2 kp2 => ?_
  have KI2 : X.K.In h2 := KI.keeps kp2
  have IA2 : PySem.W.InstAt h2 a (PySem.W.excObj C t1 none .none) C none := ⟨kp2 _ _ ho, rfl, rfl, trivial⟩
  have hsup := P.sup
  unfold PySem.W.ks_superIn at hsup
  rw [hcl] at hsup
  refine PySem.W.kxs_getMethod PySem.W.kxs_ValueError e2 (PySem.W.looks_opaque KI2 P.opq) (l₀ := cd.mro) (fun A Q E s k q => wpAny_bind ((PySem.W.looks_clsIn KI2 hcl) A _ E s k (wpAny_pure q))) rfl KI2 hsup (IA2.type.andThen (PySem.W.looks_subIn KI2 P.subV)) (PySem.W.ks_ne KI2 IA2 hcl) rfl ?_
  have kp3 : ∀ b o, hp.get? b = some o → (h2.push (PySem.W.kxs_mw "ValueError.__init__" a)).get? b = some o := fun b o e => Heap.get?_push_of_some _ (kp2 b o e)
  refine PySem.W.kxs_callWith (i := "ValueError.__init__") (x := a) rfl (Calls.evalArgs_plain (Calls.spliced_cons (Calls.Constant_str (k := j) (pos := p3) (Calls.spliced_nil ⟨Heap.get?_push_size _ rfl, ?_⟩))))
  refine call_mw T (KI.keeps kp3) (Heap.get?_push_size _ rfl) (kp3 _ _ ho) (by rw [sizeLine_eq]; exact (show 1 ≤ 16777216 from by decide)) fun h5 t5 k5 e5 => ?_
  exact ⟨rfl, Jn h5 _ (fun b o hb e => k5 b o hb (kp3 b o e)) ⟨t5, e5⟩⟩
end
end Fx
set_option Elab.async false
set_option linter.all false
set_option autoImplicit false
set_option maxRecDepth 100000
set_option maxHeartbeats 4000000
/-! FxR: the __init__ of an own error: super().__init__(text), then self.f = p, .. -/
namespace Fx
open PySem PySem.Spec PyProof.Rows L2

/-! ### the stores -/
def stB (N : List Str) (sc : Scope) : Nat → List Str → List Stmt → Bool
  | _, [], [] => true
  | i, f :: fs, .Assign [.Attribute (.Name o _) g _] (.Name x _) _ :: r => decide (o = "self") && decide (f = g) && decide (N[i]? = some x) && visB sc x && safeN x && stB N sc (i + 1) fs r
  | _, _, _ => false
def tSts (K : PySem.W.Frag) : Nat → List Str → TS
  | _, [] => tNext
  | i, f :: fs => tSeq (tOst K f (tVar 0) (tVar i)) (tSts K (i + 1) fs)
section
variable {X : Cx}
theorem visX {x : Str} (h : visB X.env.scope x = true) : Vis X.env.scope x := by
  unfold visB at h
  split at h
  · rename_i e; exact .inl e
  · rename_i e; exact .inr (.inl e)
  · rename_i e; exact .inr (.inr e)
  · cases h
theorem sts_ok (h0 : X.N[0]? = some ("self" : Str)) (hv : visB X.env.scope "self" = true) : ∀ {i : Nat} {fs : List Str} {l : List Stmt}, stB X.N X.env.scope i fs l = true → PSs X l (tSts X.K i fs)
  | _, [], [], _ => pss_nil
  | _, [], _ :: _, h => by cases h
  | _, _ :: _, [], h => by cases h
  | i, f :: fs, st :: r, h => by
    cases st with
    | Assign ts v pos =>
      rcases ts with _ | ⟨t, _ | ⟨_, _⟩⟩ <;> first | (cases h; done) | (cases t <;> cases h; done) | skip
      · cases t with
        | Attribute o g p =>
          cases o with
          | Name o p2 =>
            cases v with
            | Name x p3 =>
              obtain ⟨h, h6⟩ := band h
              obtain ⟨h, h5⟩ := band h
              obtain ⟨h, h4⟩ := band h
              obtain ⟨h, h3⟩ := band h
              obtain ⟨h1, h2⟩ := band h
              obtain rfl : o = ("self" : Str) := of_decide_eq_true h1
              obtain rfl : f = g := of_decide_eq_true h2
              exact pss_cons (ps_ost (pe_var h0 (visX hv) (by decide) (by decide)) (pe_var (of_decide_eq_true h3) (visX h4) (safe_is h5).1 (safe_is h5).2) rfl) (sts_ok h0 hv h6)
            | _ => cases h
          | _ => cases h
        | _ => cases h
      · cases t with
        | Attribute o g p => cases o <;> cases v <;> cases h
        | _ => cases h
    | _ => cases h
end
/-- .. where the dict stands -/
theorem sts_old {K : PySem.W.Frag} {C a d : Addr} (T : OexC K C) {σ : L2.St} {D : Ends} (h0 : σ[0]? = some (some (.ref a))) : ∀ {fs : List Str} {ys : List V} {i : Nat} {H : Hp} {gs : List (Str × V)}, (∀ f ∈ fs, PySem.W.findIn K (.ref C) f = some none) → ys.length = fs.length → (∀ k y, ys[k]? = some y → σ[i + k]? = some (some y)) →
    H a = some (exo a C (some d)) → H d = some (exd d gs) → gs.length + fs.length ≤ 900 → d ≠ a →
    (∀ H2, H2 a = some (exo a C (some d)) → H2 d = some (exd d ((fs.zip ys).reverse ++ gs)) → (∀ b, b ≠ a → b ≠ d → H2 b = H b) → D.nx σ H2) → tSts K i fs D σ H
  | [], [], i, H, gs, _, _, _, ea, ed, _, _, q => q H ea ed fun _ _ _ => rfl
  | [], _ :: _, _, _, _, _, e, _, _, _, _, _, _ => by cases e
  | _ :: _, [], _, _, _, _, e, _, _, _, _, _, _ => by cases e
  | f :: fs, y :: ys, i, H, gs, hf, e, hs, ea, ed, hl, hn, q => by
    rw [List.length_cons] at hl
    have hy : σ[i]? = some (some y) := hs 0 y rfl
    refine ⟨y, hy, .ref a, h0, a, C, rfl, T, hf f (List.mem_cons_self ..), .inr ⟨d, gs, ea, ed, by omega, ?_⟩⟩
    refine sts_old (i := i + 1) T h0 (fun g hg => hf g (List.mem_cons_of_mem _ hg)) (by simpa using e) (fun k z hz => ?_) (by rw [upd_ne (Ne.symm hn)]; exact ea) upd_same (by rw [List.length_cons]; omega) hn fun H2 a1 a2 a3 => q H2 a1 ?_ fun b hb hb2 => ?_
    · have := hs (k + 1) z (by simpa using hz)
      rwa [show i + (k + 1) = i + 1 + k by omega] at this
    · rw [a2, List.zip_cons_cons, List.reverse_cons, List.append_assoc]
      rfl
    · rw [a3 b hb hb2, upd_ne hb2]
theorem sts_new {K : PySem.W.Frag} {C a : Addr} (T : OexC K C) {σ : L2.St} {D : Ends} (h0 : σ[0]? = some (some (.ref a))) {fs : List Str} {ys : List V} {i : Nat} {H : Hp} (hf : ∀ f ∈ fs, PySem.W.findIn K (.ref C) f = some none) (hl : ys.length = fs.length) (hs : ∀ k y, ys[k]? = some y → σ[i + k]? = some (some y))
    (ea : H a = some (exo a C none)) (hz : fs.length ≤ 900) (h1 : fs ≠ []) (q : ∀ d H2, H d = none → d ≠ a → H2 a = some (exo a C (some d)) → H2 d = some (exd d (fs.zip ys).reverse) → (∀ b, b ≠ a → b ≠ d → H2 b = H b) → D.nx σ H2) : tSts K i fs D σ H := by
  cases fs with
  | nil => exact absurd rfl h1
  | cons f fs =>
    cases ys with
    | nil => cases hl
    | cons y ys =>
      have hy : σ[i]? = some (some y) := hs 0 y rfl
      refine ⟨y, hy, .ref a, h0, a, C, rfl, T, hf f (List.mem_cons_self ..), .inl ⟨ea, fun d hd hn => ?_⟩⟩
      rw [List.length_cons] at hz
      refine sts_old (i := i + 1) (d := d) (gs := [(f, y)]) T h0 (fun g hg => hf g (List.mem_cons_of_mem _ hg)) (by simpa using hl) (fun k z hz => ?_) upd_same (by rw [upd_ne hn, upd_same]) (by rw [List.length_singleton]; omega) hn fun H2 a1 a2 a3 => q d H2 hd hn a1 ?_ fun b hb hb2 => ?_
      · have := hs (k + 1) z (by simpa using hz)
        rwa [show i + (k + 1) = i + 1 + k by omega] at this
      · rw [a2, List.zip_cons_cons, List.reverse_cons]
      · rw [a3 b hb hb2, upd_ne hb, upd_ne hb2]

/-! ### the promise -/
/-- the __init__ of the class at C, its fields by the parameters behind self -/
def spI (C : Addr) (fs : List Str) : Sp := fun vs H Q _ => ∃ (a : Addr) (ys : List V), vs = .ref a :: ys ∧ ys.length = fs.length ∧ H a = some (exo a C none) ∧
  ∀ (d : Addr) (H2 : Hp), H d = none → d ≠ a → H2 a = some (exo a C (some d)) → H2 d = some (exd d (fs.zip ys).reverse) → (∀ b, b ≠ a → b ≠ d → H2 b = H b) → Q .non H2
/-- the text of the __init__ -/
def inB (N : List Str) (sc : Scope) (fs : List Str) : List Stmt → Bool
  | .Expr (.Call (.Attribute (.Call (.Name x _) [] [] _) m p2) [.Constant (.str _) _ _] [] p4) _ :: r => decide (x = "super") && decide (m = "__init__") && (p2.endLine == p4.line) && stB N sc 1 fs r
  | _ => false
theorem inB_is {N : List Str} {sc : Scope} {fs : List Str} {body : List Stmt} (h : inB N sc fs body = true) : ∃ (p0 p1 p2 p3 p4 p5 : Pos) (j : Nat) (msg : Str) (r : List Stmt),
    body = .Expr (.Call (.Attribute (.Call (.Name "super" p0) [] [] p1) "__init__" p2) [.Constant (.str msg) j p3] [] p4) p5 :: r ∧ (p2.endLine == p4.line) = true ∧ stB N sc 1 fs r = true := by
  unfold inB at h
  split at h
  · rename_i x p0 p1 m p2 msg j p3 p4 p5 r
    obtain ⟨h, g4⟩ := band h
    obtain ⟨h, g3⟩ := band h
    obtain ⟨g1, g2⟩ := band h
    obtain rfl : x = ("super" : Str) := of_decide_eq_true g1
    obtain rfl : m = ("__init__" : Str) := of_decide_eq_true g2
    exact ⟨p0, p1, p2, p3, p4, p5, j, msg, r, rfl, g3, g4⟩
  · cases h
/-- the names of the __init__ -/
structure InS (N : List Str) (sc : Scope) : Prop where
  kind : sc.kind = .function
  co : sc.isCoroutine = false
  gen : sc.isGenerator = false
  nd : N.Nodup
  loc : ∀ x ∈ N, sc.names.lookup x = some .local
  self : N[0]? = some ("self" : Str)
  sup : sc.names.lookup ("super" : Str) = some .globalImplicit
  cls : sc.names.lookup ("__class__" : Str) = some .free
  nocell : ∀ y ∈ sc.names, y.2 ≠ .cell
  free : ∀ y ∈ sc.names, y.2 = .free → y.1 = "__class__"
def insB (N : List Str) (sc : Scope) : Bool := (match sc.kind with | .function => true | _ => false) && !sc.isCoroutine && !sc.isGenerator && decide N.Nodup && (N.all fun x => decide (sc.names.lookup x = some .local)) && decide (N[0]? = some ("self" : Str)) &&
  decide (sc.names.lookup ("super" : Str) = some .globalImplicit) && decide (sc.names.lookup ("__class__" : Str) = some .free) && (sc.names.all fun y => decide (y.2 ≠ .cell)) && (sc.names.all fun y => decide (y.2 = .free → y.1 = "__class__"))
theorem insB_ok {N : List Str} {sc : Scope} (h : insB N sc = true) : InS N sc := by
  unfold insB at h
  simp only [Bool.and_eq_true, List.all_eq_true, decide_eq_true_eq, Bool.not_eq_true'] at h
  obtain ⟨⟨⟨⟨⟨⟨⟨⟨⟨h1, h2⟩, h3⟩, h4⟩, h5⟩, h6⟩, h7⟩, h8⟩, h9⟩, h10⟩ := h
  refine ⟨?_, h2, h3, h4, h5, h6, h7, h8, h9, h10⟩
  split at h1
  · assumption
  · cases h1
theorem lookup_of_mem {β : Type} : ∀ {l : List (Str × β)} {x : Str} {u : β}, (l.map (·.1)).Nodup → (x, u) ∈ l → l.lookup x = some u
  | [], _, _, _, h => by cases h
  | (k, v) :: r, x, u, nd, h => by
    have nd' : k ∉ r.map (·.1) ∧ (r.map (·.1)).Nodup := by simpa using nd
    rw [List.lookup_cons]
    rcases List.mem_cons.mp h with e | h'
    · cases e; simp
    · have ne : (x == k) = false := by
        rw [beq_eq_false_iff_ne]
        rintro rfl
        exact nd'.1 (List.mem_map.mpr ⟨(x, u), h', rfl⟩)
      rw [ne]
      exact lookup_of_mem nd'.2 h'
theorem zip_look {ps : List Str} {us : List Value} {i : Nat} {x : Str} {u : Value} (nd : ps.Nodup) (hl : us.length = ps.length) (h1 : ps[i]? = some x) (h2 : us[i]? = some u) : (ps.zip us).reverse.lookup x = some u := by
  refine lookup_of_mem ?_ ?_
  · rw [List.map_reverse, List.map_fst_zip (by omega)]
    exact (List.reverse_perm ps).nodup_iff.mpr nd
  · rw [List.mem_reverse]
    exact List.mem_of_getElem? (by rw [List.getElem?_zip_eq_some]; exact ⟨h1, h2⟩)
section
variable {P : Program} {w : World} {K : PySem.W.Frag} {mg : Str → Option Value} {base : Heap} {C f cc cda : Addr} {name qual : Str} {params : Arguments} {body : List Stmt} {scope : Scope} {dV kV doc pm ct : Value} {an : Option Addr} {N fs : List Str}
/-- the context of the __init__'s body -/
def cxI (P : Program) (w : World) (K : PySem.W.Frag) (mg : Str → Option Value) (base : Heap) (N : List Str) (qual : Str) (scope : Scope) (f cc cda : Addr) (A : Around) (outer : List PySem.Env) (s : Shared) (H : Hp) : Cx where
  prog := P
  w := w
  K := K
  mg := mg
  base := base
  A := A.deeper (PySem.W.ksEnv qual scope s.heap.objs.size f (.ref cda) cc)
  N := N
  s_0 := s
  H_0 := H
  env := PySem.W.ksEnv qual scope s.heap.objs.size f (.ref cda) cc
  outer := outer
  stack := PySem.W.ksEnv qual scope s.heap.objs.size f (.ref cda) cc :: outer
  ex := []
  calm := true
  fn := fun _ => false
  pn := []
  xe := fun _ _ => False
theorem ok_init {CX : CXT} (S : SupC K P C f cc cda (PySem.W.ksFn name qual params body scope dV kV doc pm an (.ref cda) ct cc)) (T : OexC K C) (hcd : PySem.W.codeIn K (.ref cda) qual = true) (I0 : InS N scope) (hb : inB N scope fs body = true) (hN : N.length = fs.length + 1)
    (hf : ∀ g ∈ fs, PySem.W.findIn K (.ref C) g = some none) (hz : fs.length ≤ 900) (h1 : fs ≠ []) (hm : mg "super" = none) : FnOk P w K mg base CX 1 f (PySem.W.ksFn name qual params body scope dV kV doc pm an (.ref cda) ct cc) N (spI C fs) := by
  have len : ∀ vs H Q E, spI C fs vs H Q E → vs.length = N.length := fun vs H Q E h => by
    obtain ⟨a, ys, rfl, e, _⟩ := h
    rw [List.length_cons, e, hN]
  refine ⟨len, fun A outer s H args us vs Q E hr e0 hbd r hsp => ?_⟩
  have hl := len _ _ _ _ hsp
  have hl2 : us.length = N.length := by rw [← r.length]; exact hl
  obtain ⟨oc, od, osl, lf⟩ := S.fn
  obtain ⟨cl, cld, csl, lc⟩ := S.cell
  have KX : K.In s.heap := e0.mod.kin.keeps fun b o e => (e0.bs b o e).1
  have lim : s.heap.NoLimit := e0.mod.nolimit.keeps fun b o e => (e0.bs b o e).1
  have hd : A.depth < recursionLimit := by have := hr.dp; omega
  refine ks_codeAny_call_defAt hd (KX _ _ lf) rfl lim (PySem.W.codeRec_of KX hcd) rfl hbd I0.nocell (fun x hx => I0.loc _ (List.of_mem_zip hx).1) (fun h0 hns kp => ?_) I0.co I0.gen I0.kind
  obtain ⟨a, ys, rfl, hy, ea, hQ⟩ := hsp
  have cne : ∀ {x : Str} {c : Addr}, ([("__class__", cc)] : List (Str × Addr)).lookup x = some c → x = "__class__" ∧ c = cc := fun {x c} e => by
    rw [List.lookup_cons] at e
    split at e
    · rename_i q
      cases e
      exact ⟨by simpa using q, rfl⟩
    · cases e
  have hcc : H cc = none := by
    have q := e0.mod.kin _ _ lc
    exact (e0.bs _ _ q).2
  have J : Inv (cxI P w K mg base N qual scope f cc cda A outer s H) [] (start N (.ref a :: ys)) H { s with heap := h0, toks := s.toks + (N.zip us).length } := by
    refine ⟨⟨e0.mod, I0.kind, rfl, rfl, Nat.le_refl _, fun y z c e1 e2 => ?_, fun y hy => ?_, fun y c z => (by cases z), fun _ => hr.hd, Around.frames_deeper e0.frames, .inr ⟨rfl, rfl⟩, fun b z => (by cases z), e0.bs, e0.bsz, fun b _ _ z => (by cases z), fun b z => (by cases z), e0.funs, e0.frf⟩,
      rfl, e0.bare, Un.kept kp, ⟨_, hns, fun i y v g1 g2 g3 => ?_⟩, fun y c e => ?_, e0.hok.fresh (Nat.le_refl _), fun y c e => ?_, fun p hp => (by cases hp), e0.hok.kept kp, ?_⟩
    · rw [(cne e1).1, (cne e2).1]
    · have hy : scope.names.lookup y = some .cell ∨ scope.names.lookup y = some .free := hy
      rcases hy with hy | hy
      · exact absurd rfl (I0.nocell _ (PySem.mem_of_lookup hy))
      · have e : y = "__class__" := I0.free _ (PySem.mem_of_lookup hy) rfl
        exact ⟨cc, by rw [e]; rfl⟩
    · have g1 : N[i]? = some y := g1
      have hi : i < (V.ref a :: ys).length := by
        rw [hl]
        exact (List.getElem?_eq_some_iff.mp g1).1
      have ha : (V.ref a :: ys)[i]? = some v := by
        unfold L2.start at g2
        rw [List.getElem?_append_left (by simpa using hi), List.getElem?_map] at g2
        cases e : (V.ref a :: ys)[i]? with
        | none => rw [e] at g2; cases g2
        | some b => rw [e] at g2; cases g2; rfl
      obtain ⟨u, hu, rv⟩ := r.get ha
      exact ⟨u, rv, .inl ⟨I0.loc _ (List.mem_of_getElem? g1), zip_look I0.nd hl2 g1 hu⟩⟩
    · obtain ⟨_, e⟩ := cne e
      exact ⟨_, by rw [e]; exact ⟨_, kp _ _ (KX _ _ lc), rfl⟩⟩
    · obtain ⟨_, e⟩ := cne e
      rw [e]
      exact hcc
    · show (L2.start N (.ref a :: ys)).length = N.length
      unfold L2.start
      rw [List.length_append, List.length_map, List.length_replicate]
      omega
  have st0 : (start N (.ref a :: ys))[0]? = some (some (.ref a)) := rfl
  have vself : visB scope "self" = true := by
    have e := I0.loc "self" (List.mem_of_getElem? I0.self)
    unfold visB
    rw [e]
  obtain ⟨p0, p1, p2, p3, p4, p5, j, msg, rest, rfl, g3, g4⟩ := inB_is hb
  refine ks_wpAt_execs_cons (ks_wpAt_mono (s_super (X := cxI P w K mg base N qual scope f cc cda A outer s H) (body := .Expr (.Call (.Attribute (.Call (.Name "super" p0) [] [] p1) "__init__" p2) [.Constant (.str msg) j p3] [] p4) p5 :: rest) g3 S T J rfl I0.kind I0.sup I0.cls (I0.loc "self" (List.mem_of_getElem? I0.self)) hm I0.self st0 ea) (fun fl s2 q => ?_) fun _ _ z => z)
  obtain ⟨rfl, J2⟩ := q
  refine wpAt_of_wpAny (wpAny_mono ((sts_ok (X := cxI P w K mg base N qual scope f cc cda A outer s H) I0.self vself g4).run [] s2 _ H { nx := fun _ H' => Q .non H', rt := Q } J2 (sts_new T st0 hf hy (fun k y hk => ?_) ea hz h1 fun d H2 q1 q2 q3 q4 q5 => hQ d H2 q1 q2 q3 q4 q5)) (fun fl s3 q => ?_) fun _ _ z => False.elim z)
  · show (L2.start N (.ref a :: ys))[1 + k]? = _
    unfold L2.start
    have hk2 := (List.getElem?_eq_some_iff.mp hk).1
    rw [List.getElem?_append_left (by simp; omega), List.getElem?_map, Nat.add_comm, List.getElem?_cons_succ, hk]
    rfl
  · cases fl with
    | next => exact let ⟨σ', H', J3, q⟩ := q; ⟨.non, H', J3.os, J3.bare, J3.base, J3.hok, rfl, q⟩
    | ret u => exact let ⟨v, σ', H', J3, rv, q⟩ := q; ⟨v, H', J3.os, J3.bare, J3.base, J3.hok, rv, q⟩
    | brk => exact let ⟨σ', H', J3, q⟩ := q; False.elim q
    | cont => exact let ⟨σ', H', J3, q⟩ := q; False.elim q
end
end Fx
set_option Elab.async false
set_option linter.all false
set_option autoImplicit false
set_option maxRecDepth 100000
set_option maxHeartbeats 4000000
/-! FxS: every def of a program keeps what the evaluator says of it. -/
namespace Fx
open PySem PySem.Spec PyProof.Rows L2

/-! ### an own error made -/
structure IniK (P : Program) (w : World) (K : PySem.W.Frag) (mg : Str → Option Value) (base : Heap) (N : Nm) (C : Nat) (x : Str) (flds : List Nat) (names : List Str) (fI : Addr) (fd : FuncData) (ps : List Str) : Prop where
  gm : mg x = some (.ref (N.cad C))
  T : OexC K (N.cad C)
  fi : PySem.W.findIn K (.ref (N.cad C)) "__init__" = some (some (.ref fI))
  ty : PySem.W.typeIn K (.ref fI) = some (.type "function")
  ok : FnOk P w K mg base (L2.CX P w) 1 fI fd ps (spI (N.cad C) names)
  bd : Binds K fd ps []
  len : names.length = flds.length
  few : names.length ≤ 900
  nm : ∀ (i f : Nat), flds[i]? = some f → N.fld[f]? = names[i]?
  db : (x == ("__debug__" : Str)) = false
section
variable {N : Nm} {K : PySem.W.Frag} {H : Hp} {mu : Nat → Addr}
theorem RF.append : ∀ {fs fs' : List (Nat × D)} {gs gs' : List (Str × V)}, RF N K H mu fs gs → RF N K H mu fs' gs' → RF N K H mu (fs ++ fs') (gs ++ gs')
  | [], fs', gs, gs', h, h' => by have h : gs = [] := h; rw [h]; exact h'
  | (f, d) :: fs, fs', gs, gs', h, h' => by
    obtain ⟨y, v, r, e, h1, h2, h3⟩ := h
    exact ⟨y, v, r ++ gs', by rw [e]; rfl, h1, h2, RF.append h3 h'⟩
theorem RF.rev : ∀ {fs : List (Nat × D)} {gs : List (Str × V)}, RF N K H mu fs gs → RF N K H mu fs.reverse gs.reverse
  | [], gs, h => by have h : gs = [] := h; rw [h]; exact rfl
  | (f, d) :: fs, gs, h => by
    obtain ⟨y, v, r, e, h1, h2, h3⟩ := h
    rw [e, List.reverse_cons, List.reverse_cons]
    exact RF.append (RF.rev h3) ⟨y, v, [], rfl, h1, h2, rfl⟩
theorem RF.zip : ∀ {flds : List Nat} {names : List Str} {ds : List D} {vs : List V}, (∀ (i f : Nat), flds[i]? = some f → N.fld[f]? = names[i]?) → names.length = flds.length → ds.length = flds.length → RVs K H mu ds vs → RF N K H mu (flds.zip ds) (names.zip vs)
  | [], [], ds, vs, _, _, e, _ => by
    cases ds with
    | nil => exact rfl
    | cons _ _ => cases e
  | [], _ :: _, _, _, _, e, _, _ => by cases e
  | _ :: _, [], _, _, _, e, _, _ => by cases e
  | f :: fl, n :: ns, ds, vs, h, e, e2, r => by
    cases ds with
    | nil => cases e2
    | cons d ds =>
      obtain ⟨v, vr, rfl, r1, r2⟩ := r
      exact ⟨n, v, ns.zip vr, rfl, h 0 f rfl, r1, RF.zip (fun i g hg => h (i + 1) g (by simpa using hg)) (by simpa using e) (by simpa using e2) r2⟩
end
section
variable {X : Cx} {N : Nm} {W : WX}
theorem pmkI {e : Expr} {t t' : L2.St → Hp → XK → Prop} (h : PMk X e t) (hi : ∀ σ H Q, t' σ H Q → t σ H Q) : PMk X e t' := fun pins s σ H Q I q => h pins s σ H Q I (hi _ _ _ q)
theorem mk_ok {C : Nat} {x : Str} {flds : List Nat} {names : List Str} {fI : Addr} {fd : FuncData} {ps : List Str} (Z : IniK X.prog X.w X.K X.mg X.base N C x flds names fI fd ps) (hr : Room 2 X.A) {a : Expr} {l : List Expr} {fs : Env → Store → R (List D)} {p p2 : Pos} (hg : Gl X x)
    (hst : noStar (a :: l) = true) (ha : PA X (a :: l) (tA N X.K W fs)) : PMk X (.Call (.Name x p) (a :: l) [] p2) (tM N X.K W C flds fs) := by
  obtain ⟨h4, h5⟩ := noStar_cons hst X.env
  refine pmkI (pmk_oex (CX := L2.CX X.prog X.w) Z.T Z.fi Z.ty Z.ok hr Z.bd .nil (fun pins σ H s e s' I c => ?_) hg Z.gm ha Z.db h4 (noStar_any p2 X.env h5).1) fun σ H Q h => ?_
  · obtain ⟨_, _, _, _, _, _, _, _, _, _, _, _, z⟩ := c
    exact z.elim
  · obtain ⟨mu, ρ, S, re, rs, q⟩ := h
    refine ⟨mu, ρ, S, re, rs, q.imp fun vs H1 q => ?_⟩
    obtain ⟨mu1, S1, ds, r, rs1, hl, q⟩ := q
    have hvl : vs.length = names.length := by rw [r.1.length, hl, Z.len]
    refine ⟨by have := Z.few; omega, fun e he => ⟨e, vs, by rw [List.append_nil], hvl, upd_same, fun d H2 hd hn h2a h2d h2o => ⟨rfl, d, _, h2a, h2d, ?_, ?_⟩⟩⟩
    · rwa [upd_ne hn] at hd
    · rw [upd_ne hn] at hd
      have e3 : upd (del H2 e) d (.xd (names.zip vs).reverse) = upd H1 d (.xd (names.zip vs).reverse) := by
        funext b
        by_cases hb : b = d
        · subst hb; rw [upd_same, upd_same]
        · rw [upd_ne hb, upd_ne hb]
          by_cases hb2 : b = e
          · subst hb2; rw [del_same, he]
          · rw [del_ne hb2, h2o b hb2 hb, upd_ne hb2]
      rw [e3]
      have g := Gw.laid rs1 (o := HO.xd (names.zip vs).reverse) hd
      exact q d _ _ g upd_same (RF.rev (RF.zip Z.nm Z.len hl (r.gw rs1 g).1))
end

/-! ### the defs -/
structure DefK (K : PySem.W.Frag) (mg : Str → Option Value) (T : Tab) (fd : FnD) (x : Str) (st : Stmt) (nm ps : List Str) (fa : Addr) (fdt : FuncData) : Prop where
  F : FunD K x x (defArgs st) (defBody st) (defScope st) [] [] fa fdt
  gm : mg x = some (.ref fa)
  S : FnScope nm ps (defScope st)
  np : ps.length = fd.np
  ns : nm.length = fd.ns
  ck : ckSs T ⟨defScope st, nm, fun _ => true, false, none⟩ fd.body (defBody st) = true
  bd : Binds K fdt ps []
structure ProgK (P : Program) (w : World) (K : PySem.W.Frag) (mg : Str → Option Value) (base : Heap) (N : Nm) (T : Tab) (G : Glob) (cv : Nat → Value) : Prop where
  defs : ∀ (f : Nat) (x : Str), T.fnm[f]? = some x → ∃ fd st nm ps fa fdt, G.fns[f]? = some fd ∧ DefK K mg T fd x st nm ps fa fdt
  con : ∀ (k : Nat) (x : Str), T.cnm[k]? = some x → ∃ d v u, G.consts[k]? = some d ∧ mg x = some u ∧ RelV v u ∧ (∀ H mu, RV K H mu d v) ∧ ∀ n, d.wf n = true
  blt : ∀ x ∈ (["len", "abs", "min", "max", "sum", "sorted", "tuple", "list", "int", "str", "bool", "isinstance", "range"] : List Str), mg x = none
  nox : N.hx = none
  ex : ExF K mg N T G cv
  ini : ∀ (C : Nat) (x : Str) (flds : List Nat), T.xnm[C]? = some x → G.exc[C]? = some flds → ∃ names fI fd ps, IniK P w K mg base N C x flds names fI fd ps
section
variable {P : Program} {w : World} {K : PySem.W.Frag} {mg : Str → Option Value} {base : Heap} {N : Nm} {T : Tab} {G : Glob} {cv : Nat → Value}
theorem callN_len (Z : ProgK P w K mg base N T G cv) {n f : Nat} {fd : FnD} (e : G.fns[f]? = some fd) {ds : List D} {S : Store} (h : ds.length ≠ fd.np) : callN G n f ds S = .stuck := by
  cases n with
  | zero => rfl
  | succ n =>
    unfold callN
    rw [e]
    show runFn G (callN G n) fd ds S = .stuck
    unfold runFn
    rw [if_neg h]
theorem env0_re {H : Hp} {mu : Nat → Addr} {S : Store} {ds : List D} {vs : List V} {fd : FnD} {nm : List Str} (hN : N.hx = none) (r : relDs K H mu S ds vs) (hd : ds.length = fd.np) (hn : nm.length = fd.ns) : RE N K H mu S (env0 fd ds) (L2.start nm vs) := by
  have hl := r.1.length
  refine ⟨?_, fun i d h => ?_, fun x hx => by rw [hN] at hx; cases hx⟩
  · unfold env0 L2.start
    rw [List.length_append, List.length_append, List.length_map, List.length_map, List.length_replicate, List.length_replicate]
    omega
  · unfold env0 at h
    by_cases hi : i < ds.length
    · rw [List.getElem?_append_left (by simpa using hi), List.getElem?_map] at h
      obtain ⟨d', e1, e2⟩ := Option.map_eq_some_iff.mp h
      cases e2
      obtain ⟨v, g1, g2⟩ := r.1.get e1
      refine ⟨wfs_get r.2 e1, v, ?_, g2⟩
      unfold L2.start
      rw [List.getElem?_append_left (by simpa [hl] using hi), List.getElem?_map, g1]
      rfl
    · rw [List.getElem?_append_right (by simpa using hi), List.getElem?_replicate] at h
      split at h <;> cases h
/-- what a body's result comes to -/
theorem done_post {H : Hp} {mu : Nat → Addr} {S : Store} {r : SR} {Q : VK} {E : XK} (p : Post N K H mu S (relD K) r.done Q E) : PostS N K (fun cls d _ H => E cls d H) H mu S r { nx := fun _ H' => Q .non H', rt := Q } := by
  cases r with
  | nx ρ' S' => exact fun σ' H' mu' g e => p .non H' mu' g ⟨rfl, rfl⟩
  | ret d S' => exact p
  | brk ρ' S' => exact (show False from p).elim
  | cnt ρ' S' => exact (show False from p).elim
  | exn C fs ρ' S' => exact fun dd gs σ' H' mu' g e q1 q2 q3 => p dd gs H' mu' g q1 q2 q3
  | stuck => exact (show False from p).elim
theorem prog_ok (Z : ProgK P w K mg base N T G cv) : ∀ (n f : Nat) (x : Str) (fd : FnD) (st : Stmt) (nm ps : List Str) (fa : Addr) (fdt : FuncData), T.fnm[f]? = some x → G.fns[f]? = some fd → DefK K mg T fd x st nm ps fa fdt →
    FnOk P w K mg base (L2.CX P w) (n + 2) fa fdt ps (spF N K ps.length (callN G n f))
  | 0, f, x, fd, st, nm, ps, fa, fdt, hx, hf, Y => by
    refine ⟨fun vs H Q E h => ?_, fun A outer s H args us vs Q E hr e0 hb r h => ?_⟩
    · obtain ⟨mu, ds, S, e, r, _⟩ := h
      rw [r.1.length, e]
    · obtain ⟨mu, ds, S, e, r, rs, p⟩ := h
      exact (show False from p).elim
  | n + 1, f, x, fd, st, nm, ps, fa, fdt, hx, hf, Y => by
    refine Y.F.ok Y.S (fun vs H Q E h => ?_) fun cdv A outer s H vs Q E hr h => ?_
    · obtain ⟨mu, ds, S, e, r, _⟩ := h
      rw [r.1.length, e]
    · obtain ⟨mu, ds, S, e, r, rs, p⟩ := h
      have hr2 : Room 2 (cxOf (L2.CX P w) P w K mg base nm x (defScope st) fa cdv A outer s H E).A := hr.mono (by omega)
      have tk : Takes (cxOf (L2.CX P w) P w K mg base nm x (defScope st) fa cdv A outer s H E) (fun cls d _ H => E cls d H) := takes_of rfl rfl rfl rfl
      have k : Kx (cxOf (L2.CX P w) P w K mg base nm x (defScope st) fa cdv A outer s H E) N T G (callN G n) (fun cls d _ H => E cls d H) ⟨defScope st, nm, fun _ => true, false, none⟩ none := {
        sc := rfl
        fn := rfl
        nm := rfl
        nd := Y.S.nd
        calm := fun _ => rfl
        hu := by have := hr.un; show (A.deeper _).units + 128 < cLine; omega
        tk := fun _ => tk
        own := fun _ g y hy => by
          obtain ⟨fd', st', nm', ps', fa', fdt', e1, Y'⟩ := Z.defs g y hy
          refine ⟨fa', fdt', ps', n + 2, ⟨Y'.gm, prog_ok Z n g y fd' st' nm' ps' fa' fdt' hy e1 Y', hr, Y'.F.kp, Y'.bd, fun ds S hl => callN_len Z e1 ?_⟩⟩
          rw [← Y'.np]
          exact hl
        con := Z.con
        blt := Z.blt
        nox := fun _ => ⟨Z.nox, rfl⟩
        xf := fun i x f nm p p2 e => by cases e
        xi := fun i x f nm p p2 p3 p4 e => by cases e }
      have sx : Sx (cxOf (L2.CX P w) P w K mg base nm x (defScope st) fa cdv A outer s H E) N T G ⟨defScope st, nm, fun _ => true, false, none⟩ cv :=
        ⟨Y.S.kind, fun _ => passes_of rfl, fun _ => rfl, fun _ => rfl, Z.ex, fun _ pn xe W' tk' C y flds a l fs p p2 h1 h2 h3 h4 h5 => by
          obtain ⟨names, fI, fdI, psI, ZI⟩ := Z.ini C y flds h1 h2
          exact mk_ok (X := (cxOf (L2.CX P w) P w K mg base nm x (defScope st) fa cdv A outer s H E).tr pn xe) ZI hr2 h3 h4 h5⟩
      refine ⟨_, ckSs_ok (cl := callN G n) fd.body _ (defBody st) k sx (fun _ => rfl) Y.ck, mu, env0 fd ds, S, env0_re Z.nox r (e.trans Y.np) Y.ns, rs, done_post (Post.tidy rs ?_)⟩
      have p : Post N K H mu S (relD K) (callN G (n + 1) f ds S) Q E := p
      unfold callN at p
      rw [hf] at p
      have p : Post N K H mu S (relD K) (runFn G (callN G n) fd ds S) Q E := p
      unfold runFn at p
      rw [if_pos (e.trans Y.np)] at p
      exact p
end
end Fx
set_option Elab.async false
set_option linter.all false
set_option autoImplicit false
set_option maxRecDepth 100000
set_option maxHeartbeats 4000000
/-! FxT: a law's program as a datum; what the head must tell of it. -/
namespace Fx
open PySem PySem.Spec PyProof.Rows L2

/-! ### the datum -/
structure DfD where
  x : Str
  st : Stmt
  nm : List Str
  fd : FnD
structure ErrD where
  x : Str
  st : Stmt
  nm : List Str
  fs : List Str
  fl : List Nat
structure LawD where
  file : Str
  defs : List DfD
  errs : List ErrD
  more : List (Str × Option String)
  cons : List (Str × D)
  fld : List Str
  sub : List (List Nat)
def LawD.G (L : LawD) : Glob := ⟨L.defs.map (·.fd), L.cons.map (·.2), L.errs.map (·.fl), L.sub⟩
def LawD.T (L : LawD) : Tab := ⟨L.defs.map (·.x), L.cons.map (·.1), L.errs.map (·.x) ++ L.more.map (·.1), L.fld, L.errs.length⟩
def LawD.cv (L : LawD) (K : PySem.W.Frag) (k : Nat) : Value := match L.T.xnm[k]?, L.more[k - L.errs.length]? with
  | some x, some (_, some t) => if k < L.errs.length then .ref (He.ga K x) else .type t
  | some x, _ => .ref (He.ga K x)
  | none, _ => .none
def LawD.N (L : LawD) (nd : L.fld.Nodup) (K : PySem.W.Frag) : Nm := ⟨fun C => match L.errs[C]? with
  | some e => He.ga K e.x
  | none => 0, L.fld, nd, none⟩
def bltN : List Str := ["len", "abs", "min", "max", "sum", "sorted", "tuple", "list", "int", "str", "bool", "isinstance", "range"]
def conF : Str × D → List He.Fa
  | (x, .int i) => [.int x i]
  | (x, .str s) => [.str x (strOf s)]
  | _ => []
def LawD.fa (L : LawD) : List He.Fa := L.defs.map (fun d => .glo d.x) ++ L.errs.map (fun e => .glo e.x) ++ L.more.map (fun p => match p.2 with
  | none => .glo p.1
  | some _ => .free p.1) ++ L.cons.flatMap conF ++ (("super" : Str) :: bltN).map .free
def LawD.fn (L : LawD) : List He.DefD := L.defs.map fun d => ⟨(d.x, none), d.x, d.x, defArgs d.st, defBody d.st, defScope d.st, [], []⟩

/-! ### own errors in the written part -/
def oexB (K : PySem.W.Frag) (C : Addr) : Bool := match K.lookup C with
  | some ⟨.type "type", _, .cls cd, sl⟩ => (match cd.mro, sl.toList with
    | .ref C' :: bm, [_, _, _, _, some (.builtin n), _] => decide (C' = C) && decide (n = "ValueError.__new__") && !cd.hasDel && PySem.HandSPX.refsVE bm && cd.hasDict
    | _, _ => false)
  | _ => false
theorem oexB_ok {K : PySem.W.Frag} {C : Addr} (h : oexB K C = true) : ∃ nm q N bs bm sn sub ab col dd k0 k1 k2 k3 k5, K.lookup C = some (excClassObj nm q C N bs bm true sn sub ab col dd k0 k1 k2 k3 k5 "ValueError.__new__") ∧ PySem.HandSPX.refsVE bm = true := by
  unfold oexB at h
  split at h
  · rename_i dd cd sl e
    split at h
    · rename_i C' bm a0 a1 a2 a3 n a5 e1 e2
      obtain ⟨h, h5⟩ := band h
      obtain ⟨h, h4⟩ := band h
      obtain ⟨h, h3⟩ := band h
      obtain ⟨h1, h2⟩ := band h
      obtain rfl : C' = C := of_decide_eq_true h1
      obtain rfl : n = "ValueError.__new__" := of_decide_eq_true h2
      obtain ⟨nm, bs, mro, ns, qn, hd, sn, sub, ab, col, del⟩ := cd
      dsimp only at e1 h3 h5
      have h3 : del = false := by simpa using h3
      subst e1 h3 h5
      obtain ⟨l⟩ := sl
      have e2 : l = [a0, a1, a2, a3, some (.builtin "ValueError.__new__"), a5] := e2
      subst e2
      exact ⟨nm, qn, ns, bs, bm, sn, sub, ab, col, dd, a0, a1, a2, a3, a5, e, h4⟩
    · cases h
  · cases h
def excB (K : PySem.W.Frag) (C : Addr) : Bool := decide (PySem.W.findIn K (.ref C) "__getattribute__" = some (some (.builtin "BaseException.__getattribute__"))) && decide (PySem.W.findIn K (.ref C) "__getattr__" = some none) && decide (PySem.W.subIn K (.ref C) (.type "BaseException") = some true) && PySem.W.hasDictIn K C &&
  decide (PySem.W.findIn K (.ref C) "__class__" = some (some (.builtin "object.__class__"))) && decide (PySem.W.specialIn K (.builtin "object.__class__") "__get__" = some (some (.builtin "getset_descriptor.__get__"))) && decide (PySem.W.takesIn K (.builtin "object.__class__") = some true) && decide (PySem.W.mroIn K C (.type "object") = some true)
theorem excB_ok {K : PySem.W.Frag} {C : Addr} (h : excB K C = true) : ExcC K C := by
  unfold excB at h
  simp only [Bool.and_eq_true, decide_eq_true_eq] at h
  obtain ⟨⟨⟨⟨⟨⟨⟨h1, h2⟩, h3⟩, h4⟩, h5⟩, h6⟩, h7⟩, h8⟩ := h
  exact ⟨h1, h2, h3, h4, h5, h6, h7, h8⟩
abbrev InA : Type := Option (Str × Str × Arguments × FuncBody × Scope × Addr × List Str × Addr)
def inA (K : PySem.W.Frag) (x : Str) : InA := match K.lookup (He.ma K (He.ga K x) "__init__") with
  | some ⟨_, _, .func fd, _⟩ => some (fd.name, fd.qualname, fd.params, fd.body, fd.scope, fd.globals, fd.closure.map (·.1), fd.builtins)
  | _ => none
def ErrD.val (e : ErrD) : InA := some ("__init__", e.x ++ ".__init__", defArgs e.st, .stmts (defBody e.st), defScope e.st, mainGlobals, [("__class__" : Str)], builtinsNs)
/-- the function behind an own error's __init__: its cell, its code -/
def fnB (K : PySem.W.Frag) (file : Str) (C f : Addr) : Bool := match K.lookup f with
  | some ⟨_, _, .func fd, _⟩ => (match fd.defaults, fd.closure, fd.code with
    | .none, [(_, cc)], .ref cda => (match K.lookup cc, K.lookup cda with
      | some ⟨_, _, .cell (some (.ref D)), _⟩, some ⟨_, _, .fields vs, _⟩ => decide (D = C) && PySem.W.codeIn K (.ref cda) fd.qualname && (match (vs[2]? : Option Value) with
        | some (Value.str g _) => file == g
        | _ => false)
      | _, _ => false)
    | _, _, _ => false)
  | _ => false
def supB (K : PySem.W.Frag) (C : Addr) : Bool := decide (PySem.W.ks_superIn K C C "__init__" = some (some (.builtin "ValueError.__init__"))) && decide (PySem.W.mroIn K C (.ref C) = some true) && decide (PySem.W.subIn K (.ref C) (.type "ValueError") = some true)
def errB (K : PySem.W.Frag) (file : Str) (C f : Addr) : Bool := oexB K C && excB K C && supB K C && fnB K file C f && decide (PySem.W.findIn K (.ref C) "__setattr__" = some (some (.builtin "object.__setattr__"))) && decide (PySem.W.typeIn K (.ref C) = some (.type "type")) && PySem.W.keepIn K (.ref C) &&
  decide (PySem.W.findIn K (.ref C) "__init__" = some (some (.ref f))) && decide (PySem.W.typeIn K (.ref f) = some (.type "function"))
def LawD.chk (L : LawD) (K : PySem.W.Frag) : Bool := decide (PySem.W.nsIn K PySem.cStatics "thirdparty.any" = some none) && (L.errs.all fun e => errB K L.file (He.ga K e.x) (He.ma K (He.ga K e.x) "__init__")) && (L.errs.all fun e => L.fld.all fun f => decide (PySem.W.findIn K (.ref (He.ga K e.x)) f = some none)) &&
  ((List.range L.errs.length).all fun C => (List.range L.T.xnm.length).all fun k => match L.errs[C]? with
    | some e => decide (PySem.W.exmOne K (.ref (He.ga K e.x)) (L.cv K k) = some ((L.sub.getD C []).contains k)) && decide (PySem.W.kitOne K (.ref (He.ga K e.x)) (L.cv K k) = some ((L.sub.getD C []).contains k))
    | none => false)
abbrev AlF : Type := Bool × He.AlD × List InA
def LawD.obs (L : LawD) (K : PySem.W.Frag) : AlF := (L.chk K, He.obsD L.fa L.fn K, L.errs.map fun e => inA K e.x)
def LawD.val (L : LawD) : AlF := (true, He.valD L.fn, L.errs.map ErrD.val)
def LawD.obsG (L : LawD) (n : Nat) (g : Addr → Option Obj) : AlF := L.obs (He.frG g (PySem.cStatics :: He.asD g n))
def LawD.hook (L : LawD) (n : Nat) : PySem.W.Hook where
  α := AlF
  obs := fun s => L.obsG n s.heap.get?
  val := fun _ => L.val
  says := fun _ h => ∃ K : PySem.W.Frag, K.In h ∧ L.obs K = L.val
  of := fun _ _ e => ⟨_, He.frG_in, e⟩
  keeps := fun _ _ _ ⟨K, hK, c⟩ k => ⟨K, PySem.W.Frag.In.keeps hK k, c⟩
theorem LawD.obs_eq (L : LawD) {n : Nat} {g : Addr → Option Obj} {s : Shared} (h : ∀ a, g a = s.heap.get? a) : L.obsG n g = (L.hook n).obs s := by
  have e : g = s.heap.get? := funext h
  rw [e] <;> rfl

/-! ### what is decided of the text alone -/
def fnScB (nm ps : List Str) (sc : Scope) : Bool := (match sc.kind with | .function => true | _ => false) && !sc.isCoroutine && !sc.isGenerator && decide nm.Nodup && decide (nm.take ps.length = ps) && (ps.all fun x => match sc.names.lookup x with
  | some .local => true
  | some .cell => true
  | _ => false) && (sc.names.all fun y => decide (y.2 ≠ .free))
theorem fnScB_ok {nm ps : List Str} {sc : Scope} (h : fnScB nm ps sc = true) : FnScope nm ps sc := by
  unfold fnScB at h
  simp only [Bool.and_eq_true, List.all_eq_true, decide_eq_true_eq, Bool.not_eq_true'] at h
  obtain ⟨⟨⟨⟨⟨⟨h1, h2⟩, h3⟩, h4⟩, h5⟩, h6⟩, h7⟩ := h
  refine ⟨?_, h2, h3, h4, h5, fun x hx => ?_, h7⟩
  · split at h1
    · assumption
    · cases h1
  · have q := h6 x hx
    split at q
    · rename_i e; exact .inl e
    · rename_i e; exact .inr e
    · cases q
def defB (T : Tab) (d : DfD) : Bool := fnScB d.nm (d.nm.take d.fd.np) (defScope d.st) && decide ((d.nm.take d.fd.np).length = d.fd.np) && decide (d.nm.length = d.fd.ns) && ckSs T ⟨defScope d.st, d.nm, fun _ => true, false, none⟩ d.fd.body (defBody d.st)
def errS (fld : List Str) (e : ErrD) : Bool := insB e.nm (defScope e.st) && inB e.nm (defScope e.st) e.fs (defBody e.st) && decide (e.nm.length = e.fs.length + 1) && decide (e.fs.length ≤ 900) && !e.fs.isEmpty && decide (e.fl.map (fun f => fld[f]?) = e.fs.map some) && safeN e.x && (e.fs.all fun f => decide (f ∈ fld)) && (match ((defArgs e.st).posonlyargs ++ (defArgs e.st).args).head? with
  | some ar => decide (ar.arg = "self")
  | none => false)
def conB2 : D → Bool
  | .int _ => true
  | .str _ => true
  | _ => false
def moreB (p : Str × Option String) : Bool := safeN p.1 && (match p.2 with
  | none => true
  | some t => decide (bootBuiltins p.1 = some (.type t)) && decide (p.1 ≠ "__name__"))
def LawD.stat (L : LawD) : Bool := decide L.fld.Nodup && L.defs.all (defB L.T) && L.errs.all (errS L.fld) && (L.cons.all fun p => conB2 p.2) && L.more.all moreB
/-- the parameters are bound in order -/
def BindN (d : DfD) : Prop := ∀ (kV doc pm : Value) (an : Option Addr) (cdv ct : Value) (us : List Value), us.length = (d.nm.take d.fd.np).length → bindArgs (PySem.W.fnOf d.x d.x (defArgs d.st) (defBody d.st) (defScope d.st) .none kV doc pm an cdv ct) ⟨us, []⟩ = pure ((d.nm.take d.fd.np).zip us)
def BindI (e : ErrD) : Prop := ∀ (kV doc pm : Value) (an : Option Addr) (cdv ct : Value) (cc : Addr) (us : List Value), us.length = e.nm.length → bindArgs (PySem.W.ksFn "__init__" (e.x ++ ".__init__") (defArgs e.st) (defBody e.st) (defScope e.st) .none kV doc pm an cdv ct cc) ⟨us, []⟩ = pure (e.nm.zip us)
inductive All {α : Type} (p : α → Prop) : List α → Prop
  | nil : All p []
  | cons {a : α} {l : List α} (h : p a) (t : All p l) : All p (a :: l)
theorem All.get {α : Type} {p : α → Prop} {l : List α} (h : All p l) : ∀ {i : Nat} {a : α}, l[i]? = some a → p a := by
  induction h with
  | nil => intro i a e; cases e
  | cons h t ih =>
    intro i a e
    cases i with
    | zero => cases e; exact h
    | succ i => exact ih (by simpa using e)
theorem all_get {α : Type} {p : α → Bool} {l : List α} (h : l.all p = true) {i : Nat} {a : α} (e : l[i]? = some a) : p a = true := List.all_eq_true.mp h a (List.mem_of_getElem? e)
section
variable {P : Program} {w : World} {K : PySem.W.Frag} {h base : Heap} {mg : Str → Option Value}
theorem LawD.fact {L : LawD} (c : L.obs K = L.val) {f : He.Fa} (hf : f ∈ L.fa) : f.ok K = true := by
  have c2 : He.SaysD L.fa L.fn K := congrArg (fun z : AlF => z.2.1) c
  obtain ⟨i, hi, e⟩ := List.getElem_of_mem hf
  exact c2.fact i (by rw [List.getElem?_eq_getElem hi, e])
theorem LawD.prog {L : LawD} (hs : L.stat = true) (hb : All BindN L.defs) (hi : All BindI L.errs) (nd : L.fld.Nodup) (X : K.In h) (GN : h.Ns mainGlobals mg) (c : L.obs K = L.val) (hP : P.main.file = L.file) (ht : (P.main.scope.names.lookup ("super" : Str)).isSome = false) :
    ProgK P w K mg base (L.N nd K) L.T L.G (L.cv K) := by
  have c1 : L.chk K = true := congrArg (fun z : AlF => z.1) c
  have c2 : He.SaysD L.fa L.fn K := congrArg (fun z : AlF => z.2.1) c
  have c3 : L.errs.map (fun e => inA K e.x) = L.errs.map ErrD.val := congrArg (fun z : AlF => z.2.2) c
  obtain ⟨hs, hs5⟩ := band hs
  obtain ⟨hs, hs4⟩ := band hs
  obtain ⟨hs, hs3⟩ := band hs
  obtain ⟨hs1, hs2⟩ := band hs
  obtain ⟨c1, c14⟩ := band c1
  obtain ⟨c1, c13⟩ := band c1
  obtain ⟨c11, c12⟩ := band c1
  have free : ∀ x ∈ (("super" : Str) :: bltN), mg x = none := fun x hx => He.free_ok X GN (LawD.fact c (by
    unfold LawD.fa
    exact List.mem_append_right _ (List.mem_map.mpr ⟨x, hx, rfl⟩)))
  have glE : ∀ {i : Nat} {e : ErrD}, L.errs[i]? = some e → mg e.x = some (.ref (He.ga K e.x)) := fun {i e} h => He.glo_ok X GN (LawD.fact c (by
    unfold LawD.fa
    exact List.mem_append_left _ (List.mem_append_left _ (List.mem_append_left _ (List.mem_append_right _ (List.mem_map.mpr ⟨e, List.mem_of_getElem? h, rfl⟩))))))
  have errOf : ∀ {C : Nat}, C < L.G.exc.length → ∃ e, L.errs[C]? = some e := fun {C} hC => by
    have hC : C < (L.errs.map (·.fl)).length := hC
    rw [List.length_map] at hC
    exact ⟨_, List.getElem?_eq_getElem hC⟩
  have cadE : ∀ {C : Nat} {e : ErrD}, L.errs[C]? = some e → (L.N nd K).cad C = He.ga K e.x := fun {C e} he => by
    show (match L.errs[C]? with
      | some e => He.ga K e.x
      | none => 0) = _
    rw [he]
  have ckE : ∀ {C : Nat} {e : ErrD}, L.errs[C]? = some e → errB K L.file (He.ga K e.x) (He.ma K (He.ga K e.x) "__init__") = true := fun he => all_get c12 he
  have tfld : ∀ {C : Nat} {e : ErrD} {f : Str}, L.errs[C]? = some e → f ∈ L.fld → PySem.W.findIn K (.ref (He.ga K e.x)) f = some none := fun he hf => of_decide_eq_true (List.all_eq_true.mp (all_get c13 he) _ hf)
  refine ⟨fun f x hf => ?_, fun k x hk => ?_, fun x hx => free x (List.mem_cons_of_mem _ hx), rfl, ⟨fun k x hk => ?_, fun k => ?_, fun C k x hC hk => ?_, fun C hC => ?_, fun C f x hC hf => ?_, rfl, ?_⟩, fun C x flds hx hf => ?_⟩
  · -- defs
    have hf : (L.defs.map (·.x))[f]? = some x := hf
    rw [List.getElem?_map] at hf
    obtain ⟨d, hd, rfl⟩ := Option.map_eq_some_iff.mp hf
    have hdn : L.fn[f]? = some ⟨(d.x, none), d.x, d.x, defArgs d.st, defBody d.st, defScope d.st, [], []⟩ := by
      unfold LawD.fn
      rw [List.getElem?_map, hd]
      rfl
    obtain ⟨fdt, F⟩ := c2.def_ f hdn
    obtain ⟨q, q4⟩ := band (all_get hs2 hd)
    obtain ⟨q, q3⟩ := band q
    obtain ⟨q1, q2⟩ := band q
    refine ⟨d.fd, d.st, d.nm, d.nm.take d.fd.np, _, fdt, ?_, F, ?_, fnScB_ok q1, of_decide_eq_true q2, of_decide_eq_true q3, q4, FunD.bindsN F (hb.get hd)⟩
    · show (L.defs.map (·.fd))[f]? = _
      rw [List.getElem?_map, hd]
      rfl
    · exact He.glo_ok X GN (LawD.fact c (by
        unfold LawD.fa
        exact List.mem_append_left _ (List.mem_append_left _ (List.mem_append_left _ (List.mem_append_left _ (List.mem_map.mpr ⟨d, List.mem_of_getElem? hd, rfl⟩))))))
  · -- constants
    have hk : (L.cons.map (·.1))[k]? = some x := hk
    rw [List.getElem?_map] at hk
    obtain ⟨⟨y, d⟩, hd, rfl⟩ := Option.map_eq_some_iff.mp hk
    have e1 : L.G.consts[k]? = some d := by
      show (L.cons.map (·.2))[k]? = _
      rw [List.getElem?_map, hd]
      rfl
    have q := all_get hs4 hd
    have mem : ∀ f, f ∈ conF (y, d) → f ∈ L.fa := fun f hf => by
      unfold LawD.fa
      exact List.mem_append_left _ (List.mem_append_right _ (List.mem_flatMap.mpr ⟨(y, d), List.mem_of_getElem? hd, hf⟩))
    cases d with
    | int i =>
      obtain ⟨t, e⟩ := He.int_ok X GN (LawD.fact c (mem (.int y i) (List.mem_singleton.mpr rfl)))
      exact ⟨.int i, .int i, _, e1, e, ⟨t, rfl⟩, fun _ _ => rfl, fun _ => rfl⟩
    | str s =>
      obtain ⟨t, e⟩ := He.str_ok X GN (LawD.fact c (mem (.str y (strOf s)) (List.mem_singleton.mpr rfl)))
      exact ⟨.str s, .str (strOf s), _, e1, e, ⟨t, rfl⟩, fun _ _ => rfl, fun _ => rfl⟩
    | _ => cases q
  · -- the classes' names
    have hk0 := hk
    have hk : (L.errs.map (·.x) ++ L.more.map (·.1))[k]? = some x := hk
    by_cases hl : k < L.errs.length
    · rw [List.getElem?_append_left (by simpa using hl), List.getElem?_map] at hk
      obtain ⟨e, he, rfl⟩ := Option.map_eq_some_iff.mp hk
      have ev : L.cv K k = .ref (He.ga K e.x) := by
        unfold LawD.cv
        rw [hk0]
        split
        · rename_i z y t h1 h2
          cases h1
          rw [if_pos hl]
        · rename_i z h1 h2
          cases h1
          rfl
        · rename_i h1
          cases h1
      rw [ev]
      have q := all_get hs3 he
      obtain ⟨q, q9⟩ := band q
      obtain ⟨q, q8⟩ := band q
      obtain ⟨q, q7⟩ := band q
      exact ⟨.inl (glE he), q7⟩
    · rw [List.getElem?_append_right (by simpa using hl), List.getElem?_map, List.length_map] at hk
      obtain ⟨⟨y, o⟩, he, rfl⟩ := Option.map_eq_some_iff.mp hk
      obtain ⟨q1, q2⟩ := band (all_get hs5 he)
      cases o with
      | none =>
        have ev : L.cv K k = .ref (He.ga K y) := by
          unfold LawD.cv
          rw [hk0, he]
        rw [ev]
        exact ⟨.inl (He.glo_ok X GN (LawD.fact c (by
          unfold LawD.fa
          exact List.mem_append_left _ (List.mem_append_left _ (List.mem_append_right _ (List.mem_map.mpr ⟨(y, none), List.mem_of_getElem? he, rfl⟩)))))), q1⟩
      | some t =>
        have ev : L.cv K k = .type t := by
          unfold LawD.cv
          rw [hk0, he]
          show (if k < L.errs.length then Value.ref (He.ga K y) else .type t) = _
          rw [if_neg hl]
        rw [ev]
        obtain ⟨q3, q4⟩ := band q2
        exact ⟨.inr ⟨He.free_ok X GN (LawD.fact c (by
          unfold LawD.fa
          exact List.mem_append_left _ (List.mem_append_left _ (List.mem_append_right _ (List.mem_map.mpr ⟨(y, some t), List.mem_of_getElem? he, rfl⟩))))), of_decide_eq_true q3, of_decide_eq_true q4⟩, q1⟩
  · -- their values
    unfold LawD.cv
    split
    · split
      · exact ⟨.ref _, rfl, fun u e => e⟩
      · exact ⟨.ty _, rfl, fun u e => e⟩
    · exact ⟨.ref _, rfl, fun u e => e⟩
    · exact ⟨.non, rfl, fun u e => e⟩
  · -- which class is under which
    obtain ⟨e, he⟩ := errOf hC
    have hC' : C < L.errs.length := (List.getElem?_eq_some_iff.mp he).1
    have hk' : k < L.T.xnm.length := (List.getElem?_eq_some_iff.mp hk).1
    have q := List.all_eq_true.mp (List.all_eq_true.mp c14 C (List.mem_range.mpr hC')) k (List.mem_range.mpr hk')
    rw [he] at q
    obtain ⟨q1, q2⟩ := band q
    rw [cadE he]
    exact ⟨of_decide_eq_true q1, of_decide_eq_true q2⟩
  · obtain ⟨e, he⟩ := errOf hC
    rw [cadE he]
    have q := ckE he
    unfold errB at q
    simp only [Bool.and_eq_true] at q
    exact excB_ok q.1.1.1.1.1.1.1.2
  · obtain ⟨e, he⟩ := errOf hC
    rw [cadE he]
    exact tfld he (List.mem_of_getElem? hf)
  · show L.errs.length ≤ (L.errs.map (·.fl)).length
    rw [List.length_map]
    exact Nat.le_refl _
  · -- the __init__s
    have hf : (L.errs.map (·.fl))[C]? = some flds := hf
    rw [List.getElem?_map] at hf
    obtain ⟨e, he, rfl⟩ := Option.map_eq_some_iff.mp hf
    have hl : C < L.errs.length := (List.getElem?_eq_some_iff.mp he).1
    have hx : (L.errs.map (·.x) ++ L.more.map (·.1))[C]? = some x := hx
    rw [List.getElem?_append_left (by simpa using hl), List.getElem?_map, he] at hx
    obtain rfl : e.x = x := Option.some.inj hx
    have q := ckE he
    unfold errB at q
    obtain ⟨q, r9⟩ := band q
    obtain ⟨q, r8⟩ := band q
    obtain ⟨q, r7⟩ := band q
    obtain ⟨q, r6⟩ := band q
    obtain ⟨q, r5⟩ := band q
    obtain ⟨q, r4⟩ := band q
    obtain ⟨q, r3⟩ := band q
    obtain ⟨r1, r2⟩ := band q
    have z := all_get hs3 he
    unfold errS at z
    obtain ⟨z, z9⟩ := band z
    obtain ⟨z, z8⟩ := band z
    obtain ⟨z, z7⟩ := band z
    obtain ⟨z, z6⟩ := band z
    obtain ⟨z, z5⟩ := band z
    obtain ⟨z, z4⟩ := band z
    obtain ⟨z, z3⟩ := band z
    obtain ⟨z1, z2⟩ := band z
    have EC := excB_ok r2
    unfold supB at r3
    obtain ⟨r3, u3⟩ := band r3
    obtain ⟨u1, u2⟩ := band r3
    have T : OexC K (He.ga K e.x) := ⟨oexB_ok r1, of_decide_eq_true r5, EC.hs, of_decide_eq_true r6, r7⟩
    have iv : inA K e.x = e.val := by
      have e2 : (L.errs.map fun e => inA K e.x)[C]? = (L.errs.map ErrD.val)[C]? := by rw [c3]
      rw [List.getElem?_map, List.getElem?_map, he] at e2
      exact Option.some.inj e2
    unfold inA at iv
    unfold fnB at r4
    cases lf : K.lookup (He.ma K (He.ga K e.x) "__init__") with
    | none => rw [lf] at r4; cases r4
    | some o =>
      obtain ⟨oc, od, dt, osl⟩ := o
      rw [lf] at r4 iv
      cases dt with
      | func fd =>
        obtain ⟨n1, n2, n3, n4, n5, n6, n7, n8, n9, n10, n11, n12, n13, n14, n15⟩ := fd
        have e2 : (some (n1, n2, n3, n4, n5, n6, n7.map (·.1), n15) : InA) = some (("__init__" : Str), e.x ++ ".__init__", defArgs e.st, FuncBody.stmts (defBody e.st), defScope e.st, mainGlobals, [("__class__" : Str)], builtinsNs) := iv
        simp only [Option.some.injEq, Prod.mk.injEq] at e2
        obtain ⟨g1, g2, g3, g4, g5, g6, g7, g8⟩ := e2
        dsimp only at r4
        rcases n7 with _ | ⟨⟨cl, cc⟩, _ | ⟨_, _⟩⟩ <;> first | (cases n8 <;> cases r4; done) | skip
        cases n8 <;> first | (cases r4; done) | skip
        cases n13 <;> first | (cases r4; done) | skip
        rename_i cda
        dsimp only at r4
        split at r4
        · rename_i a1 b1 C2 c1' a2 b2 vs c2' lcc lcd
          obtain ⟨r4, r43⟩ := band r4
          obtain ⟨r41, r42⟩ := band r4
          have r41 := of_decide_eq_true r41
          subst g1 g2 g3 g4 g5 g6 g8 r41
          have g7 : cl = ("__class__" : Str) := by simpa using g7
          subst g7
          have hself : ∃ ar, ((defArgs e.st).posonlyargs ++ (defArgs e.st).args).head? = some ar ∧ ar.arg = "self" := by
            split at z9
            · rename_i ar e3
              exact ⟨ar, e3, of_decide_eq_true z9⟩
            · cases z9
          have hcode : ∃ file tf, vs[2]? = some (.str file tf) ∧ ((P.main.file : Str) == file) = true := by
            split at r43
            · rename_i g tf e3
              exact ⟨g, tf, e3, by rw [hP]; exact r43⟩
            · cases r43
          obtain ⟨file, tf, hv1, hv2⟩ := hcode
          have hne : e.fs ≠ [] := by
            intro e3
            rw [e3] at z5
            cases z5
          have S : SupC K P (He.ga K e.x) (He.ma K (He.ga K e.x) "__init__") cc cda (PySem.W.ksFn "__init__" (e.x ++ ".__init__") (defArgs e.st) (defBody e.st) (defScope e.st) .none n9 n10 n11 n12 (.ref cda) n14 cc) :=
            ⟨⟨_, _, _, lf⟩, ⟨_, _, _, lcc⟩, ⟨_, _, _, _, file, tf, lcd, hv1, hv2⟩, hself, ht, of_decide_eq_true u1, of_decide_eq_true u2, of_decide_eq_true u3, of_decide_eq_true c11⟩
          have ok := ok_init (P := P) (w := w) (mg := mg) (base := base) (CX := L2.CX P w) S T r42 (insB_ok z1) z2 (of_decide_eq_true z3) (fun g hg => tfld he (of_decide_eq_true (List.all_eq_true.mp z8 g hg))) (of_decide_eq_true z4) hne (free _ (List.mem_cons_self ..))
          have z6 := of_decide_eq_true z6
          refine ⟨e.fs, _, _, e.nm, ⟨by rw [cadE he]; exact glE he, by rw [cadE he]; exact T, by rw [cadE he]; exact of_decide_eq_true r8, of_decide_eq_true r9, by rw [cadE he]; exact ok, Binds.all fun us hl => (hi.get he) _ _ _ _ _ _ _ us hl, ?_, of_decide_eq_true z4, fun i f hf => ?_, (safe_is z7).1⟩⟩
          · have := congrArg List.length z6
            rw [List.length_map, List.length_map] at this
            exact this.symm
          · show L.fld[f]? = _
            have q := congrArg (fun l : List (Option Str) => l[i]?) z6
            rw [List.getElem?_map, List.getElem?_map, hf] at q
            cases e3 : e.fs[i]? with
            | none => rw [e3] at q; cases q
            | some g => rw [e3] at q; exact Option.some.inj q
        · cases r4
      | _ => cases r4
end
end Fx
set_option Elab.async false
set_option linter.all false
set_option autoImplicit false
set_option maxRecDepth 100000
set_option maxHeartbeats 4000000
/-! FxU: the law's end. -/
namespace Fx
open PySem PySem.Spec PyProof.Rows L2

/-- no exception is wished for: none is let out -/
theorem calm_fn {P : Program} {w : World} {K : PySem.W.Frag} {mg : Str → Option Value} {base : Heap} {k : Nat} {f : Addr} {fd : FuncData} {ps : List Str} {sp : Sp} (Z : FnOk P w K mg base (L2.CX P w) k f fd ps sp) :
    FnOk P w K mg base CX0 k f fd ps (fun vs H Q _ => sp vs H Q fun _ _ _ => False) := by
  refine ⟨fun vs H Q E h => Z.len vs H Q _ h, fun A outer s H args us vs Q E hr e0 hb r h => codeAny_mono (Z.run A outer s H args us vs Q _ hr e0 hb r h) fun r s' q => ?_⟩
  cases r with
  | error e =>
    obtain ⟨_, _, _, _, _, _, _, _, _, _, _, _, z⟩ := q
    exact z.elim
  | ok fl =>
    cases fl with
    | ret u => exact q
    | next => exact q
    | brk => exact q
    | cont => exact q
theorem rvs_ints {K : PySem.W.Frag} {H : Hp} {mu : Nat → Addr} : ∀ ns : List Int, RVs K H mu (ns.map D.int) (ns.map V.int)
  | [] => rfl
  | n :: ns => ⟨.int n, ns.map V.int, rfl, rfl, rvs_ints ns⟩
theorem wfs_ints {k : Nat} (ns : List Int) : D.wfs k (ns.map D.int) = true := wfs_all.mpr fun x hx => by
  obtain ⟨i, _, rfl⟩ := List.mem_map.mp hx
  rfl
/-- what the plain proof shows: the evaluator says True of every script -/
def Says (L : LawD) (n ix : Nat) : Prop := ∀ ns : List Int, ns.length ≤ 63 → ∃ S', callN L.G n ix [.ref 0] [.frz (ns.map D.int)] = .ok (.bl true) S'
theorem law_sp {N : Nm} {K : PySem.W.Frag} {L : LawD} {n ix : Nat} (hl : Says L n ix) {H : Hp} {a : Addr} {ns : List Int} (hn : ns.length ≤ 63) (ho : Only H) (hS : SqL K H a (ns.map V.int)) :
    spF N K 1 (callN L.G n ix) [.ref a] H (fun v _ => v = .bl true) fun _ _ _ => False := by
  obtain ⟨S', e⟩ := hl ns hn
  refine ⟨fun _ => a, [.ref 0], [.frz (ns.map D.int)], rfl, ⟨⟨.ref a, [], rfl, rfl, rfl⟩, by simp [D.wfs, D.wf]⟩, ⟨fun m o h => ?_, fun m o h => ?_, fun m k hm hk _ => ?_⟩, ?_⟩
  · cases m with
    | zero =>
      obtain rfl : O.frz (ns.map D.int) = o := Option.some.inj h
      refine ⟨ns.map V.int, ?_, rvs_ints ns⟩
      rcases hS with (q | ⟨ob, q⟩) | q
      · rcases ho a with z | ⟨o, xs, z⟩
        · rw [z] at q; cases q
        · rw [z] at q; cases q
      · exact .inl ⟨ob, q⟩
      · exact .inr fun H' => .inr q
    | succ m => cases h
  · cases m with
    | zero =>
      obtain rfl : O.frz (ns.map D.int) = o := Option.some.inj h
      exact wfs_ints ns
    | succ m => cases h
  · cases m with
    | zero => exact hm.elim
    | succ m => exact hm.elim
  · rw [e]
    intro v H' mu' g r
    exact r.1
theorem law_fin {P : Program} {w : World} {K : PySem.W.Frag} {h : Heap} {mg : Str → Option Value} {L : LawD} {n ix : Nat} {fa : Addr} {d : DfD} {x : Str} (hs : L.stat = true) (hb : All BindN L.defs) (hi : All BindI L.errs) (nd : L.fld.Nodup) (X : K.In h) (GN : h.Ns mainGlobals mg) (c : L.obs K = L.val) (hP : P.main.file = L.file)
    (ht : (P.main.scope.names.lookup ("super" : Str)).isSome = false) (hl : Says L n ix) (hd : L.defs[ix]? = some d) (hx : d.nm.take d.fd.np = [x]) (hfa : mg d.x = some (.ref fa)) :
    ∃ (fd : FuncData) (sp : Sp), (∀ (s : Shared) (u : Value), BindsTo s fd ⟨[u], []⟩ [(x, u)]) ∧ (∀ (H : Hp) (a : Addr) (ns : List Int), ns.length ≤ 63 → Only H → SqL K H a (ns.map V.int) → sp [.ref a] H (fun v _ => v = .bl true) fun _ _ _ => False) ∧
      ∀ base : Heap, K.In base → base.Ns mainGlobals mg → FnOk P w K mg base CX0 (n + 2) fa fd [x] sp := by
  have c2 : He.SaysD L.fa L.fn K := congrArg (fun z : AlF => z.2.1) c
  have hdn : L.fn[ix]? = some ⟨(d.x, none), d.x, d.x, defArgs d.st, defBody d.st, defScope d.st, [], []⟩ := by
    unfold LawD.fn
    rw [List.getElem?_map, hd]
    rfl
  obtain ⟨fdt, F⟩ := c2.def_ ix hdn
  have e : mg d.x = some (.ref (He.ga K d.x)) := He.glo_ok X GN (LawD.fact c (by
    unfold LawD.fa
    exact List.mem_append_left _ (List.mem_append_left _ (List.mem_append_left _ (List.mem_append_left _ (List.mem_map.mpr ⟨d, List.mem_of_getElem? hd, rfl⟩))))))
  rw [hfa] at e
  cases e
  have hs2 : L.defs.all (defB L.T) = true := (band (band (band (band hs).1).1).1).2
  obtain ⟨q, q4⟩ := band (all_get hs2 hd)
  obtain ⟨q, q3⟩ := band q
  obtain ⟨q1, q2⟩ := band q
  have bd := hb.get hd
  unfold BindN at bd
  rw [hx] at bd q1 q2
  have q2 : [x].length = d.fd.np := of_decide_eq_true q2
  have BA := FunD.bindsA (ps := [x]) F bd
  refine ⟨fdt, fun vs H Q _ => spF (L.N nd K) K 1 (callN L.G n ix) vs H Q fun _ _ _ => False, fun s u => BA s [u] rfl, fun H a ns hn ho hS => law_sp hl hn ho hS, fun base KB GB => ?_⟩
  have Z : ProgK P w K mg base (L.N nd K) L.T L.G (L.cv K) := LawD.prog hs hb hi nd X GN c hP ht
  refine calm_fn (prog_ok Z n ix d.x d.fd d.st d.nm [x] _ fdt ?_ ?_ ⟨F, hfa, fnScB_ok q1, q2, of_decide_eq_true q3, q4, FunD.bindsN F bd⟩)
  · show (L.defs.map (·.x))[ix]? = _
    rw [List.getElem?_map, hd]
    rfl
  · show (L.defs.map (·.fd))[ix]? = _
    rw [List.getElem?_map, hd]
    rfl
end Fx
set_option Elab.async false
set_option linter.all false
set_option autoImplicit false
set_option maxRecDepth 100000
set_option maxHeartbeats 0
/-! K00: the program as a datum (printed by gen.py). -/
namespace K00
open PySem PySem.Spec PyProof.Rows L2 Fx
def top (i : Nat) : Stmt := PySem.Challenge.pw_papersorliars_k00_value_texts.main.body.getD i (.Pass ⟨0, 0, 0, 0⟩)
def sub (s : Stmt) (j : Nat) : Stmt := match s with
  | .ClassDef _ _ _ b _ _ _ _ _ _ _ => b.getD j (.Pass ⟨0, 0, 0, 0⟩)
  | s => s
def b_value_text : FSs :=
    (.cons (.ifs (.isi (.loc 0) .tTuple) (.cons (.ret (.bin .Add (.bin .Add (.con (.str [40])) (.mth .join (.con (.str [32])) (.cons (.lc [1] (.nm 1) (.seq (.loc 0)) .nil (.call 0 (.cons (.loc 1) .nil))) .nil))) (.con (.str [41]))))
    .nil) .nil)
    (.cons (.ret (.blt .str (.cons (.loc 0) .nil)))
    .nil))
def d_value_text : DfD := ⟨"value_text", top 10, ["value", "part"], ⟨1, 2, b_value_text⟩⟩
-- 0 value, 1 part
def b_run_end : FSs :=
    (.cons (.asg 4 (.blt .min (.cons (.blt .len (.cons (.loc 0) .nil)) (.cons (.bin .Add (.loc 1) (.loc 3)) .nil))))
    (.cons (.whl (.and (.cons (.cmp .Lt (.loc 1) (.loc 4)) (.cons (.cmp .In (.idx (.loc 0) (.loc 1)) (.loc 2)) .nil))) (.cons (.aug 1 .Add (.con (.int 1)))
    .nil) .nil)
    (.cons (.ret (.loc 1))
    .nil)))
def d_run_end : DfD := ⟨"run_end", top 11, ["text", "at", "signs", "most", "last"], ⟨4, 5, b_run_end⟩⟩
-- 0 text, 1 at, 2 signs, 3 most, 4 last
def b_read_plain : FSs :=
    (.cons (.ifs (.cmp .In (.idx (.loc 0) (.loc 1)) (.glo 0)) (.cons (.asg 2 (.call 1 (.cons (.loc 0) (.cons (.loc 1) (.cons (.glo 0) (.cons (.glo 2) .nil))))))
    (.cons (.ret (.tup (.cons (.cut (.loc 0) (.loc 1) (.loc 2)) (.cons (.loc 2) .nil))))
    .nil)) .nil)
    (.cons (.asg 3 (.ite (.cmp .Eq (.idx (.loc 0) (.loc 1)) (.con (.str [45]))) (.bin .Add (.loc 1) (.con (.int 1))) (.loc 1)))
    (.cons (.ifs (.or (.cons (.cmp .Eq (.loc 3) (.blt .len (.cons (.loc 0) .nil))) (.cons (.cmp .NotIn (.idx (.loc 0) (.loc 3)) (.glo 1)) (.cons (.and (.cons (.cmp .Eq (.idx (.loc 0) (.loc 3)) (.con (.str [48]))) (.cons (.cmp .Gt (.loc 3) (.loc 1)) .nil))) .nil)))) (.cons (.rais 1 (.cons (.loc 3) .nil))
    .nil) .nil)
    (.cons (.ifs (.cmp .Eq (.idx (.loc 0) (.loc 3)) (.con (.str [48]))) (.cons (.ret (.tup (.cons (.con (.int 0)) (.cons (.bin .Add (.loc 3) (.con (.int 1))) .nil))))
    .nil) .nil)
    (.cons (.asg 2 (.call 1 (.cons (.loc 0) (.cons (.loc 3) (.cons (.glo 1) (.cons (.glo 3) .nil))))))
    (.cons (.ret (.tup (.cons (.blt .int (.cons (.cut (.loc 0) (.loc 1) (.loc 2)) .nil)) (.cons (.loc 2) .nil))))
    .nil))))))
def d_read_plain : DfD := ⟨"read_plain", top 12, ["text", "at", "end", "first"], ⟨2, 4, b_read_plain⟩⟩
-- 0 text, 1 at, 2 end, 3 first
def b_read_value : FSs :=
    (.cons (.asg 1 (.lst .nil))
    (.cons (.asg 2 (.con (.int 0)))
    (.cons (.whl (.con (.bl true)) (.cons (.ifs (.cmp .Eq (.loc 2) (.blt .len (.cons (.loc 0) .nil))) (.cons (.rais 1 (.cons (.loc 2) .nil))
    .nil) .nil)
    (.cons (.ifs (.cmp .NotEq (.idx (.loc 0) (.loc 2)) (.con (.str [40]))) (.cons (.asgT [3, 2] (.call 2 (.cons (.loc 0) (.cons (.loc 2) .nil))))
    .nil) (.cons (.ifs (.cmp .Eq (.blt .len (.cons (.loc 1) .nil)) (.glo 4)) (.cons (.rais 1 (.cons (.loc 2) .nil))
    .nil) .nil)
    (.cons (.aug 2 .Add (.con (.int 1)))
    (.cons (.ifs (.or (.cons (.cmp .Eq (.loc 2) (.blt .len (.cons (.loc 0) .nil))) (.cons (.cmp .NotEq (.idx (.loc 0) (.loc 2)) (.con (.str [41]))) .nil))) (.cons (.expr (.mth .append (.loc 1) (.cons (.lst .nil) .nil)))
    (.cons .cnt
    .nil)) .nil)
    (.cons (.asg 3 (.tup .nil))
    (.cons (.aug 2 .Add (.con (.int 1)))
    .nil))))))
    (.cons (.whl (.loc 1) (.cons (.expr (.mth .append (.idx (.loc 1) (.neg (.con (.int 1)))) (.cons (.loc 3) .nil)))
    (.cons (.ifs (.or (.cons (.cmp .Eq (.loc 2) (.blt .len (.cons (.loc 0) .nil))) (.cons (.cmp .NotIn (.idx (.loc 0) (.loc 2)) (.con (.str [32, 41]))) .nil))) (.cons (.rais 1 (.cons (.loc 2) .nil))
    .nil) .nil)
    (.cons (.aug 2 .Add (.con (.int 1)))
    (.cons (.ifs (.cmp .Eq (.idx (.loc 0) (.bin .Sub (.loc 2) (.con (.int 1)))) (.con (.str [32]))) (.cons .brk
    .nil) .nil)
    (.cons (.asg 3 (.blt .tuple (.cons (.mth .pop (.loc 1) .nil) .nil)))
    .nil))))) (.cons (.ifs (.cmp .Lt (.loc 2) (.blt .len (.cons (.loc 0) .nil))) (.cons (.rais 1 (.cons (.loc 2) .nil))
    .nil) .nil)
    (.cons (.ret (.loc 3))
    .nil)))
    .nil))) .nil)
    .nil)))
def d_read_value : DfD := ⟨"read_value", top 13, ["text", "stack", "at", "value"], ⟨1, 4, b_read_value⟩⟩
-- 0 text, 1 stack, 2 at, 3 value
def b__law_cell : FSs :=
    (.cons (.ifs (.cmp .Lt (.loc 1) (.blt .len (.cons (.loc 0) .nil))) (.cons (.ret (.idx (.loc 0) (.loc 1)))
    .nil) .nil)
    (.cons (.ret (.con (.int 0)))
    .nil))
def d__law_cell : DfD := ⟨"_law_cell", top 15, ["_law_script", "_law_k"], ⟨2, 2, b__law_cell⟩⟩
-- 0 _law_script, 1 _law_k
def b__law_draws : FSs :=
    (.cons (.asg 2 (.lst .nil))
    (.cons (.asg 3 (.blt .abs (.cons (.loc 0) .nil)))
    (.cons (.ifs (.cmp .GtE (.loc 3) (.bin .Pow (.con (.int 10)) (.con (.int 18)))) (.cons (.fr (.nm 4) (.range1 (.loc 1)) (.cons (.expr (.mth .append (.loc 2) (.cons (.bin .Mod (.loc 3) (.con (.int 60))) .nil)))
    (.cons (.asg 3 (.bin .FloorDiv (.loc 3) (.con (.int 60))))
    .nil)))
    (.cons (.ret (.loc 2))
    .nil)) .nil)
    (.cons (.asg 5 (.bin .Add (.loc 3) (.con (.int 17))))
    (.cons (.fr (.nm 4) (.range1 (.loc 1)) (.cons (.asg 5 (.bin .Mod (.blt .int (.cons (.bin .Add (.bin .Add (.bin .Mult (.loc 5) (.con (.int 48271))) (.bin .Mult (.con (.int 12345)) (.loc 4))) (.con (.int 7))) .nil)) (.con (.int 2147483647))))
    (.cons (.asg 6 (.bin .Mod (.blt .int (.cons (.bin .Add (.bin .Mult (.loc 5) (.con (.int 69621))) (.loc 4)) .nil)) (.con (.int 1000003))))
    (.cons (.expr (.mth .append (.loc 2) (.cons (.bin .Mod (.bin .FloorDiv (.loc 6) (.con (.int 3))) (.con (.int 60))) .nil)))
    .nil))))
    (.cons (.ret (.loc 2))
    .nil))))))
def d__law_draws : DfD := ⟨"_law_draws", top 16, ["_law_cell_here", "_law_many", "_law_draws_here", "_law_rest", "_law_k", "_law_state", "_law_other"], ⟨2, 7, b__law_draws⟩⟩
-- 0 _law_cell_here, 1 _law_many, 2 _law_draws_here, 3 _law_rest, 4 _law_k, 5 _law_state, 6 _law_other
def b__law_word : FSs :=
    (.cons (.asg 1 (.con (.str [97, 98, 99, 100, 101, 102, 103, 104, 105, 106, 107, 108, 109, 110, 111, 112, 113, 114, 115, 116, 117, 118, 119, 120, 121, 122])))
    (.cons (.asg 2 (.call 5 (.cons (.loc 0) (.cons (.con (.int 21)) .nil))))
    (.cons (.ret (.mth .join (.con (.str [])) (.cons (.lc [3] (.nm 3) (.range1 (.bin .Add (.con (.int 1)) (.bin .Mod (.idx (.loc 2) (.con (.int 0))) (.con (.int 20))))) .nil (.idx (.loc 1) (.bin .Mod (.bin .Add (.idx (.loc 2) (.bin .Add (.loc 3) (.con (.int 1)))) (.loc 3)) (.con (.int 26))))) .nil)))
    .nil)))
def d__law_word : DfD := ⟨"_law_word", top 17, ["_law_cell_here", "_law_letters", "_law_draws_here", "_law_k"], ⟨1, 4, b__law_word⟩⟩
-- 0 _law_cell_here, 1 _law_letters, 2 _law_draws_here, 3 _law_k
def b__law_value : FSs :=
    (.cons (.asg 1 (.lst (.cons (.lst .nil) .nil)))
    (.cons (.asg 2 (.bin .Mult (.bin .Mult (.bin .Mult (.bin .Pow (.con (.int 10)) (.con (.int 50))) (.bin .Pow (.con (.int 10)) (.con (.int 50)))) (.bin .Pow (.con (.int 10)) (.con (.int 50)))) (.bin .Pow (.con (.int 10)) (.con (.int 50)))))
    (.cons (.fr (.nm 3) (.seq (.cut (.loc 0) (.con (.int 1)) (.con (.int 61)))) (.cons (.asg 4 (.bin .Mod (.blt .int (.cons (.loc 3) .nil)) (.con (.int 7))))
    (.cons (.asg 5 (.bin .FloorDiv (.blt .int (.cons (.loc 3) .nil)) (.con (.int 7))))
    (.cons (.ifs (.cmp .Eq (.loc 4) (.con (.int 0))) (.cons (.expr (.mth .append (.idx (.loc 1) (.neg (.con (.int 1)))) (.cons (.bin .Mod (.blt .int (.cons (.loc 5) .nil)) (.loc 2)) .nil)))
    .nil) (.cons (.ifs (.cmp .Eq (.loc 4) (.con (.int 1))) (.cons (.expr (.mth .append (.idx (.loc 1) (.neg (.con (.int 1)))) (.cons (.bin .Sub (.con (.int 0)) (.bin .Mod (.blt .int (.cons (.loc 5) .nil)) (.loc 2))) .nil)))
    .nil) (.cons (.ifs (.cmp .Eq (.loc 4) (.con (.int 2))) (.cons (.expr (.mth .append (.idx (.loc 1) (.neg (.con (.int 1)))) (.cons (.bin .Mod (.blt .int (.cons (.loc 5) .nil)) (.con (.int 12))) .nil)))
    .nil) (.cons (.ifs (.cmp .Eq (.loc 4) (.con (.int 3))) (.cons (.expr (.mth .append (.idx (.loc 1) (.neg (.con (.int 1)))) (.cons (.call 6 (.cons (.loc 5) .nil)) .nil)))
    .nil) (.cons (.ifs (.and (.cons (.cmp .Eq (.loc 4) (.con (.int 4))) (.cons (.cmp .Lt (.blt .len (.cons (.loc 1) .nil)) (.con (.int 8))) .nil))) (.cons (.expr (.mth .append (.loc 1) (.cons (.lst .nil) .nil)))
    .nil) (.cons (.ifs (.and (.cons (.cmp .Eq (.loc 4) (.con (.int 5))) (.cons (.cmp .Gt (.blt .len (.cons (.loc 1) .nil)) (.con (.int 1))) .nil))) (.cons (.asg 6 (.blt .tuple (.cons (.mth .pop (.loc 1) .nil) .nil)))
    (.cons (.expr (.mth .append (.idx (.loc 1) (.neg (.con (.int 1)))) (.cons (.loc 6) .nil)))
    .nil)) (.cons (.expr (.mth .append (.idx (.loc 1) (.neg (.con (.int 1)))) (.cons (.tup .nil) .nil)))
    .nil))
    .nil))
    .nil))
    .nil))
    .nil))
    .nil))
    .nil))))
    (.cons (.whl (.cmp .Gt (.blt .len (.cons (.loc 1) .nil)) (.con (.int 1))) (.cons (.asg 6 (.blt .tuple (.cons (.mth .pop (.loc 1) .nil) .nil)))
    (.cons (.expr (.mth .append (.idx (.loc 1) (.neg (.con (.int 1)))) (.cons (.loc 6) .nil)))
    .nil)) .nil)
    (.cons (.asg 7 (.blt .tuple (.cons (.idx (.loc 1) (.con (.int 0))) .nil)))
    (.cons (.asg 8 (.call 4 (.cons (.loc 0) (.cons (.con (.int 0)) .nil))))
    (.cons (.ifs (.and (.cons (.cmp .Gt (.blt .len (.cons (.loc 7) .nil)) (.con (.int 0))) (.cons (.cmp .Eq (.bin .Mod (.blt .int (.cons (.loc 8) .nil)) (.con (.int 3))) (.con (.int 1))) .nil))) (.cons (.asg 7 (.idx (.loc 7) (.bin .Mod (.bin .FloorDiv (.blt .int (.cons (.loc 8) .nil)) (.con (.int 3))) (.blt .len (.cons (.loc 7) .nil)))))
    .nil) .nil)
    (.cons (.ifs (.cmp .Eq (.bin .Mod (.bin .FloorDiv (.blt .int (.cons (.loc 8) .nil)) (.con (.int 60))) (.con (.int 4))) (.con (.int 1))) (.cons (.fr (.nm 9) (.range1 (.bin .Mod (.bin .FloorDiv (.blt .int (.cons (.loc 8) .nil)) (.con (.int 240))) (.con (.int 92)))) (.cons (.asg 7 (.tup (.cons (.loc 7) .nil)))
    .nil))
    .nil) .nil)
    (.cons (.ret (.loc 7))
    .nil)))))))))
def d__law_value : DfD := ⟨"_law_value", top 18, ["_law_script", "_law_stack", "_law_large", "_law_cell_here", "_law_kind", "_law_size", "_law_done", "_law_value_here", "_law_first", "_law_k"], ⟨1, 10, b__law_value⟩⟩
-- 0 _law_script, 1 _law_stack, 2 _law_large, 3 _law_cell_here, 4 _law_kind, 5 _law_size, 6 _law_done, 7 _law_value_here, 8 _law_first, 9 _law_k
def b__law_write : FSs :=
    (.cons (.ifs (.isi (.loc 0) .tTuple) (.cons (.ret (.bin .Add (.bin .Add (.con (.str [40])) (.mth .join (.con (.str [32])) (.cons (.lc [1] (.nm 1) (.seq (.loc 0)) .nil (.call 8 (.cons (.loc 1) .nil))) .nil))) (.con (.str [41]))))
    .nil) .nil)
    (.cons (.ret (.blt .str (.cons (.loc 0) .nil)))
    .nil))
def d__law_write : DfD := ⟨"_law_write", top 19, ["_law_value_here", "_law_part"], ⟨1, 2, b__law_write⟩⟩
-- 0 _law_value_here, 1 _law_part
def b__law_same : FSs :=
    (.cons (.ifs (.isi (.loc 1) .tTuple) (.cons (.ifs (.or (.cons (.not (.isi (.loc 0) .tTuple)) (.cons (.cmp .NotEq (.blt .len (.cons (.loc 0) .nil)) (.blt .len (.cons (.loc 1) .nil))) .nil))) (.cons (.ret (.con (.bl false)))
    .nil) .nil)
    (.cons (.fr (.nm 2) (.range1 (.blt .len (.cons (.loc 1) .nil))) (.cons (.ifs (.not (.call 9 (.cons (.idx (.loc 0) (.loc 2)) (.cons (.idx (.loc 1) (.loc 2)) .nil)))) (.cons (.ret (.con (.bl false)))
    .nil) .nil)
    .nil))
    (.cons (.ret (.con (.bl true)))
    .nil))) .nil)
    (.cons (.ifs (.isi (.loc 1) .tStr) (.cons (.ret (.and (.cons (.isi (.loc 0) .tStr) (.cons (.cmp .Eq (.loc 0) (.loc 1)) .nil))))
    .nil) .nil)
    (.cons (.ret (.and (.cons (.isi (.loc 0) .tInt) (.cons (.not (.isi (.loc 0) .tBool)) (.cons (.cmp .Eq (.loc 0) (.loc 1)) .nil)))))
    .nil)))
def d__law_same : DfD := ⟨"_law_same", top 20, ["_law_actual", "_law_expected", "_law_k"], ⟨2, 3, b__law_same⟩⟩
-- 0 _law_actual, 1 _law_expected, 2 _law_k
def b__law_step : FSs :=
    (.cons (.asg 2 (.idx (.loc 0) (.con (.int 0))))
    (.cons (.asg 3 (.idx (.loc 0) (.con (.int 1))))
    (.cons (.asg 4 (.idx (.loc 0) (.con (.int 2))))
    (.cons (.ifs (.or (.cons (.cmp .Eq (.loc 2) (.con (.str [115, 116, 97, 114, 116]))) (.cons (.cmp .Eq (.loc 2) (.con (.str [102, 105, 114, 115, 116]))) .nil))) (.cons (.ifs (.and (.cons (.cmp .Eq (.loc 1) (.con (.str [40]))) (.cons (.cmp .Lt (.loc 3) (.con (.int 100))) .nil))) (.cons (.ret (.tup (.cons (.con (.str [102, 105, 114, 115, 116])) (.cons (.bin .Add (.loc 3) (.con (.int 1))) (.cons (.con (.int 0)) .nil)))))
    .nil) .nil)
    (.cons (.ifs (.and (.cons (.cmp .Eq (.loc 1) (.con (.str [41]))) (.cons (.cmp .Eq (.loc 2) (.con (.str [102, 105, 114, 115, 116]))) .nil))) (.cons (.ret (.tup (.cons (.con (.str [97, 102, 116, 101, 114])) (.cons (.bin .Sub (.loc 3) (.con (.int 1))) (.cons (.con (.int 0)) .nil)))))
    .nil) .nil)
    (.cons (.ifs (.cmp .Eq (.loc 1) (.con (.str [45]))) (.cons (.ret (.tup (.cons (.con (.str [109, 105, 110, 117, 115])) (.cons (.loc 3) (.cons (.con (.int 0)) .nil)))))
    .nil) .nil)
    (.cons (.ifs (.cmp .Eq (.loc 1) (.con (.str [48]))) (.cons (.ret (.tup (.cons (.con (.str [122, 101, 114, 111])) (.cons (.loc 3) (.cons (.con (.int 0)) .nil)))))
    .nil) .nil)
    (.cons (.ifs (.cmp .In (.loc 1) (.con (.str [49, 50, 51, 52, 53, 54, 55, 56, 57]))) (.cons (.ret (.tup (.cons (.con (.str [100, 105, 103, 105, 116, 115])) (.cons (.loc 3) (.cons (.con (.int 1)) .nil)))))
    .nil) .nil)
    (.cons (.ifs (.cmp .In (.loc 1) (.con (.str [97, 98, 99, 100, 101, 102, 103, 104, 105, 106, 107, 108, 109, 110, 111, 112, 113, 114, 115, 116, 117, 118, 119, 120, 121, 122]))) (.cons (.ret (.tup (.cons (.con (.str [119, 111, 114, 100])) (.cons (.loc 3) (.cons (.con (.int 1)) .nil)))))
    .nil) .nil)
    (.cons (.ret (.con .non))
    .nil))))))) .nil)
    (.cons (.ifs (.cmp .Eq (.loc 2) (.con (.str [109, 105, 110, 117, 115]))) (.cons (.ret (.ite (.cmp .In (.loc 1) (.con (.str [49, 50, 51, 52, 53, 54, 55, 56, 57]))) (.tup (.cons (.con (.str [100, 105, 103, 105, 116, 115])) (.cons (.loc 3) (.cons (.con (.int 1)) .nil)))) (.con .non)))
    .nil) .nil)
    (.cons (.ifs (.and (.cons (.cmp .Eq (.loc 2) (.con (.str [119, 111, 114, 100]))) (.cons (.cmp .Lt (.loc 4) (.con (.int 20))) (.cons (.cmp .In (.loc 1) (.con (.str [97, 98, 99, 100, 101, 102, 103, 104, 105, 106, 107, 108, 109, 110, 111, 112, 113, 114, 115, 116, 117, 118, 119, 120, 121, 122]))) .nil)))) (.cons (.ret (.tup (.cons (.con (.str [119, 111, 114, 100])) (.cons (.loc 3) (.cons (.bin .Add (.loc 4) (.con (.int 1))) .nil)))))
    .nil) .nil)
    (.cons (.ifs (.and (.cons (.cmp .Eq (.loc 2) (.con (.str [100, 105, 103, 105, 116, 115]))) (.cons (.cmp .Lt (.loc 4) (.con (.int 200))) (.cons (.cmp .In (.loc 1) (.con (.str [48, 49, 50, 51, 52, 53, 54, 55, 56, 57]))) .nil)))) (.cons (.ret (.tup (.cons (.con (.str [100, 105, 103, 105, 116, 115])) (.cons (.loc 3) (.cons (.bin .Add (.loc 4) (.con (.int 1))) .nil)))))
    .nil) .nil)
    (.cons (.ifs (.and (.cons (.cmp .Eq (.loc 1) (.con (.str [32]))) (.cons (.cmp .Gt (.loc 3) (.con (.int 0))) .nil))) (.cons (.ret (.tup (.cons (.con (.str [115, 116, 97, 114, 116])) (.cons (.loc 3) (.cons (.con (.int 0)) .nil)))))
    .nil) .nil)
    (.cons (.ifs (.and (.cons (.cmp .Eq (.loc 1) (.con (.str [41]))) (.cons (.cmp .Gt (.loc 3) (.con (.int 0))) .nil))) (.cons (.ret (.tup (.cons (.con (.str [97, 102, 116, 101, 114])) (.cons (.bin .Sub (.loc 3) (.con (.int 1))) (.cons (.con (.int 0)) .nil)))))
    .nil) .nil)
    (.cons (.ret (.con .non))
    .nil))))))))))
def d__law_step : DfD := ⟨"_law_step", top 21, ["_law_state", "_law_sign", "_law_mode", "_law_depth", "_law_run"], ⟨2, 5, b__law_step⟩⟩
-- 0 _law_state, 1 _law_sign, 2 _law_mode, 3 _law_depth, 4 _law_run
def b__law_due : FSs :=
    (.cons (.asg 1 (.tup (.cons (.con (.str [115, 116, 97, 114, 116])) (.cons (.con (.int 0)) (.cons (.con (.int 0)) .nil)))))
    (.cons (.fr (.nm 2) (.range1 (.blt .len (.cons (.loc 0) .nil))) (.cons (.asg 1 (.call 10 (.cons (.loc 1) (.cons (.idx (.loc 0) (.loc 2)) .nil))))
    (.cons (.ifs (.cmp .Is (.loc 1) (.con .non)) (.cons (.ret (.loc 2))
    .nil) .nil)
    .nil)))
    (.cons (.ifs (.and (.cons (.cmp .Eq (.idx (.loc 1) (.con (.int 1))) (.con (.int 0))) (.cons (.cmp .In (.idx (.loc 1) (.con (.int 0))) (.tup (.cons (.con (.str [119, 111, 114, 100])) (.cons (.con (.str [100, 105, 103, 105, 116, 115])) (.cons (.con (.str [122, 101, 114, 111])) (.cons (.con (.str [97, 102, 116, 101, 114])) .nil)))))) .nil))) (.cons (.ret (.con .non))
    .nil) .nil)
    (.cons (.ret (.blt .len (.cons (.loc 0) .nil)))
    .nil))))
def d__law_due : DfD := ⟨"_law_due", top 22, ["_law_text", "_law_state", "_law_at"], ⟨1, 3, b__law_due⟩⟩
-- 0 _law_text, 1 _law_state, 2 _law_at
def b__law_spoilt : FSs :=
    (.cons (.asg 2 (.con (.str [40, 41, 32, 45, 48, 49, 55, 57, 97, 122, 65, 43, 44, 10])))
    (.cons (.asg 3 (.bin .Mod (.blt .int (.cons (.loc 1) .nil)) (.con (.int 6))))
    (.cons (.asg 4 (.bin .Mod (.bin .FloorDiv (.blt .int (.cons (.loc 1) .nil)) (.con (.int 6))) (.bin .Add (.blt .len (.cons (.loc 0) .nil)) (.con (.int 1)))))
    (.cons (.asg 5 (.idx (.loc 2) (.bin .Mod (.bin .FloorDiv (.blt .int (.cons (.loc 1) .nil)) (.con (.int 7))) (.con (.int 14)))))
    (.cons (.ifs (.cmp .Eq (.loc 3) (.con (.int 0))) (.cons (.ret (.bin .Add (.bin .Add (.cutH (.loc 0) (.loc 4)) (.loc 5)) (.cutL (.loc 0) (.loc 4))))
    .nil) .nil)
    (.cons (.ifs (.cmp .Eq (.loc 3) (.con (.int 1))) (.cons (.ret (.bin .Add (.cutH (.loc 0) (.loc 4)) (.cutL (.loc 0) (.bin .Add (.loc 4) (.con (.int 1))))))
    .nil) .nil)
    (.cons (.ifs (.cmp .Eq (.loc 3) (.con (.int 2))) (.cons (.ret (.bin .Add (.bin .Add (.cutH (.loc 0) (.loc 4)) (.loc 5)) (.cutL (.loc 0) (.bin .Add (.loc 4) (.con (.int 1))))))
    .nil) .nil)
    (.cons (.ifs (.cmp .Eq (.loc 3) (.con (.int 3))) (.cons (.ret (.cutH (.loc 0) (.loc 4)))
    .nil) .nil)
    (.cons (.ifs (.cmp .Eq (.loc 3) (.con (.int 4))) (.cons (.ret (.bin .Add (.cutH (.loc 0) (.bin .Add (.loc 4) (.con (.int 1)))) (.cutL (.loc 0) (.loc 4))))
    .nil) .nil)
    (.cons (.ret (.bin .Add (.loc 0) (.loc 5)))
    .nil))))))))))
def d__law_spoilt : DfD := ⟨"_law_spoilt", top 23, ["_law_text", "_law_cell_here", "_law_signs", "_law_way", "_law_place", "_law_sign"], ⟨2, 6, b__law_spoilt⟩⟩
-- 0 _law_text, 1 _law_cell_here, 2 _law_signs, 3 _law_way, 4 _law_place, 5 _law_sign
def b__law_read_as_due : FSs :=
    (.cons (.asg 1 (.call 11 (.cons (.loc 0) .nil)))
    (.cons (.tr (.cons (.asg 3 (.call 3 (.cons (.loc 0) .nil)))
    .nil) (.cons 0 none (.cons (.ret (.con (.bl false)))
    .nil) (.cons 1 (some 2) (.cons (.asg 4 (.xfld 2 1))
    (.cons (.ret (.and (.cons (.cmp .IsNot (.loc 1) (.con .non)) (.cons (.isi (.loc 4) .tInt) (.cons (.not (.isi (.loc 4) .tBool)) (.cons (.cmp .Eq (.loc 4) (.loc 1)) .nil))))))
    .nil)) .nil)))
    (.cons (.ret (.and (.cons (.cmp .Is (.loc 1) (.con .non)) (.cons (.cmp .Eq (.call 8 (.cons (.loc 3) .nil)) (.loc 0)) (.cons (.call 9 (.cons (.call 3 (.cons (.call 8 (.cons (.loc 3) .nil)) .nil)) (.cons (.loc 3) .nil))) .nil)))))
    .nil)))
def d__law_read_as_due : DfD := ⟨"_law_read_as_due", top 24, ["_law_text", "_law_due_here", "e", "_law_value_here", "_law_at"], ⟨1, 5, b__law_read_as_due⟩⟩
-- 0 _law_text, 1 _law_due_here, 2 e, 3 _law_value_here, 4 _law_at
def b_law : FSs :=
    (.cons (.asg 1 (.call 7 (.cons (.loc 0) .nil)))
    (.cons (.asg 2 (.call 0 (.cons (.loc 1) .nil)))
    (.cons (.ifs (.or (.cons (.not (.isi (.loc 2) .tStr)) (.cons (.cmp .NotEq (.loc 2) (.call 8 (.cons (.loc 1) .nil))) .nil))) (.cons (.ret (.con (.bl false)))
    .nil) .nil)
    (.cons (.ifs (.not (.call 9 (.cons (.call 3 (.cons (.loc 2) .nil)) (.cons (.loc 1) .nil)))) (.cons (.ret (.con (.bl false)))
    .nil) .nil)
    (.cons (.asg 3 (.lst (.cons (.con (.str [])) (.cons (.con (.str [40])) (.cons (.con (.str [41])) (.cons (.con (.str [45])) (.cons (.con (.str [45, 48])) (.cons (.con (.str [48, 48])) (.cons (.con (.str [40, 32, 41])) (.cons (.con (.str [40, 41])) (.cons (.con (.str [40, 49, 32, 41])) (.cons (.con (.str [49, 32])) (.cons (.con (.str [32, 49])) (.cons (.con (.str [97, 49])) (.cons (.con (.str [49, 97])) (.cons (.con (.str [40, 49, 32, 32, 50, 41])) (.cons (.con (.str [40, 41, 41])) .nil)))))))))))))))))
    (.cons (.asg 4 (.lst (.cons (.idx (.loc 3) (.bin .Mod (.blt .int (.cons (.call 4 (.cons (.loc 0) (.cons (.con (.int 0)) .nil))) .nil)) (.con (.int 15)))) (.cons (.bin .Add (.bin .Mult (.con (.str [40])) (.con (.int 101))) (.bin .Mult (.con (.str [41])) (.con (.int 101)))) (.cons (.bin .Add (.bin .Mult (.con (.str [40])) (.con (.int 100))) (.bin .Mult (.con (.str [41])) (.con (.int 100)))) .nil)))))
    (.cons (.fr (.nm 5) (.range1 (.con (.int 3))) (.cons (.expr (.mth .append (.loc 4) (.cons (.call 12 (.cons (.loc 2) (.cons (.bin .Add (.bin .Add (.bin .FloorDiv (.blt .abs (.cons (.call 4 (.cons (.loc 0) (.cons (.bin .Sub (.con (.int 61)) (.loc 5)) .nil))) .nil)) (.con (.int 5))) (.bin .Mult (.con (.int 11)) (.loc 5))) (.blt .len (.cons (.loc 0) .nil))) .nil))) .nil)))
    .nil))
    (.cons (.fr (.nm 5) (.range1 (.con (.int 2))) (.cons (.expr (.mth .append (.loc 4) (.cons (.call 12 (.cons (.idx (.loc 4) (.bin .Add (.con (.int 3)) (.loc 5))) (.cons (.bin .FloorDiv (.blt .abs (.cons (.call 4 (.cons (.loc 0) (.cons (.loc 5) .nil))) .nil)) (.con (.int 9))) .nil))) .nil)))
    .nil))
    (.cons (.fr (.nm 6) (.seq (.loc 4)) (.cons (.ifs (.not (.call 13 (.cons (.loc 6) .nil))) (.cons (.ret (.con (.bl false)))
    .nil) .nil)
    .nil))
    (.cons (.tr (.cons (.expr (.call 3 (.cons (.bin .Mult (.con (.str [40])) (.con (.int 101))) .nil)))
    .nil) (.cons 2 (some 7) (.cons (.ret (.and (.cons (.xisi 7 [3]) (.cons (.xisi 7 [1]) (.cons (.not (.xisi 7 [0])) (.cons (.cmp .Eq (.xfld 7 1) (.con (.int 100))) .nil))))))
    .nil) .nil))
    (.cons (.ret (.con (.bl false)))
    .nil)))))))))))
def d_law : DfD := ⟨"law", top 25, ["_law_script", "_law_value_here", "_law_text", "_law_fixed", "_law_texts", "_law_k", "_law_spoilt_here", "e"], ⟨1, 8, b_law⟩⟩
-- 0 _law_script, 1 _law_value_here, 2 _law_text, 3 _law_fixed, 4 _law_texts, 5 _law_k, 6 _law_spoilt_here, 7 e
def L : LawD where
  file := "/claim/cut.py"
  defs := [d_value_text, d_run_end, d_read_plain, d_read_value, d__law_cell, d__law_draws, d__law_word, d__law_value, d__law_write, d__law_same, d__law_step, d__law_due, d__law_spoilt, d__law_read_as_due, d_law]
  errs := [⟨"BadName", sub (top 2) 0, ["self", "name"], ["name"], [0]⟩, ⟨"BadText", sub (top 3) 0, ["self", "at"], ["at"], [1]⟩]
  more := [("BookError", none), ("ValueError", some "ValueError")]
  cons := [("LETTERS", .str [97, 98, 99, 100, 101, 102, 103, 104, 105, 106, 107, 108, 109, 110, 111, 112, 113, 114, 115, 116, 117, 118, 119, 120, 121, 122]), ("DIGITS", .str [48, 49, 50, 51, 52, 53, 54, 55, 56, 57]), ("LONGEST_WORD", .int (20)), ("LONGEST_NUMBER", .int (200)), ("DEEPEST", .int (100))]
  fld := ["name", "at"]
  sub := [[0, 2, 3], [1, 2, 3]]
theorem stat : L.stat = true := by decide +kernel
theorem nd : L.fld.Nodup := by decide +kernel
theorem bnd : All BindN L.defs :=
  (.cons (fun _ _ _ _ _ _ us hl => match us, hl with | [_], _ => rfl)
  (.cons (fun _ _ _ _ _ _ us hl => match us, hl with | [_, _, _, _], _ => rfl)
  (.cons (fun _ _ _ _ _ _ us hl => match us, hl with | [_, _], _ => rfl)
  (.cons (fun _ _ _ _ _ _ us hl => match us, hl with | [_], _ => rfl)
  (.cons (fun _ _ _ _ _ _ us hl => match us, hl with | [_, _], _ => rfl)
  (.cons (fun _ _ _ _ _ _ us hl => match us, hl with | [_, _], _ => rfl)
  (.cons (fun _ _ _ _ _ _ us hl => match us, hl with | [_], _ => rfl)
  (.cons (fun _ _ _ _ _ _ us hl => match us, hl with | [_], _ => rfl)
  (.cons (fun _ _ _ _ _ _ us hl => match us, hl with | [_], _ => rfl)
  (.cons (fun _ _ _ _ _ _ us hl => match us, hl with | [_, _], _ => rfl)
  (.cons (fun _ _ _ _ _ _ us hl => match us, hl with | [_, _], _ => rfl)
  (.cons (fun _ _ _ _ _ _ us hl => match us, hl with | [_], _ => rfl)
  (.cons (fun _ _ _ _ _ _ us hl => match us, hl with | [_, _], _ => rfl)
  (.cons (fun _ _ _ _ _ _ us hl => match us, hl with | [_], _ => rfl)
  (.cons (fun _ _ _ _ _ _ us hl => match us, hl with | [_], _ => rfl) .nil)))))))))))))))
theorem bni : All BindI L.errs :=
  (.cons (fun _ _ _ _ _ _ _ us hl => match us, hl with | [_, _], _ => rfl)
  (.cons (fun _ _ _ _ _ _ _ us hl => match us, hl with | [_, _], _ => rfl) .nil))
def lawIx : Nat := 14
def lawTop : Nat := 25
def loose : List PySem.Str := (["BookError", "BadName", "BadText", "LETTERS", "DIGITS", "LONGEST_WORD", "LONGEST_NUMBER", "DEEPEST", "value_text", "run_end", "read_plain", "read_value", "_law_cell", "_law_draws", "_law_word", "_law_value", "_law_write", "_law_same", "_law_step", "_law_due", "_law_spoilt", "_law_read_as_due"] : List PySem.Str)
end K00
set_option Elab.async false
set_option linter.all false
set_option autoImplicit false
set_option maxRecDepth 100000
set_option maxHeartbeats 0
namespace K00
open PySem PySem.Spec PyProof.Rows L2 Fx
abbrev rowH : PySem.W.OpenRow := PySem.W.OpenLaw.row PySem.Challenge.rw_papersorliars_k00_value_texts
abbrev hk : PySem.W.Hook := L.hook 5
def ob (s : PySem.W.SharedT) : AlF := L.obsG 5 (HandSHeadRun.getT s)
theorem ob_eq (s : PySem.W.SharedT) : ob s = hk.obs s.abs := LawD.obs_eq L (HandSHeadRun.getT_eq s)
theorem run (w : World) : HandSHeadRun.RunEq rowH (PySem.W.view rowH.prog [lawTop]) hk ob 4000 loose w := by
  intro os
  kernel_rfl
end K00
set_option Elab.async false
set_option linter.all false
set_option autoImplicit false
set_option maxRecDepth 100000
set_option maxHeartbeats 4000000
/-! FxV: the evaluator's equations, for plain proofs. -/
namespace Fx
open PySem (Operator CmpOp)
section
variable (G : Glob) (cl : Orac) (xc : Xc) (ρ : Env) (S : Store)
def getL (ρ : Env) (i : Nat) (S : Store) : R D := match ρ[i]? with
  | some (some d) => .ok d S
  | _ => .stuck
@[simp] theorem getL_0 (d : D) (r : Env) : getL (some d :: r) 0 S = .ok d S := rfl
@[simp] theorem getL_s (a : Option D) (r : Env) (i : Nat) : getL (a :: r) (i + 1) S = getL r i S := rfl
@[simp] theorem getL_1 (a : Option D) (r : Env) : getL (a :: r) 1 S = getL r 0 S := rfl
@[simp] theorem getL_2 (a : Option D) (r : Env) : getL (a :: r) 2 S = getL r 1 S := rfl
@[simp] theorem getL_3 (a : Option D) (r : Env) : getL (a :: r) 3 S = getL r 2 S := rfl
@[simp] theorem getL_4 (a : Option D) (r : Env) : getL (a :: r) 4 S = getL r 3 S := rfl
@[simp] theorem getL_5 (a : Option D) (r : Env) : getL (a :: r) 5 S = getL r 4 S := rfl
@[simp] theorem getL_6 (a : Option D) (r : Env) : getL (a :: r) 6 S = getL r 5 S := rfl
@[simp] theorem getL_7 (a : Option D) (r : Env) : getL (a :: r) 7 S = getL r 6 S := rfl
@[simp] theorem getL_8 (a : Option D) (r : Env) : getL (a :: r) 8 S = getL r 7 S := rfl
@[simp] theorem getL_9 (a : Option D) (r : Env) : getL (a :: r) 9 S = getL r 8 S := rfl
@[simp] theorem getL_10 (a : Option D) (r : Env) : getL (a :: r) 10 S = getL r 9 S := rfl
@[simp] theorem getL_11 (a : Option D) (r : Env) : getL (a :: r) 11 S = getL r 10 S := rfl
@[simp] theorem getL_12 (a : Option D) (r : Env) : getL (a :: r) 12 S = getL r 11 S := rfl
/-! values -/
@[simp] theorem v_loc (i : Nat) : (ev G cl xc (.loc i)).v ρ S = getL ρ i S := rfl
@[simp] theorem v_con (c : D) : (ev G cl xc (.con c)).v ρ S = .ok c S := rfl
@[simp] theorem v_glo (k : Nat) : (ev G cl xc (.glo k)).v ρ S = optR G.consts[k]? S := rfl
@[simp] theorem v_bin (op : Operator) (a b : FE) : (ev G cl xc (.bin op a b)).v ρ S = ((ev G cl xc a).v ρ S).bind fun x S1 => ((ev G cl xc b).v ρ S1).bind fun y S2 => binop op x y S2 := rfl
@[simp] theorem v_neg (a : FE) : (ev G cl xc (.neg a)).v ρ S = ((ev G cl xc a).v ρ S).bind fun x S1 => (match x with
    | .int i => .ok (.int (-i)) S1
    | _ => .stuck) := rfl
@[simp] theorem v_not (a : FE) : (ev G cl xc (.not a)).v ρ S = ((ev G cl xc a).v ρ S).bind fun x S1 => optR ((truth S1 x).map fun b => .bl (!b)) S1 := rfl
@[simp] theorem v_and (es : FEs) : (ev G cl xc (.and es)).v ρ S = (evs G cl xc es).andV ρ S := rfl
@[simp] theorem v_or (es : FEs) : (ev G cl xc (.or es)).v ρ S = (evs G cl xc es).orV ρ S := rfl
@[simp] theorem v_cmp (op : CmpOp) (a b : FE) : (ev G cl xc (.cmp op a b)).v ρ S = ((ev G cl xc a).v ρ S).bind fun x S1 => ((ev G cl xc b).v ρ S1).bind fun y S2 => optR ((cmpop op x y S2).map .bl) S2 := rfl
@[simp] theorem v_ite (c a b : FE) : (ev G cl xc (.ite c a b)).v ρ S = ((ev G cl xc c).t ρ S).bind fun k S1 => if k then (ev G cl xc a).v ρ S1 else (ev G cl xc b).v ρ S1 := rfl
@[simp] theorem v_tup (es : FEs) : (ev G cl xc (.tup es)).v ρ S = ((evs G cl xc es).vs ρ S).bind fun ds S1 => if ds.length ≤ line then .ok (.tup ds) S1 else .stuck := rfl
@[simp] theorem v_lst (es : FEs) : (ev G cl xc (.lst es)).v ρ S = ((evs G cl xc es).vs ρ S).bind fun ds S1 => if ds.length ≤ line then .ok (.ref S1.length) (S1 ++ [.lst ds]) else .stuck := rfl
@[simp] theorem v_blt (b : Blt) (es : FEs) : (ev G cl xc (.blt b es)).v ρ S = ((evs G cl xc es).vs ρ S).bind fun ds S1 => bltF b ds S1 := rfl
@[simp] theorem v_mth (m : Mth) (o : FE) (es : FEs) : (ev G cl xc (.mth m o es)).v ρ S = ((ev G cl xc o).v ρ S).bind fun x S1 => if mOk m S1 x then ((evs G cl xc es).vs ρ S1).bind fun ds S2 => mthF m x ds S2 else .stuck := rfl
@[simp] theorem v_call (f : Nat) (es : FEs) : (ev G cl xc (.call f es)).v ρ S = ((evs G cl xc es).vs ρ S).bind fun ds S1 => cl f ds S1 := rfl
@[simp] theorem v_idx (o i : FE) : (ev G cl xc (.idx o i)).v ρ S = ((ev G cl xc o).v ρ S).bind fun x S1 => ((ev G cl xc i).v ρ S1).bind fun y S2 => optR (idxD S2 x y) S2 := rfl
@[simp] theorem v_cut (o lo hi : FE) : (ev G cl xc (.cut o lo hi)).v ρ S = ((ev G cl xc o).v ρ S).bind fun x S1 => (partV (ev G cl xc lo).v ρ S1).bind fun i S2 => (partV (ev G cl xc hi).v ρ S2).bind fun j S3 => cutD S3 x i j := rfl
@[simp] theorem v_cutL (o lo : FE) : (ev G cl xc (.cutL o lo)).v ρ S = ((ev G cl xc o).v ρ S).bind fun x S1 => (partV (ev G cl xc lo).v ρ S1).bind fun i S2 => cutD S2 x i none := rfl
@[simp] theorem v_cutH (o hi : FE) : (ev G cl xc (.cutH o hi)).v ρ S = ((ev G cl xc o).v ρ S).bind fun x S1 => (partV (ev G cl xc hi).v ρ S1).bind fun j S2 => cutD S2 x none j := rfl
@[simp] theorem v_isi (o : FE) (c : Ty) : (ev G cl xc (.isi o c)).v ρ S = ((ev G cl xc o).v ρ S).bind fun x S1 => optR ((kindD S1 x).map fun k => .bl (isTy k c)) S1 := rfl
@[simp] theorem v_lc (own : List Nat) (tg : FT) (src : FI) (cs : FEs) (elt : FE) : (ev G cl xc (.lc own tg src cs elt)).v ρ S = ((evi G cl xc src ρ S).bind fun p S1 =>
      (lcLoop (lcTurn own tg ρ (evs G cl xc cs).ts (ev G cl xc elt).v) (same p.2 S1) p.1 [] S1).noex.bind fun ys S2 => .ok (.ref S2.length) (S2 ++ [.lst ys])) := rfl
@[simp] theorem v_xfld (i f : Nat) : (ev G cl xc (.xfld i f)).v ρ S = (match xc, ρ[i]? with
    | some (_, fs), some none => optR (fs.lookup f) S
    | _, _ => .stuck) := rfl
@[simp] theorem v_xisi (i : Nat) (cs : List Nat) : (ev G cl xc (.xisi i cs)).v ρ S = (match xc, ρ[i]? with
    | some (C, _), some none => .ok (.bl (cs.any fun c => (G.sub.getD C []).contains c)) S
    | _, _ => .stuck) := rfl
/-! tests -/
def tst (r : R D) : R Bool := r.bind fun x S1 => optR (truth S1 x) S1
@[simp] theorem tst_ok (d : D) : tst (.ok d S) = optR (truth S d) S := rfl
@[simp] theorem t_loc (i : Nat) : (ev G cl xc (.loc i)).t ρ S = tst ((ev G cl xc (.loc i)).v ρ S) := rfl
@[simp] theorem t_con (c : D) : (ev G cl xc (.con c)).t ρ S = tst (.ok c S) := rfl
@[simp] theorem t_cmp (op : CmpOp) (a b : FE) : (ev G cl xc (.cmp op a b)).t ρ S = tst ((ev G cl xc (.cmp op a b)).v ρ S) := rfl
@[simp] theorem t_call (f : Nat) (es : FEs) : (ev G cl xc (.call f es)).t ρ S = tst ((ev G cl xc (.call f es)).v ρ S) := rfl
@[simp] theorem t_isi (o : FE) (c : Ty) : (ev G cl xc (.isi o c)).t ρ S = tst ((ev G cl xc (.isi o c)).v ρ S) := rfl
@[simp] theorem t_not (a : FE) : (ev G cl xc (.not a)).t ρ S = ((ev G cl xc a).t ρ S).bind fun k S1 => .ok (!k) S1 := rfl
@[simp] theorem t_and (es : FEs) : (ev G cl xc (.and es)).t ρ S = (evs G cl xc es).andT ρ S := rfl
@[simp] theorem t_or (es : FEs) : (ev G cl xc (.or es)).t ρ S = (evs G cl xc es).orT ρ S := rfl
/-! lists of expressions -/
@[simp] theorem vs_nil : (evs G cl xc .nil).vs ρ S = .ok [] S := rfl
@[simp] theorem vs_cons (e : FE) (es : FEs) : (evs G cl xc (.cons e es)).vs ρ S = ((ev G cl xc e).v ρ S).bind fun x S1 => ((evs G cl xc es).vs ρ S1).bind fun xs S2 => .ok (x :: xs) S2 := rfl
@[simp] theorem andT_1 (e : FE) : (evs G cl xc (.cons e .nil)).andT ρ S = (ev G cl xc e).t ρ S := rfl
@[simp] theorem andT_2 (e e2 : FE) (es : FEs) : (evs G cl xc (.cons e (.cons e2 es))).andT ρ S = ((ev G cl xc e).t ρ S).bind fun k S1 => if k then (evs G cl xc (.cons e2 es)).andT ρ S1 else .ok false S1 := rfl
@[simp] theorem orT_1 (e : FE) : (evs G cl xc (.cons e .nil)).orT ρ S = (ev G cl xc e).t ρ S := rfl
@[simp] theorem orT_2 (e e2 : FE) (es : FEs) : (evs G cl xc (.cons e (.cons e2 es))).orT ρ S = ((ev G cl xc e).t ρ S).bind fun k S1 => if k then .ok true S1 else (evs G cl xc (.cons e2 es)).orT ρ S1 := rfl
def andR (r : R D) (f : Store → R D) : R D := r.bind fun x S1 => (match x with
  | .bl true => f S1
  | .bl false => .ok (.bl false) S1
  | _ => .stuck)
def orR (r : R D) (f : Store → R D) : R D := r.bind fun x S1 => (match x with
  | .bl false => f S1
  | .bl true => .ok (.bl true) S1
  | _ => .stuck)
@[simp] theorem andR_t (f : Store → R D) : andR (.ok (.bl true) S) f = f S := rfl
@[simp] theorem andR_f (f : Store → R D) : andR (.ok (.bl false) S) f = .ok (.bl false) S := rfl
@[simp] theorem orR_t (f : Store → R D) : orR (.ok (.bl true) S) f = .ok (.bl true) S := rfl
@[simp] theorem orR_f (f : Store → R D) : orR (.ok (.bl false) S) f = f S := rfl
@[simp] theorem andR_b (f : Store → R D) (b : Bool) : andR (.ok (.bl b) S) f = if b then f S else .ok (.bl false) S := by cases b <;> rfl
@[simp] theorem orR_b (f : Store → R D) (b : Bool) : orR (.ok (.bl b) S) f = if b then .ok (.bl true) S else f S := by cases b <;> rfl
@[simp] theorem andV_1 (e : FE) : (evs G cl xc (.cons e .nil)).andV ρ S = (ev G cl xc e).v ρ S := rfl
@[simp] theorem andV_2 (e e2 : FE) (es : FEs) : (evs G cl xc (.cons e (.cons e2 es))).andV ρ S = andR ((ev G cl xc e).v ρ S) fun S1 => (evs G cl xc (.cons e2 es)).andV ρ S1 := rfl
@[simp] theorem orV_1 (e : FE) : (evs G cl xc (.cons e .nil)).orV ρ S = (ev G cl xc e).v ρ S := rfl
@[simp] theorem orV_2 (e e2 : FE) (es : FEs) : (evs G cl xc (.cons e (.cons e2 es))).orV ρ S = orR ((ev G cl xc e).v ρ S) fun S1 => (evs G cl xc (.cons e2 es)).orV ρ S1 := rfl
@[simp] theorem ts_0 : (evs G cl xc .nil).ts ρ S = .ok true S := rfl
@[simp] theorem ts_1 (e : FE) : (evs G cl xc (.cons e .nil)).ts ρ S = (ev G cl xc e).t ρ S := rfl
def rangeI (r : R D) : R (List D × Option Nat) := r.bind fun x S1 => (match x with
    | .int j => if small j then .ok (rangeD 0 j, none) S1 else .stuck
    | _ => .stuck)
@[simp] theorem rangeI_int {j : Int} {S : Store} (h : small j = true) : rangeI (.ok (.int j) S) = .ok (rangeD 0 j, none) S := by
  unfold rangeI
  show (if small j = true then _ else _) = _
  rw [if_pos h]
@[simp] theorem i_range1 (a : FE) : evi G cl xc (.range1 a) ρ S = rangeI ((ev G cl xc a).v ρ S) := rfl
def rangeJ (r : R D) (q : Store → R D) : R (List D × Option Nat) := r.bind fun x S1 => (q S1).bind fun y S2 => (match x, y with
    | .int i, .int j => if small i && small j then .ok (rangeD i j, none) S2 else .stuck
    | _, _ => .stuck)
theorem rangeJ_int {i j : Int} {S S2 : Store} {q : Store → R D} (h : small i = true) (e : q S = .ok (.int j) S2) (h2 : small j = true) : rangeJ (.ok (.int i) S) q = .ok (rangeD i j, none) S2 := by
  unfold rangeJ
  show (q S).bind _ = _
  rw [e]
  show (if (small i && small j) = true then _ else _) = _
  rw [if_pos (by rw [h, h2]; rfl)]
@[simp] theorem i_range2 (a b : FE) : evi G cl xc (.range2 a b) ρ S = rangeJ ((ev G cl xc a).v ρ S) fun S1 => (ev G cl xc b).v ρ S1 := rfl
def seqI (r : R D) : R (List D × Option Nat) := r.bind fun x S1 => (match x with
    | .tup xs => .ok (xs, none) S1
    | .ref n => (match lstOf S1 n with
      | some xs => .ok (xs, some n) S1
      | none => .stuck)
    | _ => .stuck)
@[simp] theorem seqI_tup (xs : List D) : seqI (.ok (.tup xs) S) = .ok (xs, none) S := rfl
@[simp] theorem i_seq (e : FE) : evi G cl xc (.seq e) ρ S = seqI ((ev G cl xc e).v ρ S) := rfl
@[simp] theorem partV_ok (f : Env → Store → R D) : partV f ρ S = (f ρ S).bind fun y S2 => (optR (intOf y) S2).bind fun i S3 => .ok (some i) S3 := rfl
/-! statements -/
def trK (G : Glob) (cl : Orac) (hs : FHs) (r : SR) : SR := match r with
  | .exn C fs ρ' S' => if C < G.exc.length then exh G cl hs C fs ρ' S' else .stuck
  | r => r
def calmK (r : SR) : SR := r.calm
def goneK (i : Nat) (r : SR) : SR := r.gone i
/-- what follows, under names that simp leaves alone until the head is known -/
def seqK (G : Glob) (cl : Orac) (xc : Xc) (ss : FSs) (r : SR) : SR := r.bind fun ρ' S' => exs G cl ss xc ρ' S'
def ifK (G : Glob) (cl : Orac) (xc : Xc) (t e : FSs) (ρ : Env) (r : R Bool) : SR := r.toS ρ fun k S1 => if k then exs G cl t xc ρ S1 else exs G cl e xc ρ S1
/-- the body of a for loop, under a name that simp leaves alone -/
def frB (G : Glob) (cl : Orac) (tg : FT) (b : FSs) (xc : Xc) : D → Env → Store → SR := fun d ρ S => (match asgT ρ tg d with
  | some ρ' => exs G cl b xc ρ' S
  | none => .stuck)
def setN (ρ : Env) (i : Nat) (d : D) (S : Store) : SR := match asgN ρ i d with
  | some ρ' => .nx ρ' S
  | none => .stuck
def setTs (ρ : Env) (is : List Nat) (d : D) (S : Store) : SR := match asgT ρ (.tp is) d with
  | some ρ' => .nx ρ' S
  | none => .stuck
def augR (ρ : Env) (op : Operator) (i : Nat) (e : Store → R D) (S : Store) : SR := match ρ[i]? with
    | some (some x) => (tidy S (e S)).toS ρ fun y S1 => (augop op x y S1).toS ρ fun z S2 => setN ρ i z S2
    | _ => .stuck
@[simp] theorem s_asg_ (i : Nat) (e : FE) : ex G cl (.asg i e) xc ρ S = (tidy S ((ev G cl xc e).v ρ S)).toS ρ fun d S1 => setN ρ i d S1 := Eq.trans rfl rfl
@[simp] theorem s_asgT_ (is : List Nat) (e : FE) : ex G cl (.asgT is e) xc ρ S = (tidy S ((ev G cl xc e).v ρ S)).toS ρ fun d S1 => setTs ρ is d S1 := Eq.trans rfl rfl
@[simp] theorem s_aug_ (i : Nat) (op : Operator) (e : FE) : ex G cl (.aug i op e) xc ρ S = augR ρ op i (fun S => (ev G cl xc e).v ρ S) S := Eq.trans rfl rfl
@[simp] theorem s_expr_ (e : FE) : ex G cl (.expr e) xc ρ S = (tidy S ((ev G cl xc e).v ρ S)).toS ρ fun _ S1 => .nx ρ S1 := Eq.trans rfl rfl
@[simp] theorem s_ret_ (e : FE) : ex G cl (.ret e) xc ρ S = (tidy S ((ev G cl xc e).v ρ S)).toS ρ fun d S1 => .ret d S1 := Eq.trans rfl rfl
@[simp] theorem s_ifs_ (c : FE) (t e : FSs) : ex G cl (.ifs c t e) xc ρ S = ifK G cl xc t e ρ (tidyB S ((ev G cl xc c).t ρ S)) := Eq.trans rfl rfl
@[simp] theorem ifK_ok (t e : FSs) (k : Bool) : ifK G cl xc t e ρ (.ok k S) = if k = true then exs G cl t xc ρ S else exs G cl e xc ρ S := Eq.trans rfl rfl
@[simp] theorem ifK_exn (t e : FSs) (C : Nat) (fs : List (Nat × D)) : ifK G cl xc t e ρ (.exn C fs S) = .exn C fs ρ S := Eq.trans rfl rfl
@[simp] theorem s_whl_ (c : FE) (b e : FSs) : ex G cl (.whl c b e) xc ρ S = whlL (fun ρ S => tidyB S ((ev G cl xc c).t ρ S)) (exs G cl b xc) (exs G cl e xc) turns ρ S := Eq.trans rfl rfl
@[simp] theorem s_fr_ (tg : FT) (src : FI) (b : FSs) : ex G cl (.fr tg src b) xc ρ S = (evi G cl xc src ρ S).toS ρ fun p S1 => forL (frB G cl tg b xc) (same p.2 S1) p.1 ρ S1 := Eq.trans rfl rfl
@[simp] theorem s_brk_ : ex G cl .brk xc ρ S = .brk ρ S := Eq.trans rfl rfl
@[simp] theorem s_cnt_ : ex G cl .cnt xc ρ S = .cnt ρ S := Eq.trans rfl rfl
@[simp] theorem s_pass_ : ex G cl .pass xc ρ S = .nx ρ S := Eq.trans rfl rfl
@[simp] theorem ss_nil : exs G cl .nil xc ρ S = .nx ρ S := rfl
@[simp] theorem ss_cons (s : FS) (ss : FSs) : exs G cl (.cons s ss) xc ρ S = seqK G cl xc ss (ex G cl s xc ρ S) := Eq.trans rfl rfl
@[simp] theorem seqK_nx (ss : FSs) : seqK G cl xc ss (.nx ρ S) = exs G cl ss xc ρ S := Eq.trans rfl rfl
@[simp] theorem seqK_ret (ss : FSs) (d : D) : seqK G cl xc ss (.ret d S) = .ret d S := Eq.trans rfl rfl
@[simp] theorem seqK_brk (ss : FSs) : seqK G cl xc ss (.brk ρ S) = .brk ρ S := Eq.trans rfl rfl
@[simp] theorem seqK_cnt (ss : FSs) : seqK G cl xc ss (.cnt ρ S) = .cnt ρ S := Eq.trans rfl rfl
@[simp] theorem seqK_exn (ss : FSs) (C : Nat) (fs : List (Nat × D)) : seqK G cl xc ss (.exn C fs ρ S) = .exn C fs ρ S := Eq.trans rfl rfl
@[simp] theorem s_rais_ (C : Nat) (es : FEs) : ex G cl (.rais C es) xc ρ S = ((evs G cl xc es).vs ρ S).toS ρ fun ds S1 => (match G.exc[C]? with
    | some fs => if ds.length = fs.length then .exn C (fs.zip ds).reverse ρ S1 else .stuck
    | none => .stuck) := Eq.trans rfl rfl
@[simp] theorem s_tr_ (b : FSs) (hs : FHs) : ex G cl (.tr b hs) none ρ S = trK G cl hs (exs G cl b none ρ S) := Eq.trans rfl rfl
@[simp] theorem trK_nx (hs : FHs) : trK G cl hs (.nx ρ S) = .nx ρ S := Eq.trans rfl rfl
@[simp] theorem trK_ret (hs : FHs) (d : D) : trK G cl hs (.ret d S) = .ret d S := Eq.trans rfl rfl
@[simp] theorem trK_brk (hs : FHs) : trK G cl hs (.brk ρ S) = .brk ρ S := Eq.trans rfl rfl
@[simp] theorem trK_cnt (hs : FHs) : trK G cl hs (.cnt ρ S) = .cnt ρ S := Eq.trans rfl rfl
@[simp] theorem trK_exn (hs : FHs) (C : Nat) (fs : List (Nat × D)) : trK G cl hs (.exn C fs ρ S) = if C < G.exc.length then exh G cl hs C fs ρ S else .stuck := Eq.trans rfl rfl
@[simp] theorem h_nil (C : Nat) (fs : List (Nat × D)) : exh G cl .nil C fs ρ S = .exn C fs ρ S := Eq.trans rfl rfl
@[simp] theorem h_none (c C : Nat) (b : FSs) (hs : FHs) (fs : List (Nat × D)) : exh G cl (.cons c none b hs) C fs ρ S = if (G.sub.getD C []).contains c = true then calmK (exs G cl b (some (C, fs)) ρ S) else exh G cl hs C fs ρ S := Eq.trans rfl rfl
@[simp] theorem h_some (c C i : Nat) (b : FSs) (hs : FHs) (fs : List (Nat × D)) : exh G cl (.cons c (some i) b hs) C fs ρ S = if (G.sub.getD C []).contains c = true then goneK i (calmK (exs G cl b (some (C, fs)) (ρ.set i none) S)) else exh G cl hs C fs ρ S := Eq.trans rfl rfl
@[simp] theorem calm_nx : calmK (.nx ρ S) = .nx ρ S := Eq.trans rfl rfl
@[simp] theorem calm_ret (d : D) : calmK (.ret d S) = .ret d S := Eq.trans rfl rfl
@[simp] theorem calm_brk : calmK (.brk ρ S) = .brk ρ S := Eq.trans rfl rfl
@[simp] theorem calm_cnt : calmK (.cnt ρ S) = .cnt ρ S := Eq.trans rfl rfl
@[simp] theorem gone_nx (i : Nat) : goneK i (.nx ρ S) = .nx (ρ.set i none) S := Eq.trans rfl rfl
@[simp] theorem gone_ret (i : Nat) (d : D) : goneK i (.ret d S) = .ret d S := Eq.trans rfl rfl
@[simp] theorem gone_brk (i : Nat) : goneK i (.brk ρ S) = .brk (ρ.set i none) S := Eq.trans rfl rfl
@[simp] theorem gone_cnt (i : Nat) : goneK i (.cnt ρ S) = .cnt (ρ.set i none) S := Eq.trans rfl rfl
end
/-! ### names -/
@[simp] theorem setN_0 (a : Option D) (r : Env) (d : D) (S : Store) : setN (a :: r) 0 d S = .nx (some d :: r) S := by simp [setN, asgN]
def SR.push (a : Option D) (r : SR) : SR := match r with
  | .nx ρ S => .nx (a :: ρ) S
  | .brk ρ S => .brk (a :: ρ) S
  | .cnt ρ S => .cnt (a :: ρ) S
  | .exn C fs ρ S => .exn C fs (a :: ρ) S
  | r => r
@[simp] theorem push_nx (a : Option D) (ρ : Env) (S : Store) : (SR.nx ρ S).push a = .nx (a :: ρ) S := rfl
@[simp] theorem setN_s (a : Option D) (r : Env) (i : Nat) (d : D) (S : Store) : setN (a :: r) (i + 1) d S = (setN r i d S).push a := by
  unfold setN asgN
  by_cases h : i < r.length
  · rw [if_pos (by simpa using h), if_pos h]; rfl
  · rw [if_neg (by simpa using h), if_neg h]; rfl
@[simp] theorem setN_1 (a : Option D) (r : Env) (d : D) (S : Store) : setN (a :: r) 1 d S = (setN r 0 d S).push a := setN_s a r 0 d S
@[simp] theorem setN_2 (a : Option D) (r : Env) (d : D) (S : Store) : setN (a :: r) 2 d S = (setN r 1 d S).push a := setN_s a r 1 d S
@[simp] theorem setN_3 (a : Option D) (r : Env) (d : D) (S : Store) : setN (a :: r) 3 d S = (setN r 2 d S).push a := setN_s a r 2 d S
@[simp] theorem setN_4 (a : Option D) (r : Env) (d : D) (S : Store) : setN (a :: r) 4 d S = (setN r 3 d S).push a := setN_s a r 3 d S
@[simp] theorem setN_5 (a : Option D) (r : Env) (d : D) (S : Store) : setN (a :: r) 5 d S = (setN r 4 d S).push a := setN_s a r 4 d S
@[simp] theorem setN_6 (a : Option D) (r : Env) (d : D) (S : Store) : setN (a :: r) 6 d S = (setN r 5 d S).push a := setN_s a r 5 d S
@[simp] theorem setN_7 (a : Option D) (r : Env) (d : D) (S : Store) : setN (a :: r) 7 d S = (setN r 6 d S).push a := setN_s a r 6 d S
@[simp] theorem setN_8 (a : Option D) (r : Env) (d : D) (S : Store) : setN (a :: r) 8 d S = (setN r 7 d S).push a := setN_s a r 7 d S
@[simp] theorem setN_9 (a : Option D) (r : Env) (d : D) (S : Store) : setN (a :: r) 9 d S = (setN r 8 d S).push a := setN_s a r 8 d S
@[simp] theorem setN_10 (a : Option D) (r : Env) (d : D) (S : Store) : setN (a :: r) 10 d S = (setN r 9 d S).push a := setN_s a r 9 d S
@[simp] theorem setN_11 (a : Option D) (r : Env) (d : D) (S : Store) : setN (a :: r) 11 d S = (setN r 10 d S).push a := setN_s a r 10 d S
/-! ### the store put in order -/
@[simp] theorem tidy_same (d : D) (S : Store) : tidy S (.ok d S) = .ok d S := by simp [tidy]
theorem tidy_len {d : D} {S S' : Store} (h : S'.length = S.length) : tidy S (.ok d S') = .ok d S' := by simp [tidy, h]
@[simp] theorem tidy_new (S : Store) (o : O) : tidy S (.ok (.ref S.length) (S ++ [o])) = .ok (.ref S.length) (S ++ [o]) := by
  unfold tidy
  simp [D.wf]
@[simp] theorem tidy_set (d : D) (S : Store) (n : Nat) (o : O) : tidy S (.ok d (S.set n o)) = .ok d (S.set n o) := tidy_len (by simp)
@[simp] theorem tidy_exn (C : Nat) (fs : List (Nat × D)) (S : Store) : tidy S (.exn C fs S) = .exn C fs S := by simp [tidy]
@[simp] theorem tidyB_same (d : Bool) (S : Store) : tidyB S (.ok d S) = .ok d S := by simp [tidyB]
@[simp] theorem tidyB_exn (C : Nat) (fs : List (Nat × D)) (S S' : Store) : tidyB S (.exn C fs S') = .exn C fs S' := rfl
/-- a value of no store: what was laid goes -/
theorem tidy_drop {d : D} {S T : Store} (h : d.wf S.length = true) : tidy S (.ok d (S ++ T)) = .ok d S := by
  unfold tidy
  cases T with
  | nil => simp
  | cons o T =>
    dsimp only
    rw [if_neg (by simp), if_pos (by simp), if_pos h]
theorem tidyB_drop {d : Bool} {S T : Store} : tidyB S (.ok d (S ++ T)) = .ok d S := by
  unfold tidyB
  cases T with
  | nil => simp
  | cons o T =>
    dsimp only
    rw [if_neg (by simp), if_pos (by simp)]
theorem tidy_exn_drop {C : Nat} {fs : List (Nat × D)} {S T : Store} (h : D.wfs S.length (fs.map (·.2)) = true) : tidy S (.exn C fs (S ++ T)) = .exn C fs S := by
  unfold tidy
  cases T with
  | nil => simp
  | cons o T =>
    dsimp only
    rw [if_neg (by simp), if_pos (by simp), if_pos h]
/-! ### calls -/
theorem call_eq {G : Glob} {n f : Nat} {fd : FnD} {ds : List D} {S : Store} (h : G.fns[f]? = some fd) (hl : ds.length = fd.np) : callN G (n + 1) f ds S = tidy S (exs G (callN G n) fd.body none (env0 fd ds) S).done := by
  show (match G.fns[f]? with
    | some fd => runFn G (callN G n) fd ds S
    | none => .stuck) = _
  rw [h]
  show runFn G (callN G n) fd ds S = _
  unfold runFn
  rw [if_pos hl]
@[simp] theorem done_ret (d : D) (S : Store) : (SR.ret d S).done = .ok d S := rfl
@[simp] theorem done_nx (ρ : Env) (S : Store) : (SR.nx ρ S).done = .ok .non S := rfl
@[simp] theorem done_exn (C : Nat) (fs : List (Nat × D)) (ρ : Env) (S : Store) : (SR.exn C fs ρ S).done = .exn C fs S := rfl
/-! ### operators -/
section
variable (S : Store)
@[simp] theorem add_int (i j : Int) : binop .Add (.int i) (.int j) S = .ok (.int (i + j)) S := rfl
@[simp] theorem sub_int (i j : Int) : binop .Sub (.int i) (.int j) S = .ok (.int (i - j)) S := rfl
@[simp] theorem mul_int (i j : Int) : binop .Mult (.int i) (.int j) S = if bits i + bits j < 1000000 then .ok (.int (i * j)) S else .stuck := rfl
@[simp] theorem fdiv_int (i j : Int) : binop .FloorDiv (.int i) (.int j) S = if j ≠ 0 ∧ j.natAbs < 1073741824 then .ok (.int (i.fdiv j)) S else .stuck := rfl
@[simp] theorem fmod_int (i j : Int) : binop .Mod (.int i) (.int j) S = if j ≠ 0 then .ok (.int (i.fmod j)) S else .stuck := rfl
@[simp] theorem pow_int (i j : Int) : binop .Pow (.int i) (.int j) S = if 0 ≤ j ∧ j ≤ 1000000 ∧ i.natAbs < 2 ^ 64 then .ok (.int (i ^ j.toNat)) S else .stuck := rfl
@[simp] theorem add_str (x y : List Nat) : binop .Add (.str x) (.str y) S = if x.length + y.length ≤ line then .ok (.str (x ++ y)) S else .stuck := rfl
@[simp] theorem add_tup (x y : List D) : binop .Add (.tup x) (.tup y) S = if x.length + y.length ≤ line then .ok (.tup (x ++ y)) S else .stuck := rfl
@[simp] theorem mul_str (x : List Nat) (j : Int) : binop .Mult (.str x) (.int j) S = if x.length * j.toNat ≤ line ∧ -(2 ^ 63) ≤ j ∧ j < 2 ^ 63 then .ok (.str (List.replicate j.toNat x).flatten) S else .stuck := rfl
@[simp] theorem aug_add (i j : Int) : augop .Add (.int i) (.int j) S = .ok (.int (i + j)) S := rfl
@[simp] theorem aug_sub (i j : Int) : augop .Sub (.int i) (.int j) S = .ok (.int (i - j)) S := rfl
@[simp] theorem c_eq (a b : D) : cmpop .Eq a b S = eqD S a b := rfl
@[simp] theorem c_ne (a b : D) : cmpop .NotEq a b S = (eqD S a b).map (!·) := rfl
@[simp] theorem c_lt (a b : D) : cmpop .Lt a b S = ltD a b := rfl
@[simp] theorem c_gt (a b : D) : cmpop .Gt a b S = ltD b a := rfl
@[simp] theorem c_le (a b : D) : cmpop .LtE a b S = (ltD b a).map (!·) := rfl
@[simp] theorem c_ge (a b : D) : cmpop .GtE a b S = (ltD a b).map (!·) := rfl
@[simp] theorem c_in (a b : D) : cmpop .In a b S = inD S a b := rfl
@[simp] theorem c_notin (a b : D) : cmpop .NotIn a b S = (inD S a b).map (!·) := rfl
@[simp] theorem c_is (a b : D) : cmpop .Is a b S = isD a b := rfl
@[simp] theorem c_isnot (a b : D) : cmpop .IsNot a b S = (isD a b).map (!·) := rfl
@[simp] theorem eq_int (i j : Int) : eqD S (.int i) (.int j) = some (decide (i = j)) := by
  unfold eqD
  dsimp only
  rw [if_pos (by simp [D.nb, D.dep])]
  by_cases h : i = j <;> simp [h]
@[simp] theorem eq_str (i j : List Nat) : eqD S (.str i) (.str j) = some (decide (i = j)) := rfl
@[simp] theorem eq_bl (i j : Bool) : eqD S (.bl i) (.bl j) = some (i == j) := rfl
@[simp] theorem lt_int (i j : Int) : ltD (.int i) (.int j) = some (decide (i < j)) := by
  unfold ltD
  rw [if_pos (by simp [D.nb, D.dep, D.alike])]
  rfl
@[simp] theorem in_str1 (c : Nat) (y : List Nat) : inD S (.str [c]) (.str y) = some (decide (c ∈ y)) := rfl
@[simp] theorem is_non (a : D) : isD a .non = some (decide (a = .non)) := rfl
@[simp] theorem tr_bl (b : Bool) : truth S (.bl b) = some b := rfl
@[simp] theorem tr_non : truth S .non = some false := rfl
@[simp] theorem tr_int (i : Int) : truth S (.int i) = some (i != 0) := rfl
@[simp] theorem tr_tup (xs : List D) : truth S (.tup xs) = some (!xs.isEmpty) := rfl
@[simp] theorem tr_ref (n : Nat) : truth S (.ref n) = (lstOf S n).map fun xs => !xs.isEmpty := by
  show (match lstOf S n with
    | some xs => some (!xs.isEmpty)
    | none => none) = _
  cases lstOf S n <;> rfl
@[simp] theorem kd_non : kindD S .non = some 0 := rfl
@[simp] theorem kd_bl (b : Bool) : kindD S (.bl b) = some 1 := rfl
@[simp] theorem kd_int (i : Int) : kindD S (.int i) = some 2 := rfl
@[simp] theorem kd_str (s : List Nat) : kindD S (.str s) = some 3 := rfl
@[simp] theorem kd_tup (s : List D) : kindD S (.tup s) = some 4 := rfl
@[simp] theorem f_len (ds : List D) : bltF .len ds S = fLen ds S := rfl
@[simp] theorem len_str (s : List Nat) : fLen [.str s] S = if s.length ≤ line then .ok (.int s.length) S else .stuck := rfl
@[simp] theorem len_tup (s : List D) : fLen [.tup s] S = .ok (.int s.length) S := rfl
theorem len_ref {n : Nat} {xs : List D} (h : lstOf S n = some xs) : fLen [.ref n] S = .ok (.int xs.length) S := by
  show (match seqOf S (D.ref n) with
    | some xs => R.ok (D.int xs.length) S
    | none => R.stuck) = _
  rw [show seqOf S (.ref n) = lstOf S n from rfl, h]
@[simp] theorem f_abs (i : Int) : bltF .abs [.int i] S = .ok (.int (if i < 0 then -i else i)) S := rfl
@[simp] theorem f_min (i j : Int) : bltF .min [.int i, .int j] S = .ok (.int (if j < i then j else i)) S := rfl
@[simp] theorem f_max (i j : Int) : bltF .max [.int i, .int j] S = .ok (.int (if j > i then j else i)) S := rfl
@[simp] theorem f_int_int (i : Int) : bltF .int [.int i] S = .ok (.int i) S := rfl
@[simp] theorem f_str_int (i : Int) : bltF .str [.int i] S = if i.natAbs.log2 < 1920 then .ok (.str (strInt i)) S else .stuck := rfl
@[simp] theorem f_str_str (i : List Nat) : bltF .str [.str i] S = .ok (.str i) S := rfl
theorem f_tuple {n : Nat} {xs : List D} (h : lstOf S n = some xs) : bltF .tuple [.ref n] S = .ok (.tup xs) S := by
  show (match lstOf S n with
    | some xs => R.ok (D.tup xs) S
    | none => R.stuck) = _
  rw [h]
@[simp] theorem i_str (s : List Nat) (k : Int) : idxD S (.str s) (.int k) = if s.length ≤ line then (atI s k).map fun c => .str [c] else none := rfl
@[simp] theorem i_tup (s : List D) (k : Int) : idxD S (.tup s) (.int k) = atI s k := rfl
@[simp] theorem i_ref (n : Nat) (k : Int) : idxD S (.ref n) (.int k) = (lstOf S n).bind fun xs => atI xs k := rfl
@[simp] theorem cut_str (s : List Nat) (lo hi : Option Int) : cutD S (.str s) lo hi = if s.length ≤ line then .ok (.str (cutX s lo hi)) S else .stuck := rfl
@[simp] theorem int_of (i : Int) : intOf (.int i) = some i := rfl
@[simp] theorem lstOf_new (o : List D) : lstOf (S ++ [.lst o]) S.length = some o := by simp [lstOf]
theorem atI_nat {α : Type} {xs : List α} {k : Nat} (h : k < xs.length) : atI xs (k : Int) = xs[k]? := by
  unfold atI ixN
  rw [if_pos (by omega), if_pos (by omega)]
  rfl
theorem strsOf_map : ∀ ss : List (List Nat), strsOf (ss.map D.str) = some ss
  | [] => rfl
  | s :: ss => by rw [List.map_cons, strsOf, strsOf_map ss]; rfl
theorem m_join {s : List Nat} {d : D} {ys : List (List Nat)} {xs : List D} (h : seqOf S d = some xs) (h2 : xs = ys.map D.str) (h3 : (ys.map List.length).sum + s.length * ys.length ≤ line) : mthF .join (.str s) [d] S = .ok (.str (joinS s ys)) S := by
  show (match seqOf S d with
    | some xs => (match strsOf xs with
      | some ys => if (ys.map List.length).sum + s.length * ys.length ≤ line then R.ok (D.str (joinS s ys)) S else R.stuck
      | none => R.stuck)
    | none => R.stuck) = _
  rw [h]
  dsimp only
  rw [h2, strsOf_map]
  dsimp only
  rw [if_pos h3]
@[simp] theorem mok_join (s : List Nat) : mOk .join S (.str s) = true := rfl
@[simp] theorem mok_app (n : Nat) : mOk .append S (.ref n) = (lstOf S n).isSome := rfl
@[simp] theorem mok_pop (n : Nat) : mOk .pop S (.ref n) = (lstOf S n).isSome := rfl
theorem m_app {n : Nat} {d : D} {xs : List D} (h : S[n]? = some (.lst xs)) (h2 : xs.length < line) : mthF .append (.ref n) [d] S = .ok .non (S.set n (.lst (xs ++ [d]))) := by
  show (match S[n]? with
    | some (.lst xs) => if xs.length < line then R.ok D.non (S.set n (.lst (xs ++ [d]))) else R.stuck
    | _ => R.stuck) = _
  rw [h]
  dsimp only
  rw [if_pos h2]
theorem m_pop {n : Nat} {d : D} {xs : List D} (h : S[n]? = some (.lst (xs ++ [d]))) : mthF .pop (.ref n) [] S = .ok d (S.set n (.lst xs)) := by
  show (match S[n]? with
    | some (.lst xs) => (match xs.getLast? with
      | some y => R.ok y (S.set n (.lst xs.dropLast))
      | none => R.stuck)
    | _ => R.stuck) = _
  rw [h]
  simp
theorem lst_is {n : Nat} {xs : List D} (h : S[n]? = some (.lst xs)) : lstOf S n = some xs := by unfold lstOf; rw [h]
end
/-! ### loops -/
theorem lcLoop_map {f : D → Store → R (Option D)} {chk : Store → Bool} {g : D → D} {S : Store} (hc : chk S = true) : ∀ {ds acc : List D}, (∀ d ∈ ds, f d S = .ok (some (g d)) S) → acc.length + ds.length ≤ line → lcLoop f chk ds acc S = .ok (acc ++ ds.map g) S
  | [], acc, _, _ => by simp [lcLoop]
  | d :: ds, acc, h, hl => by
    rw [List.length_cons] at hl
    have h1 := h d (List.mem_cons_self ..)
    have hs : decide (acc.length < line) = true := decide_eq_true (by omega)
    rw [lcLoop, h1]
    simp only [R.bind_ok, hc, hs, Bool.and_self, if_true]
    rw [lcLoop_map hc (fun x hx => h x (List.mem_cons_of_mem _ hx)) (by rw [List.length_append, List.length_singleton]; omega)]
    simp
end Fx
set_option Elab.async false
set_option linter.all false
set_option autoImplicit false
set_option maxRecDepth 100000
set_option maxHeartbeats 4000000
/-! K00P: the plain law. -/
namespace K00
open Fx
/-! ### the text of a value -/
mutual
def vt : D → List Nat
  | .int i => strInt i
  | .str s => s
  | .tup xs => 40 :: joinS [32] (vts xs) ++ [41]
  | _ => []
def vts : List D → List (List Nat)
  | [] => []
  | x :: xs => vt x :: vts xs
end
mutual
/-- what may be written -/
def good : D → Bool
  | .int i => decide (i.natAbs.log2 < 1920)
  | .str s => true
  | .tup xs => goods xs
  | _ => false
def goods : List D → Bool
  | [] => true
  | x :: xs => good x && goods xs
end
theorem vts_map : ∀ xs : List D, vts xs = xs.map vt
  | [] => rfl
  | x :: xs => by rw [vts, vts_map xs]; rfl
theorem goods_all : ∀ {xs : List D}, goods xs = true → ∀ x ∈ xs, good x = true
  | [], _, _, h => by cases h
  | y :: ys, h, x, hx => by
    have h' : good y = true ∧ goods ys = true := by simpa [goods] using h
    rcases List.mem_cons.mp hx with rfl | hx
    · exact h'.1
    · exact goods_all h'.2 x hx
theorem deps_le : ∀ {xs : List D} {x : D}, x ∈ xs → x.dep ≤ D.deps xs
  | y :: ys, x, h => by
    rw [D.deps]
    rcases List.mem_cons.mp h with rfl | h
    · exact Nat.le_max_left _ _
    · exact Nat.le_trans (deps_le h) (Nat.le_max_right _ _)
theorem joinS_len (s : List Nat) : ∀ (xs : List (List Nat)), xs ≠ [] → (joinS s xs).length + s.length = (xs.map List.length).sum + s.length * xs.length
  | [], h => absurd rfl h
  | [x], _ => by simp [joinS]
  | x :: y :: r, _ => by
    have ih := joinS_len s (y :: r) (by simp)
    rw [joinS, List.length_append, List.length_append, List.map_cons, List.sum_cons, List.length_cons, Nat.mul_succ]
    omega
theorem le_sum {n : Nat} : ∀ {l : List Nat}, n ∈ l → n ≤ l.sum
  | m :: l, h => by
    rw [List.sum_cons]
    rcases List.mem_cons.mp h with rfl | h
    · omega
    · have := le_sum h
      omega
theorem mem_len {xs : List (List Nat)} {x : List Nat} (h : x ∈ xs) : x.length ≤ (joinS [32] xs).length := by
  have h1 := joinS_len [32] xs (by rintro rfl; cases h)
  have h2 : x.length ≤ (xs.map List.length).sum := le_sum (List.mem_map.mpr ⟨x, h, rfl⟩)
  have h3 : 1 ≤ xs.length := by
    cases xs with
    | nil => cases h
    | cons a b => simp
  simp only [List.length_singleton, Nat.one_mul] at h1
  omega
theorem fns_0 : L.G.fns[0]? = some ⟨1, 2, b_value_text⟩ := rfl
theorem value_text_ok : ∀ (n : Nat) (d : D) (S : Store), d.dep ≤ n → good d = true → (vt d).length ≤ line → callN L.G (n + 1) 0 [d] S = .ok (.str (vt d)) S := by
  intro n
  induction n with
  | zero =>
    intro d S hd hg hl
    rw [call_eq fns_0 rfl]
    cases d with
    | int i =>
      have h : i.natAbs.log2 < 1920 := by simpa [good] using hg
      simp [b_value_text, env0, isTy, h, vt]
    | str s => simp [b_value_text, env0, isTy, vt]
    | tup xs => simp [D.dep] at hd
    | _ => simp [good] at hg
  | succ n ih =>
    intro d S hd hg hl
    rw [call_eq fns_0 rfl]
    cases d with
    | int i =>
      have h : i.natAbs.log2 < 1920 := by simpa [good] using hg
      simp [b_value_text, env0, isTy, h, vt]
    | str s => simp [b_value_text, env0, isTy, vt]
    | tup xs =>
      have hg' : goods xs = true := by simpa [good] using hg
      have hd' : D.deps xs ≤ n := by simpa [D.dep] using hd
      have hlen : (joinS [32] (vts xs)).length + 2 ≤ line := by simpa [vt] using hl
      have turn : ∀ x ∈ xs, lcTurn [1] (.nm 1) [some (.tup xs), none] (evs L.G (callN L.G (n + 1)) none .nil).ts (ev L.G (callN L.G (n + 1)) none (.call 0 (.cons (.loc 1) .nil))).v x S = .ok (some (.str (vt x))) S := fun x hx => by
        have e := ih x S (Nat.le_trans (deps_le hx) hd') (goods_all hg' x hx) (by
          have := mem_len (xs := vts xs) (x := vt x) (by rw [vts_map]; exact List.mem_map.mpr ⟨x, hx, rfl⟩)
          omega)
        simp [lcTurn, wipe, asgT, asgN, e]
      have hn : (xs.map fun x => D.str (vt x)) = (vts xs).map D.str := by rw [vts_map, List.map_map]; rfl
      have hfew : ((vts xs).map List.length).sum + (vts xs).length ≤ line := by
        cases hx : vts xs with
        | nil => simp
        | cons a b =>
          have := joinS_len [32] (vts xs) (by rw [hx]; simp)
          rw [← hx]
          simp only [List.length_singleton, Nat.one_mul] at this
          omega
      have hxs : xs.length ≤ line := by
        have : (vts xs).length = xs.length := by rw [vts_map, List.length_map]
        omega
      have loop := lcLoop_map (f := lcTurn [1] (.nm 1) [some (.tup xs), none] (evs L.G (callN L.G (n + 1)) none .nil).ts (ev L.G (callN L.G (n + 1)) none (.call 0 (.cons (.loc 1) .nil))).v) (chk := same none S) (g := fun x => .str (vt x)) (S := S) rfl (ds := xs) (acc := []) turn (by simpa using hxs)
      have hj := m_join (S ++ [O.lst (xs.map fun x => D.str (vt x))]) (s := [32]) (d := .ref S.length) (lstOf_new S _) hn (by simpa using hfew)
      have h1 : 1 + (joinS [32] (vts xs)).length ≤ line := by omega
      have h2 : (joinS [32] (vts xs)).length + 1 + 1 ≤ line := by omega
      have dr : ∀ s, tidy S (.ok (.str s) (S ++ [O.lst (xs.map fun x => D.str (vt x))])) = .ok (.str s) S := fun s => tidy_drop rfl
      simp [b_value_text, env0, isTy, loop, hj, vt, h1, h2, dr]
    | _ => simp [good] at hg
end K00
set_option Elab.async false
set_option linter.all false
set_option autoImplicit false
set_option maxRecDepth 100000
set_option maxHeartbeats 4000000
/-! K00M: the reader as a plain function; it answers as the automaton; it gives back what was written. -/
namespace K00
open Fx
def isL (c : Nat) : Bool := decide (97 ≤ c) && decide (c ≤ 122)
/-- how many at the front, at most m -/
def cnt (p : Nat → Bool) : Nat → List Nat → Nat
  | 0, _ => 0
  | _, [] => 0
  | m + 1, c :: r => if p c then cnt p m r + 1 else 0
theorem cnt_le (p : Nat → Bool) : ∀ (m : Nat) (r : List Nat), cnt p m r ≤ m ∧ cnt p m r ≤ r.length
  | 0, _ => by simp [cnt]
  | m + 1, [] => by simp [cnt]
  | m + 1, c :: r => by
    have := cnt_le p m r
    unfold cnt
    split <;> simp <;> omega
/-- behind the counted signs stands no further one, or the most is reached -/
theorem cnt_stop (p : Nat → Bool) : ∀ (m : Nat) (r : List Nat), cnt p m r = m ∨ ∀ c s, r.drop (cnt p m r) = c :: s → p c = false
  | 0, _ => .inl rfl
  | m + 1, [] => .inr fun c s h => by simp at h
  | m + 1, c :: r => by
    by_cases h : p c = true
    · have e : cnt p (m + 1) (c :: r) = cnt p m r + 1 := by simp [cnt, h]
      rcases cnt_stop p m r with q | q
      · exact .inl (by omega)
      · refine .inr fun d s hd => q d s ?_
        rw [e, List.drop_succ_cons] at hd
        exact hd
    · have e : cnt p (m + 1) (c :: r) = 0 := by simp [cnt, h]
      refine .inr fun d s hd => ?_
      rw [e, List.drop_zero] at hd
      cases hd
      simpa using h
theorem cnt_all (p : Nat → Bool) : ∀ (m : Nat) (r : List Nat), (r.take (cnt p m r)).all p = true
  | 0, _ => by simp [cnt]
  | m + 1, [] => by simp [cnt]
  | m + 1, c :: r => by
    unfold cnt
    split
    · rename_i h
      simp [h, cnt_all p m r]
    · simp
theorem cnt_app (p : Nat → Bool) : ∀ (m : Nat) (w r : List Nat), w.all p = true → w.length ≤ m → (w.length = m ∨ ∀ c s, r = c :: s → p c = false) → cnt p m (w ++ r) = w.length
  | 0, [], r, _, _, _ => by simp [cnt]
  | 0, _ :: _, _, _, h, _ => by simp at h
  | m + 1, [], r, _, _, h => by
    rcases h with h | h
    · cases h
    · cases r with
      | nil => simp [cnt]
      | cons c s => simp [cnt, h c s rfl]
  | m + 1, c :: w, r, h, hl, hr => by
    have h' : p c = true ∧ w.all p = true := by simpa using h
    simp only [List.cons_append, cnt, h'.1, if_true, List.length_cons]
    rw [cnt_app p m w r h'.2 (by simpa using hl) (by rcases hr with q | q; exact .inl (by simpa using q); exact .inr q)]

inductive Op where
  | err (e : Nat)
  | val (v : D) (r : List Nat)
  | opn (r : List Nat)
inductive Cl where
  | err (e : Nat)
  | done (v : D)
  | cont (r : List Nat) (stk : List (List D))
inductive Out where
  | err (e : Nat)
  | ok (v : D)
def intT (s : List Nat) : Int := (readInt s).getD 0
/-- the front of an atom: errors by what is left -/
def plain (c : Nat) (r : List Nat) : Op :=
  if isL c then .val (.str ((c :: r).take (cnt isL 20 (c :: r)))) ((c :: r).drop (cnt isL 20 (c :: r)))
  else match (if c = 45 then r else c :: r) with
    | [] => .err 0
    | d :: s => if isDig d = false ∨ (d = 48 ∧ c = 45) then .err (s.length + 1)
      else if d = 48 then .val (.int 0) s
      else .val (.int (intT ((if c = 45 then [45] else []) ++ (d :: s).take (cnt isDig 200 (d :: s))))) ((d :: s).drop (cnt isDig 200 (d :: s)))
def opnM (r : List Nat) (stk : List (List D)) : Op := match r with
  | [] => .err 0
  | c :: r => if c ≠ 40 then plain c r
    else if stk.length = 100 then .err (r.length + 1)
    else match r with
      | 41 :: s => .val (.tup []) s
      | r => .opn r
def clsM (v : D) (r : List Nat) : List (List D) → Cl
  | [] => if r = [] then .done v else .err r.length
  | f :: fs => match r with
    | [] => .err 0
    | c :: s => if c = 32 then .cont s ((f ++ [v]) :: fs) else if c = 41 then clsM (.tup (f ++ [v])) s fs else .err (s.length + 1)
theorem plain_len {c : Nat} {r s : List Nat} {v : D} (h : plain c r = .val v s) : s.length < (c :: r).length := by
  unfold plain at h
  split at h
  · rename_i hl
    cases h
    have : 1 ≤ cnt isL 20 (c :: r) := by simp [cnt, hl]
    rw [List.length_drop]
    simp only [List.length_cons]
    omega
  · split at h
    · cases h
    · rename_i d t e
      have hl : (d :: t).length ≤ (c :: r).length := by
        rw [← e]
        split <;> simp
      split at h
      · cases h
      · rename_i hd
        split at h
        · cases h
          simp only [List.length_cons] at hl ⊢
          omega
        · cases h
          have hd : isDig d = true := by
            cases q : isDig d with
            | true => rfl
            | false => exact absurd (.inl q) hd
          have : 1 ≤ cnt isDig 200 (d :: t) := by simp [cnt, hd]
          rw [List.length_drop]
          simp only [List.length_cons] at hl ⊢
          omega
theorem opn_val {r s : List Nat} {stk : List (List D)} {v : D} (h : opnM r stk = .val v s) : s.length < r.length := by
  unfold opnM at h
  split at h
  · cases h
  · split at h
    · exact plain_len h
    · split at h
      · cases h
      · split at h
        · cases h; simp; omega
        · cases h
theorem opn_opn {r s : List Nat} {stk : List (List D)} (h : opnM r stk = .opn s) : s.length < r.length := by
  unfold opnM at h
  split at h
  · cases h
  · split at h
    · unfold plain at h
      split at h
      · cases h
      · split at h
        · cases h
        · split at h
          · cases h
          · split at h <;> cases h
    · split at h
      · cases h
      · split at h
        · cases h
        · cases h; simp
theorem cls_cont : ∀ {stk : List (List D)} {v : D} {r s : List Nat} {stk' : List (List D)}, clsM v r stk = .cont s stk' → s.length < r.length
  | [], v, r, s, stk', h => by
    unfold clsM at h
    split at h <;> cases h
  | f :: fs, v, r, s, stk', h => by
    unfold clsM at h
    split at h
    · cases h
    · split at h
      · cases h; simp
      · split at h
        · have := cls_cont h
          simp
          omega
        · cases h
def outer (r : List Nat) (stk : List (List D)) : Out := match h : opnM r stk with
  | .err e => .err e
  | .opn s => outer s ([] :: stk)
  | .val v s => match h2 : clsM v s stk with
    | .err e => .err e
    | .done w => .ok w
    | .cont t stk' => outer t stk'
termination_by r.length
decreasing_by
  · exact opn_opn h
  · have := opn_val h
    have := cls_cont h2
    omega
def afterV (v : D) (s : List Nat) (stk : List (List D)) : Out := match clsM v s stk with
  | .err e => .err e
  | .done w => .ok w
  | .cont t stk' => outer t stk'
theorem outer_eq (r : List Nat) (stk : List (List D)) : outer r stk = match opnM r stk with
  | .err e => .err e
  | .opn s => outer s ([] :: stk)
  | .val v s => afterV v s stk := by
  rw [outer]
  split
  · rename_i e h; rw [h]
  · rename_i s h; rw [h]
  · rename_i v s h
    rw [h]
    dsimp only
    unfold afterV
    split
    · rename_i e h2; rw [h2]
    · rename_i w h2; rw [h2]
    · rename_i t stk' h2; rw [h2]

/-! ### the automaton -/
inductive Md where
  | start | first | after | minus | zero | digits | word
  deriving DecidableEq
def fin (m : Md) : Bool := match m with
  | .word => true
  | .digits => true
  | .zero => true
  | .after => true
  | _ => false
def d19 (c : Nat) : Bool := decide (49 ≤ c) && decide (c ≤ 57)
def stepA (m : Md) (d k : Nat) (c : Nat) : Option (Md × Nat × Nat) :=
  if m = .start ∨ m = .first then
    (if c = 40 ∧ d < 100 then some (.first, d + 1, 0)
    else if c = 41 ∧ m = .first then some (.after, d - 1, 0)
    else if c = 45 then some (.minus, d, 0)
    else if c = 48 then some (.zero, d, 0)
    else if d19 c then some (.digits, d, 1)
    else if isL c then some (.word, d, 1)
    else none)
  else if m = .minus then (if d19 c then some (.digits, d, 1) else none)
  else if m = .word ∧ k < 20 ∧ isL c = true then some (.word, d, k + 1)
  else if m = .digits ∧ k < 200 ∧ isDig c = true then some (.digits, d, k + 1)
  else if c = 32 ∧ 0 < d then some (.start, d, 0)
  else if c = 41 ∧ 0 < d then some (.after, d - 1, 0)
  else none
/-- where the automaton stops: by what is left -/
def dueM (m : Md) (d k : Nat) : List Nat → Option Nat
  | [] => if d = 0 ∧ fin m = true then none else some 0
  | c :: r => match stepA m d k c with
    | none => some (r.length + 1)
    | some (m', d', k') => dueM m' d' k' r
/-- no further sign belongs to the atom -/
def stops (m : Md) (k : Nat) (r : List Nat) : Prop := match m with
  | .word => k = 20 ∨ ∀ c s, r = c :: s → isL c = false
  | .digits => k = 200 ∨ ∀ c s, r = c :: s → isDig c = false
  | .zero => True
  | .after => True
  | _ => False
theorem stop_step {m : Md} {d k c : Nat} {r : List Nat} (h : stops m k (c :: r)) : stepA m d k c = if c = 32 ∧ 0 < d then some (.start, d, 0) else if c = 41 ∧ 0 < d then some (.after, d - 1, 0) else none := by
  cases m with
  | word =>
    have n : ¬ (k < 20 ∧ isL c = true) := by
      rcases h with h | h
      · omega
      · rw [h c r rfl]; simp
    simp [stepA, n]
  | digits =>
    have n : ¬ (k < 200 ∧ isDig c = true) := by
      rcases h with h | h
      · omega
      · rw [h c r rfl]; simp
    simp [stepA, n]
  | zero => simp [stepA]
  | after => simp [stepA]
  | _ => exact h.elim
theorem stop_fin {m : Md} {k : Nat} {r : List Nat} (h : stops m k r) : fin m = true := by
  cases m <;> first | rfl | exact h.elim
def Out.o : Out → Option Nat
  | .err e => some e
  | .ok _ => none
theorem cls_due : ∀ {stk : List (List D)} {m : Md} {k : Nat} {v : D} {r : List Nat}, stops m k r → dueM m stk.length k r = match clsM v r stk with
    | .err e => some e
    | .done _ => none
    | .cont s stk' => dueM .start stk'.length 0 s
  | [], m, k, v, r, h => by
    cases r with
    | nil => simp [dueM, clsM, stop_fin h]
    | cons c s => simp [dueM, clsM, stop_step h]
  | f :: fs, m, k, v, r, h => by
    cases r with
    | nil => simp [dueM, clsM]
    | cons c s =>
      by_cases h1 : c = 32
      · subst h1
        simp [dueM, clsM, stop_step h]
      · by_cases h2 : c = 41
        · subst h2
          simp only [dueM, stop_step h, clsM, List.length_cons]
          simp only [show ¬ (41 = 32 ∧ 0 < fs.length + 1) by omega, show (41 = 41 ∧ 0 < fs.length + 1) by omega, if_false, if_true, show (41 : Nat) ≠ 32 by decide, Nat.add_sub_cancel, and_self]
          exact cls_due (stk := fs) (m := .after) (k := 0) trivial
        · simp [dueM, clsM, stop_step h, h1, h2]
end K00
set_option Elab.async false
set_option linter.all false
set_option autoImplicit false
set_option maxRecDepth 100000
set_option maxHeartbeats 4000000
/-! K00N: the reader answers as the automaton (A); what is read is what is written (B); what is written is read (C). -/
namespace K00
open Fx
theorem isL_iff {c : Nat} : isL c = true ↔ 97 ≤ c ∧ c ≤ 122 := by simp [isL]
theorem isDig_iff {c : Nat} : isDig c = true ↔ 48 ≤ c ∧ c ≤ 57 := by simp [isDig]
theorem d19_iff {c : Nat} : d19 c = true ↔ 49 ≤ c ∧ c ≤ 57 := by simp [d19]
theorem word_run (d : Nat) : ∀ (j k : Nat) (r : List Nat), k + j = 20 → dueM .word d k r = dueM .word d (k + cnt isL j r) (r.drop (cnt isL j r))
  | 0, k, r, h => by simp [cnt]
  | j + 1, k, [], h => by simp [cnt]
  | j + 1, k, c :: r, h => by
    by_cases hc : isL c = true
    · have e : stepA .word d k c = some (.word, d, k + 1) := by
        have : k < 20 := by omega
        simp [stepA, hc, this]
      simp only [cnt, hc, if_true, List.drop_succ_cons]
      rw [dueM, e]
      dsimp only
      rw [word_run d j (k + 1) r (by omega)]
      rw [show k + 1 + cnt isL j r = k + (cnt isL j r + 1) by omega]
    · simp [cnt, hc]
theorem digit_run (d : Nat) : ∀ (j k : Nat) (r : List Nat), k + j = 200 → dueM .digits d k r = dueM .digits d (k + cnt isDig j r) (r.drop (cnt isDig j r))
  | 0, k, r, h => by simp [cnt]
  | j + 1, k, [], h => by simp [cnt]
  | j + 1, k, c :: r, h => by
    by_cases hc : isDig c = true
    · have e : stepA .digits d k c = some (.digits, d, k + 1) := by
        have : k < 200 := by omega
        simp [stepA, hc, this]
      simp only [cnt, hc, if_true, List.drop_succ_cons]
      rw [dueM, e]
      dsimp only
      rw [digit_run d j (k + 1) r (by omega)]
      rw [show k + 1 + cnt isDig j r = k + (cnt isDig j r + 1) by omega]
    · simp [cnt, hc]
theorem plain_due {m : Md} {d c : Nat} {r : List Nat} (hm : m = .start ∨ m = .first) (h40 : c ≠ 40) (h41 : m = .first → c ≠ 41) : match plain c r with
    | .err e => dueM m d 0 (c :: r) = some e
    | .val _ s => ∃ m' k', stops m' k' s ∧ dueM m d 0 (c :: r) = dueM m' d k' s
    | .opn _ => False := by
  have st : ∀ x, x ≠ 40 → (m = .first → x ≠ 41) → stepA m d 0 x = if x = 45 then some (.minus, d, 0) else if x = 48 then some (.zero, d, 0) else if d19 x then some (.digits, d, 1) else if isL x then some (.word, d, 1) else none := fun x h1 h2 => by
    have n2 : ¬ (x = 41 ∧ m = .first) := fun z => h2 z.2 z.1
    simp [stepA, hm, h1, n2]
  unfold plain
  by_cases hl : isL c = true
  · rw [if_pos hl]
    have hl2 := isL_iff.mp hl
    refine ⟨.word, cnt isL 20 (c :: r), ?_, ?_⟩
    · rcases cnt_stop isL 20 (c :: r) with q | q
      · exact .inl q
      · exact .inr q
    · have e : stepA m d 0 c = some (.word, d, 1) := by
        rw [st c h40 h41, if_neg (by omega), if_neg (by omega), if_neg (by rw [d19_iff]; omega), if_pos hl]
      rw [dueM, e]
      dsimp only
      rw [word_run d 19 1 r rfl]
      simp only [cnt, hl, if_true, List.drop_succ_cons]
      rw [show 1 + cnt isL 19 r = cnt isL 19 r + 1 by omega]
  · rw [if_neg hl]
    have dig : ∀ (m' : Md) (x : Nat) (s : List Nat), isDig x = true → x ≠ 48 → stepA m' d 0 x = some (.digits, d, 1) → ∃ m2 k', stops m2 k' ((x :: s).drop (cnt isDig 200 (x :: s))) ∧ dueM m' d 0 (x :: s) = dueM m2 d k' ((x :: s).drop (cnt isDig 200 (x :: s))) := fun m' x s hx h0 e => by
      refine ⟨.digits, cnt isDig 200 (x :: s), ?_, ?_⟩
      · rcases cnt_stop isDig 200 (x :: s) with q | q
        · exact .inl q
        · exact .inr q
      · rw [dueM, e]
        dsimp only
        rw [digit_run d 199 1 s rfl]
        simp only [cnt, hx, if_true, List.drop_succ_cons]
        rw [show 1 + cnt isDig 199 s = cnt isDig 199 s + 1 by omega]
    by_cases h45 : c = 45
    · subst h45
      simp only [if_true]
      have e : stepA m d 0 45 = some (.minus, d, 0) := by rw [st 45 h40 h41, if_pos rfl]
      cases r with
      | nil => simp [dueM, e, fin]
      | cons x s =>
        have e2 : stepA .minus d 0 x = if d19 x then some (.digits, d, 1) else none := by simp [stepA]
        dsimp only
        by_cases hx : isDig x = false ∨ x = 48
        · rw [if_pos (by rcases hx with q | q; exact .inl q; exact .inr ⟨q, trivial⟩)]
          have hn : d19 x = false := by
            rw [Bool.eq_false_iff]
            intro z
            have z' := d19_iff.mp z
            rcases hx with q | q
            · rw [Bool.eq_false_iff] at q
              exact q (isDig_iff.mpr (by omega))
            · omega
          simp [dueM, e, e2, hn]
        · have hx1 : isDig x = true := by
            cases q : isDig x with
            | true => rfl
            | false => exact absurd (.inl q) hx
          have hx2 : x ≠ 48 := fun q => hx (.inr q)
          rw [if_neg (by rintro (q | q); exact hx (.inl q); exact hx2 q.1), if_neg hx2]
          dsimp only
          have e3 : stepA .minus d 0 x = some (.digits, d, 1) := by
            have := isDig_iff.mp hx1
            rw [e2, if_pos (d19_iff.mpr (by omega))]
          obtain ⟨m2, k', h1, h2⟩ := dig .minus x s hx1 hx2 e3
          refine ⟨m2, k', h1, ?_⟩
          rw [← h2, dueM, e]
    · simp only [if_neg h45]
      by_cases hx : isDig c = true
      · have hx' := isDig_iff.mp hx
        rw [if_neg (by rintro (q | q); rw [hx] at q; cases q; exact h45 q.2)]
        by_cases h48 : c = 48
        · subst h48
          simp only [if_true]
          refine ⟨.zero, 0, trivial, ?_⟩
          have e : stepA m d 0 48 = some (.zero, d, 0) := by rw [st 48 h40 h41]; rfl
          rw [dueM, e]
        · rw [if_neg h48]
          dsimp only
          exact dig m c r hx h48 (by rw [st c h40 h41, if_neg h45, if_neg h48, if_pos (d19_iff.mpr (by omega))])
      · rw [if_pos (.inl (by simpa using hx))]
        have hn : d19 c = false := by
          rw [Bool.eq_false_iff]
          intro z
          have z' := d19_iff.mp z
          exact hx (isDig_iff.mpr (by omega))
        have h48 : c ≠ 48 := fun q => hx (isDig_iff.mpr (by omega))
        have e : stepA m d 0 c = none := by
          rw [st c h40 h41, if_neg h45, if_neg h48, hn]
          simp [hl]
        simp [dueM, e]
/-- (A) the reader stops where the automaton stops -/
theorem outer_due : ∀ (n : Nat) (r : List Nat) (stk : List (List D)) (m : Md), r.length ≤ n → (m = .start ∨ m = .first) → (m = .first → ∀ s, r ≠ 41 :: s) → stk.length ≤ 100 → (outer r stk).o = dueM m stk.length 0 r := by
  intro n
  induction n with
  | zero =>
    intro r stk m hr hm h41 hs
    have : r = [] := List.length_eq_zero_iff.mp (by omega)
    subst this
    rw [outer_eq]
    simp [opnM, Out.o, dueM]
    rcases hm with rfl | rfl <;> simp [fin]
  | succ n ih =>
    intro r stk m hr hm h41 hs
    have aft : ∀ (v : D) (s : List Nat) (m' : Md) (k : Nat), s.length ≤ n → stops m' k s → (afterV v s stk).o = dueM m' stk.length k s := fun v s m' k hl h => by
      rw [cls_due (v := v) h]
      unfold afterV
      cases e : clsM v s stk with
      | err e => rfl
      | done w => rfl
      | cont t stk' =>
        dsimp only
        have hl2 := cls_cont e
        refine ih t stk' .start (by omega) (.inl rfl) (fun z => by cases z) ?_
        have : ∀ {stk : List (List D)} {v : D} {r s : List Nat} {stk' : List (List D)}, clsM v r stk = .cont s stk' → stk'.length ≤ stk.length := by
          intro stk
          induction stk with
          | nil => intro v r s stk' h; unfold clsM at h; split at h <;> cases h
          | cons f fs ih =>
            intro v r s stk' h
            unfold clsM at h
            split at h
            · cases h
            · split at h
              · cases h; simp
              · split at h
                · have := ih h
                  simp
                  omega
                · cases h
        exact Nat.le_trans (this e) hs
    rw [outer_eq]
    cases r with
    | nil =>
      simp [opnM, Out.o, dueM]
      rcases hm with rfl | rfl <;> simp [fin]
    | cons c r =>
      simp only [List.length_cons] at hr
      by_cases h40 : c = 40
      · subst h40
        by_cases hf : stk.length = 100
        · have e : stepA m stk.length 0 40 = none := by
            have : isL 40 = false := rfl
            have : d19 40 = false := rfl
            simp [stepA, hm, hf, isL, d19]
          simp [opnM, hf, Out.o, dueM]
          rw [hf] at e
          rw [e]
        · have e : stepA m stk.length 0 40 = some (.first, stk.length + 1, 0) := by
            have : stk.length < 100 := by omega
            simp [stepA, hm, this]
          have due : dueM m stk.length 0 (40 :: r) = dueM .first (stk.length + 1) 0 r := by rw [dueM, e]
          rw [due]
          have opn : (∀ s, r ≠ 41 :: s) → opnM (40 :: r) stk = .opn r := fun h => by
            unfold opnM
            dsimp only
            rw [if_neg (by decide), if_neg hf]
            split
            · rename_i s
              exact absurd rfl (h s)
            · rfl
          by_cases h1 : ∃ s, r = 41 :: s
          · obtain ⟨s, rfl⟩ := h1
            have e1 : opnM (40 :: 41 :: s) stk = .val (.tup []) s := by simp [opnM, hf]
            rw [e1]
            dsimp only
            have e2 : stepA .first (stk.length + 1) 0 41 = some (.after, stk.length, 0) := by simp [stepA]
            rw [dueM, e2]
            dsimp only
            exact aft _ s .after 0 (by simp only [List.length_cons] at hr; omega) trivial
          · have h2 : ∀ s, r ≠ 41 :: s := fun s e => h1 ⟨s, e⟩
            rw [opn h2]
            dsimp only
            exact ih r ([] :: stk) .first (by omega) (.inr rfl) (fun _ => h2) (by simp; omega)
      · have e : opnM (c :: r) stk = plain c r := by simp [opnM, h40]
        rw [e]
        have q := plain_due (d := stk.length) (r := r) hm h40 (fun z => fun q => h41 z r (by rw [q]))
        cases e2 : plain c r with
        | err e => rw [e2] at q; dsimp only at q ⊢; rw [q]; rfl
        | val v s =>
          rw [e2] at q
          dsimp only at q ⊢
          obtain ⟨m', k', h1, h2⟩ := q
          rw [h2]
          have := plain_len e2
          simp only [List.length_cons] at this
          exact aft v s m' k' (by omega) h1
        | opn s => rw [e2] at q; exact q.elim
end K00
set_option Elab.async false
set_option linter.all false
set_option autoImplicit false
set_option maxRecDepth 100000
set_option maxHeartbeats 4000000
/-! K00O: what is read is what is written (B); what is written is read (C). -/
namespace K00
open Fx
/-! ### digits -/
theorem digits_all (n : Nat) : (digits n).all isDig = true := by
  rw [List.all_eq_true]
  intro c hc
  unfold digits at hc
  obtain ⟨ch, h1, rfl⟩ := List.mem_map.mp hc
  have h := Nat.isDigit_of_mem_toDigits (by decide) (by decide) h1
  have h2 : 48 ≤ ch.toNat ∧ ch.toNat ≤ 57 := by
    unfold Char.isDigit at h
    simp only [Bool.and_eq_true, decide_eq_true_eq] at h
    exact ⟨h.1, h.2⟩
  exact isDig_iff.mpr h2
theorem digits_ne (n : Nat) : digits n ≠ [] := by
  unfold digits
  intro e
  have h1 : (Nat.toDigits 10 n).length = 0 := by
    have := congrArg List.length e
    simpa using this
  have := PySem.toDigits_len_ge 10 n
  omega
theorem digits_val (n : Nat) : readNat (digits n) = n := by
  rw [readNat_eq]
  exact PySem.W.KIN.val_back n
theorem ofNat_toNat {c : Nat} (h : isDig c = true) : (Char.ofNat c).toNat = c := by
  have h' := isDig_iff.mp h
  have : ∀ c, c < 58 → (Char.ofNat c).toNat = c := by decide
  exact this c (by omega)
theorem digits_back {c : Nat} {s : List Nat} (h : (c :: s).all isDig = true) (h0 : c ≠ 48) : digits (readNat (c :: s)) = c :: s := by
  unfold digits
  have hc : isDig c = true := List.all_eq_true.mp h c (List.mem_cons_self ..)
  rw [readNat_eq, PySem.NumText.toDigits_digitsVal s.length (c :: s) rfl (allDig h) (.inr ⟨c, s, rfl, by have := isDig_iff.mp hc; omega⟩), List.map_map]
  conv => rhs; rw [← List.map_id (c :: s)]
  refine List.map_congr_left fun x hx => ?_
  exact ofNat_toNat (List.all_eq_true.mp h x hx)
theorem val_lt : ∀ (s : List Nat), s.all isDig = true → readNat s < 10 ^ s.length := by
  have key : ∀ (s : List Nat) (a : Nat), s.all isDig = true → s.foldl (fun a c => 10 * a + (c - 48)) a < (a + 1) * 10 ^ s.length := by
    intro s
    induction s with
    | nil => intro a _; simp
    | cons c s ih =>
      intro a h
      have h' : isDig c = true ∧ s.all isDig = true := by simpa using h
      have hc := isDig_iff.mp h'.1
      have q := ih (10 * a + (c - 48)) h'.2
      have e : (10 * a + (c - 48) + 1) * 10 ^ s.length ≤ (a + 1) * 10 * 10 ^ s.length := Nat.mul_le_mul_right _ (by omega)
      rw [List.foldl_cons, List.length_cons, Nat.pow_succ]
      calc _ < _ := q
        _ ≤ _ := e
        _ = (a + 1) * (10 ^ s.length * 10) := by rw [Nat.mul_assoc, Nat.mul_comm 10]
  intro s h
  have := key s 0 h
  simpa [readNat] using this
theorem digits_len {n k : Nat} (hk : 1 ≤ k) (h : n < 10 ^ k) : (digits n).length ≤ k := by
  unfold digits
  rw [List.length_map]
  exact PySem.toDigits_len_pow (by decide) hk h
theorem digits_head {n : Nat} (h : 0 < n) : ∃ c s, digits n = c :: s ∧ c ≠ 48 := by
  cases e : digits n with
  | nil => exact absurd e (digits_ne n)
  | cons c s =>
    refine ⟨c, s, rfl, ?_⟩
    rintro rfl
    have ha := digits_all n
    have hv := digits_val n
    rw [e] at ha hv
    have h1 : readNat (48 :: s) = readNat s := rfl
    rw [h1] at hv
    have hs : s.all isDig = true := by
      have : isDig 48 = true ∧ s.all isDig = true := by simpa using ha
      exact this.2
    cases s with
    | nil =>
      have : readNat [] = 0 := rfl
      omega
    | cons d t =>
      have h2 := val_lt (d :: t) hs
      rw [hv] at h2
      have h3 := digits_len (k := (d :: t).length) (by simp) h2
      rw [e] at h3
      simp only [List.length_cons] at h3
      omega
theorem strInt_pos (n : Nat) : strInt (n : Int) = digits n := rfl
theorem strInt_neg {n : Nat} (h : 0 < n) : strInt (-(n : Int)) = 45 :: digits n := by
  cases n with
  | zero => omega
  | succ n => rfl
theorem readInt_pos {c : Nat} {s : List Nat} (h : (c :: s).all isDig = true) : readInt (c :: s) = some (readNat (c :: s) : Int) := by
  have hc : isDig c = true := List.all_eq_true.mp h c (List.mem_cons_self ..)
  have h45 : c ≠ 45 := by have := isDig_iff.mp hc; omega
  unfold readInt
  dsimp only
  rw [if_neg h45, if_pos h]
theorem readInt_neg {c : Nat} {s : List Nat} (h : (c :: s).all isDig = true) : readInt (45 :: c :: s) = some (-(readNat (c :: s) : Int)) := by
  unfold readInt
  dsimp only
  rw [if_pos rfl, if_pos ⟨by simp, h⟩]
theorem val_pos {c : Nat} {s : List Nat} (h : (c :: s).all isDig = true) (h0 : c ≠ 48) : 0 < readNat (c :: s) := by
  cases e : readNat (c :: s) with
  | zero =>
    have q := digits_back h h0
    rw [e] at q
    have : digits 0 = [48] := rfl
    rw [this] at q
    injection q with q1 q2
    exact absurd q1.symm h0
  | succ n => omega
theorem log_lt {n : Nat} (h : n < 10 ^ 201) : n.log2 < 1920 := by
  by_cases z : n = 0
  · subst z; decide
  · rw [Nat.log2_lt z]
    exact Nat.lt_trans h (by decide +kernel)

/-! ### (B) -/
/-- the text of the open tuples -/
def preT : List (List D) → List Nat
  | [] => []
  | f :: fs => preT fs ++ 40 :: f.flatMap fun x => vt x ++ [32]
theorem join_flat (xs : List D) (v : D) : joinS [32] (vts (xs ++ [v])) = (xs.flatMap fun x => vt x ++ [32]) ++ vt v := by
  induction xs with
  | nil => simp [vts, joinS]
  | cons x xs ih =>
    cases xs with
    | nil => simp [vts, joinS]
    | cons y ys =>
      rw [List.flatMap_cons, List.append_assoc, ← ih]
      simp [vts, joinS]
theorem vt_tup (f : List D) (v : D) : vt (.tup (f ++ [v])) = 40 :: (f.flatMap fun x => vt x ++ [32]) ++ vt v ++ [41] := by
  rw [vt, join_flat]
  simp
theorem cls_text : ∀ {stk : List (List D)} {v : D} {s : List Nat}, match clsM v s stk with
    | .err _ => True
    | .done w => preT stk ++ (vt v ++ s) = vt w
    | .cont t stk' => preT stk ++ (vt v ++ s) = preT stk' ++ t
  | [], v, s => by
    unfold clsM
    by_cases h : s = []
    · rw [if_pos h, h]
      simp [preT]
    · rw [if_neg h]
      trivial
  | f :: fs, v, s => by
    unfold clsM
    cases s with
    | nil => trivial
    | cons c s =>
      dsimp only
      by_cases h1 : c = 32
      · subst h1
        rw [if_pos rfl]
        simp [preT]
      · rw [if_neg h1]
        by_cases h2 : c = 41
        · subst h2
          rw [if_pos rfl]
          have ih := cls_text (stk := fs) (v := .tup (f ++ [v])) (s := s)
          have e : preT (f :: fs) ++ (vt v ++ 41 :: s) = preT fs ++ (vt (.tup (f ++ [v])) ++ s) := by rw [vt_tup]; simp [preT]
          rw [e]
          exact ih
        · rw [if_neg h2]
          trivial
theorem all_take {p : Nat → Bool} {s : List Nat} {k : Nat} (h : s.all p = true) : (s.take k).all p = true := List.all_eq_true.mpr fun x hx => List.all_eq_true.mp h x (List.mem_of_mem_take hx)
theorem plain_text {c : Nat} {r s : List Nat} {v : D} (h : plain c r = .val v s) : c :: r = vt v ++ s ∧ good v = true ∧ v.dep = 0 := by
  unfold plain at h
  split at h
  · cases h
    exact ⟨by rw [vt, List.take_append_drop], rfl, rfl⟩
  · split at h
    · cases h
    · rename_i d t e
      split at h
      · cases h
      · rename_i hd
        have hd1 : isDig d = true := by
          cases q : isDig d with
          | true => rfl
          | false => exact absurd (.inl q) hd
        split at h
        · rename_i h48
          cases h
          have h45 : c ≠ 45 := fun q => hd (.inr ⟨h48, q⟩)
          rw [if_neg h45] at e
          cases e
          exact ⟨by rw [h48]; rfl, rfl, rfl⟩
        · rename_i h48
          injection h with e1 e2
          subst e1 e2
          have hk : cnt isDig 200 (d :: t) = cnt isDig 199 t + 1 := by simp [cnt, hd1]
          have hall := cnt_all isDig 200 (d :: t)
          have hle := (cnt_le isDig 199 t).1
          rw [hk] at hall
          rw [hk, List.take_succ_cons, List.drop_succ_cons]
          rw [List.take_succ_cons] at hall
          have hlt : readNat (d :: t.take (cnt isDig 199 t)) < 10 ^ 201 := Nat.lt_of_lt_of_le (val_lt _ hall) (Nat.pow_le_pow_right (by decide) (by rw [List.length_cons, List.length_take]; omega))
          by_cases h45 : c = 45
          · subst h45
            rw [if_pos rfl] at e
            subst e
            have ei : intT ([45] ++ d :: t.take (cnt isDig 199 t)) = -(readNat (d :: t.take (cnt isDig 199 t)) : Int) := by
              unfold intT
              rw [List.singleton_append, readInt_neg hall]
              rfl
            simp only [if_true]
            rw [ei, vt, strInt_neg (val_pos hall h48), digits_back hall h48]
            refine ⟨by simp, ?_, rfl⟩
            simp only [good, decide_eq_true_eq, Int.natAbs_neg, Int.natAbs_natCast]
            exact log_lt hlt
          · rw [if_neg h45] at e
            cases e
            have ei : intT ([] ++ c :: r.take (cnt isDig 199 r)) = (readNat (c :: r.take (cnt isDig 199 r)) : Int) := by
              unfold intT
              rw [List.nil_append, readInt_pos hall]
              rfl
            rw [if_neg h45, ei, vt, strInt_pos, digits_back hall h48]
            refine ⟨by simp, ?_, rfl⟩
            simp only [good, decide_eq_true_eq, Int.natAbs_natCast]
            exact log_lt hlt
/-- the open tuples hold what may be written, not too deep -/
def wfS : List (List D) → Prop
  | [] => True
  | f :: fs => (∀ x ∈ f, good x = true ∧ x.dep + (fs.length + 1) ≤ 100) ∧ wfS fs
theorem goods_of {xs : List D} (h : ∀ x ∈ xs, good x = true) : goods xs = true := by
  induction xs with
  | nil => rfl
  | cons x xs ih => simp [goods, h x (List.mem_cons_self ..), ih fun y hy => h y (List.mem_cons_of_mem _ hy)]
theorem deps_of {xs : List D} {k : Nat} (h : ∀ x ∈ xs, x.dep ≤ k) : D.deps xs ≤ k := by
  induction xs with
  | nil => simp [D.deps]
  | cons x xs ih =>
    rw [D.deps]
    exact Nat.max_le.mpr ⟨h x (List.mem_cons_self ..), ih fun y hy => h y (List.mem_cons_of_mem _ hy)⟩
theorem tup_ok {f : List D} {v : D} {k : Nat} (hf : ∀ x ∈ f, good x = true ∧ x.dep + (k + 1) ≤ 100) (hv : good v = true ∧ v.dep + (k + 1) ≤ 100) : good (.tup (f ++ [v])) = true ∧ (D.tup (f ++ [v])).dep + k ≤ 100 := by
  have all : ∀ x ∈ f ++ [v], good x = true ∧ x.dep + (k + 1) ≤ 100 := fun x hx => by
    rcases List.mem_append.mp hx with h | h
    · exact hf x h
    · rw [List.mem_singleton.mp h]; exact hv
  refine ⟨by rw [good]; exact goods_of fun x hx => (all x hx).1, ?_⟩
  have := deps_of (xs := f ++ [v]) (k := 99 - k) fun x hx => by have := (all x hx).2; omega
  rw [D.dep]
  have h99 : k + 1 ≤ 100 := by have := hv.2; omega
  omega
theorem cls_good : ∀ {stk : List (List D)} {v : D} {s : List Nat}, wfS stk → good v = true ∧ v.dep + stk.length ≤ 100 → match clsM v s stk with
    | .err _ => True
    | .done w => good w = true ∧ w.dep ≤ 100
    | .cont t stk' => wfS stk' ∧ stk'.length ≤ 100 ∧ 1 ≤ stk'.length
  | [], v, s, _, hv => by
    unfold clsM
    by_cases h : s = []
    · rw [if_pos h]; exact ⟨hv.1, by simpa using hv.2⟩
    · rw [if_neg h]; trivial
  | f :: fs, v, s, hw, hv => by
    unfold clsM
    cases s with
    | nil => trivial
    | cons c s =>
      dsimp only
      have hv' : good v = true ∧ v.dep + (fs.length + 1) ≤ 100 := hv
      by_cases h1 : c = 32
      · rw [if_pos h1]
        refine ⟨⟨fun x hx => ?_, hw.2⟩, (by rw [List.length_cons]; omega), (by simp)⟩
        rcases List.mem_append.mp hx with h | h
        · exact hw.1 x h
        · rw [List.mem_singleton.mp h]; exact hv'
      · rw [if_neg h1]
        by_cases h2 : c = 41
        · rw [if_pos h2]
          exact cls_good hw.2 (tup_ok hw.1 hv')
        · rw [if_neg h2]; trivial
theorem outer_text : ∀ (n : Nat) (r : List Nat) (stk : List (List D)) (w : D), r.length ≤ n → wfS stk → stk.length ≤ 100 → outer r stk = .ok w → vt w = preT stk ++ r ∧ good w = true ∧ w.dep ≤ 100 := by
  intro n
  induction n with
  | zero =>
    intro r stk w hr _ _ h
    have : r = [] := List.length_eq_zero_iff.mp (by omega)
    subst this
    rw [outer_eq] at h
    simp [opnM] at h
  | succ n ih =>
    intro r stk w hr hw hs h
    have aft : ∀ (v : D) (s : List Nat), s.length ≤ n → good v = true ∧ v.dep + stk.length ≤ 100 → afterV v s stk = .ok w → vt w = preT stk ++ (vt v ++ s) ∧ good w = true ∧ w.dep ≤ 100 := fun v s hl hv h => by
      unfold afterV at h
      have t1 := cls_text (stk := stk) (v := v) (s := s)
      have t2 := cls_good (s := s) hw hv
      cases e : clsM v s stk with
      | err e => rw [e] at h; cases h
      | done u =>
        rw [e] at h t1 t2
        cases h
        exact ⟨t1.symm, t2⟩
      | cont t stk' =>
        rw [e] at h t1 t2
        have hl2 := cls_cont e
        obtain ⟨g1, g2⟩ := ih t stk' w (by omega) t2.1 t2.2.1 h
        exact ⟨by rw [g1]; exact t1.symm, g2⟩
    rw [outer_eq] at h
    cases r with
    | nil => simp [opnM] at h
    | cons c r =>
      simp only [List.length_cons] at hr
      by_cases h40 : c = 40
      · subst h40
        by_cases hf : stk.length = 100
        · simp [opnM, hf] at h
        · by_cases h1 : ∃ s, r = 41 :: s
          · obtain ⟨s, rfl⟩ := h1
            have e1 : opnM (40 :: 41 :: s) stk = .val (.tup []) s := by simp [opnM, hf]
            rw [e1] at h
            have q := aft (.tup []) s (by simp only [List.length_cons] at hr; omega) ⟨rfl, by simp [D.dep, D.deps]; omega⟩ h
            exact ⟨q.1, q.2⟩
          · have e1 : opnM (40 :: r) stk = .opn r := by
              unfold opnM
              dsimp only
              rw [if_neg (by decide), if_neg hf]
              split
              · rename_i s
                exact absurd ⟨s, rfl⟩ h1
              · rfl
            rw [e1] at h
            obtain ⟨g1, g2⟩ := ih r ([] :: stk) w (by omega) ⟨fun x hx => (by cases hx), hw⟩ (by simp; omega) h
            exact ⟨by rw [g1]; simp [preT], g2⟩
      · have e : opnM (c :: r) stk = plain c r := by simp [opnM, h40]
        rw [e] at h
        cases e2 : plain c r with
        | err e => rw [e2] at h; cases h
        | opn s =>
          exfalso
          unfold plain at e2
          split at e2
          · cases e2
          · split at e2
            · cases e2
            · split at e2
              · cases e2
              · split at e2 <;> cases e2
        | val v s =>
          rw [e2] at h
          obtain ⟨p1, p2, p3⟩ := plain_text e2
          have := plain_len e2
          simp only [List.length_cons] at this
          rw [p1]
          exact aft v s (by omega) ⟨p2, by rw [p3]; omega⟩ h

/-! ### (C) -/
mutual
def canon : D → Bool
  | .int i => decide (i.natAbs < 10 ^ 200)
  | .str s => s.all isL && decide (1 ≤ s.length) && decide (s.length ≤ 20)
  | .tup xs => canons xs
  | _ => false
def canons : List D → Bool
  | [] => true
  | x :: xs => canon x && canons xs
end
def ends (r : List Nat) : Prop := ∀ c s, r = c :: s → c = 32 ∨ c = 41
theorem plain_int {i : Int} {r : List Nat} (h : i.natAbs < 10 ^ 200) (hr : ends r) : ∃ c s, strInt i ++ r = c :: s ∧ c ≠ 40 ∧ c ≠ 41 ∧ plain c s = .val (.int i) r := by
  have nd : ∀ c s, r = c :: s → isDig c = false := fun c s e => by
    rw [Bool.eq_false_iff]
    intro z
    have := isDig_iff.mp z
    rcases hr c s e with q | q <;> omega
  have num : ∀ (n : Nat), 0 < n → n < 10 ^ 200 → ∃ d t, digits n = d :: t ∧ d ≠ 48 ∧ isDig d = true ∧ cnt isDig 200 (d :: (t ++ r)) = (d :: t).length ∧ (d :: (t ++ r)).take (d :: t).length = d :: t ∧ (d :: (t ++ r)).drop (d :: t).length = r := fun n h0 hn => by
    obtain ⟨d, t, e, hd⟩ := digits_head h0
    have ha := digits_all n
    have hl := digits_len (k := 200) (by decide) hn
    rw [e] at ha hl
    refine ⟨d, t, e, hd, List.all_eq_true.mp ha d (List.mem_cons_self ..), ?_, ?_, ?_⟩
    · rw [← List.cons_append]
      exact cnt_app isDig 200 (d :: t) r ha hl (.inr nd)
    · rw [← List.cons_append]; simp
    · rw [← List.cons_append]; simp
  have nl : ∀ {d : Nat}, isDig d = true → isL d = false := fun {d} hd => by
    rw [Bool.eq_false_iff]
    intro z
    have h1 := isDig_iff.mp hd
    have h2 := isL_iff.mp z
    omega
  rcases Int.lt_trichotomy i 0 with hi | hi | hi
  · obtain ⟨n, rfl⟩ : ∃ n : Nat, i = -(n : Int) := ⟨i.natAbs, by omega⟩
    have h0 : 0 < n := by omega
    obtain ⟨d, t, e, hd, hdd, k1, k2, k3⟩ := num n h0 (by simpa using h)
    rw [strInt_neg h0, e]
    refine ⟨45, d :: (t ++ r), by simp, by decide, by decide, ?_⟩
    have ev : readNat (d :: t) = n := by rw [← e]; exact digits_val n
    have ha := digits_all n
    rw [e] at ha
    unfold plain
    rw [if_neg (by decide)]
    simp only [if_true]
    rw [if_neg (by rintro (q | q); rw [hdd] at q; cases q; exact hd q.1), if_neg hd, k1, k2, k3]
    unfold intT
    rw [List.singleton_append, readInt_neg ha, ev]
    rfl
  · subst hi
    refine ⟨48, r, rfl, by decide, by decide, ?_⟩
    simp [plain, isL, isDig]
  · obtain ⟨n, rfl⟩ : ∃ n : Nat, i = (n : Int) := ⟨i.natAbs, by omega⟩
    have h0 : 0 < n := by omega
    obtain ⟨d, t, e, hd, hdd, k1, k2, k3⟩ := num n h0 (by simpa using h)
    rw [strInt_pos, e]
    have hdi := isDig_iff.mp hdd
    refine ⟨d, t ++ r, by simp, by omega, by omega, ?_⟩
    have ev : readNat (d :: t) = n := by rw [← e]; exact digits_val n
    have ha := digits_all n
    rw [e] at ha
    have h45 : d ≠ 45 := by omega
    unfold plain
    rw [if_neg (by rw [nl hdd]; decide)]
    simp only [if_neg h45]
    rw [if_neg (by rintro (q | q); rw [hdd] at q; cases q; exact hd q.1), if_neg hd, k1, k2, k3]
    unfold intT
    rw [List.nil_append, readInt_pos ha, ev]
    rfl
theorem plain_word {w r : List Nat} (h : w.all isL = true) (h1 : 1 ≤ w.length) (h2 : w.length ≤ 20) (hr : ends r) : ∃ c s, w ++ r = c :: s ∧ c ≠ 40 ∧ c ≠ 41 ∧ plain c s = .val (.str w) r := by
  cases w with
  | nil => simp at h1
  | cons c t =>
    have hc : isL c = true := List.all_eq_true.mp h c (List.mem_cons_self ..)
    have hc' := isL_iff.mp hc
    refine ⟨c, t ++ r, rfl, by omega, by omega, ?_⟩
    have k : cnt isL 20 (c :: (t ++ r)) = (c :: t).length := by
      rw [← List.cons_append]
      refine cnt_app isL 20 (c :: t) r h h2 (.inr fun x s e => ?_)
      rw [Bool.eq_false_iff]
      intro z
      have := isL_iff.mp z
      rcases hr x s e with q | q <;> omega
    unfold plain
    rw [if_pos hc, k, ← List.cons_append]
    simp
theorem canon_head : ∀ {v : D}, canon v = true → ∀ r, ends r → ∃ c s, vt v ++ r = c :: s ∧ c ≠ 41
  | .int i, h, r, hr => by
    have h' : i.natAbs < 10 ^ 200 := of_decide_eq_true h
    obtain ⟨c, s, e, _, h2, _⟩ := plain_int h' hr
    exact ⟨c, s, by rw [vt]; exact e, h2⟩
  | .str w, h, r, hr => by
    have h' : (w.all isL = true ∧ 1 ≤ w.length) ∧ w.length ≤ 20 := by
      have : (w.all isL && decide (1 ≤ w.length) && decide (w.length ≤ 20)) = true := h
      rw [Bool.and_eq_true, Bool.and_eq_true, decide_eq_true_eq, decide_eq_true_eq] at this
      exact this
    obtain ⟨c, s, e, _, h2, _⟩ := plain_word h'.1.1 h'.1.2 h'.2 hr
    exact ⟨c, s, by rw [vt]; exact e, h2⟩
  | .tup xs, _, r, _ => ⟨40, joinS [32] (vts xs) ++ [41] ++ r, by rw [vt]; simp, by decide⟩
  | .non, h, _, _ => by cases h
  | .bl _, h, _, _ => by cases h
  | .ref _, h, _, _ => by cases h
theorem ends_sp (s : List Nat) : ends (32 :: s) := fun c t e => by cases e; exact .inl rfl
theorem ends_cl (s : List Nat) : ends (41 :: s) := fun c t e => by cases e; exact .inr rfl
mutual
theorem read_back : ∀ (v : D) (r : List Nat) (stk : List (List D)), canon v = true → v.dep + stk.length ≤ 100 → ends r → outer (vt v ++ r) stk = afterV v r stk
  | .int i, r, stk, h, hd, hr => by
    obtain ⟨c, s, e, h1, _, h2⟩ := plain_int (of_decide_eq_true h) hr
    rw [vt, e, outer_eq]
    have : opnM (c :: s) stk = plain c s := by simp [opnM, h1]
    rw [this, h2]
  | .str w, r, stk, h, hd, hr => by
    have h' : (w.all isL = true ∧ 1 ≤ w.length) ∧ w.length ≤ 20 := by
      have : (w.all isL && decide (1 ≤ w.length) && decide (w.length ≤ 20)) = true := h
      rw [Bool.and_eq_true, Bool.and_eq_true, decide_eq_true_eq, decide_eq_true_eq] at this
      exact this
    obtain ⟨c, s, e, h1, _, h2⟩ := plain_word h'.1.1 h'.1.2 h'.2 hr
    rw [vt, e, outer_eq]
    have : opnM (c :: s) stk = plain c s := by simp [opnM, h1]
    rw [this, h2]
  | .tup [], r, stk, h, hd, hr => by
    have hd' : 1 + stk.length ≤ 100 := by simpa [D.dep, D.deps] using hd
    rw [vt, outer_eq]
    have hf : stk.length ≠ 100 := by omega
    simp [vts, joinS, opnM, hf]
  | .tup (x :: xs), r, stk, h, hd, hr => by
    have h' : canon x = true ∧ canons xs = true := by
      have : (canon x && canons xs) = true := h
      rwa [Bool.and_eq_true] at this
    have hd' : D.deps (x :: xs) + 1 + stk.length ≤ 100 := hd
    have hf : stk.length ≠ 100 := by omega
    have e : vt (.tup (x :: xs)) ++ r = 40 :: (joinS [32] (vts (x :: xs)) ++ 41 :: r) := by rw [vt]; simp
    rw [e, outer_eq]
    obtain ⟨c, s, e2, h41⟩ : ∃ c s, joinS [32] (vts (x :: xs)) ++ 41 :: r = c :: s ∧ c ≠ 41 := by
      cases xs with
      | nil => exact canon_head h'.1 (41 :: r) (ends_cl r)
      | cons y ys =>
        have := canon_head h'.1 (32 :: (joinS [32] (vts (y :: ys)) ++ 41 :: r)) (ends_sp _)
        simpa [vts, joinS] using this
    have e3 : opnM (40 :: (joinS [32] (vts (x :: xs)) ++ 41 :: r)) stk = .opn (joinS [32] (vts (x :: xs)) ++ 41 :: r) := by
      unfold opnM
      dsimp only
      rw [if_neg (by decide), if_neg hf, e2]
      split
      · rename_i t e4
        injection e4 with e5 e6
        exact absurd e5 h41
      · rfl
    rw [e3]
    dsimp only
    have := read_list (x :: xs) [] r stk (by simp) h (by omega) hr
    rw [this]
    rfl
  | .non, _, _, h, _, _ => by cases h
  | .bl _, _, _, h, _, _ => by cases h
  | .ref _, _, _, h, _, _ => by cases h
theorem read_list : ∀ (l : List D) (f : List D) (r : List Nat) (stk : List (List D)), l ≠ [] → canons l = true → D.deps l + (stk.length + 1) ≤ 100 → ends r → outer (joinS [32] (vts l) ++ 41 :: r) (f :: stk) = afterV (.tup (f ++ l)) r stk
  | [], _, _, _, h, _, _, _ => absurd rfl h
  | [x], f, r, stk, _, h, hd, hr => by
    have h1 : canon x = true := by
      have : (canon x && true) = true := h
      rwa [Bool.and_true] at this
    have hx : x.dep + (f :: stk).length ≤ 100 := by
      have := deps_le (xs := [x]) (List.mem_cons_self ..)
      simp only [List.length_cons]
      omega
    have := read_back x (41 :: r) (f :: stk) h1 hx (ends_cl r)
    simp only [vts, joinS]
    rw [this]
    simp [afterV, clsM]
  | x :: y :: ys, f, r, stk, _, h, hd, hr => by
    have h1 : canon x = true ∧ canons (y :: ys) = true := by
      have : (canon x && canons (y :: ys)) = true := h
      rwa [Bool.and_eq_true] at this
    have hx : x.dep + (f :: stk).length ≤ 100 := by
      have := deps_le (xs := x :: y :: ys) (List.mem_cons_self ..)
      simp only [List.length_cons]
      omega
    have hds : D.deps (y :: ys) ≤ D.deps (x :: y :: ys) := by
      rw [D.deps.eq_2 x]
      exact Nat.le_max_right _ _
    have e : joinS [32] (vts (x :: y :: ys)) ++ 41 :: r = vt x ++ 32 :: (joinS [32] (vts (y :: ys)) ++ 41 :: r) := by simp [vts, joinS]
    rw [e, read_back x _ (f :: stk) h1.1 hx (ends_sp _)]
    have ih := read_list (y :: ys) (f ++ [x]) r stk (by simp) h1.2 (by omega) hr
    unfold afterV
    simp only [clsM, if_true]
    rw [ih]
    simp [afterV]
end
theorem read_written {v : D} (h : canon v = true) (hd : v.dep ≤ 100) : outer (vt v) [] = .ok v := by
  have := read_back v [] [] h (by simpa using hd) (fun c s e => by cases e)
  rw [List.append_nil] at this
  rw [this]
  simp [afterV, clsM]
end K00
set_option Elab.async false
set_option linter.all false
set_option autoImplicit false
set_option maxRecDepth 100000
set_option maxHeartbeats 4000000
/-! K00Q: run_end and read_plain by the evaluator. -/
namespace K00
open Fx
theorem cut_nat {α : Type} {t : List α} {a b : Nat} (h1 : a ≤ t.length) (h2 : b ≤ t.length) : cutX t (some (a : Int)) (some (b : Int)) = (t.drop a).take (b - a) := by
  unfold cutX sIx
  dsimp only
  rw [if_neg (by omega), if_neg (by omega)]
  rw [show min (a : Int).toNat t.length = a by omega, show min (b : Int).toNat t.length = b by omega]
theorem cnt_min (p : Nat → Bool) : ∀ (m : Nat) (r : List Nat), cnt p (min m r.length) r = cnt p m r
  | 0, r => by simp [cnt]
  | m + 1, [] => by simp [cnt]
  | m + 1, c :: r => by
    rw [List.length_cons, show min (m + 1) (r.length + 1) = min m r.length + 1 by omega]
    simp only [cnt]
    rw [cnt_min p m r]
theorem fns_1 : L.G.fns[1]? = some ⟨4, 5, b_run_end⟩ := rfl
theorem fns_2 : L.G.fns[2]? = some ⟨2, 4, b_read_plain⟩ := rfl
theorem whl_step {c : Env → Store → R Bool} {b e : Env → Store → SR} {n : Nat} {ρ ρ' : Env} {S S' : Store} (h1 : c ρ S = .ok true S) (h2 : b ρ S = .nx ρ' S') : whlL c b e (n + 1) ρ S = whlL c b e n ρ' S' := by
  rw [whlL, h1]
  dsimp only
  rw [h2]
theorem whl_end {c : Env → Store → R Bool} {b e : Env → Store → SR} {n : Nat} {ρ : Env} {S : Store} (h1 : c ρ S = .ok false S) : whlL c b e (n + 1) ρ S = e ρ S := by
  rw [whlL, h1]
def rhoE (t sg : List Nat) (m last a : Nat) : Env := [some (.str t), some (.int a), some (.str sg), some (.int m), some (.int last)]
theorem run_loop {cl : Orac} {S : Store} {t sg : List Nat} {m last : Nat} (hl : last ≤ t.length) (ht : t.length ≤ line) : ∀ (k a n : Nat), a + k = last → k < n →
    whlL (fun ρ S => tidyB S ((ev L.G cl none (.and (.cons (.cmp .Lt (.loc 1) (.loc 4)) (.cons (.cmp .In (.idx (.loc 0) (.loc 1)) (.loc 2)) .nil)))).t ρ S)) (exs L.G cl (.cons (.aug 1 .Add (.con (.int 1))) .nil) none) (exs L.G cl .nil none) n (rhoE t sg m last a) S =
      .nx (rhoE t sg m last (a + cnt (fun c => decide (c ∈ sg)) k (t.drop a))) S := by
  intro k
  induction k with
  | zero =>
    intro a n h hn
    obtain ⟨n, rfl⟩ : ∃ j, n = j + 1 := ⟨n - 1, by omega⟩
    rw [whl_end]
    · simp [cnt]
    · have : ¬ (a : Int) < (last : Int) := by omega
      simp [rhoE, this]
  | succ k ih =>
    intro a n h hn
    obtain ⟨n, rfl⟩ : ∃ j, n = j + 1 := ⟨n - 1, by omega⟩
    have ha : a < t.length := by omega
    have hlt : (a : Int) < (last : Int) := by omega
    have e : t.drop a = t[a] :: t.drop (a + 1) := List.drop_eq_getElem_cons ha
    have hat : atI t (a : Int) = some t[a] := by rw [atI_nat ha]; simp [ha]
    by_cases hc : t[a] ∈ sg
    · rw [whl_step (ρ' := rhoE t sg m last (a + 1)) (S' := S)]
      · rw [ih (a + 1) n (by omega) (by omega), e]
        simp [cnt, hc]
        rw [show a + 1 + cnt (fun c => decide (c ∈ sg)) k (List.drop (a + 1) t) = a + (cnt (fun c => decide (c ∈ sg)) k (List.drop (a + 1) t) + 1) by omega]
      · simp [rhoE, hlt, ht, hat, hc]
      · simp [rhoE, augR]
    · rw [whl_end]
      · rw [e]
        simp [cnt, hc]
      · simp [rhoE, hlt, ht, hat, hc]
theorem run_end_ok {n : Nat} {S : Store} {t sg : List Nat} {a m : Nat} (ha : a ≤ t.length) (ht : t.length ≤ line) : callN L.G (n + 1) 1 [.str t, .int a, .str sg, .int m] S = .ok (.int ((a + cnt (fun c => decide (c ∈ sg)) m (t.drop a) : Nat) : Int)) S := by
  rw [call_eq fns_1 rfl]
  have hmin : (if (a : Int) + (m : Int) < (t.length : Int) then (a : Int) + (m : Int) else (t.length : Int)) = ((min t.length (a + m) : Nat) : Int) := by
    split <;> omega
  have loop := run_loop (cl := callN L.G n) (S := S) (t := t) (sg := sg) (m := m) (last := min t.length (a + m)) (by omega) ht (min t.length (a + m) - a) a turns (by omega) (by
    have : turns = 1000000000000 := rfl
    have : line = 16777216 := rfl
    omega)
  have hc : cnt (fun c => decide (c ∈ sg)) (min t.length (a + m) - a) (t.drop a) = cnt (fun c => decide (c ∈ sg)) m (t.drop a) := by
    rw [← cnt_min _ m (t.drop a), List.length_drop]
    congr 1
    omega
  rw [hc] at loop
  unfold rhoE at loop
  simp [b_run_end, env0, ht, hmin]
  simp at loop
  rw [loop]
  simp
end K00
set_option Elab.async false
set_option linter.all false
set_option autoImplicit false
set_option maxRecDepth 100000
set_option maxHeartbeats 4000000
/-! K00R: read_plain by the evaluator. -/
namespace K00
open Fx
def letters : List Nat := [97, 98, 99, 100, 101, 102, 103, 104, 105, 106, 107, 108, 109, 110, 111, 112, 113, 114, 115, 116, 117, 118, 119, 120, 121, 122]
def digs : List Nat := [48, 49, 50, 51, 52, 53, 54, 55, 56, 57]
theorem mem_letters (c : Nat) : decide (c ∈ letters) = isL c := by
  rw [Bool.eq_iff_iff, decide_eq_true_eq, isL_iff]
  simp only [letters, List.mem_cons, List.not_mem_nil, or_false]
  omega
theorem mem_digs (c : Nat) : decide (c ∈ digs) = isDig c := by
  rw [Bool.eq_iff_iff, decide_eq_true_eq, isDig_iff]
  simp only [digs, List.mem_cons, List.not_mem_nil, or_false]
  omega
theorem fun_letters : (fun c => decide (c ∈ letters)) = isL := funext mem_letters
theorem fun_digs : (fun c => decide (c ∈ digs)) = isDig := funext mem_digs
theorem g0 : L.G.consts[0]? = some (.str letters) := rfl
theorem g1 : L.G.consts[1]? = some (.str digs) := rfl
theorem g2 : L.G.consts[2]? = some (.int 20) := rfl
theorem g3 : L.G.consts[3]? = some (.int 200) := rfl
theorem g4 : L.G.consts[4]? = some (.int 100) := rfl
theorem x1 : L.G.exc[1]? = some [1] := rfl
theorem drop_at {t : List Nat} {a c : Nat} {r : List Nat} (he : t.drop a = c :: r) : a < t.length ∧ atI t (a : Int) = some c ∧ t.drop (a + 1) = r ∧ t.length = a + r.length + 1 := by
  have h1 : a < t.length := by
    rcases Nat.lt_or_ge a t.length with h | h
    · exact h
    · rw [List.drop_eq_nil_of_le h] at he; cases he
  have h2 := List.drop_eq_getElem_cons h1
  rw [he] at h2
  injection h2 with h3 h4
  refine ⟨h1, ?_, h4.symm, ?_⟩
  · rw [atI_nat h1, List.getElem?_eq_getElem h1, h3]
  · have := congrArg List.length he
    rw [List.length_drop, List.length_cons] at this
    omega
theorem drop_nil {t : List Nat} {a : Nat} (he : t.drop a = []) (ha : a ≤ t.length) : a = t.length := by
  have := congrArg List.length he
  rw [List.length_drop, List.length_nil] at this
  omega
theorem read_plain_ok {n : Nat} {S : Store} {t : List Nat} {a c : Nat} {r : List Nat} (he : t.drop a = c :: r) (ht : t.length ≤ line) : callN L.G (n + 2) 2 [.str t, .int a] S = match plain c r with
    | .err e => .exn 1 [(1, .int ((t.length - e : Nat) : Int))] S
    | .val v s => .ok (.tup [v, .int ((t.length - s.length : Nat) : Int)]) S
    | .opn _ => .stuck := by
  rw [call_eq fns_2 rfl]
  obtain ⟨ha, hat, hd, hlen⟩ := drop_at he
  have hl2 : ¬ (2 : Nat) > line := by decide
  unfold plain
  by_cases hL : isL c = true
  · have hm : c ∈ letters := by have := mem_letters c; rw [hL] at this; exact of_decide_eq_true this
    have call := run_end_ok (n := n) (S := S) (t := t) (sg := letters) (a := a) (m := 20) (by omega) ht
    rw [fun_letters, he] at call
    have hk := (cnt_le isL 20 (c :: r)).2
    simp only [List.length_cons] at hk
    have hcut : cutX t (some (a : Int)) (some ((a + cnt isL 20 (c :: r) : Nat) : Int)) = (c :: r).take (cnt isL 20 (c :: r)) := by
      rw [cut_nat (by omega) (by omega), he, Nat.add_sub_cancel_left]
    have he2 : t.length - ((c :: r).drop (cnt isL 20 (c :: r))).length = a + cnt isL 20 (c :: r) := by
      rw [List.length_drop, List.length_cons]; omega
    rw [if_pos hL]
    dsimp only
    rw [he2]
    have call' : callN L.G (n + 1) 1 [.str t, .int a, .str letters, .int 20] S = .ok (.int ((a + cnt isL 20 (c :: r) : Nat) : Int)) S := call
    simp only [b_read_plain, env0, ss_cons, s_ifs_, t_cmp, v_cmp, v_idx, v_loc, getL_0, getL_1, R.bind_ok, i_str, if_pos ht, hat, Option.map_some, optR_some, v_glo, g0, c_in, in_str1, decide_eq_true hm, tst_ok, tr_bl, tidyB_same, R.toS_ok, if_true, s_asg_, v_call, vs_cons, vs_nil, g2, call', tidy_same,
      List.map_cons, List.map_nil, List.replicate, List.cons_append, List.nil_append, Nat.sub_self, setN_2, setN_1, setN_0, push_nx, SR.bind_nx, s_ret_, v_tup, v_cut, getL_2, partV_ok, int_of, cut_str, hcut, List.length_cons, List.length_nil, show (2 : Nat) ≤ line from by decide, SR.bind_ret, done_ret, show (4 - 2 : Nat) = 2 from rfl, ifK_ok, seqK_nx, seqK_ret, ss_nil]
  · rw [if_neg hL]
    have hL' : isL c = false := by simpa using hL
    have hm : ¬ c ∈ letters := fun h => by
      have := mem_letters c
      rw [hL', decide_eq_true h] at this
      cases this
    -- where the digits begin
    obtain ⟨f, q, hf, hq, hfa, hf2⟩ : ∃ (f : Nat) (q : List Nat), (if c = 45 then r else c :: r) = q ∧ t.drop f = q ∧ f ≤ t.length ∧ ((c = 45 ∧ f = a + 1) ∨ (c ≠ 45 ∧ f = a)) := by
      by_cases h : c = 45
      · exact ⟨a + 1, r, by rw [if_pos h], hd, by omega, .inl ⟨h, rfl⟩⟩
      · exact ⟨a, c :: r, by rw [if_neg h], he, by omega, .inr ⟨h, rfl⟩⟩
    rw [hf]
    have efirst : (if c = 45 then (R.ok (.int ((a : Int) + 1)) S : R D) else .ok (.int (a : Int)) S) = .ok (.int (f : Int)) S := by
      rcases hf2 with ⟨h1, h2⟩ | ⟨h1, h2⟩
      · rw [if_pos h1, h2]; rfl
      · rw [if_neg h1, h2]
    have hgt : decide ((a : Int) < (f : Int)) = decide (c = 45) := by
      rcases hf2 with ⟨h1, h2⟩ | ⟨h1, h2⟩
      · rw [decide_eq_true h1]; exact decide_eq_true (by omega)
      · rw [decide_eq_false h1]; exact decide_eq_false (by omega)
    cases q with
    | nil =>
      have hfl := drop_nil hq hfa
      have hfe : ((f : Int) = (t.length : Int)) := by omega
      simp [b_read_plain, env0, ht, hat, g0, hm, efirst, hfe, x1]
    | cons d s =>
      obtain ⟨b1, b2, b3, b4⟩ := drop_at hq
      have hfe : ¬ ((f : Int) = (t.length : Int)) := by omega
      dsimp only
      by_cases hbad : isDig d = false ∨ (d = 48 ∧ c = 45)
      · rw [if_pos hbad]
        dsimp only
        have hb : (!decide (d ∈ digs) || (decide (d = 48) && decide (c = 45))) = true := by
          rw [mem_digs]
          rcases hbad with h | ⟨h1, h2⟩
          · rw [h]; rfl
          · rw [decide_eq_true h1, decide_eq_true h2]; simp
        have hpos : t.length - (s.length + 1) = f := by omega
        rw [hpos]
        by_cases hdm : d ∈ digs
        · have h48 : d = 48 ∧ c = 45 := by
            rcases hbad with h | h
            · have := mem_digs d
              rw [h, decide_eq_true hdm] at this
              cases this
            · exact h
          obtain ⟨hd48, hc45⟩ := h48
          subst hd48 hc45
          simp only [if_true] at efirst
          simp at hgt
          simp [b_read_plain, env0, ht, hat, g0, hm, efirst, hfe, x1, g1, b2, hdm, hgt]
        · simp [b_read_plain, env0, ht, hat, g0, hm, efirst, hfe, x1, g1, b2, hdm]
      · rw [if_neg hbad]
        have hd1 : isDig d = true := by
          cases e : isDig d with
          | true => rfl
          | false => exact absurd (.inl e) hbad
        have hdm : d ∈ digs := by have := mem_digs d; rw [hd1] at this; exact of_decide_eq_true this
        by_cases h48 : d = 48
        · rw [if_pos h48]
          dsimp only
          have h45 : c ≠ 45 := fun h => hbad (.inr ⟨h48, h⟩)
          have hpos : ((t.length - s.length : Nat) : Int) = (f : Int) + 1 := by omega
          obtain rfl : f = a := by
            rcases hf2 with ⟨h1, h2⟩ | ⟨h1, h2⟩
            · exact absurd h1 h45
            · exact h2
          subst h48
          have e1 : c = 48 := by rw [hat] at b2; exact Option.some.inj b2
          subst e1
          simp [b_read_plain, env0, ht, hat, g0, hm, hfe, x1, g1, hdm, hpos, show (2 : Nat) ≤ line from by decide]
        · rw [if_neg h48]
          have call := run_end_ok (n := n) (S := S) (t := t) (sg := digs) (a := f) (m := 200) hfa ht
          rw [fun_digs, hq] at call
          have hk := (cnt_le isDig 200 (d :: s)).2
          have hk2 := (cnt_le isDig 200 (d :: s)).1
          simp only [List.length_cons] at hk
          have he2 : t.length - ((d :: s).drop (cnt isDig 200 (d :: s))).length = f + cnt isDig 200 (d :: s) := by
            rw [List.length_drop, List.length_cons]; omega
          dsimp only
          rw [he2]
          have call' : callN L.G (n + 1) 1 [.str t, .int f, .str digs, .int 200] S = .ok (.int ((f + cnt isDig 200 (d :: s) : Nat) : Int)) S := call
          have hall := cnt_all isDig 200 (d :: s)
          have hk1 : cnt isDig 200 (d :: s) = cnt isDig 199 s + 1 := by simp [cnt, hd1]
          have htk : (d :: s).take (cnt isDig 200 (d :: s)) = d :: s.take (cnt isDig 199 s) := by rw [hk1, List.take_succ_cons]
          have hcut : cutX t (some (a : Int)) (some ((f + cnt isDig 200 (d :: s) : Nat) : Int)) = (if c = 45 then [45] else []) ++ (d :: s).take (cnt isDig 200 (d :: s)) := by
            rw [cut_nat (by omega) (by omega), he]
            rcases hf2 with ⟨h1, h2⟩ | ⟨h1, h2⟩
            · rw [if_pos h1] at hf
              subst hf
              rw [if_pos h1, h1, h2, show a + 1 + cnt isDig 200 (d :: s) - a = cnt isDig 200 (d :: s) + 1 by omega, List.take_succ_cons]
              rfl
            · rw [if_neg h1] at hf
              rw [if_neg h1, h2, hf, Nat.add_sub_cancel_left]
              rfl
          have hint : bltF .int [.str ((if c = 45 then [45] else []) ++ (d :: s).take (cnt isDig 200 (d :: s)))] S = .ok (.int (intT ((if c = 45 then [45] else []) ++ (d :: s).take (cnt isDig 200 (d :: s))))) S := by
            have hlen2 : ((if c = 45 then [45] else []) ++ (d :: s).take (cnt isDig 200 (d :: s)) : List Nat).length ≤ 640 := by
              rw [List.length_append, List.length_take]
              split <;> simp <;> omega
            have hr : ∃ i, readInt ((if c = 45 then [45] else []) ++ (d :: s).take (cnt isDig 200 (d :: s))) = some i := by
              rw [htk] at hall ⊢
              split
              · exact ⟨_, readInt_neg hall⟩
              · exact ⟨_, readInt_pos hall⟩
            obtain ⟨i, hi⟩ := hr
            unfold intT
            rw [hi]
            unfold bltF fInt
            dsimp only
            rw [if_pos hlen2, hi]
            rfl
          simp [b_read_plain, env0, ht, hat, g0, hm, efirst, hfe, x1, g1, g3, b2, hdm, hgt, h48, call', hcut, hint, show (2 : Nat) ≤ line from by decide, -List.take_append_drop, -Int.natCast_add]
end K00
set_option Elab.async false
set_option linter.all false
set_option autoImplicit false
set_option maxRecDepth 100000
set_option maxHeartbeats 4000000
/-! K00S: read_value by the evaluator. -/
namespace K00
open Fx
/-! ### the store while read_value runs -/
inductive Fr (S : Store) : List Nat → List (List D) → Prop
  | nil : Fr S [] []
  | cons {a : Nat} {f : List D} {as : List Nat} {stk : List (List D)} (h : S[a]? = some (.lst f)) (t : Fr S as stk) : Fr S (a :: as) (f :: stk)
theorem Fr.len {S : Store} {as : List Nat} {stk : List (List D)} (h : Fr S as stk) : as.length = stk.length := by
  induction h with
  | nil => rfl
  | cons _ _ ih => simp [ih]
theorem Fr.mono {S S' : Store} {as : List Nat} {stk : List (List D)} (h : Fr S as stk) (k : ∀ a ∈ as, ∀ o, S[a]? = some o → S'[a]? = some o) : Fr S' as stk := by
  induction h with
  | nil => exact .nil
  | cons h t ih => exact .cons (k _ (List.mem_cons_self ..) _ h) (ih fun a ha => k a (List.mem_cons_of_mem _ ha))
theorem Fr.lt {S : Store} {as : List Nat} {stk : List (List D)} (h : Fr S as stk) : ∀ a ∈ as, a < S.length := by
  induction h with
  | nil => intro a ha; cases ha
  | cons h t ih =>
    intro a ha
    rcases List.mem_cons.mp ha with rfl | ha
    · exact (List.getElem?_eq_some_iff.mp h).1
    · exact ih a ha
structure Inv (S0 S : Store) (as : List Nat) (stk : List (List D)) : Prop where
  pre : S.take S0.length = S0
  bs : S[S0.length]? = some (.lst (as.reverse.map D.ref))
  nd : as.Nodup
  ge : ∀ a ∈ as, S0.length < a
  fr : Fr S as stk
theorem take_set {S0 S : Store} {n : Nat} {o : O} (h : S.take S0.length = S0) (hn : S0.length ≤ n) : (S.set n o).take S0.length = S0 := by
  rw [List.take_set_of_le hn]
  exact h
theorem inv_app {S0 S : Store} {a : Nat} {as : List Nat} {f : List D} {fs : List (List D)} (I : Inv S0 S (a :: as) (f :: fs)) (v : D) : Inv S0 (S.set a (.lst (f ++ [v]))) (a :: as) ((f ++ [v]) :: fs) := by
  have ha := I.ge a (List.mem_cons_self ..)
  have hlt := I.fr.lt a (List.mem_cons_self ..)
  have nd := List.nodup_cons.mp I.nd
  cases I.fr with
  | cons h t =>
    exact ⟨take_set I.pre (by omega), by rw [List.getElem?_set_ne (by omega)]; exact I.bs, I.nd, I.ge, .cons (by rw [List.getElem?_set_self hlt]) (t.mono fun b hb o e => by rw [List.getElem?_set_ne (fun z => nd.1 (by rw [z]; exact hb))]; exact e)⟩
theorem inv_pop {S0 S : Store} {a : Nat} {as : List Nat} {f : List D} {fs : List (List D)} (I : Inv S0 S (a :: as) (f :: fs)) : Inv S0 (S.set S0.length (.lst (as.reverse.map D.ref))) as fs := by
  have hlt : S0.length < S.length := (List.getElem?_eq_some_iff.mp I.bs).1
  cases I.fr with
  | cons h t =>
    exact ⟨take_set I.pre (Nat.le_refl _), by rw [List.getElem?_set_self hlt], (List.nodup_cons.mp I.nd).2, fun b hb => I.ge b (List.mem_cons_of_mem _ hb), t.mono fun b hb o e => by
      have := I.ge b (List.mem_cons_of_mem _ hb)
      rw [List.getElem?_set_ne (by omega)]; exact e⟩
theorem inv_push {S0 S : Store} {as : List Nat} {stk : List (List D)} (I : Inv S0 S as stk) : Inv S0 ((S ++ [O.lst []] : Store).set S0.length (O.lst (as.reverse.map D.ref ++ [D.ref S.length]))) (S.length :: as) ([] :: stk) := by
  have hlt : S0.length < S.length := (List.getElem?_eq_some_iff.mp I.bs).1
  refine ⟨take_set ?_ (Nat.le_refl _), ?_, ?_, ?_, .cons ?_ (I.fr.mono fun b hb o e => ?_)⟩
  · rw [List.take_append_of_le_length (by omega)]; exact I.pre
  · rw [List.getElem?_set_self (by simp; omega)]; simp
  · rw [List.nodup_cons]
    exact ⟨fun h => absurd (I.fr.lt _ h) (Nat.lt_irrefl _), I.nd⟩
  · intro b hb
    rcases List.mem_cons.mp hb with rfl | hb
    · exact hlt
    · exact I.ge b hb
  · rw [List.getElem?_set_ne (by omega)]; simp
  · have h1 := I.ge b hb
    have h2 := I.fr.lt b hb
    rw [List.getElem?_set_ne (by omega), List.getElem?_append_left h2]
    exact e
theorem tidy_take {S S' : Store} {d : D} (h : S'.take S.length = S) (w : d.wf S.length = true) : tidy S (.ok d S') = .ok d S := by
  unfold tidy
  dsimp only
  by_cases e : S'.length = S.length
  · rw [if_pos e]
    rw [← e, List.take_length] at h
    rw [h]
  · rw [if_neg e, if_pos h, if_pos w]
theorem tidy_take_exn {S S' : Store} {C : Nat} {fs : List (Nat × D)} (h : S'.take S.length = S) (w : D.wfs S.length (fs.map (·.2)) = true) : tidy S (.exn C fs S') = .exn C fs S := by
  unfold tidy
  dsimp only
  by_cases e : S'.length = S.length
  · rw [if_pos e]
    rw [← e, List.take_length] at h
    rw [h]
  · rw [if_neg e, if_pos h, if_pos w]
theorem tidy_keep {S S' : Store} {d : D} (h : S'.take S.length ≠ S) : tidy S (.ok d S') = .ok d S' := by
  unfold tidy
  dsimp only
  by_cases e : S'.length = S.length
  · rw [if_pos e]
  · rw [if_neg e, if_neg h]
mutual
theorem good_wf {k : Nat} : ∀ d : D, good d = true → d.wf k = true
  | .int _, _ => rfl
  | .str _, _ => rfl
  | .tup xs, h => by
    exact goods_wf (k := k) xs (show goods xs = true from h)
  | .non, h => by cases h
  | .bl _, h => by cases h
  | .ref _, h => by cases h
theorem goods_wf {k : Nat} : ∀ d : List D, goods d = true → D.wfs k d = true
  | [], _ => rfl
  | x :: xs, h => by
    have h' : good x = true ∧ goods xs = true := by simpa [goods] using h
    simp [D.wfs, good_wf x h'.1, goods_wf xs h'.2]
end
/-! ### the inner loop -/
def cI (cl : Orac) : Env → Store → R Bool := fun ρ S => tidyB S ((ev L.G cl none (.loc 1)).t ρ S)
def bIs : FSs :=
    (.cons (.expr (.mth .append (.idx (.loc 1) (.neg (.con (.int 1)))) (.cons (.loc 3) .nil)))
    (.cons (.ifs (.or (.cons (.cmp .Eq (.loc 2) (.blt .len (.cons (.loc 0) .nil))) (.cons (.cmp .NotIn (.idx (.loc 0) (.loc 2)) (.con (.str [32, 41]))) .nil))) (.cons (.rais 1 (.cons (.loc 2) .nil))
    .nil) .nil)
    (.cons (.aug 2 .Add (.con (.int 1)))
    (.cons (.ifs (.cmp .Eq (.idx (.loc 0) (.bin .Sub (.loc 2) (.con (.int 1)))) (.con (.str [32]))) (.cons .brk
    .nil) .nil)
    (.cons (.asg 3 (.blt .tuple (.cons (.mth .pop (.loc 1) .nil) .nil)))
    .nil)))))
def eIs : FSs :=
    (.cons (.ifs (.cmp .Lt (.loc 2) (.blt .len (.cons (.loc 0) .nil))) (.cons (.rais 1 (.cons (.loc 2) .nil))
    .nil) .nil)
    (.cons (.ret (.loc 3))
    .nil))
def rhoV (t : List Nat) (b a : Nat) (v : Option D) : Env := [some (.str t), some (.ref b), some (.int a), v]
theorem atI_last {α : Type} (xs : List α) (x : α) : atI (xs ++ [x]) (-1) = some x := by
  unfold atI ixN
  rw [if_neg (by decide), if_pos (by simp; omega)]
  have : (-1 + ((xs ++ [x]).length : Int)).toNat = xs.length := by simp; omega
  rw [this]
  simp
def posOf (t : List Nat) (e : Nat) : D := .int ((t.length - e : Nat) : Int)
theorem inner_loop {cl : Orac} {S0 : Store} {t : List Nat} (ht : t.length < line) : ∀ (stk : List (List D)) (v : D) (a n : Nat) (as : List Nat) (S : Store) (r : List Nat), Inv S0 S as stk → t.drop a = r → a ≤ t.length → stk.length < n → stk.length ≤ 100 → (∀ f ∈ stk, f.length < a) →
    match clsM v r stk with
    | .err e => ∃ ρ' S', S'.take S0.length = S0 ∧ whlL (cI cl) (exs L.G cl bIs none) (exs L.G cl eIs none) n (rhoV t S0.length a (some v)) S = .exn 1 [(1, posOf t e)] ρ' S'
    | .done w => ∃ S', S'.take S0.length = S0 ∧ whlL (cI cl) (exs L.G cl bIs none) (exs L.G cl eIs none) n (rhoV t S0.length a (some v)) S = .ret w S'
    | .cont s stk' => ∃ as' S' a' v', Inv S0 S' as' stk' ∧ t.drop a' = s ∧ a' ≤ t.length ∧ (∀ f ∈ stk', f.length ≤ a') ∧ stk'.length ≤ 100 ∧ whlL (cI cl) (exs L.G cl bIs none) (exs L.G cl eIs none) n (rhoV t S0.length a (some v)) S = .nx (rhoV t S0.length a' (some v')) S' := by
  intro stk
  induction stk with
  | nil =>
    intro v a n as S r I hr ha hn h100 hfl
    obtain ⟨n, rfl⟩ : ∃ j, n = j + 1 := ⟨n - 1, by omega⟩
    have has : as = [] := List.length_eq_zero_iff.mp (by rw [I.fr.len]; rfl)
    subst has
    have hb : lstOf S S0.length = some [] := lst_is S I.bs
    have hc : cI cl (rhoV t S0.length a (some v)) S = .ok false S := by simp [cI, rhoV, hb]
    unfold clsM
    rw [whl_end hc]
    have htl : t.length ≤ line := by omega
    cases r with
    | nil =>
      have e := drop_nil hr ha
      rw [if_pos rfl]
      refine ⟨S, I.pre, ?_⟩
      have : ¬ (a : Int) < (t.length : Int) := by omega
      simp [eIs, rhoV, htl, this]
    | cons c s =>
      obtain ⟨b1, b2, b3, b4⟩ := drop_at hr
      rw [if_neg (by simp)]
      refine ⟨rhoV t S0.length a (some v), S, I.pre, ?_⟩
      have h1 : (a : Int) < (t.length : Int) := by omega
      have h2 : posOf t (c :: s).length = .int (a : Int) := by unfold posOf; rw [List.length_cons]; congr 1; omega
      rw [h2]
      simp [eIs, rhoV, htl, h1, x1]
  | cons f fs ih =>
    intro v a n as S r I hr ha hn h100 hfl
    obtain ⟨n, rfl⟩ : ∃ j, n = j + 1 := ⟨n - 1, by omega⟩
    cases as with
    | nil => have := I.fr.len; simp at this
    | cons a0 as =>
      have htl : t.length ≤ line := by omega
      have hrv : as.reverse.map D.ref = (as.map D.ref).reverse := List.map_reverse
      have hb' : (a0 :: as).reverse.map D.ref = (as.map D.ref).reverse ++ [D.ref a0] := by simp
      have hb : lstOf S S0.length = some ((as.map D.ref).reverse ++ [D.ref a0]) := by rw [lst_is S I.bs, hb']
      have hc : cI cl (rhoV t S0.length a (some v)) S = .ok true S := by
        simp [cI, rhoV, hb]
      have hf0 : S[a0]? = some (.lst f) := by cases I.fr with | cons h t => exact h
      have hlf : f.length < line := by
        have := hfl f (List.mem_cons_self ..)
        omega
      have I1 := inv_app I v
      generalize hS1 : S.set a0 (.lst (f ++ [v])) = S1 at I1
      have st1 : ex L.G cl (.expr (.mth .append (.idx (.loc 1) (.neg (.con (.int 1)))) (.cons (.loc 3) .nil))) none (rhoV t S0.length a (some v)) S = .nx (rhoV t S0.length a (some v)) S1 := by
        have h1 : atI ((as.map D.ref).reverse ++ [D.ref a0]) (-1) = some (D.ref a0) := atI_last _ _
        have h2 := m_app S (d := v) hf0 hlf
        have h3 : (lstOf S a0).isSome = true := by rw [lst_is S hf0]; rfl
        rw [hS1] at h2
        have h4 : S1.length = S.length := by rw [← hS1, List.length_set]
        have h5 : tidy S (.ok D.non S1) = .ok D.non S1 := tidy_len h4
        simp [rhoV, hb, h1, h2, h3, h5]
      unfold clsM
      cases r with
      | nil =>
        have e := drop_nil hr ha
        refine ⟨rhoV t S0.length a (some v), S1, I1.pre, ?_⟩
        rw [whlL, hc]
        dsimp only
        have h2 : posOf t 0 = .int (a : Int) := by unfold posOf; congr 1; omega
        have h3 : (a : Int) = (t.length : Int) := by omega
        have : exs L.G cl bIs none (rhoV t S0.length a (some v)) S = .exn 1 [(1, posOf t 0)] (rhoV t S0.length a (some v)) S1 := by
          rw [h2]
          unfold bIs
          rw [ss_cons, st1, seqK_nx]
          simp [rhoV, htl, h3, x1]
        rw [this]
      | cons c s =>
        obtain ⟨b1, b2, b3, b4⟩ := drop_at hr
        have hne : ¬ (a : Int) = (t.length : Int) := by omega
        dsimp only
        by_cases h32 : c = 32
        · subst h32
          rw [if_pos rfl]
          refine ⟨a0 :: as, S1, a + 1, v, I1, b3, by omega, ?_, by simpa using h100, ?_⟩
          · intro g hg
            rcases List.mem_cons.mp hg with rfl | hg
            · have := hfl f (List.mem_cons_self ..)
              simp
              omega
            · have := hfl g (List.mem_cons_of_mem _ hg)
              omega
          · rw [whlL, hc]
            dsimp only
            have : exs L.G cl bIs none (rhoV t S0.length a (some v)) S = .brk (rhoV t S0.length (a + 1) (some v)) S1 := by
              unfold bIs
              rw [ss_cons, st1, seqK_nx]
              have h4 : ((a : Int) + 1 - 1) = (a : Int) := by omega
              simp [rhoV, htl, hne, b2, augR, h4]
            rw [this]
        · rw [if_neg h32]
          by_cases h41 : c = 41
          · subst h41
            rw [if_pos rfl]
            have I2 := inv_pop I1
            rw [hrv] at I2
            generalize hS2 : S1.set S0.length (O.lst (as.map D.ref).reverse) = S2 at I2
            have step : exs L.G cl bIs none (rhoV t S0.length a (some v)) S = .nx (rhoV t S0.length (a + 1) (some (.tup (f ++ [v])))) S2 := by
              unfold bIs
              rw [ss_cons, st1, seqK_nx]
              have h4 : ((a : Int) + 1 - 1) = (a : Int) := by omega
              have hb1 : S1[S0.length]? = some (O.lst ((as.map D.ref).reverse ++ [D.ref a0])) := by rw [I1.bs, hb']
              have hp := m_pop S1 hb1
              have hs1 : (lstOf S1 S0.length).isSome = true := by rw [lst_is S1 hb1]; rfl
              rw [hS2] at hp
              have hf2 : S2[a0]? = some (.lst (f ++ [v])) := by
                have g1 := I.ge a0 (List.mem_cons_self ..)
                rw [← hS2, List.getElem?_set_ne (by omega), ← hS1, List.getElem?_set_self (I.fr.lt a0 (List.mem_cons_self ..))]
              have hft := f_tuple S2 (lst_is S2 hf2)
              have hlen : S2.length = S1.length := by rw [← hS2, List.length_set]
              have htd : tidy S1 (.ok (.tup (f ++ [v])) S2) = .ok (.tup (f ++ [v])) S2 := tidy_len hlen
              simp [rhoV, htl, hne, b2, augR, h4, hs1, hp, hft, htd]
            rw [whl_step hc step]
            exact ih (.tup (f ++ [v])) (a + 1) n as S2 s I2 b3 (by omega) (by simp at hn; omega) (by simp at h100; omega) fun g hg => by
              have := hfl g (List.mem_cons_of_mem _ hg)
              omega
          · rw [if_neg h41]
            refine ⟨rhoV t S0.length a (some v), S1, I1.pre, ?_⟩
            rw [whlL, hc]
            dsimp only
            have h2 : posOf t (s.length + 1) = .int (a : Int) := by unfold posOf; congr 1; omega
            have : exs L.G cl bIs none (rhoV t S0.length a (some v)) S = .exn 1 [(1, posOf t (s.length + 1))] (rhoV t S0.length a (some v)) S1 := by
              rw [h2]
              unfold bIs
              rw [ss_cons, st1, seqK_nx]
              simp [rhoV, htl, hne, b2, x1, h32, h41]
            rw [this]
end K00
set_option Elab.async false
set_option linter.all false
set_option autoImplicit false
set_option maxRecDepth 100000
set_option maxHeartbeats 4000000
/-! K00T: read_value by the evaluator. -/
namespace K00
open Fx
theorem fns_3 : L.G.fns[3]? = some ⟨1, 4, b_read_value⟩ := rfl
def oIs : FSs :=
    (.cons (.ifs (.cmp .Eq (.loc 2) (.blt .len (.cons (.loc 0) .nil))) (.cons (.rais 1 (.cons (.loc 2) .nil))
    .nil) .nil)
    (.cons (.ifs (.cmp .NotEq (.idx (.loc 0) (.loc 2)) (.con (.str [40]))) (.cons (.asgT [3, 2] (.call 2 (.cons (.loc 0) (.cons (.loc 2) .nil))))
    .nil) (.cons (.ifs (.cmp .Eq (.blt .len (.cons (.loc 1) .nil)) (.glo 4)) (.cons (.rais 1 (.cons (.loc 2) .nil))
    .nil) .nil)
    (.cons (.aug 2 .Add (.con (.int 1)))
    (.cons (.ifs (.or (.cons (.cmp .Eq (.loc 2) (.blt .len (.cons (.loc 0) .nil))) (.cons (.cmp .NotEq (.idx (.loc 0) (.loc 2)) (.con (.str [41]))) .nil))) (.cons (.expr (.mth .append (.loc 1) (.cons (.lst .nil) .nil)))
    (.cons .cnt
    .nil)) .nil)
    (.cons (.asg 3 (.tup .nil))
    (.cons (.aug 2 .Add (.con (.int 1)))
    .nil))))))
    (.cons (.whl (.loc 1) bIs eIs)
    .nil)))
theorem b_is : b_read_value = .cons (.asg 1 (.lst .nil)) (.cons (.asg 2 (.con (.int 0))) (.cons (.whl (.con (.bl true)) oIs .nil) .nil)) := rfl
@[simp] theorem setTs_32 (a b c d : Option D) (v p : D) (S : Store) : setTs [a, b, c, d] [3, 2] (.tup [v, p]) S = .nx [a, b, some p, some v] S := rfl
def cO (cl : Orac) : Env → Store → R Bool := fun ρ S => tidyB S ((ev L.G cl none (.con (.bl true))).t ρ S)
theorem cO_ok (cl : Orac) (ρ : Env) (S : Store) : cO cl ρ S = .ok true S := by simp [cO]
theorem tidy_push {S : Store} {k : Nat} {xs ys : List D} (h : S[k]? = some (.lst xs)) (hn : xs ≠ ys) (o : O) (d : D) : tidy S (.ok d ((S ++ [o] : Store).set k (.lst ys))) = .ok d ((S ++ [o] : Store).set k (.lst ys)) := by
  refine tidy_keep fun e => ?_
  have hk : k < S.length := (List.getElem?_eq_some_iff.mp h).1
  have h1 : (((S ++ [o] : Store).set k (.lst ys)).take S.length)[k]? = some (.lst ys) := by
    rw [List.getElem?_take_of_lt hk, List.getElem?_set_self (by simp; omega)]
  rw [e, h] at h1
  injection h1 with h2
  injection h2 with h3
  exact hn h3
theorem whl_on {c : Env → Store → R Bool} {b e : Env → Store → SR} {n : Nat} {ρ : Env} {S : Store} {r : SR} (h1 : c ρ S = .ok true S) (h2 : b ρ S = r) : whlL c b e (n + 1) ρ S = match (generalizing := false) r with
    | .nx ρ' S' => whlL c b e n ρ' S'
    | .cnt ρ' S' => whlL c b e n ρ' S'
    | .brk ρ' S' => .nx ρ' S'
    | r => r := by
  rw [whlL, h1]
  dsimp only
  first
    | (rw [h2]; done)
    | (rw [h2]; cases r <;> rfl)
theorem outer_loop {m : Nat} {S0 : Store} {t : List Nat} (ht : t.length < line) : ∀ (k : Nat) (r : List Nat) (stk : List (List D)) (a n : Nat) (as : List Nat) (S : Store) (v0 : Option D), r.length ≤ k → Inv S0 S as stk → t.drop a = r → a ≤ t.length → r.length < n → stk.length ≤ 100 → (∀ f ∈ stk, f.length ≤ a) →
    match outer r stk with
    | .err e => ∃ ρ' S', S'.take S0.length = S0 ∧ whlL (cO (callN L.G (m + 2))) (exs L.G (callN L.G (m + 2)) oIs none) (exs L.G (callN L.G (m + 2)) .nil none) n (rhoV t S0.length a v0) S = .exn 1 [(1, posOf t e)] ρ' S'
    | .ok w => ∃ S', S'.take S0.length = S0 ∧ whlL (cO (callN L.G (m + 2))) (exs L.G (callN L.G (m + 2)) oIs none) (exs L.G (callN L.G (m + 2)) .nil none) n (rhoV t S0.length a v0) S = .ret w S' := by
  intro k
  induction k with
  | zero =>
    intro r stk a n as S v0 hk I hr ha hn h100 hfl
    have hr0 : r = [] := List.length_eq_zero_iff.mp (by omega)
    subst hr0
    obtain ⟨n, rfl⟩ : ∃ j, n = j + 1 := ⟨n - 1, by omega⟩
    have e := drop_nil hr ha
    have htl : t.length ≤ line := by omega
    rw [outer_eq]
    simp only [opnM]
    refine ⟨rhoV t S0.length a v0, S, I.pre, ?_⟩
    have h2 : posOf t 0 = .int (a : Int) := by unfold posOf; congr 1; omega
    have h3 : (a : Int) = (t.length : Int) := by omega
    rw [whl_on (r := .exn 1 [(1, posOf t 0)] (rhoV t S0.length a v0) S) (cO_ok _ _ _)]
    rw [h2]
    unfold oIs
    simp [rhoV, htl, h3, x1]
  | succ k ih =>
    intro r stk a n as S v0 hk I hr ha hn h100 hfl
    obtain ⟨n, rfl⟩ : ∃ j, n = j + 1 := ⟨n - 1, by omega⟩
    have htl : t.length ≤ line := by omega
    -- behind a value: the inner loop
    have aft : ∀ (ρ1 : Env) (v : D) (s : List Nat) (a1 : Nat), exs L.G (callN L.G (m + 2)) oIs none (rhoV t S0.length a v0) S = ((whlL (cI (callN L.G (m + 2))) (exs L.G (callN L.G (m + 2)) bIs none) (exs L.G (callN L.G (m + 2)) eIs none) turns (rhoV t S0.length a1 (some v)) S).bind fun ρ' S' => .nx ρ' S') →
        s.length < r.length → t.drop a1 = s → a1 ≤ t.length → a < a1 → match afterV v s stk with
      | .err e => ∃ ρ' S', S'.take S0.length = S0 ∧ whlL (cO (callN L.G (m + 2))) (exs L.G (callN L.G (m + 2)) oIs none) (exs L.G (callN L.G (m + 2)) .nil none) (n + 1) (rhoV t S0.length a v0) S = .exn 1 [(1, posOf t e)] ρ' S'
      | .ok w => ∃ S', S'.take S0.length = S0 ∧ whlL (cO (callN L.G (m + 2))) (exs L.G (callN L.G (m + 2)) oIs none) (exs L.G (callN L.G (m + 2)) .nil none) (n + 1) (rhoV t S0.length a v0) S = .ret w S' := fun _ v s a1 hb hs hd ha1 hlt => by
      have q := inner_loop (cl := callN L.G (m + 2)) (S0 := S0) ht stk v a1 turns as S s I hd ha1 (by
        have : turns = 1000000000000 := rfl
        omega) h100 (fun f hf => by have := hfl f hf; omega)
      unfold afterV
      cases e : clsM v s stk with
      | err e2 =>
        rw [e] at q
        obtain ⟨ρ', S', p1, p2⟩ := q
        rw [p2] at hb
        exact ⟨ρ', S', p1, by rw [whl_on (cO_ok _ _ _) hb]; rfl⟩
      | done w =>
        rw [e] at q
        obtain ⟨S', p1, p2⟩ := q
        rw [p2] at hb
        exact ⟨S', p1, by rw [whl_on (cO_ok _ _ _) hb]; rfl⟩
      | cont s2 stk2 =>
        rw [e] at q
        obtain ⟨as2, S2, a2, v2, I2, p1, p2, p3, p4, p5⟩ := q
        rw [p5] at hb
        have hl := cls_cont e
        have := ih s2 stk2 a2 n as2 S2 (some v2) (by omega) I2 p1 p2 (by omega) p4 p3
        rw [whl_on (cO_ok _ _ _) hb]
        exact this
    rw [outer_eq]
    cases r with
    | nil =>
      have e := drop_nil hr ha
      simp only [opnM]
      refine ⟨rhoV t S0.length a v0, S, I.pre, ?_⟩
      have h2 : posOf t 0 = .int (a : Int) := by unfold posOf; congr 1; omega
      have h3 : (a : Int) = (t.length : Int) := by omega
      rw [whl_on (r := .exn 1 [(1, posOf t 0)] (rhoV t S0.length a v0) S) (cO_ok _ _ _)]
      rw [h2]
      unfold oIs
      simp [rhoV, htl, h3, x1]
    | cons c r =>
      simp only [List.length_cons] at hk hn
      obtain ⟨b1, b2, b3, b4⟩ := drop_at hr
      have hne : ¬ (a : Int) = (t.length : Int) := by omega
      have htu : turns = 1000000000000 := rfl
      by_cases h40 : c = 40
      · subst h40
        have hbl : lstOf S S0.length = some (as.map D.ref).reverse := by rw [lst_is S I.bs, List.map_reverse]
        have hbl2 : fLen [.ref S0.length] S = .ok (.int (stk.length : Int)) S := by rw [len_ref S hbl]; simp [I.fr.len]
        by_cases hf : stk.length = 100
        · have e1 : opnM (40 :: r) stk = .err (r.length + 1) := by simp [opnM, hf]
          rw [e1]
          dsimp only
          refine ⟨rhoV t S0.length a v0, S, I.pre, ?_⟩
          have h2 : posOf t (r.length + 1) = .int (a : Int) := by unfold posOf; congr 1; omega
          rw [whl_on (r := .exn 1 [(1, posOf t (r.length + 1))] (rhoV t S0.length a v0) S) (cO_ok _ _ _)]
          rw [h2]
          unfold oIs
          simp [rhoV, htl, hne, b2, hbl2, hf, g4, x1]
        · have hf2 : ¬ (stk.length : Int) = 100 := by omega
          by_cases h1 : ∃ s, r = 41 :: s
          · obtain ⟨s, rfl⟩ := h1
            have e1 : opnM (40 :: 41 :: s) stk = .val (.tup []) s := by simp [opnM, hf]
            rw [e1]
            dsimp only
            obtain ⟨d1, d2, d3, d4⟩ := drop_at b3
            have hne2 : ¬ ((a : Int) + 1 = (t.length : Int)) := by omega
            have b2' : atI t ((a : Int) + 1) = some 41 := d2
            refine aft [] (.tup []) s (a + 1 + 1) ?_ (by simp; omega) d3 (by omega) (by omega)
            unfold oIs
            have hz : (0 : Nat) ≤ line := Nat.zero_le _
            have e5 : ((a : Int) + 1 + 1) = ((a + 1 + 1 : Nat) : Int) := by omega
            simp [rhoV, htl, hne, b2, hbl2, hf2, g4, augR, hne2, b2', hz, -s_whl_]
            rfl
          · have h2 : ∀ s, r ≠ 41 :: s := fun s e => h1 ⟨s, e⟩
            have e1 : opnM (40 :: r) stk = .opn r := by
              unfold opnM
              dsimp only
              rw [if_neg (by decide), if_neg hf]
              split
              · rename_i s
                exact absurd rfl (h2 s)
              · rfl
            rw [e1]
            dsimp only
            have I2 := inv_push I
            have hrv : as.reverse.map D.ref = (as.map D.ref).reverse := List.map_reverse
            rw [hrv] at I2
            have hap := m_app (S ++ [O.lst []]) (n := S0.length) (d := D.ref S.length) (xs := (as.map D.ref).reverse) (by
              rw [List.getElem?_append_left (List.getElem?_eq_some_iff.mp I.bs).1, I.bs, hrv]) (by
              have := I.fr.len
              have hl : line = 16777216 := rfl
              simp
              omega)
            have htp := tidy_push (S := S) (k := S0.length) (xs := (as.map D.ref).reverse) (ys := (as.map D.ref).reverse ++ [D.ref S.length]) (by rw [I.bs, hrv]) (by
              intro e
              have := congrArg List.length e
              simp at this) (O.lst []) .non
            have hbody : exs L.G (callN L.G (m + 2)) oIs none (rhoV t S0.length a v0) S = .cnt (rhoV t S0.length (a + 1) v0) ((S ++ [O.lst []] : Store).set S0.length (O.lst ((as.map D.ref).reverse ++ [D.ref S.length]))) := by
              unfold oIs
              have hz : (0 : Nat) ≤ line := Nat.zero_le _
              have hsome : (lstOf S S0.length).isSome = true := by rw [hbl]; rfl
              cases r with
              | nil =>
                have e := drop_nil b3 (by omega)
                have h3 : ((a : Int) + 1 = (t.length : Int)) := by omega
                simp [rhoV, htl, hne, b2, hbl2, hf2, g4, augR, h3, hsome, hz, hap, htp, -s_whl_]
              | cons d s =>
                obtain ⟨d1, d2, d3, d4⟩ := drop_at b3
                have h3 : ¬ ((a : Int) + 1 = (t.length : Int)) := by omega
                have h41 : d ≠ 41 := fun e => h2 s (by rw [e])
                have b2' : atI t ((a : Int) + 1) = some d := d2
                simp [rhoV, htl, hne, b2, hbl2, hf2, g4, augR, h3, b2', h41, hsome, hz, hap, htp, -s_whl_]
            have := ih r ([] :: stk) (a + 1) n (S.length :: as) _ v0 (by omega) I2 b3 (by omega) (by omega) (by simp; omega) (fun f hf => by
              rcases List.mem_cons.mp hf with rfl | hf
              · simp
              · have := hfl f hf; omega)
            rw [whl_on (cO_ok _ _ _) hbody]
            exact this
      · have e1 : opnM (c :: r) stk = plain c r := by simp [opnM, h40]
        rw [e1]
        have call := read_plain_ok (n := m) (S := S) hr htl
        cases e2 : plain c r with
        | err e =>
          rw [e2] at call
          dsimp only at call ⊢
          refine ⟨rhoV t S0.length a v0, S, I.pre, ?_⟩
          have call' : callN L.G (m + 2) 2 [.str t, .int a] S = .exn 1 [(1, posOf t e)] S := call
          rw [whl_on (r := .exn 1 [(1, posOf t e)] (rhoV t S0.length a v0) S) (cO_ok _ _ _)]
          unfold oIs
          simp [rhoV, htl, hne, b2, h40, call']
        | opn s =>
          exfalso
          unfold plain at e2
          split at e2
          · cases e2
          · split at e2
            · cases e2
            · split at e2
              · cases e2
              · split at e2 <;> cases e2
        | val v s =>
          rw [e2] at call
          dsimp only at call ⊢
          have hl := plain_len e2
          simp only [List.length_cons] at hl
          have call' : callN L.G (m + 2) 2 [.str t, .int a] S = .ok (.tup [v, .int ((t.length - s.length : Nat) : Int)]) S := call
          obtain ⟨p1, _, _⟩ := plain_text e2
          have hds : t.drop (t.length - s.length) = s := by
            have h5 : t.drop (a + (vt v).length) = s := by
              rw [← List.drop_drop, hr, p1, List.drop_left]
            have h6 := congrArg List.length p1
            simp only [List.length_cons, List.length_append] at h6
            rw [show t.length - s.length = a + (vt v).length by omega]
            exact h5
          refine aft [] v s (t.length - s.length) ?_ (by simp; omega) hds (by omega) (by omega)
          unfold oIs
          simp [rhoV, htl, hne, b2, h40, call', -s_whl_]
          rfl
theorem read_value_ok {m : Nat} {S : Store} {t : List Nat} (ht : t.length < line) : callN L.G (m + 3) 3 [.str t] S = match outer t [] with
    | .err e => .exn 1 [(1, posOf t e)] S
    | .ok w => .ok w S := by
  rw [call_eq fns_3 rfl, b_is]
  have I : Inv S (S ++ [O.lst []]) [] [] := ⟨(by simp), (by simp), List.Pairwise.nil, fun a ha => (by cases ha), Fr.nil⟩
  have hl : line = 16777216 := rfl
  have htu : turns = 1000000000000 := rfl
  have q := outer_loop (m := m) (S0 := S) ht t.length t [] 0 turns [] (S ++ [O.lst []]) none (Nat.le_refl _) I rfl (by omega) (by omega) (by simp) (fun f hf => by cases hf)
  have hz : (0 : Nat) ≤ line := Nat.zero_le _
  have hbody : ∀ r, whlL (cO (callN L.G (m + 2))) (exs L.G (callN L.G (m + 2)) oIs none) (exs L.G (callN L.G (m + 2)) .nil none) turns (rhoV t S.length 0 none) (S ++ [O.lst []]) = r →
      exs L.G (callN L.G (m + 2)) (.cons (.asg 1 (.lst .nil)) (.cons (.asg 2 (.con (.int 0))) (.cons (.whl (.con (.bl true)) oIs .nil) .nil))) none (env0 ⟨1, 4, .nil⟩ [.str t]) S = r.bind fun ρ' S' => .nx ρ' S' := fun r h => by
    simp only [ss_cons, s_whl_]
    simp [env0, hz]
    have : whlL (fun ρ S => R.ok true S) (exs L.G (callN L.G (m + 2)) oIs none) (exs L.G (callN L.G (m + 2)) .nil none) turns (rhoV t S.length 0 none) (S ++ [O.lst []]) = r := by
      rw [← h]
      congr 1
      funext ρ S
      exact (cO_ok _ _ _).symm
    have e0 : rhoV t S.length 0 none = [some (.str t), some (.ref S.length), some (.int 0), none] := rfl
    rw [e0] at this
    rw [← this]
    rfl
  cases e : outer t [] with
  | err e2 =>
    rw [e] at q
    obtain ⟨ρ', S', p1, p2⟩ := q
    have := hbody _ p2
    have h3 : env0 ⟨1, 4, .cons (.asg 1 (.lst .nil)) (.cons (.asg 2 (.con (.int 0))) (.cons (.whl (.con (.bl true)) oIs .nil) .nil))⟩ [.str t] = env0 ⟨1, 4, .nil⟩ [.str t] := rfl
    rw [h3, this]
    exact tidy_take_exn p1 rfl
  | ok w =>
    rw [e] at q
    obtain ⟨S', p1, p2⟩ := q
    have := hbody _ p2
    have h3 : env0 ⟨1, 4, .cons (.asg 1 (.lst .nil)) (.cons (.asg 2 (.con (.int 0))) (.cons (.whl (.con (.bl true)) oIs .nil) .nil))⟩ [.str t] = env0 ⟨1, 4, .nil⟩ [.str t] := rfl
    rw [h3, this]
    exact tidy_take p1 (good_wf w (outer_text t.length t [] w (Nat.le_refl _) trivial (by simp) e).2.1)
end K00
set_option Elab.async false
set_option linter.all false
set_option autoImplicit false
set_option maxRecDepth 100000
set_option maxHeartbeats 4000000
/-! K00U: the law's small functions by the evaluator. -/
namespace K00
open Fx
theorem fns_4 : L.G.fns[4]? = some ⟨2, 2, b__law_cell⟩ := rfl
theorem fns_8 : L.G.fns[8]? = some ⟨1, 2, b__law_write⟩ := rfl
theorem fns_9 : L.G.fns[9]? = some ⟨2, 3, b__law_same⟩ := rfl
theorem fns_10 : L.G.fns[10]? = some ⟨2, 5, b__law_step⟩ := rfl
theorem fns_11 : L.G.fns[11]? = some ⟨1, 3, b__law_due⟩ := rfl
theorem fns_12 : L.G.fns[12]? = some ⟨2, 6, b__law_spoilt⟩ := rfl
/-- a loop that goes through -/
theorem forL_inv {f : D → Env → Store → SR} {chk : Store → Bool} (P : Nat → Env → Store → Prop) : ∀ (items : List D) (i : Nat) (ρ : Env) (S : Store), P i ρ S → (∀ j d ρ S, items[j]? = some d → P (i + j) ρ S → ∃ ρ' S', f d ρ S = .nx ρ' S' ∧ chk S' = true ∧ P (i + j + 1) ρ' S') →
    ∃ ρ' S', forL f chk items ρ S = .nx ρ' S' ∧ P (i + items.length) ρ' S'
  | [], i, ρ, S, h, _ => ⟨ρ, S, rfl, h⟩
  | d :: items, i, ρ, S, h, k => by
    obtain ⟨ρ1, S1, e1, c1, p1⟩ := k 0 d ρ S rfl h
    obtain ⟨ρ2, S2, e2, p2⟩ := forL_inv P items (i + 1) ρ1 S1 p1 fun j x ρ S hx hp => by
      have := k (j + 1) x ρ S (by simpa using hx) (by rwa [show i + (j + 1) = i + 1 + j by omega])
      rwa [show i + (j + 1) + 1 = i + 1 + j + 1 by omega] at this
    refine ⟨ρ2, S2, ?_, by rwa [show i + (d :: items).length = i + 1 + items.length by simp; omega]⟩
    unfold forL
    rw [e1]
    dsimp only
    rw [if_pos c1, e2]
theorem rangeD_nat (n : Nat) : rangeD 0 (n : Int) = (List.range n).map fun (k : Nat) => D.int (k : Int) := by
  unfold rangeD
  rw [show ((n : Int) - 0).toNat = n by omega]
  refine List.map_congr_left fun k _ => ?_
  rw [Int.zero_add]
theorem range_get {n j : Nat} {d : D} (h : (rangeD 0 (n : Int))[j]? = some d) : j < n ∧ d = .int (j : Int) := by
  rw [rangeD_nat, List.getElem?_map] at h
  obtain ⟨m, h1, rfl⟩ := Option.map_eq_some_iff.mp h
  obtain ⟨l, e⟩ := List.getElem?_eq_some_iff.mp h1
  rw [List.getElem_range] at e
  subst e
  exact ⟨by simpa using l, rfl⟩
theorem range_len (n : Nat) : (rangeD 0 (n : Int)).length = n := by rw [rangeD_nat]; simp
theorem small_nat {n : Nat} (h : n < 2 ^ 62) : small (n : Int) = true := by
  unfold small
  rw [Bool.and_eq_true, decide_eq_true_eq, decide_eq_true_eq]
  omega
/-! ### _law_cell -/
def cell (ns : List Int) (k : Nat) : Int := (ns[k]?).getD 0
theorem cell_ok {n : Nat} {S : Store} {ns : List Int} {k : Nat} {r : Nat} (h : lstOf S r = some (ns.map D.int)) : callN L.G (n + 1) 4 [.ref r, .int k] S = .ok (.int (cell ns k)) S := by
  rw [call_eq fns_4 rfl]
  have hl := len_ref S h
  by_cases hk : k < ns.length
  · have h1 : (k : Int) < ((ns.map D.int).length : Int) := by simp; omega
    have h2 : atI (ns.map D.int) (k : Int) = some (.int ns[k]) := by rw [atI_nat (by simpa using hk)]; simp [hk]
    have h3 : cell ns k = ns[k] := by unfold cell; simp [hk]
    rw [List.length_map] at h1
    simp [b__law_cell, env0, hl, h1, h, h2, h3]
  · have h1 : ¬ (k : Int) < ((ns.length : Nat) : Int) := by omega
    have h3 : cell ns k = 0 := by unfold cell; rw [List.getElem?_eq_none (by omega)]; rfl
    simp [b__law_cell, env0, hl, h1, h3]
/-! ### _law_write -/
theorem write_ok : ∀ (n : Nat) (d : D) (S : Store), d.dep ≤ n → good d = true → (vt d).length ≤ line → callN L.G (n + 1) 8 [d] S = .ok (.str (vt d)) S := by
  intro n
  induction n with
  | zero =>
    intro d S hd hg hl
    rw [call_eq fns_8 rfl]
    cases d with
    | int i =>
      have h : i.natAbs.log2 < 1920 := by simpa [good] using hg
      simp [b__law_write, env0, isTy, h, vt]
    | str s => simp [b__law_write, env0, isTy, vt]
    | tup xs => simp [D.dep] at hd
    | _ => simp [good] at hg
  | succ n ih =>
    intro d S hd hg hl
    rw [call_eq fns_8 rfl]
    cases d with
    | int i =>
      have h : i.natAbs.log2 < 1920 := by simpa [good] using hg
      simp [b__law_write, env0, isTy, h, vt]
    | str s => simp [b__law_write, env0, isTy, vt]
    | tup xs =>
      have hg' : goods xs = true := by simpa [good] using hg
      have hd' : D.deps xs ≤ n := by simpa [D.dep] using hd
      have hlen : (joinS [32] (vts xs)).length + 2 ≤ line := by simpa [vt] using hl
      have turn : ∀ x ∈ xs, lcTurn [1] (.nm 1) [some (.tup xs), none] (evs L.G (callN L.G (n + 1)) none .nil).ts (ev L.G (callN L.G (n + 1)) none (.call 8 (.cons (.loc 1) .nil))).v x S = .ok (some (.str (vt x))) S := fun x hx => by
        have e := ih x S (Nat.le_trans (deps_le hx) hd') (goods_all hg' x hx) (by
          have := mem_len (xs := vts xs) (x := vt x) (by rw [vts_map]; exact List.mem_map.mpr ⟨x, hx, rfl⟩)
          omega)
        simp [lcTurn, wipe, asgT, asgN, e]
      have hn : (xs.map fun x => D.str (vt x)) = (vts xs).map D.str := by rw [vts_map, List.map_map]; rfl
      have hfew : ((vts xs).map List.length).sum + (vts xs).length ≤ line := by
        cases hx : vts xs with
        | nil => simp
        | cons a b =>
          have := joinS_len [32] (vts xs) (by rw [hx]; simp)
          rw [← hx]
          simp only [List.length_singleton, Nat.one_mul] at this
          omega
      have hxs : xs.length ≤ line := by
        have : (vts xs).length = xs.length := by rw [vts_map, List.length_map]
        omega
      have loop := lcLoop_map (f := lcTurn [1] (.nm 1) [some (.tup xs), none] (evs L.G (callN L.G (n + 1)) none .nil).ts (ev L.G (callN L.G (n + 1)) none (.call 8 (.cons (.loc 1) .nil))).v) (chk := same none S) (g := fun x => .str (vt x)) (S := S) rfl (ds := xs) (acc := []) turn (by simpa using hxs)
      have hj := m_join (S ++ [O.lst (xs.map fun x => D.str (vt x))]) (s := [32]) (d := .ref S.length) (lstOf_new S _) hn (by simpa using hfew)
      have h1 : 1 + (joinS [32] (vts xs)).length ≤ line := by omega
      have h2 : (joinS [32] (vts xs)).length + 1 + 1 ≤ line := by omega
      have dr : ∀ s, tidy S (.ok (.str s) (S ++ [O.lst (xs.map fun x => D.str (vt x))])) = .ok (.str s) S := fun s => tidy_drop rfl
      simp [b__law_write, env0, isTy, loop, hj, vt, h1, h2, dr]
    | _ => simp [good] at hg
/-! ### _law_same -/
def sameB : FSs := .cons (.ifs (.not (.call 9 (.cons (.idx (.loc 0) (.loc 2)) (.cons (.idx (.loc 1) (.loc 2)) .nil)))) (.cons (.ret (.con (.bl false))) .nil) .nil) .nil
theorem same_loop {n : Nat} {xs : List D} {S : Store} (e : ∀ x ∈ xs, callN L.G (n + 1) 9 [x, x] S = .ok (.bl true) S) : ∃ v, forL (frB L.G (callN L.G (n + 1)) (.nm 2) sameB none) (same none S) (rangeD 0 (xs.length : Int)) [some (.tup xs), some (.tup xs), none] S = .nx [some (.tup xs), some (.tup xs), v] S := by
  obtain ⟨ρ', S', loop, P1, P2⟩ := forL_inv (f := frB L.G (callN L.G (n + 1)) (.nm 2) sameB none) (chk := same none S) (fun _ ρ S' => S' = S ∧ ∃ v, ρ = [some (.tup xs), some (.tup xs), v]) (rangeD 0 (xs.length : Int)) 0 [some (.tup xs), some (.tup xs), none] S ⟨rfl, none, rfl⟩ (fun j d ρ S2 hj hP => by
    obtain ⟨rfl, v, rfl⟩ := hP
    obtain ⟨hj1, rfl⟩ := range_get hj
    have hx : atI xs (j : Int) = some xs[j] := by rw [atI_nat hj1]; simp [hj1]
    have hmem : xs[j] ∈ xs := List.getElem_mem hj1
    have e := e xs[j] hmem
    refine ⟨[some (.tup xs), some (.tup xs), some (.int j)], S2, ?_, rfl, rfl, _, rfl⟩
    simp [frB, sameB, asgT, asgN, hx, e])
  obtain ⟨v, rfl⟩ := P2
  subst P1
  exact ⟨v, loop⟩
theorem line_small {n : Nat} (h : n ≤ line) : small (n : Int) = true := small_nat (Nat.lt_of_le_of_lt h (by decide))
theorem same_fr {cl : Orac} {xs : List D} {S : Store} {v : Option D} (hsm : small (xs.length : Int) = true) (loop : forL (frB L.G cl (.nm 2) sameB none) (same none S) (rangeD 0 (xs.length : Int)) [some (.tup xs), some (.tup xs), none] S = .nx [some (.tup xs), some (.tup xs), v] S) : ex L.G cl (.fr (.nm 2) (.range1 (.blt .len (.cons (.loc 1) .nil))) sameB) none [some (.tup xs), some (.tup xs), none] S = .nx [some (.tup xs), some (.tup xs), v] S := by
  simp [hsm, loop]
theorem same_if {cl : Orac} {xs : List D} {S : Store} {v : Option D} : ex L.G cl (.ifs (.or (.cons (.not (.isi (.loc 0) .tTuple)) (.cons (.cmp .NotEq (.blt .len (.cons (.loc 0) .nil)) (.blt .len (.cons (.loc 1) .nil))) .nil))) (.cons (.ret (.con (.bl false)))
     .nil) .nil) none [some (.tup xs), some (.tup xs), v] S = .nx [some (.tup xs), some (.tup xs), v] S := by
  simp [isTy]
theorem same_tup {cl : Orac} {xs : List D} {S : Store} {v : Option D} (hsm : small (xs.length : Int) = true) (loop : forL (frB L.G cl (.nm 2) sameB none) (same none S) (rangeD 0 (xs.length : Int)) [some (.tup xs), some (.tup xs), none] S = .nx [some (.tup xs), some (.tup xs), v] S) : exs L.G cl b__law_same none [some (.tup xs), some (.tup xs), none] S = .ret (.bl true) S := by
  unfold sameB at loop
  simp [b__law_same, isTy, hsm, loop]
theorem same_ok : ∀ (n : Nat) (d : D) (S : Store), d.dep ≤ n → good d = true → (vt d).length ≤ line → callN L.G (n + 1) 9 [d, d] S = .ok (.bl true) S := by
  intro n
  induction n with
  | zero =>
    intro d S hd hg hl
    rw [call_eq fns_9 rfl]
    cases d with
    | int i => simp [b__law_same, env0, isTy]
    | str s => simp [b__law_same, env0, isTy]
    | tup xs => simp [D.dep] at hd
    | _ => simp [good] at hg
  | succ n ih =>
    intro d S hd hg hl
    rw [call_eq fns_9 rfl]
    cases d with
    | int i => simp [b__law_same, env0, isTy]
    | str s => simp [b__law_same, env0, isTy]
    | tup xs =>
      have hg' : goods xs = true := by simpa [good] using hg
      have hd' : D.deps xs ≤ n := by simpa [D.dep] using hd
      have hlen : (joinS [32] (vts xs)).length + 2 ≤ line := by simpa [vt] using hl
      have hxs : xs.length ≤ line := by
        have h1 : (vts xs).length = xs.length := by rw [vts_map, List.length_map]
        cases hx : vts xs with
        | nil => rw [hx] at h1; simp at h1; omega
        | cons a b =>
          have := joinS_len [32] (vts xs) (by rw [hx]; simp)
          simp only [List.length_singleton, Nat.one_mul] at this
          omega
      have hsm := line_small hxs
      obtain ⟨v, loop⟩ := same_loop (n := n) (xs := xs) (S := S) fun x hmem => ih x S (Nat.le_trans (deps_le hmem) hd') (goods_all hg' _ hmem) (by
        have := mem_len (xs := vts xs) (x := vt x) (by rw [vts_map]; exact List.mem_map.mpr ⟨_, hmem, rfl⟩)
        omega)
      have e := same_tup hsm loop
      simp [env0, e]
    | _ => simp [good] at hg
/-! ### _law_step -/
def ms : Md → List Nat
  | .start => [115, 116, 97, 114, 116]
  | .first => [102, 105, 114, 115, 116]
  | .after => [97, 102, 116, 101, 114]
  | .minus => [109, 105, 110, 117, 115]
  | .zero => [122, 101, 114, 111]
  | .digits => [100, 105, 103, 105, 116, 115]
  | .word => [119, 111, 114, 100]
def encS (m : Md) (d k : Nat) : D := .tup [.str (ms m), .int d, .int k]
def encO : Option (Md × Nat × Nat) → D
  | some (m, d, k) => encS m d k
  | none => .non
theorem mem_d19 (c : Nat) : decide (c ∈ [49, 50, 51, 52, 53, 54, 55, 56, 57]) = d19 c := by
  rw [Bool.eq_iff_iff, decide_eq_true_eq, d19_iff]
  simp only [List.mem_cons, List.not_mem_nil, or_false]
  omega
theorem at0 (a b c : D) : atI [a, b, c] 0 = some a := rfl
theorem at1 (a b c : D) : atI [a, b, c] 1 = some b := rfl
theorem at2 (a b c : D) : atI [a, b, c] 2 = some c := rfl
def lets26 : List Nat := [97, 98, 99, 100, 101, 102, 103, 104, 105, 106, 107, 108, 109, 110, 111, 112, 113, 114, 115, 116, 117, 118, 119, 120, 121, 122]
theorem mem_l26 (c : Nat) : decide (c ∈ [97, 98, 99, 100, 101, 102, 103, 104, 105, 106, 107, 108, 109, 110, 111, 112, 113, 114, 115, 116, 117, 118, 119, 120, 121, 122]) = isL c := by
  rw [Bool.eq_iff_iff, decide_eq_true_eq, isL_iff]
  simp only [List.mem_cons, List.not_mem_nil, or_false]
  omega
theorem mem_d10 (c : Nat) : decide (c ∈ [48, 49, 50, 51, 52, 53, 54, 55, 56, 57]) = isDig c := by
  rw [Bool.eq_iff_iff, decide_eq_true_eq, isDig_iff]
  simp only [List.mem_cons, List.not_mem_nil, or_false]
  omega
theorem i_lt (x : Nat) (k : Nat) : decide ((x : Int) < (OfNat.ofNat k : Int)) = decide (x < k) := decide_eq_decide.mpr (by show (x : Int) < (k : Int) ↔ _; omega)
theorem step_ok {n : Nat} {S : Store} {m : Md} {d k c : Nat} (hd : m = .first → 1 ≤ d) : callN L.G (n + 1) 10 [encS m d k, .str [c]] S = .ok (encO (stepA m d k c)) S := by
  rw [call_eq fns_10 rfl]
  have h3 : (3 : Nat) ≤ line := by decide
  have i1 : ((d : Int) < 100) = (d < 100) := by rw [eq_iff_iff]; omega
  have i2 : ((k : Int) < 20) = (k < 20) := by rw [eq_iff_iff]; omega
  have i3 : ((k : Int) < 200) = (k < 200) := by rw [eq_iff_iff]; omega
  have i4 : ((0 : Int) < (d : Int)) = (0 < d) := by rw [eq_iff_iff]; omega
  have i5 : ((0 < d) = True) → (d : Int) - 1 = ((d - 1 : Nat) : Int) := fun h => by have := of_eq_true h; omega
  have a1 : (d : Int) + 1 = ((d + 1 : Nat) : Int) := by omega
  have a2 : (k : Int) + 1 = ((k + 1 : Nat) : Int) := by omega
  have hsub : 0 < d → (d : Int) - 1 = ((d - 1 : Nat) : Int) := fun h => by omega
  cases m with
  | start =>
    simp only [b__law_step, encS, ms]
    by_cases h1 : c = 40
    · subst h1
      by_cases h2 : d < 100
      · simp [env0, at0, at1, at2, h3, i1, h2, stepA, encO, encS, ms]
      · simp [env0, at0, at1, at2, h3, i1, h2, stepA, encO, encS, ms, isL, d19]
    · by_cases h2 : c = 45
      · subst h2
        simp [env0, at0, at1, at2, h3, i1, stepA, encO, encS, ms]
      · by_cases h4 : c = 48
        · subst h4
          simp [env0, at0, at1, at2, h3, i1, stepA, encO, encS, ms]
        · have m1 := mem_d19 c
          have m2 := mem_l26 c
          by_cases h5 : d19 c = true
          · rw [h5] at m1
            simp [env0, at0, at1, at2, h3, i1, h1, h2, h4, m1, h5, stepA, encO, encS, ms, -List.mem_cons]
          · have h5 : d19 c = false := by simpa using h5
            rw [h5] at m1
            cases h6 : isL c with
            | true =>
              rw [h6] at m2
              simp [env0, at0, at1, at2, h3, i1, h1, h2, h4, m1, h5, h6, m2, stepA, encO, encS, ms, -List.mem_cons]
            | false =>
              rw [h6] at m2
              simp [env0, at0, at1, at2, h3, i1, h1, h2, h4, m1, h5, h6, m2, stepA, encO, encS, ms, -List.mem_cons]
  | first =>
    simp only [b__law_step, encS, ms]
    have d1 := hsub (hd rfl)
    by_cases h0 : c = 41
    · subst h0
      simp [env0, at0, at1, at2, h3, i1, i2, i3, i4, stepA, encO, encS, ms, -List.mem_cons, d1]
    · by_cases h1 : c = 40
      · subst h1
        by_cases h2 : d < 100
        · simp [env0, at0, at1, at2, h3, i1, i2, i3, i4, stepA, encO, encS, ms, -List.mem_cons, h2]
        · simp [env0, at0, at1, at2, h3, i1, i2, i3, i4, stepA, encO, encS, ms, -List.mem_cons, h2, isL, d19]
      · by_cases h2 : c = 45
        · subst h2
          simp [env0, at0, at1, at2, h3, i1, i2, i3, i4, stepA, encO, encS, ms, -List.mem_cons]
        · by_cases h4 : c = 48
          · subst h4
            simp [env0, at0, at1, at2, h3, i1, i2, i3, i4, stepA, encO, encS, ms, -List.mem_cons]
          · have m1 := mem_d19 c
            have m2 := mem_l26 c
            cases h5 : d19 c with
            | true =>
              rw [h5] at m1
              simp [env0, at0, at1, at2, h3, i1, i2, i3, i4, stepA, encO, encS, ms, -List.mem_cons, h0, h1, h2, h4, m1, h5]
            | false =>
              rw [h5] at m1
              cases h6 : isL c with
              | true =>
                rw [h6] at m2
                simp [env0, at0, at1, at2, h3, i1, i2, i3, i4, stepA, encO, encS, ms, -List.mem_cons, h0, h1, h2, h4, m1, h5, h6, m2]
              | false =>
                rw [h6] at m2
                simp [env0, at0, at1, at2, h3, i1, i2, i3, i4, stepA, encO, encS, ms, -List.mem_cons, h0, h1, h2, h4, m1, h5, h6, m2]
  | minus =>
    simp only [b__law_step, encS, ms]
    have m1 := mem_d19 c
    cases h5 : d19 c with
    | true =>
      rw [h5] at m1
      simp [env0, at0, at1, at2, h3, i1, i2, i3, i4, stepA, encO, encS, ms, -List.mem_cons, m1, h5]
    | false =>
      rw [h5] at m1
      simp [env0, at0, at1, at2, h3, i1, i2, i3, i4, stepA, encO, encS, ms, -List.mem_cons, m1, h5]
  | word =>
    simp only [b__law_step, encS, ms]
    have m1 := mem_l26 c
    cases h5 : isL c with
    | true =>
      rw [h5] at m1
      by_cases h6 : k < 20
      · simp [env0, at0, at1, at2, h3, i1, i2, i3, i4, stepA, encO, encS, ms, -List.mem_cons, m1, h5, h6]
      · by_cases h7 : c = 32
        · subst h7
          by_cases h8 : 0 < d
          · simp [env0, at0, at1, at2, h3, i1, i2, i3, i4, stepA, encO, encS, ms, -List.mem_cons, m1, h5, h6, h8]
          · simp [env0, at0, at1, at2, h3, i1, i2, i3, i4, stepA, encO, encS, ms, -List.mem_cons, m1, h5, h6, h8]
        · by_cases h9 : c = 41
          · subst h9
            by_cases h8 : 0 < d
            · simp [env0, at0, at1, at2, h3, i1, i2, i3, i4, stepA, encO, encS, ms, -List.mem_cons, m1, h5, h6, h8, hsub h8]
            · simp [env0, at0, at1, at2, h3, i1, i2, i3, i4, stepA, encO, encS, ms, -List.mem_cons, m1, h5, h6, h8]
          · simp [env0, at0, at1, at2, h3, i1, i2, i3, i4, stepA, encO, encS, ms, -List.mem_cons, m1, h5, h6, h7, h9]
    | false =>
      rw [h5] at m1
      by_cases h6 : k < 20
      · by_cases h7 : c = 32
        · subst h7
          by_cases h8 : 0 < d
          · simp [env0, at0, at1, at2, h3, i1, i2, i3, i4, stepA, encO, encS, ms, -List.mem_cons, m1, h5, h6, h8]
          · simp [env0, at0, at1, at2, h3, i1, i2, i3, i4, stepA, encO, encS, ms, -List.mem_cons, m1, h5, h6, h8]
        · by_cases h9 : c = 41
          · subst h9
            by_cases h8 : 0 < d
            · simp [env0, at0, at1, at2, h3, i1, i2, i3, i4, stepA, encO, encS, ms, -List.mem_cons, m1, h5, h6, h8, hsub h8]
            · simp [env0, at0, at1, at2, h3, i1, i2, i3, i4, stepA, encO, encS, ms, -List.mem_cons, m1, h5, h6, h8]
          · simp [env0, at0, at1, at2, h3, i1, i2, i3, i4, stepA, encO, encS, ms, -List.mem_cons, m1, h5, h6, h7, h9]
      · by_cases h7 : c = 32
        · subst h7
          by_cases h8 : 0 < d
          · simp [env0, at0, at1, at2, h3, i1, i2, i3, i4, stepA, encO, encS, ms, -List.mem_cons, m1, h5, h6, h8]
          · simp [env0, at0, at1, at2, h3, i1, i2, i3, i4, stepA, encO, encS, ms, -List.mem_cons, m1, h5, h6, h8]
        · by_cases h9 : c = 41
          · subst h9
            by_cases h8 : 0 < d
            · simp [env0, at0, at1, at2, h3, i1, i2, i3, i4, stepA, encO, encS, ms, -List.mem_cons, m1, h5, h6, h8, hsub h8]
            · simp [env0, at0, at1, at2, h3, i1, i2, i3, i4, stepA, encO, encS, ms, -List.mem_cons, m1, h5, h6, h8]
          · simp [env0, at0, at1, at2, h3, i1, i2, i3, i4, stepA, encO, encS, ms, -List.mem_cons, m1, h5, h6, h7, h9]
  | digits =>
    simp only [b__law_step, encS, ms]
    have m1 := mem_d10 c
    cases h5 : isDig c with
    | true =>
      rw [h5] at m1
      by_cases h6 : k < 200
      · simp [env0, at0, at1, at2, h3, i1, i2, i3, i4, stepA, encO, encS, ms, -List.mem_cons, m1, h5, h6]
      · by_cases h7 : c = 32
        · subst h7
          by_cases h8 : 0 < d
          · simp [env0, at0, at1, at2, h3, i1, i2, i3, i4, stepA, encO, encS, ms, -List.mem_cons, m1, h5, h6, h8]
          · simp [env0, at0, at1, at2, h3, i1, i2, i3, i4, stepA, encO, encS, ms, -List.mem_cons, m1, h5, h6, h8]
        · by_cases h9 : c = 41
          · subst h9
            by_cases h8 : 0 < d
            · simp [env0, at0, at1, at2, h3, i1, i2, i3, i4, stepA, encO, encS, ms, -List.mem_cons, m1, h5, h6, h8, hsub h8]
            · simp [env0, at0, at1, at2, h3, i1, i2, i3, i4, stepA, encO, encS, ms, -List.mem_cons, m1, h5, h6, h8]
          · simp [env0, at0, at1, at2, h3, i1, i2, i3, i4, stepA, encO, encS, ms, -List.mem_cons, m1, h5, h6, h7, h9]
    | false =>
      rw [h5] at m1
      by_cases h6 : k < 200
      · by_cases h7 : c = 32
        · subst h7
          by_cases h8 : 0 < d
          · simp [env0, at0, at1, at2, h3, i1, i2, i3, i4, stepA, encO, encS, ms, -List.mem_cons, m1, h5, h6, h8]
          · simp [env0, at0, at1, at2, h3, i1, i2, i3, i4, stepA, encO, encS, ms, -List.mem_cons, m1, h5, h6, h8]
        · by_cases h9 : c = 41
          · subst h9
            by_cases h8 : 0 < d
            · simp [env0, at0, at1, at2, h3, i1, i2, i3, i4, stepA, encO, encS, ms, -List.mem_cons, m1, h5, h6, h8, hsub h8]
            · simp [env0, at0, at1, at2, h3, i1, i2, i3, i4, stepA, encO, encS, ms, -List.mem_cons, m1, h5, h6, h8]
          · simp [env0, at0, at1, at2, h3, i1, i2, i3, i4, stepA, encO, encS, ms, -List.mem_cons, m1, h5, h6, h7, h9]
      · by_cases h7 : c = 32
        · subst h7
          by_cases h8 : 0 < d
          · simp [env0, at0, at1, at2, h3, i1, i2, i3, i4, stepA, encO, encS, ms, -List.mem_cons, m1, h5, h6, h8]
          · simp [env0, at0, at1, at2, h3, i1, i2, i3, i4, stepA, encO, encS, ms, -List.mem_cons, m1, h5, h6, h8]
        · by_cases h9 : c = 41
          · subst h9
            by_cases h8 : 0 < d
            · simp [env0, at0, at1, at2, h3, i1, i2, i3, i4, stepA, encO, encS, ms, -List.mem_cons, m1, h5, h6, h8, hsub h8]
            · simp [env0, at0, at1, at2, h3, i1, i2, i3, i4, stepA, encO, encS, ms, -List.mem_cons, m1, h5, h6, h8]
          · simp [env0, at0, at1, at2, h3, i1, i2, i3, i4, stepA, encO, encS, ms, -List.mem_cons, m1, h5, h6, h7, h9]
  | zero =>
    simp only [b__law_step, encS, ms]
    by_cases h7 : c = 32
    · subst h7
      by_cases h8 : 0 < d
      · simp [env0, at0, at1, at2, h3, i1, i2, i3, i4, stepA, encO, encS, ms, -List.mem_cons, h8]
      · simp [env0, at0, at1, at2, h3, i1, i2, i3, i4, stepA, encO, encS, ms, -List.mem_cons, h8]
    · by_cases h9 : c = 41
      · subst h9
        by_cases h8 : 0 < d
        · simp [env0, at0, at1, at2, h3, i1, i2, i3, i4, stepA, encO, encS, ms, -List.mem_cons, h8, hsub h8]
        · simp [env0, at0, at1, at2, h3, i1, i2, i3, i4, stepA, encO, encS, ms, -List.mem_cons, h8]
      · simp [env0, at0, at1, at2, h3, i1, i2, i3, i4, stepA, encO, encS, ms, -List.mem_cons, h7, h9]
  | after =>
    simp only [b__law_step, encS, ms]
    by_cases h7 : c = 32
    · subst h7
      by_cases h8 : 0 < d
      · simp [env0, at0, at1, at2, h3, i1, i2, i3, i4, stepA, encO, encS, ms, -List.mem_cons, h8]
      · simp [env0, at0, at1, at2, h3, i1, i2, i3, i4, stepA, encO, encS, ms, -List.mem_cons, h8]
    · by_cases h9 : c = 41
      · subst h9
        by_cases h8 : 0 < d
        · simp [env0, at0, at1, at2, h3, i1, i2, i3, i4, stepA, encO, encS, ms, -List.mem_cons, h8, hsub h8]
        · simp [env0, at0, at1, at2, h3, i1, i2, i3, i4, stepA, encO, encS, ms, -List.mem_cons, h8]
      · simp [env0, at0, at1, at2, h3, i1, i2, i3, i4, stepA, encO, encS, ms, -List.mem_cons, h7, h9]
end K00
set_option Elab.async false
set_option linter.all false
set_option autoImplicit false
set_option maxRecDepth 100000
set_option maxHeartbeats 4000000
/-! K00V: the law's automaton, the spoilt text. -/
namespace K00
open Fx
theorem rangeD_cons {n i : Nat} (h : i < n) : (rangeD 0 (n : Int)).drop i = .int (i : Int) :: (rangeD 0 (n : Int)).drop (i + 1) := by
  have hl : i < (rangeD 0 (n : Int)).length := by rw [range_len]; exact h
  rw [List.drop_eq_getElem_cons hl]
  have := (range_get (n := n) (List.getElem?_eq_getElem hl)).2
  rw [this]
def dueB : FSs := .cons (.asg 1 (.call 10 (.cons (.loc 1) (.cons (.idx (.loc 0) (.loc 2)) .nil)))) (.cons (.ifs (.cmp .Is (.loc 1) (.con .non)) (.cons (.ret (.loc 2)) .nil) .nil) .nil)
theorem step_first {m m' : Md} {d d' k k' c : Nat} (h : stepA m d k c = some (m', d', k')) : m' = .first → 1 ≤ d' := by
  intro e
  subst e
  unfold stepA at h
  repeat' split at h
  all_goals (simp at h)
  all_goals omega
theorem encS_non (m : Md) (d k : Nat) : encS m d k ≠ .non := fun h => by cases h
theorem due_loop {n : Nat} {S : Store} {t : List Nat} (ht : t.length ≤ line) : ∀ (r : List Nat) (i : Nat) (m : Md) (d k : Nat) (v : Option D), t.drop i = r → i ≤ t.length → (m = .first → 1 ≤ d) →
    (∃ e, dueM m d k r = some e ∧ forL (frB L.G (callN L.G (n + 1)) (.nm 2) dueB none) (same none S) ((rangeD 0 (t.length : Int)).drop i) [some (.str t), some (encS m d k), v] S = .ret (posOf t e) S) ∨
    (∃ m' d' k' v', dueM m d k r = dueM m' d' k' [] ∧ forL (frB L.G (callN L.G (n + 1)) (.nm 2) dueB none) (same none S) ((rangeD 0 (t.length : Int)).drop i) [some (.str t), some (encS m d k), v] S = .nx [some (.str t), some (encS m' d' k'), v'] S)
  | [], i, m, d, k, v, hr, hi, hd => by
    refine .inr ⟨m, d, k, v, rfl, ?_⟩
    have := drop_nil hr hi
    rw [List.drop_eq_nil_of_le (by rw [range_len]; omega)]
    rfl
  | c :: r, i, m, d, k, v, hr, hi, hd => by
    obtain ⟨b1, b2, b3, b4⟩ := drop_at hr
    rw [rangeD_cons b1]
    have st := step_ok (n := n) (S := S) (c := c) (k := k) hd
    cases e : stepA m d k c with
    | none =>
      refine .inl ⟨r.length + 1, by rw [dueM, e], ?_⟩
      rw [e] at st
      have hp : ((t.length - (r.length + 1) : Nat) : Int) = (i : Int) := by omega
      have body : frB L.G (callN L.G (n + 1)) (.nm 2) dueB none (.int (i : Int)) [some (.str t), some (encS m d k), v] S = .ret (posOf t (r.length + 1)) S := by
        simp [frB, asgT, asgN, dueB, ht, b2, st, encO, posOf, hp]
      unfold forL
      rw [body]
    | some p =>
      obtain ⟨m', d', k'⟩ := p
      rw [e] at st
      have body : frB L.G (callN L.G (n + 1)) (.nm 2) dueB none (.int (i : Int)) [some (.str t), some (encS m d k), v] S = .nx [some (.str t), some (encS m' d' k'), some (.int (i : Int))] S := by
        simp [frB, asgT, asgN, dueB, ht, b2, st, encO, encS_non]
      have due : dueM m d k (c :: r) = dueM m' d' k' r := by rw [dueM, e]
      unfold forL
      rw [body]
      dsimp only
      rw [if_pos (show same none S S = true from rfl), due]
      exact due_loop ht r (i + 1) m' d' k' _ b3 b1 (step_first e)
theorem due_ok {n : Nat} {S : Store} {t : List Nat} (ht : t.length ≤ line) : callN L.G (n + 2) 11 [.str t] S = .ok (match dueM .start 0 0 t with
    | none => .non
    | some e => posOf t e) S := by
  rw [call_eq fns_11 rfl]
  have h3 : (3 : Nat) ≤ line := by decide
  have h4 : (4 : Nat) ≤ line := by decide
  have hs := line_small ht
  rcases due_loop (n := n) (S := S) ht t 0 .start 0 0 none rfl (Nat.zero_le _) (by intro h; cases h) with ⟨e, h1, h2⟩ | ⟨m', d', k', v', h1, h2⟩
  · rw [h1]
    unfold dueB at h2
    rw [List.drop_zero, show encS .start 0 0 = .tup [.str [115, 116, 97, 114, 116], .int 0, .int 0] from rfl] at h2
    simp [b__law_due, env0, h3, hs, ht, h2]
  · rw [h1]
    unfold dueB at h2
    rw [List.drop_zero, show encS .start 0 0 = .tup [.str [115, 116, 97, 114, 116], .int 0, .int 0] from rfl] at h2
    have hin : inD S (.str (ms m')) (.tup [.str [119, 111, 114, 100], .str [100, 105, 103, 105, 116, 115], .str [122, 101, 114, 111], .str [97, 102, 116, 101, 114]]) = some (fin m') := by cases m' <;> rfl
    have hz : ((d' : Int) = 0) ↔ d' = 0 := by omega
    by_cases hd : d' = 0
    · subst hd
      cases hf : fin m' with
      | true =>
        rw [hf] at hin
        simp [b__law_due, env0, h3, h4, hs, ht, h2, encS, at0, at1, hin, dueM, hf]
      | false =>
        rw [hf] at hin
        simp [b__law_due, env0, h3, h4, hs, ht, h2, encS, at0, at1, hin, dueM, hf, posOf]
    · have hd' : ¬ ((d' : Int) = 0) := by omega
      simp [b__law_due, env0, h3, h4, hs, ht, h2, encS, at0, at1, hin, dueM, hd, posOf]
end K00
set_option Elab.async false
set_option linter.all false
set_option autoImplicit false
set_option maxRecDepth 100000
set_option maxHeartbeats 4000000
/-! K00W: the spoilt text; a text read as due. -/
namespace K00
open Fx
theorem cut_hi {α : Type} (t : List α) (p : Nat) : cutX t none (some (p : Int)) = t.take p := by
  unfold cutX sIx
  dsimp only
  rw [if_neg (by omega), List.drop_zero, Nat.sub_zero, show (p : Int).toNat = p by omega]
  by_cases h : p ≤ t.length
  · rw [Nat.min_eq_left h]
  · rw [Nat.min_eq_right (by omega), List.take_of_length_le (Nat.le_refl _), List.take_of_length_le (by omega)]
theorem cut_lo {α : Type} (t : List α) (p : Nat) : cutX t (some (p : Int)) none = t.drop p := by
  unfold cutX sIx
  dsimp only
  rw [if_neg (by omega), show (p : Int).toNat = p by omega]
  by_cases h : p ≤ t.length
  · rw [Nat.min_eq_left h, List.take_of_length_le (by rw [List.length_drop]; omega)]
  · rw [Nat.min_eq_right (by omega), List.drop_eq_nil_of_le (show t.length ≤ p by omega), List.drop_eq_nil_of_le (Nat.le_refl _)]
    simp
def signs : List Nat := [40, 41, 32, 45, 48, 49, 55, 57, 97, 122, 65, 43, 44, 10]
theorem fmod_nat (a : Int) {m : Int} (h : 0 < m) : ∃ q : Nat, a.fmod m = (q : Int) ∧ (q : Int) < m := by
  have h1 := Int.fmod_nonneg_of_pos a h
  have h2 := Int.fmod_lt_of_pos a h
  exact ⟨(a.fmod m).toNat, by omega, by omega⟩
theorem spoilt_ok {n : Nat} {S : Store} {t : List Nat} {c : Int} (ht : t.length < line) : ∃ t', callN L.G (n + 1) 12 [.str t, .int c] S = .ok (.str t') S ∧ t'.length ≤ t.length + 1 := by
  obtain ⟨w, w1, w2⟩ := fmod_nat c (m := 6) (by decide)
  obtain ⟨p, p1, p2⟩ := fmod_nat (c.fdiv 6) (m := (t.length : Int) + 1) (by omega)
  obtain ⟨q, q1, q2⟩ := fmod_nat (c.fdiv 7) (m := 14) (by decide)
  have hq : ∃ x, atI signs (q : Int) = some x := by
    have : q < signs.length := by show q < 14; omega
    exact ⟨signs[q], by rw [atI_nat this]; simp [this]⟩
  obtain ⟨x, hx⟩ := hq
  have hl : ((t.length : Int) + 1 ≠ 0) := by omega
  have a1 : cutX t (some ((p : Int) + 1)) none = t.drop (p + 1) := cut_lo t (p + 1)
  have a2 : cutX t none (some ((p : Int) + 1)) = t.take (p + 1) := cut_hi t (p + 1)
  have hp : p ≤ t.length := by omega
  have k1 : (t.take p).length = p := by rw [List.length_take]; omega
  have k2 : (t.drop p).length = t.length - p := List.length_drop
  have k3 : (t.drop (p + 1)).length = t.length - (p + 1) := List.length_drop
  have k4 : (t.take (p + 1)).length ≤ p + 1 := by rw [List.length_take]; omega
  have l1 : p ≤ line := by omega
  have l2 : p + 1 ≤ line := by omega
  have l3 : p + 1 + (t.length - p) ≤ line := by omega
  have l4 : p + (t.length - (p + 1)) ≤ line := by omega
  have l5 : p + 1 + (t.length - (p + 1)) ≤ line := by omega
  have l6 : t.length + 1 ≤ line := by omega
  have l7 : min (p + 1) t.length + (t.length - p) ≤ line := by omega
  have ht' : t.length ≤ line := by omega
  have hs : atI [40, 41, 32, 45, 48, 49, 55, 57, 97, 122, 65, 43, 44, 10] (q : Int) = some x := hx
  have s14 : (14 : Nat) ≤ line := by decide
  rcases (show w = 0 ∨ w = 1 ∨ w = 2 ∨ w = 3 ∨ w = 4 ∨ w = 5 by omega) with rfl | rfl | rfl | rfl | rfl | rfl
  · refine ⟨t.take p ++ [x] ++ t.drop p, ?_, by simp; omega⟩
    rw [call_eq fns_12 rfl]
    simp [b__law_spoilt, env0, ht', w1, p1, q1, hs, hl, s14, cut_hi, cut_lo, k1, k2, k3, hp, l1, l2, l3]
  · refine ⟨t.take p ++ t.drop (p + 1), ?_, by simp; omega⟩
    rw [call_eq fns_12 rfl]
    simp [b__law_spoilt, env0, ht', w1, p1, q1, hs, hl, s14, a1, a2, cut_hi, cut_lo, k1, k2, k3, hp, l1, l2, l4]
  · refine ⟨t.take p ++ [x] ++ t.drop (p + 1), ?_, by simp; omega⟩
    rw [call_eq fns_12 rfl]
    simp [b__law_spoilt, env0, ht', w1, p1, q1, hs, hl, s14, a1, a2, cut_hi, cut_lo, k1, k2, k3, hp, l1, l2, l5]
  · refine ⟨t.take p, ?_, by simp; omega⟩
    rw [call_eq fns_12 rfl]
    simp [b__law_spoilt, env0, ht', w1, p1, q1, hs, hl, s14, cut_hi, cut_lo, k1, k2, k3, hp, l1, l2, l5]
  · refine ⟨t.take (p + 1) ++ t.drop p, ?_, by simp; omega⟩
    rw [call_eq fns_12 rfl]
    simp [b__law_spoilt, env0, ht', w1, p1, q1, hs, hl, s14, a1, a2, cut_hi, cut_lo, k1, k2, k3, hp, l1, l2, l7]
  · refine ⟨t ++ [x], ?_, by simp⟩
    rw [call_eq fns_12 rfl]
    simp [b__law_spoilt, env0, ht', w1, p1, q1, hs, hl, s14, cut_hi, cut_lo, k1, k2, k3, hp, l1, l2, l6]
end K00
set_option Elab.async false
set_option linter.all false
set_option autoImplicit false
set_option maxRecDepth 100000
set_option maxHeartbeats 4000000
/-! K00X: a text is read as due. -/
namespace K00
open Fx
theorem fns_13 : L.G.fns[13]? = some ⟨1, 5, b__law_read_as_due⟩ := rfl
theorem exc_len : L.G.exc.length = 2 := rfl
theorem sub_1 : L.G.sub[1]? = some [1, 2, 3] := rfl
theorem due_none_ok (t : List Nat) : (match outer t [] with
    | .err e => dueM .start 0 0 t = some e
    | .ok w => dueM .start 0 0 t = none ∧ vt w = t ∧ good w = true ∧ w.dep ≤ 100) := by
  have h := outer_due t.length t [] .start (Nat.le_refl _) (.inl rfl) (fun h => by cases h) (Nat.zero_le _)
  have h2 := outer_text t.length t []
  cases e : outer t [] with
  | err x => rw [e] at h; exact h.symm
  | ok w =>
    rw [e] at h
    obtain ⟨a, b, c⟩ := h2 w (Nat.le_refl _) trivial (Nat.zero_le _) e
    exact ⟨h.symm, a, b, c⟩
theorem read_as_due_ok {n : Nat} {S : Store} {t : List Nat} (ht : t.length < line) : callN L.G (n + 102) 13 [.str t] S = .ok (.bl true) S := by
  rw [call_eq fns_13 rfl]
  have due := due_ok (n := n + 99) (S := S) (t := t) (by omega)
  have rd := read_value_ok (m := n + 98) (S := S) (t := t) ht
  have q := due_none_ok t
  rw [show n + 99 + 2 = n + 101 by omega] at due
  rw [show n + 98 + 3 = n + 101 by omega] at rd
  cases e : outer t [] with
  | err x =>
    rw [e] at q rd
    dsimp only at q rd
    rw [q] at due
    dsimp only [posOf] at due rd
    simp [b__law_read_as_due, env0, due, rd, exc_len, sub_1, isTy]
  | ok w =>
    rw [e] at q rd
    dsimp only at q rd
    obtain ⟨q1, q2, q3, q4⟩ := q
    rw [q1] at due
    have wr := write_ok (n + 100) w S (by omega) q3 (by rw [q2]; omega)
    have sm := same_ok (n + 100) w S (by omega) q3 (by rw [q2]; omega)
    rw [q2] at wr
    simp [b__law_read_as_due, env0, due, rd, wr, sm]
end K00
set_option Elab.async false
set_option linter.all false
set_option autoImplicit false
set_option maxRecDepth 100000
set_option maxHeartbeats 4000000
/-! K00Y: the law's drawn numbers and words. -/
namespace K00
open Fx
theorem fns_5 : L.G.fns[5]? = some ⟨2, 7, b__law_draws⟩ := rfl
theorem fns_6 : L.G.fns[6]? = some ⟨1, 4, b__law_word⟩ := rfl
theorem set_last (S : Store) (a b : O) : (S ++ [a]).set S.length b = S ++ [b] := by
  rw [List.set_append_right _ _ (Nat.le_refl _), Nat.sub_self]
  rfl
theorem app_last {S : Store} {xs : List D} {d : D} (h : xs.length < line) : mthF .append (.ref S.length) [d] (S ++ [.lst xs]) = .ok .non (S ++ [.lst (xs ++ [d])]) := by
  have e := m_app (S ++ [O.lst xs]) (n := S.length) (d := d) (xs := xs) (by simp) h
  rw [e, set_last]
theorem tidy_last (S : Store) (a b : O) (d : D) : tidy (S ++ [a]) (.ok d (S ++ [b])) = .ok d (S ++ [b]) := tidy_len (by simp)
theorem log_le {i : Int} {k : Nat} (h0 : 0 ≤ i) (h : i < 2 ^ k) (hk : k < 999000) : bits i < 999000 := by
  unfold bits
  by_cases hz : i.natAbs = 0
  · rw [hz]; decide
  · have : i.natAbs < 2 ^ k := by
      have e : ((i.natAbs : Nat) : Int) = i := by omega
      have : ((i.natAbs : Nat) : Int) < ((2 ^ k : Nat) : Int) := by rw [e]; simpa using h
      exact Int.ofNat_lt.mp this
    have := (Nat.log2_lt hz).mpr this
    omega
def okW (ws : List Int) : Prop := ∀ w ∈ ws, 0 ≤ w ∧ w < 60
theorem okW_add {ws : List Int} {w : Int} (h : okW ws) (a : 0 ≤ w) (b : w < 60) : okW (ws ++ [w]) := by
  intro x hx
  rcases List.mem_append.mp hx with q | q
  · exact h x q
  · rw [List.mem_singleton] at q; subst q; exact ⟨a, b⟩
def dA : FSs := .cons (.expr (.mth .append (.loc 2) (.cons (.bin .Mod (.loc 3) (.con (.int 60))) .nil)))
    (.cons (.asg 3 (.bin .FloorDiv (.loc 3) (.con (.int 60)))) .nil)
def dB : FSs := (.cons (.asg 5 (.bin .Mod (.blt .int (.cons (.bin .Add (.bin .Add (.bin .Mult (.loc 5) (.con (.int 48271))) (.bin .Mult (.con (.int 12345)) (.loc 4))) (.con (.int 7))) .nil)) (.con (.int 2147483647))))
    (.cons (.asg 6 (.bin .Mod (.blt .int (.cons (.bin .Add (.bin .Mult (.loc 5) (.con (.int 69621))) (.loc 4)) .nil)) (.con (.int 1000003))))
    (.cons (.expr (.mth .append (.loc 2) (.cons (.bin .Mod (.bin .FloorDiv (.loc 6) (.con (.int 3))) (.con (.int 60))) .nil)))
    .nil)))
theorem loopA {cl : Orac} {S : Store} {m : Nat} {c r : Int} (hm : m < 1000) : ∃ ws v3 v4, ws.length = m ∧ okW ws ∧ forL (frB L.G cl (.nm 4) dA none) (same none (S ++ [.lst []])) (rangeD 0 (m : Int)) [some (.int c), some (.int (m : Int)), some (.ref S.length), some (.int r), none, none, none] (S ++ [.lst []]) = .nx [some (.int c), some (.int (m : Int)), some (.ref S.length), v3, v4, none, none] (S ++ [.lst (ws.map D.int)]) := by
  obtain ⟨ρ', S', loop, ws, r', v, P1, P2, rfl, rfl⟩ := forL_inv (f := frB L.G cl (.nm 4) dA none) (chk := same none (S ++ [.lst []])) (fun i ρ S' => ∃ (ws : List Int) (r' : Int) (v : Option D), ws.length = i ∧ okW ws ∧ ρ = [some (.int c), some (.int (m : Int)), some (.ref S.length), some (.int r'), v, none, none] ∧ S' = S ++ [.lst (ws.map D.int)]) (rangeD 0 (m : Int)) 0 [some (.int c), some (.int (m : Int)), some (.ref S.length), some (.int r), none, none, none] (S ++ [.lst []]) ⟨[], r, none, rfl, (fun _ h => by cases h), rfl, rfl⟩ (fun j d ρ S2 hj hP => by
    obtain ⟨ws, r', v, P1, P2, rfl, rfl⟩ := hP
    obtain ⟨hj1, rfl⟩ := range_get hj
    obtain ⟨q, q1, q2⟩ := fmod_nat r' (m := 60) (by decide)
    have hl : line = 16777216 := rfl
    have hw : (ws.map D.int).length < line := by rw [List.length_map]; omega
    have ap := app_last (S := S) (d := .int (q : Int)) hw
    have hlst := lstOf_new (S := S) (ws.map D.int)
    refine ⟨[some (.int c), some (.int (m : Int)), some (.ref S.length), some (.int (r'.fdiv 60)), some (.int (j : Int)), none, none], S ++ [.lst ((ws ++ [(q : Int)]).map D.int)], ?_, rfl, ws ++ [(q : Int)], r'.fdiv 60, _, by simp; omega, okW_add P2 (by omega) q2, rfl, rfl⟩
    simp [frB, dA, asgT, asgN, hlst, q1, ap, tidy_last])
  rw [range_len] at P1
  exact ⟨ws, _, _, by omega, P2, loop⟩
theorem loopB {cl : Orac} {S : Store} {m : Nat} {c r s : Int} (hm : m < 1000) (h0 : 0 ≤ s) (h1 : s < 2 ^ 62) : ∃ ws v4 v5 v6, ws.length = m ∧ okW ws ∧ forL (frB L.G cl (.nm 4) dB none) (same none (S ++ [.lst []])) (rangeD 0 (m : Int)) [some (.int c), some (.int (m : Int)), some (.ref S.length), some (.int r), none, some (.int s), none] (S ++ [.lst []]) = .nx [some (.int c), some (.int (m : Int)), some (.ref S.length), some (.int r), v4, v5, v6] (S ++ [.lst (ws.map D.int)]) := by
  obtain ⟨ρ', S', loop, ws, s', v, v6, P1, P2, P3, P4, rfl, rfl⟩ := forL_inv (f := frB L.G cl (.nm 4) dB none) (chk := same none (S ++ [.lst []])) (fun i ρ S' => ∃ (ws : List Int) (s' : Int) (v v6 : Option D), ws.length = i ∧ okW ws ∧ 0 ≤ s' ∧ s' < 2 ^ 62 ∧ ρ = [some (.int c), some (.int (m : Int)), some (.ref S.length), some (.int r), v, some (.int s'), v6] ∧ S' = S ++ [.lst (ws.map D.int)]) (rangeD 0 (m : Int)) 0 [some (.int c), some (.int (m : Int)), some (.ref S.length), some (.int r), none, some (.int s), none] (S ++ [.lst []]) ⟨[], s, none, none, rfl, (fun _ h => by cases h), h0, h1, rfl, rfl⟩ (fun j d ρ S2 hj hP => by
    obtain ⟨ws, s', v, v6, P1, P2, P3, P4, rfl, rfl⟩ := hP
    obtain ⟨hj1, rfl⟩ := range_get hj
    have hl : line = 16777216 := rfl
    have b1 : bits s' + bits 48271 < 1000000 := by
      have := log_le P3 P4 (by decide)
      have : bits 48271 = 15 := by decide
      omega
    have b2 : bits 12345 + bits (j : Int) < 1000000 := by
      have := log_le (i := (j : Int)) (k := 62) (by omega) (by omega) (by decide)
      have : bits 12345 = 13 := by decide
      omega
    obtain ⟨q, q1, q2⟩ := fmod_nat (s' * 48271 + 12345 * (j : Int) + 7) (m := 2147483647) (by decide)
    have b3 : bits (q : Int) + bits 69621 < 1000000 := by
      have := log_le (i := (q : Int)) (k := 62) (by omega) (by omega) (by decide)
      have : bits 69621 = 16 := by decide
      omega
    obtain ⟨o, o1, o2⟩ := fmod_nat ((q : Int) * 69621 + (j : Int)) (m := 1000003) (by decide)
    obtain ⟨w, w1, w2⟩ := fmod_nat ((o : Int).fdiv 3) (m := 60) (by decide)
    have hw : (ws.map D.int).length < line := by rw [List.length_map]; omega
    have ap := app_last (S := S) (d := .int (w : Int)) hw
    have hlst := lstOf_new (S := S) (ws.map D.int)
    refine ⟨[some (.int c), some (.int (m : Int)), some (.ref S.length), some (.int r), some (.int (j : Int)), some (.int (q : Int)), some (.int (o : Int))], S ++ [.lst ((ws ++ [(w : Int)]).map D.int)], ?_, rfl, ws ++ [(w : Int)], (q : Int), _, _, by simp; omega, okW_add P2 (by omega) w2, by omega, by omega, rfl, rfl⟩
    simp [frB, dB, asgT, asgN, hlst, b1, b2, b3, q1, o1, w1, ap, tidy_last])
  rw [range_len] at P1
  exact ⟨ws, _, _, _, by omega, P2, loop⟩
theorem draws_ok {n : Nat} {S : Store} {c : Int} : ∃ ws : List Int, ws.length = 21 ∧ okW ws ∧ callN L.G (n + 1) 5 [.int c, .int 21] S = .ok (.ref S.length) (S ++ [.lst (ws.map D.int)]) := by
  have hs : small 21 = true := by decide
  have hz : (0 : Nat) ≤ line := Nat.zero_le _
  have habs : 0 ≤ (if c < 0 then -c else c) := by split <;> omega
  generalize hr : (if c < 0 then -c else c) = r at habs
  by_cases hb : r < 1000000000000000000
  · obtain ⟨ws, v4, v5, v6, h1, h2, loop⟩ := loopB (cl := callN L.G n) (S := S) (m := 21) (c := c) (r := r) (s := r + 17) (by decide) (by omega) (by omega)
    refine ⟨ws, h1, h2, ?_⟩
    rw [call_eq fns_5 rfl]
    unfold dB at loop
    rw [show ((21 : Nat) : Int) = 21 from rfl] at loop
    simp [b__law_draws, env0, hs, hz, hr, hb, loop]
  · obtain ⟨ws, v3, v4, h1, h2, loop⟩ := loopA (cl := callN L.G n) (S := S) (m := 21) (c := c) (r := r) (by decide)
    refine ⟨ws, h1, h2, ?_⟩
    rw [call_eq fns_5 rfl]
    unfold dA at loop
    rw [show ((21 : Nat) : Int) = 21 from rfl] at loop
    simp [b__law_draws, env0, hs, hz, hr, hb, loop]
end K00
set_option Elab.async false
set_option linter.all false
set_option autoImplicit false
set_option maxRecDepth 100000
set_option maxHeartbeats 4000000
/-! K00Z: the law's words. -/
namespace K00
open Fx
def lt (ws : List Int) (k : Int) : Nat := (letters[((((ws[(k + 1).toNat]?).getD 0) + k).fmod 26).toNat]?).getD 97
theorem letters_all : letters.all isL = true := by decide
theorem lt_isL (ws : List Int) (k : Int) : isL (lt ws k) = true := by
  unfold lt
  generalize ((((ws[(k + 1).toNat]?).getD 0) + k).fmod 26).toNat = i
  cases e : letters[i]? with
  | none => rfl
  | some x => exact List.all_eq_true.mp letters_all x (List.mem_of_getElem? e)
def ltD (ws : List Int) : D → D
  | .int k => .str [lt ws k]
  | d => d
theorem joinS_nil1 : ∀ cs : List Nat, joinS [] (cs.map fun c => [c]) = cs
  | [] => rfl
  | [c] => rfl
  | c :: c2 :: cs => by
    have := joinS_nil1 (c2 :: cs)
    simp only [List.map_cons] at this ⊢
    show [c] ++ [] ++ joinS [] ([c2] :: cs.map fun c => [c]) = _
    rw [this]
    rfl
theorem word_ok {n : Nat} {S : Store} {c : Int} : ∃ w : List Nat, w.all isL = true ∧ 1 ≤ w.length ∧ w.length ≤ 20 ∧ callN L.G (n + 2) 6 [.int c] S = .ok (.str w) S := by
  obtain ⟨ws, h1, h2, dr⟩ := draws_ok (n := n) (S := S) (c := c)
  obtain ⟨m, m1, m2⟩ := fmod_nat (ws[0]'(by omega)) (m := 20) (by decide)
  have hl : line = 16777216 := rfl
  let items := (List.range (1 + m)).map fun k : Nat => D.int (k : Int)
  have hitems : rangeD 0 ((1 : Int) + (m : Int)) = items := by
    rw [show ((1 : Int) + (m : Int)) = ((1 + m : Nat) : Int) by omega]
    exact rangeD_nat _
  let w := (List.range (1 + m)).map fun k : Nat => lt ws (k : Int)
  have ws' : lstOf (S ++ [O.lst (ws.map D.int)]) S.length = some (ws.map D.int) := lstOf_new _ _
  let S1 := S ++ [O.lst (ws.map D.int)]
  have g0' : atI (ws.map D.int) 0 = some (.int (ws[0]'(by omega))) := by
    have := atI_nat (xs := ws.map D.int) (k := 0) (by rw [List.length_map]; omega)
    rw [show ((0 : Nat) : Int) = 0 from rfl] at this
    rw [this]
    simp
  have turn : ∀ d ∈ items, lcTurn [3] (.nm 3) [some (.int c), some (.str letters), some (.ref S.length), none] (evs L.G (callN L.G (n + 1)) none .nil).ts (ev L.G (callN L.G (n + 1)) none (.idx (.loc 1) (.bin .Mod (.bin .Add (.idx (.loc 2) (.bin .Add (.loc 3) (.con (.int 1)))) (.loc 3)) (.con (.int 26))))).v d S1 = .ok (some (ltD ws d)) S1 := fun d hd => by
    obtain ⟨k, hk, rfl⟩ := List.mem_map.mp hd
    have hk' : k < 1 + m := List.mem_range.mp hk
    have hk2 : k + 1 < ws.length := by omega
    have e1 : atI (ws.map D.int) ((k : Int) + 1) = some (.int (ws[k + 1])) := by
      have := atI_nat (xs := ws.map D.int) (k := k + 1) (by rw [List.length_map]; omega)
      rw [show ((k + 1 : Nat) : Int) = (k : Int) + 1 by omega] at this
      rw [this]
      simp [hk2]
    obtain ⟨q, q1, q2⟩ := fmod_nat (ws[k + 1] + (k : Int)) (m := 26) (by decide)
    have hq : q < letters.length := by show q < 26; omega
    have e2 : atI letters (q : Int) = some (letters[q]) := by rw [atI_nat hq]; simp [hq]
    have e3 : lt ws (k : Int) = letters[q] := by
      unfold lt
      rw [show ((k : Int) + 1).toNat = k + 1 by omega, List.getElem?_eq_getElem hk2, Option.getD_some, q1, show (q : Int).toNat = q by omega, List.getElem?_eq_getElem hq, Option.getD_some]
    have l26 : letters.length ≤ line := by decide
    simp [lcTurn, wipe, asgT, asgN, ws', S1, e1, q1, l26, e2, ltD, e3]
  have loop := lcLoop_map (f := lcTurn [3] (.nm 3) [some (.int c), some (.str letters), some (.ref S.length), none] (evs L.G (callN L.G (n + 1)) none .nil).ts (ev L.G (callN L.G (n + 1)) none (.idx (.loc 1) (.bin .Mod (.bin .Add (.idx (.loc 2) (.bin .Add (.loc 3) (.con (.int 1)))) (.loc 3)) (.con (.int 26))))).v) (chk := same none S1) (g := ltD ws) (S := S1) rfl (ds := items) (acc := []) turn (by simp [items]; omega)
  have hmap : ([] : List D) ++ items.map (ltD ws) = (w.map fun c => [c]).map D.str := by
    simp only [items, w, List.nil_append, List.map_map]
    exact List.map_congr_left fun k _ => rfl
  rw [hmap] at loop
  have hsm : small ((1 : Int) + (m : Int)) = true := by
    have := small_nat (n := 1 + m) (by omega)
    rwa [show ((1 + m : Nat) : Int) = 1 + (m : Int) by omega] at this
  have hw : w.length = 1 + m := by simp [w]
  have hsum : ((w.map fun c => [c]).map List.length).sum = w.length := by
    generalize w = x
    induction x with
    | nil => rfl
    | cons a x ih => simp only [List.map_cons, List.sum_cons, ih, List.length_nil, List.length_cons]; omega
  have hj := m_join (S1 ++ [O.lst ((w.map fun c => [c]).map D.str)]) (s := []) (d := .ref S1.length) (lstOf_new S1 _) rfl (by rw [hsum, List.length_nil, Nat.zero_mul]; omega)
  rw [joinS_nil1] at hj
  refine ⟨w, ?_, by omega, by omega, ?_⟩
  · rw [List.all_eq_true]
    intro x hx
    obtain ⟨k, _, rfl⟩ := List.mem_map.mp hx
    exact lt_isL _ _
  · rw [call_eq fns_6 rfl]
    have dr2 : ∀ s a, tidy S (.ok (.str s) (S ++ [a])) = .ok (.str s) S := fun s a => tidy_drop rfl
    have dr3 : tidy S1 (.ok (.str w) (S1 ++ [O.lst ((w.map fun c => [c]).map D.str)])) = .ok (.str w) S1 := tidy_drop rfl
    have i20 : (20 : Int) ≠ 0 := by decide
    have lp : lcLoop (lcTurn [3] (.nm 3) [some (.int c), some (.str letters), some (.ref S.length), none] (evs L.G (callN L.G (n + 1)) none .nil).ts (ev L.G (callN L.G (n + 1)) none (.idx (.loc 1) (.bin .Mod (.bin .Add (.idx (.loc 2) (.bin .Add (.loc 3) (.con (.int 1)))) (.loc 3)) (.con (.int 26))))).v) (same none S1) (rangeD 0 ((1 : Int) + (m : Int))) [] S1 = .ok ((w.map fun c => [c]).map D.str) S1 := by rw [hitems]; exact loop
    generalize hf : (w.map fun c => [c]).map D.str = F at lp hj dr3
    show tidy S (exs L.G (callN L.G (n + 1)) b__law_word none (env0 ⟨1, 4, b__law_word⟩ [.int c]) S).done = _
    rw [b__law_word]
    simp only [env0, List.map_cons, List.map_nil, List.cons_append, List.nil_append, ss_cons, s_asg_, v_con, tidy_same, R.toS_ok, List.replicate, setN_1, setN_0, push_nx, seqK_nx, v_call, vs_cons, vs_nil, v_loc, getL_0, R.bind_ok, dr, tidy_new, setN_2]
    have dr4 : tidy S (.ok (.str w) S1) = .ok (.str w) S := tidy_drop rfl
    change tidy S (seqK L.G (callN L.G (n + 1)) none .nil (ex L.G (callN L.G (n + 1)) (.ret (.mth .join (.con (.str [])) (.cons (.lc [3] (.nm 3) (.range1 (.bin .Add (.con (.int 1)) (.bin .Mod (.idx (.loc 2) (.con (.int 0))) (.con (.int 20))))) .nil (.idx (.loc 1) (.bin .Mod (.bin .Add (.idx (.loc 2) (.bin .Add (.loc 3) (.con (.int 1)))) (.loc 3)) (.con (.int 26))))) .nil))) none [some (.int c), some (.str letters), some (.ref S.length), none] S1)).done = _
    have ws2 : lstOf S1 S.length = some (ws.map D.int) := ws'
    clear turn loop
    clear_value S1
    simp [ws2, g0', m1, hsm, lp, hj, dr3, dr4]
end K00
set_option Elab.async false
set_option linter.all false
set_option autoImplicit false
set_option maxRecDepth 100000
set_option maxHeartbeats 4000000
/-! KVA: what the law's value is, in plain words. -/
namespace K00
open Fx
set_option exponentiation.threshold 4000 in
theorem big200 : 10 ^ 200 ≤ 2 ^ 1920 := by decide
mutual
theorem canon_good : ∀ v : D, canon v = true → good v = true
  | .int i, h => by
    have h' : i.natAbs < 10 ^ 200 := of_decide_eq_true h
    have : i.natAbs.log2 < 1920 := by
      by_cases z : i.natAbs = 0
      · rw [z]; decide
      · exact (Nat.log2_lt z).mpr (Nat.lt_of_lt_of_le h' big200)
    simpa [good] using this
  | .str s, _ => rfl
  | .tup xs, h => canons_good xs (show canons xs = true from h)
  | .non, h => by cases h
  | .bl _, h => by cases h
  | .ref _, h => by cases h
theorem canons_good : ∀ v : List D, canons v = true → goods v = true
  | [], _ => rfl
  | x :: xs, h => by
    have h' : canon x = true ∧ canons xs = true := by
      have : (canon x && canons xs) = true := h
      rwa [Bool.and_eq_true] at this
    simp [goods, canon_good x h'.1, canons_good xs h'.2]
end
theorem canons_of {xs : List D} (h : ∀ x ∈ xs, canon x = true) : canons xs = true := by
  induction xs with
  | nil => rfl
  | cons x xs ih =>
    simp only [canons, Bool.and_eq_true]
    exact ⟨h x (List.mem_cons_self ..), ih fun y hy => h y (List.mem_cons_of_mem _ hy)⟩
theorem deps_of2 {xs : List D} {k : Nat} (h : ∀ x ∈ xs, x.dep ≤ k) : D.deps xs ≤ k := by
  induction xs with
  | nil => exact Nat.zero_le _
  | cons x xs ih =>
    have h1 := h x (List.mem_cons_self ..)
    have h2 := ih fun y hy => h y (List.mem_cons_of_mem _ hy)
    simp only [D.deps]
    omega
def fOk (k : Nat) (f : List D) : Prop := ∀ x ∈ f, canon x = true ∧ x.dep + k ≤ 8
def stkOk : List (List D) → Prop
  | [] => True
  | f :: fs => fOk fs.length f ∧ stkOk fs
def fw (f : List D) : Nat := (f.map fun x => (vt x).length + 1).sum + 3
def W : List (List D) → Nat
  | [] => 0
  | f :: fs => fw f + W fs
theorem fw_app (f : List D) (v : D) : fw (f ++ [v]) = fw f + (vt v).length + 1 := by
  unfold fw
  rw [List.map_append, List.sum_append]
  simp
  omega
theorem stk_app {f : List D} {fs : List (List D)} {v : D} (h : stkOk (f :: fs)) (hc : canon v = true) (hd : v.dep + fs.length ≤ 8) : stkOk ((f ++ [v]) :: fs) ∧ W ((f ++ [v]) :: fs) = W (f :: fs) + (vt v).length + 1 := by
  refine ⟨⟨fun x hx => ?_, h.2⟩, by simp only [W, fw_app]; omega⟩
  rcases List.mem_append.mp hx with q | q
  · exact h.1 x q
  · rw [List.mem_singleton] at q; subst q; exact ⟨hc, hd⟩
theorem stk_push {stk : List (List D)} (h : stkOk stk) : stkOk ([] :: stk) ∧ W ([] :: stk) = W stk + 3 :=
  ⟨⟨fun x hx => (by cases hx), h⟩, by simp [W, fw]; omega⟩
theorem vt_tup_len (f : List D) : (vt (.tup f)).length + 1 ≤ fw f := by
  have h2 : ((vts f).map List.length).sum + (vts f).length = (f.map fun x => (vt x).length + 1).sum := by
    rw [vts_map]
    induction f with
    | nil => rfl
    | cons x f ih => simp only [List.map_cons, List.sum_cons, List.length_cons] at ih ⊢; omega
  unfold fw
  rw [vt]
  simp only [List.length_append, List.length_singleton, List.length_cons, List.length_nil, List.singleton_append]
  cases hf : vts f with
  | nil =>
    simp [joinS]
  | cons a b =>
    have := joinS_len [32] (vts f) (by rw [hf]; simp)
    rw [← hf]
    simp only [List.length_singleton, Nat.one_mul] at this
    omega
theorem tup_dep {f : List D} {k : Nat} (h : fOk k f) (hk : k ≤ 8) : canon (.tup f) = true ∧ (D.tup f).dep + k ≤ 9 := by
  refine ⟨canons_of fun x hx => (h x hx).1, ?_⟩
  have := deps_of2 (xs := f) (k := 8 - k) fun x hx => by have := (h x hx).2; omega
  simp only [D.dep]
  omega
theorem stk_pop {f g : List D} {fs : List (List D)} (h : stkOk (f :: g :: fs)) (hl : (f :: g :: fs).length ≤ 8) : stkOk ((g ++ [.tup f]) :: fs) ∧ W ((g ++ [.tup f]) :: fs) ≤ W (f :: g :: fs) := by
  simp only [List.length_cons] at hl
  have t := tup_dep h.1 (by simp only [List.length_cons]; omega)
  simp only [List.length_cons] at t
  obtain ⟨a, b⟩ := stk_app (v := .tup f) h.2 t.1 (by omega)
  refine ⟨a, ?_⟩
  rw [b]
  have := vt_tup_len f
  simp only [W]
  omega
/-! atoms -/
theorem pos_dig {n : Nat} (h : n < 10 ^ 200) : (digits n).length ≤ 200 := digits_len (k := 200) (by decide) h
theorem int_len {i : Int} (h : i.natAbs < 10 ^ 200) : (vt (.int i)).length ≤ 201 := by
  rw [vt]
  rcases Int.lt_trichotomy i 0 with hi | hi | hi
  · obtain ⟨n, rfl⟩ : ∃ n : Nat, i = -(n : Int) := ⟨i.natAbs, by omega⟩
    have := pos_dig (n := n) (by simpa using h)
    rw [strInt_neg (by omega)]
    simp
    omega
  · subst hi; decide
  · obtain ⟨n, rfl⟩ : ∃ n : Nat, i = (n : Int) := ⟨i.natAbs, by omega⟩
    have := pos_dig (n := n) (by simpa using h)
    rw [strInt_pos]
    omega
end K00
set_option Elab.async false
set_option linter.all false
set_option autoImplicit false
set_option maxRecDepth 100000
set_option maxHeartbeats 4000000
/-! KVB: the store while the law's value is made. -/
namespace K00
open Fx
structure Jnv (S0 S : Store) (b : Nat) (sl : List D) (as : List Nat) (stk : List (List D)) : Prop where
  pre : S.take S0.length = S0
  bs : S[b]? = some (.lst (as.reverse.map D.ref))
  sl : S[b + 1]? = some (.lst sl)
  b0 : S0.length ≤ b
  nd : as.Nodup
  ge : ∀ a ∈ as, S0.length ≤ a ∧ a ≠ b ∧ a ≠ b + 1
  fr : Fr S as stk
theorem jnv_app {S0 S : Store} {b a : Nat} {sl : List D} {as : List Nat} {f : List D} {fs : List (List D)} (I : Jnv S0 S b sl (a :: as) (f :: fs)) (v : D) : Jnv S0 (S.set a (.lst (f ++ [v]))) b sl (a :: as) ((f ++ [v]) :: fs) := by
  have ha := I.ge a (List.mem_cons_self ..)
  have hlt := I.fr.lt a (List.mem_cons_self ..)
  have nd := List.nodup_cons.mp I.nd
  have fr := I.fr
  cases fr with
  | cons h t =>
    exact ⟨take_set I.pre ha.1, by rw [List.getElem?_set_ne ha.2.1]; exact I.bs, by rw [List.getElem?_set_ne ha.2.2]; exact I.sl, I.b0, I.nd, I.ge, .cons (by rw [List.getElem?_set_self hlt]) (t.mono fun c hc o e => by rw [List.getElem?_set_ne (fun z => nd.1 (by rw [z]; exact hc))]; exact e)⟩
theorem jnv_pop {S0 S : Store} {b a : Nat} {sl : List D} {as : List Nat} {f : List D} {fs : List (List D)} (I : Jnv S0 S b sl (a :: as) (f :: fs)) : Jnv S0 (S.set b (.lst (as.reverse.map D.ref))) b sl as fs := by
  have hlt : b < S.length := (List.getElem?_eq_some_iff.mp I.bs).1
  have fr := I.fr
  cases fr with
  | cons h t =>
    exact ⟨take_set I.pre I.b0, by rw [List.getElem?_set_self hlt], by rw [List.getElem?_set_ne (by omega)]; exact I.sl, I.b0, (List.nodup_cons.mp I.nd).2, fun c hc => I.ge c (List.mem_cons_of_mem _ hc), t.mono fun c hc o e => by
      have := I.ge c (List.mem_cons_of_mem _ hc)
      rw [List.getElem?_set_ne (fun z => this.2.1 z.symm)]; exact e⟩
theorem jnv_push {S0 S : Store} {b : Nat} {sl : List D} {as : List Nat} {stk : List (List D)} (I : Jnv S0 S b sl as stk) : Jnv S0 ((S ++ [O.lst []] : Store).set b (O.lst (as.reverse.map D.ref ++ [D.ref S.length]))) b sl (S.length :: as) ([] :: stk) := by
  have hlt : b < S.length := (List.getElem?_eq_some_iff.mp I.bs).1
  have hlt2 : b + 1 < S.length := (List.getElem?_eq_some_iff.mp I.sl).1
  have h0 := I.b0
  refine ⟨take_set ?_ I.b0, ?_, ?_, I.b0, ?_, ?_, .cons ?_ (I.fr.mono fun c hc o e => ?_)⟩
  · rw [List.take_append_of_le_length (by omega)]; exact I.pre
  · rw [List.getElem?_set_self (by simp; omega)]; simp
  · rw [List.getElem?_set_ne (by omega), List.getElem?_append_left hlt2]; exact I.sl
  · rw [List.nodup_cons]
    exact ⟨fun h => absurd (I.fr.lt _ h) (Nat.lt_irrefl _), I.nd⟩
  · intro c hc
    rcases List.mem_cons.mp hc with rfl | hc
    · omega
    · exact I.ge c hc
  · rw [List.getElem?_set_ne (by omega)]; simp
  · have h1 := I.ge c hc
    have h2 := I.fr.lt c hc
    rw [List.getElem?_set_ne (fun z => h1.2.1 z.symm), List.getElem?_append_left h2]
    exact e
/-- how far the value is: the frames are small, few and shallow -/
structure Far (S0 S : Store) (b : Nat) (sl : List D) (w : Nat) (as : List Nat) (stk : List (List D)) : Prop where
  I : Jnv S0 S b sl as stk
  ok : stkOk stk
  few : stk.length ≤ 8
  one : 1 ≤ stk.length
  wt : W stk ≤ w
theorem len_fw (f : List D) : f.length ≤ fw f := by
  unfold fw
  induction f with
  | nil => simp
  | cons x f ih => simp only [List.map_cons, List.sum_cons, List.length_cons] at ih ⊢; omega
theorem far_app {S0 S : Store} {b a w : Nat} {sl : List D} {as : List Nat} {f : List D} {fs : List (List D)} (F : Far S0 S b sl w (a :: as) (f :: fs)) {v : D} (hc : canon v = true) (hd : v.dep ≤ 1) (hl : (vt v).length ≤ 201) : Far S0 (S.set a (.lst (f ++ [v]))) b sl (w + 210) (a :: as) ((f ++ [v]) :: fs) := by
  have h1 := F.few
  have h2 := F.wt
  simp only [List.length_cons] at h1
  have := stk_app F.ok hc (by omega)
  exact ⟨jnv_app F.I v, this.1, by simpa using h1, by simp, by rw [this.2]; omega⟩
def dV : FSs := (.cons (.asg 4 (.bin .Mod (.blt .int (.cons (.loc 3) .nil)) (.con (.int 7))))
    (.cons (.asg 5 (.bin .FloorDiv (.blt .int (.cons (.loc 3) .nil)) (.con (.int 7))))
    (.cons (.ifs (.cmp .Eq (.loc 4) (.con (.int 0))) (.cons (.expr (.mth .append (.idx (.loc 1) (.neg (.con (.int 1)))) (.cons (.bin .Mod (.blt .int (.cons (.loc 5) .nil)) (.loc 2)) .nil)))
    .nil) (.cons (.ifs (.cmp .Eq (.loc 4) (.con (.int 1))) (.cons (.expr (.mth .append (.idx (.loc 1) (.neg (.con (.int 1)))) (.cons (.bin .Sub (.con (.int 0)) (.bin .Mod (.blt .int (.cons (.loc 5) .nil)) (.loc 2))) .nil)))
    .nil) (.cons (.ifs (.cmp .Eq (.loc 4) (.con (.int 2))) (.cons (.expr (.mth .append (.idx (.loc 1) (.neg (.con (.int 1)))) (.cons (.bin .Mod (.blt .int (.cons (.loc 5) .nil)) (.con (.int 12))) .nil)))
    .nil) (.cons (.ifs (.cmp .Eq (.loc 4) (.con (.int 3))) (.cons (.expr (.mth .append (.idx (.loc 1) (.neg (.con (.int 1)))) (.cons (.call 6 (.cons (.loc 5) .nil)) .nil)))
    .nil) (.cons (.ifs (.and (.cons (.cmp .Eq (.loc 4) (.con (.int 4))) (.cons (.cmp .Lt (.blt .len (.cons (.loc 1) .nil)) (.con (.int 8))) .nil))) (.cons (.expr (.mth .append (.loc 1) (.cons (.lst .nil) .nil)))
    .nil) (.cons (.ifs (.and (.cons (.cmp .Eq (.loc 4) (.con (.int 5))) (.cons (.cmp .Gt (.blt .len (.cons (.loc 1) .nil)) (.con (.int 1))) .nil))) (.cons (.asg 6 (.blt .tuple (.cons (.mth .pop (.loc 1) .nil) .nil)))
    (.cons (.expr (.mth .append (.idx (.loc 1) (.neg (.con (.int 1)))) (.cons (.loc 6) .nil)))
    .nil)) (.cons (.expr (.mth .append (.idx (.loc 1) (.neg (.con (.int 1)))) (.cons (.tup .nil) .nil)))
    .nil))
    .nil))
    .nil))
    .nil))
    .nil))
    .nil))
    .nil)))
def rV (r : D) (b : Nat) (Lg : Int) (v3 v4 v5 v6 : Option D) : Env := [some r, some (.ref b), some (.int Lg), v3, v4, v5, v6, none, none, none]
theorem value_body {n : Nat} {S0 S : Store} {b w : Nat} {sl : List D} {as : List Nat} {stk : List (List D)} (F : Far S0 S b sl w as stk) (hw : w < 100000) {r : D} {Lg c : Int} (hL : Lg = 10 ^ 200) (v3 v4 v5 v6 : Option D) :
    ∃ v4' v5' v6' S' as' stk', frB L.G (callN L.G (n + 2)) (.nm 3) dV none (.int c) (rV r b Lg v3 v4 v5 v6) S = .nx (rV r b Lg (some (.int c)) v4' v5' v6') S' ∧ Far S0 S' b sl (w + 210) as' stk' := by
  have hl : line = 16777216 := rfl
  have hz : (0 : Nat) ≤ line := Nat.zero_le _
  obtain ⟨k, k1, k2⟩ := fmod_nat c (m := 7) (by decide)
  have hlen := F.I.fr.len
  cases as with
  | nil =>
    have := F.one
    rw [← hlen] at this
    simp at this
  | cons a as =>
    cases stk with
    | nil => simp at hlen
    | cons f fs =>
      obtain ⟨P, hP⟩ : ∃ P, as.reverse.map D.ref = P := ⟨_, rfl⟩
      have hPl : P.length = as.length := by rw [← hP]; simp
      have hPa : (a :: as).reverse.map D.ref = P ++ [D.ref a] := by rw [← hP]; simp
      have hb : S[b]? = some (.lst (P ++ [D.ref a])) := by rw [F.I.bs, hPa]
      have hb2 : lstOf S b = some (P ++ [D.ref a]) := lst_is S hb
      obtain ⟨K, hK⟩ : ∃ K, fs.length + 1 = K := ⟨_, rfl⟩
      have hbl : fLen [.ref b] S = .ok (.int (K : Int)) S := by
        rw [len_ref S hb2]
        simp only [List.length_cons] at hlen
        simp
        omega
      have hla := atI_last P (D.ref a)
      have ha : S[a]? = some (.lst f) := by have fr := F.I.fr; cases fr with | cons h t => exact h
      have ha2 : lstOf S a = some f := lst_is S ha
      have hf : f.length < line := by
        have h1 := len_fw f
        have h2 := F.wt
        simp only [W] at h2
        omega
      have app : ∀ v, mthF .append (.ref a) [v] S = .ok .non (S.set a (.lst (f ++ [v]))) := fun v => m_app S ha hf
      have p : (0 : Int) < 10 ^ 200 := by decide
      have hL0 : Lg ≠ 0 := by rw [hL]; omega
      have hsz : ((c.fdiv 7).fmod Lg).natAbs < 10 ^ 200 ∧ (0 - (c.fdiv 7).fmod Lg).natAbs < 10 ^ 200 := by
        have q1 := Int.fmod_nonneg_of_pos (c.fdiv 7) (b := Lg) (by omega)
        have q2 := Int.fmod_lt_of_pos (c.fdiv 7) (b := Lg) (by omega)
        have q3 : ((10 ^ 200 : Nat) : Int) = 10 ^ 200 := by simp
        omega
      have ci : ∀ i : Int, i.natAbs < 10 ^ 200 → canon (.int i) = true := fun i h => decide_eq_true h
      rcases (show k = 0 ∨ k = 1 ∨ k = 2 ∨ k = 3 ∨ k = 4 ∨ k = 5 ∨ k = 6 by omega) with rfl | rfl | rfl | rfl | rfl | rfl | rfl
      · refine ⟨some (.int 0), some (.int (c.fdiv 7)), v6, _, _, _, ?_, far_app F (ci _ hsz.1) (by simp [D.dep]) (int_len hsz.1)⟩
        simp [frB, dV, rV, asgT, asgN, k1, hb2, hla, ha2, hL0, app]
      · refine ⟨some (.int 1), some (.int (c.fdiv 7)), v6, _, _, _, ?_, far_app F (ci _ hsz.2) (by simp [D.dep]) (int_len hsz.2)⟩
        simp [frB, dV, rV, asgT, asgN, k1, hb2, hla, ha2, hL0, app]
      · obtain ⟨q, q1, q2⟩ := fmod_nat (c.fdiv 7) (m := 12) (by decide)
        have hq : (q : Int).natAbs < 10 ^ 200 := by
          have : (12 : Nat) ≤ 10 ^ 200 := by decide
          omega
        refine ⟨some (.int 2), some (.int (c.fdiv 7)), v6, _, _, _, ?_, far_app F (ci q hq) (by simp [D.dep]) (int_len hq)⟩
        simp [frB, dV, rV, asgT, asgN, k1, hb2, hla, ha2, hL0, q1, app]
      · obtain ⟨wd, w1, w2, w3, w4⟩ := word_ok (n := n) (S := S) (c := c.fdiv 7)
        refine ⟨some (.int 3), some (.int (c.fdiv 7)), v6, _, _, _, ?_, far_app F (v := .str wd) (by simp [canon, w1, w2, w3]) (by simp [D.dep]) (by rw [vt]; omega)⟩
        simp [frB, dV, rV, asgT, asgN, k1, hb2, hla, ha2, hL0, w4, app]
      · by_cases h8 : (K : Int) < 8
        · have I2 := jnv_push F.I
          rw [hPa] at I2
          have hbl2 : b < S.length := (List.getElem?_eq_some_iff.mp hb).1
          have hPs : (P ++ [D.ref a]).length < line := by
            have h1 := F.few
            simp only [List.length_cons] at h1 hlen
            rw [List.length_append, hPl]
            simp
            omega
          have hap := m_app (S ++ [O.lst []]) (n := b) (d := D.ref S.length) (xs := P ++ [D.ref a]) (by
            rw [List.getElem?_append_left hbl2, hb]) hPs
          have htp := tidy_push (S := S) (k := b) (xs := P ++ [D.ref a]) (ys := (P ++ [D.ref a]) ++ [D.ref S.length]) hb (by
            intro e
            have := congrArg List.length e
            simp at this) (O.lst []) .non
          have hsome : (lstOf S b).isSome = true := by rw [hb2]; rfl
          have sp := stk_push F.ok
          have h1 := F.few
          have h2 := F.wt
          simp only [List.length_cons] at h1
          generalize hQ : (P ++ [D.ref a]) ++ [D.ref S.length] = Q at I2 hap htp
          refine ⟨some (.int 4), some (.int (c.fdiv 7)), v6, _, _, _, ?_, I2, sp.1, by simp; omega, by simp, by rw [sp.2]; omega⟩
          simp [frB, dV, rV, asgT, asgN, k1, hbl, h8, hz, hsome, hap, htp]
        · refine ⟨some (.int 4), some (.int (c.fdiv 7)), v6, _, _, _, ?_, far_app F (v := .tup []) rfl (by simp [D.dep, D.deps]) (by decide)⟩
          simp [frB, dV, rV, asgT, asgN, k1, hb2, hla, ha2, hL0, hz, hbl, h8, app]
      · by_cases h8 : (1 : Int) < (K : Int)
        · cases fs with
          | nil => simp at hK; omega
          | cons g gs =>
            cases as with
            | nil => simp at hlen
            | cons a2 as =>
              have I2 := jnv_pop F.I
              rw [hP] at I2
              have hpop := m_pop S (n := b) (d := D.ref a) (xs := P) hb
              obtain ⟨P2, hP2⟩ : ∃ P, as.reverse.map D.ref = P := ⟨_, rfl⟩
              have hPP : P = P2 ++ [D.ref a2] := by rw [← hP, ← hP2]; simp
              have hne : a ≠ b := (F.I.ge a (List.mem_cons_self ..)).2.1
              have ha3 : lstOf (S.set b (.lst P)) a = some f := lst_is _ (by rw [List.getElem?_set_ne (fun z => hne z.symm)]; exact ha)
              have htu := f_tuple (S.set b (.lst P)) (n := a) (xs := f) ha3
              have hb3 : lstOf (S.set b (.lst P)) b = some (P2 ++ [D.ref a2]) := by rw [← hPP]; exact lst_is _ (I2.bs.trans (by rw [hP]))
              have hg : (S.set b (.lst P))[a2]? = some (.lst g) := by have fr := I2.fr; cases fr with | cons h t => exact h
              have hg2 : lstOf (S.set b (.lst P)) a2 = some g := lst_is _ hg
              have hgl : g.length < line := by
                have h1 := len_fw g
                have h2 := F.wt
                simp only [W] at h2
                omega
              have app2 := m_app (S.set b (.lst P)) (d := D.tup f) hg hgl
              have hla2 := atI_last P2 (D.ref a2)
              have sp := stk_pop F.ok F.few
              have h1 := F.few
              have h2 := F.wt
              have hsome : (lstOf S b).isSome = true := by rw [hb2]; rfl
              simp only [List.length_cons] at h1
              refine ⟨some (.int 5), some (.int (c.fdiv 7)), some (.tup f), _, _, _, ?_, jnv_app I2 (.tup f), sp.1, by simp; omega, by simp, by omega⟩
              generalize hS2 : S.set b (O.lst P) = S2 at hpop htu hb3 hg2 app2
              have hS2l : S2.length = S.length := by rw [← hS2]; simp
              have td : ∀ d, tidy S (.ok d S2) = .ok d S2 := fun d => tidy_len hS2l
              simp [frB, dV, rV, asgT, asgN, k1, hbl, h8, hz, hsome, hpop, htu, td, hb3, hla2, hg2, app2]
        · refine ⟨some (.int 5), some (.int (c.fdiv 7)), v6, _, _, _, ?_, far_app F (v := .tup []) rfl (by simp [D.dep, D.deps]) (by decide)⟩
          simp [frB, dV, rV, asgT, asgN, k1, hb2, hla, ha2, hL0, hz, hbl, h8, app]
      · refine ⟨some (.int 6), some (.int (c.fdiv 7)), v6, _, _, _, ?_, far_app F (v := .tup []) rfl (by simp [D.dep, D.deps]) (by decide)⟩
        simp [frB, dV, rV, asgT, asgN, k1, hb2, hla, ha2, hL0, hz, app]
end K00
set_option Elab.async false
set_option linter.all false
set_option autoImplicit false
set_option maxRecDepth 100000
set_option maxHeartbeats 4000000
/-! KVC: the loops that make the law's value. -/
namespace K00
open Fx
theorem value_loop {n : Nat} {S0 : Store} {b : Nat} {sl : List D} {r : D} {Lg : Int} (hL : Lg = 10 ^ 200) (S1 : Store) (hS1 : S1[b + 1]? = some (.lst sl)) : ∀ (cs : List Int) (w : Nat) (S : Store) (as : List Nat) (stk : List (List D)) (v3 v4 v5 v6 : Option D), Far S0 S b sl w as stk → w + 210 * cs.length < 100000 →
    ∃ v3' v4' v5' v6' S' as' stk', forL (frB L.G (callN L.G (n + 2)) (.nm 3) dV none) (same (some (b + 1)) S1) (cs.map D.int) (rV r b Lg v3 v4 v5 v6) S = .nx (rV r b Lg v3' v4' v5' v6') S' ∧ Far S0 S' b sl (w + 210 * cs.length) as' stk'
  | [], w, S, as, stk, v3, v4, v5, v6, F, hw => ⟨v3, v4, v5, v6, S, as, stk, rfl, by simpa using F⟩
  | c :: cs, w, S, as, stk, v3, v4, v5, v6, F, hw => by
    simp only [List.length_cons] at hw
    obtain ⟨w4, w5, w6, S2, as2, stk2, e, F2⟩ := value_body (n := n) F (by omega) (r := r) (c := c) hL v3 v4 v5 v6
    obtain ⟨u3, u4, u5, u6, S3, as3, stk3, e3, F3⟩ := value_loop (n := n) hL S1 hS1 cs (w + 210) S2 as2 stk2 (some (.int c)) w4 w5 w6 F2 (by omega)
    refine ⟨u3, u4, u5, u6, S3, as3, stk3, ?_, by rw [show w + 210 * (c :: cs).length = w + 210 + 210 * cs.length by simp only [List.length_cons]; omega]; exact F3⟩
    rw [List.map_cons, forL, e]
    dsimp only
    rw [if_pos (by unfold same; dsimp only; rw [decide_eq_true_eq, F2.I.sl, hS1]), e3]
def pB : FSs := (.cons (.asg 6 (.blt .tuple (.cons (.mth .pop (.loc 1) .nil) .nil)))
    (.cons (.expr (.mth .append (.idx (.loc 1) (.neg (.con (.int 1)))) (.cons (.loc 6) .nil)))
    .nil))
def pC (cl : Orac) : Env → Store → R Bool := fun ρ S => tidyB S ((ev L.G cl none (.cmp .Gt (.blt .len (.cons (.loc 1) .nil)) (.con (.int 1)))).t ρ S)
theorem pop_body {cl : Orac} {S0 S : Store} {b w : Nat} {sl : List D} {as : List Nat} {f : List D} {fs : List (List D)} (F : Far S0 S b sl w as (f :: fs)) (hw : w < 100000) {r : D} {Lg : Int} (v3 v4 v5 v6 : Option D) (h1 : 1 ≤ fs.length) :
    pC cl (rV r b Lg v3 v4 v5 v6) S = .ok true S ∧ ∃ S' as' stk', exs L.G cl pB none (rV r b Lg v3 v4 v5 v6) S = .nx (rV r b Lg v3 v4 v5 (some (.tup f))) S' ∧ Far S0 S' b sl w as' stk' ∧ stk'.length = fs.length := by
  have hl : line = 16777216 := rfl
  have hlen := F.I.fr.len
  cases as with
  | nil => simp at hlen
  | cons a as =>
    obtain ⟨P, hP⟩ : ∃ P, as.reverse.map D.ref = P := ⟨_, rfl⟩
    have hPl : P.length = as.length := by rw [← hP]; simp
    have hPa : (a :: as).reverse.map D.ref = P ++ [D.ref a] := by rw [← hP]; simp
    have hb : S[b]? = some (.lst (P ++ [D.ref a])) := by rw [F.I.bs, hPa]
    have hb2 : lstOf S b = some (P ++ [D.ref a]) := lst_is S hb
    obtain ⟨K, hK⟩ : ∃ K, fs.length + 1 = K := ⟨_, rfl⟩
    have hbl : fLen [.ref b] S = .ok (.int (K : Int)) S := by
      rw [len_ref S hb2]
      simp only [List.length_cons] at hlen
      simp
      omega
    have ha : S[a]? = some (.lst f) := by have fr := F.I.fr; cases fr with | cons h t => exact h
    have h8 : (1 : Int) < (K : Int) := by omega
    refine ⟨by simp [pC, rV, hbl, h8], ?_⟩
    cases fs with
    | nil => simp at h1
    | cons g gs =>
      cases as with
      | nil => simp at hlen
      | cons a2 as =>
        have I2 := jnv_pop F.I
        rw [hP] at I2
        have hpop := m_pop S (n := b) (d := D.ref a) (xs := P) hb
        obtain ⟨P2, hP2⟩ : ∃ P, as.reverse.map D.ref = P := ⟨_, rfl⟩
        have hPP : P = P2 ++ [D.ref a2] := by rw [← hP, ← hP2]; simp
        have hne : a ≠ b := (F.I.ge a (List.mem_cons_self ..)).2.1
        have ha3 : lstOf (S.set b (.lst P)) a = some f := lst_is _ (by rw [List.getElem?_set_ne (fun z => hne z.symm)]; exact ha)
        have htu := f_tuple (S.set b (.lst P)) (n := a) (xs := f) ha3
        have hb3 : lstOf (S.set b (.lst P)) b = some (P2 ++ [D.ref a2]) := by rw [← hPP]; exact lst_is _ (I2.bs.trans (by rw [hP]))
        have hg : (S.set b (.lst P))[a2]? = some (.lst g) := by have fr := I2.fr; cases fr with | cons h t => exact h
        have hg2 : lstOf (S.set b (.lst P)) a2 = some g := lst_is _ hg
        have hgl : g.length < line := by
          have h1 := len_fw g
          have h2 := F.wt
          simp only [W] at h2
          omega
        have app2 := m_app (S.set b (.lst P)) (d := D.tup f) hg hgl
        have hla2 := atI_last P2 (D.ref a2)
        have sp := stk_pop F.ok F.few
        have h1 := F.few
        have h2 := F.wt
        have hsome : (lstOf S b).isSome = true := by rw [hb2]; rfl
        simp only [List.length_cons] at h1
        refine ⟨_, _, _, ?_, ⟨jnv_app I2 (.tup f), sp.1, by simp; omega, by simp, by omega⟩, by simp⟩
        generalize hS2 : S.set b (O.lst P) = S2 at hpop htu hb3 hg2 app2
        have hS2l : S2.length = S.length := by rw [← hS2]; simp
        have td : ∀ d, tidy S (.ok d S2) = .ok d S2 := fun d => tidy_len hS2l
        simp [pB, rV, hbl, hsome, hpop, htu, td, hb3, hla2, hg2, app2]
theorem close_loop {cl : Orac} {S0 : Store} {b w : Nat} {sl : List D} {r : D} {Lg : Int} (hw : w < 100000) (v3 v4 v5 : Option D) : ∀ (k m : Nat) (S : Store) (as : List Nat) (f : List D) (fs : List (List D)) (v6 : Option D), fs.length ≤ k → Far S0 S b sl w as (f :: fs) →
    ∃ v6' S' a' f', whlL (pC cl) (exs L.G cl pB none) (exs L.G cl .nil none) (k + 1 + m) (rV r b Lg v3 v4 v5 v6) S = .nx (rV r b Lg v3 v4 v5 v6') S' ∧ Far S0 S' b sl w [a'] [f']
  | k, m, S, as, f, [], v6, _, F => by
    have hlen := F.I.fr.len
    cases as with
    | nil => simp at hlen
    | cons a as =>
      simp only [List.length_cons, List.length_nil] at hlen
      have : as = [] := List.length_eq_zero_iff.mp (by omega)
      subst this
      have hb2 : lstOf S b = some [D.ref a] := lst_is S F.I.bs
      have hbl : fLen [.ref b] S = .ok (.int 1) S := by rw [len_ref S hb2]; rfl
      refine ⟨v6, S, a, f, ?_, F⟩
      rw [show k + 1 + m = k + m + 1 by omega, whl_end (by simp [pC, rV, hbl])]
      rfl
  | 0, m, S, as, f, g :: gs, v6, h, F => by simp at h
  | k + 1, m, S, as, f, g :: gs, v6, h, F => by
    obtain ⟨c1, S', as', stk', e, F', hl⟩ := pop_body (cl := cl) F hw (r := r) (Lg := Lg) v3 v4 v5 v6 (by simp)
    cases stk' with
    | nil => simp at hl
    | cons f' fs' =>
      simp only [List.length_cons] at hl h
      obtain ⟨v6', S2, a', f2, e2, F2⟩ := close_loop (cl := cl) hw v3 v4 v5 k m S' as' f' fs' (some (.tup f)) (by omega) F'
      refine ⟨v6', S2, a', f2, ?_, F2⟩
      rw [show k + 1 + 1 + m = k + 1 + m + 1 by omega, whl_step c1 e, e2]
end K00
set_option Elab.async false
set_option linter.all false
set_option autoImplicit false
set_option maxRecDepth 100000
set_option maxHeartbeats 4000000
/-! KVD: the law's value. -/
namespace K00
open Fx
theorem fns_7 : L.G.fns[7]? = some ⟨1, 10, b__law_value⟩ := rfl
def wB : FSs := .cons (.asg 7 (.tup (.cons (.loc 7) .nil))) .nil
def tV (v0 v1 v2 v3 v4 v5 v6 : Option D) (v : D) (v8 v9 : Option D) : Env := [v0, v1, v2, v3, v4, v5, v6, some v, v8, v9]
theorem vt_one (v : D) : (vt (.tup [v])).length = (vt v).length + 2 := by
  rw [vt]
  simp [vts, joinS]
theorem wrap_loop {cl : Orac} {S : Store} {m k : Nat} {v : D} (hm : m ≤ 91) (hc : canon v = true) (hd : v.dep ≤ 9) (hl : (vt v).length ≤ k) (v0 v1 v2 v3 v4 v5 v6 v8 v9 : Option D) : ∃ v' v9', canon v' = true ∧ v'.dep ≤ 100 ∧ (vt v').length ≤ k + 182 ∧ forL (frB L.G cl (.nm 9) wB none) (same none S) (rangeD 0 (m : Int)) (tV v0 v1 v2 v3 v4 v5 v6 v v8 v9) S = .nx (tV v0 v1 v2 v3 v4 v5 v6 v' v8 v9') S := by
  obtain ⟨ρ', S', loop, P1, v', v9', P2, P3, P4, rfl⟩ := forL_inv (f := frB L.G cl (.nm 9) wB none) (chk := same none S) (fun i ρ S' => S' = S ∧ ∃ v' v9', canon v' = true ∧ v'.dep ≤ 9 + i ∧ (vt v').length ≤ k + 2 * i ∧ ρ = tV v0 v1 v2 v3 v4 v5 v6 v' v8 v9') (rangeD 0 (m : Int)) 0 (tV v0 v1 v2 v3 v4 v5 v6 v v8 v9) S ⟨rfl, v, v9, hc, hd, hl, rfl⟩ (fun j d ρ S2 hj hP => by
    obtain ⟨rfl, u, u9, P2, P3, P4, rfl⟩ := hP
    obtain ⟨hj1, rfl⟩ := range_get hj
    have h1 : (1 : Nat) ≤ line := by decide
    refine ⟨tV v0 v1 v2 v3 v4 v5 v6 (.tup [u]) v8 (some (.int (j : Int))), S2, ?_, rfl, rfl, .tup [u], some (.int (j : Int)), ?_, ?_, ?_, rfl⟩
    · simp [frB, wB, tV, asgT, asgN, h1]
    · simpa [canon, canons] using P2
    · simp only [D.dep, D.deps]; omega
    · rw [vt_one]; omega)
  rw [range_len] at P3 P4
  rw [P1] at loop
  exact ⟨v', v9', P2, by omega, by omega, loop⟩
@[simp] theorem seqI_ref' {S : Store} {n : Nat} {xs : List D} (h : lstOf S n = some xs) : seqI (.ok (.ref n) S) = .ok (xs, some n) S := by
  unfold seqI
  simp [h]
@[simp] theorem cut_ref' {S : Store} {n : Nat} {xs : List D} {lo hi : Option Int} (h : lstOf S n = some xs) : cutD S (.ref n) lo hi = .ok (.ref S.length) (S ++ [.lst (cutX xs lo hi)]) := by
  unfold cutD
  simp [h]
theorem lst_pre {S0 S : Store} {r : Nat} {xs : List D} (h : lstOf S0 r = some xs) (p : S.take S0.length = S0) : lstOf S r = some xs := by
  have hr : r < S0.length := by
    unfold lstOf at h
    cases e : S0[r]? with
    | none => rw [e] at h; cases h
    | some o => exact (List.getElem?_eq_some_iff.mp e).1
  have e : S0[r]? = S[r]? := by
    have : (S.take S0.length)[r]? = S[r]? := List.getElem?_take_of_lt hr
    rw [p] at this
    exact this
  unfold lstOf at h ⊢
  rw [← e]
  exact h
def q1 : FS := .asg 1 (.lst (.cons (.lst .nil) .nil))
def q2 : FS := .asg 2 (.bin .Mult (.bin .Mult (.bin .Mult (.bin .Pow (.con (.int 10)) (.con (.int 50))) (.bin .Pow (.con (.int 10)) (.con (.int 50)))) (.bin .Pow (.con (.int 10)) (.con (.int 50)))) (.bin .Pow (.con (.int 10)) (.con (.int 50))))
def q3 : FS := .fr (.nm 3) (.seq (.cut (.loc 0) (.con (.int 1)) (.con (.int 61)))) dV
def q4 : FS := .whl (.cmp .Gt (.blt .len (.cons (.loc 1) .nil)) (.con (.int 1))) pB .nil
def q6 : FSs := (.cons (.ifs (.cmp .Eq (.bin .Mod (.bin .FloorDiv (.blt .int (.cons (.loc 8) .nil)) (.con (.int 60))) (.con (.int 4))) (.con (.int 1))) (.cons (.fr (.nm 9) (.range1 (.bin .Mod (.bin .FloorDiv (.blt .int (.cons (.loc 8) .nil)) (.con (.int 240))) (.con (.int 92)))) wB)
    .nil) .nil)
    (.cons (.ret (.loc 7))
    .nil))
def q5 : FSs := (.cons (.asg 7 (.blt .tuple (.cons (.idx (.loc 1) (.con (.int 0))) .nil)))
    (.cons (.asg 8 (.call 4 (.cons (.loc 0) (.cons (.con (.int 0)) .nil))))
    (.cons (.ifs (.and (.cons (.cmp .Gt (.blt .len (.cons (.loc 7) .nil)) (.con (.int 0))) (.cons (.cmp .Eq (.bin .Mod (.blt .int (.cons (.loc 8) .nil)) (.con (.int 3))) (.con (.int 1))) .nil))) (.cons (.asg 7 (.idx (.loc 7) (.bin .Mod (.bin .FloorDiv (.blt .int (.cons (.loc 8) .nil)) (.con (.int 3))) (.blt .len (.cons (.loc 7) .nil)))))
    .nil) .nil)
    q6)))
theorem b_lv : b__law_value = .cons q1 (.cons q2 (.cons q3 (.cons q4 q5))) := rfl
theorem q1_ok {cl : Orac} {S : Store} {r : D} : ex L.G cl q1 none [some r, none, none, none, none, none, none, none, none, none] S = .nx [some r, some (.ref (S.length + 1)), none, none, none, none, none, none, none, none] (S ++ [O.lst [], O.lst [.ref S.length]]) := by
  have hz : (0 : Nat) ≤ line := Nat.zero_le _
  have h1 : (1 : Nat) ≤ line := by decide
  have ty : tidy S (.ok (.ref (S.length + 1)) (S ++ [O.lst [], O.lst [.ref S.length]])) = .ok (.ref (S.length + 1)) (S ++ [O.lst [], O.lst [.ref S.length]]) := by
    unfold tidy
    simp [D.wf, O.wf, D.wfs]
  simp [q1, hz, h1, ty]
theorem q2_ok {cl : Orac} {S : Store} {r x : D} : ∃ Lg, Lg = 10 ^ 200 ∧ ex L.G cl q2 none [some r, some x, none, none, none, none, none, none, none, none] S = .nx [some r, some x, some (.int Lg), none, none, none, none, none, none, none] S := by
  refine ⟨10 ^ 200, rfl, ?_⟩
  have e1 : binop .Pow (.int 10) (.int 50) S = .ok (.int (10 ^ 50)) S := by
    rw [pow_int, if_pos (by decide)]
    rfl
  have m1 : binop .Mult (.int (10 ^ 50)) (.int (10 ^ 50)) S = .ok (.int (10 ^ 100)) S := by
    rw [mul_int, if_pos (by decide +kernel)]
    rfl
  have m2 : binop .Mult (.int (10 ^ 100)) (.int (10 ^ 50)) S = .ok (.int (10 ^ 150)) S := by
    rw [mul_int, if_pos (by decide +kernel)]
    rfl
  have m3 : binop .Mult (.int (10 ^ 150)) (.int (10 ^ 50)) S = .ok (.int (10 ^ 200)) S := by
    rw [mul_int, if_pos (by decide +kernel)]
    rfl
  simp only [q2, s_asg_, v_bin, v_con, R.bind_ok, e1, m1, m2, m3, tidy_same, R.toS_ok, setN_2, setN_1, setN_0, push_nx]
end K00
set_option Elab.async false
set_option linter.all false
set_option autoImplicit false
set_option maxRecDepth 100000
set_option maxHeartbeats 4000000
/-! KVE: the law's value, joined. -/
namespace K00
open Fx
theorem cut_ints (ns : List Int) : ∃ cs : List Int, cutX (ns.map D.int) (some 1) (some 61) = cs.map D.int ∧ cs.length ≤ 60 := by
  refine ⟨cutX ns (some 1) (some 61), ?_, ?_⟩
  · unfold cutX
    rw [List.length_map, List.map_take, List.map_drop]
  · unfold cutX sIx
    dsimp only
    rw [if_neg (by decide), if_neg (by decide), List.length_take]
    have : min (Int.toNat 61) ns.length - min (Int.toNat 1) ns.length ≤ 60 := by
      have h1 : Int.toNat 61 = 61 := rfl
      have h2 : Int.toNat 1 = 1 := rfl
      omega
    omega
theorem q3_ok {n : Nat} {S0 : Store} {r : Nat} {ns : List Int} (h : lstOf S0 r = some (ns.map D.int)) {Lg : Int} (hL : Lg = 10 ^ 200) : ∃ sl v3 v4 v5 v6 S' as stk, ex L.G (callN L.G (n + 2)) q3 none (rV (.ref r) (S0.length + 1) Lg none none none none) (S0 ++ [O.lst [], O.lst [.ref S0.length]]) = .nx (rV (.ref r) (S0.length + 1) Lg v3 v4 v5 v6) S' ∧ Far S0 S' (S0.length + 1) sl 20000 as stk := by
  obtain ⟨cs, c1, c2⟩ := cut_ints ns
  have h2 : lstOf (S0 ++ [O.lst [], O.lst [.ref S0.length]]) r = some (ns.map D.int) := lst_pre h (by simp)
  obtain ⟨S2, hS2⟩ : ∃ S2, S2 = S0 ++ [O.lst [], O.lst [.ref S0.length], O.lst (cs.map D.int)] := ⟨_, rfl⟩
  have hS2' : (S0 ++ [O.lst [], O.lst [.ref S0.length]]) ++ [O.lst (cs.map D.int)] = S2 := by rw [hS2]; simp
  have hlen : (S0 ++ [O.lst [], O.lst [.ref S0.length]] : Store).length = S0.length + 1 + 1 := by simp
  have hsl : S2[S0.length + 1 + 1]? = some (.lst (cs.map D.int)) := by rw [hS2, List.getElem?_append_right (by omega), show S0.length + 1 + 1 - S0.length = 2 by omega]; rfl
  have F : Far S0 S2 (S0.length + 1) (cs.map D.int) 3 [S0.length] [[]] := by
    refine ⟨⟨by rw [hS2]; simp, by rw [hS2]; simp, hsl, by omega, List.nodup_cons.mpr ⟨by simp, List.Pairwise.nil⟩, fun a ha => ?_, .cons (by rw [hS2]; simp) .nil⟩, ⟨fun x hx => (by cases hx), trivial⟩, by simp, by simp, by simp [W, fw]⟩
    simp at ha
    subst ha
    omega
  obtain ⟨v3, v4, v5, v6, S', as, stk, e, F2⟩ := value_loop (n := n) (r := .ref r) hL S2 hsl cs 3 S2 [S0.length] [[]] none none none none F (by omega)
  refine ⟨_, v3, v4, v5, v6, S', as, stk, ?_, ⟨F2.I, F2.ok, F2.few, F2.one, by have := F2.wt; omega⟩⟩
  have src : evi L.G (callN L.G (n + 2)) none (.seq (.cut (.loc 0) (.con (.int 1)) (.con (.int 61)))) (rV (.ref r) (S0.length + 1) Lg none none none none) (S0 ++ [O.lst [], O.lst [.ref S0.length]]) = .ok (cs.map D.int, some (S0.length + 1 + 1)) S2 := by
    have l2 : lstOf S2 (S0.length + 1 + 1) = some (cs.map D.int) := lst_is _ hsl
    have cu := cut_ref' (lo := some 1) (hi := some 61) h2
    rw [c1, hlen, hS2'] at cu
    have sq := seqI_ref' l2
    simp only [i_seq, v_cut, rV, v_loc, getL_0, R.bind_ok, partV_ok, v_con, int_of, optR_some, cu, sq]
  rw [q3, s_fr_, src, R.toS_ok]
  exact e
theorem q4_ok {cl : Orac} {S0 S : Store} {b : Nat} {sl : List D} {as : List Nat} {stk : List (List D)} (F : Far S0 S b sl 20000 as stk) (r : D) (Lg : Int) (v3 v4 v5 v6 : Option D) : ∃ v6' S' a f, ex L.G cl q4 none (rV r b Lg v3 v4 v5 v6) S = .nx (rV r b Lg v3 v4 v5 v6') S' ∧ Far S0 S' b sl 20000 [a] [f] := by
  cases stk with
  | nil => have := F.one; simp at this
  | cons f fs =>
    have hf := F.few
    simp only [List.length_cons] at hf
    have ht : turns = 8 + 1 + (turns - 9) := rfl
    obtain ⟨v6', S', a, f', e, F'⟩ := close_loop (cl := cl) (r := r) (Lg := Lg) (by decide) v3 v4 v5 8 (turns - 9) S as f fs v6 (by omega) F
    refine ⟨v6', S', a, f', ?_, F'⟩
    rw [q4, s_whl_, ht]
    exact e
theorem q5_ok {n : Nat} {S0 S : Store} {r b : Nat} {sl : List D} {a : Nat} {f : List D} {ns : List Int} (h : lstOf S0 r = some (ns.map D.int)) (F : Far S0 S b sl 20000 [a] [f]) (Lg : Int) (v3 v4 v5 v6 : Option D) : ∃ v, canon v = true ∧ v.dep ≤ 100 ∧ (vt v).length ≤ 30000 ∧ exs L.G (callN L.G (n + 2)) q5 none (rV (.ref r) b Lg v3 v4 v5 v6) S = .ret v S := by
  have hb2 : lstOf S b = some [D.ref a] := lst_is S F.I.bs
  have ha : S[a]? = some (.lst f) := by have fr := F.I.fr; cases fr with | cons h t => exact h
  have htu := f_tuple S (n := a) (xs := f) (lst_is S ha)
  have hce := cell_ok (n := n + 1) (k := 0) (lst_pre h F.I.pre)
  rw [show ((0 : Nat) : Int) = 0 from rfl] at hce
  generalize hx : cell ns 0 = x at hce
  have at0' : atI [D.ref a] 0 = some (.ref a) := rfl
  have hw := F.wt
  simp only [W] at hw
  have hok := F.ok.1
  simp only [List.length_nil] at hok
  -- the value after the choice of an item
  obtain ⟨u, c1, c2, c3, e⟩ : ∃ u, canon u = true ∧ u.dep ≤ 9 ∧ (vt u).length ≤ 20000 ∧ exs L.G (callN L.G (n + 2)) q5 none (rV (.ref r) b Lg v3 v4 v5 v6) S = exs L.G (callN L.G (n + 2)) q6 none (tV (some (.ref r)) (some (.ref b)) (some (.int Lg)) v3 v4 v5 v6 u (some (.int x)) none) S := by
    have t := tup_dep hok (by omega)
    have tl := vt_tup_len f
    by_cases h1 : (0 : Int) < (f.length : Int) ∧ x.fmod 3 = 1
    · obtain ⟨q, q1, q2⟩ := fmod_nat (x.fdiv 3) (m := (f.length : Int)) (by omega)
      have hq : q < f.length := by omega
      have hat : atI f (q : Int) = some f[q] := by rw [atI_nat hq]; simp [hq]
      have hm : f[q] ∈ f := List.getElem_mem hq
      have hne : (f.length : Int) ≠ 0 := by omega
      refine ⟨f[q], (hok _ hm).1, by have := (hok _ hm).2; omega, ?_, ?_⟩
      · have : (vt f[q]).length + 1 ≤ fw f := by
          unfold fw
          have := le_sum (List.mem_map.mpr ⟨_, hm, rfl⟩ : (vt f[q]).length + 1 ∈ f.map fun x => (vt x).length + 1)
          omega
        omega
      · obtain ⟨g1, g2⟩ := h1
        have g3 : 0 < f.length := by omega
        have g4 : ¬ f = [] := by rintro rfl; simp at g3
        simp [q5, rV, tV, hb2, at0', htu, hce, g3, g2, q1, hat, g4]
    · refine ⟨.tup f, t.1, by omega, by omega, ?_⟩
      by_cases g1 : (0 : Int) < (f.length : Int)
      · have g2 : ¬ x.fmod 3 = 1 := fun z => h1 ⟨g1, z⟩
        have g3 : 0 < f.length := by omega
        simp [q5, rV, tV, hb2, at0', htu, hce, g3, g2]
      · have g3 : ¬ 0 < f.length := by omega
        simp [q5, rV, tV, hb2, at0', htu, hce, g3]
  rw [e]
  by_cases h4 : (x.fdiv 60).fmod 4 = 1
  · obtain ⟨m, m1, m2⟩ := fmod_nat (x.fdiv 240) (m := 92) (by decide)
    obtain ⟨v, v9, d1, d2, d3, loop⟩ := wrap_loop (cl := callN L.G (n + 2)) (S := S) (m := m) (k := 20000) (by omega) c1 c2 c3 (some (.ref r)) (some (.ref b)) (some (.int Lg)) v3 v4 v5 v6 (some (.int x)) none
    refine ⟨v, d1, d2, by omega, ?_⟩
    have hsm : small (m : Int) = true := small_nat (by omega)
    unfold tV at loop ⊢
    simp [q6, h4, m1, hsm, loop]
  · refine ⟨u, c1, by omega, by omega, ?_⟩
    simp [q6, tV, h4]
theorem value_ok {n : Nat} {S : Store} {r : Nat} {ns : List Int} (h : lstOf S r = some (ns.map D.int)) : ∃ v, canon v = true ∧ v.dep ≤ 100 ∧ (vt v).length ≤ 30000 ∧ callN L.G (n + 3) 7 [.ref r] S = .ok v S := by
  obtain ⟨Lg, hL, e2⟩ := q2_ok (cl := callN L.G (n + 2)) (S := S ++ [O.lst [], O.lst [.ref S.length]]) (r := .ref r) (x := .ref (S.length + 1))
  have e1 := q1_ok (cl := callN L.G (n + 2)) (S := S) (r := .ref r)
  obtain ⟨sl, v3, v4, v5, v6, S3, as, stk, e3, F3⟩ := q3_ok (n := n) h hL
  obtain ⟨v6', S4, a, f, e4, F4⟩ := q4_ok (cl := callN L.G (n + 2)) F3 (.ref r) Lg v3 v4 v5 v6
  obtain ⟨v, d1, d2, d3, e5⟩ := q5_ok (n := n) h F4 Lg v3 v4 v5 v6'
  refine ⟨v, d1, d2, d3, ?_⟩
  unfold rV at e3
  rw [call_eq fns_7 rfl]
  have e0 : env0 ⟨1, 10, b__law_value⟩ [.ref r] = [some (.ref r), none, none, none, none, none, none, none, none, none] := rfl
  rw [e0]
  show tidy S (exs L.G (callN L.G (n + 2)) b__law_value none [some (.ref r), none, none, none, none, none, none, none, none, none] S).done = _
  rw [b_lv, ss_cons, e1, seqK_nx, ss_cons, e2, seqK_nx, ss_cons, e3, seqK_nx, ss_cons]
  unfold rV at e4 e5
  rw [e4, seqK_nx, e5]
  exact tidy_take F4.I.pre (good_wf v (canon_good v d1))
end K00
set_option Elab.async false
set_option linter.all false
set_option autoImplicit false
set_option maxRecDepth 100000
set_option maxHeartbeats 4000000
/-! KVF: the law. -/
namespace K00
open Fx
theorem fns_14 : L.G.fns[14]? = some ⟨1, 8, b_law⟩ := rfl
def fixed : List (List Nat) := [[], [40], [41], [45], [45, 48], [48, 48], [40, 32, 41], [40, 41], [40, 49, 32, 41], [49, 32], [32, 49], [97, 49], [49, 97], [40, 49, 32, 32, 50, 41], [40, 41, 41]]
def small_ts (B : Nat) (ts : List (List Nat)) : Prop := ∀ t ∈ ts, t.length ≤ B
theorem small_add {B : Nat} {ts : List (List Nat)} {t : List Nat} (h : small_ts B ts) (k : t.length ≤ B) : small_ts B (ts ++ [t]) := by
  intro x hx
  rcases List.mem_append.mp hx with q | q
  · exact h x q
  · rw [List.mem_singleton] at q; subst q; exact k
def m1B : FSs := (.cons (.expr (.mth .append (.loc 4) (.cons (.call 12 (.cons (.loc 2) (.cons (.bin .Add (.bin .Add (.bin .FloorDiv (.blt .abs (.cons (.call 4 (.cons (.loc 0) (.cons (.bin .Sub (.con (.int 61)) (.loc 5)) .nil))) .nil)) (.con (.int 5))) (.bin .Mult (.con (.int 11)) (.loc 5))) (.blt .len (.cons (.loc 0) .nil))) .nil))) .nil)))
    .nil)
def m2B : FSs := (.cons (.expr (.mth .append (.loc 4) (.cons (.call 12 (.cons (.idx (.loc 4) (.bin .Add (.con (.int 3)) (.loc 5))) (.cons (.bin .FloorDiv (.blt .abs (.cons (.call 4 (.cons (.loc 0) (.cons (.loc 5) .nil))) .nil)) (.con (.int 9))) .nil))) .nil)))
    .nil)
def m3B : FSs := (.cons (.ifs (.not (.call 13 (.cons (.loc 6) .nil))) (.cons (.ret (.con (.bl false)))
    .nil) .nil)
    .nil)
def rL (r v : D) (t : List Nat) (b3 b4 : Nat) (v5 v6 : Option D) : Env := [some r, some v, some (.str t), some (.ref b3), some (.ref b4), v5, v6, none]
theorem loop1 {n : Nat} {S : Store} {r b3 : Nat} {ns : List Int} (h : lstOf S r = some (ns.map D.int)) {v : D} {t : List Nat} {B : Nat} (ht : t.length + 1 ≤ B) (hB : B < line) (ts : List (List Nat)) (hts : small_ts B ts) (hl : ts.length = 3) : ∃ ts' v5, ts'.length = 6 ∧ small_ts B ts' ∧ forL (frB L.G (callN L.G (n + 1)) (.nm 5) m1B none) (same none (S ++ [.lst (ts.map D.str)])) (rangeD 0 3) (rL (.ref r) v t b3 S.length none none) (S ++ [.lst (ts.map D.str)]) = .nx (rL (.ref r) v t b3 S.length v5 none) (S ++ [.lst (ts'.map D.str)]) := by
  obtain ⟨ρ', S', loop, ts', v5, P1, P2, rfl, rfl⟩ := forL_inv (f := frB L.G (callN L.G (n + 1)) (.nm 5) m1B none) (chk := same none (S ++ [.lst (ts.map D.str)])) (fun i ρ S' => ∃ (ts' : List (List Nat)) (v5 : Option D), ts'.length = 3 + i ∧ small_ts B ts' ∧ ρ = rL (.ref r) v t b3 S.length v5 none ∧ S' = S ++ [O.lst (ts'.map D.str)]) (rangeD 0 (3 : Nat)) 0 (rL (.ref r) v t b3 S.length none none) (S ++ [O.lst (ts.map D.str)]) ⟨ts, none, hl, hts, rfl, rfl⟩ (fun j d ρ S2 hj hP => by
    obtain ⟨ts', v5, P1, P2, rfl, rfl⟩ := hP
    obtain ⟨hj1, rfl⟩ := range_get hj
    have hline : line = 16777216 := rfl
    have hr : r < S.length := by
      unfold lstOf at h
      cases e : S[r]? with
      | none => rw [e] at h; cases h
      | some o => exact (List.getElem?_eq_some_iff.mp e).1
    have h2 : lstOf (S ++ [O.lst (ts'.map D.str)]) r = some (ns.map D.int) := lst_pre h (by simp)
    have ce := cell_ok (n := n) (k := 61 - j) h2
    rw [show ((61 - j : Nat) : Int) = 61 - (j : Int) by omega] at ce
    generalize cell ns (61 - j) = x at ce
    have b1 : bits 11 + bits (j : Int) < 1000000 := by
      have := log_le (i := (j : Int)) (k := 62) (by omega) (by omega) (by decide)
      have : bits 11 = 3 := by decide
      omega
    have hlen := len_ref _ h2
    generalize hy : (if x < 0 then -x else x) = y
    obtain ⟨t', s1, s2⟩ := spoilt_ok (n := n) (S := S ++ [O.lst (ts'.map D.str)]) (t := t) (c := y.fdiv 5 + 11 * (j : Int) + ((ns.map D.int).length : Int)) (by omega)
    have ap := app_last (S := S) (xs := ts'.map D.str) (d := .str t') (by rw [List.length_map]; omega)
    have hlst := lstOf_new S (ts'.map D.str)
    rw [List.length_map] at s1 hlen
    refine ⟨rL (.ref r) v t b3 S.length (some (.int (j : Int))) none, S ++ [O.lst ((ts' ++ [t']).map D.str)], ?_, rfl, ts' ++ [t'], _, by simp; omega, small_add P2 (by omega), rfl, rfl⟩
    simp [frB, m1B, rL, asgT, asgN, hlst, ce, hy, b1, hlen, s1, ap, tidy_last])
  rw [range_len] at P1
  exact ⟨ts', _, by omega, P2, loop⟩
theorem loop2 {n : Nat} {S : Store} {r b3 : Nat} {ns : List Int} (h : lstOf S r = some (ns.map D.int)) {v : D} {t : List Nat} {B : Nat} (hB : B < 100000) (ts : List (List Nat)) (hts : small_ts B ts) (hl : ts.length = 6) (v5 : Option D) : ∃ ts' v5', small_ts (B + 1) ts' ∧ forL (frB L.G (callN L.G (n + 1)) (.nm 5) m2B none) (same none (S ++ [.lst (ts.map D.str)])) (rangeD 0 2) (rL (.ref r) v t b3 S.length v5 none) (S ++ [.lst (ts.map D.str)]) = .nx (rL (.ref r) v t b3 S.length v5' none) (S ++ [.lst (ts'.map D.str)]) := by
  obtain ⟨ρ', S', loop, ts', v5, ex, P1, P2, P3, rfl, rfl⟩ := forL_inv (f := frB L.G (callN L.G (n + 1)) (.nm 5) m2B none) (chk := same none (S ++ [.lst (ts.map D.str)])) (fun i ρ S' => ∃ (ts' : List (List Nat)) (v5 : Option D) (ex : List (List Nat)), ts' = ts ++ ex ∧ ex.length = i ∧ small_ts (B + 1) ts' ∧ ρ = rL (.ref r) v t b3 S.length v5 none ∧ S' = S ++ [O.lst (ts'.map D.str)]) (rangeD 0 (2 : Nat)) 0 (rL (.ref r) v t b3 S.length v5 none) (S ++ [O.lst (ts.map D.str)]) ⟨ts, v5, [], by simp, rfl, fun x hx => by have := hts x hx; omega, rfl, rfl⟩ (fun j d ρ S2 hj hP => by
    obtain ⟨ts', v5, ex, P1, P2, P3, rfl, rfl⟩ := hP
    obtain ⟨hj1, rfl⟩ := range_get hj
    have hline : line = 16777216 := rfl
    have h2 : lstOf (S ++ [O.lst (ts'.map D.str)]) r = some (ns.map D.int) := lst_pre h (by simp)
    have ce := cell_ok (n := n) (k := j) h2
    generalize cell ns j = x at ce
    generalize hy : (if x < 0 then -x else x) = y
    have hlen : ts'.length = 6 + j := by rw [P1, List.length_append]; omega
    have hi : 3 + j < ts'.length := by omega
    have hat : atI (ts'.map D.str) (3 + (j : Int)) = some (.str ts'[3 + j]) := by
      have := atI_nat (xs := ts'.map D.str) (k := 3 + j) (by rw [List.length_map]; omega)
      rw [show ((3 + j : Nat) : Int) = 3 + (j : Int) by omega] at this
      rw [this]
      simp [hi]
    have hu : ts'[3 + j].length ≤ B := by
      have e : ts'[3 + j] = ts[3 + j]'(by omega) := by
        subst P1
        exact List.getElem_append_left (by omega)
      rw [e]
      exact hts _ (List.getElem_mem _)
    obtain ⟨t', s1, s2⟩ := spoilt_ok (n := n) (S := S ++ [O.lst (ts'.map D.str)]) (t := ts'[3 + j]) (c := y.fdiv 9) (by omega)
    have ap := app_last (S := S) (xs := ts'.map D.str) (d := .str t') (by rw [List.length_map]; omega)
    have hlst := lstOf_new S (ts'.map D.str)
    refine ⟨rL (.ref r) v t b3 S.length (some (.int (j : Int))) none, S ++ [O.lst ((ts' ++ [t']).map D.str)], ?_, rfl, ts' ++ [t'], _, ex ++ [t'], by rw [P1, List.append_assoc], by simp; omega, small_add P3 (by omega), rfl, rfl⟩
    simp [frB, m2B, rL, asgT, asgN, hlst, ce, hy, hat, s1, ap, tidy_last])
  exact ⟨ts', _, P3, loop⟩
theorem loop3 {n : Nat} {S : Store} {r b3 b4 : Nat} {v : D} {t : List Nat} {B : Nat} (hB : B < 1000000) (xs : List (List Nat)) (hts : small_ts B xs) (v5 v6 : Option D) (g : Option Nat) : ∃ v6', forL (frB L.G (callN L.G (n + 102)) (.nm 6) m3B none) (same g S) (xs.map D.str) (rL (.ref r) v t b3 b4 v5 v6) S = .nx (rL (.ref r) v t b3 b4 v5 v6') S := by
  induction xs generalizing v6 with
  | nil => exact ⟨v6, rfl⟩
  | cons x xs ih =>
    have hline : line = 16777216 := rfl
    have rd := read_as_due_ok (n := n) (S := S) (t := x) (by have := hts x (List.mem_cons_self ..); omega)
    obtain ⟨v6', e⟩ := ih (fun y hy => hts y (List.mem_cons_of_mem _ hy)) (some (.str x))
    refine ⟨v6', ?_⟩
    have body : frB L.G (callN L.G (n + 102)) (.nm 6) m3B none (.str x) (rL (.ref r) v t b3 b4 v5 v6) S = .nx (rL (.ref r) v t b3 b4 v5 (some (.str x))) S := by
      simp [frB, m3B, rL, asgT, asgN, rd]
    rw [List.map_cons, forL, body]
    dsimp only
    rw [if_pos (by cases g <;> simp [same]), e]
end K00
set_option Elab.async false
set_option linter.all false
set_option autoImplicit false
set_option maxRecDepth 100000
set_option maxHeartbeats 4000000
/-! KVG: the law says True. -/
namespace K00
open Fx
def l3 : FS := .asg 3 (.lst (.cons (.con (.str [])) (.cons (.con (.str [40])) (.cons (.con (.str [41])) (.cons (.con (.str [45])) (.cons (.con (.str [45, 48])) (.cons (.con (.str [48, 48])) (.cons (.con (.str [40, 32, 41])) (.cons (.con (.str [40, 41])) (.cons (.con (.str [40, 49, 32, 41])) (.cons (.con (.str [49, 32])) (.cons (.con (.str [32, 49])) (.cons (.con (.str [97, 49])) (.cons (.con (.str [49, 97])) (.cons (.con (.str [40, 49, 32, 32, 50, 41])) (.cons (.con (.str [40, 41, 41])) .nil))))))))))))))))
def l4 : FS := .asg 4 (.lst (.cons (.idx (.loc 3) (.bin .Mod (.blt .int (.cons (.call 4 (.cons (.loc 0) (.cons (.con (.int 0)) .nil))) .nil)) (.con (.int 15)))) (.cons (.bin .Add (.bin .Mult (.con (.str [40])) (.con (.int 101))) (.bin .Mult (.con (.str [41])) (.con (.int 101)))) (.cons (.bin .Add (.bin .Mult (.con (.str [40])) (.con (.int 100))) (.bin .Mult (.con (.str [41])) (.con (.int 100)))) .nil))))
def l5 : FSs := (.cons (.fr (.nm 5) (.range1 (.con (.int 3))) m1B)
    (.cons (.fr (.nm 5) (.range1 (.con (.int 2))) m2B)
    (.cons (.fr (.nm 6) (.seq (.loc 4)) m3B)
    (.cons (.tr (.cons (.expr (.call 3 (.cons (.bin .Mult (.con (.str [40])) (.con (.int 101))) .nil)))
    .nil) (.cons 2 (some 7) (.cons (.ret (.and (.cons (.xisi 7 [3]) (.cons (.xisi 7 [1]) (.cons (.not (.xisi 7 [0])) (.cons (.cmp .Eq (.xfld 7 1) (.con (.int 100))) .nil))))))
    .nil) .nil))
    (.cons (.ret (.con (.bl false)))
    .nil)))))
def l0 : FSs := (.cons (.asg 1 (.call 7 (.cons (.loc 0) .nil)))
    (.cons (.asg 2 (.call 0 (.cons (.loc 1) .nil)))
    (.cons (.ifs (.or (.cons (.not (.isi (.loc 2) .tStr)) (.cons (.cmp .NotEq (.loc 2) (.call 8 (.cons (.loc 1) .nil))) .nil))) (.cons (.ret (.con (.bl false)))
    .nil) .nil)
    (.cons (.ifs (.not (.call 9 (.cons (.call 3 (.cons (.loc 2) .nil)) (.cons (.loc 1) .nil)))) (.cons (.ret (.con (.bl false)))
    .nil) .nil)
    (.cons l3 (.cons l4 l5))))))
theorem b_l : b_law = l0 := rfl
theorem vs_con (G : Glob) (cl : Orac) (xc : Xc) (ρ : Env) (S : Store) (c : D) (es : FEs) {ds : List D} (h : (evs G cl xc es).vs ρ S = .ok ds S) : (evs G cl xc (.cons (.con c) es)).vs ρ S = .ok (c :: ds) S := by
  rw [vs_cons, v_con, R.bind_ok, h]
  rfl
theorem l3_ok {cl : Orac} {S : Store} {r v : D} {t : List Nat} : ex L.G cl l3 none [some r, some v, some (.str t), none, none, none, none, none] S = .nx [some r, some v, some (.str t), some (.ref S.length), none, none, none, none] (S ++ [O.lst (fixed.map D.str)]) := by
  have h15 : (15 : Nat) ≤ line := by decide
  simp [l3, h15, fixed]
theorem l4_ok {n : Nat} {S : Store} {r : Nat} {v : D} {t : List Nat} {ns : List Int} (h : lstOf S r = some (ns.map D.int)) (b3 : Nat) (hb : lstOf S b3 = some (fixed.map D.str)) : ∃ ts, ts.length = 3 ∧ small_ts 300 ts ∧ ex L.G (callN L.G (n + 1)) l4 none [some (.ref r), some v, some (.str t), some (.ref b3), none, none, none, none] S = .nx (rL (.ref r) v t b3 S.length none none) (S ++ [O.lst (ts.map D.str)]) := by
  have ce := cell_ok (n := n) (k := 0) h
  rw [show ((0 : Nat) : Int) = 0 from rfl] at ce
  generalize cell ns 0 = x at ce
  obtain ⟨q, q1, q2⟩ := fmod_nat x (m := 15) (by decide)
  have hq : q < fixed.length := by show q < 15; omega
  have hat : atI (fixed.map D.str) (q : Int) = some (.str fixed[q]) := by rw [atI_nat (by rw [List.length_map]; exact hq)]; simp [hq]
  have hfx : ∀ x ∈ fixed, x.length ≤ 300 := by decide
  have h3 : (3 : Nat) ≤ line := by decide
  have m1 : binop .Mult (.str [40]) (.int 101) S = .ok (.str (List.replicate 101 40)) S := by rw [mul_str, if_pos (by decide)]; rfl
  have m2 : binop .Mult (.str [41]) (.int 101) S = .ok (.str (List.replicate 101 41)) S := by rw [mul_str, if_pos (by decide)]; rfl
  have m3 : binop .Mult (.str [40]) (.int 100) S = .ok (.str (List.replicate 100 40)) S := by rw [mul_str, if_pos (by decide)]; rfl
  have m4 : binop .Mult (.str [41]) (.int 100) S = .ok (.str (List.replicate 100 41)) S := by rw [mul_str, if_pos (by decide)]; rfl
  have a1 : binop .Add (.str (List.replicate 101 40)) (.str (List.replicate 101 41)) S = .ok (.str (List.replicate 101 40 ++ List.replicate 101 41)) S := by rw [add_str, if_pos (by decide)]
  have a2 : binop .Add (.str (List.replicate 100 40)) (.str (List.replicate 100 41)) S = .ok (.str (List.replicate 100 40 ++ List.replicate 100 41)) S := by rw [add_str, if_pos (by decide)]
  refine ⟨[fixed[q], List.replicate 101 40 ++ List.replicate 101 41, List.replicate 100 40 ++ List.replicate 100 41], rfl, fun y hy => ?_, ?_⟩
  · simp only [List.mem_cons, List.not_mem_nil, or_false] at hy
    rcases hy with rfl | rfl | rfl
    · exact hfx _ (List.getElem_mem _)
    · simp
    · simp
  · generalize List.replicate 101 40 = A at m1 a1 ⊢
    generalize List.replicate 101 41 = B at m2 a1 ⊢
    generalize List.replicate 100 40 = C at m3 a2 ⊢
    generalize List.replicate 100 41 = E at m4 a2 ⊢
    generalize A ++ B = AB at a1 ⊢
    generalize C ++ E = CE at a2 ⊢
    generalize fixed[q] = fq at hat ⊢
    simp [l4, rL, ce, q1, hb, hat, m1, m2, m3, m4, a1, a2, h3, -mul_str, -add_str]
theorem outer_101 : outer (List.replicate 101 40) [] = .err 1 := by
  have h := outer_due 101 (List.replicate 101 40) [] .start (by simp) (.inl rfl) (fun h => by cases h) (Nat.zero_le _)
  have e : dueM .start 0 0 (List.replicate 101 40) = some 1 := by decide +kernel
  simp only [List.length_nil] at h
  rw [e] at h
  cases e2 : outer (List.replicate 101 40) [] with
  | err x => rw [e2] at h; cases h; rfl
  | ok w => rw [e2] at h; cases h
theorem l5_ok {n : Nat} {S : Store} {r b3 : Nat} {ns : List Int} (h : lstOf S r = some (ns.map D.int)) {v : D} {t : List Nat} (ht : t.length ≤ 30000) (ts : List (List Nat)) (hts : small_ts 300 ts) (hl : ts.length = 3) : ∃ S', exs L.G (callN L.G (n + 102)) l5 none (rL (.ref r) v t b3 S.length none none) (S ++ [O.lst (ts.map D.str)]) = .ret (.bl true) S' := by
  have hline : line = 16777216 := rfl
  obtain ⟨ts2, v5, k1, k2, e1⟩ := loop1 (n := n + 101) (b3 := b3) (v := v) (t := t) (B := 40000) h (by omega) (by omega) ts (fun x hx => by have := hts x hx; omega) hl
  obtain ⟨ts3, v5', k3, e2⟩ := loop2 (n := n + 101) (b3 := b3) (v := v) (t := t) (B := 40000) h (by omega) ts2 k2 k1 v5
  obtain ⟨v6, e3⟩ := loop3 (n := n) (S := S ++ [O.lst (ts3.map D.str)]) (r := r) (b3 := b3) (b4 := S.length) (v := v) (t := t) (B := 40001) (by omega) ts3 k3 v5' none (some S.length)
  have rd := read_value_ok (m := n + 99) (S := S ++ [O.lst (ts3.map D.str)]) (t := List.replicate 101 40) (by rw [List.length_replicate]; omega)
  rw [outer_101] at rd
  have hp : posOf (List.replicate 101 40) 1 = .int 100 := by decide
  dsimp only at rd
  rw [hp] at rd
  have m1 : ∀ S, binop .Mult (.str [40]) (.int 101) S = .ok (.str (List.replicate 101 40)) S := fun S => by rw [mul_str, if_pos (by decide)]; rfl
  have s3 : small 3 = true := by decide
  have s2 : small 2 = true := by decide
  have hlst := lstOf_new S (ts3.map D.str)
  have sq := seqI_ref' hlst
  refine ⟨S ++ [O.lst (ts3.map D.str)], ?_⟩
  rw [show n + 101 + 1 = n + 102 by omega] at e1 e2
  rw [show n + 99 + 3 = n + 102 by omega] at rd
  generalize List.replicate 101 40 = A at rd m1
  unfold rL at e1 e2 e3 ⊢
  simp [l5, s3, s2, e1, e2, sq, e3, m1, rd, exc_len, sub_1, -mul_str]
theorem law_ok {S : Store} {r : Nat} {ns : List Int} (h : lstOf S r = some (ns.map D.int)) : ∃ S', callN L.G 140 14 [.ref r] S = .ok (.bl true) S' := by
  obtain ⟨v, d1, d2, d3, e1⟩ := value_ok (n := 136) h
  have hg := canon_good v d1
  have hline : line = 16777216 := rfl
  have e2 := value_text_ok 138 v S (by omega) hg (by omega)
  have e3 := write_ok 138 v S (by omega) hg (by omega)
  have e4 := same_ok 138 v S (by omega) hg (by omega)
  have e5 := read_value_ok (m := 136) (S := S) (t := vt v) (by omega)
  rw [read_written d1 d2] at e5
  have e6 := l3_ok (cl := callN L.G 139) (S := S) (r := .ref r) (v := v) (t := vt v)
  obtain ⟨ts, k1, k2, e7⟩ := l4_ok (n := 138) (S := S ++ [O.lst (fixed.map D.str)]) (v := v) (t := vt v) (lst_pre h (by simp)) S.length (lstOf_new _ _)
  obtain ⟨S', e8⟩ := l5_ok (n := 37) (S := S ++ [O.lst (fixed.map D.str)]) (b3 := S.length) (v := v) (t := vt v) (lst_pre h (by simp)) d3 ts k2 k1
  rw [call_eq fns_14 rfl, b_l]
  have e0 : env0 ⟨1, 8, l0⟩ [.ref r] = [some (.ref r), none, none, none, none, none, none, none] := rfl
  show ∃ S', tidy S (exs L.G (callN L.G 139) l0 none (env0 ⟨1, 8, l0⟩ [.ref r]) S).done = .ok (.bl true) S'
  rw [e0]
  have e9 : exs L.G (callN L.G 139) l0 none [some (.ref r), none, none, none, none, none, none, none] S = .ret (.bl true) S' := by
    simp only [Nat.reduceAdd] at e1 e2 e3 e4 e5 e7 e8
    generalize hcl : callN L.G 139 = cl at *
    generalize S ++ [O.lst (fixed.map D.str)] = S1 at e6 e7 e8
    simp [l0, e1, e2, isTy, e3, e5, e4, e6, e7, e8]
  rw [e9, done_ret]
  unfold tidy
  dsimp only
  split
  · exact ⟨_, rfl⟩
  · split
    · exact ⟨_, rfl⟩
    · exact ⟨_, rfl⟩
theorem says : Says L 140 lawIx := fun ns _ => law_ok rfl
end K00
set_option Elab.async false
set_option linter.all false
set_option maxRecDepth 100000
set_option maxHeartbeats 0
open PySem PySem.W PySem.Calls PyProof.Rows
theorem K00.closing (hl : Fx.Says K00.L 140 K00.lawIx) : PySem.Challenge.rw_papersorliars_k00_value_texts.Holds := by
  w_on; o_law
  refine HandSHeadRun.head_any (r := OpenLaw.row PySem.Challenge.rw_papersorliars_k00_value_texts) (q := view (OpenLaw.row PySem.Challenge.rw_papersorliars_k00_value_texts).prog [K00.lawTop]) (H := K00.hk) (ob := K00.ob) (M := 4000) (loose := K00.loose) (d := HandSHeadRun.topDef (OpenLaw.row PySem.Challenge.rw_papersorliars_k00_value_texts).prog K00.lawTop) (kwd := []) K00.ob_eq
    (by kernel_rfl) (fun s => by kernel_rfl) K00.run (by kernel_rfl) (by kernel_rfl) (by kernel_rfl) (by rfl) (by first | assumption | decide +kernel) (by decide +kernel) ⟨rfl, rfl, rfl, rfl, rfl, by decide +kernel⟩ ?hw ?hc
  case hw => w_witness2
  case hc =>
    refine L2.walk_ofE (l := PySem.Challenge.rw_papersorliars_k00_value_texts) (n := 63) (k := 142) (x := "_law_script") (CX := L2.CX0) rfl (by decide) (by kernel_rfl) ⟨rfl, by decide, by decide⟩ ?F (fun _ _ _ _ z => z)
    intro w mg fa h Y G hmg0
    obtain ⟨K, KX, c⟩ := Y
    have hmg : mg ("law" : PySem.Str) = some (.ref fa) := by
      have e : (HandSHeadRun.topDef (OpenLaw.row PySem.Challenge.rw_papersorliars_k00_value_texts).prog K00.lawTop).name = ("law" : PySem.Str) := by kernel_rfl
      rw [← e]
      exact hmg0
    obtain ⟨fd, sp, a1, a2, a3⟩ := Fx.law_fin (P := PySem.Challenge.rw_papersorliars_k00_value_texts.prog) (w := w) (x := "_law_script") (d := K00.d_law) K00.stat K00.bnd K00.bni K00.nd KX G c rfl rfl hl rfl rfl hmg
    exact ⟨K, fd, sp, KX, a1, a2, a3⟩
theorem PySem.Challenge.cw_papersorliars_k00_value_texts_holds : PySem.Challenge.rw_papersorliars_k00_value_texts.Holds := by
  exact K00.closing K00.says
