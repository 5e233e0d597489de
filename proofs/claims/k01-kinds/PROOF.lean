import PyProof.Rows.All
import Wide.All
import OpenK.AllK
import Wide.FinOn
import HandS.ForMost
import HandS.TupAny
import HandS.TupMul
import HandS.Style
import HandS.Conv
import HandS.Flow
import HandS.Deep
import HandS.IsInst
import HandS.Zip
import KE.SortData
import HandS.TupSets
import KE.KeyNested
import HandS.Defaults
import HandS.Ends
import KE.KStateDown
import HandS.More
import HandS.WordsExc
import HandS.Head0
import HandS.Head1
import HandS.Head2
import HandS.HeadEnd
import HandS.HeadHook1
import HandS.HeadHook2
import PySem.Challenge.RW_oncewrong_k01_kinds_told
section
set_option Elab.async false
set_option linter.all false
set_option maxRecDepth 100000
set_option maxHeartbeats 4000000
/-! OwA: plain data, an abstract store, and a small language with its meaning as Lean functions. -/
namespace OW
open PySem

/-- data without a heap; lst: a list that is never changed; loc: a thing of the abstract store; ro: the script -/
inductive D where
  | non | bl (b : Bool) | int (i : Int) | str (x : Str)
  | tup (xs : List D) | lst (xs : List D) | ro (xs : List D) | loc (n : Nat)
  deriving Inhabited

inductive Cell where
  | lst (xs : List D)
  | dct (kvs : List (L2.Key × D))
abbrev Store := List Cell
abbrev Sl := List (Option D)

/-- how a computation ends: a value and the store, an error raised, or nothing that is told -/
inductive Res (α : Type) where
  | ok (a : α) (S : Store)
  | exc (c : Str) (fs : List D) (S : Store)
  | bad
def Res.andThen {α β : Type} (r : Res α) (k : α → Store → Res β) : Res β :=
  match r with
  | .ok a S => k a S
  | .exc c fs S => .exc c fs S
  | .bad => .bad
@[simp] theorem Res.ok_andThen {α β : Type} (a : α) (S : Store) (k : α → Store → Res β) : (Res.ok a S).andThen k = k a S := rfl
@[simp] theorem Res.exc_andThen {α β : Type} (c : Str) (fs : List D) (S : Store) (k : α → Store → Res β) : (Res.exc c fs S).andThen k = .exc c fs S := rfl
@[simp] theorem Res.bad_andThen {α β : Type} (k : α → Store → Res β) : (Res.bad : Res α).andThen k = .bad := rfl
/-- it ends with a value of which Q holds -/
def Res.good {α : Type} (r : Res α) (Q : α → Store → Prop) : Prop :=
  match r with
  | .ok a S => Q a S
  | _ => False
@[simp] theorem Res.good_ok {α : Type} (a : α) (S : Store) (Q : α → Store → Prop) : (Res.ok a S).good Q = Q a S := rfl
@[simp] theorem Res.good_exc {α : Type} (c : Str) (fs : List D) (S : Store) (Q : α → Store → Prop) : (Res.exc c fs S : Res α).good Q = False := rfl
@[simp] theorem Res.good_bad {α : Type} (Q : α → Store → Prop) : (Res.bad : Res α).good Q = False := rfl
theorem Res.good_andThen {α β : Type} {r : Res α} {k : α → Store → Res β} {Q : β → Store → Prop} : (r.andThen k).good Q ↔ r.good fun a S => (k a S).good Q := by
  cases r <;> exact Iff.rfl
theorem Res.good_iff {α : Type} {r : Res α} {Q : α → Store → Prop} : r.good Q ↔ ∃ a S, r = .ok a S ∧ Q a S := by
  cases r with
  | ok a S => exact ⟨fun h => ⟨a, S, rfl, h⟩, fun ⟨_, _, e, h⟩ => by cases e; exact h⟩
  | exc c fs S => exact ⟨fun h => h.elim, fun ⟨_, _, e, _⟩ => by cases e⟩
  | bad => exact ⟨fun h => h.elim, fun ⟨_, _, e, _⟩ => by cases e⟩
theorem Res.good_mono {α : Type} {r : Res α} {Q Q' : α → Store → Prop} (h : r.good Q) (k : ∀ a S, Q a S → Q' a S) : r.good Q' := by
  obtain ⟨a, S, e, q⟩ := Res.good_iff.mp h
  rw [e]; exact k a S q
/-- a guard -/
def need (c : Bool) {α : Type} (r : Res α) : Res α := if c = true then r else .bad
@[simp] theorem need_true {α : Type} (r : Res α) : need true r = r := rfl
@[simp] theorem need_false {α : Type} (r : Res α) : need false r = .bad := rfl

mutual
/-- as the library's data (a thing of the store: none; see flat) -/
def D.py : D → PyData
  | .non => .none
  | .bl b => .bool b
  | .int i => .int i
  | .str x => .str x
  | .tup xs => .tuple (D.pyL xs)
  | .lst xs => .list (D.pyL xs)
  | .ro xs => .list (D.pyL xs)
  | .loc _ => .none
def D.pyL : List D → List PyData
  | [] => []
  | x :: xs => x.py :: D.pyL xs
end
mutual
/-- nothing of the store within -/
def D.flat : D → Bool
  | .tup xs => D.flatL xs
  | .lst xs => D.flatL xs
  | .ro _ => false
  | .loc _ => false
  | _ => true
def D.flatL : List D → Bool
  | [] => true
  | x :: xs => x.flat && D.flatL xs
end
theorem D.pyL_map : ∀ xs : List D, D.pyL xs = xs.map D.py
  | [] => rfl
  | x :: xs => by rw [D.pyL, D.pyL_map xs]; rfl
theorem D.flatL_all : ∀ xs : List D, D.flatL xs = xs.all D.flat
  | [] => rfl
  | x :: xs => by rw [D.flatL, D.flatL_all xs]; rfl

/-- a list of the store, read -/
def D.res (S : Store) (d : D) : D :=
  match d with
  | .loc n => match S[n]? with
    | some (.lst xs) => .lst xs
    | _ => .loc n
  | d => d

/-- an item: from the left, or from the end -/
def cut {α : Type} (xs : List α) (lo hi : Option Int) : List α :=
  (xs.drop (HT.sIx xs.length 0 lo)).take (HT.sIx xs.length xs.length hi - HT.sIx xs.length 0 lo)

def oInt : Option D → Option (Option Int)
  | none => some none
  | some (.int i) => some (some i)
  | _ => none

/-- the built-in functions of one argument -/
inductive Fn1 where
  | len | repr | int | str | tuple | list | all | sorted | lrange
inductive Mt where
  | append | join | get
/-- the classes that isinstance is asked of -/
inductive Ty where
  | non | bool | int | str | tuple | list | dict
  deriving DecidableEq
inductive Prim where
  | bin (op : Operator) | cmp (op : CmpOp) | neg
  | item | slice (lo hi : Bool) | rev
  | tup | lst | lstM | dct (ks : List L2.Key)
  | isinst (ts : List Ty)
  | fn (x : Fn1)
  | sortedSet

/-- two values that may be compared by == -/
def eqOk (a b : D) : Bool := a.flat && b.flat && SeqAt.shaped a.py && SeqAt.shaped b.py
def eqD (S : Store) (a b : D) : Res Bool :=
  need (eqOk (a.res S) (b.res S)) (.ok (PyData.eqv (a.res S).py (b.res S).py) S)

def repS (x : Str) (n : Nat) : Str := ⟨((List.replicate n x.cps.toList).flatten).toArray⟩

def binD (op : Operator) (a b : D) (S : Store) : Res D :=
  match op with
  | .Add => match a.res S, b.res S with
    | .int i, .int j => .ok (.int (i + j)) S
    | .str x, .str y => need (decide (x.length + y.length ≤ sizeLine)) (.ok (.str (x ++ y)) S)
    | .tup xs, .tup ys => need (decide (xs.length + ys.length ≤ sizeLine)) (.ok (.tup (xs ++ ys)) S)
    | .lst xs, .lst ys => need (decide (xs.length + ys.length ≤ sizeLine)) (.ok (.lst (xs ++ ys)) S)
    | _, _ => .bad
  | .Sub => match a, b with
    | .int i, .int j => .ok (.int (i - j)) S
    | _, _ => .bad
  | .Mult => match a.res S, b with
    | .int i, .int j => need (decide (-(2 ^ 64) < i ∧ i < 2 ^ 64) || decide (-(2 ^ 64) < j ∧ j < 2 ^ 64)) (.ok (.int (i * j)) S)
    | .str x, .int k => need (decide (0 ≤ k ∧ k ≤ 1000 ∧ x.length ≤ 1000)) (.ok (.str (repS x k.toNat)) S)
    | .tup xs, .int k => need (decide (2 ≤ k ∧ k ≤ 1000 ∧ 0 < xs.length ∧ xs.length ≤ 1000)) (.ok (.tup (List.replicate k.toNat xs).flatten) S)
    | .lst xs, .int k => need (decide (0 ≤ k ∧ k ≤ 1000 ∧ xs.length ≤ 1000)) (.ok (.lst (List.replicate k.toNat xs).flatten) S)
    | _, _ => .bad
  | .FloorDiv => match a, b with
    | .int i, .int j => need (decide (0 < j ∧ j < 1073741824)) (.ok (.int (i / j)) S)
    | _, _ => .bad
  | .Mod => match a, b with
    | .int i, .int j => need (decide (0 < j)) (.ok (.int (i % j)) S)
    | _, _ => .bad
  | .Pow => match a, b with
    | .int i, .int j => need (decide (0 ≤ j ∧ j ≤ 1000 ∧ i.natAbs < 2 ^ 64)) (.ok (.int (i ^ j.toNat)) S)
    | _, _ => .bad
  | _ => .bad

/-- a < b: ints, texts, tuples of alike things -/
def ltOk (a b : D) : Bool := a.flat && b.flat && PySem.W.alike a.py b.py && decide (a.py.depth ≤ 64)  && decide (b.py.depth ≤ 64)
def ltD (S : Store) (a b : D) : Res Bool :=
  match a, b with
  | .int i, .int j => .ok (decide (i < j)) S
  | .str x, .str y => .ok (decide (x.cps.toList < y.cps.toList)) S
  | .tup xs, .tup ys => need (ltOk (.tup xs) (.tup ys)) (.ok (PySem.W.dataLt (D.tup xs).py (D.tup ys).py) S)
  | _, _ => .bad
def inD (S : Store) (a b : D) : Res Bool :=
  match a.res S, b.res S with
  | .str x, .str y => .ok (!(Builtin.Str.occurrences y x 0 y.length 1).isEmpty) S
  | x, .tup ys => need (eqOk x (.tup ys)) (.ok (ys.any fun z => PyData.eqv z.py x.py) S)
  | x, .lst ys => need (eqOk x (.lst ys)) (.ok (ys.any fun z => PyData.eqv z.py x.py) S)
  | _, _ => .bad
def mapB (f : Bool → Bool) (r : Res Bool) : Res D := r.andThen fun b S => .ok (.bl (f b)) S
def cmpD (op : CmpOp) (a b : D) (S : Store) : Res D :=
  match op with
  | .Eq => mapB id (eqD S a b)
  | .NotEq => mapB not (eqD S a b)
  | .Lt => mapB id (ltD S a b)
  | .Gt => match a, b with
    | .int i, .int j => .ok (.bl (decide (j < i))) S
    | _, _ => .bad
  | .LtE => match a, b with
    | .int i, .int j => .ok (.bl (decide (i ≤ j))) S
    | _, _ => .bad
  | .GtE => match a, b with
    | .int i, .int j => .ok (.bl (decide (j ≤ i))) S
    | _, _ => .bad
  | .In => mapB id (inD S a b)
  | .NotIn => mapB not (inD S a b)
  | .Is => match b with
    | .non => .ok (.bl (match a with | .non => true | _ => false)) S
    | _ => .bad
  | .IsNot => match b with
    | .non => .ok (.bl (match a with | .non => false | _ => true)) S
    | _ => .bad

def oRes (o : Option D) (S : Store) : Res D :=
  match o with
  | some d => .ok d S
  | none => .bad
def lookK (k : L2.Key) : List (L2.Key × D) → Option D
  | [] => none
  | (j, v) :: r => if j = k then some v else lookK k r
def putK (k : L2.Key) (v : D) (kvs : List (L2.Key × D)) : List (L2.Key × D) :=
  if (kvs.any fun p => decide (p.1 = k)) = true then kvs.map (fun p => if p.1 = k then (p.1, v) else p) else kvs ++ [(k, v)]
def keyD : D → Option L2.Key
  | .int i => some (.inl i)
  | .str x => some (.inr x)
  | _ => none
def itemD (a b : D) (S : Store) : Res D :=
  match a, b with
  | .str x, .int i => need (decide (x.length ≤ sizeLine)) (match L2.atI x.cps.toList i with
    | some c => .ok (.str ⟨#[c]⟩) S
    | none => .bad)
  | .tup xs, .int i => oRes (L2.atI xs i) S
  | .lst xs, .int i => oRes (L2.atI xs i) S
  | .ro xs, .int i => oRes (L2.atI xs i) S
  | .loc n, b => match S[n]?, b with
    | some (.lst xs), .int i => oRes (L2.atI xs i) S
    | some (.dct kvs), b => match keyD b with
      | some k => oRes (lookK k kvs) S
      | none => .bad
    | _, _ => .bad
  | _, _ => .bad
def sliceD (a : D) (lo hi : Option Int) (S : Store) : Res D :=
  match a.res S with
  | .str x => need (decide (x.length ≤ sizeLine)) (.ok (.str (L2.cutS x lo hi)) S)
  | .tup xs => .ok (.tup (cut xs lo hi)) S
  | .lst xs => .ok (.lst (cut xs lo hi)) S
  | .ro xs => .ok (.lst (cut xs lo hi)) S
  | _ => .bad

def tyOf (S : Store) : D → Ty
  | .non => .non
  | .bl _ => .bool
  | .int _ => .int
  | .str _ => .str
  | .tup _ => .tuple
  | .lst _ => .list
  | .ro _ => .list
  | .loc n => match S[n]? with
    | some (.lst _) => .list
    | _ => .dict
def isT : Ty → Ty → Bool
  | .non, .non => true
  | .bool, .bool => true
  | .bool, .int => true
  | .int, .int => true
  | .str, .str => true
  | .tuple, .tuple => true
  | .list, .list => true
  | .dict, .dict => true
  | _, _ => false

def allB : List D → Option Bool
  | [] => some true
  | .bl b :: r => (allB r).map (b && ·)
  | _ => none
def strsD : List D → Option (List Str)
  | [] => some []
  | .str x :: r => (strsD r).map (x :: ·)
  | _ => none
def isTup1 : D → Bool
  | .tup (_ :: _) => true
  | _ => false
def isAtom : D → Bool
  | .tup _ => false
  | .non => false
  | _ => true
def sortOk (xs : List D) : Bool :=
  D.flatL xs && decide (xs.length ≤ 1000000) && xs.all (fun a => xs.all fun b => PySem.W.alike a.py b.py) && xs.all (fun a => decide (a.py.depth ≤ 64)) && (xs.all isTup1 || xs.all isAtom)
mutual
/-- what a set may hold -/
def D.keyD : D → Bool
  | .non => true
  | .bl _ => true
  | .int _ => true
  | .str _ => true
  | .tup xs => D.keyL xs
  | _ => false
def D.keyL : List D → Bool
  | [] => true
  | x :: xs => x.keyD && D.keyL xs
end
def isKeyA : D → Bool
  | .int _ => true
  | .str _ => true
  | _ => false
def setOk (xs : List D) : Bool :=
  decide (xs.length ≤ 60) && D.keyL xs && xs.all (fun a => decide (a.py.depth ≤ 8)) && (xs.all isTup1 || xs.all isKeyA)
def sortD (xs : List D) : List D := xs.mergeSort (PySem.W.dataLe false D.py)

/-- what len tells -/
def lenD (S : Store) (d : D) : Res D :=
  match d with
  | .str x => need (decide (x.length ≤ sizeLine)) (.ok (.int x.length) S)
  | .tup xs => .ok (.int xs.length) S
  | .lst xs => .ok (.int xs.length) S
  | .ro xs => .ok (.int xs.length) S
  | .loc n => match S[n]? with
    | some (.lst xs) => .ok (.int xs.length) S
    | some (.dct kvs) => .ok (.int kvs.length) S
    | none => .bad
  | _ => .bad
/-- the items of a list or tuple -/
def seqD (S : Store) (d : D) : Option (List D) :=
  match d.res S with
  | .tup xs => some xs
  | .lst xs => some xs
  | .ro xs => some xs
  | _ => none
def fnD (x : Fn1) (d : D) (S : Store) : Res D :=
  match x with
  | .len => lenD S d
  | .repr => need ((d.res S).flat && (d.res S).py.showable && decide ((d.res S).py.shown.length ≤ sizeLine) && decide ((d.res S).py.depth ≤ 60)) (.ok (.str (d.res S).py.shown) S)
  | .int => match d with
    | .int i => .ok (.int i) S
    | .bl b => .ok (.int (if b then 1 else 0)) S
    | .str t => match PySem.intText? t with
      | some n => need (decide (t.length ≤ 640)) (.ok (.int n) S)
      | none => .bad
    | _ => .bad
  | .str => match d with
    | .int i => need (decide (i.natAbs.log2 < 1920)) (.ok (.str (toString i)) S)
    | _ => .bad
  | .tuple => match seqD S d with
    | some xs => .ok (.tup xs) S
    | none => .bad
  | .list => match seqD S d with
    | some xs => .ok (.lst xs) S
    | none => .bad
  | .all => match d.res S with
    | .lst xs => match allB xs with
      | some b => .ok (.bl b) S
      | none => .bad
    | _ => .bad
  | .lrange => match d with
    | .int n => need (decide (0 ≤ n ∧ n ≤ 1000000)) (.ok (.lst ((List.range n.toNat).map fun i => D.int (i : Nat))) S)
    | _ => .bad
  | .sorted => match d.res S with
    | .lst xs => need (sortOk xs) (.ok (.lst (sortD xs)) S)
    | _ => .bad
/-- without what comes again -/
def dedup : List D → List D
  | [] => []
  | x :: r => x :: (dedup r).filter fun y => !PyData.eqv y.py x.py
def appendD (o y : D) (S : Store) : Res D :=
  match o with
  | .loc n => match S[n]? with
    | some (.lst xs) => need (decide (xs.length < sizeLine)) (.ok .non (S.set n (.lst (xs ++ [y]))))
    | _ => .bad
  | _ => .bad
def getD (o k z : D) (S : Store) : Res D :=
  match o, keyD k with
  | .loc n, some k => match S[n]? with
    | some (.dct kvs) => .ok ((lookK k kvs).getD z) S
    | _ => .bad
  | _, _ => .bad
def joinD (o l : D) (S : Store) : Res D :=
  match o, l.res S with
  | .str x, .lst ys => match strsD ys with
    | some ts => need (decide ((ts.map Str.length).sum + ts.length * x.length ≤ 16777216)) (.ok (.str (Txt.join x ts)) S)
    | none => .bad
  | _, _ => .bad
/-- the receiver is of the method's kind -/
def kindOk (m : Mt) (o : D) (S : Store) : Bool :=
  match m, o with
  | .append, .loc n => match S[n]? with
    | some (.lst _) => true
    | _ => false
  | .get, .loc n => match S[n]? with
    | some (.dct _) => true
    | _ => false
  | .join, .str _ => true
  | _, _ => false
def methD (m : Mt) (args : List D) (S : Store) : Res D :=
  match m, args with
  | .append, [o, y] => appendD o y S
  | .get, [o, k, z] => getD o k z S
  | .join, [o, l] => joinD o l S
  | _, _ => .bad

def primD (p : Prim) (args : List D) (S : Store) : Res D :=
  match p with
  | .bin op => match args with
    | [a, b] => binD op a b S
    | _ => .bad
  | .cmp op => match args with
    | [a, b] => cmpD op a b S
    | _ => .bad
  | .neg => match args with
    | [.int i] => .ok (.int (-i)) S
    | _ => .bad
  | .item => match args with
    | [a, b] => itemD a b S
    | _ => .bad
  | .slice lo hi => match lo, hi, args with
    | false, false, [a] => sliceD a none none S
    | true, false, [a, .int i] => sliceD a (some i) none S
    | false, true, [a, .int j] => sliceD a none (some j) S
    | true, true, [a, .int i, .int j] => sliceD a (some i) (some j) S
    | _, _, _ => .bad
  | .rev => match args with
    | [a] => (match a.res S with
      | .tup xs => .ok (.tup xs.reverse) S
      | .lst xs => .ok (.lst xs.reverse) S
      | _ => .bad)
    | _ => .bad
  | .tup => need (decide (args.length ≤ sizeLine)) (.ok (.tup args) S)
  | .lst => need (decide (args.length ≤ sizeLine)) (.ok (.lst args) S)
  | .lstM => need (decide (args.length ≤ sizeLine)) (.ok (.loc S.length) (S ++ [.lst args]))
  | .dct ks => need (decide (args.length = ks.length ∧ ks.Nodup ∧ ks.length ≤ 15)) (.ok (.loc S.length) (S ++ [.dct (ks.zip args)]))
  | .isinst ts => match args with
    | [d] => .ok (.bl (ts.any (isT (tyOf S d)))) S
    | _ => .bad
  | .fn x => match args with
    | [d] => fnD x d S
    | _ => .bad
  | .sortedSet => match args with
    | [d] => (match d.res S with
      | .lst xs => need (sortOk xs && setOk xs) (.ok (.lst (sortD (dedup xs))) S)
      | _ => .bad)
    | _ => .bad

def truD (S : Store) (d : D) : Res Bool :=
  match d with
  | .non => .ok false S
  | .bl b => .ok b S
  | .int i => .ok (i != 0) S
  | .str x => need (decide (x.length ≤ sizeLine)) (.ok (x.length != 0) S)
  | .tup xs => .ok (!xs.isEmpty) S
  | .lst xs => .ok (!xs.isEmpty) S
  | .ro xs => .ok (!xs.isEmpty) S
  | .loc n => match S[n]? with
    | some (.lst xs) => .ok (!xs.isEmpty) S
    | some (.dct kvs) => .ok (!kvs.isEmpty) S
    | none => .bad

/-! ### terms -/
/-- what is stored into: a slot, or a tuple of such -/
inductive Tg where
  | nm (i : Nat)
  | tu (ts : List Tg)

mutual
inductive T where
  | var (i : Nat)
  | cst (d : D)
  | app (p : Prim) (args : List T)
  | call (f : Str) (args : List T)
  | mcall (m : Mt) (o : T) (args : List T)
  | and (a b : T) | or (a b : T) | not (a : T) | ite (c a b : T)
  | chain (p q : CmpOp) (a b c : T)
  | comp (tg : Tg) (it : Itr) (cond : Option T) (elt : T) (own : List Nat)
inductive Itr where
  | seq (t : T)
  | range1 (b : T)
  | range2 (a b : T)
  | zip (a b : T)
  | enum (a : T)
end

mutual
def storeTg : Tg → D → Sl → Option Sl
  | .nm i, d, ε => some (ε.set i (some d))
  | .tu ts, .tup ds, ε => storeTgs ts ds ε
  | .tu _, _, _ => none
def storeTgs : List Tg → List D → Sl → Option Sl
  | [], [], ε => some ε
  | t :: ts, d :: ds, ε => (storeTg t d ε).bind fun ε' => storeTgs ts ds ε'
  | _, _, _ => none
end
def wipeD (ε : Sl) : List Nat → Sl
  | [] => ε
  | v :: vs => (wipeD ε vs).set v none

/-- the items that an iterable gives, and what must stand still meanwhile -/
structure Walk where
  items : List D
  still : Store → Bool

/-- the meaning of calls -/
abbrev Fns := Str → List D → Store → Res D

def rngD (lo hi : Int) : List D := (List.range (hi - lo).toNat).map fun i => D.int (lo + (i : Nat))
def bnd62 (i : Int) : Bool := decide (-(2 ^ 62) ≤ i ∧ i < 2 ^ 62)
def signsD (x : Str) : List D := x.cps.toList.map fun c => D.str ⟨#[c]⟩
/-- a thing that is walked, as a list or tuple or text -/
def itemsOf (S : Store) (d : D) : Option (List D) :=
  match d with
  | .tup xs => some xs
  | .lst xs => some xs
  | .ro xs => some xs
  | .str x => some (signsD x)
  | _ => none

/-- the turns of a comprehension -/
def compGo (body : D → Store → Res (Option D)) : List D → List D → Store → Res (List D)
  | [], acc, S => .ok acc S
  | x :: xs, acc, S => (body x S).andThen fun o S1 => match o with
    | some d => need (decide (acc.length < sizeLine)) (compGo body xs (acc ++ [d]) S1)
    | none => compGo body xs acc S1

mutual
def denE (F : Fns) : T → Sl → Store → Res D
  | .var i, ε, S => match ε[i]? with
    | some (some d) => .ok d S
    | _ => .bad
  | .cst d, _, S => .ok d S
  | .app p args, ε, S => (denA F args ε S).andThen fun ds S1 => primD p ds S1
  | .call f args, ε, S => (denA F args ε S).andThen fun ds S1 => F f ds S1
  | .mcall m o args, ε, S => (denE F o ε S).andThen fun d S1 => need (kindOk m d S1) ((denA F args ε S1).andThen fun ds S2 => methD m (d :: ds) S2)
  | .and a b, ε, S => (denE F a ε S).andThen fun d S1 => (truD S1 d).andThen fun c S2 => if c = true then denE F b ε S2 else .ok d S2
  | .or a b, ε, S => (denE F a ε S).andThen fun d S1 => (truD S1 d).andThen fun c S2 => if c = true then .ok d S2 else denE F b ε S2
  | .not a, ε, S => (denE F a ε S).andThen fun d S1 => (truD S1 d).andThen fun c S2 => .ok (.bl (!c)) S2
  | .ite c a b, ε, S => (denE F c ε S).andThen fun d S1 => (truD S1 d).andThen fun k S2 => if k = true then denE F a ε S2 else denE F b ε S2
  | .chain p q a b c, ε, S => (denE F a ε S).andThen fun x S1 => (denE F b ε S1).andThen fun y S2 => (cmpD p x y S2).andThen fun z S3 => match z with
    | .bl true => (denE F c ε S3).andThen fun w S4 => cmpD q y w S4
    | .bl false => .ok (.bl false) S3
    | _ => .bad
  | .comp tg it cond elt own, ε, S => (denI F it ε S).andThen fun xs S1 =>
      (compGo (fun x S2 => match storeTg tg x (wipeD ε own) with
        | none => .bad
        | some ε2 => (match cond with
          | none => (denE F elt ε2 S2).andThen fun d S3 => .ok (some d) S3
          | some c => (denE F c ε2 S2).andThen fun k S3 => (truD S3 k).andThen fun b S4 => if b = true then (denE F elt ε2 S4).andThen fun d S5 => .ok (some d) S5 else .ok none S4)) xs [] S1).andThen fun ys S6 => .ok (.lst ys) S6
def denA (F : Fns) : List T → Sl → Store → Res (List D)
  | [], _, S => .ok [] S
  | t :: ts, ε, S => (denE F t ε S).andThen fun d S1 => (denA F ts ε S1).andThen fun ds S2 => .ok (d :: ds) S2
def denI (F : Fns) : Itr → Sl → Store → Res (List D)
  | .seq t, ε, S => (denE F t ε S).andThen fun d S1 => match itemsOf S1 d with
    | some xs => .ok xs S1
    | none => .bad
  | .range1 b, ε, S => (denE F b ε S).andThen fun d S1 => match d with
    | .int n => need (bnd62 n) (.ok (rngD 0 n) S1)
    | _ => .bad
  | .range2 a b, ε, S => (denE F a ε S).andThen fun d S1 => (denE F b ε S1).andThen fun e S2 => match d, e with
    | .int i, .int j => need (bnd62 i && bnd62 j) (.ok (rngD i j) S2)
    | _, _ => .bad
  | .zip a b, ε, S => (denE F a ε S).andThen fun d S1 => (denE F b ε S1).andThen fun e S2 => match d, e with
    | .tup xs, .tup ys => .ok ((xs.zip ys).map fun p => D.tup [p.1, p.2]) S2
    | _, _ => .bad
  | .enum a, ε, S => (denE F a ε S).andThen fun d S1 => match d with
    | .tup xs => .ok (xs.zipIdx.map fun p => D.tup [.int (p.2 : Nat), p.1]) S1
    | _ => .bad
end

/-! ### statements -/
inductive Sx where
  | asg (tg : Tg) (e : T)
  | par (is : List Nat) (es : List T)
  | sub (o i e : T)
  | subs (ois : List (T × T)) (e : T)
  | expr (e : T)
  | ret (e : T)
  | pass
  | ifs (c : T) (a b : List Sx)
  | for_ (tg : Tg) (it : Itr) (body : List Sx)
  | aug (i : Nat) (op : Operator) (e : T)
inductive Fl where
  | next (ε : Sl) | ret (d : D)

def subD (o i v : D) (S : Store) : Res Unit :=
  match o with
  | .loc n => match S[n]?, i with
    | some (.lst xs), .int k => (match L2.ixN xs.length k with
      | some j => .ok () (S.set n (.lst (xs.set j v)))
      | none => .bad)
    | some (.dct kvs), i => (match keyD i with
      | some k => need (decide (kvs.length < 1000)) (.ok () (S.set n (.dct (putK k v kvs))))
      | none => .bad)
    | _, _ => .bad
  | _ => .bad
def setAll (ε : Sl) : List Nat → List D → Option Sl
  | [], [] => some ε
  | i :: is, d :: ds => setAll (ε.set i (some d)) is ds
  | _, _ => none
def subAll (F : Fns) : List (T × T) → List D → Sl → Store → Res Unit
  | [], [], _, S => .ok () S
  | (o, i) :: r, d :: ds, ε, S => (denE F o ε S).andThen fun a S1 => (denE F i ε S1).andThen fun k S2 => (subD a k d S2).andThen fun _ S3 => subAll F r ds ε S3
  | _, _, _, _ => .bad
/-- the turns of a for -/
def forGo (body : D → Sl → Store → Res Fl) : List D → Sl → Store → Res Fl
  | [], ε, S => .ok (.next ε) S
  | x :: xs, ε, S => (body x ε S).andThen fun f S1 => match f with
    | .next ε1 => forGo body xs ε1 S1
    | .ret d => .ok (.ret d) S1

mutual
def denS (F : Fns) : Sx → Sl → Store → Res Fl
  | .asg tg e, ε, S => (denE F e ε S).andThen fun d S1 => match storeTg tg d ε with
    | some ε1 => .ok (.next ε1) S1
    | none => .bad
  | .par is es, ε, S => (denA F es ε S).andThen fun ds S1 => match setAll ε is ds with
    | some ε1 => .ok (.next ε1) S1
    | none => .bad
  | .sub o i e, ε, S => (denE F e ε S).andThen fun v S1 => (denE F o ε S1).andThen fun a S2 => (denE F i ε S2).andThen fun k S3 => (subD a k v S3).andThen fun _ S4 => .ok (.next ε) S4
  | .subs ois e, ε, S => (denE F e ε S).andThen fun v S1 => match v with
    | .tup ds => (subAll F ois ds ε S1).andThen fun _ S2 => .ok (.next ε) S2
    | _ => .bad
  | .expr e, ε, S => (denE F e ε S).andThen fun _ S1 => .ok (.next ε) S1
  | .ret e, ε, S => (denE F e ε S).andThen fun d S1 => .ok (.ret d) S1
  | .pass, ε, S => .ok (.next ε) S
  | .ifs c a b, ε, S => (denE F c ε S).andThen fun d S1 => (truD S1 d).andThen fun k S2 => if k = true then denB F a ε S2 else denB F b ε S2
  | .for_ tg it body, ε, S => (denI F it ε S).andThen fun xs S1 =>
      forGo (fun x ε1 S2 => match storeTg tg x ε1 with
        | none => .bad
        | some ε2 => denB F body ε2 S2) xs ε S1
  | .aug i op e, ε, S => match ε[i]? with
    | some (some x) => (denE F e ε S).andThen fun y S1 => (match op, x, y with
      | .Add, .int a, .int b => .ok (.next (ε.set i (some (.int (a + b))))) S1
      | .Sub, .int a, .int b => .ok (.next (ε.set i (some (.int (a - b))))) S1
      | _, _, _ => .bad)
    | _ => .bad
def denB (F : Fns) : List Sx → Sl → Store → Res Fl
  | [], ε, S => .ok (.next ε) S
  | s :: r, ε, S => (denS F s ε S).andThen fun f S1 => match f with
    | .next ε1 => denB F r ε1 S1
    | .ret d => .ok (.ret d) S1
end

/-- a def: how many parameters, how many slots, the body -/
structure Fd where
  ps : Nat
  ns : Nat
  body : List Sx
abbrev Tab := Str → Option Fd
def startD (ns : Nat) (ds : List D) : Sl := ds.map some ++ List.replicate (ns - ds.length) none
def callD (F : Fns) (fd : Fd) (ds : List D) (S : Store) : Res D :=
  need (decide (ds.length = fd.ps)) ((denB F fd.body (startD fd.ns ds) S).andThen fun f S1 => match f with
    | .next _ => .ok .non S1
    | .ret d => .ok d S1)
/-- calls to a depth -/
def run (Φ : Tab) : Nat → Fns
  | 0 => fun _ _ _ => .bad
  | n + 1 => fun f ds S => match Φ f with
    | some fd => callD (run Φ n) fd ds S
    | none => .bad
end OW
end
section
set_option Elab.async false
set_option linter.all false
set_option maxRecDepth 100000
set_option maxHeartbeats 4000000
/-! OwB: from the program's own syntax to terms. -/
namespace OW
open PySem

/-- what is known where a def's text is turned: slots, scope, the module's constants, its defs with their parameters, names whose lists are changed -/
structure Cc where
  N : List Str
  sc : Scope
  gc : List (Str × D)
  fs : List (Str × List Str)
  mu : List Str
  st : Option (List Str)

def slotOf (N : List Str) (x : Str) : Option Nat := let i := N.findIdx (fun y => decide (y = x)); if N[i]? = some x then some i else none
def isVis (sc : Scope) (x : Str) : Bool := sc.names.lookup x == some .local || sc.names.lookup x == some .cell || sc.names.lookup x == some .free
def isLoc (sc : Scope) (x : Str) : Bool := sc.names.lookup x == some .local || sc.names.lookup x == some .cell
def isGl (sc : Scope) (x : Str) : Bool := sc.names.lookup x == some .globalImplicit
def okName (x : Str) : Bool := !(x == ("__debug__" : Str)) && !(x == ("__classdict__" : Str)) && !(x == ("__name__" : Str))
def noStar : Expr → Bool
  | .Starred .. => false
  | _ => true
def noSlice : Expr → Bool
  | .Slice .. => false
  | _ => true
def noSet : Expr → Bool
  | .Set .. => false
  | _ => true
def noSuper : Expr → Bool
  | .Call (.Name id _) [] [] _ => id != ("super" : Str)
  | _ => true
def isCompr : Expr → Bool
  | .ListComp .. => true
  | .SetComp .. => true
  | .DictComp .. => true
  | _ => false

/-- the built-in functions and classes that are served, with one argument -/
def fn1 : List (Str × Fn1) := [("len", .len), ("repr", .repr), ("int", .int), ("str", .str), ("tuple", .tuple), ("list", .list), ("all", .all), ("sorted", .sorted)]
def isTys : List (Str × Ty) := [("int", .int), ("bool", .bool), ("str", .str), ("tuple", .tuple), ("list", .list)]
def meths : List (Str × Mt) := [("append", .append), ("join", .join), ("get", .get)]

/-- how many arguments a method takes -/
def Mt.ar : Mt → Nat
  | .append => 1
  | .join => 1
  | .get => 2

def constD : Const → Option D
  | .none => some .non
  | .bool b => some (.bl b)
  | .int i => some (.int i)
  | .str x => some (.str x)
  | _ => none

/-- the names of a comprehension that are its own, with their slots -/
def ownOf (N : List Str) (scope : Scope) : List (Str × Nat) := scope.names.filterMap fun y =>
  if y.2 == .local || y.2 == .cell then (slotOf N y.1).map fun i => (y.1, i) else none

def mapO {α β : Type} (f : α → Option β) : List α → Option (List β)
  | [] => some []
  | x :: xs => match f x, mapO f xs with
    | some y, some ys => some (y :: ys)
    | _, _ => none

/-- what may be stored here: in a def every local, in a comprehension its own -/
def okSt (c : Cc) (x : Str) : Bool :=
  match c.st with
  | none => true
  | some l => l.contains x
mutual
def tgSlots : Tg → List Nat
  | .nm i => [i]
  | .tu ts => tgsSlots ts
def tgsSlots : List Tg → List Nat
  | [] => []
  | t :: ts => tgSlots t ++ tgsSlots ts
end
/-- the context of a comprehension's block -/
def Cc.blk (c : Cc) (scope : Scope) : Cc := { c with sc := L2.relS scope c.sc, st := some ((ownOf c.N scope).map (·.1)) }
/-- targets: a name, a tuple of such -/
def compG : Nat → Cc → Expr → Option Tg
  | 0, _, _ => none
  | n + 1, c, e => match e with
    | .Name x _ => if isLoc c.sc x && okSt c x then (slotOf c.N x).map Tg.nm else none
    | .Tuple es _ _ => if es.all noStar then (mapO (compG n c) es).map Tg.tu else none
    | _ => none

def andT : List T → Option T
  | [] => none
  | [t] => some t
  | t :: r => (andT r).map (T.and t)
def orT : List T → Option T
  | [] => none
  | [t] => some t
  | t :: r => (orT r).map (T.or t)

def keysOf : List (Option Expr) → Option (List L2.Key)
  | [] => some []
  | some (.Constant (.str x) _ _) :: r => (keysOf r).map (Sum.inr x :: ·)
  | some (.Constant (.int i) _ _) :: r => (keysOf r).map (Sum.inl i :: ·)
  | _ => none

/-- a call of a built-in with one argument: the argument -/
def isCall1 (nm : Str) (c : Cc) (e0 : Expr) : Option Expr :=
  match e0 with
  | .Call (.Name y _) [e] [] _ => if y = nm ∧ isGl c.sc y = true ∧ c.fs.lookup y = none ∧ noStar e = true then some e else none
  | _ => none
/-- a walk that makes tuples wants a target of several names -/
def tgOk : Itr → Expr → Bool
  | .zip _ _, .Tuple _ _ _ => true
  | .enum _, .Tuple _ _ _ => true
  | .zip _ _, _ => false
  | .enum _, _ => false
  | _, _ => true
mutual
def compE : Nat → Cc → Expr → Option T
  | 0, _, _ => none
  | n + 1, c, e => match e with
    | .Name x _ =>
      if okName x then
        (if isVis c.sc x then (slotOf c.N x).map T.var
        else if isGl c.sc x then (c.gc.lookup x).map T.cst
        else none)
      else none
    | .Constant k _ _ => (constD k).map T.cst
    | .BinOp a op b _ => match compE n c a, compE n c b with
      | some s, some t => some (.app (.bin op) [s, t])
      | _, _ => none
    | .UnaryOp .Not a _ => (compE n c a).map T.not
    | .UnaryOp .USub a _ => (compE n c a).map fun t => .app .neg [t]
    | .BoolOp .And es _ => (mapO (compE n c) es).bind andT
    | .BoolOp .Or es _ => (mapO (compE n c) es).bind orT
    | .IfExp k a b _ => match compE n c k, compE n c a, compE n c b with
      | some r, some s, some t => some (.ite r s t)
      | _, _, _ => none
    | .Compare a [op] [b] _ => if noSet b then (match compE n c a, compE n c b with
      | some s, some t => some (.app (.cmp op) [s, t])
      | _, _ => none) else none
    | .Compare a [p, q] [b, d] _ => if noSet b && noSet d then (match compE n c a, compE n c b, compE n c d with
      | some r, some s, some t => some (.chain p q r s t)
      | _, _, _ => none) else none
    | .Tuple es _ _ => if es.all noStar then (mapO (compE n c) es).map fun ts => .app .tup ts else none
    | .List es _ => if es.all noStar then (mapO (compE n c) es).map fun ts => .app .lst ts else none
    | .Dict ks vs _ => match keysOf ks, mapO (compE n c) vs with
      | some keys, some ts => if keys.length = vs.length ∧ keys ≠ [] ∧ keys.length ≤ 15 then some (.app (.dct keys) ts) else none
      | _, _ => none
    | .Subscript o (.Slice none none (some (.UnaryOp .USub (.Constant (.int 1) _ _) _)) _) _ => (compE n c o).map fun t => .app .rev [t]
    | .Subscript o (.Slice lo hi none _) _ => match compE n c o, lo, hi with
      | some t, none, none => some (.app (.slice false false) [t])
      | some t, some a, none => (compE n c a).map fun s => .app (.slice true false) [t, s]
      | some t, none, some b => (compE n c b).map fun s => .app (.slice false true) [t, s]
      | some t, some a, some b => (match compE n c a, compE n c b with
        | some r, some s => some (.app (.slice true true) [t, r, s])
        | _, _ => none)
      | _, _, _ => none
    | .Subscript o i _ => if noSlice i then (match compE n c o, compE n c i with
      | some s, some t => some (.app .item [s, t])
      | _, _ => none) else none
    | .ListComp elt [⟨tg, iter, ifs, 0⟩] scope _ =>
      if noSet iter && L2.blkC c.N c.sc scope (ownOf c.N scope) then
        (match compI n c iter, compG n (c.blk scope) tg, compE n (c.blk scope) elt with
        | some it, some g, some te =>
          if tgOk it tg && (tgSlots g).all (fun i => ((ownOf c.N scope).map (·.2)).contains i) then
            (match ifs with
            | [] => some (.comp g it none te ((ownOf c.N scope).map (·.2)))
            | [k] => (compE n (c.blk scope) k).map fun tk => .comp g it (some tk) te ((ownOf c.N scope).map (·.2))
            | _ => none)
          else none
        | _, _, _ => none)
      else none
    | .Call (.Name x p) args kws pos =>
      if okName x && isGl c.sc x then
        (match c.fs.lookup x with
        | some ps =>
          if args.all noStar && decide (kws.map (·.arg) = (ps.drop args.length).map some) && decide (args.length ≤ ps.length) then
            (match mapO (compE n c) args, mapO (fun k => compE n c k.value) kws with
            | some ts, some us => some (.call x (ts ++ us))
            | _, _ => none)
          else none
        | none => (match kws, args with
          | [], [e] => if noStar e then
              (if x = ("sorted" : Str) ∧ (isCall1 "set" c e).isSome = true then ((isCall1 "set" c e).bind (compE n c)).map fun t => .app .sortedSet [t]
              else if x = ("list" : Str) ∧ (isCall1 "range" c e).isSome = true then ((isCall1 "range" c e).bind (compE n c)).map fun t => .app (.fn .lrange) [t]
              else match fn1.lookup x, compE n c e with
              | some f, some t => some (.app (.fn f) [t])
              | _, _ => none) else none
          | [], [e, .Name y _] => if x = ("isinstance" : Str) ∧ isGl c.sc y = true ∧ c.fs.lookup y = none ∧ noStar e = true then (match isTys.lookup y, compE n c e with
              | some ty, some t => some (.app (.isinst [ty]) [t])
              | _, _ => none) else none
          | _, _ => none))
      else none
    | .Call (.Attribute o m ap) args [] cp =>
      if noSuper o && args.all noStar && decide (ap.endLine = cp.line) && decide (args.length < 20) && decide (0 < args.length) then
        (match meths.lookup m, compE n c o, mapO (compE n c) args with
        | some f, some t, some ts => if ts.length = f.ar then some (.mcall f t ts) else none
        | _, _, _ => none)
      else none
    | _ => none
def compI : Nat → Cc → Expr → Option Itr
  | 0, _, _ => none
  | n + 1, c, e => match e with
    | .Call (.Name x p) args [] pos =>
      if isGl c.sc x && (c.fs.lookup x).isNone && args.all noStar then
        (match args with
        | [a] => if x = ("range" : Str) then (compE n c a).map Itr.range1 else (compE n c e).map Itr.seq
        | [a, b] => if x = ("range" : Str) then (match compE n c a, compE n c b with
            | some s, some t => some (.range2 s t)
            | _, _ => none)
          else if x = ("zip" : Str) then (match compE n c a, compE n c b with
            | some s, some t => some (.zip s t)
            | _, _ => none)
          else (compE n c e).map Itr.seq
        | _ => (compE n c e).map Itr.seq)
      else (compE n c e).map Itr.seq
    | _ => (compE n c e).map Itr.seq
end

/-- a value that goes to a name whose list is changed -/
def compM (n : Nat) (c : Cc) (x : Expr) (e : Expr) : Option T :=
  match x, e with
  | .Name y _, .List es _ => if c.mu.contains y then (if es.all noStar then (mapO (compE n c) es).map fun ts => .app .lstM ts else none) else compE n c e
  | _, _ => compE n c e
def compMs (n : Nat) (c : Cc) : List Expr → List Expr → Option (List T)
  | [], [] => some []
  | x :: xs, e :: es => match compM n c x e, compMs n c xs es with
    | some t, some ts => some (t :: ts)
    | _, _ => none
  | _, _ => none

def isStar : Expr → Bool
  | .Starred .. => true
  | _ => false
/-- plain local names on one line, all different: their values are stored from the right -/
def swapN (sc : Scope) (ts vs : List Expr) : Option (List Str) :=
  let line := (ts.head?.map (·.pos.line)).getD 0
  let names := ts.filterMap fun
    | .Name id pos => if sc.names.lookup id == some .local && pos.line == line then some id else none
    | _ => none
  if !(ts.length == 2 || ts.length == 3) || vs.length != ts.length then none
  else if vs.any isStar then none
  else if names.length != ts.length || names.eraseDups.length != names.length then none
  else if vs.all (foldedForSure 8) then none
  else some names

def subsOf (n : Nat) (c : Cc) : List Expr → Option (List (T × T))
  | [] => some []
  | .Subscript o i _ :: r => if noSlice i then (match compE n c o, compE n c i, subsOf n c r with
    | some s, some t, some us => some ((s, t) :: us)
    | _, _, _ => none) else none
  | _ => none

mutual
def compS : Nat → Cc → Stmt → Option Sx
  | 0, _, _ => none
  | n + 1, c, st => match st with
    | .Pass _ => some .pass
    | .Return none _ => some (.ret (.cst .non))
    | .Return (some e) _ => (compE n c e).map Sx.ret
    | .Expr (.Constant (.str _) _ _) _ => some .pass
    | .Expr e _ => if isCompr e then none else (compE n c e).map Sx.expr
    | .If k a b _ => match compE n c k, compB n c a, compB n c b with
      | some t, some x, some y => some (.ifs t x y)
      | _, _, _ => none
    | .For tg iter body [] _ => if noSet iter then (match compI n c iter, compG n c tg, compB n c body with
      | some it, some g, some b => if tgOk it tg then some (.for_ g it b) else none
      | _, _, _ => none) else none
    | .AugAssign (.Name x _) op e _ => if isLoc c.sc x && okSt c x && okName x then (match slotOf c.N x, compE n c e with
      | some i, some t => some (.aug i op t)
      | _, _ => none) else none
    | .Assign [.Name x p] e _ => if isLoc c.sc x && okSt c x then (match slotOf c.N x, compM n c (.Name x p) e with
      | some i, some t => some (.asg (.nm i) t)
      | _, _ => none) else none
    | .Assign [.Subscript o i _] e _ => if noSlice i && !isCompr e then (match compE n c o, compE n c i, compE n c e with
      | some s, some t, some u => some (.sub s t u)
      | _, _, _ => none) else none
    | .Assign [.Tuple ts k p] (.Tuple es k2 p2) _ =>
      (match swapN c.sc ts es with
      | some names => if es.all (constantsAlone 8) then none else
        (match ts, es with
        | [.Name x px, .Name y py], [a, b] => if names = [x, y] ∧ c.sc.names.lookup x = some .local ∧ c.sc.names.lookup y = some .local ∧ x ≠ y ∧ noStar a = true ∧ noStar b = true then (match slotOf c.N x, slotOf c.N y, compM n c (.Name x px) a, compM n c (.Name y py) b with
          | some i, some j, some s, some t => some (.par [i, j] [s, t])
          | _, _, _, _ => none) else none
        | [.Name x px, .Name y py, .Name z pz], [a, b, d] => if names = [x, y, z] ∧ c.sc.names.lookup x = some .local ∧ c.sc.names.lookup y = some .local ∧ c.sc.names.lookup z = some .local ∧ x ≠ y ∧ x ≠ z ∧ y ≠ z ∧ noStar a = true ∧ noStar b = true ∧ noStar d = true then (match slotOf c.N x, slotOf c.N y, slotOf c.N z, compM n c (.Name x px) a, compM n c (.Name y py) b, compM n c (.Name z pz) d with
          | some i, some j, some l, some s, some t, some u => some (.par [i, j, l] [s, t, u])
          | _, _, _, _, _, _ => none) else none
        | _, _ => none)
      | none =>
        if es.all noStar && ts.all noStar then (match subsOf n c ts with
          | some ois => (mapO (compE n c) es).map fun us => .subs ois (.app .tup us)
          | none => (match compG n c (.Tuple ts k p), compMs n c ts es with
            | some g, some us => some (.asg g (.app .tup us))
            | _, _ => none))
        else none)
    | .Assign [.Tuple ts k p] e _ => if isCompr e then none else (match compG n c (.Tuple ts k p), compE n c e with
      | some g, some t => some (.asg g t)
      | _, _ => none)
    | _ => none
def compB : Nat → Cc → List Stmt → Option (List Sx)
  | 0, _, _ => none
  | n + 1, c, l => match l with
    | [] => some []
    | s :: r => match compS n c s, compB n c r with
      | some x, some xs => some (x :: xs)
      | _, _ => none
end

/-- the parameters' names of a def -/
def parsOf (st : Stmt) : List Str := (L2.defArgs st).args.map (·.arg)
/-- the names that get a slot: the parameters, the other locals, the names of the comprehensions within -/
def compF (n : Nat) (gc : List (Str × D)) (fs : List (Str × List Str)) (N : List Str) (mu : List Str) (st : Stmt) : Option Fd :=
  (compB n { N := N, sc := L2.defScope st, gc := gc, fs := fs, mu := mu, st := none } (L2.defBody st)).map fun b => ⟨(parsOf st).length, N.length, b⟩
end OW
end
section
set_option Elab.async false
set_option linter.all false
set_option autoImplicit false
set_option maxRecDepth 100000
set_option maxHeartbeats 4000000
/-! OwC: how plain data and the abstract store lie in the layer's abstract heap. -/
namespace OW
open PySem L2

/-- the written part, and the lists that are being made (nothing refers to them) -/
structure Kx where
  K : PySem.W.Frag
  ety : List Addr
/-- a list of the written part -/
def KL (K : PySem.W.Frag) (a : Addr) (xs : List V) : Prop :=
  ∃ (o : Obj) (its : Array Value) (n : Nat), K.lookup a = some o ∧ o.cls = .type "list" ∧ o.dict = none ∧ o.data = .seq its n ∧ its.size ≤ sizeLine ∧ Vals xs its.toList

mutual
def RelD (K : Kx) (ρ : List Addr) (H : Hp) : D → V → Prop
  | .non, v => v = .non
  | .bl b, v => v = .bl b
  | .int i, v => v = .int i
  | .str x, v => v = .str x
  | .tup ds, v => ∃ a vs, v = .ref a ∧ SqT K.K H a vs ∧ RelDs K ρ H ds vs
  | .lst ds, v => ∃ a vs, v = .ref a ∧ H a = some (.lst vs) ∧ a ∉ ρ ∧ a ∉ K.ety ∧ RelDs K ρ H ds vs
  | .ro ds, v => ∃ a vs, v = .ref a ∧ ((∃ o, H a = some (.frz o (.lst vs))) ∨ KL K.K a vs) ∧ RelDs K ρ H ds vs
  | .loc n, v => ∃ a, v = .ref a ∧ ρ[n]? = some a
def RelDs (K : Kx) (ρ : List Addr) (H : Hp) : List D → List V → Prop
  | [], vs => vs = []
  | d :: ds, vs => ∃ v r, vs = v :: r ∧ RelD K ρ H d v ∧ RelDs K ρ H ds r
end

variable {K : Kx} {ρ ρ' ρ'' : List Addr} {H H' H'' : Hp}

theorem RelDs.length : ∀ {ds : List D} {vs : List V}, RelDs K ρ H ds vs → ds.length = vs.length
  | [], _, h => by rw [show _ = _ from h]; rfl
  | d :: ds, _, h => by
    obtain ⟨v, r, rfl, _, h⟩ := h
    simp [RelDs.length h]
theorem RelDs.get : ∀ {ds : List D} {vs : List V} {i : Nat} {d : D}, RelDs K ρ H ds vs → ds[i]? = some d → ∃ v, vs[i]? = some v ∧ RelD K ρ H d v
  | [], _, _, _, _, e => by simp at e
  | d :: ds, _, 0, _, h, e => by
    obtain ⟨v, r, rfl, h1, h⟩ := h
    simp at e; subst e
    exact ⟨v, rfl, h1⟩
  | d :: ds, _, i + 1, _, h, e => by
    obtain ⟨v, r, rfl, h1, h⟩ := h
    obtain ⟨u, e1, e2⟩ := RelDs.get (i := i) h (by simpa using e)
    exact ⟨u, by simpa using e1, e2⟩
theorem RelDs.getV : ∀ {ds : List D} {vs : List V} {i : Nat} {v : V}, RelDs K ρ H ds vs → vs[i]? = some v → ∃ d, ds[i]? = some d ∧ RelD K ρ H d v
  | [], _, _, _, h, e => by rw [show _ = _ from h] at e; simp at e
  | d :: ds, _, 0, _, h, e => by
    obtain ⟨v, r, rfl, h1, h⟩ := h
    simp at e; subst e
    exact ⟨d, rfl, h1⟩
  | d :: ds, _, i + 1, _, h, e => by
    obtain ⟨v, r, rfl, h1, h⟩ := h
    obtain ⟨u, e1, e2⟩ := RelDs.getV (i := i) h (by simpa using e)
    exact ⟨u, by simpa using e1, e2⟩
theorem RelDs.append : ∀ {ds es : List D} {vs ws : List V}, RelDs K ρ H ds vs → RelDs K ρ H es ws → RelDs K ρ H (ds ++ es) (vs ++ ws)
  | [], _, _, _, h, g => by rw [show _ = _ from h]; exact g
  | d :: ds, _, _, _, h, g => by
    obtain ⟨v, r, rfl, h1, h⟩ := h
    exact ⟨v, _, rfl, h1, RelDs.append h g⟩
theorem RelDs.drop : ∀ {ds : List D} {vs : List V} (n : Nat), RelDs K ρ H ds vs → RelDs K ρ H (ds.drop n) (vs.drop n)
  | _, _, 0, h => h
  | [], _, n + 1, h => by rw [show _ = _ from h]; simp [RelDs]
  | d :: ds, _, n + 1, h => by
    obtain ⟨v, r, rfl, h1, h⟩ := h
    exact RelDs.drop n h
theorem RelDs.take : ∀ {ds : List D} {vs : List V} (n : Nat), RelDs K ρ H ds vs → RelDs K ρ H (ds.take n) (vs.take n)
  | _, _, 0, h => by simp [RelDs]
  | [], _, n + 1, h => by rw [show _ = _ from h]; simp [RelDs]
  | d :: ds, _, n + 1, h => by
    obtain ⟨v, r, rfl, h1, h⟩ := h
    exact ⟨v, _, rfl, h1, RelDs.take n h⟩
theorem RelDs.one {d : D} {v : V} (h : RelD K ρ H d v) : RelDs K ρ H [d] [v] := ⟨v, [], rfl, h, rfl⟩
theorem RelDs.two {d e : D} {v w : V} (h : RelD K ρ H d v) (g : RelD K ρ H e w) : RelDs K ρ H [d, e] [v, w] := ⟨v, [w], rfl, h, w, [], rfl, g, rfl⟩
theorem RelDs.reverse : ∀ {ds : List D} {vs : List V}, RelDs K ρ H ds vs → RelDs K ρ H ds.reverse vs.reverse
  | [], _, h => by rw [show _ = _ from h]; exact rfl
  | d :: ds, _, h => by
    obtain ⟨v, r, rfl, h1, h⟩ := h
    rw [List.reverse_cons, List.reverse_cons]
    exact RelDs.append (RelDs.reverse h) (RelDs.one h1)
theorem RelDs.set : ∀ {ds : List D} {vs : List V} {d : D} {v : V} (i : Nat), RelDs K ρ H ds vs → RelD K ρ H d v → RelDs K ρ H (ds.set i d) (vs.set i v)
  | [], _, _, _, _, h, _ => by rw [show _ = _ from h]; simp [RelDs]
  | x :: ds, _, d, v, 0, h, g => by
    obtain ⟨w, r, rfl, h1, h⟩ := h
    exact ⟨v, r, rfl, g, h⟩
  | x :: ds, _, d, v, i + 1, h, g => by
    obtain ⟨w, r, rfl, h1, h⟩ := h
    exact ⟨w, _, rfl, h1, RelDs.set i h g⟩
theorem RelDs.rep {ds : List D} {vs : List V} (h : RelDs K ρ H ds vs) : ∀ n : Nat, RelDs K ρ H (List.replicate n ds).flatten (List.replicate n vs).flatten
  | 0 => rfl
  | n + 1 => by
    rw [List.replicate_succ, List.replicate_succ, List.flatten_cons, List.flatten_cons]
    exact RelDs.append h (RelDs.rep h n)

/-- the places of the store hold lists and dicts -/
def Locs (ρ : List Addr) (H : Hp) : Prop := ∀ a ∈ ρ, (∃ vs, H a = some (.lst vs)) ∨ ∃ kvs, H a = some (.dK kvs)
/-- what was there stays but the store's places; these grow by new ones -/
structure Ext (ρ : List Addr) (H : Hp) (ρ' : List Addr) (H' : Hp) : Prop where
  pre : ∃ l, ρ' = ρ ++ l
  new : ∀ a ∈ ρ', a ∉ ρ → H a = none
  keep : ∀ a o, H a = some o → a ∉ ρ → H' a = some o
theorem Ext.refl : Ext ρ H ρ H := ⟨⟨[], by simp⟩, fun a h n => absurd h n, fun _ _ h _ => h⟩
theorem Ext.trans (x : Ext ρ H ρ' H') (y : Ext ρ' H' ρ'' H'') : Ext ρ H ρ'' H'' := by
  obtain ⟨l, e⟩ := x.pre
  obtain ⟨m, e'⟩ := y.pre
  refine ⟨⟨l ++ m, by rw [e', e, List.append_assoc]⟩, fun a h n => ?_, fun a o h n => ?_⟩
  · cases q : H a with
    | none => rfl
    | some o =>
      by_cases h' : a ∈ ρ'
      · exact absurd (x.new a h' n) (by rw [q]; simp)
      · have := y.new a h h'
        rw [x.keep a o q n] at this; cases this
  · have n' : a ∉ ρ' := fun h' => by rw [x.new a h' n] at h; cases h
    exact y.keep a o (x.keep a o h n) n'
theorem Ext.stays (x : Ext ρ H ρ' H') {a : Addr} {o : HO} (h : H a = some o) (n : a ∉ ρ) : a ∉ ρ' := fun h' => by
  rw [x.new a h' n] at h; cases h
theorem Ext.at (x : Ext ρ H ρ' H') {n : Nat} {a : Addr} (h : ρ[n]? = some a) : ρ'[n]? = some a := by
  obtain ⟨l, e⟩ := x.pre
  rw [e, List.getElem?_append_left (by have := List.getElem?_eq_some_iff.mp h; exact this.1)]
  exact h
theorem Locs.no {o : Obj} {u : HO} (L : Locs ρ H) {a : Addr} (h : H a = some (.frz o u)) : a ∉ ρ := fun m => by
  rcases L a m with ⟨_, e⟩ | ⟨_, e⟩ <;> (rw [h] at e; cases e)
theorem Locs.noT {xs : List V} (L : Locs ρ H) {a : Addr} (h : H a = some (.tup xs)) : a ∉ ρ := fun m => by
  rcases L a m with ⟨_, e⟩ | ⟨_, e⟩ <;> (rw [h] at e; cases e)
theorem Ext.sqT (x : Ext ρ H ρ' H') (L : Locs ρ H) {a : Addr} {vs : List V} (h : SqT K.K H a vs) : SqT K.K H' a vs := by
  rcases h with (h | ⟨o, h⟩) | h
  · exact .inl (.inl (x.keep _ _ h (L.noT h)))
  · exact .inl (.inr ⟨o, x.keep _ _ h (L.no h)⟩)
  · exact .inr h
/-- what plain data lean on is kept -/
structure Keep (K : Kx) (ρ : List Addr) (H : Hp) (K' : Kx) (ρ' : List Addr) (H' : Hp) : Prop where
  eqK : K'.K = K.K
  at_ : ∀ (n : Nat) (a : Addr), ρ[n]? = some a → ρ'[n]? = some a
  lst : ∀ a vs, H a = some (.lst vs) → a ∉ ρ → a ∉ K.ety → H' a = some (.lst vs) ∧ a ∉ ρ' ∧ a ∉ K'.ety
  tup : ∀ a vs, SqT K.K H a vs → SqT K.K H' a vs
  frz : ∀ a o vs, H a = some (.frz o (.lst vs)) → H' a = some (.frz o (.lst vs))
theorem Ext.toKeep (x : Ext ρ H ρ' H') (L : Locs ρ H) : Keep K ρ H K ρ' H' :=
  ⟨rfl, fun _ _ h => x.at h, fun a vs q n m => ⟨x.keep _ _ q n, x.stays q n, m⟩, fun a vs q => x.sqT L q, fun a o vs q => x.keep _ _ q (L.no q)⟩
theorem Keep.refl : Keep K ρ H K ρ H := ⟨rfl, fun _ _ h => h, fun _ _ q n m => ⟨q, n, m⟩, fun _ _ q => q, fun _ _ _ q => q⟩
theorem Keep.trans {K' K'' : Kx} (x : Keep K ρ H K' ρ' H') (y : Keep K' ρ' H' K'' ρ'' H'') : Keep K ρ H K'' ρ'' H'' where
  eqK := y.eqK.trans x.eqK
  at_ := fun n a h => y.at_ n a (x.at_ n a h)
  lst := fun a vs q n m => let ⟨h1, h2, h3⟩ := x.lst a vs q n m; y.lst a vs h1 h2 h3
  tup := fun a vs q => by
    have := y.tup a vs (by rw [x.eqK]; exact x.tup a vs q)
    rw [x.eqK] at this
    exact this
  frz := fun a o vs q => y.frz a o vs (x.frz a o vs q)
mutual
theorem RelD.keep {K' : Kx} (x : Keep K ρ H K' ρ' H') : ∀ (d : D) (v : V), RelD K ρ H d v → RelD K' ρ' H' d v
  | .non, _, h => h
  | .bl _, _, h => h
  | .int _, _, h => h
  | .str _, _, h => h
  | .tup ds, _, h => by
    obtain ⟨a, vs, rfl, q, r⟩ := h
    exact ⟨a, vs, rfl, by rw [x.eqK]; exact x.tup a vs q, RelDs.keep x ds vs r⟩
  | .lst ds, _, h => by
    obtain ⟨a, vs, rfl, q, n, n', r⟩ := h
    obtain ⟨h1, h2, h3⟩ := x.lst a vs q n n'
    exact ⟨a, vs, rfl, h1, h2, h3, RelDs.keep x ds vs r⟩
  | .ro ds, _, h => by
    obtain ⟨a, vs, rfl, q, r⟩ := h
    refine ⟨a, vs, rfl, ?_, RelDs.keep x ds vs r⟩
    rcases q with ⟨o, q⟩ | q
    · exact .inl ⟨o, x.frz a o vs q⟩
    · exact .inr (by rw [x.eqK]; exact q)
  | .loc n, _, h => by
    obtain ⟨a, rfl, q⟩ := h
    exact ⟨a, rfl, x.at_ n a q⟩
theorem RelDs.keep {K' : Kx} (x : Keep K ρ H K' ρ' H') : ∀ (ds : List D) (vs : List V), RelDs K ρ H ds vs → RelDs K' ρ' H' ds vs
  | [], _, h => h
  | d :: ds, _, h => by
    obtain ⟨v, r, rfl, h1, h2⟩ := h
    exact ⟨v, r, rfl, RelD.keep x d v h1, RelDs.keep x ds r h2⟩
end
theorem RelD.mono (x : Ext ρ H ρ' H') (L : Locs ρ H) (d : D) (v : V) (h : RelD K ρ H d v) : RelD K ρ' H' d v := RelD.keep (x.toKeep L) d v h
theorem RelDs.mono (x : Ext ρ H ρ' H') (L : Locs ρ H) (ds : List D) (vs : List V) (h : RelDs K ρ H ds vs) : RelDs K ρ' H' ds vs := RelDs.keep (x.toKeep L) ds vs h

/-- a dict's pairs -/
def RelK (K : Kx) (ρ : List Addr) (H : Hp) : List (Key × D) → List (Key × V) → Prop
  | [], r => r = []
  | (k, d) :: ds, r => ∃ v t, r = (k, v) :: t ∧ RelD K ρ H d v ∧ RelK K ρ H ds t
def CellOk (K : Kx) (ρ : List Addr) (H : Hp) (a : Addr) : Cell → Prop
  | .lst ds => ∃ vs, H a = some (.lst vs) ∧ RelDs K ρ H ds vs
  | .dct kvs => ∃ r, H a = some (.dK r) ∧ RelK K ρ H kvs r
structure SRel (K : Kx) (ρ : List Addr) (S : Store) (H : Hp) : Prop where
  len : ρ.length = S.length
  nd : ρ.Nodup
  hid : ∀ a ∈ K.ety, a ∉ ρ ∧ ∃ vs, H a = some (.lst vs)
  cell : ∀ (n : Nat) (a : Addr), ρ[n]? = some a → ∃ c, S[n]? = some c ∧ CellOk K ρ H a c
theorem RelK.keep {K' : Kx} (x : Keep K ρ H K' ρ' H') : ∀ {ds : List (Key × D)} {r : List (Key × V)}, RelK K ρ H ds r → RelK K' ρ' H' ds r
  | [], _, h => h
  | (k, d) :: ds, _, h => by
    obtain ⟨v, t, rfl, h1, h2⟩ := h
    exact ⟨v, t, rfl, RelD.keep x d v h1, RelK.keep x h2⟩
theorem RelK.mono (x : Ext ρ H ρ' H') (L : Locs ρ H) {ds : List (Key × D)} {r : List (Key × V)} (h : RelK K ρ H ds r) : RelK K ρ' H' ds r := RelK.keep (x.toKeep L) h
theorem RelK.look {k : Key} : ∀ {ds : List (Key × D)} {r : List (Key × V)}, RelK K ρ H ds r → (match lookK k ds with
    | some d => ∃ v, valV r k = some v ∧ RelD K ρ H d v
    | none => valV r k = none)
  | [], _, h => by rw [show _ = _ from h]; rfl
  | (j, d) :: ds, _, h => by
    obtain ⟨v, t, rfl, h1, h2⟩ := h
    have ih := RelK.look (k := k) h2
    unfold lookK
    by_cases e : j = k
    · subst e
      simp only [if_true]
      exact ⟨v, by simp [valV], h1⟩
    · simp only [if_neg e]
      have e' : valV ((j, v) :: t) k = valV t k := by simp [valV, e]
      rw [e']
      exact ih
theorem RelK.length : ∀ {ds : List (Key × D)} {r : List (Key × V)}, RelK K ρ H ds r → ds.length = r.length
  | [], _, h => by rw [show _ = _ from h]; rfl
  | (j, d) :: ds, _, h => by
    obtain ⟨v, t, rfl, h1, h2⟩ := h
    simp [RelK.length h2]
theorem SRel.locs {S : Store} (s : SRel K ρ S H) : Locs ρ H := fun a m => by
  obtain ⟨n, hn, e⟩ := List.mem_iff_getElem.mp m
  obtain ⟨c, e1, e2⟩ := s.cell n a (by rw [List.getElem?_eq_getElem hn, e])
  cases c with
  | lst ds => obtain ⟨vs, q, _⟩ := e2; exact .inl ⟨vs, q⟩
  | dct kvs => obtain ⟨r, q, _⟩ := e2; exact .inr ⟨r, q⟩
/-- what is new beside the store -/
theorem SRel.beside {S : Store} (s : SRel K ρ S H) (x : Ext ρ H ρ H') (k : ∀ a ∈ ρ, H' a = H a) : SRel K ρ S H' := by
  refine ⟨s.len, s.nd, fun a m => ⟨(s.hid a m).1, let ⟨vs, q⟩ := (s.hid a m).2; ⟨vs, x.keep a _ q (s.hid a m).1⟩⟩, fun n a e => ?_⟩
  obtain ⟨c, e1, e2⟩ := s.cell n a e
  have hm : a ∈ ρ := List.mem_of_getElem? e
  refine ⟨c, e1, ?_⟩
  cases c with
  | lst ds => obtain ⟨vs, q, r⟩ := e2; exact ⟨vs, (k a hm).trans q, RelDs.mono x s.locs _ _ r⟩
  | dct kvs => obtain ⟨w, q, r⟩ := e2; exact ⟨w, (k a hm).trans q, RelK.mono x s.locs r⟩
theorem Ext.upd {p : Addr} {o : HO} (h : H p = none) : Ext ρ H ρ (L2.upd H p o) :=
  ⟨⟨[], by simp⟩, fun a m n => absurd m n, fun a u q _ => by rw [upd_ne (ne_of_none q h)]; exact q⟩
theorem SRel.fresh {S : Store} (s : SRel K ρ S H) {p : Addr} (h : H p = none) : p ∉ ρ := fun m => by
  rcases s.locs p m with ⟨_, e⟩ | ⟨_, e⟩ <;> (rw [h] at e; cases e)
theorem SRel.unseen {S : Store} (s : SRel K ρ S H) {p : Addr} (h : H p = none) : p ∉ K.ety := fun m => by
  obtain ⟨_, vs, e⟩ := s.hid p m
  rw [h] at e; cases e
theorem SRel.upd {S : Store} {p : Addr} {o : HO} (s : SRel K ρ S H) (h : H p = none) : SRel K ρ S (L2.upd H p o) :=
  s.beside (Ext.upd h) fun a m => by
    have : a ≠ p := fun e => s.fresh h (e ▸ m)
    rw [upd_ne this]
/-- a new place of the store -/
theorem Ext.alloc {S : Store} (s : SRel K ρ S H) {p : Addr} {o : HO} (h : H p = none) : Ext ρ H (ρ ++ [p]) (L2.upd H p o) :=
  ⟨⟨[p], rfl⟩, fun a m n => by
    rcases List.mem_append.mp m with m | m
    · exact absurd m n
    · rw [List.mem_singleton.mp m]; exact h, fun a u q _ => by rw [upd_ne (ne_of_none q h)]; exact q⟩
theorem SRel.alloc {S : Store} {p : Addr} {o : HO} {c : Cell} (s : SRel K ρ S H) (h : H p = none) (ok : CellOk K (ρ ++ [p]) (L2.upd H p o) p c) : SRel K (ρ ++ [p]) (S ++ [c]) (L2.upd H p o) := by
  have x := Ext.alloc (o := o) s h
  have hp := s.fresh h
  refine ⟨by simp [s.len], by rw [List.nodup_append]; exact ⟨s.nd, by simp, fun a m b n e => by rw [List.mem_singleton.mp n] at e; exact hp (e ▸ m)⟩, fun a m => ?_, fun n a e => ?_⟩
  · obtain ⟨h1, vs, h2⟩ := s.hid a m
    have ne : a ≠ p := ne_of_none h2 h
    exact ⟨fun q => (List.mem_append.mp q).elim h1 fun q => ne (List.mem_singleton.mp q), vs, by rw [upd_ne ne]; exact h2⟩
  by_cases hn : n < ρ.length
  · rw [List.getElem?_append_left hn] at e
    obtain ⟨c', e1, e2⟩ := s.cell n a e
    have hm : a ∈ ρ := List.mem_of_getElem? e
    have ne : a ≠ p := fun q => hp (q ▸ hm)
    refine ⟨c', by rw [List.getElem?_append_left (by rw [← s.len]; exact hn)]; exact e1, ?_⟩
    cases c' with
    | lst ds => obtain ⟨vs, q, r⟩ := e2; exact ⟨vs, by rw [upd_ne ne]; exact q, RelDs.mono x s.locs _ _ r⟩
    | dct kvs => obtain ⟨w, q, r⟩ := e2; exact ⟨w, by rw [upd_ne ne]; exact q, RelK.mono x s.locs r⟩
  · have hn' : n = ρ.length := by
      have := (List.getElem?_eq_some_iff.mp e).1
      simp at this; omega
    subst hn'
    rw [List.getElem?_append_right (Nat.le_refl _)] at e
    simp at e; subst e
    refine ⟨c, ?_, ok⟩
    rw [s.len, List.getElem?_append_right (Nat.le_refl _)]
    simp
/-- a dict that was laid ahead becomes a place of the store -/
theorem Keep.adopt {p : Addr} {r r' : List (Key × V)} (h : H p = some (.dK r)) : Keep K ρ H K (ρ ++ [p]) (L2.upd H p (.dK r')) where
  eqK := rfl
  at_ := fun n a e => by rw [List.getElem?_append_left (List.getElem?_eq_some_iff.mp e).1]; exact e
  lst := fun a vs q n n' => by
    have ne : a ≠ p := fun e => by rw [e, h] at q; cases q
    exact ⟨by rw [upd_ne ne]; exact q, fun m => (List.mem_append.mp m).elim n fun m => ne (List.mem_singleton.mp m), n'⟩
  tup := fun a vs q => by
    rcases q with (q | ⟨o, q⟩) | q
    · exact .inl (.inl (by rw [upd_ne (fun e => by rw [e, h] at q; cases q)]; exact q))
    · exact .inl (.inr ⟨o, by rw [upd_ne (fun e => by rw [e, h] at q; cases q)]; exact q⟩)
    · exact .inr q
  frz := fun a o vs q => by rw [upd_ne (fun e => by rw [e, h] at q; cases q)]; exact q
theorem SRel.adopt {S : Store} {p : Addr} {r r' : List (Key × V)} {kvs : List (Key × D)} (s : SRel K ρ S H) (h : H p = some (.dK r)) (hp : p ∉ ρ) (ok : RelK K ρ H kvs r') : SRel K (ρ ++ [p]) (S ++ [.dct kvs]) (L2.upd H p (.dK r')) := by
  have x : Keep K ρ H K (ρ ++ [p]) (L2.upd H p (.dK r')) := Keep.adopt h
  refine ⟨by simp [s.len], by rw [List.nodup_append]; exact ⟨s.nd, by simp, fun a m b n e => by rw [List.mem_singleton.mp n] at e; exact hp (e ▸ m)⟩, fun a m => ?_, fun n a e => ?_⟩
  · obtain ⟨h1, vs, h2⟩ := s.hid a m
    have ne : a ≠ p := fun q => by rw [q, h] at h2; cases h2
    exact ⟨fun q => (List.mem_append.mp q).elim h1 fun q => ne (List.mem_singleton.mp q), vs, by rw [upd_ne ne]; exact h2⟩
  by_cases hn : n < ρ.length
  · rw [List.getElem?_append_left hn] at e
    obtain ⟨c', e1, e2⟩ := s.cell n a e
    have hm : a ∈ ρ := List.mem_of_getElem? e
    have ne : a ≠ p := fun q => hp (q ▸ hm)
    refine ⟨c', by rw [List.getElem?_append_left (by rw [← s.len]; exact hn)]; exact e1, ?_⟩
    cases c' with
    | lst ds => obtain ⟨vs, q, r⟩ := e2; exact ⟨vs, by rw [upd_ne ne]; exact q, RelDs.keep x _ _ r⟩
    | dct kvs => obtain ⟨w, q, r⟩ := e2; exact ⟨w, by rw [upd_ne ne]; exact q, RelK.keep x r⟩
  · have hn' : n = ρ.length := by
      have := (List.getElem?_eq_some_iff.mp e).1
      simp at this; omega
    subst hn'
    rw [List.getElem?_append_right (Nat.le_refl _)] at e
    simp at e; subst e
    refine ⟨.dct kvs, ?_, ⟨r', upd_same, RelK.keep x ok⟩⟩
    rw [s.len, List.getElem?_append_right (Nat.le_refl _)]
    simp
/-- a place of the store is written -/
theorem Ext.write {p : Addr} {o : HO} (m : p ∈ ρ) : Ext ρ H ρ (L2.upd H p o) :=
  ⟨⟨[], by simp⟩, fun a m n => absurd m n, fun a u q n => by
    have : a ≠ p := fun e => n (e ▸ m)
    rw [upd_ne this]; exact q⟩
theorem SRel.write {S : Store} {n : Nat} {p : Addr} {o : HO} {c : Cell} (s : SRel K ρ S H) (e : ρ[n]? = some p) (ok : CellOk K ρ (L2.upd H p o) p c) : SRel K ρ (S.set n c) (L2.upd H p o) := by
  have hm : p ∈ ρ := List.mem_of_getElem? e
  have x := Ext.write (H := H) (o := o) hm
  refine ⟨by simp [s.len], s.nd, fun a m => ?_, fun j a ej => ?_⟩
  · obtain ⟨h1, vs, h2⟩ := s.hid a m
    have ne : a ≠ p := fun q => h1 (by rw [q]; exact hm)
    exact ⟨h1, vs, by rw [upd_ne ne]; exact h2⟩
  by_cases hj : j = n
  · subst hj
    rw [e] at ej; cases ej
    have hl : j < S.length := by rw [← s.len]; exact (List.getElem?_eq_some_iff.mp e).1
    exact ⟨c, by rw [List.getElem?_set_self hl], ok⟩
  · obtain ⟨c', e1, e2⟩ := s.cell j a ej
    have ne : a ≠ p := fun q => hj (by
      subst q
      have h1 := List.getElem?_eq_some_iff.mp ej
      have h2 := List.getElem?_eq_some_iff.mp e
      exact (List.getElem_inj s.nd).mp (h1.2.trans h2.2.symm))
    refine ⟨c', by rw [List.getElem?_set_ne (Ne.symm hj)]; exact e1, ?_⟩
    cases c' with
    | lst ds => obtain ⟨vs, q, r⟩ := e2; exact ⟨vs, by rw [upd_ne ne]; exact q, RelDs.mono x s.locs _ _ r⟩
    | dct kvs => obtain ⟨w, q, r⟩ := e2; exact ⟨w, by rw [upd_ne ne]; exact q, RelK.mono x s.locs r⟩

/-- slots, the store and the heap -/
structure Rep (K : Kx) (ρ : List Addr) (ε : Sl) (S : Store) (σ : St) (H : Hp) : Prop where
  st : SRel K ρ S H
  len : ε.length = σ.length
  var : ∀ (i : Nat) (d : D), ε[i]? = some (some d) → ∃ v, σ[i]? = some (some v) ∧ RelD K ρ H d v
theorem Rep.step {ε : Sl} {S S' : Store} {σ : St} (r : Rep K ρ ε S σ H) (x : Ext ρ H ρ' H') (s : SRel K ρ' S' H') : Rep K ρ' ε S' σ H' :=
  ⟨s, r.len, fun i d e => let ⟨v, e1, e2⟩ := r.var i d e; ⟨v, e1, RelD.mono x r.st.locs d v e2⟩⟩
theorem Rep.set {ε : Sl} {S : Store} {σ : St} {d : D} {v : V} (r : Rep K ρ ε S σ H) (i : Nat) (h : RelD K ρ H d v) : Rep K ρ (ε.set i (some d)) S (σ.set i (some v)) H := by
  refine ⟨r.st, by simp [r.len], fun j e he => ?_⟩
  by_cases hj : j = i
  · subst hj
    by_cases hl : j < ε.length
    · rw [List.getElem?_set_self hl] at he
      cases he
      exact ⟨v, by rw [List.getElem?_set_self (by rw [← r.len]; exact hl)], h⟩
    · rw [List.getElem?_eq_none (by simpa using hl)] at he; cases he
  · rw [List.getElem?_set_ne (Ne.symm hj)] at he
    rw [List.getElem?_set_ne (Ne.symm hj)]
    exact r.var j e he
theorem wipeD_length (ε : Sl) : ∀ vs : List Nat, (wipeD ε vs).length = ε.length
  | [] => rfl
  | v :: vs => by unfold wipeD; rw [List.length_set, wipeD_length ε vs]
theorem wipeD_some {ε : Sl} {i : Nat} {x : D} : ∀ {vs : List Nat}, (wipeD ε vs)[i]? = some (some x) → ε[i]? = some (some x) ∧ i ∉ vs
  | [], h => ⟨h, by simp⟩
  | v :: vs, h => by
    unfold wipeD at h
    by_cases hi : v = i
    · subst hi
      by_cases hv : v < (wipeD ε vs).length
      · rw [List.getElem?_set_self hv] at h; cases h
      · rw [List.getElem?_eq_none (by simpa using hv)] at h; cases h
    · rw [List.getElem?_set_ne hi] at h
      obtain ⟨h1, h2⟩ := wipeD_some h
      exact ⟨h1, by simp only [List.mem_cons, not_or]; exact ⟨fun e => hi e.symm, h2⟩⟩
theorem wipe_get {σ : St} {i : Nat} : ∀ {vs : List Nat}, i ∉ vs → (wipe σ vs)[i]? = σ[i]?
  | [], _ => rfl
  | v :: vs, h => by
    unfold wipe
    rw [List.getElem?_set_ne (fun e => h (by rw [e]; exact List.mem_cons_self ..))]
    exact wipe_get fun m => h (List.mem_cons_of_mem _ m)
theorem Rep.wipe {ε : Sl} {S : Store} {σ : St} (r : Rep K ρ ε S σ H) (vs : List Nat) : Rep K ρ (wipeD ε vs) S (L2.wipe σ vs) H := by
  refine ⟨r.st, by rw [wipeD_length, wipe_length]; exact r.len, fun i d e => ?_⟩
  obtain ⟨e1, e2⟩ := wipeD_some e
  rw [wipe_get e2]
  exact r.var i d e1
theorem Rep.weak {ε : Sl} {S : Store} {σ σ' : St} (r : Rep K ρ ε S σ H) (hl : σ'.length = σ.length) (h : ∀ (i : Nat) (v : V), σ[i]? = some (some v) → (∃ d, ε[i]? = some (some d)) → σ'[i]? = some (some v)) : Rep K ρ ε S σ' H :=
  ⟨r.st, r.len.trans hl.symm, fun i d e => let ⟨v, e1, e2⟩ := r.var i d e; ⟨v, h i v e1 ⟨d, e⟩, e2⟩⟩

/-- what is wanted of a value: whatever heap and places come -/
def K2 (K : Kx) (ρ : List Addr) (H : Hp) (Q : VK) : D → Store → Prop := fun d S' => ∀ ρ' v H', Ext ρ H ρ' H' → SRel K ρ' S' H' → RelD K ρ' H' d v → Q v H'
def K2s (K : Kx) (ρ : List Addr) (H : Hp) (Q : List V → Hp → Prop) : List D → Store → Prop := fun ds S' => ∀ ρ' vs H', Ext ρ H ρ' H' → SRel K ρ' S' H' → RelDs K ρ' H' ds vs → Q vs H'
theorem K2.here {S : Store} {Q : VK} {d : D} {v : V} (k : K2 K ρ H Q d S) (s : SRel K ρ S H) (r : RelD K ρ H d v) : Q v H := k ρ v H Ext.refl s r
theorem K2.tup {S : Store} {Q : VK} {ds : List D} {vs : List V} {p : Addr} (k : K2 K ρ H Q (.tup ds) S) (s : SRel K ρ S H) (r : RelDs K ρ H ds vs) (h : H p = none) : Q (.ref p) (upd H p (.tup vs)) :=
  k ρ _ _ (Ext.upd h) (s.upd h) ⟨p, vs, rfl, SqT.of upd_same, RelDs.mono (Ext.upd h) s.locs _ _ r⟩
theorem K2.lst {S : Store} {Q : VK} {ds : List D} {vs : List V} {p : Addr} (k : K2 K ρ H Q (.lst ds) S) (s : SRel K ρ S H) (r : RelDs K ρ H ds vs) (h : H p = none) : Q (.ref p) (upd H p (.lst vs)) :=
  k ρ _ _ (Ext.upd h) (s.upd h) ⟨p, vs, rfl, upd_same, s.fresh h, s.unseen h, RelDs.mono (Ext.upd h) s.locs _ _ r⟩
theorem K2.lstM {S : Store} {Q : VK} {ds : List D} {vs : List V} {p : Addr} (k : K2 K ρ H Q (.loc S.length) (S ++ [.lst ds])) (s : SRel K ρ S H) (r : RelDs K ρ H ds vs) (h : H p = none) : Q (.ref p) (upd H p (.lst vs)) := by
  have x := Ext.alloc (o := .lst vs) s h
  refine k (ρ ++ [p]) _ _ x (s.alloc h ⟨vs, upd_same, RelDs.mono x s.locs _ _ r⟩) ⟨p, rfl, ?_⟩
  rw [← s.len, List.getElem?_append_right (Nat.le_refl _)]
  simp
theorem K2.dct {S : Store} {Q : VK} {ds : List (Key × D)} {r : List (Key × V)} {p : Addr} (k : K2 K ρ H Q (.loc S.length) (S ++ [.dct ds])) (s : SRel K ρ S H) (h1 : RelK K ρ H ds r) (h : H p = none) : Q (.ref p) (upd H p (.dK r)) := by
  have x := Ext.alloc (o := .dK r) s h
  refine k (ρ ++ [p]) _ _ x (s.alloc h ⟨r, upd_same, RelK.mono x s.locs h1⟩) ⟨p, rfl, ?_⟩
  rw [← s.len, List.getElem?_append_right (Nat.le_refl _)]
  simp
/-- a list that is read: fixed, the script, or of the store -/
theorem res_lst {S : Store} {d : D} {xs : List D} {v : V} (s : SRel K ρ S H) (r : RelD K ρ H d v) (e : d.res S = .lst xs) : ∃ a vs, v = .ref a ∧ H a = some (.lst vs) ∧ RelDs K ρ H xs vs := by
  cases d with
  | lst ys =>
    cases e
    obtain ⟨a, vs, rfl, q, _, _, r⟩ := r
    exact ⟨a, vs, rfl, q, r⟩
  | loc n =>
    obtain ⟨a, rfl, q⟩ := r
    obtain ⟨c, e1, e2⟩ := s.cell n a q
    simp only [D.res, e1] at e
    cases c with
    | lst ds =>
      cases e
      obtain ⟨vs, q, r⟩ := e2
      exact ⟨a, vs, rfl, q, r⟩
    | dct kvs => cases e
  | non => cases e
  | bl b => cases e
  | int i => cases e
  | str x => cases e
  | tup ys => cases e
  | ro ys => cases e
/-- where it isn't a list of the store, it is itself -/
theorem res_id {S : Store} {d : D} (h : ∀ xs, d.res S ≠ .lst xs) : d.res S = d := by
  cases d with
  | loc n =>
    unfold D.res at h ⊢
    simp only at h ⊢
    split
    · rename_i xs e
      rw [e] at h
      exact absurd rfl (h xs)
    · rfl
  | _ => rfl
theorem res_rel {S : Store} {d e : D} {v : V} (r : RelD K ρ H d v) (q : d.res S = e) (h : ∀ xs, e ≠ .lst xs) : RelD K ρ H e v := by
  rw [← q, res_id (fun xs => by rw [q]; exact h xs)]; exact r
/-! ### a list that is being made -/
section
variable {F : PySem.W.Frag} {ety : List Addr} {p : Addr}
theorem Keep.hide (h : H p = none) : Keep ⟨F, ety⟩ ρ H ⟨F, p :: ety⟩ ρ (L2.upd H p (.lst [])) where
  eqK := rfl
  at_ := fun _ _ e => e
  lst := fun a vs q n m => by
    have ne : a ≠ p := ne_of_none q h
    exact ⟨by rw [upd_ne ne]; exact q, n, fun z => (List.mem_cons.mp z).elim ne m⟩
  tup := fun a vs q => by
    rcases q with (q | ⟨o, q⟩) | q
    · exact .inl (.inl (by rw [upd_ne (ne_of_none q h)]; exact q))
    · exact .inl (.inr ⟨o, by rw [upd_ne (ne_of_none q h)]; exact q⟩)
    · exact .inr q
  frz := fun a o vs q => by rw [upd_ne (ne_of_none q h)]; exact q
theorem Keep.grow {ws ws' : List V} (h : H p = some (.lst ws)) (hm : p ∈ K.ety) : Keep K ρ H K ρ (L2.upd H p (.lst ws')) where
  eqK := rfl
  at_ := fun _ _ e => e
  lst := fun a vs q n m => by
    have ne : a ≠ p := fun e => m (by rw [e]; exact hm)
    exact ⟨by rw [upd_ne ne]; exact q, n, m⟩
  tup := fun a vs q => by
    rcases q with (q | ⟨o, q⟩) | q
    · exact .inl (.inl (by rw [upd_ne (fun e => by rw [e, h] at q; cases q)]; exact q))
    · exact .inl (.inr ⟨o, by rw [upd_ne (fun e => by rw [e, h] at q; cases q)]; exact q⟩)
    · exact .inr q
  frz := fun a o vs q => by rw [upd_ne (fun e => by rw [e, h] at q; cases q)]; exact q
theorem Keep.unhide : Keep ⟨F, p :: ety⟩ ρ H ⟨F, ety⟩ ρ H where
  eqK := rfl
  at_ := fun _ _ e => e
  lst := fun a vs q n m => ⟨q, n, fun z => m (List.mem_cons_of_mem _ z)⟩
  tup := fun _ _ q => q
  frz := fun _ _ _ q => q
theorem CellOk.keep {K' : Kx} {a : Addr} {c : Cell} (x : Keep K ρ H K' ρ' H') (e : H' a = H a) (h : CellOk K ρ H a c) : CellOk K' ρ' H' a c := by
  cases c with
  | lst ds => obtain ⟨vs, q, r⟩ := h; exact ⟨vs, e.trans q, RelDs.keep x _ _ r⟩
  | dct kvs => obtain ⟨w, q, r⟩ := h; exact ⟨w, e.trans q, RelK.keep x r⟩
theorem SRel.hide {S : Store} (s : SRel ⟨F, ety⟩ ρ S H) (h : H p = none) : SRel ⟨F, p :: ety⟩ ρ S (L2.upd H p (.lst [])) := by
  refine ⟨s.len, s.nd, fun a m => ?_, fun n a e => ?_⟩
  · rcases List.mem_cons.mp m with e | m
    · rw [e]; exact ⟨s.fresh h, [], upd_same⟩
    · obtain ⟨h1, vs, h2⟩ := s.hid a m
      exact ⟨h1, vs, by rw [upd_ne (ne_of_none h2 h)]; exact h2⟩
  · obtain ⟨c, e1, e2⟩ := s.cell n a e
    have ne : a ≠ p := fun q => s.fresh h (by rw [← q]; exact List.mem_of_getElem? e)
    exact ⟨c, e1, e2.keep (Keep.hide h) (upd_ne ne)⟩
theorem SRel.grow {S : Store} {ws ws' : List V} (s : SRel K ρ S H) (h : H p = some (.lst ws)) (hm : p ∈ K.ety) : SRel K ρ S (L2.upd H p (.lst ws')) := by
  refine ⟨s.len, s.nd, fun a m => ?_, fun n a e => ?_⟩
  · obtain ⟨h1, vs, h2⟩ := s.hid a m
    by_cases ea : a = p
    · rw [ea]; exact ⟨(s.hid p hm).1, ws', upd_same⟩
    · exact ⟨h1, vs, by rw [upd_ne ea]; exact h2⟩
  · obtain ⟨c, e1, e2⟩ := s.cell n a e
    have ne : a ≠ p := fun q => (s.hid p hm).1 (by rw [← q]; exact List.mem_of_getElem? e)
    exact ⟨c, e1, e2.keep (Keep.grow h hm) (upd_ne ne)⟩
theorem SRel.unhide {S : Store} (s : SRel ⟨F, p :: ety⟩ ρ S H) : SRel ⟨F, ety⟩ ρ S H :=
  ⟨s.len, s.nd, fun a m => s.hid a (List.mem_cons_of_mem _ m), fun n a e => let ⟨c, e1, e2⟩ := s.cell n a e; ⟨c, e1, e2.keep Keep.unhide rfl⟩⟩
theorem Ext.behind {o : HO} (x : Ext ρ H ρ' H') (h : H p = none) : Ext ρ H ρ' (L2.upd H' p o) :=
  ⟨x.pre, x.new, fun a u q n => by rw [upd_ne (ne_of_none q h)]; exact x.keep a u q n⟩
theorem Rep.keep {K' : Kx} {ε : Sl} {S S' : Store} {σ : St} (r : Rep K ρ ε S σ H) (x : Keep K ρ H K' ρ' H') (s : SRel K' ρ' S' H') : Rep K' ρ' ε S' σ H' :=
  ⟨s, r.len, fun i d e => let ⟨v, e1, e2⟩ := r.var i d e; ⟨v, e1, RelD.keep x d v e2⟩⟩
end
end OW
end
section
set_option Elab.async false
set_option linter.all false
set_option autoImplicit false
set_option maxRecDepth 100000
set_option maxHeartbeats 4000000
/-! OwD: the operators on plain data are the machine's. -/
namespace OW
open PySem L2

section
variable {K : Kx} {ρ : List Addr} {H : Hp} {S : Store} {d e : D} {v : V}
theorem rel_int {i : Int} (r : RelD K ρ H d v) (q : d.res S = .int i) : v = .int i := res_rel r q (fun _ h => by cases h)
theorem rel_str {x : Str} (r : RelD K ρ H d v) (q : d.res S = .str x) : v = .str x := res_rel r q (fun _ h => by cases h)
theorem rel_tup {xs : List D} (r : RelD K ρ H d v) (q : d.res S = .tup xs) : ∃ a vs, v = .ref a ∧ SqT K.K H a vs ∧ RelDs K ρ H xs vs := res_rel r q (fun _ h => by cases h)
theorem cut_rel {xs : List D} {vs : List V} (r : RelDs K ρ H xs vs) (lo hi : Option Int) : RelDs K ρ H (cut xs lo hi) (cutV vs lo hi) := by
  have e := r.length
  unfold cut cutV
  rw [e]
  exact (r.drop _).take _
end

/-- a two-place operation on plain data -/
def rD (K : PySem.W.Frag) (f : D → D → Store → Res D) : R2 := fun x y H Q => ∃ ety ρ S a b, SRel ⟨K, ety⟩ ρ S H ∧ RelD ⟨K, ety⟩ ρ H a x ∧ RelD ⟨K, ety⟩ ρ H b y ∧ (f a b S).good (K2 ⟨K, ety⟩ ρ H Q)
section
variable {X : Cx}
theorem rep_acc (l : List Nat) : ∀ (n : Nat) (acc : Array Nat), (List.replicate n l.toArray).foldl (· ++ ·) acc = acc ++ ((List.replicate n l).flatten).toArray
  | 0, acc => by simp
  | n + 1, acc => by
    rw [List.replicate_succ, List.foldl_cons, rep_acc l n, List.replicate_succ, List.flatten_cons]
    simp
theorem repS_eq (x : Str) (n : Nat) : (⟨(List.replicate n x.cps).foldl (· ++ ·) #[]⟩ : Str) = repS x n := by
  have := rep_acc x.cps.toList n #[]
  simp only [Array.toArray_toList] at this
  rw [this]
  simp [repS]
theorem repS_one (x : Str) : repS x 1 = x := by simp [repS]
theorem repS_empty {x : Str} (h : x.length = 0) (n : Nat) : repS x n = x := by
  have e : x.cps = #[] := by
    have : x.cps.size = 0 := h
    exact Array.eq_empty_of_size_eq_zero this
  unfold repS
  rw [e]
  cases x
  simp only at e
  subst e
  simp
theorem repS_len (x : Str) (n : Nat) : (repS x n).length = n * x.length := by
  show ((List.replicate n x.cps.toList).flatten).toArray.size = n * x.cps.size
  simp
theorem mul_str_small {prog : Program} {w : World} {A : Around} {E : Value → Shared → Prop} {s : Shared} {x : Str} {k : Int} {t u : Tok} {Q : Value → Shared → Prop} (h0 : 0 ≤ k) (h1 : k ≤ 1000) (hx : x.length ≤ 1000)
    (h : ∀ t' tk, Q (.str (repS x k.toNat) t') { s with toks := tk }) : wpAny (model prog w) A (binaryOp .Mult (.str x t) (.int k u)) Q E s := by
  by_cases hk : k < 1
  · have e : k = 0 := by omega
    subst e
    exact PySem.P.mul_str_none hk (by omega) (h _ _)
  · have hm : x.length * k.toNat ≤ 1000 * 1000 := Nat.mul_le_mul hx (by omega)
    have hz : x.length * k.toNat ≤ sizeLine := Nat.le_trans hm (by rw [sizeLine_eq]; decide)
    refine PySem.P.mul_str (by rw [decide_eq_false (by omega), decide_eq_false (by omega)]; rfl) (fun _ _ => ?_) (fun _ _ => ?_) ?_
    · have : (1000 : Int) ≤ (2 ^ 63 - 1) / k := (Int.le_ediv_iff_mul_le (by omega)).mpr (by omega)
      omega
    · simpa [Builtin.Str.tooLong] using hz
    · rw [if_neg hk]
      split
      · rename_i hc
        have e : repS x k.toNat = x := by
          simp only [Bool.or_eq_true, beq_iff_eq] at hc
          rcases hc with hc | hc
          · rw [hc]; exact repS_one x
          · exact repS_empty hc _
        have := h t s.toks
        rw [e] at this
        exact this
      · rw [repS_eq]
        exact ⟨by rw [repS_len, Nat.mul_comm]; exact hz, h _ _⟩
theorem op_bin (op : Operator) : OpR X (binaryOp op) (rD X.K (binD op)) := by
  intro pins s σ H x y v u Q I rx ry ⟨ety, ρ, S, a, b, st, ra, rb, g⟩
  cases op with
  | Add =>
    unfold binD at g
    simp only at g
    split at g
    · rename_i i j ea eb
      exact op_add pins s σ H x y v u Q I rx ry ⟨i, j, rel_int ra ea, rel_int rb eb, g.here st rfl⟩
    · rename_i i j ea eb
      by_cases hz : i.length + j.length ≤ sizeLine
      · rw [decide_eq_true hz] at g
        exact op_add_str pins s σ H x y v u Q I rx ry ⟨i, j, rel_str ra ea, rel_str rb eb, hz, g.here st rfl⟩
      · rw [decide_eq_false hz] at g; exact g.elim
    · rename_i xs ys ea eb
      by_cases hz : xs.length + ys.length ≤ sizeLine
      · rw [decide_eq_true hz] at g
        obtain ⟨p, vs, rfl, q1, r1⟩ := rel_tup ra ea
        obtain ⟨p', ws, rfl, q2, r2⟩ := rel_tup rb eb
        refine op_catA pins s σ H _ _ v u Q I rx ry ⟨p, p', vs, ws, rfl, rfl, q1, q2, by rw [← r1.length, ← r2.length]; exact hz, fun e => ?_, fun _ e => ?_, fun _ _ z hz => ?_⟩
        · subst e
          refine g.here st ⟨p', ws, rfl, q2, ?_⟩
          simpa using RelDs.append r1 r2
        · subst e
          refine g.here st ⟨p, vs, rfl, q1, ?_⟩
          simpa using RelDs.append r1 r2
        · exact g.tup st (RelDs.append r1 r2) hz
      · rw [decide_eq_false hz] at g; exact g.elim
    · rename_i xs ys ea eb
      by_cases hz : xs.length + ys.length ≤ sizeLine
      · rw [decide_eq_true hz] at g
        obtain ⟨p, vs, rfl, q1, r1⟩ := res_lst st ra ea
        obtain ⟨p', ws, rfl, q2, r2⟩ := res_lst st rb eb
        exact op_cat pins s σ H _ _ v u Q I rx ry ⟨p, p', vs, ws, rfl, rfl, q1, q2, by rw [← r1.length, ← r2.length]; exact hz, fun z hz => g.lst st (RelDs.append r1 r2) hz⟩
      · rw [decide_eq_false hz] at g; exact g.elim
    · exact g.elim
  | Sub =>
    unfold binD at g
    simp only at g
    split at g
    · exact op_sub pins s σ H x y v u Q I rx ry ⟨_, _, ra, rb, g.here st rfl⟩
    · exact g.elim
  | Mult =>
    unfold binD at g
    simp only at g
    split at g
    · rename_i i j ea
      by_cases hz : (decide (-(2 ^ 64) < i ∧ i < 2 ^ 64) || decide (-(2 ^ 64) < j ∧ j < 2 ^ 64)) = true
      · rw [hz] at g
        refine op_mul pins s σ H x y v u Q I rx ry ⟨i, j, rel_int ra ea, rb, ?_, g.here st rfl⟩
        simp only [Bool.or_eq_true, decide_eq_true_eq] at hz
        exact hz
      · rw [Bool.eq_false_iff.mpr hz] at g; exact g.elim
    · rename_i z k ea
      by_cases hz : 0 ≤ k ∧ k ≤ 1000 ∧ z.length ≤ 1000
      · rw [decide_eq_true hz] at g
        obtain rfl := rel_str ra ea
        obtain rfl : y = .int k := rb
        obtain ⟨t, rfl⟩ := rx
        obtain ⟨t', rfl⟩ := ry
        exact mul_str_small hz.1 hz.2.1 hz.2.2 fun t' tk => ⟨.str _, H, I.tok _, ⟨_, rfl⟩, g.here st rfl⟩
      · rw [decide_eq_false hz] at g; exact g.elim
    · rename_i xs k ea
      by_cases hz : 2 ≤ k ∧ k ≤ 1000 ∧ 0 < xs.length ∧ xs.length ≤ 1000
      · rw [decide_eq_true hz] at g
        obtain ⟨p, vs, rfl, q1, r1⟩ := rel_tup ra ea
        have hl := r1.length
        refine op_repT pins s σ H _ y v u Q I rx ry ⟨p, k, vs, rfl, rb, q1, fun e => ?_, hz.1, hz.2.1, by omega, fun z hz => g.tup st (r1.rep _) hz⟩
        rw [e] at hl
        simp at hl
        have := hz.2.2.1
        rw [hl] at this
        exact absurd this (by simp)
      · rw [decide_eq_false hz] at g; exact g.elim
    · rename_i xs k ea
      by_cases hz : 0 ≤ k ∧ k ≤ 1000 ∧ xs.length ≤ 1000
      · rw [decide_eq_true hz] at g
        obtain ⟨p, vs, rfl, q1, r1⟩ := res_lst st ra ea
        have hl := r1.length
        refine op_rep pins s σ H _ y v u Q I rx ry ⟨p, k, vs, rfl, rb, q1, by omega, by omega, ?_, fun z hz => g.lst st (r1.rep _) hz⟩
        have h1 : k.toNat ≤ 1000 := by omega
        calc vs.length * k.toNat ≤ 1000 * 1000 := Nat.mul_le_mul (by omega) h1
          _ ≤ sizeLine := by rw [sizeLine_eq]; decide
      · rw [decide_eq_false hz] at g; exact g.elim
    · exact g.elim
  | FloorDiv =>
    unfold binD at g
    simp only at g
    split at g
    · rename_i i j
      by_cases hz : 0 < j ∧ j < 1073741824
      · rw [decide_eq_true hz] at g
        exact op_fdiv pins s σ H x y v u Q I rx ry ⟨i, j, ra, rb, hz, g.here st rfl⟩
      · rw [decide_eq_false hz] at g; exact g.elim
    · exact g.elim
  | Mod =>
    unfold binD at g
    simp only at g
    split at g
    · rename_i i j
      by_cases hz : 0 < j
      · rw [decide_eq_true hz] at g
        exact op_mod pins s σ H x y v u Q I rx ry ⟨i, j, ra, rb, hz, g.here st rfl⟩
      · rw [decide_eq_false hz] at g; exact g.elim
    · exact g.elim
  | Pow =>
    unfold binD at g
    simp only at g
    split at g
    · rename_i i j
      by_cases hz : 0 ≤ j ∧ j ≤ 1000 ∧ i.natAbs < 2 ^ 64
      · rw [decide_eq_true hz] at g
        exact op_pow pins s σ H x y v u Q I rx ry ⟨i, j, ra, rb, ⟨hz.1, by omega, hz.2.2⟩, g.here st rfl⟩
      · rw [decide_eq_false hz] at g; exact g.elim
    · exact g.elim
  | _ => exact g.elim
end
end OW
end
section
set_option Elab.async false
set_option linter.all false
set_option autoImplicit false
set_option maxRecDepth 100000
set_option maxHeartbeats 4000000
/-! OwE: comparisons on plain data are the machine's. -/
namespace OW
open PySem L2

section
variable {K : Kx} {ρ : List Addr} {H : Hp}
mutual
theorem dp_of : ∀ (d : D) (v : V), d.flat = true → RelD K ρ H d v → Dp K.K H v d.py
  | .non, _, _, r => by rw [show _ = _ from r]; exact .non
  | .bl b, _, _, r => by rw [show _ = _ from r]; exact .bl b
  | .int i, _, _, r => by rw [show _ = _ from r]; exact .int i
  | .str x, _, _, r => by rw [show _ = _ from r]; exact .str x
  | .tup ds, _, f, r => by
    obtain ⟨a, vs, rfl, q, r⟩ := r
    exact .tup q (dps_of ds vs f r)
  | .lst ds, _, f, r => by
    obtain ⟨a, vs, rfl, q, _, _, r⟩ := r
    exact .lst (SqL.of q) (dps_of ds vs f r)
  | .ro _, _, f, _ => by cases f
  | .loc _, _, f, _ => by cases f
theorem dps_of : ∀ (ds : List D) (vs : List V), D.flatL ds = true → RelDs K ρ H ds vs → DpAll K.K H vs (D.pyL ds)
  | [], _, _, r => by rw [show _ = _ from r]; exact .nil
  | d :: ds, _, f, r => by
    obtain ⟨v, vs, rfl, r1, r2⟩ := r
    have f' : d.flat = true ∧ D.flatL ds = true := by simpa [D.flatL] using f
    exact .cons (dp_of d v f'.1 r1) (dps_of ds vs f'.2 r2)
end
/-- what is read, too -/
theorem dp_res {S : Store} {d : D} {v : V} (s : SRel K ρ S H) (f : (d.res S).flat = true) (r : RelD K ρ H d v) : Dp K.K H v (d.res S).py := by
  cases e : d.res S with
  | lst xs =>
    obtain ⟨a, vs, rfl, q, r⟩ := res_lst s r e
    rw [e] at f
    exact .lst (SqL.of q) (dps_of xs vs f r)
  | _ =>
    have r' := res_rel (S := S) r e (fun xs h => by cases h)
    rw [e] at f
    exact dp_of _ v f r'
theorem eqOk_parts {a b : D} (h : eqOk a b = true) : a.flat = true ∧ b.flat = true ∧ SeqAt.shaped a.py = true ∧ SeqAt.shaped b.py = true := by
  unfold eqOk at h
  simp only [Bool.and_eq_true] at h
  exact ⟨h.1.1.1, h.1.1.2, h.1.2, h.2⟩
end

section
variable {X : Cx}
theorem need_good {c : Bool} {α : Type} {r : Res α} {Q : α → Store → Prop} (h : (need c r).good Q) : c = true ∧ r.good Q := by
  cases c with
  | true => exact ⟨rfl, h⟩
  | false => exact h.elim
theorem op_cmp (hu : X.A.units + 100 < cLine) (op : CmpOp) : OpR X (compareOp op) (rD X.K (cmpD op)) := by
  intro pins s σ H x y v u Q I rx ry ⟨ety, ρ, S, a, b, st, ra, rb, g⟩
  cases op with
  | Eq =>
    obtain ⟨c, S1, e, g⟩ := Res.good_iff.mp (Res.good_andThen.mp g)
    unfold eqD at e
    by_cases hc : eqOk (a.res S) (b.res S) = true
    · rw [hc, need_true] at e
      cases e
      obtain ⟨f1, f2, s1, s2⟩ := eqOk_parts hc
      exact op_eqD (by omega) pins s σ H x y v u Q I rx ry ⟨_, _, dp_res st f1 ra, dp_res st f2 rb, s1, s2, g.here st rfl⟩
    · rw [Bool.eq_false_iff.mpr hc] at e; cases e
  | NotEq =>
    obtain ⟨c, S1, e, g⟩ := Res.good_iff.mp (Res.good_andThen.mp g)
    unfold eqD at e
    by_cases hc : eqOk (a.res S) (b.res S) = true
    · rw [hc, need_true] at e
      cases e
      obtain ⟨f1, f2, s1, s2⟩ := eqOk_parts hc
      exact op_neD (by omega) pins s σ H x y v u Q I rx ry ⟨_, _, dp_res st f1 ra, dp_res st f2 rb, s1, s2, g.here st rfl⟩
    · rw [Bool.eq_false_iff.mpr hc] at e; cases e
  | Lt =>
    obtain ⟨c, S1, e, g⟩ := Res.good_iff.mp (Res.good_andThen.mp g)
    unfold ltD at e
    split at e
    · cases e
      exact op_lt pins s σ H x y v u Q I rx ry ⟨_, _, ra, rb, g.here st rfl⟩
    · cases e
      exact op_lt_str pins s σ H x y v u Q I rx ry ⟨_, _, ra, rb, g.here st rfl⟩
    · rename_i xs ys
      by_cases hc : ltOk (.tup xs) (.tup ys) = true
      · rw [hc, need_true] at e
        cases e
        unfold ltOk at hc
        simp only [Bool.and_eq_true, decide_eq_true_eq] at hc
        obtain ⟨⟨⟨⟨f1, f2⟩, al⟩, d1⟩, d2⟩ := hc
        obtain ⟨as, r1⟩ := Dp.reads I _ x v (dp_of _ x f1 ra) rx
        obtain ⟨bs, r2⟩ := Dp.reads I _ y u (dp_of _ y f2 rb) ry
        have hm : min (D.tup xs).py.depth (D.tup ys).py.depth ≤ 64 := Nat.le_trans (Nat.min_le_left _ _) d1
        exact PySem.W.rcLt_alike _ _ X.A s v u as bs r1 r2 al (fun h => by cases h) (by omega) X.prog X.w _ _ ⟨.bl _, H, I, rfl, g.here st rfl⟩
      · rw [Bool.eq_false_iff.mpr hc] at e; cases e
    · cases e
  | Gt =>
    unfold cmpD at g
    simp only at g
    split at g
    · exact op_gt pins s σ H x y v u Q I rx ry ⟨_, _, ra, rb, g.here st rfl⟩
    · exact g.elim
  | LtE =>
    unfold cmpD at g
    simp only at g
    split at g
    · exact op_le pins s σ H x y v u Q I rx ry ⟨_, _, ra, rb, g.here st rfl⟩
    · exact g.elim
  | GtE =>
    unfold cmpD at g
    simp only at g
    split at g
    · exact op_ge pins s σ H x y v u Q I rx ry ⟨_, _, ra, rb, g.here st rfl⟩
    · exact g.elim
  | Is =>
    unfold cmpD at g
    simp only at g
    split at g
    · refine op_isN pins s σ H x y v u Q I rx ry ⟨rb, g.here st ?_⟩
      cases a with
      | non => rw [show x = _ from ra]; rfl
      | bl b => rw [show x = _ from ra]; rfl
      | int i => rw [show x = _ from ra]; rfl
      | str z => rw [show x = _ from ra]; rfl
      | tup xs => obtain ⟨_, _, rfl, _⟩ := ra; rfl
      | lst xs => obtain ⟨_, _, rfl, _⟩ := ra; rfl
      | ro xs => obtain ⟨_, _, rfl, _⟩ := ra; rfl
      | loc n => obtain ⟨_, rfl, _⟩ := ra; rfl
    · exact g.elim
  | IsNot =>
    unfold cmpD at g
    simp only at g
    split at g
    · refine op_notN pins s σ H x y v u Q I rx ry ⟨rb, g.here st ?_⟩
      cases a with
      | non => rw [show x = _ from ra]; rfl
      | bl b => rw [show x = _ from ra]; rfl
      | int i => rw [show x = _ from ra]; rfl
      | str z => rw [show x = _ from ra]; rfl
      | tup xs => obtain ⟨_, _, rfl, _⟩ := ra; rfl
      | lst xs => obtain ⟨_, _, rfl, _⟩ := ra; rfl
      | ro xs => obtain ⟨_, _, rfl, _⟩ := ra; rfl
      | loc n => obtain ⟨_, rfl, _⟩ := ra; rfl
    · exact g.elim
  | In =>
    obtain ⟨c, S1, e, g⟩ := Res.good_iff.mp (Res.good_andThen.mp g)
    unfold inD at e
    split at e
    · rename_i z w ea eb
      cases e
      exact op_in_str pins s σ H x y v u Q I rx ry ⟨z, w, rel_str ra ea, rel_str rb eb, g.here st rfl⟩
    · rename_i ys eb
      by_cases hc : eqOk (a.res S) (.tup ys) = true
      · rw [hc, need_true] at e
        cases e
        obtain ⟨f1, f2, s1, s2⟩ := eqOk_parts hc
        obtain ⟨as, r1⟩ := Dp.reads I _ x v (dp_res st f1 ra) rx
        obtain ⟨bs, r2⟩ := Dp.reads I _ y u (dp_of (.tup ys) y f2 (res_rel rb eb (fun _ h => by cases h))) ry
        refine SeqAt.in_tuple_reads r2 r1 (SeqAt.canLay_of_shaped s2) (SeqAt.canLay_of_shaped s1) (PyProof.Rows.room_in_shaped s1 (by omega)) ⟨.bl _, H, I, rfl, ?_⟩
        have := g.here st (v := .bl (ys.any fun z => PyData.eqv z.py (a.res S).py)) rfl
        rw [D.pyL_map, List.any_map]
        exact this
      · rw [Bool.eq_false_iff.mpr hc] at e; cases e
    · rename_i ys eb
      by_cases hc : eqOk (a.res S) (.lst ys) = true
      · rw [hc, need_true] at e
        cases e
        obtain ⟨f1, f2, s1, s2⟩ := eqOk_parts hc
        have f2' : (b.res S).flat = true := by rw [eb]; exact f2
        have hd := dp_res st f2' rb
        rw [eb] at hd
        refine op_inD (by omega) pins s σ H x y v u Q I rx ry ⟨_, _, dp_res st f1 ra, hd, s1, s2, ?_⟩
        have := g.here st (v := .bl (ys.any fun z => PyData.eqv z.py (a.res S).py)) rfl
        rw [D.pyL_map, List.any_map]
        exact this
      · rw [Bool.eq_false_iff.mpr hc] at e; cases e
    · cases e
  | NotIn =>
    obtain ⟨c, S1, e, g⟩ := Res.good_iff.mp (Res.good_andThen.mp g)
    unfold inD at e
    split at e
    · rename_i z w ea eb
      cases e
      exact op_notin_str pins s σ H x y v u Q I rx ry ⟨z, w, rel_str ra ea, rel_str rb eb, g.here st rfl⟩
    · rename_i ys eb
      by_cases hc : eqOk (a.res S) (.tup ys) = true
      · rw [hc, need_true] at e
        cases e
        obtain ⟨f1, f2, s1, s2⟩ := eqOk_parts hc
        obtain ⟨as, r1⟩ := Dp.reads I _ x v (dp_res st f1 ra) rx
        obtain ⟨bs, r2⟩ := Dp.reads I _ y u (dp_of (.tup ys) y f2 (res_rel rb eb (fun _ h => by cases h))) ry
        refine SeqAt.notIn_tuple_reads r2 r1 (SeqAt.canLay_of_shaped s2) (SeqAt.canLay_of_shaped s1) (PyProof.Rows.room_in_shaped s1 (by omega)) ⟨.bl _, H, I, rfl, ?_⟩
        have := g.here st (v := .bl (!(ys.any fun z => PyData.eqv z.py (a.res S).py))) rfl
        rw [D.pyL_map, List.any_map]
        exact this
      · rw [Bool.eq_false_iff.mpr hc] at e; cases e
    · rename_i ys eb
      by_cases hc : eqOk (a.res S) (.lst ys) = true
      · rw [hc, need_true] at e
        cases e
        obtain ⟨f1, f2, s1, s2⟩ := eqOk_parts hc
        have f2' : (b.res S).flat = true := by rw [eb]; exact f2
        have hd := dp_res st f2' rb
        rw [eb] at hd
        refine op_notInD (by omega) pins s σ H x y v u Q I rx ry ⟨_, _, dp_res st f1 ra, hd, s1, s2, ?_⟩
        have := g.here st (v := .bl (!(ys.any fun z => PyData.eqv z.py (a.res S).py))) rfl
        rw [D.pyL_map, List.any_map]
        exact this
      · rw [Bool.eq_false_iff.mpr hc] at e; cases e
    · cases e
end
end OW
end
section
set_option Elab.async false
set_option linter.all false
set_option autoImplicit false
set_option maxRecDepth 100000
set_option maxHeartbeats 4000000
/-! OwF: the meaning of a term as a reading of the layer; expressions one by one. -/
namespace OW
open PySem L2

/-- the reading that a term's meaning is -/
def tE (K : PySem.W.Frag) (F : Fns) (t : T) : TE := fun σ H Q => ∃ ety ρ ε S, Rep ⟨K, ety⟩ ρ ε S σ H ∧ (denE F t ε S).good (K2 ⟨K, ety⟩ ρ H Q)
def tAs (K : PySem.W.Frag) (F : Fns) (ts : List T) : TA := fun σ H Q => ∃ ety ρ ε S, Rep ⟨K, ety⟩ ρ ε S σ H ∧ (denA F ts ε S).good (K2s ⟨K, ety⟩ ρ H Q)
def K2b (K : Kx) (ρ : List Addr) (H : Hp) (Q : Bool → Hp → Prop) : Bool → Store → Prop := fun c S' => ∀ ρ' H', Ext ρ H ρ' H' → SRel K ρ' S' H' → Q c H'
/-- a test -/
def denT (F : Fns) (t : T) (ε : Sl) (S : Store) : Res Bool := (denE F t ε S).andThen fun d S1 => truD S1 d
def tT (K : PySem.W.Frag) (F : Fns) (t : T) : TT := fun σ H Q => ∃ ety ρ ε S, Rep ⟨K, ety⟩ ρ ε S σ H ∧ (denT F t ε S).good (K2b ⟨K, ety⟩ ρ H Q)

theorem PE.imp {X : Cx} {e : Expr} {t t' : TE} (h : PE X e t) (k : ∀ σ H Q, t' σ H Q → t σ H Q) : PE X e t' := ⟨fun pins s σ H Q I q => h.run pins s σ H Q I (k σ H Q q)⟩
theorem PT.imp {X : Cx} {e : Expr} {t t' : TT} (h : PT X e t) (k : ∀ σ H Q, t' σ H Q → t σ H Q) : PT X e t' := ⟨fun pins s σ H Q I q => h.run pins s σ H Q I (k σ H Q q)⟩
theorem PA.imp {X : Cx} {e : List Expr} {t t' : TA} (h : PA X e t) (k : ∀ σ H Q, t' σ H Q → t σ H Q) : PA X e t' := ⟨fun pos pins s σ H Q I q => h.run pos pins s σ H Q I (k σ H Q q)⟩

section
variable {K : Kx} {F : Fns} {ρ ρ' : List Addr} {ε : Sl} {S S1 S2 S3 : Store} {σ : St} {H H' : Hp} {a b c : D} {ta tb tc : T}
theorem K2.ext {Q : VK} {d : D} (k : K2 K ρ H Q d S) (x : Ext ρ H ρ' H') : K2 K ρ' H' Q d S := fun ρ2 v H2 y s r => k ρ2 v H2 (x.trans y) s r
theorem K2.good {Q : VK} {r : Res D} (k : r.good (K2 K ρ H Q)) (x : Ext ρ H ρ' H') : r.good (K2 K ρ' H' Q) := Res.good_mono k fun _ _ k => K2.ext k x
theorem tE1 {R : V → Hp → Prop} (rep : Rep K ρ ε S σ H) (ea : denE F ta ε S = .ok a S1)
    (h : ∀ ρ1 H1 x, Ext ρ H ρ1 H1 → SRel K ρ1 S1 H1 → RelD K ρ1 H1 a x → R x H1) : tE K.K F ta σ H R :=
  ⟨K.ety, ρ, ε, S, rep, by rw [ea]; exact fun ρ1 x H1 x1 s1 r1 => h ρ1 H1 x x1 s1 r1⟩
theorem tE2 {R : V → V → Hp → Prop} (rep : Rep K ρ ε S σ H) (ea : denE F ta ε S = .ok a S1) (eb : denE F tb ε S1 = .ok b S2)
    (h : ∀ ρ2 H2 x y, Ext ρ H ρ2 H2 → SRel K ρ2 S2 H2 → RelD K ρ2 H2 a x → RelD K ρ2 H2 b y → R x y H2) : tE K.K F ta σ H fun x H1 => tE K.K F tb σ H1 fun y H2 => R x y H2 :=
  tE1 rep ea fun ρ1 H1 x x1 s1 r1 => tE1 (rep.step x1 s1) eb fun ρ2 H2 y x2 s2 r2 => h ρ2 H2 x y (x1.trans x2) s2 (RelD.mono x2 s1.locs _ _ r1) r2
theorem tE3 {R : V → V → V → Hp → Prop} (rep : Rep K ρ ε S σ H) (ea : denE F ta ε S = .ok a S1) (eb : denE F tb ε S1 = .ok b S2) (ec : denE F tc ε S2 = .ok c S3)
    (h : ∀ ρ3 H3 x y z, Ext ρ H ρ3 H3 → SRel K ρ3 S3 H3 → RelD K ρ3 H3 a x → RelD K ρ3 H3 b y → RelD K ρ3 H3 c z → R x y z H3) : tE K.K F ta σ H fun x H1 => tE K.K F tb σ H1 fun y H2 => tE K.K F tc σ H2 fun z H3 => R x y z H3 :=
  tE2 rep ea eb fun ρ2 H2 x y x2 s2 r1 r2 => tE1 (rep.step x2 s2) ec fun ρ3 H3 z x3 s3 r3 => h ρ3 H3 x y z (x2.trans x3) s3 (RelD.mono x3 s2.locs _ _ r1) (RelD.mono x3 s2.locs _ _ r2) r3
theorem app1 {p : Prim} {Q : D → Store → Prop} (h : (denE F (.app p [ta]) ε S).good Q) : ∃ a S1, denE F ta ε S = .ok a S1 ∧ (primD p [a] S1).good Q := by
  simp only [denE, denA, Res.good_andThen] at h
  obtain ⟨a, S1, e, h⟩ := Res.good_iff.mp h
  exact ⟨a, S1, e, h⟩
theorem app2 {p : Prim} {Q : D → Store → Prop} (h : (denE F (.app p [ta, tb]) ε S).good Q) : ∃ a S1 b S2, denE F ta ε S = .ok a S1 ∧ denE F tb ε S1 = .ok b S2 ∧ (primD p [a, b] S2).good Q := by
  simp only [denE, denA, Res.good_andThen] at h
  obtain ⟨a, S1, e, h⟩ := Res.good_iff.mp h
  obtain ⟨b, S2, e', h⟩ := Res.good_iff.mp h
  exact ⟨a, S1, b, S2, e, e', h⟩
theorem app3 {p : Prim} {Q : D → Store → Prop} (h : (denE F (.app p [ta, tb, tc]) ε S).good Q) : ∃ a S1 b S2 c S3, denE F ta ε S = .ok a S1 ∧ denE F tb ε S1 = .ok b S2 ∧ denE F tc ε S2 = .ok c S3 ∧ (primD p [a, b, c] S3).good Q := by
  simp only [denE, denA, Res.good_andThen] at h
  obtain ⟨a, S1, e, h⟩ := Res.good_iff.mp h
  obtain ⟨b, S2, e', h⟩ := Res.good_iff.mp h
  obtain ⟨c, S3, e'', h⟩ := Res.good_iff.mp h
  exact ⟨a, S1, b, S2, c, S3, e, e', e'', h⟩
end

section
variable {X : Cx} {F : Fns} {e a b c o i : Expr} {es : List Expr} {ta tb tc to ti : T} {ts : List T} {pos : Pos}
abbrev EX (X : Cx) (F : Fns) (e : Expr) (t : T) : Prop := PE X e (tE X.K F t)
abbrev TX (X : Cx) (F : Fns) (e : Expr) (t : T) : Prop := PT X e (tT X.K F t)

theorem ex_var {j : Nat} {x : Str} (hN : X.N[j]? = some x) (hv : Vis X.env.scope x) (hd : (x == ("__debug__" : Str)) = false) (hcd : (x == ("__classdict__" : Str)) = false) : EX X F (.Name x pos) (.var j) := by
  refine PE.imp (pe_var hN hv hd hcd) fun σ H Q ⟨ety, ρ, ε, S, rep, g⟩ => ?_
  simp only [denE] at g
  split at g
  · rename_i d ed
    obtain ⟨v, e1, e2⟩ := rep.var j d ed
    exact ⟨v, e1, g.here rep.st e2⟩
  · exact g.elim
theorem ex_const {k : Const} {n : Nat} {d : D} (h : constD k = some d) : EX X F (.Constant k n pos) (.cst d) := by
  cases k with
  | none => cases h; exact PE.imp pe_non fun σ H Q ⟨ety, ρ, ε, S, rep, g⟩ => g.here rep.st rfl
  | bool b => cases h; exact PE.imp pe_bl fun σ H Q ⟨ety, ρ, ε, S, rep, g⟩ => g.here rep.st rfl
  | int b => cases h; exact PE.imp pe_int fun σ H Q ⟨ety, ρ, ε, S, rep, g⟩ => g.here rep.st rfl
  | str b => cases h; exact PE.imp pe_str fun σ H Q ⟨ety, ρ, ε, S, rep, g⟩ => g.here rep.st rfl
  | _ => cases h
/-- a constant of the module: whatever is tracked -/
def GlobD (K : PySem.W.Frag) (d : D) (u : Value) : Prop := ∃ v, RelV v u ∧ ∀ ety ρ H, RelD ⟨K, ety⟩ ρ H d v
theorem ex_glob {x : Str} {d : D} {u : Value} (hg : Gl X x) (hm : X.mg x = some u) (gd : GlobD X.K d u) (hd : (x == ("__debug__" : Str)) = false) : EX X F (.Name x pos) (.cst d) := by
  obtain ⟨v, rv, rd⟩ := gd
  exact PE.imp (pe_glob hg hm rv hd) fun σ H Q ⟨ety, ρ, ε, S, rep, g⟩ => g.here rep.st (rd ety ρ H)
theorem ex_bin {op : Operator} (ha : EX X F a ta) (hb : EX X F b tb) : EX X F (.BinOp a op b pos) (.app (.bin op) [ta, tb]) := by
  refine PE.imp (pe_op (op_bin op) ha hb) fun σ H Q ⟨ety, ρ, ε, S, rep, g⟩ => ?_
  obtain ⟨x, S1, y, S2, e1, e2, g⟩ := app2 g
  exact tE2 rep e1 e2 fun ρ2 H2 v w x2 s2 r1 r2 => ⟨ety, ρ2, S2, x, y, s2, r1, r2, K2.good g x2⟩
theorem ex_neg (ha : EX X F a ta) : EX X F (.UnaryOp .USub a pos) (.app .neg [ta]) := by
  refine PE.imp (pe_un un_neg ha) fun σ H Q ⟨ety, ρ, ε, S, rep, g⟩ => ?_
  obtain ⟨x, S1, e1, g⟩ := app1 g
  refine tE1 rep e1 fun ρ1 H1 v x1 s1 r1 => ?_
  simp only [primD] at g
  split at g
  · rename_i q
    cases q
    exact ⟨_, r1, (K2.ext g x1).here s1 rfl⟩
  · exact g.elim

/-! ### truth -/
theorem truD_same {S S' : Store} {d : D} {c : Bool} (h : truD S d = .ok c S') : S' = S := by
  unfold truD at h
  split at h
  · cases h; rfl
  · cases h; rfl
  · cases h; rfl
  · by_cases q : (decide ((by assumption : Str).length ≤ sizeLine)) = true
    · simp only [need, q, if_true] at h; cases h; rfl
    · simp only [need, Bool.eq_false_iff.mpr q] at h; cases h
  · cases h; rfl
  · cases h; rfl
  · cases h; rfl
  · split at h
    · cases h; rfl
    · cases h; rfl
    · cases h
theorem tru_rel {K : Kx} {ρ : List Addr} {S S' : Store} {H : Hp} {d : D} {v : V} {k : Bool} (s : SRel K ρ S H) (r : RelD K ρ H d v) (h : truD S d = .ok k S') : TruV K.K v H k := by
  have iso : ∀ {xs : List D} {vs : List V}, RelDs K ρ H xs vs → (!xs.isEmpty) = !vs.isEmpty := fun {xs vs} r => by
    have := r.length
    cases xs <;> cases vs <;> simp_all
  cases d with
  | non => rw [show v = _ from r]; cases h; rfl
  | bl b => rw [show v = _ from r]; cases h; rfl
  | int b => rw [show v = _ from r]; cases h; rfl
  | str x =>
    rw [show v = _ from r]
    by_cases q : x.length ≤ sizeLine
    · simp only [truD, decide_eq_true q, need_true] at h
      cases h
      exact ⟨q, by rw [Bool.eq_iff_iff]; simp⟩
    · simp only [truD, decide_eq_false q, need_false] at h
      cases h
  | tup xs =>
    obtain ⟨a, vs, rfl, q, r⟩ := r
    cases h
    exact .inr (.inl ⟨vs, q, iso r⟩)
  | lst xs =>
    obtain ⟨a, vs, rfl, q, _, _, r⟩ := r
    cases h
    exact .inl ⟨vs, SqL.of q, iso r⟩
  | ro xs =>
    obtain ⟨a, vs, rfl, q, r⟩ := r
    cases h
    refine .inl ⟨vs, ?_, iso r⟩
    rcases q with ⟨o, q⟩ | q
    · exact .inl (.inr ⟨o, q⟩)
    · exact .inr q
  | loc n =>
    obtain ⟨a, rfl, q⟩ := r
    obtain ⟨c, e1, e2⟩ := s.cell n a q
    simp only [truD, e1] at h
    cases c with
    | lst xs =>
      obtain ⟨vs, q, r⟩ := e2
      cases h
      exact .inl ⟨vs, SqL.of q, iso r⟩
    | dct kvs =>
      obtain ⟨w, q, r⟩ := e2
      cases h
      have hl := r.length
      refine .inr (.inr ⟨w, q, ?_⟩)
      cases kvs <;> cases w <;> simp_all
theorem Res.eq_of {α β : Type} {r : Res α} {k : α → Store → Res β} {b : β} {S : Store} (h : r.andThen k = .ok b S) : ∃ a S1, r = .ok a S1 ∧ k a S1 = .ok b S := by
  cases r with
  | ok a S1 => exact ⟨a, S1, rfl, h⟩
  | exc _ _ _ => cases h
  | bad => cases h

/-- an expression in both its readings -/
structure BX (X : Cx) (F : Fns) (e : Expr) (t : T) : Prop where
  ex : EX X F e t
  tx : TX X F e t
inductive All2 {α β : Type} (R : α → β → Prop) : List α → List β → Prop where
  | nil : All2 R [] []
  | cons {a : α} {b : β} {as : List α} {bs : List β} : R a b → All2 R as bs → All2 R (a :: as) (b :: bs)

/-- a test that is a plain value's truth -/
def plainTest : Expr → Bool
  | .UnaryOp .Not _ _ => false
  | .BoolOp .. => false
  | .IfExp .. => false
  | .Compare .. => false
  | _ => true
theorem plain_isTrue {e : Expr} (h : plainTest e = true) (env : Env) (whole : Sem Value) : isTrue e env whole = (do let v ← whole; standAt e.pos; holding [v] (truthy v)) := by
  cases e with
  | UnaryOp op a pos => cases op <;> first | rfl | cases h
  | BoolOp => cases h
  | IfExp => cases h
  | Compare => cases h
  | _ => rfl
theorem tx_plain (h : plainTest e = true) (hx : EX X F e ta) : TX X F e ta := by
  refine PT.imp (pt_truth hx (plain_isTrue h X.env)) fun σ H Q ⟨ety, ρ, ε, S, rep, g⟩ => ?_
  obtain ⟨d, S1, e1, g⟩ := Res.good_iff.mp (Res.good_andThen.mp g)
  refine tE1 rep e1 fun ρ1 H1 v x1 s1 r1 => ?_
  obtain ⟨k, S2, e2, gg⟩ := Res.good_iff.mp g; clear g; have g := gg; clear gg
  have e3 := truD_same e2
  subst e3
  exact ⟨k, tru_rel s1 r1 e2, g ρ1 H1 x1 s1⟩
theorem bx_plain (h : plainTest e = true) (hx : EX X F e ta) : BX X F e ta := ⟨hx, tx_plain h hx⟩

theorem ex_not (ha : EX X F a ta) : EX X F (.UnaryOp .Not a pos) (.not ta) := by
  refine PE.imp (pe_notT ha) fun σ H Q ⟨ety, ρ, ε, S, rep, g⟩ => ?_
  simp only [denE, Res.good_andThen] at g
  obtain ⟨d, S1, e1, g⟩ := Res.good_iff.mp g
  obtain ⟨k, S2, e2, gg⟩ := Res.good_iff.mp g; clear g; have g := gg; clear gg
  have e3 := truD_same e2
  subst e3
  exact tE1 rep e1 fun ρ1 H1 v x1 s1 r1 => ⟨k, tru_rel s1 r1 e2, (K2.ext g x1).here s1 rfl⟩
theorem tx_not (ha : TX X F a ta) : TX X F (.UnaryOp .Not a pos) (.not ta) := by
  refine PT.imp (pt_not ha) fun σ H Q ⟨ety, ρ, ε, S, rep, g⟩ => ⟨ety, ρ, ε, S, rep, ?_⟩
  simp only [denT, denE, Res.good_andThen] at g ⊢
  refine Res.good_mono g fun d S1 g => Res.good_mono g fun c S2 g => ?_
  exact fun ρ' H' x s => g ρ' H' x s
theorem bx_not (ha : BX X F a ta) : BX X F (.UnaryOp .Not a pos) (.not ta) := ⟨ex_not ha.ex, tx_not ha.tx⟩
theorem tT_of {K : Kx} {σ : St} {H : Hp} {ρ : List Addr} {ε : Sl} {S S1 : Store} {k : Bool} {R : Bool → Hp → Prop} (rep : Rep K ρ ε S σ H) (e1 : denT F ta ε S = .ok k S1) (h : ∀ ρ1 H1, Ext ρ H ρ1 H1 → SRel K ρ1 S1 H1 → R k H1) : tT K.K F ta σ H R :=
  ⟨K.ety, ρ, ε, S, rep, by rw [e1]; exact fun ρ1 H1 x s => h ρ1 H1 x s⟩
theorem bx_and : ∀ {es : List Expr} {ts : List T} {t : T}, All2 (BX X F) es ts → andT ts = some t → EX X F (.BoolOp .And es pos) t ∧ PW X (.BoolOp .And es pos) (tT X.K F t)
  | _, _, _, .nil, h => by cases h
  | _, _, _, .cons ha .nil, h => by
    cases h
    exact ⟨pe_one ha.ex, pw_and1 ha.tx⟩
  | a :: b :: es, t1 :: t2 :: ts, t, .cons ha (.cons hb hr), h => by
    have h' : (andT (t2 :: ts)).map (T.and t1) = some t := h
    cases q : andT (t2 :: ts) with
    | none => rw [q] at h'; cases h'
    | some u =>
      rw [q] at h'
      cases h'
      obtain ⟨x1, x2⟩ := bx_and (.cons hb hr) q
      refine ⟨PE.imp (pe_andT ha.ex x1) fun σ H Q ⟨ety, ρ, ε, S, rep, g⟩ => ?_, ?_⟩
      · simp only [denE, Res.good_andThen] at g
        obtain ⟨d, S1, e1, g⟩ := Res.good_iff.mp g
        obtain ⟨k, S2, e2, gg⟩ := Res.good_iff.mp g; clear g; have g := gg; clear gg
        have e3 := truD_same e2
        subst e3
        refine tE1 rep e1 fun ρ1 H1 v x1 s1 r1 => ⟨k, tru_rel s1 r1 e2, ?_⟩
        cases k with
        | true => exact ⟨ety, ρ1, ε, S2, rep.step x1 s1, K2.good g x1⟩
        | false => exact (K2.ext g x1).here s1 r1
      · refine ⟨fun wh pins s σ H Q I hq => (pw_and ha.tx x2).run wh pins s σ H Q I ?_⟩
        obtain ⟨ety, ρ, ε, S, rep, g⟩ := hq
        simp only [denT, denE, Res.good_andThen] at g
        obtain ⟨d, S1, e1, g⟩ := Res.good_iff.mp g
        obtain ⟨k, S2, e2, gg⟩ := Res.good_iff.mp g; clear g; have g := gg; clear gg
        have e3 := truD_same e2
        subst e3
        refine tT_of (k := k) (S1 := S2) rep (by simp only [denT, e1, Res.ok_andThen, e2]) fun ρ1 H1 x1 s1 => ?_
        cases k with
        | true =>
          refine ⟨ety, ρ1, ε, S2, rep.step x1 s1, ?_⟩
          simp only [denT, Res.good_andThen]
          exact Res.good_mono g fun d S1 g => Res.good_mono g fun c S2 g => fun ρ' H' x s => g ρ' H' (x1.trans x) s
        | false =>
          simp only [Bool.false_eq_true, if_false, Res.good_ok, e2] at g
          exact g ρ1 H1 x1 s1
theorem bx_or : ∀ {es : List Expr} {ts : List T} {t : T}, All2 (BX X F) es ts → orT ts = some t → EX X F (.BoolOp .Or es pos) t ∧ PW X (.BoolOp .Or es pos) (tT X.K F t)
  | _, _, _, .nil, h => by cases h
  | _, _, _, .cons ha .nil, h => by
    cases h
    exact ⟨pe_one ha.ex, pw_or1 ha.tx⟩
  | a :: b :: es, t1 :: t2 :: ts, t, .cons ha (.cons hb hr), h => by
    have h' : (orT (t2 :: ts)).map (T.or t1) = some t := h
    cases q : orT (t2 :: ts) with
    | none => rw [q] at h'; cases h'
    | some u =>
      rw [q] at h'
      cases h'
      obtain ⟨x1, x2⟩ := bx_or (.cons hb hr) q
      refine ⟨PE.imp (pe_orT ha.ex x1) fun σ H Q ⟨ety, ρ, ε, S, rep, g⟩ => ?_, ?_⟩
      · simp only [denE, Res.good_andThen] at g
        obtain ⟨d, S1, e1, g⟩ := Res.good_iff.mp g
        obtain ⟨k, S2, e2, gg⟩ := Res.good_iff.mp g; clear g; have g := gg; clear gg
        have e3 := truD_same e2
        subst e3
        refine tE1 rep e1 fun ρ1 H1 v x1 s1 r1 => ⟨k, tru_rel s1 r1 e2, ?_⟩
        cases k with
        | false => exact ⟨ety, ρ1, ε, S2, rep.step x1 s1, K2.good g x1⟩
        | true => exact (K2.ext g x1).here s1 r1
      · refine ⟨fun wh pins s σ H Q I hq => (pw_or ha.tx x2).run wh pins s σ H Q I ?_⟩
        obtain ⟨ety, ρ, ε, S, rep, g⟩ := hq
        simp only [denT, denE, Res.good_andThen] at g
        obtain ⟨d, S1, e1, g⟩ := Res.good_iff.mp g
        obtain ⟨k, S2, e2, gg⟩ := Res.good_iff.mp g; clear g; have g := gg; clear gg
        have e3 := truD_same e2
        subst e3
        refine tT_of (k := k) (S1 := S2) rep (by simp only [denT, e1, Res.ok_andThen, e2]) fun ρ1 H1 x1 s1 => ?_
        cases k with
        | false =>
          refine ⟨ety, ρ1, ε, S2, rep.step x1 s1, ?_⟩
          simp only [denT, Res.good_andThen]
          exact Res.good_mono g fun d S1 g => Res.good_mono g fun c S2 g => fun ρ' H' x s => g ρ' H' (x1.trans x) s
        | true =>
          simp only [if_true, Res.good_ok, e2] at g
          exact g ρ1 H1 x1 s1
theorem ex_ite (hc : TX X F c tc) (ha : EX X F a ta) (hb : EX X F b tb) : EX X F (.IfExp c a b pos) (.ite tc ta tb) := by
  refine PE.imp (pe_ifExp hc ha hb) fun σ H Q ⟨ety, ρ, ε, S, rep, g⟩ => ?_
  simp only [denE, Res.good_andThen] at g
  obtain ⟨d, S1, e1, g⟩ := Res.good_iff.mp g
  obtain ⟨k, S2, e2, gg⟩ := Res.good_iff.mp g; clear g; have g := gg; clear gg
  refine tT_of (k := k) (S1 := S2) rep (by simp only [denT, e1, Res.ok_andThen, e2]) fun ρ1 H1 x1 s1 => ?_
  cases k with
  | true => exact ⟨ety, ρ1, ε, S2, rep.step x1 s1, K2.good g x1⟩
  | false => exact ⟨ety, ρ1, ε, S2, rep.step x1 s1, K2.good g x1⟩
theorem tx_ite (hc : TX X F c tc) (ha : TX X F a ta) (hb : TX X F b tb) : TX X F (.IfExp c a b pos) (.ite tc ta tb) := by
  refine ⟨fun pins s σ H Q I ⟨ety, ρ, ε, S, rep, g⟩ => ?_⟩
  simp only [denT, denE, Res.good_andThen] at g
  obtain ⟨d, S1, e1, g⟩ := Res.good_iff.mp g
  obtain ⟨k, S2, e2, gg⟩ := Res.good_iff.mp g; clear g; have g := gg; clear gg
  show wpAny _ _ (do if ← isTrue c X.env (eval c X.env) then isTrue a X.env (eval a X.env) else isTrue b X.env (eval b X.env)) _ _ _
  have hq : tT X.K F tc σ H fun c H1 => if c = true then tT X.K F ta σ H1 Q else tT X.K F tb σ H1 Q := by
    refine tT_of (k := k) (S1 := S2) rep (by simp only [denT, e1, Res.ok_andThen, e2]) fun ρ1 H1 x1 s1 => ?_
    cases k with
    | true =>
      refine ⟨ety, ρ1, ε, S2, rep.step x1 s1, ?_⟩
      simp only [denT, Res.good_andThen]
      exact Res.good_mono g fun d S1 g => Res.good_mono g fun c S2 g => fun ρ' H' x s => g ρ' H' (x1.trans x) s
    | false =>
      refine ⟨ety, ρ1, ε, S2, rep.step x1 s1, ?_⟩
      simp only [denT, Res.good_andThen]
      exact Res.good_mono g fun d S1 g => Res.good_mono g fun c S2 g => fun ρ' H' x s => g ρ' H' (x1.trans x) s
  refine wpAny_bind (thn (hc.run pins s σ H _ I hq) fun k s1 ⟨H1, I1, q1⟩ => ?_)
  cases k with
  | true => exact ha.run pins s1 σ H1 Q I1 q1
  | false => exact hb.run pins s1 σ H1 Q I1 q1
theorem bx_ite (hc : BX X F c tc) (ha : BX X F a ta) (hb : BX X F b tb) : BX X F (.IfExp c a b pos) (.ite tc ta tb) := ⟨ex_ite hc.tx ha.ex hb.ex, tx_ite hc.tx ha.tx hb.tx⟩

/-! ### comparisons -/
theorem mapB_bl {f : Bool → Bool} {r : Res Bool} {d : D} {S' : Store} (h : mapB f r = .ok d S') : ∃ k, d = .bl k := by
  obtain ⟨b, S1, _, e⟩ := Res.eq_of h
  cases e
  exact ⟨_, rfl⟩
theorem cmpD_bl {op : CmpOp} {x y d : D} {S S' : Store} (h : cmpD op x y S = .ok d S') : ∃ k, d = .bl k := by
  cases op with
  | Eq => exact mapB_bl h
  | NotEq => exact mapB_bl h
  | Lt => exact mapB_bl h
  | In => exact mapB_bl h
  | NotIn => exact mapB_bl h
  | Gt => unfold cmpD at h; simp only at h; split at h <;> cases h; exact ⟨_, rfl⟩
  | LtE => unfold cmpD at h; simp only at h; split at h <;> cases h; exact ⟨_, rfl⟩
  | GtE => unfold cmpD at h; simp only at h; split at h <;> cases h; exact ⟨_, rfl⟩
  | Is => unfold cmpD at h; simp only at h; split at h <;> cases h; exact ⟨_, rfl⟩
  | IsNot => unfold cmpD at h; simp only at h; split at h <;> cases h; exact ⟨_, rfl⟩
theorem noSet_marks {b : Expr} (h : noSet b = true) (op : CmpOp) : behindInMarks op b = false := by
  cases b with
  | Set => cases h
  | _ => rfl
theorem bx_cmp {op : CmpOp} (hu : X.A.units + 100 < cLine) (ha : EX X F a ta) (hb : EX X F b tb) (hs : noSet b = true) : BX X F (.Compare a [op] [b] pos) (.app (.cmp op) [ta, tb]) := by
  constructor
  · refine PE.imp (pe_cmpR (op_cmp hu op) ha hb (noSet_marks hs op)) fun σ H Q ⟨ety, ρ, ε, S, rep, g⟩ => ?_
    obtain ⟨x, S1, y, S2, e1, e2, g⟩ := app2 g
    exact tE2 rep e1 e2 fun ρ2 H2 v w x2 s2 r1 r2 => ⟨ety, ρ2, S2, x, y, s2, r1, r2, K2.good g x2⟩
  · refine PT.imp (pt_cmpR (op_cmp hu op) ha hb (noSet_marks hs op)) fun σ H Q ⟨ety, ρ, ε, S, rep, g⟩ => ?_
    obtain ⟨x, S1, y, S2, e1, e2, g⟩ := app2 (Res.good_andThen.mp g)
    refine tE2 rep e1 e2 fun ρ2 H2 v w x2 s2 r1 r2 => ⟨ety, ρ2, S2, x, y, s2, r1, r2, ?_⟩
    obtain ⟨d, S3, e3, g⟩ := Res.good_iff.mp g
    have e3' : cmpD op x y S2 = .ok d S3 := e3
    obtain ⟨k, rfl⟩ := cmpD_bl e3'
    rw [e3']
    intro ρ3 z H3 x3 s3 r3
    exact ⟨k, r3, g ρ3 H3 (x2.trans x3) s3⟩
theorem noSet_last {b c : Expr} (h : noSet c = true) (p q : CmpOp) : lastMarks [p, q] [b, c] = false := noSet_marks h q
theorem bx_chain {p q : CmpOp} (hu : X.A.units + 100 < cLine) (ha : EX X F a ta) (hb : EX X F b tb) (hc : EX X F c tc) (hs : noSet c = true) : BX X F (.Compare a [p, q] [b, c] pos) (.chain p q ta tb tc) := by
  have core : ∀ (σ : St) (H : Hp) (Q : VK), tE X.K F (.chain p q ta tb tc) σ H Q → tChain (rD X.K (cmpD p)) (rD X.K (cmpD q)) (tE X.K F ta) (tE X.K F tb) (tE X.K F tc) σ H Q := by
    intro σ H Q ⟨ety, ρ, ε, S, rep, g⟩
    simp only [denE, Res.good_andThen] at g
    obtain ⟨x, S1, e1, g⟩ := Res.good_iff.mp g
    obtain ⟨y, S2, e2, g⟩ := Res.good_iff.mp g
    obtain ⟨z, S3, e3, g⟩ := Res.good_iff.mp g
    refine tE2 rep e1 e2 fun ρ2 H2 v w x2 s2 r1 r2 => ⟨ety, ρ2, S2, x, y, s2, r1, r2, ?_⟩
    obtain ⟨k, rfl⟩ := cmpD_bl e3
    rw [e3]
    intro ρ3 u H3 x3 s3 r3
    refine ⟨k, r3, ?_⟩
    cases k with
    | true =>
      simp only [Res.good_andThen] at g
      obtain ⟨m, S4, e4, g⟩ := Res.good_iff.mp g
      refine tE1 (rep.step (x2.trans x3) s3) e4 fun ρ4 H4 l x4 s4 r4 => ⟨ety, ρ4, S4, y, m, s4, RelD.mono (x3.trans x4) s2.locs _ _ r2, r4, K2.good g ((x2.trans x3).trans x4)⟩
    | false => exact (K2.ext g (x2.trans x3)).here s3 rfl
  constructor
  · exact PE.imp (pe_chain (op_cmp hu p) (op_cmp hu q) ha hb hc (noSet_last hs p q)) core
  · refine PT.imp (pt_chain (op_cmp hu p) (op_cmp hu q) ha hb hc (noSet_last hs p q)) fun σ H Q ⟨ety, ρ, ε, S, rep, g⟩ => ?_
    refine core σ H _ ⟨ety, ρ, ε, S, rep, ?_⟩
    obtain ⟨d, S1, e1, g⟩ := Res.good_iff.mp (Res.good_andThen.mp g)
    rw [e1]
    intro ρ' v H' x' s' r'
    obtain ⟨k, S2, e2, gg⟩ := Res.good_iff.mp g; clear g; have g := gg; clear gg
    have e3 := truD_same e2
    subst e3
    have hk : d = .bl k := by
      obtain ⟨x, S3, f1, h1⟩ := Res.eq_of e1
      obtain ⟨y, S4, f2, h2⟩ := Res.eq_of h1
      obtain ⟨z, S5, f3, h3⟩ := Res.eq_of h2
      have : ∃ k', d = .bl k' := by
        split at h3
        · obtain ⟨m, S6, f4, h4⟩ := Res.eq_of h3
          exact cmpD_bl h4
        · cases h3; exact ⟨false, rfl⟩
        · cases h3
      obtain ⟨k', rfl⟩ := this
      cases e2
      rfl
    subst hk
    exact ⟨k, r', g ρ' H' x' s'⟩
end
end OW
end
section
set_option Elab.async false
set_option linter.all false
set_option autoImplicit false
set_option maxRecDepth 100000
set_option maxHeartbeats 4000000
/-! OwG: argument lists, displays, subscripts, slices. -/
namespace OW
open PySem L2

section
variable {X : Cx} {F : Fns} {e a b c o i : Expr} {es : List Expr} {ta tb tc to ti : T} {ts : List T} {pos p2 : Pos}
theorem star_cons (h : noStar e = true) (es : List Expr) (env : Env) : starEach (e :: es) env = (false, eval e env) :: starEach es env := by
  cases e with
  | Starred => cases h
  | _ => rfl
theorem star_none : ∀ {es : List Expr} (env : Env) (pos : Pos), es.all noStar = true → (backTo pos (starEach es env)).any (·.1) = false
  | [], _, _, _ => rfl
  | e :: es, env, pos, h => by
    simp only [List.all_cons, Bool.and_eq_true] at h
    rw [star_cons h.1]
    show ((false, _) :: backTo pos (starEach es env)).any _ = false
    rw [List.any_cons, star_none env pos h.2]
    rfl
theorem pa_all : ∀ {es : List Expr} {ts : List T}, All2 (EX X F) es ts → es.all noStar = true → PA X es (tAs X.K F ts)
  | _, _, .nil, _ => PA.imp pa_nil fun σ H Q ⟨ety, ρ, ε, S, rep, g⟩ => g ρ [] H Ext.refl rep.st rfl
  | e :: es, t :: ts, .cons h hr, hs => by
    simp only [List.all_cons, Bool.and_eq_true] at hs
    refine PA.imp (pa_cons h (pa_all hr hs.2) (star_cons hs.1 es X.env)) fun σ H Q ⟨ety, ρ, ε, S, rep, g⟩ => ?_
    simp only [denA, Res.good_andThen] at g
    obtain ⟨d, S1, e1, g⟩ := Res.good_iff.mp g
    obtain ⟨ds, S2, e2, g⟩ := Res.good_iff.mp g
    refine tE1 rep e1 fun ρ1 H1 v x1 s1 r1 => ⟨ety, ρ1, ε, S1, rep.step x1 s1, ?_⟩
    rw [e2]
    exact fun ρ2 vs H2 x2 s2 r2 => g ρ2 (v :: vs) H2 (x1.trans x2) s2 ⟨v, vs, rfl, RelD.mono x2 s1.locs _ _ r1, r2⟩
theorem tAs_of {K : Kx} {σ : St} {H : Hp} {ρ : List Addr} {ε : Sl} {S S1 : Store} {ds : List D} {R : List V → Hp → Prop} (rep : Rep K ρ ε S σ H) (e1 : denA F ts ε S = .ok ds S1) (h : ∀ ρ1 H1 vs, Ext ρ H ρ1 H1 → SRel K ρ1 S1 H1 → RelDs K ρ1 H1 ds vs → R vs H1) : tAs K.K F ts σ H R :=
  ⟨K.ety, ρ, ε, S, rep, by rw [e1]; exact fun ρ1 vs H1 x s r => h ρ1 H1 vs x s r⟩
theorem ex_tup {k : Nat} (h : All2 (EX X F) es ts) (hs : es.all noStar = true) : EX X F (.Tuple es k pos) (.app .tup ts) := by
  refine PE.imp (pe_tup (pa_all h hs)) fun σ H Q ⟨ety, ρ, ε, S, rep, g⟩ => ?_
  simp only [denE, Res.good_andThen] at g
  obtain ⟨ds, S1, e1, g⟩ := Res.good_iff.mp g
  obtain ⟨hl, g⟩ := need_good g
  refine tAs_of rep e1 fun ρ1 H1 vs x1 s1 r1 => ⟨by rw [← r1.length]; exact of_decide_eq_true hl, fun p hp => ?_⟩
  exact (K2.ext g x1).tup s1 r1 hp
theorem ex_lst (h : All2 (EX X F) es ts) (hs : es.all noStar = true) : EX X F (.List es pos) (.app .lst ts) := by
  refine PE.imp (pe_lst (pa_all h hs)) fun σ H Q ⟨ety, ρ, ε, S, rep, g⟩ => ?_
  simp only [denE, Res.good_andThen] at g
  obtain ⟨ds, S1, e1, g⟩ := Res.good_iff.mp g
  obtain ⟨hl, g⟩ := need_good g
  refine tAs_of rep e1 fun ρ1 H1 vs x1 s1 r1 => ⟨by rw [← r1.length]; exact of_decide_eq_true hl, fun p hp => ?_⟩
  exact (K2.ext g x1).lst s1 r1 hp
theorem ex_lstM (h : All2 (EX X F) es ts) (hs : es.all noStar = true) : EX X F (.List es pos) (.app .lstM ts) := by
  refine PE.imp (pe_lst (pa_all h hs)) fun σ H Q ⟨ety, ρ, ε, S, rep, g⟩ => ?_
  simp only [denE, Res.good_andThen] at g
  obtain ⟨ds, S1, e1, g⟩ := Res.good_iff.mp g
  obtain ⟨hl, g⟩ := need_good g
  refine tAs_of rep e1 fun ρ1 H1 vs x1 s1 r1 => ⟨by rw [← r1.length]; exact of_decide_eq_true hl, fun p hp => ?_⟩
  exact (K2.ext g x1).lstM s1 r1 hp

/-! ### subscripts -/
theorem noSlice_ix (h : noSlice i = true) : PlainIx i := by
  intro o' i'
  cases i with
  | Slice => cases h
  | _ => rfl
theorem atI_rel {K : Kx} {ρ : List Addr} {H : Hp} {xs : List D} {vs : List V} {k : Int} {d : D} (r : RelDs K ρ H xs vs) (h : atI xs k = some d) : ∃ v, atI vs k = some v ∧ RelD K ρ H d v := by
  unfold atI at h ⊢
  rw [← r.length]
  cases q : ixN xs.length k with
  | none => rw [q] at h; cases h
  | some j =>
    rw [q] at h
    exact r.get h
theorem oRes_good {o : Option D} {S : Store} {Q : D → Store → Prop} (h : (oRes o S).good Q) : ∃ d, o = some d ∧ Q d S := by
  cases o with
  | none => exact h.elim
  | some d => exact ⟨d, rfl, h⟩
theorem ro_sq {K : PySem.W.Frag} {H : Hp} {a : Addr} {vs : List V} (q : (∃ o, H a = some (.frz o (.lst vs))) ∨ KL K a vs) : SqL K H a vs := by
  rcases q with ⟨o, q⟩ | q
  · exact .inl (.inr ⟨o, q⟩)
  · exact .inr q
theorem keyD_rel {K : Kx} {ρ : List Addr} {H : Hp} {d : D} {v : V} {k : Key} (r : RelD K ρ H d v) (h : keyD d = some k) : v = kV k := by
  cases d with
  | int i => cases h; exact r
  | str x => cases h; exact r
  | _ => cases h
theorem ex_item (hu : X.A.units + 100 < cLine) (ho : EX X F o to) (hi : EX X F i ti) (hs : noSlice i = true) : EX X F (.Subscript o i pos) (.app .item [to, ti]) := by
  refine ⟨fun pins s σ H Q I ⟨ety, ρ, ε, S, rep, g⟩ => ?_⟩
  obtain ⟨x, S1, y, S2, e1, e2, g⟩ := app2 g
  replace g : (itemD x y S2).good (K2 ⟨X.K, ety⟩ ρ H Q) := g
  unfold itemD at g
  split at g
  · rename_i z k
    obtain ⟨hl, g⟩ := need_good g
    split at g
    · rename_i ch ec
      exact (pe_ix ix_str ho hi (noSlice_ix hs)).run pins s σ H Q I (tE2 rep e1 e2 fun ρ2 H2 v w x2 s2 r1 r2 => ⟨z, k, ch, r1, r2, of_decide_eq_true hl, ec, (K2.ext g x2).here s2 rfl⟩)
    · exact g.elim
  · rename_i xs k
    obtain ⟨d, ed, g⟩ := oRes_good g
    refine (pe_ix ix_tup ho hi (noSlice_ix hs)).run pins s σ H Q I (tE2 rep e1 e2 fun ρ2 H2 v w x2 s2 r1 r2 => ?_)
    obtain ⟨p, vs, rfl, q, r⟩ := r1
    obtain ⟨u, eu, ru⟩ := atI_rel r ed
    exact ⟨p, vs, k, u, rfl, r2, q, eu, (K2.ext g x2).here s2 ru⟩
  · rename_i xs k
    obtain ⟨d, ed, g⟩ := oRes_good g
    refine (pe_ix ix_list ho hi (noSlice_ix hs)).run pins s σ H Q I (tE2 rep e1 e2 fun ρ2 H2 v w x2 s2 r1 r2 => ?_)
    obtain ⟨p, vs, rfl, q, _, _, r⟩ := r1
    obtain ⟨u, eu, ru⟩ := atI_rel r ed
    exact ⟨p, vs, k, u, rfl, r2, SqL.of q, eu, (K2.ext g x2).here s2 ru⟩
  · rename_i xs k
    obtain ⟨d, ed, g⟩ := oRes_good g
    refine (pe_ix ix_list ho hi (noSlice_ix hs)).run pins s σ H Q I (tE2 rep e1 e2 fun ρ2 H2 v w x2 s2 r1 r2 => ?_)
    obtain ⟨p, vs, rfl, q, r⟩ := r1
    obtain ⟨u, eu, ru⟩ := atI_rel r ed
    exact ⟨p, vs, k, u, rfl, r2, ro_sq q, eu, (K2.ext g x2).here s2 ru⟩
  · rename_i n
    split at g
    · rename_i xs k ec
      obtain ⟨d, ed, g⟩ := oRes_good g
      refine (pe_ix ix_list ho hi (noSlice_ix hs)).run pins s σ H Q I (tE2 rep e1 e2 fun ρ2 H2 v w x2 s2 r1 r2 => ?_)
      obtain ⟨p, rfl, q⟩ := r1
      obtain ⟨c', f1, f2⟩ := s2.cell n p q
      rw [ec] at f1; cases f1
      obtain ⟨vs, q, r⟩ := f2
      obtain ⟨u, eu, ru⟩ := atI_rel r ed
      exact ⟨p, vs, k, u, rfl, r2, SqL.of q, eu, (K2.ext g x2).here s2 ru⟩
    · rename_i kvs ec
      split at g
      · rename_i k ek
        obtain ⟨d, ed, g⟩ := oRes_good g
        refine (pe_dget (by omega) ho hi (noSlice_ix hs)).run pins s σ H Q I (tE2 rep e1 e2 fun ρ2 H2 v w x2 s2 r1 r2 => ?_)
        obtain ⟨p, rfl, q⟩ := r1
        obtain ⟨c', f1, f2⟩ := s2.cell n p q
        rw [ec] at f1; cases f1
        obtain ⟨r, q, rk⟩ := f2
        have lk := rk.look (k := k)
        rw [ed] at lk
        obtain ⟨u, eu, ru⟩ := lk
        have kr := keyD_rel r2 ek
        subst kr
        have dg := DGet.k (k := k) q
        rw [eu] at dg
        exact ⟨p, u, rfl, dg, (K2.ext g x2).here s2 ru⟩
      · exact g.elim
    · exact g.elim
  · exact g.elim

/-! ### slices -/
theorem sIx_whole {xs : List D} (lo hi : Option Int) (h : HT.sIx xs.length 0 lo = 0 ∧ HT.sIx xs.length xs.length hi = xs.length) : cut xs lo hi = xs := by
  unfold cut
  rw [h.1, h.2]
  simp
/-- what a slice is, by values -/
def rSlD (K : PySem.W.Frag) : V → Option Int → Option Int → Hp → VK → Prop := fun x lo hi H Q => ∃ ety ρ S d, SRel ⟨K, ety⟩ ρ S H ∧ RelD ⟨K, ety⟩ ρ H d x ∧ (sliceD d lo hi S).good (K2 ⟨K, ety⟩ ρ H Q)
theorem sl_D : SlR X (rSlD X.K) := by
  intro pins s σ H x v vl vu lo hi sl Q I rx hs pl pu ⟨ety, ρ, S, d, st, rd, g⟩
  unfold sliceD at g
  split at g
  · rename_i z ez
    obtain ⟨hl, g⟩ := need_good g
    exact sl_str pins s σ H x v vl vu lo hi sl Q I rx hs pl pu ⟨z, rel_str rd ez, of_decide_eq_true hl, g.here st rfl⟩
  · rename_i xs ez
    obtain ⟨p, vs, rfl, q, r⟩ := rel_tup rd ez
    refine sl_tupA pins s σ H _ v vl vu lo hi sl Q I rx hs pl pu ⟨p, vs, rfl, q, fun hw => ?_, fun _ z hz => g.tup st (cut_rel r lo hi) hz⟩
    rw [← r.length] at hw
    have e := sIx_whole lo hi hw
    have g : K2 ⟨X.K, ety⟩ ρ H Q (.tup (cut xs lo hi)) S := g
    rw [e] at g
    exact g.here st ⟨p, vs, rfl, q, r⟩
  · rename_i xs ez
    obtain ⟨p, vs, rfl, q, r⟩ := res_lst st rd ez
    exact sl_list pins s σ H _ v vl vu lo hi sl Q I rx hs pl pu ⟨p, vs, rfl, SqL.of q, fun z hz => g.lst st (cut_rel r lo hi) hz⟩
  · rename_i xs ez
    have rd' : RelD ⟨X.K, ety⟩ ρ H (.ro xs) x := res_rel rd ez (fun _ h => by cases h)
    obtain ⟨p, vs, rfl, q, r⟩ := rd'
    exact sl_list pins s σ H _ v vl vu lo hi sl Q I rx hs pl pu ⟨p, vs, rfl, ro_sq q, fun z hz => g.lst st (cut_rel r lo hi) hz⟩
  · exact g.elim
theorem ex_slice0 (ho : EX X F o to) : EX X F (.Subscript o (.Slice none none none p2) pos) (.app (.slice false false) [to]) := by
  refine PE.imp (pe_slice sl_D ho po_none po_none) fun σ H Q ⟨ety, ρ, ε, S, rep, g⟩ => ?_
  obtain ⟨x, S1, e1, g⟩ := app1 g
  exact tE1 rep e1 fun ρ1 H1 v x1 s1 r1 => ⟨ety, ρ1, S1, x, s1, r1, K2.good g x1⟩
theorem ex_sliceL (ho : EX X F o to) (ha : EX X F a ta) : EX X F (.Subscript o (.Slice (some a) none none p2) pos) (.app (.slice true false) [to, ta]) := by
  refine PE.imp (pe_slice sl_D ho (po_some ha) po_none) fun σ H Q ⟨ety, ρ, ε, S, rep, g⟩ => ?_
  obtain ⟨x, S1, y, S2, e1, e2, g⟩ := app2 g
  refine tE2 rep e1 e2 fun ρ2 H2 v w x2 s2 r1 r2 => ?_
  cases y with
  | int k => exact ⟨k, r2, ety, ρ2, S2, x, s2, r1, K2.good g x2⟩
  | _ => exact (show False from g).elim
theorem ex_sliceR (ho : EX X F o to) (hb : EX X F b tb) : EX X F (.Subscript o (.Slice none (some b) none p2) pos) (.app (.slice false true) [to, tb]) := by
  refine PE.imp (pe_slice sl_D ho po_none (po_some hb)) fun σ H Q ⟨ety, ρ, ε, S, rep, g⟩ => ?_
  obtain ⟨x, S1, y, S2, e1, e2, g⟩ := app2 g
  refine tE2 rep e1 e2 fun ρ2 H2 v w x2 s2 r1 r2 => ?_
  cases y with
  | int k => exact ⟨k, r2, ety, ρ2, S2, x, s2, r1, K2.good g x2⟩
  | _ => exact (show False from g).elim
theorem ex_sliceB (ho : EX X F o to) (ha : EX X F a ta) (hb : EX X F b tb) : EX X F (.Subscript o (.Slice (some a) (some b) none p2) pos) (.app (.slice true true) [to, ta, tb]) := by
  refine PE.imp (pe_slice sl_D ho (po_some ha) (po_some hb)) fun σ H Q ⟨ety, ρ, ε, S, rep, g⟩ => ?_
  obtain ⟨x, S1, y, S2, z, S3, e1, e2, e3, g⟩ := app3 g
  cases y with
  | int k =>
    cases z with
    | int j => exact tE2 rep e1 e2 fun ρ2 H2 v w x2 s2 r1 r2 => ⟨k, r2, tE1 (rep.step x2 s2) e3 fun ρ3 H3 u x3 s3 r3 => ⟨j, r3, ety, ρ3, S3, x, s3, RelD.mono x3 s2.locs _ _ r1, K2.good g (x2.trans x3)⟩⟩
    | _ => exact (show False from g).elim
  | _ => exact (show False from g).elim
end
end OW
end
section
set_option Elab.async false
set_option linter.all false
set_option autoImplicit false
set_option maxRecDepth 100000
set_option maxHeartbeats 4000000
/-! OwH: t[::-1], dict displays, isinstance. -/
namespace OW
open PySem L2 PyProof.Rows

section
variable {prog : Program} {w : World} {A : Around} {E : Value → Shared → Prop} {s : Shared}
theorem fmap_congr {α β : Type} {f g : α → Option β} : ∀ {l : List α}, (∀ x ∈ l, f x = g x) → l.filterMap f = l.filterMap g
  | [], _ => rfl
  | x :: l, h => by
    have ih : l.filterMap f = l.filterMap g := fmap_congr fun y hy => h y (List.mem_cons_of_mem _ hy)
    rw [List.filterMap_cons, List.filterMap_cons, h x (List.mem_cons_self ..), ih]
theorem range_back (its : List Value) : (List.range its.length).filterMap (fun (k : Nat) => its.toArray[(((its.length : Int) - 1) + (k : Int) * -1).toNat]?) = its.reverse := by
  have e : ∀ k, k ∈ List.range its.length → (fun (k : Nat) => its.toArray[(((its.length : Int) - 1) + (k : Int) * -1).toNat]?) k = (fun k => its.reverse[k]?) k := by
    intro k hk
    have hk' := List.mem_range.mp hk
    have e1 : (((its.length : Int) - 1) + (k : Int) * -1).toNat = its.length - 1 - k := by omega
    simp only [e1]
    rw [List.getElem?_reverse hk']
    simp
  rw [fmap_congr e]
  have : ∀ (l : List Value), (List.range l.length).filterMap (fun k => l[k]?) = l := by
    intro l
    induction l with
    | nil => rfl
    | cons x xs ih =>
      rw [List.length_cons, List.range_succ_eq_map, List.filterMap_cons]
      simp only [List.getElem?_cons_zero, List.filterMap_map]
      congr 1
  have q := this its.reverse
  rw [List.length_reverse] at q
  exact q
theorem applied_back {sl : Addr} {st : Value} {n : Nat} {Q : Int × Int × Nat → Shared → Prop} (hs : s.heap.IsSliceOf sl .none .none st) (ps : IsPart st (some (-1)))
    (h : Q ((n : Int) - 1, -1, n) s) : wpAny (model prog w) A (Builtin.Slice.sliceApplied (.ref sl) (pure (n : Int))) Q E s := by
  obtain ⟨ob, hob, hc, hd⟩ := id hs
  unfold Builtin.Slice.sliceApplied Builtin.Slice.sliceFields
  refine wpAny_bind (wpAny_bind (wpAny_field hob hd (x := .none) rfl (wpAny_bind (wpAny_field hob hd (x := .none) rfl (wpAny_bind (wpAny_field hob hd (x := st) rfl (wpAny_pure ?_)))))))
  refine wpAny_bind (HT.slicePart_ ps ?_)
  show wpAny _ _ (if ((-1 : Int) == 0) = true then _ else _) _ _ s
  rw [if_neg (by decide)]
  refine wpAny_bind (HT.slicePart_ .none (wpAny_bind (HT.slicePart_ .none (wpAny_bind (wpAny_pure ?_)))))
  show wpAny _ _ (match Builtin.Slice.sliceAdjust none none (-1) (n : Int) with | (lo, hi) => pure (lo, (-1 : Int), Builtin.Slice.slicePlaces lo hi (-1))) _ _ s
  have e1 : Builtin.Slice.sliceAdjust none none (-1) (n : Int) = ((n : Int) - 1, -1) := by
    unfold Builtin.Slice.sliceAdjust
    simp
  have e2 : Builtin.Slice.slicePlaces ((n : Int) - 1) (-1) (-1) = n := by
    unfold Builtin.Slice.slicePlaces
    simp
    omega
  rw [e1]
  show wpAny _ _ (pure ((n : Int) - 1, (-1 : Int), Builtin.Slice.slicePlaces ((n : Int) - 1) (-1) (-1))) _ _ s
  rw [e2]
  exact wpAny_pure h
theorem tup_back {t sl : Addr} {its : List Value} {st : Value} {Q : Value → Shared → Prop} (ht : IsTup s.heap t its.toArray) (hs : s.heap.IsSliceOf sl .none .none st) (ps : IsPart st (some (-1))) (hz : its.length ≤ sizeLine)
    (h : Q (.ref s.heap.objs.size) { s with heap := s.heap.push { cls := .type "tuple", data := .seq its.reverse.toArray } }) : wpAny (model prog w) A (getItem (.ref t) (.ref sl)) Q E s := by
  have ok : sizeOk (.seq its.reverse.toArray) := by
    show its.reverse.toArray.size ≤ sizeLine
    simpa using hz
  have tys : s.TypeIs (.ref sl) "slice" := let ⟨ob, hob, hc, _⟩ := id hs; ⟨ob, hob, hc⟩
  unfold getItem
  try with_reducible refine wpAny_holding ?_
  first | refine wpAny_bind (wpAny_pure ?_) | skip
  refine wpAny_bind (wpAny_sequenceKey ht.typeIs (by decide) (wpAny_bind (wpAny_callSpecial?_slot (name := Str.ofString "__getitem__") ht.typeIs PyProof.Rows.slot_tuple_getitem (wpAny_call_entry PyProof.Rows.slot_tuple_getitem ht.typeIs entry_tuple_getitem ?_ (args_tuple_getitem _ _)))))
  show wpAny _ _ (Builtin.Tuple.tupleItemsOf (.ref t) >>= _) _ _ s
  refine wpAny_bind (tupleItemsOf_ ht (wpAny_bind (wpAny_typeOf tys ?_)))
  rw [if_pos (by decide)]
  refine wpAny_bind (applied_back (n := its.toArray.size) hs ps ?_)
  show wpAny _ _ (if (((its.toArray.size : Int) - 1 == 0) && ((-1 : Int) == 1) && (its.toArray.size == its.toArray.size)) = true then _ else _) _ _ s
  have hn : (((its.toArray.size : Int) - 1 == 0) && ((-1 : Int) == 1) && (its.toArray.size == its.toArray.size)) = false := by
    have : ((-1 : Int) == 1) = false := by decide
    rw [this]; simp
  rw [if_neg (by rw [hn]; exact Bool.false_ne_true)]
  have e : ((List.range its.toArray.size).filterMap fun (k : Nat) => its.toArray[(((its.toArray.size : Nat) : Int) - 1 + (k : Int) * -1).toNat]?) = its.reverse := by
    have := range_back its
    simpa using this
  rw [e]
  first
    | exact wpAny_bind (m := Builtin.Tuple.tupleExact _) (wpAny_newObj_type (wpAny_pure ⟨_, rfl, wpAny_pure h⟩) ok)
    | exact wpAny_bind (m := Builtin.Tuple.tupleExact _) (wpAny_newObj_type (wpAny_bind (wpAny_pure (wpAny_pure ⟨_, rfl, wpAny_pure h⟩))) ok)
    | exact wpAny_bind (wpAny_bind (m := Builtin.Tuple.tupleExact _) (wpAny_newObj_type (wpAny_pure (wpAny_pure ⟨_, rfl, wpAny_pure h⟩)) ok))
    | exact wpAny_bind (wpAny_bind (m := Builtin.Tuple.tupleExact _) (wpAny_newObj_type (wpAny_pure ⟨_, rfl, wpAny_pure h⟩) ok))
end

theorem vals_reverse {xs : List V} {us : List Value} (r : Vals xs us) : Vals xs.reverse us.reverse := by
  induction r with
  | nil => exact .nil
  | cons a t ih =>
    rw [List.reverse_cons, List.reverse_cons]
    exact ih.append (.cons a .nil)
section
variable {X : Cx} {F : Fns} {e a b c o i : Expr} {es : List Expr} {ta tb tc to ti : T} {ts : List T} {pos : Pos}
/-- t[::-1] of a tuple -/
def tRevT (K : PySem.W.Frag) (te : TE) : TE := fun σ H Q => te σ H fun x H1 => ∃ p xs, x = .ref p ∧ SqT K H1 p xs ∧ ∀ z, H1 z = none → Q (.ref z) (upd H1 z (.tup xs.reverse))
theorem pe_revT {te : TE} {k : Nat} {p1 p2 p3 : Pos} (he : PE X e te) : PE X (.Subscript e (.Slice none none (some (.UnaryOp .USub (.Constant (.int 1) k p1) p2)) p3) pos) (tRevT X.K te) := by
  refine ⟨fun pins s σ H Q I h => Subscript_ (thn (he.run pins s σ H _ I h) fun v s1 ⟨x, H1, I1, r1, p, xs, ex, hx, q⟩ => ?_)⟩
  subst ex
  cases r1
  have hst : PO X (some (.UnaryOp .USub (.Constant (.int 1) k p1) p2)) (tPart (tUn (rU fun i => .int (-i)) (tC (.int 1)))) := po_some (pe_un un_neg pe_int)
  refine wpAny_Slice (thn (po_none.run pins s1 σ H1 (fun o H2 => o = none ∧ H2 = H1) I1 ⟨rfl, rfl⟩) fun vl s2 ⟨l, H2, I2, pl, el, e2⟩ => ?_)
  subst el e2
  refine thn (po_none.run pins s2 σ H2 (fun o H3 => o = none ∧ H3 = H2) I2 ⟨rfl, rfl⟩) fun vu s3 ⟨u, H3, I3, pu, eu, e3⟩ => ?_
  subst eu e3
  refine thn (hst.run pins s3 σ H3 (fun o H4 => o = some (-1) ∧ H4 = H3) I3 ⟨1, rfl, -1, rfl, rfl, rfl⟩) fun st s4 ⟨m, H4, I4, ps, em, e4⟩ => ?_
  subst em e4
  cases pl
  cases pu
  have I5 : Inv X pins σ H4 { s4 with heap := s4.heap.push { cls := .type "slice", data := .fields #[.none, .none, st] } } := I4.kept (t' := s4.toks) fun b ob q => Heap.get?_push_of_some _ q
  obtain ⟨its, r, ht, hz⟩ := I5.tuple hx
  have hl := r.length
  show wpAny (model X.prog X.w) X.A (subscriptTail e (.Slice none none (some (.UnaryOp .USub (.Constant (.int 1) k p1) p2)) p3) (.ref p) (.ref s4.heap.objs.size)) (EP X pins σ Q) X.xe { s4 with heap := s4.heap.push { cls := .type "slice", data := .fields #[.none, .none, st] } }
  refine tail_any (ops := [.ref p, .ref s4.heap.objs.size]) ht.typeIs PyProof.Rows.slot_tuple_getitem.lookup (tup_back ht (Heap.IsSliceOf.new _ .none .none st) ps (by omega) ?_) (by with_unfolding_all rfl)
  refine ⟨.ref _, _, I5.laid (t' := s4.toks) (o := .tup xs.reverse) (fun b ob q => Heap.get?_push_of_some _ q) (Nat.le_refl _) ?_, rfl, q _ (I5.hok.fresh (Nat.le_refl _))⟩
  exact ⟨by rw [List.length_reverse]; exact hz, _, vals_reverse r, ⟨_, Heap.get?_push_size _ rfl, rfl, _, rfl⟩⟩
theorem ex_rev {k : Nat} {p1 p2 p3 : Pos} (he : EX X F e ta) : EX X F (.Subscript e (.Slice none none (some (.UnaryOp .USub (.Constant (.int 1) k p1) p2)) p3) pos) (.app .rev [ta]) := by
  refine ⟨fun pins s σ H Q I ⟨ety, ρ, ε, S, rep, g⟩ => ?_⟩
  obtain ⟨x, S1, e1, g⟩ := app1 g
  simp only [primD] at g
  split at g
  · rename_i xs ex
    refine (pe_revT he).run pins s σ H Q I (tE1 rep e1 fun ρ1 H1 v x1 s1 r1 => ?_)
    obtain ⟨p, vs, rfl, q, r⟩ := rel_tup r1 ex
    exact ⟨p, vs, rfl, q, fun z hz => (K2.ext g x1).tup s1 r.reverse hz⟩
  · rename_i xs ex
    refine (pe_revL he).run pins s σ H Q I (tE1 rep e1 fun ρ1 H1 v x1 s1 r1 => ?_)
    obtain ⟨p, vs, rfl, q, r⟩ := res_lst s1 r1 ex
    exact ⟨p, vs, rfl, SqL.of q, fun z hz => (K2.ext g x1).lst s1 r.reverse hz⟩
  · exact g.elim

/-! ### isinstance -/
def Ty.nm : Ty → String
  | .non => "NoneType" | .bool => "bool" | .int => "int" | .str => "str" | .tuple => "tuple" | .list => "list" | .dict => "dict"
theorem kit_all : ∀ (x y : Ty), y ≠ .non → kitB x.nm y.nm = some (isT x y) := by
  intro x y h
  cases x <;> cases y <;> first | exact absurd rfl h | decide +kernel
theorem ty_rel {K : Kx} {ρ : List Addr} {S : Store} {H : Hp} {d : D} {v : V} (s : SRel K ρ S H) (r : RelD K ρ H d v) : TyX K.K H v (.type (tyOf S d).nm) := by
  cases d with
  | non => rw [show v = _ from r]; exact .base .non
  | bl b => rw [show v = _ from r]; exact .base (.bl b)
  | int b => rw [show v = _ from r]; exact .base (.int b)
  | str b => rw [show v = _ from r]; exact .base (.str b)
  | tup xs =>
    obtain ⟨p, vs, rfl, q, _⟩ := r
    rcases q with (q | ⟨o, q⟩) | ⟨o, its, n, q, c, _⟩
    · exact .base (.tup q)
    · exact .fTuple q
    · exact .kTuple q c
  | lst xs =>
    obtain ⟨p, vs, rfl, q, _⟩ := r
    exact .base (.lst q)
  | ro xs =>
    obtain ⟨p, vs, rfl, q, _⟩ := r
    rcases q with ⟨o, q⟩ | ⟨o, its, n, q, c, _⟩
    · exact .base (.frz q)
    · exact .kList q c
  | loc n =>
    obtain ⟨p, rfl, q⟩ := r
    obtain ⟨c, e1, e2⟩ := s.cell n p q
    cases c with
    | lst xs =>
      obtain ⟨vs, q, _⟩ := e2
      simp only [tyOf, e1]
      exact .base (.lst q)
    | dct kvs =>
      obtain ⟨r, q, _⟩ := e2
      simp only [tyOf, e1]
      exact .base (.dK q)
theorem boot_of_ty : ∀ {y : Str} {t : Ty}, isTys.lookup y = some t → t ≠ .non ∧ bootBuiltins y = some (.type t.nm) ∧ y ≠ "__name__" ∧ (y == ("__debug__" : Str)) = false := by
  intro y t h
  have : ∀ p ∈ isTys, p.2 ≠ .non ∧ bootBuiltins p.1 = some (.type p.2.nm) ∧ p.1 ≠ "__name__" ∧ (p.1 == ("__debug__" : Str)) = false := by
    intro p hp
    simp only [isTys, List.mem_cons, List.not_mem_nil, or_false] at hp
    rcases hp with rfl | rfl | rfl | rfl | rfl <;> exact ⟨by decide, by decide +kernel, by decide, by decide⟩
  obtain ⟨l, hl⟩ : ∃ l, l = isTys := ⟨_, rfl⟩
  exact this (y, t) (PySem.mem_of_lookup h)
theorem ex_isinst {y : Str} {t : Ty} {p q : Pos} (hg : Gl X "isinstance") (hm : X.mg "isinstance" = none) (hgy : Gl X y) (hmy : X.mg y = none) (ht : isTys.lookup y = some t) (ha : EX X F a ta) (hs : noStar a = true) :
    EX X F (.Call (.Name "isinstance" p) [a, .Name y q] [] pos) (.app (.isinst [t]) [ta]) := by
  obtain ⟨hn, hb, h1, h2⟩ := boot_of_ty ht
  refine PE.imp (pe_callB call_isi hg hm (by decide +kernel) (pa_cons ha (pa_cons (pe_bltn (v := .ty t.nm) hgy hmy hb rfl h1 h2) pa_nil rfl) (star_cons hs _ _)) (by decide) (by decide) (star_cons hs _ _) rfl) fun σ H Q ⟨ety, ρ, ε, S, rep, g⟩ => ?_
  obtain ⟨x, S1, e1, g⟩ := app1 g
  refine tE1 rep e1 fun ρ1 H1 v x1 s1 r1 => ?_
  refine ⟨v, .ty t.nm, .type (tyOf S1 x).nm, .type t.nm, isT (tyOf S1 x) t, rfl, .ty _, ty_rel s1 r1, kit_ty (kit_all _ _ hn), (K2.ext g x1).here s1 ?_⟩
  simp [RelD]
end
end OW
end
section
set_option Elab.async false
set_option linter.all false
set_option autoImplicit false
set_option maxRecDepth 100000
set_option maxHeartbeats 4000000
/-! OwI: the built-in functions of one argument, methods, dict displays. -/
namespace OW
open PySem L2 PyProof.Rows

/-- a built-in's call on one plain datum -/
def rC (K : PySem.W.Frag) (f : D → Store → Res D) : List V → Hp → VK → Prop := fun vs H Q => ∃ ety ρ S d v, vs = [v] ∧ SRel ⟨K, ety⟩ ρ S H ∧ RelD ⟨K, ety⟩ ρ H d v ∧ (f d S).good (K2 ⟨K, ety⟩ ρ H Q)
section
variable {X : Cx} {F : Fns}
theorem seq_rel {K : Kx} {ρ : List Addr} {S : Store} {H : Hp} {d : D} {v : V} {xs : List D} (s : SRel K ρ S H) (r : RelD K ρ H d v) (h : seqD S d = some xs) :
    ∃ a vs, v = .ref a ∧ RelDs K ρ H xs vs ∧ (SqL K.K H a vs ∨ (SqT K.K H a vs ∧ d = .tup xs)) := by
  unfold seqD at h
  split at h
  · rename_i ys e
    cases h
    obtain ⟨a, vs, rfl, q, r'⟩ := rel_tup r e
    refine ⟨a, vs, rfl, r', .inr ⟨q, ?_⟩⟩
    rw [← e, res_id (fun zs => by rw [e]; exact fun h => by cases h)]
  · rename_i ys e
    cases h
    obtain ⟨a, vs, rfl, q, r'⟩ := res_lst s r e
    exact ⟨a, vs, rfl, r', .inl (SqL.of q)⟩
  · rename_i ys e
    cases h
    have r2 : RelD K ρ H (.ro xs) v := res_rel r e (fun _ h => by cases h)
    obtain ⟨a, vs, rfl, q, r'⟩ := r2
    exact ⟨a, vs, rfl, r', .inl (ro_sq q)⟩
  · cases h
theorem call_lenD : CallR X (.builtin "len") (rC X.K (fnD .len)) := by
  intro pins s σ H xs us Q I r ⟨ety, ρ, S, d, v, ev, st, rd, g⟩
  subst ev
  replace g : (lenD S d).good (K2 ⟨X.K, ety⟩ ρ H Q) := g
  cases d with
  | non => exact (show False from g).elim
  | bl b => exact (show False from g).elim
  | int b => exact (show False from g).elim
  | str z =>
    obtain ⟨hl, g⟩ := need_good g
    exact call_len pins s σ H _ us Q I r ⟨v, z.length, rfl, by rw [show v = _ from rd]; exact ⟨of_decide_eq_true hl, rfl⟩, g.here st rfl⟩
  | tup ys =>
    obtain ⟨a, vs, rfl, q, r'⟩ := rd
    exact call_len pins s σ H _ us Q I r ⟨_, ys.length, rfl, .inr ⟨vs, q, r'.length⟩, g.here st rfl⟩
  | lst ys =>
    obtain ⟨a, vs, rfl, q, _, _, r'⟩ := rd
    exact call_len pins s σ H _ us Q I r ⟨_, ys.length, rfl, .inl ⟨vs, SqL.of q, r'.length⟩, g.here st rfl⟩
  | ro ys =>
    obtain ⟨a, vs, rfl, q, r'⟩ := rd
    exact call_len pins s σ H _ us Q I r ⟨_, ys.length, rfl, .inl ⟨vs, ro_sq q, r'.length⟩, g.here st rfl⟩
  | loc n =>
    have rd0 := rd
    obtain ⟨a, rfl, q⟩ := rd
    obtain ⟨c, e1, e2⟩ := st.cell n a q
    simp only [lenD, e1] at g
    cases c with
    | lst ys =>
      obtain ⟨vs, q, r'⟩ := e2
      exact call_len pins s σ H _ us Q I r ⟨_, ys.length, rfl, .inl ⟨vs, SqL.of q, r'.length⟩, g.here st rfl⟩
    | dct kvs =>
      obtain ⟨w, q, r'⟩ := e2
      exact L2.call_lenD pins s σ H _ us Q I r ⟨a, w, rfl, q, by rw [← r'.length]; exact g.here st rfl⟩
theorem call_intD : CallR X (.type "int") (rC X.K (fnD .int)) := by
  intro pins s σ H xs us Q I r ⟨ety, ρ, S, d, v, ev, st, rd, g⟩
  subst ev
  cases d with
  | int i => exact call_int1 pins s σ H _ us Q I r (.inl ⟨i, by rw [show v = _ from rd], g.here st rfl⟩)
  | bl b => exact call_int1 pins s σ H _ us Q I r (.inr ⟨b, by rw [show v = _ from rd], g.here st rfl⟩)
  | str z =>
    simp only [fnD] at g
    split at g
    · rename_i n en
      obtain ⟨hl, g⟩ := need_good g
      exact call_int_str pins s σ H _ us Q I r ⟨z, n, by rw [show v = _ from rd], en, of_decide_eq_true hl, g.here st rfl⟩
    · exact g.elim
  | _ => exact (show False from g).elim
theorem call_strD : CallR X (.type "str") (rC X.K (fnD .str)) := by
  intro pins s σ H xs us Q I r ⟨ety, ρ, S, d, v, ev, st, rd, g⟩
  subst ev
  cases d with
  | int i =>
    obtain ⟨hl, g⟩ := need_good g
    exact call_str_int pins s σ H _ us Q I r ⟨i, by rw [show v = _ from rd], of_decide_eq_true hl, g.here st rfl⟩
  | _ => exact (show False from g).elim
theorem call_tupleD : CallR X (.type "tuple") (rC X.K (fnD .tuple)) := by
  intro pins s σ H xs us Q I r ⟨ety, ρ, S, d, v, ev, st, rd, g⟩
  subst ev
  simp only [fnD] at g
  split at g
  · rename_i ys ey
    obtain ⟨a, vs, rfl, r', q | ⟨q, ed⟩⟩ := seq_rel st rd ey
    · exact call_tuple_of pins s σ H _ us Q I r ⟨a, vs, rfl, .inl ⟨q, fun l hl => g.tup st r' hl⟩⟩
    · subst ed
      exact call_tuple_of pins s σ H _ us Q I r ⟨a, vs, rfl, .inr ⟨q, g.here st rd⟩⟩
  · exact g.elim
theorem call_listD : CallR X (.type "list") (rC X.K (fnD .list)) := by
  intro pins s σ H xs us Q I r ⟨ety, ρ, S, d, v, ev, st, rd, g⟩
  subst ev
  simp only [fnD] at g
  split at g
  · rename_i ys ey
    obtain ⟨a, vs, rfl, r', q | ⟨q, ed⟩⟩ := seq_rel st rd ey
    · exact call_list_of pins s σ H _ us Q I r ⟨a, vs, rfl, .inl q, fun l hl => g.lst st r' hl⟩
    · exact call_list_of pins s σ H _ us Q I r ⟨a, vs, rfl, .inr q, fun l hl => g.lst st r' hl⟩
  · exact g.elim
theorem allB_rel {K : Kx} {ρ : List Addr} {H : Hp} : ∀ {xs : List D} {vs : List V} {b : Bool}, RelDs K ρ H xs vs → allB xs = some b → ∃ bs : List Bool, vs = bs.map V.bl ∧ bs.all id = b
  | [], _, b, r, h => by
    rw [show _ = _ from r]
    cases h
    exact ⟨[], rfl, rfl⟩
  | x :: xs, _, b, r, h => by
    obtain ⟨v, vs, rfl, r1, r2⟩ := r
    cases x with
    | bl c =>
      have h' : (allB xs).map (c && ·) = some b := h
      cases q : allB xs with
      | none => rw [q] at h'; cases h'
      | some b' =>
        rw [q] at h'
        cases h'
        obtain ⟨bs, e1, e2⟩ := allB_rel r2 q
        exact ⟨c :: bs, by rw [show v = _ from r1, e1]; rfl, by rw [List.all_cons, e2]; rfl⟩
    | _ => cases h
theorem call_allD (hc : X.calm = true) : CallR X (.builtin "all") (rC X.K (fnD .all)) := by
  intro pins s σ H xs us Q I r ⟨ety, ρ, S, d, v, ev, st, rd, g⟩
  subst ev
  simp only [fnD] at g
  split at g
  · rename_i ys ey
    split at g
    · rename_i b eb
      obtain ⟨a, vs, rfl, q, r'⟩ := res_lst st rd ey
      obtain ⟨bs, e1, e2⟩ := allB_rel r' eb
      subst e1
      exact cr_all hc pins s σ H _ us Q I r ⟨a, bs, rfl, SqL.of q, by rw [e2]; exact g.here st rfl⟩
    · exact g.elim
  · exact g.elim

/-! ### sorted -/
/-- values of plain data -/
def IsVal (K : Kx) (ρ : List Addr) (H : Hp) (u : Value) (d : D) : Prop := ∃ v, RelV v u ∧ RelD K ρ H d v
theorem each_of {K : Kx} {ρ : List Addr} {H : Hp} : ∀ {ds : List D} {vs : List V} {us : List Value}, RelDs K ρ H ds vs → Vals vs us → PySem.W.EachIs (IsVal K ρ H) us ds
  | [], _, _, r, q => by
    rw [show _ = _ from r] at q
    cases q
    exact .nil
  | d :: ds, _, _, r, q => by
    obtain ⟨v, vs, rfl, r1, r2⟩ := r
    cases q with
    | cons q1 q2 => exact .cons ⟨v, q1, r1⟩ (each_of r2 q2)
theorem of_each {K : Kx} {ρ : List Addr} {H : Hp} : ∀ {ds : List D} {us : List Value}, PySem.W.EachIs (IsVal K ρ H) us ds → ∃ vs, RelDs K ρ H ds vs ∧ Vals vs us
  | [], _, .nil => ⟨[], rfl, .nil⟩
  | d :: ds, _, .cons ⟨v, q, r⟩ h => by
    obtain ⟨vs, h1, h2⟩ := of_each h
    exact ⟨v :: vs, ⟨v, vs, rfl, r, h1⟩, .cons q h2⟩
theorem EachIs_mem {α β : Type} {R R' : α → β → Prop} : ∀ {as : List α} {bs : List β}, PySem.W.EachIs R as bs → (∀ a b, b ∈ bs → R a b → R' a b) → PySem.W.EachIs R' as bs
  | _, _, .nil, _ => .nil
  | _, _, .cons h t, k => .cons (k _ _ (List.mem_cons_self ..) h) (EachIs_mem t fun a b m => k a b (List.mem_cons_of_mem _ m))
theorem sortOk_parts {xs : List D} (h : sortOk xs = true) : (∀ x ∈ xs, x.flat = true) ∧ xs.length ≤ 1000000 ∧ PySem.W.AllAlike (xs.map D.py) ∧ (∀ x ∈ xs, x.py.depth ≤ 64) ∧ PySem.W.Sortable (xs.map D.py) := by
  unfold sortOk at h
  simp only [Bool.and_eq_true, decide_eq_true_eq, List.all_eq_true, Bool.or_eq_true] at h
  obtain ⟨⟨⟨⟨h1, h2⟩, h3⟩, h4⟩, h5⟩ := h
  rw [D.flatL_all, List.all_eq_true] at h1
  refine ⟨h1, h2, ?_, h4, ?_⟩
  · intro d hd d' hd'
    obtain ⟨x, hx, rfl⟩ := List.mem_map.mp hd
    obtain ⟨y, hy, rfl⟩ := List.mem_map.mp hd'
    exact h3 x hx y hy
  · rcases h5 with h5 | h5
    · left
      intro d hd
      obtain ⟨x, hx, rfl⟩ := List.mem_map.mp hd
      have := h5 x hx
      cases x with
      | tup ys =>
        cases ys with
        | nil => cases this
        | cons y r => exact ⟨y.py, D.pyL r, rfl⟩
      | _ => cases this
    · right
      intro d hd
      obtain ⟨x, hx, rfl⟩ := List.mem_map.mp hd
      have := h5 x hx
      have hf := h1 x hx
      cases x with
      | tup ys => cases this
      | non => cases this
      | loc n => cases hf
      | _ => exact ⟨(fun q => by cases q), (fun _ q => by cases q)⟩
theorem call_sortedD (hu : X.A.units + 100 < cLine) : CallR X (.builtin "sorted") (rC X.K (fnD .sorted)) := by
  intro pins s σ H xs us Q I r ⟨ety, ρ, S, d, v, ev, st, rd, g⟩
  subst ev
  simp only [fnD] at g
  split at g
  · rename_i ys ey
    obtain ⟨ho, g⟩ := need_good g
    obtain ⟨hf, hl, ha, hd, hs⟩ := sortOk_parts ho
    obtain ⟨a, vs, rfl, q, r'⟩ := res_lst st rd ey
    obtain ⟨its, rv, pl, _⟩ := I.list (SqL.of q)
    rw [Vals.ref1 r]
    have e := each_of r' rv
    have er : PySem.W.EachIs (fun v b => ∃ as, Reads s.heap v (D.py b) as) its ys := EachIs_mem e fun u x hx ⟨w, h1, h2⟩ => Dp.reads I _ w u (dp_of x w (hf x hx) h2) h1
    refine PySem.W.sorted_data (enc := D.py) pl.isList e er ha hs (Nat.le_trans hl (by rw [sizeLine_eq]; decide)) (fun b hb => ?_) fun out ho' he => ?_
    · have := hd b hb
      omega
    · obtain ⟨ws, h1, h2⟩ := of_each he
      obtain ⟨ep, he'⟩ := PyProof.Rows.sortedAll_at s.heap its (List.toArray out)
      have hlen : ws.length ≤ sizeLine := by
        rw [← h1.length, List.length_mergeSort]
        exact Nat.le_trans hl (by rw [sizeLine_eq]; decide)
      refine ⟨.ref _, upd H (s.heap.objs.size + 1) (.lst ws), I.laid (t' := s.toks) (fun _ _ => PyProof.Rows.sortedAll_old) (Nat.le_succ _) ⟨hlen, out, ep, h2, he'⟩, rfl, g.lst st h1 (I.hok.fresh (Nat.le_succ _))⟩
  · exact g.elim

/-! ### repr -/
mutual
theorem noDict : ∀ d : D, d.py.hasDict = false
  | .non => rfl
  | .bl _ => rfl
  | .int _ => rfl
  | .str _ => rfl
  | .tup xs => noDictL xs
  | .lst xs => noDictL xs
  | .ro xs => noDictL xs
  | .loc _ => rfl
theorem noDictL : ∀ xs : List D, PyData.hasDictAll (D.pyL xs) = false
  | [] => rfl
  | x :: xs => by
    show (x.py.hasDict || PyData.hasDictAll (D.pyL xs)) = false
    rw [noDict x, noDictL xs]
    rfl
end
theorem call_reprD (hu : X.A.units + 100 < cLine) (hg : X.A.guards = some []) : CallR X (.builtin "repr") (rC X.K (fnD .repr)) := by
  intro pins s σ H xs us Q I r ⟨ety, ρ, S, d, v, ev, st, rd, g⟩
  subst ev
  simp only [fnD] at g
  obtain ⟨ho, g⟩ := need_good g
  simp only [Bool.and_eq_true, decide_eq_true_eq] at ho
  obtain ⟨⟨⟨hf, hsh⟩, hsz⟩, hd⟩ := ho
  obtain ⟨u, rfl, ru⟩ := vals1 r
  have dp := dp_res st hf rd
  obtain ⟨as, rr⟩ := Dp.reads I _ v u dp ru
  have fin : ∀ h' t tk, (∀ b o, s.heap.get? b = some o → h'.get? b = some o) → EP X pins σ Q (.str (d.res S).py.shown t) { s with heap := h', toks := tk } := fun h' t tk hk => ⟨.str _, H, I.kept hk, ⟨_, rfl⟩, g.here st rfl⟩
  have byRef : ∀ a, u = .ref a → wpAny (model X.prog X.w) X.A (call (.builtin "repr") [u]) (EP X pins σ Q) X.xe s := by
    intro a ea
    subst ea
    exact repr_of_reads' rr hsh (PyData.noDict_hsm (noDict _)) hg (by omega) (fun _ _ h => h) fin hsz
  cases e : d.res S with
  | non =>
    rw [e] at dp rr fin
    cases rr
    exact PySem.P.repr_of_none (fin s.heap _ _ fun _ _ h => h)
  | bl b =>
    rw [e] at dp rr fin
    cases rr
    exact PySem.P.repr_of_bool (fin s.heap _ _ fun _ _ h => h)
  | int i =>
    rw [e] at dp rr fin hsh
    cases rr
    exact PySem.P.repr_of_int (of_decide_eq_true hsh) (fin s.heap _ _ fun _ _ h => h)
  | str z =>
    rw [e] at dp rr fin hsz
    cases rr
    exact PySem.P.repr_of_str (fin s.heap _ _ fun _ _ h => h) hsz
  | tup ys =>
    obtain ⟨a, vs, rfl, _⟩ := rel_tup rd e
    exact byRef a ru
  | lst ys =>
    obtain ⟨a, vs, rfl, _⟩ := res_lst st rd e
    exact byRef a ru
  | ro ys => rw [e] at hf; cases hf
  | loc n => rw [e] at hf; cases hf
end
end OW
end
section
set_option Elab.async false
set_option linter.all false
set_option autoImplicit false
set_option maxRecDepth 100000
set_option maxHeartbeats 4000000
/-! OwJ: calls of built-ins by name, methods, dict displays, as expressions. -/
namespace OW
open PySem L2 PyProof.Rows

section
variable {X : Cx} {F : Fns} {e a b c o : Expr} {es : List Expr} {ta tb tc to : T} {ts : List T} {pos p q p2 ap cp : Pos} {x : Str}
theorem app_rC {f : Fn1} {σ : L2.St} {H : Hp} {Q : VK} (h : tE X.K F (.app (.fn f) [ta]) σ H Q) : tCB (rC X.K (fnD f)) (tCons (tE X.K F ta) tNil) σ H Q := by
  obtain ⟨ety, ρ, ε, S, rep, g⟩ := h
  obtain ⟨d, S1, e1, g⟩ := app1 g
  exact tE1 rep e1 fun ρ1 H1 v x1 s1 r1 => ⟨ety, ρ1, S1, d, v, rfl, s1, r1, K2.good g x1⟩
theorem ex_callB {id : String} {f : Fn1} (hc : CallR X (.builtin id) (rC X.K (fnD f))) (hg : Gl X x) (hm : X.mg x = none) (hv : bootBuiltins x = some (.builtin id)) (hn : x ≠ "__name__") (hd : (x == ("__debug__" : Str)) = false) (ha : EX X F a ta) (hs : noStar a = true) :
    EX X F (.Call (.Name x p) [a] [] pos) (.app (.fn f) [ta]) :=
  PE.imp (pe_callB hc hg hm hv (pa_cons ha pa_nil (star_cons hs _ _)) hn hd (star_cons hs _ _) rfl) fun σ H Q h => app_rC h
theorem ex_callTy {id : String} {f : Fn1} (hc : CallR X (.type id) (rC X.K (fnD f))) (hg : Gl X x) (hm : X.mg x = none) (hv : bootBuiltins x = some (.type id)) (hn : x ≠ "__name__") (hd : (x == ("__debug__" : Str)) = false) (ha : EX X F a ta) (hs : noStar a = true) :
    EX X F (.Call (.Name x p) [a] [] pos) (.app (.fn f) [ta]) :=
  PE.imp (pe_callTy hc hg hm hv (pa_cons ha pa_nil (star_cons hs _ _)) hn hd (star_cons hs _ _) rfl) fun σ H Q h => app_rC h
theorem ex_fn1 {f : Fn1} (hu : X.A.units + 100 < cLine) (hgd : X.A.guards = some []) (hc : X.calm = true) (hf : fn1.lookup x = some f) (hg : Gl X x) (hm : X.mg x = none) (ha : EX X F a ta) (hs : noStar a = true) :
    EX X F (.Call (.Name x p) [a] [] pos) (.app (.fn f) [ta]) := by
  have hm' := PySem.mem_of_lookup hf
  simp only [fn1, List.mem_cons, Prod.mk.injEq, List.not_mem_nil, or_false] at hm'
  rcases hm' with ⟨rfl, rfl⟩ | ⟨rfl, rfl⟩ | ⟨rfl, rfl⟩ | ⟨rfl, rfl⟩ | ⟨rfl, rfl⟩ | ⟨rfl, rfl⟩ | ⟨rfl, rfl⟩ | ⟨rfl, rfl⟩
  · exact ex_callB call_lenD hg hm PySem.boot_len (by decide) (by decide) ha hs
  · exact ex_callB (call_reprD hu hgd) hg hm (by decide +kernel) (by decide) (by decide) ha hs
  · exact ex_callTy call_intD hg hm (by decide +kernel) (by decide) (by decide) ha hs
  · exact ex_callTy call_strD hg hm (by decide +kernel) (by decide) (by decide) ha hs
  · exact ex_callTy call_tupleD hg hm (by decide +kernel) (by decide) (by decide) ha hs
  · exact ex_callTy call_listD hg hm (by decide +kernel) (by decide) (by decide) ha hs
  · exact ex_callB (call_allD hc) hg hm (by decide +kernel) (by decide) (by decide) ha hs
  · exact ex_callB (call_sortedD hu) hg hm (by decide +kernel) (by decide) (by decide) ha hs
theorem rg_rel {K : Kx} {ρ : List Addr} {H : Hp} (lo : Int) (n : Nat) : ∀ (l : List Nat), RelDs K ρ H (l.map fun (i : Nat) => D.int (lo + (i : Nat))) (l.map fun (i : Nat) => V.int (lo + (i : Nat)))
  | [] => rfl
  | i :: l => ⟨_, _, rfl, rfl, rg_rel lo n l⟩
theorem ex_lrange (hc : X.calm = true) (hg : Gl X "list") (hm : X.mg "list" = none) (hg2 : Gl X "range") (hm2 : X.mg "range" = none) (ha : EX X F a ta) (hs : noStar a = true) :
    EX X F (.Call (.Name "list" p) [.Call (.Name "range" q) [a] [] p2] [] pos) (.app (.fn .lrange) [ta]) := by
  refine PE.imp (pe_listRg hc hg hm (prg_1 hg2 hm2 ha (star_cons hs _ _)) rfl) fun σ H Q ⟨ety, ρ, ε, S, rep, g⟩ => ?_
  obtain ⟨d, S1, e1, g⟩ := app1 g
  refine tE1 rep e1 fun ρ1 H1 v x1 s1 r1 => ?_
  cases d with
  | int n =>
    obtain ⟨hl, g⟩ := need_good g
    have hl := of_decide_eq_true hl
    refine ⟨n, r1, RgOk.of_le (by omega) (by omega) (by omega) (by omega), fun z hz => ?_⟩
    refine (K2.ext g x1).lst s1 ?_ hz
    have := rg_rel (K := ⟨X.K, ety⟩) (ρ := ρ1) (H := H1) 0 0 (List.range n.toNat)
    simpa [rgV] using this
  | _ => exact (show False from g).elim

/-! ### methods -/
theorem noSuper_base (h : noSuper o = true) (m : Str) (env : Env) (whole : Sem Value) : attributeBase o m env whole = whole := by
  unfold attributeBase
  split
  · rename_i id pp pos'
    have h' : (id != ("super" : Str)) = true := h
    simp [h']
  · rfl
theorem mcall1 {m : Mt} {ε : Sl} {S : Store} {Q : D → Store → Prop} (h : (denE F (.mcall m to [ta]) ε S).good Q) : ∃ d S1 y S2, denE F to ε S = .ok d S1 ∧ kindOk m d S1 = true ∧ denE F ta ε S1 = .ok y S2 ∧ (methD m [d, y] S2).good Q := by
  simp only [denE, denA, Res.good_andThen] at h
  obtain ⟨d, S1, e1, h⟩ := Res.good_iff.mp h
  obtain ⟨hk, h⟩ := need_good h
  simp only [Res.good_andThen] at h
  obtain ⟨y, S2, e2, h⟩ := Res.good_iff.mp h
  exact ⟨d, S1, y, S2, e1, hk, e2, h⟩
theorem mcall2 {m : Mt} {ε : Sl} {S : Store} {Q : D → Store → Prop} (h : (denE F (.mcall m to [ta, tb]) ε S).good Q) : ∃ d S1 y S2 z S3, denE F to ε S = .ok d S1 ∧ kindOk m d S1 = true ∧ denE F ta ε S1 = .ok y S2 ∧ denE F tb ε S2 = .ok z S3 ∧ (methD m [d, y, z] S3).good Q := by
  simp only [denE, denA, Res.good_andThen] at h
  obtain ⟨d, S1, e1, h⟩ := Res.good_iff.mp h
  obtain ⟨hk, h⟩ := need_good h
  simp only [Res.good_andThen] at h
  obtain ⟨y, S2, e2, h⟩ := Res.good_iff.mp h
  obtain ⟨z, S3, e3, h⟩ := Res.good_iff.mp h
  exact ⟨d, S1, y, S2, z, S3, e1, hk, e2, e3, h⟩
theorem ex_append (hs : noStar a = true) (hb : noSuper o = true) (hl : ap.endLine = cp.line) (ho : EX X F o to) (ha : EX X F a ta) : EX X F (.Call (.Attribute o "append" ap) [a] [] cp) (.mcall .append to [ta]) := by
  refine PE.imp (pe_bm PySem.F.plainAttrs_list PySem.F.slot_list_append PySem.F.type_list_append mt_append ho (pa_cons ha pa_nil (star_cons hs _ _)) (noSuper_base hb _ _ _) (by rw [star_cons hs]; rfl) (by rw [hl]; exact beq_self_eq_true _) (star_cons hs _ _) rfl) fun σ H Q ⟨ety, ρ, ε, S, rep, g⟩ => ?_
  obtain ⟨d, S1, y, S2, e1, hk, e2, g⟩ := mcall1 g
  replace g : (appendD d y S2).good (K2 ⟨X.K, ety⟩ ρ H Q) := g
  cases d with
  | loc n =>
    simp only [appendD] at g
    split at g
    · rename_i xs ec
      obtain ⟨hz, g⟩ := need_good g
      refine tE1 rep e1 fun ρ1 H1 v x1 s1 r1 => ⟨?_, tE1 (rep.step x1 s1) e2 fun ρ2 H2 w x2 s2 r2 => ?_⟩
      · obtain ⟨pa, rfl, q⟩ := r1
        obtain ⟨c, f1, f2⟩ := s1.cell n pa q
        cases c with
        | lst ys => obtain ⟨vs, q, _⟩ := f2; exact .inl ⟨rfl, vs, SqL.of q⟩
        | dct kvs => simp [kindOk, f1] at hk
      · obtain ⟨pa, rfl, q⟩ := r1
        have q2 := x2.at q
        obtain ⟨c, f1, f2⟩ := s2.cell n pa q2
        rw [ec] at f1; cases f1
        obtain ⟨vs, qv, rv⟩ := f2
        have hm : pa ∈ ρ2 := List.mem_of_getElem? q2
        have xw := Ext.write (H := H2) (o := .lst (vs ++ [w])) hm
        refine ⟨pa, vs, w, rfl, rfl, qv, by rw [← rv.length]; exact of_decide_eq_true hz, ?_⟩
        refine (K2.ext g (x1.trans x2)) ρ2 .non _ xw ?_ rfl
        exact s2.write q2 ⟨vs ++ [w], upd_same, RelDs.append (RelDs.mono xw s2.locs _ _ rv) (RelDs.one (RelD.mono xw s2.locs _ _ r2))⟩
    · exact g.elim
  | _ => exact (show False from g).elim
theorem ex_join (hs : noStar a = true) (hb : noSuper o = true) (hl : ap.endLine = cp.line) (ho : EX X F o to) (ha : EX X F a ta) : EX X F (.Call (.Attribute o "join" ap) [a] [] cp) (.mcall .join to [ta]) := by
  refine PE.imp (pe_join ho ha (star_cons hs _ _) (noSuper_base hb _ _ _) (by rw [hl]; exact beq_self_eq_true _)) fun σ H Q ⟨ety, ρ, ε, S, rep, g⟩ => ?_
  obtain ⟨d, S1, y, S2, e1, hk, e2, g⟩ := mcall1 g
  replace g : (joinD d y S2).good (K2 ⟨X.K, ety⟩ ρ H Q) := g
  unfold joinD at g
  split at g
  · rename_i z ys ey
    split at g
    · rename_i ts et
      obtain ⟨hz, g⟩ := need_good g
      have hst : ∀ {ys : List D} {vs : List V} {ts : List Str} {ρ : List Addr} {H : Hp}, RelDs ⟨X.K, ety⟩ ρ H ys vs → strsD ys = some ts → vs = ts.map V.str := by
        intro ys
        induction ys with
        | nil =>
          intro vs ts ρ H r h
          cases h
          exact r
        | cons y ys ih =>
          intro vs ts ρ H r h
          obtain ⟨v, vs, rfl, r1, r2⟩ := r
          cases y with
          | str x =>
            have h' : (strsD ys).map (x :: ·) = some ts := h
            cases q : strsD ys with
            | none => rw [q] at h'; cases h'
            | some t' =>
              rw [q] at h'
              cases h'
              rw [ih r2 q, show v = _ from r1]
              rfl
          | _ => cases h
      refine tE1 rep e1 fun ρ1 H1 v x1 s1 r1 => ⟨⟨z, r1⟩, tE1 (rep.step x1 s1) e2 fun ρ2 H2 w x2 s2 r2 => ?_⟩
      obtain ⟨pa, vs, rfl, q, r⟩ := res_lst s2 r2 ey
      have ev := hst r et
      subst ev
      exact ⟨z, pa, ts, r1, rfl, .inl (SqL.of q), of_decide_eq_true hz, (K2.ext g (x1.trans x2)).here s2 rfl⟩
    · exact g.elim
  · exact g.elim
theorem ex_get (hu : X.A.units + 100 < cLine) (hs : noStar a = true) (hs2 : noStar b = true) (hb : noSuper o = true) (hl : ap.endLine = cp.line) (ho : EX X F o to) (ha : EX X F a ta) (hb2 : EX X F b tb) : EX X F (.Call (.Attribute o "get" ap) [a, b] [] cp) (.mcall .get to [ta, tb]) := by
  have m : M2 X o "get" ap a b cp := ⟨noSuper_base hb _ _ _, by rw [star_cons hs, star_cons hs2]; rfl, by rw [hl]; exact beq_self_eq_true _, by rw [star_cons hs, star_cons hs2]; rfl⟩
  refine PE.imp (pe_dget2 (by omega) ho ha hb2 m) fun σ H Q ⟨ety, ρ, ε, S, rep, g⟩ => ?_
  obtain ⟨d, S1, y, S2, z, S3, e1, hk, e2, e3, g⟩ := mcall2 g
  replace g : (getD d y z S3).good (K2 ⟨X.K, ety⟩ ρ H Q) := g
  unfold getD at g
  split at g
  · rename_i n k ek
    split at g
    · rename_i kvs ec
      refine tE1 rep e1 fun ρ1 H1 v x1 s1 r1 => ?_
      obtain ⟨pa, rfl, q⟩ := r1
      refine ⟨pa, rfl, ?_, tE2 (rep.step x1 s1) e2 e3 fun ρ3 H3 v' w x3 s3 r2 r3 => ?_⟩
      · obtain ⟨c, f1, f2⟩ := s1.cell n pa q
        cases c with
        | lst ys => simp [kindOk, f1] at hk
        | dct kv => obtain ⟨r, q, _⟩ := f2; exact .inl ⟨r, .inl q⟩
      · have q3 := x3.at q
        obtain ⟨c, f1, f2⟩ := s3.cell n pa q3
        rw [ec] at f1; cases f1
        obtain ⟨r, qr, rk⟩ := f2
        have kr := keyD_rel r2 ek
        subst kr
        refine ⟨valV r k, DGet.k qr, ?_⟩
        have lk := rk.look (k := k)
        refine (K2.ext g (x1.trans x3)).here s3 ?_
        cases ql : lookK k kvs with
        | none =>
          rw [ql] at lk
          rw [lk]
          exact r3
        | some d' =>
          rw [ql] at lk
          obtain ⟨u, eu, ru⟩ := lk
          rw [eu]
          exact ru
    · exact g.elim
  · exact g.elim
end
end OW
end
section
set_option Elab.async false
set_option linter.all false
set_option autoImplicit false
set_option maxRecDepth 100000
set_option maxHeartbeats 4000000
/-! OwK: dict displays. -/
namespace OW
open PySem L2

theorem keysOf_cons {k : Option Expr} {ks : List (Option Expr)} {keys : List Key} (h : keysOf (k :: ks) = some keys) :
    ∃ e key ks', k = some e ∧ keys = key :: ks' ∧ keysOf ks = some ks' ∧ ∀ X : Cx, PE X e (tC (kV key)) := by
  unfold keysOf at h
  split at h
  · rename_i q; cases q
  · rename_i x n p r q
    cases q
    cases e : keysOf ks with
    | none => rw [e] at h; cases h
    | some ks' =>
      rw [e] at h
      cases h
      exact ⟨_, _, ks', rfl, rfl, rfl, fun X => pe_str⟩
  · rename_i x n p r q
    cases q
    cases e : keysOf ks with
    | none => rw [e] at h; cases h
    | some ks' =>
      rw [e] at h
      cases h
      exact ⟨_, _, ks', rfl, rfl, rfl, fun X => pe_int⟩
  · cases h
theorem keysOf_some : ∀ {ks : List (Option Expr)} {keys : List Key}, keysOf ks = some keys → ks.all (·.isSome) = true ∧ ks.length = keys.length
  | [], keys, h => by cases h; exact ⟨rfl, rfl⟩
  | k :: ks, keys, h => by
    obtain ⟨e, key, ks', rfl, rfl, h', _⟩ := keysOf_cons h
    obtain ⟨h1, h2⟩ := keysOf_some h'
    exact ⟨by simp [h1], by simp [h2]⟩
section
variable {X : Cx} {F : Fns} {pos : Pos}
theorem pps_all : ∀ {ks : List (Option Expr)} {keys : List Key} {vs : List Expr} {ts : List T}, keysOf ks = some keys → All2 (EX X F) vs ts → ks.length = vs.length →
    PPs X pos ks vs ((keys.zip ts).map fun p => (tC (kV p.1), tE X.K F p.2))
  | [], keys, _, _, h, .nil, _ => by cases h; exact pps_nil
  | [], _, _, _, _, .cons _ _, hl => by simp at hl
  | k :: ks, _, _, _, _, .nil, hl => by simp at hl
  | k :: ks, keys, v :: vs, t :: ts, h, .cons hv hr, hl => by
    obtain ⟨e, key, ks', rfl, rfl, h', hk⟩ := keysOf_cons h
    exact pps_cons (hk X) hv (pps_all h' hr (by simpa using hl))
theorem pairs_of {K : Kx} {σ : St} : ∀ {keys : List Key} {ts : List T} {H : Hp} {ρ : List Addr} {ε : Sl} {S S1 : Store} {ds : List D} {R : List (V × V) → Hp → Prop}, Rep K ρ ε S σ H → denA F ts ε S = .ok ds S1 → keys.length = ts.length →
    (∀ ρ1 H1 vs, Ext ρ H ρ1 H1 → SRel K ρ1 S1 H1 → RelDs K ρ1 H1 ds vs → R ((keys.map kV).zip vs) H1) → tPairs ((keys.zip ts).map fun p => (tC (kV p.1), tE K.K F p.2)) σ H R
  | [], [], H, ρ, ε, S, S1, ds, R, rep, e, _, h => by
    cases e
    exact h ρ H [] Ext.refl rep.st rfl
  | [], _ :: _, _, _, _, _, _, _, _, _, _, hl, _ => by simp at hl
  | _ :: _, [], _, _, _, _, _, _, _, _, _, hl, _ => by simp at hl
  | k :: ks, t :: ts, H, ρ, ε, S, S1, ds, R, rep, e, hl, h => by
    simp only [denA] at e
    obtain ⟨d, S2, e1, e⟩ := Res.eq_of e
    obtain ⟨ds', S3, e2, e⟩ := Res.eq_of e
    cases e
    refine tE1 rep e1 fun ρ1 H1 v x1 s1 r1 => ?_
    refine pairs_of (rep.step x1 s1) e2 (by simpa using hl) fun ρ2 H2 vs x2 s2 r2 => ?_
    exact h ρ2 H2 (v :: vs) (x1.trans x2) s2 ⟨v, vs, rfl, RelD.mono x2 s1.locs _ _ r1, r2⟩
theorem putK_new {k : Key} {v : V} : ∀ {l : List (Key × V)}, k ∉ l.map (·.1) → L2.putK l k v = l ++ [(k, v)] := by
  intro l h
  unfold L2.putK
  rw [if_neg]
  intro q
  rw [List.any_eq_true] at q
  obtain ⟨p, hp, e⟩ := q
  exact h (List.mem_map.mpr ⟨p, hp, of_decide_eq_true e⟩)
theorem merge_new : ∀ {l acc : List (Key × V)}, (acc.map (·.1) ++ l.map (·.1)).Nodup → mergeK acc l = acc ++ l
  | [], acc, _ => by simp [mergeK]
  | p :: l, acc, h => by
    have hn : p.1 ∉ acc.map (·.1) := fun m => by
      rw [List.nodup_append] at h
      exact h.2.2 p.1 m p.1 (by simp) rfl
    show mergeK (L2.putK acc p.1 p.2) l = _
    rw [putK_new hn, merge_new]
    · simp
    · simpa using h
theorem relK_zip {K : Kx} {ρ : List Addr} {H : Hp} : ∀ {keys : List Key} {ds : List D} {vs : List V}, keys.length = ds.length → RelDs K ρ H ds vs → RelK K ρ H (keys.zip ds) (keys.zip vs)
  | [], [], _, _, r => by rw [show _ = _ from r]; exact rfl
  | [], _ :: _, _, h, _ => by simp at h
  | _ :: _, [], _, h, _ => by simp at h
  | k :: ks, d :: ds, _, h, r => by
    obtain ⟨v, vs, rfl, r1, r2⟩ := r
    exact ⟨v, ks.zip vs, rfl, r1, relK_zip (by simpa using h) r2⟩
theorem zip_keys : ∀ (ks : List Key) (vs : List V), (ks.map kV).zip vs = (ks.zip vs).map fun kv => (kV kv.1, kv.2)
  | [], _ => rfl
  | _ :: _, [] => rfl
  | k :: ks, v :: vs => by
    show (kV k, v) :: (ks.map kV).zip vs = _
    rw [zip_keys ks vs]
    rfl
theorem ex_dict {ks : List (Option Expr)} {keys : List Key} {vs : List Expr} {ts : List T} (h : keysOf ks = some keys) (hv : All2 (EX X F) vs ts) (hl : keys.length = vs.length) (h0 : keys ≠ []) (h15 : keys.length ≤ 15) :
    EX X F (.Dict ks vs pos) (.app (.dct keys) ts) := by
  obtain ⟨h1, h2⟩ := keysOf_some h
  have hts : vs.length = ts.length := by
    clear h hl h0 h15 h1 h2
    induction hv with
    | nil => rfl
    | cons _ _ ih => simp [ih]
  refine PE.imp (pe_disp (pps_all h hv (by omega)) h1 (by omega) (fun e => h0 (by subst e; cases h; rfl)) (by omega)) fun σ H Q ⟨ety, ρ, ε, S, rep, g⟩ => ?_
  simp only [denE, Res.good_andThen] at g
  obtain ⟨ds, S1, e1, g⟩ := Res.good_iff.mp g
  obtain ⟨hn, g⟩ := need_good g
  obtain ⟨hn1, hn2, hn3⟩ := of_decide_eq_true hn
  intro p hp
  have x0 : Ext ρ H ρ (upd H p (.dK [])) := Ext.upd hp
  have rep' := rep.step x0 (rep.st.upd hp)
  refine pairs_of rep' e1 (by omega) fun ρ1 H1 vs' x1 s1 r1 => ?_
  have hpρ : p ∉ ρ := rep.st.fresh hp
  have hp1 : H1 p = some (.dK []) := x1.keep p _ upd_same hpρ
  have hp2 : p ∉ ρ1 := x1.stays (o := .dK []) upd_same hpρ
  have hlv := r1.length
  refine ⟨hp1, keys.zip vs', ?_, by rw [List.length_zip]; omega, ?_⟩
  · exact zip_keys keys vs'
  · have nd : (([] : List (Key × V)).map (·.1) ++ (keys.zip vs').map (·.1)).Nodup := by
      rw [List.map_fst_zip (by omega)]
      simpa using hn2
    rw [merge_new nd, List.nil_append]
    have ext : Ext ρ H (ρ1 ++ [p]) (upd H1 p (.dK (keys.zip vs'))) := by
      obtain ⟨l, el⟩ := x1.pre
      refine ⟨⟨l ++ [p], by rw [el, List.append_assoc]⟩, fun a m n => ?_, fun a o q n => ?_⟩
      · rcases List.mem_append.mp m with m | m
        · have q := x1.new a m n
          by_cases ea : a = p
          · rw [ea]; exact hp
          · rw [upd_ne ea] at q; exact q
        · rw [List.mem_singleton.mp m]; exact hp
      · have ea : a ≠ p := ne_of_none q hp
        rw [upd_ne ea]
        exact x1.keep a o (by rw [upd_ne ea]; exact q) n
    refine g (ρ1 ++ [p]) _ _ ext (s1.adopt hp1 hp2 (relK_zip (by omega) r1)) ⟨p, rfl, ?_⟩
    rw [← s1.len, List.getElem?_append_right (Nat.le_refl _)]
    simp
end
end OW
end
section
set_option Elab.async false
set_option linter.all false
set_option autoImplicit false
set_option maxRecDepth 100000
set_option maxHeartbeats 4000000
/-! OwL: how a plain def's parameters are bound, positional values and keywords in order. -/
namespace OW
open PySem L2

theorem lookup_app {α : Type} (k : Str) : ∀ (l m : List (Str × α)), k ∉ l.map (·.1) → (l ++ m).lookup k = m.lookup k
  | [], _, _ => rfl
  | (a, b) :: l, m, h => by
    have hne : (k == a) = false := by
      rw [beq_eq_false_iff_ne]
      intro e
      exact h (by rw [e]; simp)
    rw [List.cons_append, List.lookup_cons, hne]
    exact lookup_app k l m fun q => h (by simp at q ⊢; exact .inr q)
theorem lookup_none {α : Type} (k : Str) (l : List (Str × α)) (h : k ∉ l.map (·.1)) : l.lookup k = none := by
  have := lookup_app k l [] h
  simpa using this
theorem lookup_self {α : Type} : ∀ {l : List (Str × α)} {p : Str × α}, (l.map (·.1)).Nodup → p ∈ l → l.lookup p.1 = some p.2
  | [], _, _, h => by cases h
  | (a, b) :: l, p, nd, h => by
    rw [List.map_cons, List.nodup_cons] at nd
    rcases List.mem_cons.mp h with e | h
    · subst e
      simp
    · have hne : (p.1 == a) = false := by
        rw [beq_eq_false_iff_ne]
        intro e
        exact nd.1 (by rw [← e]; exact List.mem_map.mpr ⟨p, h, rfl⟩)
      rw [List.lookup_cons, hne]
      exact lookup_self nd.2 h
theorem fm_lookup {α : Type} (l : List (Str × α)) (nd : (l.map (·.1)).Nodup) : (l.map (·.1)).filterMap (fun n => (l.lookup n).map fun v => (n, v)) = l := by
  rw [List.filterMap_map]
  have : ∀ p ∈ l, ((fun n => (l.lookup n).map fun v => (n, v)) ∘ fun (x : Str × α) => x.1) p = some p := by
    intro p hp
    simp only [Function.comp]
    rw [lookup_self nd hp]
    rfl
  rw [fmap_congr (g := some) this]
  simp
theorem loop_gen {f : Str × Value → List (Str × Value) × List (Str × Value) → Sem (ForInStep (List (Str × Value) × List (Str × Value)))} (names : List Str) : ∀ (kw acc : List (Str × Value)),
    (∀ x acc, x.1 ∈ names → x.1 ∉ acc.map (·.1) → f x (acc, []) = pure (.yield (acc ++ [(x.1, x.2)], []))) → (∀ p ∈ kw, p.1 ∈ names) → (acc.map (·.1) ++ kw.map (·.1)).Nodup → forIn kw (acc, []) f = pure (acc ++ kw, [])
  | [], acc, _, _, _ => by simp
  | p :: kw, acc, hf, hn, nd => by
    have hp : p.1 ∉ acc.map (·.1) := fun m => by
      rw [List.nodup_append] at nd
      exact nd.2.2 p.1 m p.1 (by simp) rfl
    rw [List.forIn_cons, hf p acc (hn p (List.mem_cons_self ..)) hp]
    simp only [pure_bind]
    rw [loop_gen names kw (acc ++ [(p.1, p.2)]) hf (fun q hq => hn q (List.mem_cons_of_mem _ hq)) (by simpa using nd)]
    simp
theorem zip_drop {α β : Type} : ∀ (ns : List α) (us ws : List β), us.length + ws.length = ns.length → ns.zip us ++ (ns.drop us.length).zip ws = ns.zip (us ++ ws)
  | ns, [], ws, _ => by simp
  | [], u :: us, ws, h => by simp at h
  | n :: ns, u :: us, ws, h => by
    have := zip_drop ns us ws (by simp at h; omega)
    simpa using this
theorem bind_gen {fd : FuncData} {as : List Arg} (h1 : fd.params.posonlyargs = []) (h2 : fd.params.args = as) (h3 : fd.params.vararg = none) (h4 : fd.params.kwonlyargs = []) (h5 : fd.params.kwarg = none) (h6 : fd.defaults = .none)
    (us ws : List Value) (hl : us.length + ws.length = as.length) (nd : (as.map (·.arg)).Nodup) :
    bindArgs fd ⟨us, ((as.map (·.arg)).drop us.length).zip ws⟩ = pure ((as.map (·.arg)).zip (us ++ ws)) := by
  have hlen : (as.map (·.arg)).length = us.length + ws.length := by simp [hl]
  have hz := zip_drop (as.map (·.arg)) us ws hlen.symm
  have hk : ((as.map (·.arg)).zip (us ++ ws)).map (·.1) = as.map (·.arg) := List.map_fst_zip (by simp; omega)
  unfold bindArgs
  simp only [h1, h2, h3, h4, h5, h6, List.map_nil, List.nil_append]
  rw [loop_gen (as.map (·.arg)) (((as.map (·.arg)).drop us.length).zip ws) ((as.map (·.arg)).zip us)]
  · rw [hz, pure_bind]
    show (do
      let _ ← seqItems? Value.none
      _) = _
    have hs : seqItems? Value.none = pure none := rfl
    rw [hs]
    simp only [pure_bind, Option.getD_none]
    have g1 : ¬ (us.length > (as.map (·.arg)).length) := by omega
    have hmiss : ((as.map (·.arg)).filter fun n => (((as.map (·.arg)).zip (us ++ ws)).lookup n).isNone) = [] := by
      rw [List.filter_eq_nil_iff]
      intro n hn
      rw [← hk] at hn
      obtain ⟨p, hp, e⟩ := List.mem_map.mp hn
      rw [← e, lookup_self (by rw [hk]; exact nd) hp]
      simp
    have hfm := fm_lookup ((as.map (·.arg)).zip (us ++ ws)) (by rw [hk]; exact nd)
    rw [hk] at hfm
    simp only [g1, decide_false, Bool.false_and, Bool.false_eq_true, if_false, List.drop_nil, List.length_nil, Nat.sub_zero, Nat.zero_sub, List.take_length, hmiss, List.isEmpty_nil, Bool.not_true, List.drop_length, List.zip_nil_right, List.forIn_nil, pure_bind, List.append_nil, hfm]
  · intro x acc hx hn
    have c1 : (List.map (fun x => x.arg) as).contains x.1 = true := by
      simpa using hx
    rw [if_pos (by rw [c1]; rfl), if_neg (by rw [lookup_none x.1 acc hn]; simp)]
  · intro p hp
    exact List.mem_of_mem_drop (List.of_mem_zip hp).1
  · rw [← List.map_append, hz, hk]
    exact nd
end OW
end
section
set_option Elab.async false
set_option linter.all false
set_option autoImplicit false
set_option maxRecDepth 100000
set_option maxHeartbeats 4000000
/-! OwM: calls of the program's own defs (with nothing in the way of repr's guard). -/
namespace OW
open PySem L2

/-- a def's promise, where the stack holds no guard -/
structure FnG (P : Program) (w : World) (K : PySem.W.Frag) (mg : Str → Option Value) (base : Heap) (k : Nat) (f : Addr) (fd : FuncData) (ps : List Str) (sp : Sp) : Prop where
  len : ∀ vs H Q E, sp vs H Q E → vs.length = ps.length
  run : ∀ (A : Around) (outer : List Env) (s : Shared) (H : Hp) (args : Args) (us : List Value) (vs : List V) (Q : VK) (E : XK), Room k A → A.guards = some [] → Env0 P w K mg base A outer s H → BindsTo s fd args (ps.zip us) → Vals vs us → sp vs H Q E →
    codeAny (model P w) A (.call (.ref f) args) (CR L2.CX0 outer P w H s Q E) s
/-- what a def does, by its meaning -/
def spF (K : PySem.W.Frag) (F : Fns) (x : Str) (np : Nat) : Sp := fun vs H Q _ => ∃ ety ρ S ds, SRel ⟨K, ety⟩ ρ S H ∧ RelDs ⟨K, ety⟩ ρ H ds vs ∧ ds.length = np ∧ (F x ds S).good (K2 ⟨K, ety⟩ ρ H Q)
/-- a def as callers know it -/
def DefOk (P : Program) (w : World) (K : PySem.W.Frag) (mg : Str → Option Value) (base : Heap) (k : Nat) (F : Fns) (x : Str) (ps : List Str) : Prop :=
  ∃ f fd, mg x = some (.ref f) ∧ PySem.W.keepIn K (.ref f) = true ∧ (∀ (s : Shared) (us ws : List Value), us.length + ws.length = ps.length → BindsTo s fd ⟨us, (ps.drop us.length).zip ws⟩ (ps.zip (us ++ ws))) ∧ FnG P w K mg base k f fd ps (spF K F x ps.length)

theorem all2_length {α β : Type} {R : α → β → Prop} {as : List α} {bs : List β} (h : All2 R as bs) : as.length = bs.length := by
  induction h with
  | nil => rfl
  | cons _ _ ih => simp [ih]
section
variable {X : Cx} {F : Fns} {es : List Expr} {ts us : List T} {kws : List Keyword} {pos p : Pos} {x : Str} {k : Nat} {ps : List Str}
theorem kw_facts (env : Env) (pos : Pos) : ∀ {kws : List Keyword} {ns : List Str}, kws.map (·.arg) = ns.map some → (backToKw pos (keywordEach kws env)).all (·.1.isSome) = true ∧ (backToKw pos (keywordEach kws env)).filterMap (·.1) = ns ∧ (backToKw pos (keywordEach kws env)).any (·.1.isNone) = false
  | [], [], _ => ⟨rfl, rfl, rfl⟩
  | [], _ :: _, h => by simp at h
  | _ :: _, [], h => by simp at h
  | ⟨nm, v, kp⟩ :: kws, n :: ns, h => by
    simp only [List.map_cons, List.cons.injEq] at h
    obtain ⟨h1, h2, h3⟩ := kw_facts env pos h.2
    have e : nm = some n := h.1
    subst e
    refine ⟨?_, ?_, ?_⟩
    · show (true && (backToKw pos (keywordEach kws env)).all (·.1.isSome)) = true
      rw [h1]; rfl
    · show n :: (backToKw pos (keywordEach kws env)).filterMap (·.1) = n :: ns
      rw [h2]
    · show (false || (backToKw pos (keywordEach kws env)).any (·.1.isNone)) = false
      rw [h3]; rfl
theorem pk_all : ∀ {kws : List Keyword} {us : List T}, All2 (fun (kw : Keyword) t => EX X F kw.value t) kws us → PK X kws (tAs X.K F us)
  | _, _, .nil => ⟨fun pos pins s σ H Q I ⟨ety, ρ, ε, S, rep, g⟩ => pk_nil.run pos pins s σ H Q I (g ρ [] H Ext.refl rep.st rfl)⟩
  | ⟨nm, e, kp⟩ :: kws, t :: ts, .cons h hr => by
    refine ⟨fun pos pins s σ H Q I ⟨ety, ρ, ε, S, rep, g⟩ => (pk_cons (kpos := kp) (nm := nm) h (pk_all hr)).run pos pins s σ H Q I ?_⟩
    simp only [denA, Res.good_andThen] at g
    obtain ⟨d, S1, e1, g⟩ := Res.good_iff.mp g
    obtain ⟨ds, S2, e2, g⟩ := Res.good_iff.mp g
    refine tE1 rep e1 fun ρ1 H1 v x1 s1 r1 => ⟨ety, ρ1, ε, S1, rep.step x1 s1, ?_⟩
    rw [e2]
    exact fun ρ2 vs H2 x2 s2 r2 => g ρ2 (v :: vs) H2 (x1.trans x2) s2 ⟨v, vs, rfl, RelD.mono x2 s1.locs _ _ r1, r2⟩
theorem denA_append (F : Fns) (ε : Sl) (us : List T) : ∀ (ts : List T) (S : Store), denA F (ts ++ us) ε S = (denA F ts ε S).andThen fun ds S1 => (denA F us ε S1).andThen fun es S2 => .ok (ds ++ es) S2
  | [], S => by
    show denA F us ε S = (denA F us ε S).andThen fun es S2 => .ok es S2
    cases denA F us ε S <;> rfl
  | t :: ts, S => by
    show (denE F t ε S).andThen (fun d S1 => (denA F (ts ++ us) ε S1).andThen fun ds S2 => .ok (d :: ds) S2) = ((denE F t ε S).andThen fun d S1 => (denA F ts ε S1).andThen fun ds S2 => .ok (d :: ds) S2).andThen _
    cases denE F t ε S with
    | ok d S1 =>
      simp only [Res.ok_andThen]
      rw [denA_append F ε us ts S1]
      cases denA F ts ε S1 with
      | ok ds S2 =>
        simp only [Res.ok_andThen]
        cases denA F us ε S2 <;> rfl
      | exc _ _ _ => rfl
      | bad => rfl
    | exc _ _ _ => rfl
    | bad => rfl
theorem denA_length {F : Fns} {ε : Sl} : ∀ {ts : List T} {S S' : Store} {ds : List D}, denA F ts ε S = .ok ds S' → ds.length = ts.length
  | [], _, _, _, h => by cases h; rfl
  | t :: ts, S, S', ds, h => by
    simp only [denA] at h
    obtain ⟨d, S1, _, h⟩ := Res.eq_of h
    obtain ⟨ds', S2, e, h⟩ := Res.eq_of h
    cases h
    simp [denA_length e]
theorem run_G {pins : List (Addr × Obj)} {σ : St} {H : Hp} {s : Shared} {Q : VK} {us ws : List Value} {vs zs : List V} {f : Addr} {fd : FuncData} {sp : Sp} {E : XK} (G : FnG X.prog X.w X.K X.mg X.base k f fd ps sp) (hr : Room k X.A) (hg : X.A.guards = some [])
    (hb : ∀ (s : Shared) (us ws : List Value), us.length + ws.length = ps.length → BindsTo s fd ⟨us, (ps.drop us.length).zip ws⟩ (ps.zip (us ++ ws)))
    (I : Inv X pins σ H s) (r : Vals vs us) (rz : Vals zs ws) (h : sp (vs ++ zs) H Q E) : wpAny (model X.prog X.w) X.A (call (.ref f) us ((ps.drop us.length).zip ws)) (EP X pins σ Q) X.xe s := by
  have r2 : Vals (vs ++ zs) (us ++ ws) := r.append rz
  have hl : (us ++ ws).length = ps.length := by rw [← r2.length]; exact G.len _ _ _ _ h
  refine wpAny_call (codeAny_mono (G.run X.A X.stack s H _ (us ++ ws) (vs ++ zs) Q E hr hg I.env0 (hb s us ws (by simpa using hl)) r2 h) fun r s' hq => ?_)
  cases r with
  | error e => exact False.elim hq
  | ok fl => cases fl with
    | ret u => exact I.after hq
    | _ => exact False.elim hq
theorem ex_call (hd : DefOk X.prog X.w X.K X.mg X.base k F x ps) (hr : Room k X.A) (hgd : X.A.guards = some []) (hg : Gl X x) (hdb : (x == ("__debug__" : Str)) = false) (ha : All2 (EX X F) es ts) (hs : es.all noStar = true)
    (hk : All2 (fun (kw : Keyword) t => EX X F kw.value t) kws us) (hn : kws.map (·.arg) = (ps.drop es.length).map some) (hle : es.length ≤ ps.length) : EX X F (.Call (.Name x p) es kws pos) (.call x (ts ++ us)) := by
  obtain ⟨f, fd, hm, kp, hb, G⟩ := hd
  obtain ⟨k1, k2, k3⟩ := kw_facts X.env pos hn
  have hlk : kws.length = ps.length - es.length := by
    have := congrArg List.length hn
    simpa using this
  have hle1 := all2_length ha
  have hle2 := all2_length hk
  refine ⟨fun pins s σ H Q I ⟨ety, ρ, ε, S, rep, g⟩ => ?_⟩
  simp only [denE, denA_append, Res.good_andThen] at g
  obtain ⟨ds, S1, e1, g⟩ := Res.good_iff.mp g
  obtain ⟨zs, S2, e2, g⟩ := Res.good_iff.mp g
  replace g : (F x (ds ++ zs) S2).good (K2 ⟨X.K, ety⟩ ρ H Q) := g
  have fin : ∀ ρ2 H2 (vs ws : List V), Ext ρ H ρ2 H2 → SRel ⟨X.K, ety⟩ ρ2 S2 H2 → RelDs ⟨X.K, ety⟩ ρ2 H2 ds vs → RelDs ⟨X.K, ety⟩ ρ2 H2 zs ws → vs.length = es.length → ws.length = kws.length → spF X.K F x ps.length (vs ++ ws) H2 Q (fun _ _ _ => False) := by
    intro ρ2 H2 vs ws x2 s2 r1 r2 l1 l2
    refine ⟨ety, ρ2, S2, ds ++ zs, s2, RelDs.append r1 r2, ?_, K2.good g x2⟩
    rw [List.length_append, r1.length, r2.length]
    omega
  have ld := denA_length e1
  have lz := denA_length e2
  refine wpAny_Call_Name_kw (ld_glob I hg hm ?_ hdb)
  cases es with
  | nil =>
    cases ha
    cases e1
    have hq : tAs X.K F us σ H fun ws H2 => spF X.K F x ps.length ([] ++ ws) H2 Q (fun _ _ _ => False) :=
      tAs_of rep e2 fun ρ2 H2 ws x2 s2 r2 => fin ρ2 H2 [] ws x2 s2 rfl r2 rfl (by rw [← r2.length]; omega)
    refine PySem.W.callWith_KW0 (h₀ := X.base) I.ok.mod.kin kp k1 (thn ((pk_all hk).run pos pins s σ H _ I hq) fun ws s2 ⟨zv, H2, I2, rz, q2⟩ => ⟨I2.kIn, ?_⟩) (by rw [k3]; rfl)
    rw [k2]
    exact run_G (us := []) G hr hgd hb I2 .nil rz q2
  | cons e es' =>
    have hs' : noStar e = true ∧ es'.all noStar = true := by simpa using hs
    have hq : tAs X.K F ts σ H fun vs H1 => tAs X.K F us σ H1 fun ws H2 => vs.length = (e :: es').length ∧ spF X.K F x ps.length (vs ++ ws) H2 Q (fun _ _ _ => False) :=
      tAs_of rep e1 fun ρ1 H1 vs x1 s1 r1 => tAs_of (rep.step x1 s1) e2 fun ρ2 H2 ws x2 s2 r2 => ⟨by rw [← r1.length]; omega, fin ρ2 H2 vs ws (x1.trans x2) s2 (RelDs.mono x2 s1.locs _ _ r1) r2 (by rw [← r1.length]; omega) (by rw [← r2.length]; omega)⟩
    refine PySem.W.callWith_KW (h₀ := X.base) I.ok.mod.kin kp k1 (thn ((pa_all ha hs).run pos pins s σ H _ I hq) fun us' s1 ⟨vs, H1, I1, r, q⟩ => ?_) (by rw [star_none X.env pos hs, k3]; rfl) (star_cons hs'.1 _ _)
    refine thn ((pk_all hk).run pos pins s1 σ H1 _ I1 q) fun ws s2 ⟨zv, H2, I2, rz, q1, q2⟩ => ⟨I2.kIn, ?_⟩
    rw [k2]
    have := r.length
    have hu : us'.length = (e :: es').length := by omega
    rw [← hu]
    exact run_G G hr hgd hb I2 r rz q2
end
end OW
end
section
set_option Elab.async false
set_option linter.all false
set_option autoImplicit false
set_option maxRecDepth 100000
set_option maxHeartbeats 4000000
/-! OwN: targets, and what is walked. -/
namespace OW
open PySem L2

/-- all slots but these stay -/
def SameB (l : List Nat) (σ σ' : St) : Prop := σ'.length = σ.length ∧ ∀ i, i ∉ l → σ'[i]? = σ[i]?
theorem SameB.refl (l : List Nat) (σ : St) : SameB l σ σ := ⟨rfl, fun _ _ => rfl⟩
theorem SameB.trans {l m : List Nat} {σ σ' σ'' : St} (a : SameB l σ σ') (b : SameB m σ' σ'') : SameB (l ++ m) σ σ'' :=
  ⟨b.1.trans a.1, fun i h => (b.2 i fun q => h (List.mem_append_right _ q)).trans (a.2 i fun q => h (List.mem_append_left _ q))⟩
/-- a target's reading -/
def gD (K : PySem.W.Frag) (g : Tg) : TG := fun v σ H Q => ∃ ety ρ ε S d ε', Rep ⟨K, ety⟩ ρ ε S σ H ∧ RelD ⟨K, ety⟩ ρ H d v ∧ storeTg g d ε = some ε' ∧ ∀ σ', Rep ⟨K, ety⟩ ρ ε' S σ' H → SameB (tgSlots g) σ σ' → Q σ' H
def gsD (K : PySem.W.Frag) (gs : List Tg) : TGs := fun vs σ H Q => ∃ ety ρ ε S ds ε', Rep ⟨K, ety⟩ ρ ε S σ H ∧ RelDs ⟨K, ety⟩ ρ H ds vs ∧ storeTgs gs ds ε = some ε' ∧ ∀ σ', Rep ⟨K, ety⟩ ρ ε' S σ' H → SameB (tgsSlots gs) σ σ' → Q σ' H

/-- what the built-in names are that must not be the module's -/
def bltNames : List Str := ["len", "repr", "int", "str", "tuple", "list", "all", "sorted", "range", "enumerate", "zip", "isinstance", "set", "bool"]
/-- a context in which the text of a def may be turned -/
structure Fine (X : Cx) (c : Cc) (k : Nat) (F : Fns) : Prop where
  N : X.N = c.N
  nd : c.N.Nodup
  sc : X.env.scope = c.sc
  calm : X.calm = true
  gd : X.A.guards = some []
  room : Room k X.A
  glob : ∀ x d, c.gc.lookup x = some d → ∃ u, X.mg x = some u ∧ GlobD X.K d u
  blt : ∀ x, x ∈ bltNames → X.mg x = none
  fns : ∀ x ps, c.fs.lookup x = some ps → DefOk X.prog X.w X.K X.mg X.base k F x ps
  st : ∀ x, isLoc c.sc x = true → okSt c x = true → X.fn x = true ∨ X.env.scope.names.lookup x = some .local
section
variable {X : Cx} {c : Cc} {k : Nat} {F : Fns}
theorem Fine.un (f : Fine X c k F) : X.A.units + 100 < cLine := by have := f.room.un; omega
theorem slot_at {N : List Str} {x : Str} {i : Nat} (h : slotOf N x = some i) : N[i]? = some x := by
  unfold slotOf at h
  simp only at h
  split at h
  · rename_i q
    cases h
    exact q
  · cases h
theorem Fine.slot (f : Fine X c k F) {x : Str} {i : Nat} (h : slotOf c.N x = some i) : X.N[i]? = some x := by rw [f.N]; exact slot_at h
theorem Fine.vis (f : Fine X c k F) {x : Str} (h : isVis c.sc x = true) : Vis X.env.scope x := by
  rw [f.sc]
  unfold isVis at h
  simp only [Bool.or_eq_true, beq_iff_eq] at h
  rcases h with (h | h) | h
  · exact .inl h
  · exact .inr (.inl h)
  · exact .inr (.inr h)
theorem Fine.loc (f : Fine X c k F) {x : Str} (h : isLoc c.sc x = true) : Loc X.env.scope x := by
  rw [f.sc]
  unfold isLoc at h
  simp only [Bool.or_eq_true, beq_iff_eq] at h
  exact h
theorem Fine.gl (f : Fine X c k F) {x : Str} (h : isGl c.sc x = true) : Gl X x := by
  unfold isGl at h
  simp only [beq_iff_eq] at h
  show X.env.scope.names.lookup x = _
  rw [f.sc]; exact h
theorem mapO_all {α β : Type} {f : α → Option β} : ∀ {l : List α} {m : List β}, mapO f l = some m → All2 (fun a b => f a = some b) l m
  | [], _, h => by cases h; exact .nil
  | a :: l, m, h => by
    unfold mapO at h
    split at h
    · rename_i y ys e1 e2
      cases h
      exact .cons e1 (mapO_all e2)
    · cases h
theorem asg_cons {e : Expr} (h : noStar e = true) (es : List Expr) (env : Env) : assignEach (e :: es) env = (false, assign e env) :: assignEach es env := by
  cases e with
  | Starred => cases h
  | _ => rfl
theorem asg_len (env : Env) : ∀ {es : List Expr}, es.all noStar = true → (assignEach es env).length = es.length ∧ (assignEach es env).findIdx? (·.1) = none
  | [], _ => ⟨rfl, rfl⟩
  | e :: es, h => by
    simp only [List.all_cons, Bool.and_eq_true] at h
    obtain ⟨h1, h2⟩ := asg_len env h.2
    rw [asg_cons h.1]
    refine ⟨by simp [h1], ?_⟩
    rw [List.findIdx?_cons]
    simp [h2]
theorem pg_of (f : Fine X c k F) : ∀ (n : Nat) (e : Expr) (g : Tg), compG n c e = some g → PG X e (gD X.K g) := by
  intro n
  induction n with
  | zero => intro e g h; cases h
  | succ n ih =>
    intro e g h
    unfold compG at h
    split at h
    · rename_i x p
      split at h
      · rename_i hx
        rw [Bool.and_eq_true] at hx
        cases q : slotOf c.N x with
        | none => rw [q] at h; cases h
        | some i =>
          rw [q] at h
          cases h
          have pn : PG X (.Name x p) (gName i) := pg_name (by rw [f.N]; exact f.nd) (f.slot q) (f.loc hx.1) (f.st x hx.1 hx.2)
          refine ⟨fun pins s σ H v u Q I rv hq => pn.run pins s σ H v u Q I rv ?_⟩
          obtain ⟨ety, ρ, ε, S, d, ε', rep, rd, e1, hq⟩ := hq
          cases e1
          refine hq _ (rep.set i rd) ⟨by simp, fun j hj => ?_⟩
          rw [List.getElem?_set_ne]
          intro e
          exact hj (by simp [tgSlots, e])
      · cases h
    · rename_i es kk p
      split at h
      · rename_i hs
        cases q : mapO (compG n c) es with
        | none => rw [q] at h; cases h
        | some gs =>
          rw [q] at h
          cases h
          have all := mapO_all q
          have pgs : PGs X es (gsD X.K gs) := by
            clear q
            induction all with
            | nil =>
              refine ⟨fun pins s σ H vs us Q I rv hq => pgs_nil.run pins s σ H vs us Q I rv ?_⟩
              obtain ⟨ety, ρ, ε, S, ds, ε', rep, rd, e1, hq⟩ := hq
              cases ds with
              | nil => cases e1; exact ⟨rd, hq σ rep (SameB.refl _ _)⟩
              | cons _ _ => cases e1
            | @cons e g es gs h1 h2 ih2 =>
              simp only [List.all_cons, Bool.and_eq_true] at hs
              refine ⟨fun pins s σ H vs us Q I rv hq => (pgs_cons (ih e g h1) (ih2 hs.2) (by rw [asg_cons hs.1]; rfl)).run pins s σ H vs us Q I rv ?_⟩
              obtain ⟨ety, ρ, ε, S, ds, ε', rep, rd, e1, hq⟩ := hq
              cases ds with
              | nil => cases e1
              | cons d ds =>
                obtain ⟨v, r, rfl, r1, r2⟩ := rd
                have e1' : ((storeTg g d ε).bind fun ε1 => storeTgs gs ds ε1) = some ε' := e1
                cases q : storeTg g d ε with
                | none => rw [q] at e1'; cases e1'
                | some ε1 =>
                  rw [q] at e1'
                  refine ⟨v, r, rfl, ety, ρ, ε, S, d, ε1, rep, r1, q, fun σ1 rep1 sb1 => ?_⟩
                  exact ⟨ety, ρ, ε1, S, ds, ε', rep1, r2, e1', fun σ2 rep2 sb2 => hq σ2 rep2 (sb1.trans sb2)⟩
          have hl := asg_len X.env hs
          refine ⟨fun pins s σ H v u Q I rv hq => (pg_tup (n := es.length) f.calm pgs hl.1 hl.2).run pins s σ H v u Q I rv ?_⟩
          obtain ⟨ety, ρ, ε, S, d, ε', rep, rd, e1, hq⟩ := hq
          cases d with
          | tup ds =>
            obtain ⟨a, vs, rfl, qa, r⟩ := rd
            refine ⟨a, vs, rfl, qa, ?_, ety, ρ, ε, S, ds, ε', rep, r, e1, hq⟩
            have e2 : storeTgs gs ds ε = some ε' := e1
            have : ∀ (gs : List Tg) (ds : List D) (ε ε' : Sl), storeTgs gs ds ε = some ε' → ds.length = gs.length := by
              intro gs
              induction gs with
              | nil => intro ds ε ε' h; cases ds with
                | nil => rfl
                | cons _ _ => cases h
              | cons g gs ih3 =>
                intro ds ε ε' h
                cases ds with
                | nil => cases h
                | cons d ds =>
                  have h' : ((storeTg g d ε).bind fun ε1 => storeTgs gs ds ε1) = some ε' := h
                  cases q : storeTg g d ε with
                  | none => rw [q] at h'; cases h'
                  | some ε1 =>
                    rw [q] at h'
                    simp [ih3 ds ε1 ε' h']
            rw [← r.length, this gs ds ε ε' e2, all2_length all]
          | _ => cases e1
      · cases h
    · cases h

/-! ### what is walked -/
structure Wk (K : Kx) (ρ : List Addr) (H : Hp) (J : It) (xs : List D) : Prop where
  turn : ∀ (i : Nat) (d : D), xs[i]? = some d → J.go i H ∧ ∀ v H', J.yld i H v H' → (H' = H ∧ RelD K ρ H d v) ∨ ∃ p vs ds, H p = none ∧ v = .ref p ∧ H' = upd H p (.tup vs) ∧ d = .tup ds ∧ RelDs K ρ H ds vs
  stop : ∀ i, xs.length ≤ i → J.stop i H
def Wks (K : Kx) (ρ : List Addr) (H : Hp) (J : It) (xs : List D) : Prop := ∀ K' ρ' H', Keep K ρ H K' ρ' H' → Wk K' ρ' H' J xs
def iD (K : PySem.W.Frag) (F : Fns) (it : Itr) : TI := fun σ H R => ∃ ety ρ ε S, Rep ⟨K, ety⟩ ρ ε S σ H ∧ (denI F it ε S).good fun xs S1 => ∀ ρ1 H1 J, Ext ρ H ρ1 H1 → SRel ⟨K, ety⟩ ρ1 S1 H1 → Wks ⟨K, ety⟩ ρ1 H1 J xs → R J H1
theorem wk_tup {K : Kx} {ρ : List Addr} {H : Hp} {a : Addr} {xs : List D} {vs : List V} (q : SqT K.K H a vs) (r : RelDs K ρ H xs vs) : Wks K ρ H (Itt K.K a) xs := by
  intro K' ρ' H' kp
  have q' := kp.tup a vs q
  have r' := RelDs.keep kp _ _ r
  refine ⟨fun i d e => ?_, fun i hi => ⟨vs, q', by rw [← r.length]; exact hi⟩⟩
  obtain ⟨v, ev, rv⟩ := r'.get e
  refine ⟨⟨vs, v, q', ev⟩, fun w H2 ⟨e2, hy⟩ => .inl ⟨e2, ?_⟩⟩
  have := hy vs q'
  rw [ev] at this
  cases this
  exact rv
theorem wk_lst {K : Kx} {ρ : List Addr} {H : Hp} {a : Addr} {xs : List D} {vs : List V} (q : H a = some (.lst vs)) (n : a ∉ ρ) (m : a ∉ K.ety) (r : RelDs K ρ H xs vs) : Wks K ρ H (Itl K.K a) xs := by
  intro K' ρ' H' kp
  have q' : SqL K.K H' a vs := SqL.of (kp.lst a vs q n m).1
  have r' := RelDs.keep kp _ _ r
  refine ⟨fun i d e => ?_, fun i hi => ⟨vs, q', by rw [← r.length]; exact hi⟩⟩
  obtain ⟨v, ev, rv⟩ := r'.get e
  refine ⟨⟨vs, v, q', ev⟩, fun w H2 ⟨e2, hy⟩ => .inl ⟨e2, ?_⟩⟩
  have := hy vs q'
  rw [ev] at this
  cases this
  exact rv
theorem wk_ro {K : Kx} {ρ : List Addr} {H : Hp} {a : Addr} {xs : List D} {vs : List V} (q : (∃ o, H a = some (.frz o (.lst vs))) ∨ KL K.K a vs) (r : RelDs K ρ H xs vs) : Wks K ρ H (Itl K.K a) xs := by
  intro K' ρ' H' kp
  have q' : SqL K.K H' a vs := by
    rcases q with ⟨o, q⟩ | q
    · exact .inl (.inr ⟨o, kp.frz a o vs q⟩)
    · exact .inr q
  have r' := RelDs.keep kp _ _ r
  refine ⟨fun i d e => ?_, fun i hi => ⟨vs, q', by rw [← r.length]; exact hi⟩⟩
  obtain ⟨v, ev, rv⟩ := r'.get e
  refine ⟨⟨vs, v, q', ev⟩, fun w H2 ⟨e2, hy⟩ => .inl ⟨e2, ?_⟩⟩
  have := hy vs q'
  rw [ev] at this
  cases this
  exact rv
theorem wk_str {K : Kx} {ρ : List Addr} {H : Hp} (x : Str) : Wks K ρ H (Its x) (signsD x) := by
  intro K' ρ' H' kp
  refine ⟨fun i d e => ?_, fun i hi => ?_⟩
  · simp only [signsD, List.getElem?_map] at e
    cases q : x.cps.toList[i]? with
    | none => rw [q] at e; cases e
    | some ch =>
      rw [q] at e
      cases e
      have hi : i < x.cps.size := by simpa using (List.getElem?_eq_some_iff.mp q).1
      refine ⟨hi, fun v H2 ⟨e2, c2, ec, ev⟩ => .inl ⟨e2, ?_⟩⟩
      have : x.cps[i]? = some ch := by simpa using q
      rw [this] at ec
      cases ec
      exact ev
  · show x.cps.size ≤ i
    simpa [signsD] using hi
theorem wk_rng {K : Kx} {ρ : List Addr} {H : Hp} (lo hi : Int) : Wks K ρ H (L2.Itr lo (hi - lo).toNat) (rngD lo hi) := by
  intro K' ρ' H' kp
  refine ⟨fun i d e => ?_, fun i hi => ?_⟩
  · simp only [rngD, List.getElem?_map] at e
    by_cases hi' : i < (hi - lo).toNat
    · rw [List.getElem?_range hi'] at e
      cases e
      exact ⟨hi', fun v H2 ⟨e2, ev⟩ => .inl ⟨e2, ev⟩⟩
    · rw [List.getElem?_eq_none (by simpa using hi')] at e
      cases e
  · show (_ : Nat) ≤ i
    simpa [rngD] using hi
theorem wk_zip {K : Kx} {ρ : List Addr} {H : Hp} {a b : Addr} {xs ys : List D} {vs ws : List V} (q : SqT K.K H a vs) (q2 : SqT K.K H b ws) (r : RelDs K ρ H xs vs) (r2 : RelDs K ρ H ys ws) :
    Wks K ρ H (RZ.ItzT K.K a b) ((xs.zip ys).map fun p => D.tup [p.1, p.2]) := by
  intro K' ρ' H' kp
  have q' := kp.tup a vs q
  have q2' := kp.tup b ws q2
  have r' := RelDs.keep kp _ _ r
  have r2' := RelDs.keep kp _ _ r2
  have l1 := r.length
  have l2 := r2.length
  refine ⟨fun i d e => ?_, fun i hi => ⟨vs, ws, q', q2', ?_⟩⟩
  · rw [List.getElem?_map] at e
    cases ez : (xs.zip ys)[i]? with
    | none => rw [ez] at e; cases e
    | some pr =>
      rw [ez] at e
      cases e
      obtain ⟨e1, e2⟩ := List.getElem?_zip_eq_some.mp ez
      obtain ⟨v, ev, rv⟩ := r'.get e1
      obtain ⟨w, ew, rw'⟩ := r2'.get e2
      refine ⟨⟨vs, ws, v, w, q', q2', ev, ew⟩, fun u H2 ⟨p, x, y, hu, hp, hH, hx, hy⟩ => .inr ⟨p, [v, w], [pr.1, pr.2], hp, hu, ?_, rfl, RelDs.two rv rw'⟩⟩
      have h1 := hx vs q'
      have h2 := hy ws q2'
      rw [ev] at h1
      rw [ew] at h2
      cases h1
      cases h2
      exact hH
  · simp only [List.length_map, List.length_zip] at hi
    omega

/-! ### iterables -/
variable {e a b : Expr} {ta tb : T} {tg : Expr} {p pos : Pos}
theorem ix_seq (he : EX X F e ta) : PI X tg e (iD X.K F (.seq ta)) := by
  refine ⟨fun pins s σ H R I ⟨ety, ρ, ε, S, rep, g⟩ => ?_⟩
  simp only [denI, Res.good_andThen] at g
  obtain ⟨d, S1, e1, g⟩ := Res.good_iff.mp g
  cases d with
  | tup xs =>
    refine (pi_tup he).run pins s σ H R I (tE1 rep e1 fun ρ1 H1 v x1 s1 r1 => ?_)
    obtain ⟨q, vs, rfl, hq, r⟩ := r1
    exact ⟨q, rfl, ⟨vs, hq⟩, g ρ1 H1 _ x1 s1 (wk_tup hq r)⟩
  | lst xs =>
    refine (pi_list he).run pins s σ H R I (tE1 rep e1 fun ρ1 H1 v x1 s1 r1 => ?_)
    obtain ⟨q, vs, rfl, hq, hn, hm, r⟩ := r1
    exact ⟨q, rfl, ⟨vs, SqL.of hq⟩, g ρ1 H1 _ x1 s1 (wk_lst hq hn hm r)⟩
  | ro xs =>
    refine (pi_list he).run pins s σ H R I (tE1 rep e1 fun ρ1 H1 v x1 s1 r1 => ?_)
    obtain ⟨q, vs, rfl, hq, r⟩ := r1
    exact ⟨q, rfl, ⟨vs, ro_sq hq⟩, g ρ1 H1 _ x1 s1 (wk_ro hq r)⟩
  | str z =>
    refine (pi_str he).run pins s σ H R I (tE1 rep e1 fun ρ1 H1 v x1 s1 r1 => ?_)
    exact ⟨z, r1, g ρ1 H1 _ x1 s1 (wk_str z)⟩
  | _ => exact (show False from g).elim
theorem bnd62_iff {i : Int} (h : bnd62 i = true) : -(2 ^ 62) ≤ i ∧ i < 2 ^ 62 := of_decide_eq_true h
theorem ix_range1 (hg : Gl X "range") (hm : X.mg "range" = none) (ha : EX X F a ta) (hs : noStar a = true) : PI X tg (.Call (.Name "range" p) [a] [] pos) (iD X.K F (.range1 ta)) := by
  refine ⟨fun pins s σ H R I ⟨ety, ρ, ε, S, rep, g⟩ => ?_⟩
  simp only [denI, Res.good_andThen] at g
  obtain ⟨d, S1, e1, g⟩ := Res.good_iff.mp g
  cases d with
  | int n =>
    obtain ⟨hb, g⟩ := need_good g
    have hb := bnd62_iff hb
    refine (pi_range1 hg hm (pa_cons ha pa_nil (star_cons hs _ _)) (star_cons hs _ _)).run pins s σ H R I (tE1 rep e1 fun ρ1 H1 v x1 s1 r1 => ?_)
    have wk := wk_rng (K := ⟨X.K, ety⟩) (ρ := ρ1) (H := H1) 0 n
    rw [show (n - 0).toNat = n.toNat by rw [Int.sub_zero]] at wk
    exact ⟨n, by rw [show v = _ from r1], hb.1, hb.2, g ρ1 H1 _ x1 s1 wk⟩
  | _ => exact (show False from g).elim
theorem ix_range2 (hg : Gl X "range") (hm : X.mg "range" = none) (ha : EX X F a ta) (hb : EX X F b tb) (hs : noStar a = true) (hs2 : noStar b = true) : PI X tg (.Call (.Name "range" p) [a, b] [] pos) (iD X.K F (.range2 ta tb)) := by
  refine ⟨fun pins s σ H R I ⟨ety, ρ, ε, S, rep, g⟩ => ?_⟩
  simp only [denI, Res.good_andThen] at g
  obtain ⟨d, S1, e1, g⟩ := Res.good_iff.mp g
  obtain ⟨d2, S2, e2, g⟩ := Res.good_iff.mp g
  cases d with
  | int i =>
    cases d2 with
    | int j =>
      obtain ⟨hb', g⟩ := need_good g
      rw [Bool.and_eq_true] at hb'
      have h1 := bnd62_iff hb'.1
      have h2 := bnd62_iff hb'.2
      refine (pi_range2 hg hm (pa_cons ha (pa_cons hb pa_nil (star_cons hs2 _ _)) (star_cons hs _ _)) (by rw [star_cons hs, star_cons hs2]; rfl) (star_cons hs2 _ _)).run pins s σ H R I (tE2 rep e1 e2 fun ρ2 H2 v w x2 s2 r1 r2 => ?_)
      exact ⟨i, j, by rw [show v = _ from r1, show w = _ from r2], ⟨h1.1, h1.2, h2.1, h2.2⟩, g ρ2 H2 _ x2 s2 (wk_rng i j)⟩
    | _ => exact (show False from g).elim
  | _ => cases d2 <;> exact (show False from g).elim
theorem ix_zip {elts : List Expr} {kk : Nat} {tpos : Pos} (hg : Gl X "zip") (hm : X.mg "zip" = none) (ha : EX X F a ta) (hb : EX X F b tb) (hs : noStar a = true) (hs2 : noStar b = true) : PI X (.Tuple elts kk tpos) (.Call (.Name "zip" p) [a, b] [] pos) (iD X.K F (.zip ta tb)) := by
  refine ⟨fun pins s σ H R I ⟨ety, ρ, ε, S, rep, g⟩ => ?_⟩
  simp only [denI, Res.good_andThen] at g
  obtain ⟨d, S1, e1, g⟩ := Res.good_iff.mp g
  obtain ⟨d2, S2, e2, g⟩ := Res.good_iff.mp g
  cases d with
  | tup xs =>
    cases d2 with
    | tup ys =>
      refine (RZ.pi_zipA hg hm (pa_cons ha (pa_cons hb pa_nil (star_cons hs2 _ _)) (star_cons hs _ _)) (star_cons hs _ _) (by rw [star_cons hs2]; rfl)).run pins s σ H R I (tE2 rep e1 e2 fun ρ2 H2 v w x2 s2 r1 r2 => ?_)
      obtain ⟨q, vs, rfl, hq, r⟩ := r1
      obtain ⟨q', ws, rfl, hq', r'⟩ := r2
      exact ⟨q, q', vs, ws, rfl, .inr ⟨hq, hq', g ρ2 H2 _ x2 s2 (wk_zip hq hq' r r')⟩⟩
    | _ => exact (show False from g).elim
  | _ => cases d2 <;> exact (show False from g).elim
end
end OW
end
section
set_option Elab.async false
set_option linter.all false
set_option autoImplicit false
set_option maxRecDepth 100000
set_option maxHeartbeats 4000000
/-! OwO: list comprehensions. -/
namespace OW
open PySem L2

theorem wipe_in {σ : St} {i : Nat} : ∀ {vs : List Nat}, i ∈ vs → i < σ.length → (wipe σ vs)[i]? = some none
  | [], h, _ => by cases h
  | v :: vs, h, hl => by
    unfold wipe
    by_cases e : v = i
    · subst e
      rw [List.getElem?_set_self (by rw [wipe_length]; exact hl)]
    · rw [List.getElem?_set_ne e]
      exact wipe_in ((List.mem_cons.mp h).elim (fun q => absurd q.symm e) id) hl
theorem wipe_same {σ σ' : St} {vs : List Nat} (hl : σ'.length = σ.length) (h : ∀ i, i ∉ vs → σ'[i]? = σ[i]?) : wipe σ' vs = wipe σ vs := by
  apply List.ext_getElem?
  intro i
  by_cases hi : i ∈ vs
  · by_cases hlt : i < σ.length
    · rw [wipe_in hi hlt, wipe_in hi (by omega)]
    · rw [List.getElem?_eq_none (by rw [wipe_length]; omega), List.getElem?_eq_none (by rw [wipe_length]; omega)]
  · rw [wipe_get hi, wipe_get hi]
    exact h i hi
/-- one turn of a comprehension -/
def turnD (F : Fns) (g : Tg) (cond : Option T) (elt : T) (ε0 : Sl) (x : D) (S2 : Store) : Res (Option D) :=
  match storeTg g x ε0 with
  | none => .bad
  | some ε2 => (match cond with
    | none => (denE F elt ε2 S2).andThen fun d S3 => .ok (some d) S3
    | some c => (denE F c ε2 S2).andThen fun k S3 => (truD S3 k).andThen fun b S4 => if b = true then (denE F elt ε2 S4).andThen fun d S5 => .ok (some d) S5 else .ok none S4)
section
variable {X : Cx} {F : Fns}
/-- a test of a comprehension, or none -/
def tCond (K : PySem.W.Frag) (F : Fns) : Option T → TT
  | none => tYes
  | some c => tT K F c
theorem ex_comp {elt tg iter : Expr} {ifs : List Expr} {scope : Scope} {own : List (Str × Nat)} {g : Tg} {it : Itr} {cond : Option T} {te : T} (hc : X.calm = true) (hN : X.N.Nodup) (hi : PI X tg iter (iD X.K F it)) (ok : BlkOk X.N X.env.scope scope own)
    (hg : ∀ (s : Shared) (H : Hp) (C : Addr) (cl : List (Str × Addr)) (fp : List Addr), PG (X.blk s H scope (compEnvC scope cl C X.env) fp) tg (gD X.K g))
    (ht : ∀ (s : Shared) (H : Hp) (C : Addr) (cl : List (Str × Addr)) (fp : List Addr), PTs (X.blk s H scope (compEnvC scope cl C X.env) fp) ifs (tCond X.K F cond))
    (he : ∀ (s : Shared) (H : Hp) (C : Addr) (cl : List (Str × Addr)) (fp : List Addr), PE (X.blk s H scope (compEnvC scope cl C X.env) fp) elt (tE X.K F te))
    (hs : ∀ x, foldedSetIterable iter X.env x = pure x) (hsub : ∀ i ∈ tgSlots g, i ∈ own.map (·.2)) :
    (∀ σ H Q, tE X.K F (.comp g it cond te (own.map (·.2))) σ H Q → tLc (iD X.K F it) (gD X.K g) (tCond X.K F cond) (tE X.K F te) (own.map (·.2)) σ H Q) := by
  intro σ H Q ⟨ety, ρ, ε, S, rep, g0⟩
  simp only [denE, Res.good_andThen] at g0
  obtain ⟨xs, S1, e1, g1⟩ := Res.good_iff.mp g0
  obtain ⟨ys, S6, e2, g2⟩ := Res.good_iff.mp g1
  clear g0 g1
  replace e2 : compGo (turnD F g cond te (wipeD ε (own.map (·.2)))) xs [] S1 = .ok ys S6 := e2
  replace g2 : K2 ⟨X.K, ety⟩ ρ H Q (.lst ys) S6 := g2
  refine ⟨ety, ρ, ε, S, rep, ?_⟩
  rw [e1]
  intro ρ1 H1 J x1 s1 wks Dd hD
  have rep1 := (rep.step x1 s1).wipe (own.map (·.2))
  let κ : Kx := ⟨X.K, Dd :: ety⟩
  refine ⟨fun i m Hi => m = xs.length - i ∧ i ≤ xs.length ∧ ∃ ρi Si acc accV, Ext ρ1 H1 ρi Hi ∧ Keep ⟨X.K, ety⟩ ρ1 H1 κ ρi Hi ∧ SRel κ ρi Si Hi ∧ Hi Dd = some (.lst accV) ∧ RelDs κ ρi Hi acc accV ∧ compGo (turnD F g cond te (wipeD ε (own.map (·.2)))) (xs.drop i) acc Si = .ok ys S6, ?_, ?_⟩
  · exact ⟨xs.length, rfl, Nat.zero_le _, ρ1, S1, [], [], Ext.upd hD, Keep.hide hD, s1.hide hD, upd_same, rfl, e2⟩
  · rintro i m Hi ⟨hm, hle, ρi, Si, acc, accV, xi, kp, si, hDi, ra, eg⟩
    have wk := wks κ ρi Hi kp
    have hDety : Dd ∈ κ.ety := List.mem_cons_self ..
    have hDρ := (si.hid Dd hDety).1
    by_cases hlt : i < xs.length
    · right
      have ed : xs[i]? = some xs[i] := List.getElem?_eq_getElem hlt
      obtain ⟨go, yld⟩ := wk.turn i _ ed
      rw [List.drop_eq_getElem_cons hlt] at eg
      have eg' : (turnD F g cond te (wipeD ε (own.map (·.2))) xs[i] Si).andThen (fun o S1 => match o with
        | some d => need (decide (acc.length < sizeLine)) (compGo (turnD F g cond te (wipeD ε (own.map (·.2)))) (xs.drop (i + 1)) (acc ++ [d]) S1)
        | none => compGo (turnD F g cond te (wipeD ε (own.map (·.2)))) (xs.drop (i + 1)) acc S1) = .ok ys S6 := eg
      obtain ⟨o, S2, et, eg2⟩ := Res.eq_of eg'
      refine ⟨go, fun Hn => m - 1 = xs.length - (i + 1) ∧ i + 1 ≤ xs.length ∧ ∃ ρi Si acc accV, Ext ρ1 H1 ρi Hn ∧ Keep ⟨X.K, ety⟩ ρ1 H1 κ ρi Hn ∧ SRel κ ρi Si Hn ∧ Hn Dd = some (.lst accV) ∧ RelDs κ ρi Hn acc accV ∧ compGo (turnD F g cond te (wipeD ε (own.map (·.2)))) (xs.drop (i + 1)) acc Si = .ok ys S6, fun Hn hn => ⟨m - 1, by omega, hn⟩, fun v H2 hy => ?_⟩
      -- behind the yield
      have yl : Ext ρi Hi ρi H2 ∧ SRel κ ρi Si H2 ∧ RelD κ ρi H2 xs[i] v := by
        rcases yld v H2 hy with ⟨rfl, rv⟩ | ⟨p, vs, ds, hp, rfl, rfl, ed2, rds⟩
        · exact ⟨Ext.refl, si, rv⟩
        · rw [ed2]
          exact ⟨Ext.upd hp, si.upd hp, ⟨p, vs, rfl, SqT.of upd_same, RelDs.mono (Ext.upd hp) si.locs _ _ rds⟩⟩
      obtain ⟨xy, sy, ry⟩ := yl
      have kpy := kp.trans (xy.toKeep (K := κ) si.locs)
      have hDy : H2 Dd = some (.lst accV) := xy.keep _ _ hDi hDρ
      have rey : Rep κ ρi (wipeD ε (own.map (·.2))) Si (wipe σ (own.map (·.2))) H2 := rep1.keep kpy sy
      unfold turnD at et
      cases est : storeTg g xs[i] (wipeD ε (own.map (·.2))) with
      | none => rw [est] at et; cases et
      | some ε2 =>
        rw [est] at et
        refine ⟨Dd :: ety, ρi, _, Si, xs[i], ε2, rey, ry, est, fun σ2 rep2 sb => ⟨?_, ?_⟩⟩
        · refine wipe_same (by rw [sb.1, wipe_length]) fun j hj => ?_
          rw [sb.2 j fun q => hj (hsub j q), wipe_get hj]
        · -- what the element gives
          have elem : ∀ (Sa : Store) (ρa : List Addr) (Ha : Hp) (d : D) (Sb : Store), Ext ρi H2 ρa Ha → SRel κ ρa Sa Ha → denE F te ε2 Sa = .ok d Sb → acc.length < sizeLine → compGo (turnD F g cond te (wipeD ε (own.map (·.2)))) (xs.drop (i + 1)) (acc ++ [d]) Sb = .ok ys S6 →
              tE X.K F te σ2 Ha fun y H4 => ∃ acc', H4 Dd = some (.lst acc') ∧ acc'.length < sizeLine ∧ (m - 1 = xs.length - (i + 1) ∧ i + 1 ≤ xs.length ∧ ∃ ρi Si acc accV, Ext ρ1 H1 ρi (upd H4 Dd (.lst (acc' ++ [y]))) ∧ Keep ⟨X.K, ety⟩ ρ1 H1 κ ρi (upd H4 Dd (.lst (acc' ++ [y]))) ∧ SRel κ ρi Si (upd H4 Dd (.lst (acc' ++ [y]))) ∧ upd H4 Dd (.lst (acc' ++ [y])) Dd = some (.lst accV) ∧ RelDs κ ρi (upd H4 Dd (.lst (acc' ++ [y]))) acc accV ∧ compGo (turnD F g cond te (wipeD ε (own.map (·.2)))) (xs.drop (i + 1)) acc Si = .ok ys S6) := by
            intro Sa ρa Ha d Sb xa sa ea hlen hgo
            refine tE1 (rep2.step xa sa) ea fun ρ4 H4 y x4 s4 r4 => ?_
            have x24 := xa.trans x4
            have hD4 : H4 Dd = some (.lst accV) := x24.keep _ _ hDy hDρ
            have k24 : Keep κ ρi H2 κ ρ4 H4 := x24.toKeep (K := κ) sy.locs
            have kg : Keep κ ρ4 H4 κ ρ4 (upd H4 Dd (.lst (accV ++ [y]))) := Keep.grow hD4 hDety
            refine ⟨accV, hD4, by rw [← ra.length]; exact hlen, by omega, by omega, ρ4, Sb, acc ++ [d], accV ++ [y], ?_, ?_, ?_, upd_same, ?_, hgo⟩
            · exact ((xi.trans xy).trans x24).behind hD
            · exact (kpy.trans k24).trans kg
            · exact s4.grow hD4 hDety
            · refine RelDs.append (RelDs.keep kg _ _ (RelDs.keep k24 _ _ (RelDs.mono xy si.locs _ _ ra))) (RelDs.one (RelD.keep kg _ _ r4))
          cases cond with
          | none =>
            obtain ⟨d, S3, ed3, eo⟩ := Res.eq_of et
            cases eo
            obtain ⟨hlen, hgo⟩ : acc.length < sizeLine ∧ compGo (turnD F g none te (wipeD ε (own.map (·.2)))) (xs.drop (i + 1)) (acc ++ [d]) S2 = .ok ys S6 := by
              by_cases hl : acc.length < sizeLine
              · refine ⟨hl, ?_⟩
                simpa [need, hl] using eg2
              · simp [need, hl] at eg2
            exact elem Si ρi H2 d S2 Ext.refl sy ed3 hlen hgo
          | some c =>
            obtain ⟨kd, S3, ek, et2⟩ := Res.eq_of et
            obtain ⟨b, S4, eb, et3⟩ := Res.eq_of et2
            refine tT_of (k := b) (S1 := S4) rep2 (by simp only [denT, ek, Res.ok_andThen, eb]) fun ρ3 H3 x3 s3 => ?_
            cases b with
            | true =>
              obtain ⟨d, S5, ed5, eo⟩ := Res.eq_of et3
              cases eo
              obtain ⟨hlen, hgo⟩ : acc.length < sizeLine ∧ compGo (turnD F g (some c) te (wipeD ε (own.map (·.2)))) (xs.drop (i + 1)) (acc ++ [d]) S2 = .ok ys S6 := by
                by_cases hl : acc.length < sizeLine
                · refine ⟨hl, ?_⟩
                  simpa [need, hl] using eg2
                · simp [need, hl] at eg2
              exact elem S4 ρ3 H3 d S2 x3 s3 ed5 hlen hgo
            | false =>
              cases et3
              have k3 : Keep κ ρi H2 κ ρ3 H3 := x3.toKeep (K := κ) sy.locs
              exact ⟨by omega, by omega, ρ3, S2, acc, accV, (xi.trans xy).trans x3, kpy.trans k3, s3, x3.keep _ _ hDy hDρ, RelDs.keep k3 _ _ (RelDs.mono xy si.locs _ _ ra), eg2⟩
    · left
      have hi' : xs.length ≤ i := by omega
      refine ⟨wk.stop i hi', ?_⟩
      rw [List.drop_eq_nil_of_le hi'] at eg
      cases eg
      refine g2 ρi (.ref Dd) Hi (x1.trans xi) si.unhide ⟨Dd, accV, rfl, hDi, hDρ, s1.unseen hD, RelDs.keep Keep.unhide _ _ ra⟩
end
end OW
end
section
set_option Elab.async false
set_option linter.all false
set_option maxRecDepth 100000
set_option maxHeartbeats 4000000
/-! Sn: sets whose elements are tuples of any depth (whole numbers, truths, texts, None and tuples of such). -/
namespace OW
open PySem PySem.Spec PyProof.Rows L2
theorem lt_of_getElem? {α : Type} {l : List α} {i : Nat} {a : α} (h : l[i]? = some a) : i < l.length := (List.getElem?_eq_some_iff.mp h).1
abbrev NK := NestedKey
abbrev Row := Addr × NK
section
variable {P : Program} {w : World}
/-- what the model asks of a stored value ahead of a comparison -/
def Tame (P : Program) (w : World) (n : Nat) (s : Shared) (v : Value) : Prop := ∀ (A : Around) (E : Value → Shared → Prop) (Q : Bool → Shared → Prop), (Q false s → wpAny (model P w) A (ofAClassStatement n v) Q E s) ∧ ((∀ b, Q b s) → wpAny (model P w) A (hashByValue n v) Q E s)
theorem tame_atom {n : Nat} {s : Shared} {v : Value} (h1 : ofAClassStatement n v = pure false) (h2 : ∃ b, hashByValue n v = pure b) : Tame P w n s v := fun A E Q => by
  obtain ⟨b, e⟩ := h2
  rw [h1, e]
  exact ⟨fun q => wpAny_pure q, fun q => wpAny_pure (q b)⟩
theorem tame_tuple {n : Nat} {s : Shared} {a : Addr} {o : Obj} {vs : Array Value} {m : Nat} (g : s.heap.get? a = some o) (gc : o.cls = .type "tuple") (gd : o.data = .seq vs m) (all : ∀ v ∈ vs.toList, Tame P w n s v) : Tame P w (n + 1) s (.ref a) := fun A E Q => by
  have ty : s.TypeIs (.ref a) "tuple" := ⟨o, g, gc⟩
  constructor
  · intro q
    unfold ofAClassStatement
    refine wpAny_bind (wpAny_typeOf ty ?_)
    dsimp only
    have e : (("tuple" : String) == "tuple") = true := by decide
    simp only [e, if_true]
    try refine wpAny_bind (wpAny_pure ?_)
    try simp only [Bool.not_true, Bool.false_eq_true, if_false]
    refine wpAny_bind (wpAny_seqItems g gd ?_)
    dsimp only
    refine wpAny_bind ?_
    rw [← Array.forIn_toList]
    refine wpAny_forIn_list _ (fun left r s1 => (r.1 = none ∧ s1 = s) ∧ ∀ v ∈ left, Tame P w n s v) _ ?_ ?_ _ _ ⟨⟨rfl, rfl⟩, all⟩
    · rintro v left r s1 ⟨⟨hr, rfl⟩, hv⟩
      refine wpAny_bind ((hv v List.mem_cons_self A _ _).1 ?_)
      try simp only [Bool.false_eq_true, if_false]
      exact wpAny_pure ⟨⟨rfl, rfl⟩, fun u hu => hv u (List.mem_cons_of_mem _ hu)⟩
    · rintro ⟨r1, r2⟩ s1 ⟨⟨hr, rfl⟩, _⟩
      cases hr
      exact wpAny_pure q
  · intro q
    unfold hashByValue
    refine wpAny_bind (wpAny_specialOf ty F.slot_tuple_hash.lookup ?_)
    show wpAny _ _ (seqItems? (.ref a) >>= _) _ _ _
    refine wpAny_bind (wpAny_seqItems g gd ?_)
    refine wpAny_bind ?_
    show wpAny _ _ (forIn vs _ _) _ _ _
    rw [← Array.forIn_toList]
    refine wpAny_forIn_list _ (fun left r s1 => (r.1 = none ∧ s1 = s) ∧ ∀ v ∈ left, Tame P w n s v) _ ?_ ?_ _ _ ⟨⟨rfl, rfl⟩, all⟩
    · rintro v left r s1 ⟨⟨hr, rfl⟩, hv⟩
      refine wpAny_bind ((hv v List.mem_cons_self A _ _).2 fun b => ?_)
      cases b
      · simp only [Bool.not_false, if_true]
        exact wpAny_pure (wpAny_pure (q false))
      · simp only [Bool.not_true, Bool.false_eq_true, if_false]
        exact wpAny_pure ⟨⟨rfl, rfl⟩, fun u hu => hv u (List.mem_cons_of_mem _ hu)⟩
    · rintro ⟨r1, r2⟩ s1 ⟨⟨hr, rfl⟩, _⟩
      cases hr
      exact wpAny_pure (q true)
mutual
theorem tame_key : ∀ (k : NK) (v : Value) (n : Nat) (s : Shared), NestedIs s.heap k v → k.depth ≤ n → Tame P w n s v
  | .none, _, n, s, x, _ => by
    cases x
    exact tame_atom (by cases n <;> rfl) ⟨true, by cases n <;> rfl⟩
  | .num i, _, n, s, x, _ => by
    cases x
    · exact tame_atom (by cases n <;> rfl) ⟨true, by cases n <;> rfl⟩
    · exact tame_atom (by cases n <;> rfl) ⟨true, by cases n <;> rfl⟩
  | .text y, _, n, s, x, _ => by
    cases x
    exact tame_atom (by cases n <;> rfl) ⟨false, by cases n <;> rfl⟩
  | .tup ks, _, n, s, x, hn => by
    cases x with
    | tup hg hc hd hk =>
      have hn' : NestedKey.depthAll ks + 1 ≤ n := hn
      cases n with
      | zero => omega
      | succ n => exact tame_tuple hg hc hd (tame_keys ks _ n s hk (by omega))
theorem tame_keys : ∀ (ks : List NK) (vs : List Value) (n : Nat) (s : Shared), NestedAll s.heap ks vs → NestedKey.depthAll ks ≤ n → ∀ v ∈ vs, Tame P w n s v
  | [], _, n, s, x, _, v, hv => by cases x; cases hv
  | k :: ks, _, n, s, x, hn, v, hv => by
    cases x with
    | cons x1 x2 =>
      have hn' : max k.depth (NestedKey.depthAll ks) ≤ n := hn
      rcases List.mem_cons.mp hv with rfl | hv
      · exact tame_key k _ n s x1 (by omega)
      · exact tame_keys ks _ n s x2 (by omega) v hv
end
/-- the tuple at a is the key k -/
def NIs (h : Heap) (k : NK) (a : Addr) : Prop := NestedIs h k (.ref a) ∧ k.depth ≤ 8
theorem NIs.keep {h h' : Heap} {k : NK} {a : Addr} (x : NIs h k a) (hk : ∀ b o, h.get? b = some o → h'.get? b = some o) : NIs h' k a := ⟨NestedIs.at (fun b o _ _ e _ => hk b o e) k _ x.1, x.2⟩
theorem NIs.but {h h' : Heap} {k : NK} {a S : Addr} {o : Obj} {es : Array (Int × Value)} {ep : Nat} {t : SetTable} (x : NIs h k a) (ho : h.get? S = some o) (hd : o.data = .set es ep t) (hs : Heap.SameBut S h h') : NIs h' k a :=
  ⟨NestedIs.at (fun b ob vs n hb hc => (hs.2 b fun e => by
    rw [e, ho] at hb
    rw [← Option.some.inj hb, hd] at hc
    cases hc).trans hb) k _ x.1, x.2⟩
/-- a search among such tuples shows nothing -/
theorem n_seen {A : Around} {E : Value → Shared → Prop} {s : Shared} {k : NK} {x : Addr} {Q : Bool → Shared → Prop} (hx : NIs s.heap k x) : ∀ (ys : List Value), (∀ y ∈ ys, ∃ k' c, y = Value.ref c ∧ NIs s.heap k' c) → Q false s → wpAny (model P w) A (searchCouldBeSeen (.ref x) ys) Q E s := by
  intro ys hy q
  unfold searchCouldBeSeen
  refine wpAny_bind ?_
  refine wpAny_forIn_list _ (fun left r s1 => (r.1 = none ∧ s1 = s) ∧ ∀ y ∈ left, ∃ k' c, y = Value.ref c ∧ NIs s.heap k' c) _ ?_ ?_ _ _ ⟨⟨rfl, rfl⟩, hy⟩
  · rintro v left r s1 ⟨⟨hr, rfl⟩, hv⟩
    obtain ⟨k', c, rfl, hc⟩ := hv v List.mem_cons_self
    have go := fun y (m : y ∈ left) => hv y (List.mem_cons_of_mem _ m)
    dsimp only
    split
    · exact wpAny_pure ⟨⟨rfl, rfl⟩, go⟩
    · refine wpAny_bind (quiet_key k _ 8 _ hx.1 hx.2 A E _ ?_)
      simp only [Bool.not_true, Bool.false_eq_true, if_false]
      refine wpAny_bind (quiet_key k' _ 8 _ hc.1 hc.2 A E _ ?_)
      simp only [Bool.not_true, Bool.false_eq_true, if_false]
      refine wpAny_bind ((tame_key k _ 8 _ hx.1 hx.2 A E _).1 ?_)
      simp only [Bool.false_eq_true, if_false]
      refine wpAny_bind ((tame_key k' _ 8 _ hc.1 hc.2 A E _).1 ?_)
      simp only [Bool.false_eq_true, if_false]
      exact wpAny_pure ⟨⟨rfl, rfl⟩, go⟩
  · rintro ⟨r1, r2⟩ s1 ⟨⟨hr, rfl⟩, _⟩
    cases hr
    exact wpAny_pure q
/-! ### a set of such tuples -/
def entOf (w : World) (r : Row) : Int × Value := (r.2.hash w, .ref r.1)
structure NSet (w : World) (h : Heap) (S : Addr) (L : List Row) (es : Array (Int × Value)) (ep : Nat) (t : SetTable) : Prop where
  obj : ∃ o, h.get? S = some o ∧ o.ExactSet ∧ o.data = .set es ep t
  ent : es.toList = L.map (entOf w)
  tbl : TabOk t (L.map fun r => r.2.hash w)
  once : (L.map Prod.snd).Nodup
  keys : ∀ r ∈ L, NIs h r.2 r.1
  led : w.params.followText "set-order" = true ∨ t.led = true
  spare : L.length * 5 < t.mask * 3
  lt : L.length < 64
variable {h : Heap} {S : Addr} {L : List Row} {es : Array (Int × Value)} {ep : Nat} {t : SetTable}
theorem NSet.len (R : NSet w h S L es ep t) : es.size = L.length := by
  rw [← Array.length_toList, R.ent, List.length_map]
theorem NSet.psz (R : NSet w h S L es ep t) : t.place.size = L.length := by
  rw [R.tbl.sz, List.length_map]
theorem fits_of {n : Nat} (hd : t.dummies = #[]) (h1 : t.place.size = n) (h2 : n ≤ t.mask) : t.fits n = true := by
  unfold SetTable.fits SetTable.fill
  rw [hd, h1]
  simp [h2]
theorem NSet.fit (R : NSet w h S L es ep t) : t.fits es.size = true := by
  have a := R.spare
  have b := R.len
  exact fits_of R.tbl.dm (R.psz.trans b.symm) (by omega)
theorem NSet.at (R : NSet w h S L es ep t) {i : Nat} {r : Row} (e : L[i]? = some r) : es[i]? = some (entOf w r) := by
  rw [← Array.getElem?_toList, R.ent, List.getElem?_map, e]; rfl
/-! ### the search -/
/-- the c-th step of a hash's way -/
def pr (t : SetTable) (H : Int) (c : Nat) : SetTable.Probe := nth t.mask (runAt t.mask (SetTable.bits H % (t.mask + 1)) (SetTable.bits H)) c
theorem pr_add (t : SetTable) (H : Int) (c q : Nat) : nth t.mask (pr t H c) q = pr t H (c + q) := (nth_add t.mask c _ q).symm
theorem pr_dm (t : SetTable) (H : Int) : ∀ c, (pr t H c).dummy = none
  | 0 => rfl
  | c + 1 => by
    have e : pr t H (c + 1) = adv t.mask (pr t H c) := nth_succ ..
    rw [e]
    unfold adv
    split
    · exact pr_dm t H c
    · exact pr_dm t H c
/-- what stands in the set under the key stands on the way, behind the step c -/
def Ahead (L : List Row) (t : SetTable) (k : NK) (H : Int) (c K : Nat) : Prop := ∀ (i : Nat) (r : Row), L[i]? = some r → r.2 = k → ∃ c', c ≤ c' ∧ c' < K ∧ t.place.toList[i]? = some (way t.mask H c')
variable {A : Around} {E : Value → Shared → Prop} {s : Shared} {k : NK} {x : Addr} {Q : SetFound → Shared → Prop}
theorem n_from (R : NSet w s.heap S L es ep t) (hx : NIs s.heap k x) (hu : A.units + 8 < cLine) {K : Nat} (kf : K < 10 * SetTable.turns t.mask) (kn : way t.mask (k.hash w) K ∉ t.place.toList) (kb : ∀ c, c < K → way t.mask (k.hash w) c ∈ t.place.toList)
    (yes : k ∈ L.map Prod.snd → Q (.there none) s) (no : k ∉ L.map Prod.snd → Q (.free (way t.mask (k.hash w) K) false) s) : ∀ (f c : Nat) (st : Option SetTable.Probe), st.getD (t.probeStart (k.hash w)) = pr t (k.hash w) c → c ≤ K → K - c < f → Ahead L t k (k.hash w) c K →
      wpAny (model P w) A (setSearchFrom S (.ref x) (k.hash w) true f st) Q E s := by
  obtain ⟨o, go, gx, gd⟩ := R.obj
  have hasAt : ∀ (i : Nat) (r : Row), L[i]? = some r → (es[i]?.map (·.1)).getD 0 = r.2.hash w := fun i r e => by
    rw [R.at e]; rfl
  intro f
  induction f with
  | zero => intro c st _ _ h; exact absurd h (Nat.not_lt_zero _)
  | succ f ih =>
    intro c st est hc hf ah
    have look := go_spec t R.tbl.ris R.tbl.dm (fun i => (es[i]?.map (·.1)).getD 0) (k.hash w) (10 * SetTable.turns t.mask) (K - c) (pr t (k.hash w) c) (pr_dm ..) (by omega)
      (fun q hq => by rw [pr_add]; exact kb (c + q) (by omega)) (by rw [pr_add, Nat.add_sub_cancel' hc]; exact kn)
    simp only [pr_add] at look
    rw [setSearchFrom_succ]
    refine wpAny_bind (wpAny_setState_of go gd R.fit ?_)
    dsimp only
    rw [if_neg (show ¬ t.gaveWay = true by unfold SetTable.gaveWay; rw [mask_odd R.tbl.mok]; decide)]
    try refine wpAny_bind (wpAny_pure ?_)
    rcases look with ⟨q, i, hq, hi, he, hno, ep1⟩ | ⟨hno, ep1⟩
    · have ep2 : t.probe (fun i => (es[i]?.map (·.1)).getD 0) (k.hash w) (st.getD (t.probeStart (k.hash w))) = some (.candidate (pr t (k.hash w) (c + q)).j i (pr t (k.hash w) (c + (q + 1)))) := by
        rw [est]; exact ep1
      rw [ep2]
      dsimp only
      have il : i < L.length := by
        have a := lt_of_getElem? hi
        rw [Array.length_toList, R.psz] at a
        exact a
      obtain ⟨r, er⟩ : ∃ r, L[i]? = some r := ⟨_, List.getElem?_eq_getElem il⟩
      have rm : r ∈ L := List.mem_of_getElem? er
      have sl : t.slot (pr t (k.hash w) (c + q)).j = .live i := slot_live R.tbl.ris hi
      have tail : wpAny (model P w) A (searchRest S (.ref x) (k.hash w) true f es t (pr t (k.hash w) (c + q)).j i (pr t (k.hash w) (c + (q + 1)))) Q E s := by
        unfold searchRest
        rw [R.at er]
        dsimp only [entOf]
        refine wpAny_bind (wpAny_holding (eqAt_key r.2 k A s _ _ (R.keys r rm).1 hx.1 (by have := (R.keys r rm).2; omega) _ _ _ _ ?_))
        refine wpAny_bind (wpAny_setState_of go gd R.fit ?_)
        dsimp only
        rw [← NestedKey.decide_eq]
        by_cases same : r.2 = k
        · rw [decide_eq_true same]
          simp only [Bool.and_self, if_true]
          exact wpAny_pure (yes (List.mem_map.mpr ⟨r, rm, same⟩))
        · rw [decide_eq_false same]
          simp only [Bool.and_false, Bool.false_eq_true, if_false]
          try refine wpAny_bind (wpAny_pure ?_)
          rw [sameMem]
          simp only [if_true, sl, R.at er, entOf]
          refine wpAny_bind (wpAny_isSame_ref_self (wpAny_bind (wpAny_pure ?_)))
          simp only [if_true, Bool.false_eq_true, if_false]
          refine ih (c + (q + 1)) (some _) rfl (by omega) (by omega) fun i0 r0 e0 k0 => ?_
          obtain ⟨c', b1, b2, b3⟩ := ah i0 r0 e0 k0
          refine ⟨c', ?_, b2, b3⟩
          have far : ¬ c' < c + q := fun z => hno (c' - c) i0 (by omega) (by rw [Nat.add_sub_cancel' b1]; exact b3) (by
            show (es[i0]?.map (·.1)).getD 0 = _
            rw [hasAt i0 r0 e0, k0])
          have ne : c' ≠ c + q := fun z => by
            rw [z] at b3
            have s2 := slot_live R.tbl.ris b3
            have s3 : SetTable.Slot.live i0 = .live i := s2.symm.trans sl
            injection s3 with s3
            rw [s3, er] at e0
            exact same ((Option.some.inj e0) ▸ k0)
          omega
      cases hl : t.led
      · simp only [Bool.not_false, if_true]
        refine wpAny_bind (n_seen hx _ (fun y hy => ?_) ?_)
        · obtain ⟨e, he1, rfl⟩ := List.mem_map.mp hy
          have he2 : e ∈ es.toList := by
            have := (List.mem_filter.mp (show e ∈ es.toList.filter (fun z => z.1 == k.hash w) by simpa using he1)).1
            exact this
          rw [R.ent] at he2
          obtain ⟨r2, m2, rfl⟩ := List.mem_map.mp he2
          exact ⟨r2.2, r2.1, rfl, R.keys r2 m2⟩
        · simp only [Bool.false_eq_true, if_false]
          try refine wpAny_bind (wpAny_pure ?_)
          exact tail
      · simp only [Bool.not_true, Bool.false_eq_true, if_false]
        try refine wpAny_bind (wpAny_pure ?_)
        exact tail
    · have ep2 : t.probe (fun i => (es[i]?.map (·.1)).getD 0) (k.hash w) (st.getD (t.probeStart (k.hash w))) = some (.empty (way t.mask (k.hash w) K) none) := by
        rw [est]
        have : (pr t (k.hash w) (c + (K - c))).j = way t.mask (k.hash w) K := by rw [Nat.add_sub_cancel' hc]; rfl
        rw [← this]
        exact ep1
      rw [ep2]
      dsimp only
      refine wpAny_pure (no fun hm => ?_)
      obtain ⟨r0, m0, k0⟩ := List.mem_map.mp hm
      obtain ⟨i0, e0⟩ := List.mem_iff_getElem?.mp m0
      obtain ⟨c', b1, b2, b3⟩ := ah i0 r0 e0 k0
      exact hno (c' - c) i0 (by omega) (by rw [Nat.add_sub_cancel' b1]; exact b3) (by
        show (es[i0]?.map (·.1)).getD 0 = _
        rw [hasAt i0 r0 e0, k0])
theorem n_search (R : NSet w s.heap S L es ep t) (hx : NIs s.heap k x) (hu : A.units + 8 < cLine) (yes : k ∈ L.map Prod.snd → Q (.there none) s)
    (no : ∀ K, k ∉ L.map Prod.snd → way t.mask (k.hash w) K ∉ t.place.toList → (∀ c, c < K → way t.mask (k.hash w) c ∈ t.place.toList) → Q (.free (way t.mask (k.hash w) K) false) s) :
    wpAny (model P w) A (setSearch S (.ref x) (k.hash w) true) Q E s := by
  have sp := R.spare
  obtain ⟨K, kf, kn, kb⟩ := R.tbl.first (by rw [List.length_map]; omega) (k.hash w)
  have few : 10 * SetTable.turns t.mask ≤ 1420 := by
    unfold SetTable.turns
    rcases R.tbl.mok with e | e | e <;> omega
  unfold setSearch
  refine n_from R hx hu kf kn kb yes (fun z => no K z kn kb) 100000 0 none rfl (Nat.zero_le _) (by omega) fun i r e ek => ?_
  have il : i < t.place.toList.length := by
    rw [Array.length_toList, R.psz]
    exact lt_of_getElem? e
  obtain ⟨c, hc, ec⟩ := R.tbl.before kn (i := i) (h := k.hash w) (by rw [List.getElem?_map, e, ← ek]; rfl) (List.getElem?_eq_getElem il)
  exact ⟨c, Nat.zero_le _, hc, by rw [List.getElem?_eq_getElem il, ec]⟩
/-! ### laying anew -/
theorem fm_take {α : Type} (L : List α) : ∀ n, n ≤ L.length → (List.range n).filterMap (fun i => L[i]?) = L.take n
  | 0, _ => rfl
  | n + 1, h => by
    have e : L[n]? = some L[n] := List.getElem?_eq_getElem h
    rw [List.range_succ, List.filterMap_append, fm_take L n (by omega), List.filterMap_cons, e, List.filterMap_nil, List.take_succ, e]
    rfl
theorem fm_perm {α : Type} (L : List α) (l : List Nat) (h : l.Perm (List.range L.length)) : (l.filterMap fun i => L[i]?).Perm L := by
  have a := h.filterMap (fun i => L[i]?)
  rw [fm_take L _ (Nat.le_refl _), List.take_length] at a
  exact a
theorem ent_get (he : es.toList = L.map (entOf w)) (i : Nat) : es[i]? = (L[i]?).map (entOf w) := by
  rw [← Array.getElem?_toList, he, List.getElem?_map]
theorem ent_fm (he : es.toList = L.map (entOf w)) (l : List Nat) : (l.filterMap fun i => es[i]?) = (l.filterMap fun i => L[i]?).map (entOf w) := by
  rw [List.map_filterMap]
  congr 1
  funext i
  exact ent_get he i
theorem hash_fm (he : es.toList = L.map (entOf w)) : ∀ l : List Nat, (∀ i ∈ l, i < L.length) → (l.filterMap fun i => L[i]?).map (fun r => r.2.hash w) = l.map fun i => (es.map (·.1)).getD i 0
  | [], _ => rfl
  | i :: l, hl => by
    have hi := hl i (List.mem_cons_self ..)
    have e : L[i]? = some L[i] := List.getElem?_eq_getElem hi
    have e2 : (es.map (·.1)).getD i 0 = (L[i]).2.hash w := by
      rw [Array.getD_eq_getD_getElem?, Array.getElem?_map, ent_get he i, e]; rfl
    rw [List.filterMap_cons, e, List.map_cons, List.map_cons, e2, hash_fm he l fun j hj => hl j (List.mem_cons_of_mem _ hj)]
theorem n_relay {o : Obj} (go : s.heap.get? S = some o) (gx : o.ExactSet) (gd : o.data = .set es ep t) (he : es.toList = L.map (entOf w)) (hp : t.place.size = L.length) (hdm : t.dummies = #[]) (hfl : L.length ≤ t.mask) (once : (L.map Prod.snd).Nodup) (keys : ∀ r ∈ L, NIs s.heap r.2 r.1)
    (led : w.params.followText "set-order" = true ∨ t.led = true) (lt : L.length < 64) {wanted M : Nat} (hw : SetTable.sizeAbove wanted - 1 = M) (hM : MaskOk M) (hw2 : SetTable.sizeAbove wanted ≤ 128) (hn : L.length * 5 < M * 3) {Q : Unit → Shared → Prop}
    (hQ : ∀ h' L' es' ep' t', Heap.SameBut S s.heap h' → NSet w h' S L' es' ep' t' → L'.Perm L → Q () { s with heap := h' }) : wpAny (model P w) A (setRelay S wanted) Q E s := by
  have hs : es.size = L.length := by rw [← Array.length_toList, he, List.length_map]
  obtain ⟨t', order, e, po, T, em, el, _, ed⟩ := relaid_ok t (hs := es.map (·.1)) (wanted := wanted) hw hM (by rw [Array.size_map, hs]; omega)
  rw [Array.size_map, hs] at po
  have pm := fm_perm L order.toList po
  have e1 : (order.filterMap (es[·]?)).toList = (order.toList.filterMap fun i => L[i]?).map (entOf w) := by
    rw [← ent_fm he]
    simp
  rw [← hash_fm he order.toList fun i hi => List.mem_range.mp (po.mem_iff.mp hi)] at T
  have sz : (order.filterMap (es[·]?)).size = L.length := by rw [← Array.length_toList, e1, List.length_map, pm.length_eq]
  generalize (order.toList.filterMap fun i => L[i]?) = L2 at pm e1 T
  rw [setRelay_eq]
  refine wpAny_bind (wpAny_setState_of go gd (fits_of hdm (hp.trans hs.symm) (by omega)) ?_)
  dsimp only
  rw [if_neg (show ¬ SetTable.sizeAbove wanted > sizeLine by rw [sizeLine_eq]; omega)]
  try refine wpAny_bind (wpAny_pure ?_)
  rw [e]
  dsimp only
  refine wpAny_bind ?_
  rw [if_neg (show ¬ ((order.filterMap (es[·]?)).size != es.size) = true by rw [sz, hs]; simp)]
  try refine wpAny_bind (wpAny_pure ?_)
  refine wpAny_pure ?_
  dsimp only
  generalize order.filterMap (es[·]?) = es2 at e1 sz
  refine wpAny_storeSet_of go gd ?_ (by rw [sz, sizeLine_eq]; omega)
  have sb : Heap.SameBut S s.heap (s.heap.update S (Obj.putSet es2 t')) := Heap.SameBut.update ..
  refine hQ _ L2 es2 (ep + 1) t' sb ?_ pm
  exact {
    obj := ⟨_, store_at go gd, ⟨gx.1, gx.2.1, gx.2.2⟩, rfl⟩
    ent := e1
    tbl := T
    once := (pm.map Prod.snd).nodup_iff.mpr once
    keys := fun r hr => (keys r (pm.mem_iff.mp hr)).but go gd sb
    led := by rw [el]; exact led
    spare := by rw [pm.length_eq, em]; exact hn
    lt := by rw [pm.length_eq]; exact lt }
/-! ### adding -/
theorem tab_same {t t' : SetTable} {hs : List Int} (T : TabOk t hs) (e1 : t'.place = t.place) (e2 : t'.mask = t.mask) (e3 : t'.dummies = t.dummies) : TabOk t' hs where
  ris := by rw [e1]; exact T.ris
  dm := by rw [e3]; exact T.dm
  sz := by rw [e1]; exact T.sz
  mok := by rw [e2]; exact T.mok
  bd := by rw [e1, e2]; exact T.bd
  reach := by rw [e1, e2]; exact T.reach
theorem n_add (R : NSet w s.heap S L es ep t) (hx : NIs s.heap k x) (hu : A.units + 8 < cLine) (few : L.length + 1 < 64) {Q : Bool → Shared → Prop}
    (hQ : ∀ b h' L' es' ep' t', Heap.SameBut S s.heap h' → NSet w h' S L' es' ep' t' → (k ∈ L.map Prod.snd → L' = L) → (k ∉ L.map Prod.snd → L'.Perm ((x, k) :: L)) → Q b { s with heap := h' }) :
    wpAny (model P w) A (setAddHashed S (.ref x) (k.hash w)) Q E s := by
  obtain ⟨o, go, gx, gd⟩ := R.obj
  have hs := R.len
  have sp := R.spare
  unfold setAddHashed
  refine wpAny_holding ?_
  rw [show (100000 : Nat) = 99999 + 1 from rfl, setAddHashedIn_succ]
  refine wpAny_bind (wpAny_setState_of go gd R.fit ?_)
  dsimp only
  rw [if_neg (show ¬ byScan (Value.ref x) es = true by simp [byScan, Value.scannable])]
  try refine wpAny_bind (wpAny_pure ?_)
  refine wpAny_bind (n_search R hx hu (fun there => ?_) fun K out kn kb => ?_)
  · dsimp only
    exact wpAny_pure (hQ false s.heap L es ep t (Heap.SameBut.refl S s.heap) R (fun _ => rfl) fun z => absurd there z)
  · dsimp only
    refine wpAny_bind (wpAny_setState_of go gd R.fit ?_)
    dsimp only
    obtain ⟨q1, q2, q3, q4, q5, _, _, _, q9⟩ := R.tbl.put kn kb
    rw [q1]
    generalize hp : SetTable.below t.place (way t.mask (k.hash w) K) = p at q2 q3 ⊢
    generalize (t.put (way t.mask (k.hash w) K)).1 = t1 at q3 q4 q5 q9 ⊢
    have pm : (L.take p ++ (x, k) :: L.drop p).Perm ((x, k) :: L) := put_perm L p (x, k)
    have e1 : (SetTable.insertAt es p (k.hash w, Value.ref x)).toList = (L.take p ++ (x, k) :: L.drop p).map (entOf w) := by
      rw [SetTable.toList_insertAt, R.ent, List.map_append, List.map_cons, List.map_take, List.map_drop]; rfl
    have e2 : (L.take p ++ (x, k) :: L.drop p).map (fun r => r.2.hash w) = (L.map fun r => r.2.hash w).take p ++ k.hash w :: (L.map fun r => r.2.hash w).drop p := by
      rw [List.map_append, List.map_cons, List.map_take, List.map_drop]
    rw [← e2] at q3
    generalize L.take p ++ (x, k) :: L.drop p = L1 at pm e1 q3
    have l1 : L1.length = L.length + 1 := pm.length_eq
    have sz : (SetTable.insertAt es p (k.hash w, Value.ref x)).size = L.length + 1 := by rw [← Array.length_toList, e1, List.length_map, l1]
    generalize SetTable.insertAt es p (k.hash w, Value.ref x) = es1 at e1 sz ⊢
    have once1 : (L1.map Prod.snd).Nodup := by
      refine (pm.map Prod.snd).nodup_iff.mpr ?_
      exact List.nodup_cons.mpr ⟨out, R.once⟩
    rw [List.length_map] at q9
    have main : ∀ t2 : SetTable, t2.place = t1.place → t2.mask = t1.mask → t2.dummies = t1.dummies → t2.led = t1.led → wpAny (model P w) A (do
        storeSet S es1 t2
        if !false && t2.tooFull then setRelay S (SetTable.grown (es.size + 1))
        return true) Q E s := by
      intro t2 f1 f2 f3 f4
      have T2 := tab_same q3 f1 f2 f3
      have full2 : t2.fill = L.length + 1 := by rw [← q9]; unfold SetTable.fill; rw [f1, f3]
      refine wpAny_bind (wpAny_storeSet_of go gd ?_ (by rw [sz, sizeLine_eq]; omega))
      have sb : Heap.SameBut S s.heap (s.heap.update S (Obj.putSet es1 t2)) := Heap.SameBut.update ..
      have go1 := store_at (es' := es1) (t' := t2) go gd
      generalize s.heap.update S (Obj.putSet es1 t2) = h1 at sb go1 ⊢
      have keys1 : ∀ r ∈ L1, NIs h1 r.2 r.1 := fun r hr => by
        rcases List.mem_cons.mp (pm.mem_iff.mp hr) with rfl | m
        · exact hx.but go gd sb
        · exact (R.keys r m).but go gd sb
      have led1 : w.params.followText "set-order" = true ∨ t2.led = true := by rw [f4, q5]; exact R.led
      have m2 : t2.mask = t.mask := f2.trans q4
      by_cases tf : t2.tooFull = true
      · rw [if_pos (show (!false && t2.tooFull) = true by rw [tf]; rfl)]
        have tf' : (L.length + 1) * 5 ≥ t.mask * 3 := by
          unfold SetTable.tooFull at tf
          rw [decide_eq_true_eq, full2, m2] at tf
          exact tf
        have two : (t.mask = 7 ∧ L.length = 4) ∨ (t.mask = 31 ∧ L.length = 18) := by
          rcases R.tbl.mok with e | e | e <;> rw [e] at tf' sp
          · exact .inl ⟨e, by omega⟩
          · exact .inr ⟨e, by omega⟩
          · omega
        refine wpAny_bind ?_
        have lay : ∀ M, SetTable.sizeAbove (SetTable.grown (L.length + 1)) - 1 = M → MaskOk M → SetTable.sizeAbove (SetTable.grown (L.length + 1)) ≤ 128 → (L.length + 1) * 5 < M * 3 →
            wpAny (model P w) A (setRelay S (SetTable.grown (es.size + 1))) (fun _ s' => wpAny (model P w) A (pure true) Q E s') E { s with heap := h1 } := by
          intro M g1 g2 g3 g4
          rw [hs]
          refine n_relay (s := { s with heap := h1 }) (L := L1) go1 ⟨gx.1, gx.2.1, gx.2.2⟩ rfl e1 ?_ T2.dm ?_ once1 keys1 led1 (by omega) g1 g2 g3 (by rw [l1]; exact g4) fun h2 L2 es2 ep2 t2' sb2 R2 pm2 => ?_
          · rw [T2.sz, List.length_map]
          · rw [m2, l1]; rcases two with ⟨a, b⟩ | ⟨a, b⟩ <;> omega
          · exact wpAny_pure (hQ true h2 L2 es2 ep2 t2' (sb.trans sb2) R2 (fun z => absurd z out) fun _ => pm2.trans pm)
        rcases two with ⟨_, b⟩ | ⟨_, b⟩
        · exact lay 31 (by rw [b, size_20]) (.inr (.inl rfl)) (by rw [b, size_20]; decide) (by omega)
        · exact lay 127 (by rw [b, size_76]) (.inr (.inr rfl)) (by rw [b, size_76]; decide) (by omega)
      · rw [if_neg (show ¬ (!false && t2.tooFull) = true by simpa using tf)]
        try refine wpAny_bind (wpAny_pure ?_)
        refine wpAny_pure (hQ true h1 L1 es1 (ep + 1) t2 sb { obj := ⟨_, go1, ⟨gx.1, gx.2.1, gx.2.2⟩, rfl⟩, ent := e1, tbl := T2, once := once1, keys := keys1, led := led1, spare := ?_, lt := by omega } (fun z => absurd z out) fun _ => pm)
        unfold SetTable.tooFull at tf
        rw [decide_eq_true_eq, full2] at tf
        omega
    split
    · refine wpAny_bind ((tame_key k _ 8 s hx.1 hx.2 A E _).2 fun b => ?_)
      cases b
      · exact main { t1 with plain := false } rfl rfl rfl rfl
      · exact main t1 rfl rfl rfl rfl
    · exact wpAny_bind (wpAny_pure (main t1 rfl rfl rfl rfl))
/-! ### set(xs): the loop -/
/-- what the set has got of the first i rows -/
structure Has {α β : Type} (ks : List (α × β)) (i : Nat) (L : List (α × β)) : Prop where
  sub : ∀ r ∈ L, r ∈ ks.take i
  all : ∀ r ∈ ks.take i, r.2 ∈ L.map Prod.snd
  len : L.length ≤ i
theorem Has.next {α β : Type} {ks : List (α × β)} {i : Nat} {L L' : List (α × β)} {r : α × β} (g : Has ks i L) (e : ks[i]? = some r) (c1 : r.2 ∈ L.map Prod.snd → L' = L) (c2 : r.2 ∉ L.map Prod.snd → L'.Perm (r :: L)) : Has ks (i + 1) L' := by
  have tk : ks.take (i + 1) = ks.take i ++ [r] := by rw [List.take_succ, e]; rfl
  rcases Classical.em (r.2 ∈ L.map Prod.snd) with m | m
  · rw [c1 m]
    refine ⟨fun q hq => ?_, fun q hq => ?_, Nat.le_succ_of_le g.len⟩
    · rw [tk]; exact List.mem_append_left _ (g.sub q hq)
    · rw [tk] at hq
      rcases List.mem_append.mp hq with z | z
      · exact g.all q z
      · rw [List.mem_singleton.mp z]; exact m
  · have pm := c2 m
    refine ⟨fun q hq => ?_, fun q hq => ?_, ?_⟩
    · rw [tk]
      rcases List.mem_cons.mp (pm.mem_iff.mp hq) with z | z
      · exact List.mem_append_right _ (by rw [z]; exact List.mem_singleton.mpr rfl)
      · exact List.mem_append_left _ (g.sub q z)
    · rw [(pm.map Prod.snd).mem_iff, List.map_cons]
      rw [tk] at hq
      rcases List.mem_append.mp hq with z | z
      · exact List.mem_cons_of_mem _ (g.all q z)
      · rw [List.mem_singleton.mp z]; exact List.mem_cons_self ..
    · rw [pm.length_eq]; exact Nat.succ_le_succ g.len
theorem NSet.keep {h' : Heap} (R : NSet w h S L es ep t) (e : ∀ o, h.get? S = some o → h'.get? S = some o) (ks : ∀ r ∈ L, NIs h' r.2 r.1) : NSet w h' S L es ep t := by
  obtain ⟨o, go, r⟩ := R.obj
  exact { R with obj := ⟨o, e o go, r⟩, keys := ks }
theorem n_fresh (go : h.get? S = some { cls := .type "set", dict := none, data := .set #[] 0 (.fresh 0 0 (!w.params.followText "set-order")) }) : NSet w h S [] #[] 0 (.fresh 0 0 (!w.params.followText "set-order")) where
  obj := ⟨_, go, ⟨rfl, rfl, rfl⟩, rfl⟩
  ent := rfl
  tbl := ⟨List.Pairwise.nil, rfl, rfl, .inl rfl, fun x hx => (by cases hx), fun i h j hi => (by simp at hi)⟩
  once := List.nodup_nil
  keys := fun r hr => (by cases hr)
  led := by
    show _ ∨ (!w.params.followText "set-order") = true
    cases w.params.followText "set-order"
    · exact .inr rfl
    · exact .inl rfl
  spare := by show 0 * 5 < 7 * 3; decide
  lt := by show 0 < 64; decide
end
end OW
end
section
set_option Elab.async false
set_option linter.all false
set_option maxRecDepth 100000
set_option maxHeartbeats 4000000
/-! So: set(xs) of a list, by an invariant of the set; sets of numbers and texts; sorted of a set. -/
namespace OW
open PySem PySem.Spec PyProof.Rows L2
section
variable {P : Program} {w : World} {A : Around} {E : Value → Shared → Prop} {s : Shared} {S : Addr}
/-- the loop of set(xs): J i tells what the set is behind i items -/
theorem s_update {I : Addr} {fp wr : List Addr} {G : Array GenState → Array GenState → Prop} {n : Nat} {Pv : Nat → Value → Prop} {St : Nat → Shared → Prop} {Rr : Result → Shared → Prop}
    (W : WalksS P w A.in1 I fp wr G n Pv St) (nf : S ∉ fp) (J : Nat → Heap → Prop) (stay : ∀ i h h', J i h → (∀ b o, b ∉ wr → h.get? b = some o → h'.get? b = some o) → J i h')
    (step : ∀ (E : Value → Shared → Prop) (i : Nat) (v : Value) (s : Shared) (Q : Bool → Shared → Prop), Pv i v → J i s.heap → (∀ b h' tk, s.toks ≤ tk → Heap.SameBut S s.heap h' → J (i + 1) h' → Q b { s with heap := h', toks := tk }) → wpAny (model P w) A.in1 (setAdd S v) Q E s) :
    ∀ (m i : Nat) (s : Shared), n - i = m → i ≤ n → St i s → J i s.heap → (∀ s', Moved (S :: wr) G s s' → J n s'.heap → Rr (.ok (.ret .none)) s') →
      codeAny (model P w) A (.builtin "set.update.loop" ⟨[.ref S, .ref I], []⟩) Rr s := by
  have up : ∀ b ∈ wr, b ∈ S :: wr := fun b hb => List.mem_cons_of_mem _ hb
  intro m
  induction m with
  | zero =>
    intro i s em hi st j hR
    obtain rfl : i = n := by omega
    refine codeAny_builtin F.entry_set_update_loop ?_
    rw [Around.under_plainId F.plain_set_update_loop _]
    show wpAny _ A.in1 (pyNext (.ref I) >>= _) _ _ _
    refine wpAny_bind (W.done s _ _ st fun s' mv => ?_)
    exact wpAny_pure (hR s' (mv.mono up) (stay _ _ _ j fun b o hb e => mv.heap b o hb e))
  | succ m ih =>
    intro i s em hi st j hR
    have lt : i < n := by omega
    refine codeAny_builtin F.entry_set_update_loop ?_
    rw [Around.under_plainId F.plain_set_update_loop _]
    show wpAny _ A.in1 (pyNext (.ref I) >>= _) _ _ _
    refine wpAny_bind (W.item i s _ _ lt st fun v s' hP st' mv => ?_)
    have j' := stay _ _ _ j fun b o hb e => mv.heap b o hb e
    show wpAny _ A.in1 (holding [v] (setAdd S v) >>= _) _ _ _
    refine wpAny_bind (wpAny_holding (step _ i v s' _ hP j' fun b h' tk le sb j2 => ?_))
    refine wpAny_pure ⟨plainId_quiet F.plain_set_update_loop _, ih (i + 1) _ (by omega) lt (W.frame _ s' _ _ st' le fun b hb o e => ?_) j2 fun s2 mv2 j3 => ?_⟩
    · exact (sb.2 b fun z => nf (z ▸ hb)).trans e
    · refine hR s2 (Moved.trans W.gtrans ((mv.mono up).then_heap le fun b o hb e => ?_) mv2) j3
      exact (sb.2 b fun z => hb (z ▸ List.mem_cons_self ..)).trans e
/-- a set that has just been made -/
abbrev newS (w : World) : Obj := { cls := .type "set", dict := none, data := .set #[] 0 (.fresh 0 0 (!w.params.followText "set-order")) }
abbrev pushS (w : World) (s : Shared) : Shared := { s with heap := s.heap.push (newS w) }
/-- set(xs), xs a list -/
theorem call_setJ {l : Addr} {items : Array Value} {Q : Value → Shared → Prop} (hh : A.handled = none) (hl : s.heap.IsList l items) (J : Nat → Heap → Prop)
    (stay : ∀ i h h', J i h → (∀ b o, b ≠ s.heap.objs.size + 1 → h.get? b = some o → h'.get? b = some o) → J i h') (zero : J 0 (pushS w s).heap)
    (step : ∀ (A' : Around) (E : Value → Shared → Prop) (i : Nat) (v : Value) (s1 : Shared) (Q : Bool → Shared → Prop), A'.units ≤ A.units + 3 → items[i]? = some v → J i s1.heap →
      (∀ b h' tk, s1.toks ≤ tk → Heap.SameBut s.heap.objs.size s1.heap h' → J (i + 1) h' → Q b { s1 with heap := h', toks := tk }) → wpAny (model P w) A' (setAdd s.heap.objs.size v) Q E s1)
    (hQ : ∀ h' tk, J items.size h' → (∀ b o, s.heap.get? b = some o → h'.get? b = some o) → Q (.ref s.heap.objs.size) { s with heap := h', toks := tk }) :
    wpAny (model P w) A (call (.type "set") [.ref l]) Q E s := by
  obtain ⟨c0, t0, m0⟩ := F.called_set.mro
  have m1 := F.called_set.made
  have m2 := F.called_set.sub
  have m3 := F.called_set.notType
  have m4 := F.called_set.canCreate
  have m5 := F.typeCall_set_1 (.ref l)
  have lt : l < s.heap.objs.size := by
    obtain ⟨o, e, _⟩ := hl
    exact Heap.lt_size e
  refine wpAny_call (codeAny_of_tree ?_)
  show wpAny _ _ (callAny (.type "set") _) _ _ _
  refine wpAny_pure ⟨Code.quiet_builtin _ (by decide +kernel), codeAny_builtin F.entry_type_call ?_⟩
  rw [Around.under_plain (weight_type_call_type "set" [.ref l] []) rfl]
  repeat (any_goals (first | assumption | wp_step))
  refine codeAny_mono (code_set_led1 (.ref l) (E := E) (Q₁ := fun x s1 => x = .ref s.heap.objs.size ∧ s1 = pushS w s) ⟨rfl, rfl⟩) fun r s1 hr => ?_
  match r, hr with
  | .error _, hr => exact hr
  | .ok (.ret x), hr =>
    obtain ⟨rfl, rfl⟩ := hr
    have e0 : (pushS w s).heap.get? s.heap.objs.size = some (newS w) := Heap.get?_push_size _ rfl
    have ty : (pushS w s).TypeIs (.ref s.heap.objs.size) "set" := ⟨_, e0, rfl⟩
    have i1 := F.called_set.init.lookup
    have i2 := F.called_set.init.bind (.ref s.heap.objs.size)
    repeat (any_goals (first | assumption | wp_step))
    refine codeAny_mono (codeAny_call_builtin (R := wants (fun r s2 => r = .none ∧ ∃ h' tk, s2 = { s with heap := h', toks := tk } ∧ J items.size h' ∧ ∀ b o, s.heap.get? b = some o → h'.get? b = some o) E)
      F.called_set.init.plain F.entry_set_init (check_set_init_1 ty ?_)) fun r2 s2 hr2 => ?_
    · obtain ⟨⟨oc, od, oD, osl⟩, ol, cl, nl, dl⟩ := hl
      simp only at cl dl
      subst cl; subst dl
      have ol1 : (pushS w s).heap.get? l = some { cls := .type "list", dict := od, data := .seq items nl, slots := osl } := Heap.get?_push_of_some _ ol
      have l1 : (pushS w s).heap.IsList l items := ⟨_, ol1, rfl, nl, rfl⟩
      have f1 := F.sub_list_set
      have f2 := F.sub_list_frozenset
      have f3 : (Value.type "list" == Value.type "dict") = false := by decide
      unfold Builtin.«set.__init__» noKeywords Builtin.Frozenset.updateFrom
      generalize hg : pyIter = pI
      wp_walk
      subst hg
      refine wpAny_pyIter_list l1 (wpAny_bind (wpAny_runValue ?_))
      have zI : (pushS w s).heap.objs.size = s.heap.objs.size + 1 := Heap.size_push ..
      refine s_update (S := s.heap.objs.size) (Walks.list (by simp [hh]) _ l (by rw [zI]; exact Nat.ne_of_lt (Nat.lt_succ_of_lt lt)) items).toS (by rw [zI]; simp only [List.mem_cons, List.not_mem_nil, or_false, not_or]; exact ⟨Nat.ne_of_lt (Nat.lt_succ_self _), Nat.ne_of_gt lt⟩) J (fun i h h' j k => stay i h h' j fun b o hb e => k b o (by rw [zI]; simpa using hb) e)
        (fun E i v s1 Q' pv j k => step _ E i v s1 Q' (by simp [Around.in1]) pv j k) (items.size - 0) 0 _ rfl (Nat.zero_le _) ⟨⟨_, Heap.get?_push_size _ rfl, rfl, rfl⟩, l1.push _⟩ (stay _ _ _ zero fun b o _ e => Heap.get?_push_of_some _ e) ?_
      intro s' mv j
      obtain ⟨h', g', d', tk', o'⟩ := s'
      obtain rfl : g' = s.gens := mv.gens
      obtain rfl : d' = s.drawn := mv.drawn
      obtain rfl : o' = s.os := mv.os
      show wpAny _ _ _ _ _ _
      refine wpAny_pure ?_
      show wpAny _ _ (ret Value.none) _ _ _
      refine wpAny_pure ⟨rfl, h', tk', rfl, j, fun b o e => ?_⟩
      have bl := Heap.lt_size e
      refine mv.heap b o ?_ (Heap.get?_push_of_some _ (Heap.get?_push_of_some _ e))
      rw [zI]
      simp only [List.mem_cons, List.not_mem_nil, or_false, not_or]
      exact ⟨Nat.ne_of_lt bl, Nat.ne_of_lt (Nat.lt_succ_of_lt bl)⟩
    · match r2, hr2 with
      | .error _, hr2 => exact hr2
      | .ok (.ret x), hr2 =>
        obtain ⟨rfl, h', tk, rfl, j, kp⟩ := hr2
        repeat (any_goals (first | assumption | wp_step))
        exact hQ h' tk j kp
end
end OW
end
section
set_option Elab.async false
set_option linter.all false
set_option maxRecDepth 100000
set_option maxHeartbeats 4000000
/-! Sp: sets of numbers and texts; sorted of a set of plain data. -/
namespace OW
open PySem PySem.Spec PyProof.Rows L2
theorem perm_map_ex {α β : Type} {f : α → β} : ∀ {l m : List β}, l.Perm m → ∀ L : List α, m = L.map f → ∃ L' : List α, L'.Perm L ∧ l = L'.map f := by
  intro l m p
  induction p with
  | nil => intro L e; exact ⟨L, .rfl, e⟩
  | cons x _ ih =>
    intro L e
    cases L with
    | nil => cases e
    | cons a L =>
      rw [List.map_cons] at e
      injection e with e1 e2
      obtain ⟨L', p', e'⟩ := ih L e2
      exact ⟨a :: L', p'.cons a, by rw [List.map_cons, e1, e']⟩
  | swap x y l =>
    intro L e
    match L, e with
    | a :: b :: L, e =>
      rw [List.map_cons, List.map_cons] at e
      injection e with e1 e2
      injection e2 with e2 e3
      exact ⟨b :: a :: L, .swap .., by rw [List.map_cons, List.map_cons, e1, e2, e3]⟩
    | [], e => cases e
    | [_], e => cases e
  | trans _ _ ih1 ih2 =>
    intro L e
    obtain ⟨L2, p2, e2⟩ := ih2 L e
    obtain ⟨L1, p1, e1⟩ := ih1 L2 e2
    exact ⟨L1, p1.trans p2, e1⟩
section
variable {P : Program} {w : World} {A : Around} {E : Value → Shared → Prop} {s : Shared} {S : Addr}
abbrev KRow := Value × Key
def kEnt (w : World) (r : KRow) : Int × Value := (keyH w r.2, r.1)
/-- a set of numbers and texts -/
structure KSet (w : World) (h : Heap) (S : Addr) (L : List KRow) (es : Array (Int × Value)) (ep : Nat) (t : SetTable) : Prop where
  obj : ∃ o, h.get? S = some o ∧ o.ExactSet ∧ o.data = .set es ep t
  ent : es.toList = L.map (kEnt w)
  once : (L.map Prod.snd).Nodup
  keys : ∀ r ∈ L, keyIs r.2 r.1 = true
  fit : t.fits es.size = true
  ris : Ris t.place.toList
  led : w.params.followText "set-order" = true ∨ t.led = true
  lt : L.length < 64
variable {h : Heap} {L : List KRow} {es : Array (Int × Value)} {ep : Nat} {t : SetTable} {k : Key} {x : Value}
theorem KSet.len (R : KSet w h S L es ep t) : es.size = L.length := by
  rw [← Array.length_toList, R.ent, List.length_map]
theorem keyIs_scan (hk : keyIs k x = true) : x.scannable = true := by
  rcases keyIs_shape hk with ⟨i, t, rfl, rfl⟩ | ⟨y, t, rfl, rfl⟩ <;> rfl
theorem k_elems (he : es.toList = L.map (kEnt w)) (hk : ∀ r ∈ L, keyIs r.2 r.1 = true) : ElemsOf (mixKind P w) es.toList := fun e m => by
  rw [he] at m
  obtain ⟨r, hr, rfl⟩ := List.mem_map.mp m
  exact ⟨⟨r.2, hk r hr, rfl⟩, keyIs_scan (hk r hr)⟩
theorem k_tail {g : Bool → Sem Unit} (hg : ∀ (b : Bool) (s1 : Shared) (Q' : Unit → Shared → Prop), Q' () s1 → wpAny (model P w) A (g b) Q' E s1) {o : Obj} (go : s.heap.get? S = some o) (gx : o.ExactSet) (gd : o.data = .set es ep t)
    {es1 : Array (Int × Value)} {t1 : SetTable} (e1 : es1.toList = L.map (kEnt w)) (once : (L.map Prod.snd).Nodup) (keys : ∀ r ∈ L, keyIs r.2 r.1 = true) (few : L.length < 64) (fit : t1.fits es1.size = true) (ris : Ris t1.place.toList) (led : w.params.followText "set-order" = true ∨ t1.led = true)
    {dm : Bool} {R : Option Bool → Shared → Prop} (hR : ∀ h' L' es' ep' t', Heap.SameBut S s.heap h' → KSet w h' S L' es' ep' t' → L'.Perm L → R (some true) { s with heap := h' }) :
    wpAny (model P w) A (do
      storeSet S es1 t1
      if (!dm && t1.tooFull) = true then do
        g (relayAll t1 es1 (SetTable.grown es1.size)).2.2
        storeSet S (relayAll t1 es1 (SetTable.grown es1.size)).1 (relayAll t1 es1 (SetTable.grown es1.size)).2.1
        pure (some true)
      else pure (some true)) R E s := by
  have sz : es1.size = L.length := by rw [← Array.length_toList, e1, List.length_map]
  refine wpAny_bind (wpAny_storeSet_of go gd ?_ (by rw [sz, sizeLine_eq]; omega))
  have go1 := store_at (es' := es1) (t' := t1) go gd
  have sb := Heap.SameBut.update s.heap S (Obj.putSet es1 t1)
  split
  · have p2 := relayAll_perm t1 es1 (SetTable.grown es1.size)
    have f2 := relayAll_fits t1 es1 (SetTable.grown es1.size)
    have r2 := relayAll_ris t1 es1 (SetTable.grown es1.size)
    have l2 := relayAll_led t1 es1 (SetTable.grown es1.size)
    generalize relayAll t1 es1 (SetTable.grown es1.size) = Z at p2 f2 r2 l2 ⊢
    obtain ⟨es2, t2, gv⟩ := Z
    dsimp only at p2 f2 r2 l2 ⊢
    obtain ⟨L2, pL, e2⟩ := perm_map_ex p2 L e1
    have sz2 : es2.size = L.length := by rw [← Array.length_toList, e2, List.length_map, pL.length_eq]
    refine wpAny_bind (hg _ _ _ (wpAny_bind (wpAny_storeSet_of go1 rfl ?_ (by rw [sz2, sizeLine_eq]; omega))))
    refine wpAny_pure (hR _ L2 es2 _ t2 (sb.trans (Heap.SameBut.update _ S _)) { obj := ⟨_, store_at (es' := es2) (t' := t2) go1 rfl, ⟨gx.1, gx.2.1, gx.2.2⟩, rfl⟩, ent := e2, once := ?_, keys := fun r hr => keys r (pL.mem_iff.mp hr), fit := f2, ris := r2, led := led.imp id fun z => by rw [l2]; exact z, lt := by rw [pL.length_eq]; exact few } pL)
    exact (pL.map Prod.snd).nodup_iff.mpr once
  · exact wpAny_pure (hR _ L es1 _ t1 sb { obj := ⟨_, go1, ⟨gx.1, gx.2.1, gx.2.2⟩, rfl⟩, ent := e1, once := once, keys := keys, fit := fit, ris := ris, led := led, lt := few } .rfl)
theorem k_add (R : KSet w s.heap S L es ep t) (hk : keyIs k x = true) (few : L.length + 1 < 64) {Q : Bool → Shared → Prop}
    (hQ : ∀ b h' L' es' ep' t', Heap.SameBut S s.heap h' → KSet w h' S L' es' ep' t' → (k ∈ L.map Prod.snd → L' = L) → (k ∉ L.map Prod.snd → L'.Perm ((x, k) :: L)) → Q b { s with heap := h' }) :
    wpAny (model P w) A (setAddHashed S x (keyH w k)) Q E s := by
  obtain ⟨o, go, gx, gd⟩ := R.obj
  have sz := R.len
  have hel : ElemsOf (mixKind P w) es.toList := k_elems R.ent R.keys
  have sc := keyIs_scan hk
  unfold setAddHashed setAddHashedIn
  refine wpAny_holding (wpAny_bind (wpAny_setState_of go gd R.fit ?_))
  dsimp only
  rw [byScan_of sc (by rw [sz]; have := R.lt; unfold scanBound; omega) hel]
  simp only [↓reduceIte]
  unfold setAddByScan
  refine wpAny_bind (wpAny_bind (wpAny_rule (wpAny_bind (wpAny_setScan_of (knd := mixKind P w) hk go gd R.fit hel ?_))))
  cases fi : List.findIdx? (fun e => (mixKind P w).is k e.2) es.toList with
  | some j =>
    dsimp only
    obtain ⟨hj, pj, _⟩ := List.findIdx?_eq_some_iff_getElem.mp fi
    have there : k ∈ L.map Prod.snd := by
      have m : es.toList[j] ∈ es.toList := List.getElem_mem hj
      generalize es.toList[j] = e at m pj
      rw [R.ent] at m
      obtain ⟨r, hr, rfl⟩ := List.mem_map.mp m
      have q : r.2 = k := (mixKind P w).inj r.1 _ _ (R.keys r hr) pj
      exact List.mem_map.mpr ⟨r, hr, q⟩
    exact wpAny_pure (wpAny_pure (hQ false s.heap L es ep t (Heap.SameBut.refl S s.heap) R (fun _ => rfl) fun z => absurd there z))
  | none =>
    dsimp only
    have out : k ∉ L.map Prod.snd := fun z => by
      obtain ⟨r, hr, rfl⟩ := List.mem_map.mp z
      have c := List.findIdx?_eq_none_iff.mp fi (kEnt w r) (by rw [R.ent]; exact List.mem_map.mpr ⟨r, hr, rfl⟩)
      have c2 : keyIs r.2 r.1 = false := c
      rw [R.keys r hr] at c2
      cases c2
    have hgw : ∀ (b : Bool) {s1 : Shared} {Q' : Unit → Shared → Prop}, Q' () s1 → wpAny (model P w) A (match b with | true => rule "set.scan.the-table-gave-way" | false => pure ()) Q' E s1 :=
      fun b s1 Q' q => by cases b <;> first | exact wpAny_pure q | exact wpAny_rule q
    have p1 := layNew_perm t es (keyH w k) x
    have f1 := layNew_fits t es (keyH w k) x
    have r1 := layNew_ris t es (keyH w k) x R.ris
    have l1 := layNew_led t es (keyH w k) x
    generalize layNew t es (keyH w k) x = Z at p1 f1 r1 l1 ⊢
    obtain ⟨es1, t1, dm, gv⟩ := Z
    dsimp only at p1 f1 r1 l1 ⊢
    rw [Array.toList_push, R.ent] at p1
    obtain ⟨L1, pL, e1⟩ := perm_map_ex (f := kEnt w) (p1.trans (List.perm_append_singleton _ _)) ((x, k) :: L) rfl
    have once1 : (L1.map Prod.snd).Nodup := (pL.map Prod.snd).nodup_iff.mpr (List.nodup_cons.mpr ⟨out, R.once⟩)
    have keys1 : ∀ r ∈ L1, keyIs r.2 r.1 = true := fun r hr => by
      rcases List.mem_cons.mp (pL.mem_iff.mp hr) with rfl | z
      · exact hk
      · exact R.keys r z
    have few1 : L1.length < 64 := by rw [pL.length_eq]; exact few
    have led1 : w.params.followText "set-order" = true ∨ t1.led = true := R.led.imp id fun z => by rw [l1]; exact z
    refine wpAny_bind (hgw _ ?_)
    split
    · refine wpAny_bind ?_
      rw [hashByValue_scannable 8 sc]
      refine wpAny_pure ?_
      refine k_tail (L := L1) ?_ go gx gd e1 once1 keys1 few1 ?_ ?_ ?_ ?_
      · intro b s1 Q' q; cases b <;> first | exact wpAny_pure q | exact wpAny_rule q
      · first | (split <;> first | exact f1 | exact SetTable.fits_plain_off f1) | exact f1
      · first | (split <;> exact r1) | exact r1
      · first | (split <;> exact led1) | exact led1
      · intro h' L' es' ep' t' sb R2 p2; dsimp only; exact wpAny_pure (hQ true h' L' es' ep' t' sb R2 (fun z => absurd z out) fun _ => p2.trans pL)
    · refine wpAny_bind (wpAny_pure ?_)
      simp only [↓reduceIte]
      refine k_tail (L := L1) ?_ go gx gd e1 once1 keys1 few1 f1 r1 led1 ?_
      · intro b s1 Q' q; cases b <;> first | exact wpAny_pure q | exact wpAny_rule q
      · intro h' L' es' ep' t' sb R2 p2; dsimp only; exact wpAny_pure (hQ true h' L' es' ep' t' sb R2 (fun z => absurd z out) fun _ => p2.trans pL)
theorem KSet.keep {h' : Heap} (R : KSet w h S L es ep t) (e : ∀ o, h.get? S = some o → h'.get? S = some o) : KSet w h' S L es ep t := by
  obtain ⟨o, go, r⟩ := R.obj
  exact { R with obj := ⟨o, e o go, r⟩ }
/-! ### what is kept of a set when it is made -/
structure Holds (w : World) (h : Heap) (S : Addr) (vs : List Value) : Prop where
  ex : ∃ es ep t, SetAt h S es ep t ∧ es.toList.map (·.2) = vs ∧ t.fits es.size = true ∧ Ris t.place.toList ∧ (w.params.followText "set-order" = true ∨ t.led = true)
  lt : vs.length < 64
theorem KSet.holds (R : KSet w h S L es ep t) : Holds w h S (L.map Prod.fst) := by
  obtain ⟨o, go, gx, gd⟩ := R.obj
  refine ⟨⟨es, ep, t, ⟨o, go, gx.1, gd⟩, ?_, R.fit, R.ris, R.led⟩, by rw [List.length_map]; exact R.lt⟩
  rw [R.ent, List.map_map]
  rfl
theorem NSet.holds {L : List Row} (R : NSet w h S L es ep t) : Holds w h S (L.map fun r => .ref r.1) := by
  obtain ⟨o, go, gx, gd⟩ := R.obj
  refine ⟨⟨es, ep, t, ⟨o, go, gx.1, gd⟩, ?_, R.fit, R.tbl.ris, R.led⟩, by rw [List.length_map]; exact R.lt⟩
  rw [R.ent, List.map_map]
  rfl
/-! ### set(xs) -/
theorem set_keys {l : Addr} {items : Array Value} {Q : Value → Shared → Prop} (hh : A.handled = none) (hl : s.heap.IsList l items) (ks : List KRow) (hi : items.toList = ks.map Prod.fst) (hk : ∀ r ∈ ks, keyIs r.2 r.1 = true) (few : ks.length < 63)
    (hQ : ∀ h' tk L, Holds w h' s.heap.objs.size (L.map Prod.fst) → (L.map Prod.snd).Nodup → Has ks ks.length L → (∀ b o, s.heap.get? b = some o → h'.get? b = some o) → Q (.ref s.heap.objs.size) { s with heap := h', toks := tk }) :
    wpAny (model P w) A (call (.type "set") [.ref l]) Q E s := by
  have sz : items.size = ks.length := by rw [← Array.length_toList, hi, List.length_map]
  refine call_setJ hh hl (fun i h => ∃ L es ep t, KSet w h s.heap.objs.size L es ep t ∧ Has ks i L) ?_ ?_ ?_ ?_
  · rintro i h h' ⟨L, es, ep, t, R, g⟩ kp
    exact ⟨L, es, ep, t, R.keep fun o e => kp _ o (Nat.ne_of_lt (Nat.lt_succ_self _)) e, g⟩
  · refine ⟨[], #[], 0, _, { obj := ⟨_, Heap.get?_push_size _ rfl, ⟨rfl, rfl, rfl⟩, rfl⟩, ent := rfl, once := List.nodup_nil, keys := fun r hr => (by cases hr), fit := rfl, ris := List.Pairwise.nil, led := ?_, lt := by decide }, ⟨fun r hr => (by cases hr), fun r hr => (by rw [List.take_zero] at hr; cases hr), Nat.zero_le _⟩⟩
    show _ ∨ (!w.params.followText "set-order") = true
    cases w.params.followText "set-order"
    · exact .inr rfl
    · exact .inl rfl
  · rintro A' E' i v s1 Q' _ hv ⟨L, es, ep, t, R, g⟩ hq
    have q : items.toList[i]? = some v := by rw [Array.getElem?_toList]; exact hv
    rw [hi, List.getElem?_map] at q
    obtain ⟨r, er, e⟩ := Option.map_eq_some_iff.mp q
    subst e
    have hr := hk r (List.mem_of_getElem? er)
    unfold setAdd
    refine wpAny_holding (wpAny_bind ((mixKind P w).pyHash hr ?_))
    have le := lt_of_getElem? er
    refine k_add (s := { s1 with toks := s1.toks + 1 }) R hr (by have := g.len; omega) fun b h' L' es' ep' t' sb R2 c1 c2 => ?_
    exact hq b h' _ (Nat.le_succ _) sb ⟨L', es', ep', t', R2, g.next er c1 c2⟩
  · rintro h' tk ⟨L, es, ep, t, R, g⟩ kp
    rw [sz] at g
    exact hQ h' tk L R.holds R.once g kp
theorem set_tups {l : Addr} {items : Array Value} {Q : Value → Shared → Prop} (hh : A.handled = none) (hu : A.units + 20 < cLine) (hl : s.heap.IsList l items) (ks : List Row) (hi : items.toList = ks.map fun r => .ref r.1) (hk : ∀ r ∈ ks, NIs s.heap r.2 r.1) (few : ks.length < 63)
    (hQ : ∀ h' tk L, Holds w h' s.heap.objs.size (L.map fun r => .ref r.1) → (L.map Prod.snd).Nodup → Has ks ks.length L → (∀ b o, s.heap.get? b = some o → h'.get? b = some o) → Q (.ref s.heap.objs.size) { s with heap := h', toks := tk }) :
    wpAny (model P w) A (call (.type "set") [.ref l]) Q E s := by
  have sz : items.size = ks.length := by rw [← Array.length_toList, hi, List.length_map]
  have out : ∀ b, s.heap.objs.size ≤ b → s.heap.get? b = none := fun b hb => by
    cases q : s.heap.get? b with
    | none => rfl
    | some o => exact absurd (Heap.lt_size q) (Nat.not_lt_of_le hb)
  refine call_setJ hh hl (fun i h => (∀ b o, s.heap.get? b = some o → h.get? b = some o) ∧ ∃ L es ep t, NSet w h s.heap.objs.size L es ep t ∧ Has ks i L) ?_ ?_ ?_ ?_
  · rintro i h h' ⟨k0, L, es, ep, t, R, g⟩ kp
    have k1 : ∀ b o, s.heap.get? b = some o → h'.get? b = some o := fun b o e => kp b o (fun z => by rw [z, out _ (Nat.le_succ _)] at e; cases e) (k0 b o e)
    exact ⟨k1, L, es, ep, t, R.keep (fun o e => kp _ o (Nat.ne_of_lt (Nat.lt_succ_self _)) e) fun r hr => (hk r (List.mem_of_mem_take (g.sub r hr))).keep k1, g⟩
  · exact ⟨fun b o e => Heap.get?_push_of_some _ e, [], #[], 0, _, n_fresh (Heap.get?_push_size _ rfl), ⟨fun r hr => (by cases hr), fun r hr => (by rw [List.take_zero] at hr; cases hr), Nat.zero_le _⟩⟩
  · rintro A' E' i v s1 Q' hA hv ⟨k0, L, es, ep, t, R, g⟩ hq
    have q : items.toList[i]? = some v := by rw [Array.getElem?_toList]; exact hv
    rw [hi, List.getElem?_map] at q
    obtain ⟨r, er, e⟩ := Option.map_eq_some_iff.mp q
    subst e
    have hr := (hk r (List.mem_of_getElem? er)).keep k0
    have d8 := hr.2
    have le := lt_of_getElem? er
    unfold setAdd
    refine wpAny_holding (wpAny_bind (pyHash_key r.2 _ A' s1 _ hr.1 (by omega) ?_))
    refine n_add (s := { s1 with toks := s1.toks + r.2.draws }) R hr (by omega) (by have := g.len; omega) fun b h' L' es' ep' t' sb R2 c1 c2 => ?_
    exact hq b h' _ (Nat.le_add_right _ _) sb ⟨fun b o e => (sb.2 b (fun z => by rw [z, out _ (Nat.le_refl _)] at e; cases e)).trans (k0 b o e), L', es', ep', t', R2, g.next er c1 c2⟩
  · rintro h' tk ⟨_, L, es, ep, t, R, g⟩ kp
    rw [sz] at g
    exact hQ h' tk L R.holds R.once g kp
/-! ### sorted of a set -/
mutual
theorem reads_at {h : Heap} : ∀ (d : PyData) (v : Value) (as : List Addr), Reads h v d as → d.hasDict = false → ∀ a ∈ as, h.get? a ≠ none
  | .none, _, _, r, _, a, m => by cases r; cases m
  | .bool _, _, _, r, _, a, m => by cases r; cases m
  | .int _, _, _, r, _, a, m => by cases r; cases m
  | .str _, _, _, r, _, a, m => by cases r; cases m
  | .list xs, _, _, r, d, a, m => by
    cases r with
    | list g _ _ ra =>
      rcases List.mem_cons.mp m with rfl | m
      · rw [g]; exact nofun
      · exact readsAll_at xs _ _ ra d a m
  | .tuple xs, _, _, r, d, a, m => by
    cases r with
    | tuple g _ _ ra => exact readsAll_at xs _ _ ra d a m
  | .dict _, _, _, _, d, _, _ => by cases d
theorem readsAll_at {h : Heap} : ∀ (ds : List PyData) (vs : List Value) (as : List Addr), ReadsAll h vs ds as → PyData.hasDictAll ds = false → ∀ a ∈ as, h.get? a ≠ none
  | [], _, _, r, _, a, m => by cases r; cases m
  | d :: ds, _, _, r, hd, a, m => by
    have hd' : (d.hasDict || PyData.hasDictAll ds) = false := hd
    rw [Bool.or_eq_false_iff] at hd'
    cases r with
    | cons r1 r2 =>
      rcases List.mem_append.mp m with m | m
      · exact reads_at d _ _ r1 hd'.1 a m
      · exact readsAll_at ds _ _ r2 hd'.2 a m
end
theorem each_zip {α β : Type} {R : α → β → Prop} : ∀ (M : List (α × β)), (∀ m ∈ M, R m.1 m.2) → PySem.W.EachIs R (M.map Prod.fst) (M.map Prod.snd)
  | [], _ => .nil
  | m :: M, k => .cons (k m (List.mem_cons_self ..)) (each_zip M fun x hx => k x (List.mem_cons_of_mem _ hx))
theorem sorted_setD {β : Type} {M : List (Value × β)} (hS : Holds w s.heap S (M.map Prod.fst)) (hh : A.handled = none) {R : Value → β → Prop} {enc : β → PyData} (e : ∀ m ∈ M, R m.1 m.2) (er : ∀ m ∈ M, ∃ as, Reads s.heap m.1 (enc m.2) as)
    (nd : ∀ m ∈ M, (enc m.2).hasDict = false) (hal : PySem.W.AllAlike ((M.map Prod.snd).map enc)) (hk : PySem.W.Sortable ((M.map Prod.snd).map enc)) (hu : ∀ m ∈ M, A.units + 10 + (enc m.2).depth < cLine) {Q : Value → Shared → Prop}
    (hQ : ∀ s' p (out : List Value) (c : Nat) (bs : List β), (∀ b o, s.heap.get? b = some o → s'.heap.get? b = some o) → s'.gens = s.gens → s'.os = s.os → s.heap.objs.size ≤ p → s'.heap.get? p = some (seqObj "list" out.toArray c) →
      bs.Perm (M.map Prod.snd) → PySem.W.EachIs R out (bs.mergeSort (PySem.W.dataLe false enc)) → Q (.ref p) s') :
    wpAny (model P w) A (call (.builtin "sorted") [.ref S]) Q E s := by
  obtain ⟨⟨es, ep, t, hat, hv, hf, hr, hl⟩, lt⟩ := hS
  have sz : es.size = (M.map Prod.fst).length := by rw [← hv, List.length_map, Array.length_toList]
  refine Calls.call_function_entry kind_sorted plain_sorted entry_sorted (args_sorted1 _) ?_
  unfold Builtin.«sorted»
  refine wpAny_bind (m := checkCount "sorted" 1 1 _) (wpAny_pure (wpAny_bind (collect_set (A := A.in1) hh hat hf (by rw [sz]; unfold scanBound; omega) hr hl fun s1 vs k1 hz g1 o1 pm => ?_)))
  rw [hv] at pm
  obtain ⟨M', pM, rfl⟩ := perm_map_ex pm M rfl
  have len : (M'.map Prod.fst).length < 64 := by rw [List.length_map, pM.length_eq, ← List.length_map (f := Prod.fst)]; exact lt
  have mem : ∀ m ∈ M', m ∈ M := fun m hm => pM.mem_iff.mp hm
  have pD : ((M'.map Prod.snd).map enc).Perm ((M.map Prod.snd).map enc) := (pM.map _).map _
  refine wpAny_bind (wpAny_newList ?_ (by rw [sizeLine_eq]; omega))
  have at1 : (s1.heap.push (seqObj "list" (M'.map Prod.fst).toArray 0)).get? s1.heap.objs.size = some (seqObj "list" (M'.map Prod.fst).toArray 0) := Heap.get?_push_size _ rfl
  refine wpAny_bind (wpAny_holding (PySem.W.list_sort_data (s := { s1 with heap := s1.heap.push (seqObj "list" (M'.map Prod.fst).toArray 0) }) (R := R) (bs := M'.map Prod.snd) at1 (each_zip M' fun m hm => e m (mem m hm))
    (each_zip (R := fun v b => ∃ as, Reads (s1.heap.push (seqObj "list" (M'.map Prod.fst).toArray 0)) v (enc b) as ∧ s1.heap.objs.size ∉ as) M' fun m hm => ?_) ?_ ?_ ?_ ?_ fun out lo eo => ?_))
  · obtain ⟨as, r⟩ := er m (mem m hm)
    have r1 := PyProof.Rows.Reads.keeps k1 r
    refine ⟨as, PyProof.Rows.Reads.keeps (fun b o e => Heap.get?_push_of_some _ e) r1, fun z => reads_at _ _ _ r1 (nd m (mem m hm)) _ z ?_⟩
    cases q : s1.heap.get? s1.heap.objs.size with
    | none => rfl
    | some o => exact absurd (Heap.lt_size q) (Nat.lt_irrefl _)
  · intro d hd d' hd'
    exact hal d (pD.mem_iff.mp hd) d' (pD.mem_iff.mp hd')
  · rcases hk with hk | hk
    · exact .inl fun d hd => hk d (pD.mem_iff.mp hd)
    · exact .inr fun d hd => hk d (pD.mem_iff.mp hd)
  · rw [List.length_map, ← List.length_map (f := Prod.fst), sizeLine_eq]; omega
  · intro b hb
    obtain ⟨m, hm, rfl⟩ := List.mem_map.mp hb
    have := hu m (mem m hm)
    show A.units + 1 + 1 + _ < _
    omega
  · obtain ⟨c, hc⟩ := sortedHeap_at (vs := M'.map Prod.fst) (out := out.toArray) at1
    refine wpAny_pure ⟨_, rfl, hQ _ s1.heap.objs.size out c (M'.map Prod.snd) (fun b o q => ?_) g1 o1 hz hc (pM.map _) eo⟩
    have q1 := k1 b o q
    have bl := Heap.lt_size q1
    show (sortedHeap (s1.heap.push (seqObj "list" (M'.map Prod.fst).toArray 0)) s1.heap.objs.size (M'.map Prod.fst) out.toArray).get? b = some o
    rw [sortedHeap_old (Nat.ne_of_lt bl) (by rw [size_push']; exact Nat.lt_succ_of_lt bl)]
    exact Heap.get?_push_of_some _ q1
end
end OW
end
section
set_option Elab.async false
set_option linter.all false
set_option autoImplicit false
set_option maxRecDepth 100000
set_option maxHeartbeats 4000000
/-! Sq: sorted(set(xs)) -/
namespace OW
open PySem L2
mutual
def nkD : D → NestedKey
  | .bl b => .num (if b = true then 1 else 0)
  | .int i => .num i
  | .str x => .text x
  | .tup xs => .tup (nkL xs)
  | _ => .none
def nkL : List D → List NestedKey
  | [] => []
  | x :: xs => nkD x :: nkL xs
end
def kyD : D → Key
  | .str x => .inr x
  | .int i => .inl i
  | _ => .inl 0
theorem keyL_cons {x : D} {xs : List D} : D.keyL (x :: xs) = (x.keyD && D.keyL xs) := rfl
theorem keyL_all : ∀ {xs : List D}, D.keyL xs = true → ∀ x ∈ xs, x.keyD = true
  | [], _, x, h => by cases h
  | y :: ys, h, x, m => by
    rw [keyL_cons, Bool.and_eq_true] at h
    rcases List.mem_cons.mp m with rfl | m
    · exact h.1
    · exact keyL_all h.2 x m
mutual
theorem nk_is {h : Heap} : ∀ (x : D) (v : Value) (as : List Addr), x.keyD = true → Reads h v x.py as → NestedIs h (nkD x) v
  | .non, _, _, _, r => by cases r; exact .none
  | .bl b, _, _, _, r => by cases r; exact .bool rfl
  | .int i, _, _, _, r => by cases r; exact .int _ _
  | .str x, _, _, _, r => by cases r; exact .text _ _
  | .tup xs, _, _, k, r => by
    cases r with
    | tuple g c d ra => exact .tup g c d (nk_all xs _ _ k ra)
  | .lst _, _, _, k, _ => by cases k
  | .ro _, _, _, k, _ => by cases k
  | .loc _, _, _, k, _ => by cases k
theorem nk_all {h : Heap} : ∀ (xs : List D) (vs : List Value) (as : List Addr), D.keyL xs = true → ReadsAll h vs (D.pyL xs) as → NestedAll h (nkL xs) vs
  | [], _, _, _, r => by cases r; exact .nil
  | x :: xs, _, _, k, r => by
    rw [keyL_cons, Bool.and_eq_true] at k
    cases r with
    | cons r1 r2 => exact .cons (nk_is x _ _ k.1 r1) (nk_all xs _ _ k.2 r2)
end
mutual
theorem nk_depth : ∀ x : D, (nkD x).depth ≤ x.py.depth
  | .non => Nat.zero_le _
  | .bl _ => Nat.zero_le _
  | .int _ => Nat.zero_le _
  | .str _ => Nat.zero_le _
  | .tup xs => Nat.succ_le_succ (nk_depthL xs)
  | .lst _ => Nat.zero_le _
  | .ro _ => Nat.zero_le _
  | .loc _ => Nat.zero_le _
theorem nk_depthL : ∀ xs : List D, NestedKey.depthAll (nkL xs) ≤ PyData.depthAll (D.pyL xs)
  | [] => Nat.zero_le _
  | x :: xs => by
    have a := nk_depth x
    have b := nk_depthL xs
    show max (nkD x).depth (NestedKey.depthAll (nkL xs)) ≤ max x.py.depth (PyData.depthAll (D.pyL xs))
    omega
end
mutual
theorem nk_inj : ∀ (x y : D), x.keyD = true → y.keyD = true → PySem.W.alike x.py y.py = true → nkD x = nkD y → x = y
  | .non, y, _, ky, al, e => by cases y <;> first | rfl | (simp [nkD] at e; done) | cases ky
  | .bl b, y, _, ky, al, e => by
    cases y with
    | bl c => cases b <;> cases c <;> first | rfl | (simp [nkD] at e)
    | int i => simp [D.py, PySem.W.alike] at al
    | non => simp [nkD] at e
    | str _ => simp [nkD] at e
    | tup _ => simp [nkD] at e
    | _ => cases ky
  | .int i, y, _, ky, al, e => by
    cases y with
    | int j => simp [nkD] at e; rw [e]
    | bl b => simp [D.py, PySem.W.alike] at al
    | non => simp [nkD] at e
    | str _ => simp [nkD] at e
    | tup _ => simp [nkD] at e
    | _ => cases ky
  | .str i, y, _, ky, al, e => by
    cases y with
    | str j => simp [nkD] at e; rw [e]
    | bl b => simp [nkD] at e
    | non => simp [nkD] at e
    | int _ => simp [nkD] at e
    | tup _ => simp [nkD] at e
    | _ => cases ky
  | .tup xs, y, kx, ky, al, e => by
    cases y with
    | tup ys =>
      simp only [nkD, NestedKey.tup.injEq] at e
      rw [nk_injL xs ys kx ky (by simpa [D.py, PySem.W.alike] using al) e]
    | bl b => simp [nkD] at e
    | non => simp [nkD] at e
    | int _ => simp [nkD] at e
    | str _ => simp [nkD] at e
    | _ => cases ky
  | .lst _, _, k, _, _, _ => by cases k
  | .ro _, _, k, _, _, _ => by cases k
  | .loc _, _, k, _, _, _ => by cases k
theorem nk_injL : ∀ (xs ys : List D), D.keyL xs = true → D.keyL ys = true → PySem.W.alikeAll (D.pyL xs) (D.pyL ys) = true → nkL xs = nkL ys → xs = ys
  | [], [], _, _, _, _ => rfl
  | [], _ :: _, _, _, _, e => by cases e
  | _ :: _, [], _, _, _, e => by cases e
  | x :: xs, y :: ys, kx, ky, al, e => by
    rw [keyL_cons, Bool.and_eq_true] at kx ky
    have al := PySem.W.alike_all_cons (x := x.py) (y := y.py) (xs := D.pyL xs) (ys := D.pyL ys) al
    simp only [nkL, List.cons.injEq] at e
    rw [nk_inj x y kx.1 ky.1 al.1 e.1, nk_injL xs ys kx.2 ky.2 al.2 e.2]
end
mutual
theorem eqv_inj : ∀ (x y : D), x.keyD = true → y.keyD = true → PySem.W.alike x.py y.py = true → PyData.eqv x.py y.py = true → x = y
  | .non, y, _, ky, al, e => by cases y <;> first | rfl | (simp [D.py, PySem.W.alike] at al; done) | cases ky
  | .bl b, y, _, ky, al, e => by
    cases y with
    | bl c => simp [D.py, PyData.eqv] at e; rw [e]
    | _ => first | (simp [D.py, PySem.W.alike] at al; done) | cases ky
  | .int b, y, _, ky, al, e => by
    cases y with
    | int c => simp [D.py, PyData.eqv] at e; rw [e]
    | _ => first | (simp [D.py, PySem.W.alike] at al; done) | cases ky
  | .str b, y, _, ky, al, e => by
    cases y with
    | str c => simp [D.py, PyData.eqv] at e; rw [e]
    | _ => first | (simp [D.py, PySem.W.alike] at al; done) | cases ky
  | .tup xs, y, kx, ky, al, e => by
    cases y with
    | tup ys => rw [eqv_injL xs ys kx ky (by simpa [D.py, PySem.W.alike] using al) (by simpa [D.py, PyData.eqv] using e)]
    | _ => first | (simp [D.py, PySem.W.alike] at al; done) | cases ky
  | .lst _, _, k, _, _, _ => by cases k
  | .ro _, _, k, _, _, _ => by cases k
  | .loc _, _, k, _, _, _ => by cases k
theorem eqv_injL : ∀ (xs ys : List D), D.keyL xs = true → D.keyL ys = true → PySem.W.alikeAll (D.pyL xs) (D.pyL ys) = true → PyData.eqvAll (D.pyL xs) (D.pyL ys) = true → xs = ys
  | [], [], _, _, _, _ => rfl
  | [], _ :: _, _, _, _, e => by simp [D.pyL, PyData.eqvAll] at e
  | _ :: _, [], _, _, _, e => by simp [D.pyL, PyData.eqvAll] at e
  | x :: xs, y :: ys, kx, ky, al, e => by
    rw [keyL_cons, Bool.and_eq_true] at kx ky
    have al := PySem.W.alike_all_cons (x := x.py) (y := y.py) (xs := D.pyL xs) (ys := D.pyL ys) al
    have e : (PyData.eqv x.py y.py && PyData.eqvAll (D.pyL xs) (D.pyL ys)) = true := by simpa [D.pyL, PyData.eqvAll] using e
    rw [Bool.and_eq_true] at e
    rw [eqv_inj x y kx.1 ky.1 al.1 e.1, eqv_injL xs ys kx.2 ky.2 al.2 e.2]
end
/-! ### the order -/
theorem toks_eq {x y : PyData} (al : PySem.W.alike x y = true) (e : PySem.W.keyToks x = PySem.W.keyToks y) : PyData.eqv x y = true := by
  cases q : PyData.eqv x y with
  | true => rfl
  | false =>
    have k := (PySem.W.toks_eqv x y al).2 q [.inl 0] [.inl 1]
    rw [e, PySem.W.lex_pre, PyProof.Rows.lex_irrefl] at k
    exact absurd k (by decide)
theorem le_antisymm {x y : D} (kx : x.keyD = true) (ky : y.keyD = true) (al : PySem.W.alike x.py y.py = true) (h1 : PySem.W.dataLe false D.py x y = true) (h2 : PySem.W.dataLe false D.py y x = true) : x = y := by
  have a : PySem.W.dataLt y.py x.py = false := by simpa [PySem.W.dataLe_eq] using h1
  have b : PySem.W.dataLt x.py y.py = false := by simpa [PySem.W.dataLe_eq] using h2
  exact eqv_inj x y kx ky al (toks_eq al (PyProof.Rows.lex_total _ _ b a))
theorem le_trans' (a b c : D) (h1 : PySem.W.dataLe false D.py a b = true) (h2 : PySem.W.dataLe false D.py b c = true) : PySem.W.dataLe false D.py a c = true := by
  have a1 : PySem.W.dataLt b.py a.py = false := by simpa [PySem.W.dataLe_eq] using h1
  have a2 : PySem.W.dataLt c.py b.py = false := by simpa [PySem.W.dataLe_eq] using h2
  show (!PySem.W.dataLt c.py a.py) = true
  cases q : PySem.W.dataLt c.py a.py with
  | false => rfl
  | true =>
    rcases PyProof.Rows.lex_negTrans _ (PySem.W.keyToks b.py) _ q with z | z
    · rw [show PySem.W.dataLt c.py b.py = true from z] at a2; cases a2
    · rw [show PySem.W.dataLt b.py a.py = true from z] at a1; cases a1
theorem le_total' (a b : D) : (PySem.W.dataLe false D.py a b || PySem.W.dataLe false D.py b a) = true := by
  show (!PySem.W.dataLt b.py a.py || !PySem.W.dataLt a.py b.py) = true
  cases q : PySem.W.dataLt b.py a.py with
  | false => rfl
  | true =>
    cases q2 : PySem.W.dataLt a.py b.py with
    | false => rfl
    | true =>
      have := PyProof.Rows.lex_trans _ _ _ q q2
      rw [PyProof.Rows.lex_irrefl] at this
      cases this
theorem perm_sorted {α : Type} {le : α → α → Prop} : ∀ {l m : List α}, l.Perm m → l.Pairwise le → m.Pairwise le → (∀ a ∈ l, ∀ b ∈ l, le a b → le b a → a = b) → l = m
  | [], m, p, _, _, _ => p.nil_eq
  | a :: l, [], p, _, _, _ => by have := p.length_eq; cases this
  | a :: l, b :: m, p, h1, h2, an => by
    have e : a = b := by
      rcases List.mem_cons.mp (p.mem_iff.mp (List.mem_cons_self ..)) with z | z
      · exact z
      · rcases List.mem_cons.mp (p.mem_iff.mpr (List.mem_cons_self ..)) with y | y
        · exact y.symm
        · exact an a (List.mem_cons_self ..) b (List.mem_cons_of_mem _ y) ((List.pairwise_cons.mp h1).1 b y) ((List.pairwise_cons.mp h2).1 a z)
    subst e
    rw [perm_sorted (List.Perm.cons_inv p) (List.pairwise_cons.mp h1).2 (List.pairwise_cons.mp h2).2 fun x hx y hy => an x (List.mem_cons_of_mem _ hx) y (List.mem_cons_of_mem _ hy)]
theorem sortD_perm {xs ys : List D} (p : xs.Perm ys) (al : ∀ x ∈ xs, ∀ y ∈ xs, PySem.W.alike x.py y.py = true) (kd : ∀ x ∈ xs, x.keyD = true) : sortD xs = sortD ys := by
  have px : (sortD xs).Perm xs := List.mergeSort_perm ..
  have py : (sortD ys).Perm ys := List.mergeSort_perm ..
  refine perm_sorted (px.trans (p.trans py.symm)) (List.pairwise_mergeSort le_trans' le_total' _) (List.pairwise_mergeSort le_trans' le_total' _) fun a ha b hb h1 h2 => ?_
  have ha := px.mem_iff.mp ha
  have hb := px.mem_iff.mp hb
  exact le_antisymm (kd a ha) (kd b hb) (al a ha b hb) h1 h2
/-! ### without what comes again -/
theorem dedup_sub : ∀ {ys : List D} {x : D}, x ∈ dedup ys → x ∈ ys
  | [], _, h => by cases h
  | y :: ys, x, h => by
    rcases List.mem_cons.mp h with rfl | h
    · exact List.mem_cons_self ..
    · exact List.mem_cons_of_mem _ (dedup_sub (List.mem_filter.mp h).1)
theorem mem_dedup : ∀ {ys : List D}, (∀ x ∈ ys, ∀ y ∈ ys, PyData.eqv x.py y.py = true → x = y) → ∀ x ∈ ys, x ∈ dedup ys
  | [], _, _, h => by cases h
  | y :: ys, k, x, h => by
    rcases List.mem_cons.mp h with rfl | h
    · exact List.mem_cons_self ..
    · cases q : PyData.eqv x.py y.py with
      | true =>
        rw [k x (List.mem_cons_of_mem _ h) y (List.mem_cons_self ..) q]
        exact List.mem_cons_self ..
      | false => exact List.mem_cons_of_mem _ (List.mem_filter.mpr ⟨mem_dedup (fun a ha b hb => k a (List.mem_cons_of_mem _ ha) b (List.mem_cons_of_mem _ hb)) x h, by rw [q]; rfl⟩)
theorem dedup_nodup : ∀ {ys : List D}, (∀ x ∈ ys, PyData.eqv x.py x.py = true) → (dedup ys).Nodup
  | [], _ => List.nodup_nil
  | y :: ys, k => by
    refine List.nodup_cons.mpr ⟨fun h => ?_, List.Pairwise.filter _ (dedup_nodup fun x hx => k x (List.mem_cons_of_mem _ hx))⟩
    have := (List.mem_filter.mp h).2
    rw [k y (List.mem_cons_self ..)] at this
    cases this
/-! ### rows -/
section
variable {h : Heap}
theorem rows_of : ∀ {us : List Value} {ys : List D}, PySem.W.EachIs (fun v b => ∃ as, Reads h v (D.py b) as) us ys → (∀ y ∈ ys, isTup1 y = true ∧ y.keyD = true ∧ y.py.depth ≤ 8) → ∃ ks : List Row, us = (ks.map fun r => Value.ref r.1) ∧ ks.map Prod.snd = ys.map nkD ∧ ∀ r ∈ ks, NIs h r.2 r.1
  | _, _, .nil, _ => ⟨[], rfl, rfl, fun r hr => (by cases hr)⟩
  | _, _, .cons (a := u) (b := y) ⟨as, r⟩ t, k => by
    obtain ⟨ks, e1, e2, e3⟩ := rows_of t fun x hx => k x (List.mem_cons_of_mem _ hx)
    obtain ⟨k1, k2, k3⟩ := k y (List.mem_cons_self ..)
    have n := nk_is y _ _ k2 r
    cases y with
    | tup zs =>
      cases r with
      | tuple g c d ra =>
        rename_i a o vs nn
        refine ⟨(a, nkD (.tup zs)) :: ks, by rw [List.map_cons, ← e1], by rw [List.map_cons, List.map_cons, e2], fun q hq => ?_⟩
        rcases List.mem_cons.mp hq with rfl | hq
        · exact ⟨n, Nat.le_trans (nk_depth _) k3⟩
        · exact e3 q hq
    | _ => cases k1
theorem krows_of : ∀ {us : List Value} {ys : List D}, PySem.W.EachIs (fun v b => ∃ as, Reads h v (D.py b) as) us ys → (∀ y ∈ ys, isKeyA y = true) → ∃ ks : List KRow, us = ks.map Prod.fst ∧ ks.map Prod.snd = ys.map kyD ∧ ∀ r ∈ ks, keyIs r.2 r.1 = true
  | _, _, .nil, _ => ⟨[], rfl, rfl, fun r hr => (by cases hr)⟩
  | _, _, .cons (a := u) (b := y) ⟨as, r⟩ t, k => by
    obtain ⟨ks, e1, e2, e3⟩ := krows_of t fun x hx => k x (List.mem_cons_of_mem _ hx)
    have k1 := k y (List.mem_cons_self ..)
    have n : keyIs (kyD y) u = true := by
      cases y with
      | int i => cases r; exact keyIs_int ..
      | str x => cases r; exact keyIs_str ..
      | _ => cases k1
    refine ⟨(u, kyD y) :: ks, by rw [List.map_cons, ← e1], by rw [List.map_cons, List.map_cons, e2], fun q hq => ?_⟩
    rcases List.mem_cons.mp hq with rfl | hq
    · exact n
    · exact e3 q hq
theorem pick1 {α κ : Type} {val : α → Value} {key : D → κ} {R : Value → D → Prop} : ∀ {us : List Value} {ys : List D} {ks : List (α × κ)}, PySem.W.EachIs R us ys → us = (ks.map fun r => val r.1) → ks.map Prod.snd = ys.map key → ∀ r ∈ ks, ∃ y ∈ ys, R (val r.1) y ∧ key y = r.2
  | _, _, [], _, _, _, r, hr => by cases hr
  | _, _, _ :: _, .nil, e, _, _, _ => by cases e
  | _, _, k :: ks, .cons q t, e1, e2, r, hr => by
    rw [List.map_cons] at e1
    rw [List.map_cons, List.map_cons] at e2
    injection e1 with a1 a2
    injection e2 with b1 b2
    rcases List.mem_cons.mp hr with rfl | hr
    · exact ⟨_, List.mem_cons_self .., by rw [← a1]; exact q, b1.symm⟩
    · obtain ⟨y, m, z⟩ := pick1 t a2 b2 r hr
      exact ⟨y, List.mem_cons_of_mem _ m, z⟩
theorem pick2 {α κ : Type} {val : α → Value} {key : D → κ} {R : Value → D → Prop} {ys : List D} : ∀ {L : List (α × κ)}, (∀ r ∈ L, ∃ y ∈ ys, R (val r.1) y ∧ key y = r.2) → ∃ M : List (Value × D), M.map Prod.fst = (L.map fun r => val r.1) ∧ (M.map fun m => key m.2) = L.map Prod.snd ∧ ∀ m ∈ M, R m.1 m.2 ∧ m.2 ∈ ys
  | [], _ => ⟨[], rfl, rfl, fun m hm => (by cases hm)⟩
  | r :: L, k => by
    obtain ⟨y, hy, a, b⟩ := k r (List.mem_cons_self ..)
    obtain ⟨M, e1, e2, e3⟩ := pick2 (fun q hq => k q (List.mem_cons_of_mem _ hq) : ∀ r ∈ L, ∃ y ∈ ys, R (val r.1) y ∧ key y = r.2)
    refine ⟨(val r.1, y) :: M, by rw [List.map_cons, List.map_cons, e1], by rw [List.map_cons, List.map_cons, e2, b], fun m hm => ?_⟩
    rcases List.mem_cons.mp hm with rfl | hm
    · exact ⟨a, hy⟩
    · exact e3 m hm
theorem nodup_map {α β : Type} {f : α → β} : ∀ {l : List α}, (l.map f).Nodup → l.Nodup
  | [], _ => List.nodup_nil
  | a :: l, h => by
    rw [List.map_cons] at h
    obtain ⟨h1, h2⟩ := List.nodup_cons.mp h
    exact List.nodup_cons.mpr ⟨fun m => h1 (List.mem_map.mpr ⟨a, m, rfl⟩), nodup_map h2⟩
/-- what a set has got: each datum once -/
theorem picked {α κ : Type} {val : α → Value} {key : D → κ} {R : Value → D → Prop} {us : List Value} {ys : List D} {ks L : List (α × κ)} (e : PySem.W.EachIs R us ys) (e1 : us = (ks.map fun r => val r.1)) (e2 : ks.map Prod.snd = ys.map key)
    (g : Has ks ks.length L) (once : (L.map Prod.snd).Nodup) (inj : ∀ x ∈ ys, ∀ y ∈ ys, key x = key y → x = y) (ev : ∀ x ∈ ys, ∀ y ∈ ys, PyData.eqv x.py y.py = true → x = y) (ev1 : ∀ x ∈ ys, PyData.eqv x.py x.py = true) :
    ∃ M : List (Value × D), M.map Prod.fst = (L.map fun r => val r.1) ∧ (M.map Prod.snd).Perm (dedup ys) ∧ ∀ m ∈ M, R m.1 m.2 ∧ m.2 ∈ ys := by
  have tk : ks.take ks.length = ks := List.take_length
  obtain ⟨M, m1, m2, m3⟩ := pick2 (val := val) (key := key) (R := R) (ys := ys) (L := L) fun r hr => pick1 e e1 e2 r (by rw [← tk]; exact g.sub r hr)
  refine ⟨M, m1, ?_, m3⟩
  have n1 : (M.map Prod.snd).Nodup := by
    refine nodup_map (f := key) ?_
    rw [List.map_map]
    show (M.map fun m => key m.2).Nodup
    rw [m2]
    exact once
  refine (List.perm_ext_iff_of_nodup n1 (dedup_nodup ev1)).mpr fun x => ⟨fun hx => ?_, fun hx => ?_⟩
  · obtain ⟨m, hm, rfl⟩ := List.mem_map.mp hx
    exact mem_dedup ev _ (m3 m hm).2
  · have hx := dedup_sub hx
    have hk : key x ∈ ks.map Prod.snd := by rw [e2]; exact List.mem_map.mpr ⟨x, hx, rfl⟩
    obtain ⟨r, hr, er⟩ := List.mem_map.mp hk
    have hl := g.all r (by rw [tk]; exact hr)
    rw [← m2, er] at hl
    obtain ⟨m, hm, em⟩ := List.mem_map.mp hl
    exact List.mem_map.mpr ⟨m, hm, inj _ (m3 m hm).2 _ hx em⟩
end
/-! ### the calls -/
theorem setOk_parts {xs : List D} (h : setOk xs = true) : xs.length ≤ 60 ∧ (∀ x ∈ xs, x.keyD = true) ∧ (∀ x ∈ xs, x.py.depth ≤ 8) ∧ ((∀ x ∈ xs, isTup1 x = true) ∨ (∀ x ∈ xs, isKeyA x = true)) := by
  unfold setOk at h
  simp only [Bool.and_eq_true, decide_eq_true_eq, List.all_eq_true, Bool.or_eq_true] at h
  obtain ⟨⟨⟨h1, h2⟩, h3⟩, h4⟩ := h
  exact ⟨h1, keyL_all h2, h3, h4⟩
def HoldsO (w : World) (a : Addr) (vs : List Value) : HO := .ext fun h => Holds w h a vs
theorem holdsO_new {P : Program} {w : World} {H : Hp} {h : Heap} {a : Addr} {vs : List Value} (R : Holds w h a vs) : ObjOk P w H h a (HoldsO w a vs) := by
  obtain ⟨es, ep, t, ⟨o, ho, r⟩, q⟩ := R.ex
  refine ⟨R, ⟨o, ho⟩, fun h1 h2 p k => ?_⟩
  obtain ⟨⟨es', ep', t', ⟨o', ho', r'⟩, q'⟩, lt⟩ : Holds w h1 a vs := p
  exact ⟨⟨es', ep', t', ⟨o', k o' ho', r'⟩, q'⟩, lt⟩
def rSetSD (K : PySem.W.Frag) (w : World) : List V → Hp → VK → Prop := fun vs H Q => ∃ ety ρ S d v xs, vs = [v] ∧ SRel ⟨K, ety⟩ ρ S H ∧ RelD ⟨K, ety⟩ ρ H d v ∧ d.res S = .lst xs ∧ sortOk xs = true ∧ setOk xs = true ∧
  ∀ p (M : List (Value × D)), H p = none → (M.map Prod.snd).Perm (dedup xs) → (∀ m ∈ M, IsVal ⟨K, ety⟩ ρ H m.1 m.2 ∧ m.2 ∈ xs) → Q (.ref p) (upd H p (HoldsO w p (M.map Prod.fst)))
def rSortSD (K : PySem.W.Frag) (w : World) : List V → Hp → VK → Prop := fun vs H Q => ∃ (ety : List Addr) (ρ : List Addr) (S : Store) (p : Addr) (M : List (Value × D)) (xs : List D), vs = [.ref p] ∧ H p = some (HoldsO w p (M.map Prod.fst)) ∧ SRel ⟨K, ety⟩ ρ S H ∧ (M.map Prod.snd).Perm (dedup xs) ∧ sortOk xs = true ∧ setOk xs = true ∧
  (∀ m ∈ M, IsVal ⟨K, ety⟩ ρ H m.1 m.2 ∧ m.2 ∈ xs) ∧ ∀ q ws, H q = none → RelDs ⟨K, ety⟩ ρ H (sortD (dedup xs)) ws → Q (.ref q) (upd H q (.lst ws))
section
variable {X : Cx} {F : Fns}
theorem cr_setD (hc : X.calm = true) (hu : X.A.units + 100 < cLine) : CallR X (.type "set") (rSetSD X.K X.w) := by
  intro pins s σ H xs us Q I r ⟨ety, ρ, S, d, v, ys, ev, st, rd, ey, so, sk, q⟩
  subst ev
  obtain ⟨hf, hl, ha, hd, hs⟩ := sortOk_parts so
  obtain ⟨s1, s2, s3, s4⟩ := setOk_parts sk
  obtain ⟨a, vs, rfl, qa, r'⟩ := res_lst st rd ey
  obtain ⟨its, rv, pl, _⟩ := I.list (SqL.of qa)
  rw [Vals.ref1 r]
  have e := each_of r' rv
  have er : PySem.W.EachIs (fun v b => ∃ as, Reads s.heap v (D.py b) as) its ys := EachIs_mem e fun u x hx ⟨w, h1, h2⟩ => Dp.reads I _ w u (dp_of x w (hf x hx) h2) h1
  have al : ∀ x ∈ ys, ∀ y ∈ ys, PySem.W.alike x.py y.py = true := fun x hx y hy => ha _ (List.mem_map.mpr ⟨x, hx, rfl⟩) _ (List.mem_map.mpr ⟨y, hy, rfl⟩)
  have ev : ∀ x ∈ ys, ∀ y ∈ ys, PyData.eqv x.py y.py = true → x = y := fun x hx y hy => eqv_inj x y (s2 x hx) (s2 y hy) (al x hx y hy)
  have ev1 : ∀ x ∈ ys, PyData.eqv x.py x.py = true := fun x hx => PySem.W.eqv_refl_alike _ (al x hx x hx)
  rcases s4 with s4 | s4
  · obtain ⟨ks, k1, k2, k3⟩ := rows_of er fun y hy => ⟨s4 y hy, s2 y hy, s3 y hy⟩
    have kl : ks.length = ys.length := by rw [← List.length_map (f := Prod.snd), k2, List.length_map]
    refine set_tups (I.ok.hd hc) (by omega) pl.isList ks (by simpa using k1) k3 (by omega) fun h' tk L hh on g kp => ?_
    obtain ⟨M, m1, m2, m3⟩ := picked (val := Value.ref) (key := nkD) e k1 k2 g on (fun x hx y hy => nk_inj x y (s2 x hx) (s2 y hy) (al x hx y hy)) ev ev1
    rw [← m1] at hh
    exact ⟨.ref _, upd H s.heap.objs.size (HoldsO X.w s.heap.objs.size (M.map Prod.fst)), I.laid (t' := tk) kp (Nat.le_refl _) (holdsO_new hh), rfl, q _ M (I.hok.fresh (Nat.le_refl _)) m2 m3⟩
  · obtain ⟨ks, k1, k2, k3⟩ := krows_of er s4
    have kl : ks.length = ys.length := by rw [← List.length_map (f := Prod.snd), k2, List.length_map]
    refine set_keys (I.ok.hd hc) pl.isList ks (by simpa using k1) k3 (by omega) fun h' tk L hh on g kp => ?_
    have inj : ∀ x ∈ ys, ∀ y ∈ ys, kyD x = kyD y → x = y := fun x hx y hy exy => by
      have a1 := s4 x hx
      have a2 := s4 y hy
      cases x with
      | int i => cases y with
        | int j => injection exy with z; rw [z]
        | str j => cases exy
        | _ => cases a2
      | str i => cases y with
        | str j => injection exy with z; rw [z]
        | int j => cases exy
        | _ => cases a2
      | _ => cases a1
    obtain ⟨M, m1, m2, m3⟩ := picked (val := id) (key := kyD) e k1 k2 g on inj ev ev1
    rw [show (L.map Prod.fst) = M.map Prod.fst from m1.symm] at hh
    exact ⟨.ref _, upd H s.heap.objs.size (HoldsO X.w s.heap.objs.size (M.map Prod.fst)), I.laid (t' := tk) kp (Nat.le_refl _) (holdsO_new hh), rfl, q _ M (I.hok.fresh (Nat.le_refl _)) m2 m3⟩
theorem cr_sortSD (hc : X.calm = true) (hu : X.A.units + 100 < cLine) : CallR X (.builtin "sorted") (rSortSD X.K X.w) := by
  intro pins s σ H xs us Q I r ⟨ety, ρ, S, p, M, ys, ev, hp, st, pm, so, sk, iv, q⟩
  subst ev
  obtain ⟨hf, hl, ha, hd, hs⟩ := sortOk_parts so
  obtain ⟨s1, s2, s3, s4⟩ := setOk_parts sk
  have hold : Holds X.w s.heap p (M.map Prod.fst) := (I.hok p _ hp).1
  have al : ∀ x ∈ ys, ∀ y ∈ ys, PySem.W.alike x.py y.py = true := fun x hx y hy => ha _ (List.mem_map.mpr ⟨x, hx, rfl⟩) _ (List.mem_map.mpr ⟨y, hy, rfl⟩)
  have mm : ∀ b ∈ (M.map Prod.snd).map D.py, b ∈ ys.map D.py := fun b hb => by
    obtain ⟨x, hx, rfl⟩ := List.mem_map.mp hb
    obtain ⟨m, hm, rfl⟩ := List.mem_map.mp hx
    exact List.mem_map.mpr ⟨m.2, (iv m hm).2, rfl⟩
  rw [Vals.ref1 r]
  refine sorted_setD (R := IsVal ⟨X.K, ety⟩ ρ H) (enc := D.py) hold (I.ok.hd hc) (fun m hm => (iv m hm).1) (fun m hm => ?_) (fun m hm => noDict _) (fun b hb c hcc => ha b (mm b hb) c (mm c hcc)) ?_ (fun m hm => ?_) fun s' a out c bs kp g o ha' hg pb eo => ?_
  · obtain ⟨w, h1, h2⟩ := (iv m hm).1
    exact Dp.reads I _ w _ (dp_of _ w (hf _ (iv m hm).2) h2) h1
  · rcases hs with hs | hs
    · exact .inl fun b hb => hs b (mm b hb)
    · exact .inr fun b hb => hs b (mm b hb)
  · have := s3 _ (iv m hm).2
    omega
  · have pmd : bs.Perm (dedup ys) := pb.trans pm
    have eb : sortD bs = sortD (dedup ys) := sortD_perm pmd (fun x hx y hy => al x (dedup_sub (pmd.mem_iff.mp hx)) y (dedup_sub (pmd.mem_iff.mp hy))) fun x hx => s2 x (dedup_sub (pmd.mem_iff.mp hx))
    have eo : PySem.W.EachIs (IsVal ⟨X.K, ety⟩ ρ H) out (sortD bs) := eo
    rw [eb] at eo
    obtain ⟨ws, h1, h2⟩ := of_each eo
    have hlen : ws.length ≤ sizeLine := by
      have : (sortD (dedup ys)).length = M.length := by
        rw [← List.length_map (f := Prod.snd) (as := M), pm.length_eq]
        exact List.length_mergeSort ..
      have m64 := hold.lt
      rw [List.length_map] at m64
      rw [← h1.length, this, sizeLine_eq]
      omega
    have hn : H a = none := I.hok.fresh ha'
    have J : Inv X pins σ (upd H a (.lst ws)) { s with heap := s'.heap, gens := s'.gens, drawn := s'.drawn, toks := s'.toks } :=
      I.call (ch := []) (Un.laid kp ha' hn) (I.hok.laid kp ha' ⟨hlen, out, c, h2, hg⟩) (by rw [g]; exact I.bare) (fun _ z => nomatch z)
    have es : s' = { s with heap := s'.heap, gens := s'.gens, drawn := s'.drawn, toks := s'.toks } := by
      cases s'
      cases s
      cases o
      rfl
    rw [es]
    exact ⟨.ref a, _, J, rfl, q a ws hn h1⟩
theorem ex_sset {a : Expr} {ta : T} {p q p2 pos : Pos} (hu : X.A.units + 100 < cLine) (hc : X.calm = true) (hm : X.mg "sorted" = none) (hm2 : X.mg "set" = none) (hg : Gl X "sorted") (hg2 : Gl X "set") (ha : EX X F a ta) (hs : noStar a = true) :
    EX X F (.Call (.Name "sorted" p) [.Call (.Name "set" q) [a] [] p2] [] pos) (.app .sortedSet [ta]) := by
  refine PE.imp (pe_callB (cr_sortSD hc hu) hg hm (by decide +kernel) (pa_cons (pe_callTy (cr_setD hc hu) hg2 hm2 (by decide +kernel) (pa_cons ha pa_nil (star_cons hs _ _)) (by decide) (by decide) (star_cons hs _ _) rfl) pa_nil rfl) (by decide) (by decide) rfl rfl) fun σ H Q ⟨ety, ρ, ε, S, rep, g⟩ => ?_
  obtain ⟨d, S1, e1, g⟩ := app1 g
  simp only [primD] at g
  split at g
  · rename_i ys ey
    obtain ⟨ho, g⟩ := need_good g
    rw [Bool.and_eq_true] at ho
    refine tE1 rep e1 fun ρ1 H1 v x1 s1 r1 => ⟨ety, ρ1, S1, d, v, ys, rfl, s1, r1, ey, ho.1, ho.2, fun p M hp pm iv => ⟨ety, ρ1, S1, p, M, ys, rfl, ?_, s1.upd hp, pm, ho.1, ho.2, fun m hm => ?_, fun q ws hq rw => ?_⟩⟩
    · simp [upd]
    · obtain ⟨⟨w, a1, a2⟩, a3⟩ := iv m hm
      exact ⟨⟨w, a1, RelD.mono (Ext.upd hp) s1.locs _ _ a2⟩, a3⟩
    · exact K2.lst (K2.ext g (x1.trans (Ext.upd hp))) (s1.upd hp) rw hq
  · exact g.elim
end
end OW
end
section
set_option Elab.async false
set_option linter.all false
set_option autoImplicit false
set_option maxRecDepth 100000
set_option maxHeartbeats 8000000
/-! OwP: every expression that is turned to a term means what the term means. -/
namespace OW
open PySem L2

section
variable {X : Cx} {c : Cc} {k : Nat} {F : Fns}
theorem own_mem {N : List Str} {scope : Scope} {x : Str} (h : ((ownOf N scope).map (·.1)).contains x = true) : ∃ kd, (x, kd) ∈ scope.names ∧ (kd = .local ∨ kd = .cell) := by
  rw [List.contains_iff_mem] at h
  obtain ⟨p, hp, e⟩ := List.mem_map.mp h
  unfold ownOf at hp
  obtain ⟨y, hy, e2⟩ := List.mem_filterMap.mp hp
  split at e2
  · rename_i hk
    cases q : slotOf N y.1 with
    | none => rw [q] at e2; cases e2
    | some i =>
      rw [q] at e2
      cases e2
      simp only [Bool.or_eq_true, beq_iff_eq] at hk
      subst e
      exact ⟨y.2, hy, hk⟩
  · cases e2
theorem Fine.blk (f : Fine X c k F) {scope : Scope} (ok : blkC c.N c.sc scope (ownOf c.N scope) = true) (s : Shared) (H : Hp) (C : Addr) (cl : List (Str × Addr)) (fp : List Addr) :
    Fine (X.blk s H scope (compEnvC scope cl C X.env) fp) (c.blk scope) k F where
  N := f.N
  nd := f.nd
  sc := by
    show relS scope X.env.scope = relS scope c.sc
    rw [f.sc]
  calm := f.calm
  gd := f.gd
  room := f.room
  glob := f.glob
  blt := f.blt
  fns := f.fns
  st := fun x hx hs => by
    have b := blkOk_by ok
    have hs' : ((ownOf c.N scope).map (·.1)).contains x = true := hs
    obtain ⟨kd, hm, hk⟩ := own_mem hs'
    have hu := b.uniq (x, kd) hm
    rcases hk with rfl | rfl
    · right
      show (relS scope X.env.scope).names.lookup x = some .local
      exact lookup_relS_keep (by decide) hu
    · left
      show (scope.names.lookup x == some .cell) = true
      rw [hu]; rfl
theorem isCall1_some {nm : Str} {e0 e : Expr} (h : isCall1 nm c e0 = some e) : ∃ p pos, e0 = .Call (.Name nm p) [e] [] pos ∧ isGl c.sc nm = true ∧ noStar e = true := by
  unfold isCall1 at h
  split at h
  · rename_i y p e' pos
    split at h
    · rename_i hc
      cases h
      obtain ⟨rfl, h1, _, h2⟩ := hc
      exact ⟨p, pos, rfl, h1, h2⟩
    · cases h
  · cases h
theorem okName_parts {x : Str} (h : okName x = true) : (x == ("__debug__" : Str)) = false ∧ (x == ("__classdict__" : Str)) = false ∧ x ≠ "__name__" := by
  unfold okName at h
  simp only [Bool.and_eq_true, Bool.not_eq_true'] at h
  exact ⟨h.1.1, h.1.2, by simpa using h.2⟩
theorem fn1_blt {x : Str} {f : Fn1} (h : fn1.lookup x = some f) : x ∈ bltNames := by
  have := PySem.mem_of_lookup h
  simp only [fn1, List.mem_cons, Prod.mk.injEq, List.not_mem_nil, or_false] at this
  rcases this with ⟨rfl, _⟩ | ⟨rfl, _⟩ | ⟨rfl, _⟩ | ⟨rfl, _⟩ | ⟨rfl, _⟩ | ⟨rfl, _⟩ | ⟨rfl, _⟩ | ⟨rfl, _⟩ <;> decide
theorem isTys_blt {x : Str} {f : Ty} (h : isTys.lookup x = some f) : x ∈ bltNames := by
  have := PySem.mem_of_lookup h
  simp only [isTys, List.mem_cons, Prod.mk.injEq, List.not_mem_nil, or_false] at this
  rcases this with ⟨rfl, _⟩ | ⟨rfl, _⟩ | ⟨rfl, _⟩ | ⟨rfl, _⟩ | ⟨rfl, _⟩ <;> decide
theorem All2.imp {α β : Type} {R R' : α → β → Prop} {as : List α} {bs : List β} (h : All2 R as bs) (k : ∀ a b, R a b → R' a b) : All2 R' as bs := by
  induction h with
  | nil => exact .nil
  | cons h _ ih => exact .cons (k _ _ h) ih
theorem noSet_fold {e : Expr} (h : noSet e = true) (env : Env) (x : Value) : foldedSetIterable e env x = pure x := by
  cases e with
  | Set => cases h
  | _ => rfl
theorem some_map {α β : Type} {f : α → β} {o : Option α} {b : β} (h : o.map f = some b) : ∃ a, o = some a ∧ f a = b := by
  cases o with
  | none => cases h
  | some a => exact ⟨a, rfl, Option.some.inj h⟩

/-- what a comprehension's rules ask -/
def LcOk (X : Cx) (F : Fns) (elt tg iter : Expr) (ifs : List Expr) (scope : Scope) (t : T) : Prop := ∃ (own : List (Str × Nat)) (wi : TI) (g : TG) (tt : TT) (te : TE), PI X tg iter wi ∧ BlkOk X.N X.env.scope scope own ∧
  (∀ (s : Shared) (H : Hp) (C : Addr) (cl : List (Str × Addr)) (fp : List Addr), PG (X.blk s H scope (compEnvC scope cl C X.env) fp) tg g) ∧
  (∀ (s : Shared) (H : Hp) (C : Addr) (cl : List (Str × Addr)) (fp : List Addr), PTs (X.blk s H scope (compEnvC scope cl C X.env) fp) ifs tt) ∧
  (∀ (s : Shared) (H : Hp) (C : Addr) (cl : List (Str × Addr)) (fp : List Addr), PE (X.blk s H scope (compEnvC scope cl C X.env) fp) elt te) ∧
  (∀ x, foldedSetIterable iter X.env x = pure x) ∧ ∀ σ H Q, tE X.K F t σ H Q → tLc wi g tt te (own.map (·.2)) σ H Q
theorem lc_ok {n : Nat} (ihE : ∀ (X : Cx) (c : Cc) (k : Nat) (F : Fns) (e : Expr) (t : T), Fine X c k F → compE n c e = some t → BX X F e t)
    (ihI : ∀ (X : Cx) (c : Cc) (k : Nat) (F : Fns) (e : Expr) (it : Itr), Fine X c k F → compI n c e = some it → ∀ tg, tgOk it tg = true → PI X tg e (iD X.K F it))
    (f : Fine X c k F) {elt : Expr} {gs : List Comprehension} {scope : Scope} {p : Pos} {t : T} (h : compE (n + 1) c (.ListComp elt gs scope p) = some t) : ∃ tg iter ifs, gs = [⟨tg, iter, ifs, 0⟩] ∧ LcOk X F elt tg iter ifs scope t := by
  unfold compE at h
  split at h <;> rename_i heq <;> first | (cases heq; done) | (cases h; done) | skip
  cases heq
  rename_i tg iter ifs
  refine ⟨tg, iter, ifs, rfl, ?_⟩
  split at h
  · rename_i hb
    rw [Bool.and_eq_true] at hb
    split at h
    · rename_i it g te e1 e2 e3
      split at h
      · rename_i hsub
        rw [Bool.and_eq_true] at hsub
        have ok : BlkOk X.N X.env.scope scope (ownOf c.N scope) := by
          rw [f.N, f.sc]
          exact blkOk_by hb.2
        have hN : X.N.Nodup := by rw [f.N]; exact f.nd
        have hi := ihI X c k F iter it f e1 tg hsub.1
        have hg := fun s H C cl fp => pg_of (f.blk hb.2 s H C cl fp) n tg g e2
        have he := fun s H C cl fp => (ihE _ (c.blk scope) k F elt te (f.blk hb.2 s H C cl fp) e3).ex
        have hsb : ∀ i ∈ tgSlots g, i ∈ (ownOf c.N scope).map (·.2) := fun i hi => List.contains_iff_mem.mp (List.all_eq_true.mp hsub.2 i hi)
        split at h
        · cases h
          have ht : ∀ (s : Shared) (H : Hp) (C : Addr) (cl : List (Str × Addr)) (fp : List Addr), PTs (X.blk s H scope (compEnvC scope cl C X.env) fp) [] (tCond X.K F none) := fun _ _ _ _ _ => pts_nil
          exact ⟨ownOf c.N scope, _, _, _, _, hi, ok, hg, ht, he, noSet_fold hb.1 _, ex_comp f.calm hN hi ok hg ht he (noSet_fold hb.1 _) hsb⟩
        · rename_i kc
          obtain ⟨tk, e4, rfl⟩ := some_map h
          have ht : ∀ (s : Shared) (H : Hp) (C : Addr) (cl : List (Str × Addr)) (fp : List Addr), PTs (X.blk s H scope (compEnvC scope cl C X.env) fp) [kc] (tCond X.K F (some tk)) := fun s H C cl fp => pts_one (ihE _ (c.blk scope) k F kc tk (f.blk hb.2 s H C cl fp) e4).tx
          exact ⟨ownOf c.N scope, _, _, _, _, hi, ok, hg, ht, he, noSet_fold hb.1 _, ex_comp f.calm hN hi ok hg ht he (noSet_fold hb.1 _) hsb⟩
        · cases h
      · cases h
    · cases h
  · cases h

theorem sound_ei : ∀ (n : Nat), (∀ (X : Cx) (c : Cc) (k : Nat) (F : Fns) (e : Expr) (t : T), Fine X c k F → compE n c e = some t → BX X F e t) ∧
    (∀ (X : Cx) (c : Cc) (k : Nat) (F : Fns) (e : Expr) (it : Itr), Fine X c k F → compI n c e = some it → ∀ tg, tgOk it tg = true → PI X tg e (iD X.K F it)) := by
  intro n
  induction n with
  | zero => exact ⟨(fun X c k F e t _ h => by cases h), (fun X c k F e it _ h => by cases h)⟩
  | succ n ih =>
    obtain ⟨ihE, ihI⟩ := ih
    constructor
    · intro X c k F e t f h
      have un := f.un
      have many : ∀ {es : List Expr} {ts : List T}, mapO (compE n c) es = some ts → All2 (BX X F) es ts := fun h => (mapO_all h).imp fun a b q => ihE X c k F a b f q
      have manyE : ∀ {es : List Expr} {ts : List T}, mapO (compE n c) es = some ts → All2 (EX X F) es ts := fun h => (many h).imp fun a b q => q.ex
      unfold compE at h
      split at h
      · -- a name
        rename_i x p
        split at h
        · rename_i hn
          obtain ⟨h1, h2, h3⟩ := okName_parts hn
          split at h
          · rename_i hv
            obtain ⟨i, ei, rfl⟩ := some_map h
            exact bx_plain rfl (ex_var (f.slot ei) (f.vis hv) h1 h2)
          · split at h
            · rename_i hg
              obtain ⟨d, ed, rfl⟩ := some_map h
              obtain ⟨u, hu, gd⟩ := f.glob x d ed
              exact bx_plain rfl (ex_glob (f.gl hg) hu gd h1)
            · cases h
        · cases h
      · -- a constant
        rename_i kc kn p
        obtain ⟨d, ed, rfl⟩ := some_map h
        exact bx_plain rfl (ex_const ed)
      · -- a op b
        rename_i a op b p
        split at h
        · rename_i s t e1 e2
          cases h
          exact bx_plain rfl (ex_bin (ihE X c k F a s f e1).ex (ihE X c k F b t f e2).ex)
        · cases h
      · -- not
        rename_i a p
        obtain ⟨t', e1, rfl⟩ := some_map h
        exact bx_not (ihE X c k F a t' f e1)
      · -- minus
        rename_i a p
        obtain ⟨t', e1, rfl⟩ := some_map h
        exact bx_plain rfl (ex_neg (ihE X c k F a t' f e1).ex)
      · -- and
        rename_i es p
        cases q : mapO (compE n c) es with
        | none => rw [q] at h; cases h
        | some ts =>
          rw [q] at h
          obtain ⟨h1, h2⟩ := bx_and (pos := p) (many q) h
          exact ⟨h1, h2.pt⟩
      · -- or
        rename_i es p
        cases q : mapO (compE n c) es with
        | none => rw [q] at h; cases h
        | some ts =>
          rw [q] at h
          obtain ⟨h1, h2⟩ := bx_or (pos := p) (many q) h
          exact ⟨h1, h2.pt⟩
      · -- if else
        rename_i a b d p
        split at h
        · rename_i r s t e1 e2 e3
          cases h
          exact bx_ite (ihE X c k F _ _ f e1) (ihE X c k F _ _ f e2) (ihE X c k F _ _ f e3)
        · cases h
      · -- a comparison
        rename_i a op b p
        split at h
        · rename_i hs
          split at h
          · rename_i s t e1 e2
            cases h
            exact bx_cmp un (ihE X c k F _ _ f e1).ex (ihE X c k F _ _ f e2).ex hs
          · cases h
        · cases h
      · -- a chain
        rename_i a p q b d pos
        split at h
        · rename_i hs
          rw [Bool.and_eq_true] at hs
          split at h
          · rename_i r s t e1 e2 e3
            cases h
            exact bx_chain un (ihE X c k F _ _ f e1).ex (ihE X c k F _ _ f e2).ex (ihE X c k F _ _ f e3).ex hs.2
          · cases h
        · cases h
      · -- a tuple
        rename_i es kk p
        split at h
        · rename_i hs
          obtain ⟨ts, e1, rfl⟩ := some_map h
          exact bx_plain rfl (ex_tup (manyE e1) hs)
        · cases h
      · -- a list
        rename_i es p
        split at h
        · rename_i hs
          obtain ⟨ts, e1, rfl⟩ := some_map h
          exact bx_plain rfl (ex_lst (manyE e1) hs)
        · cases h
      · -- a dict
        rename_i ks vs p
        split at h
        · rename_i keys ts e1 e2
          split at h
          · rename_i hk
            cases h
            exact bx_plain rfl (ex_dict e1 (manyE e2) hk.1 hk.2.1 hk.2.2)
          · cases h
        · cases h
      · -- t[::-1]
        rename_i o kk p1 p2 p3 p
        obtain ⟨t', e1, rfl⟩ := some_map h
        exact bx_plain rfl (ex_rev (ihE X c k F _ _ f e1).ex)
      · -- a slice
        rename_i o lo hi p2 p
        cases eo : compE n c o with
        | none => rw [eo] at h; cases lo <;> cases hi <;> cases h
        | some t' =>
          rw [eo] at h
          have ho := (ihE X c k F _ _ f eo).ex
          cases lo with
          | none =>
            cases hi with
            | none => cases h; exact bx_plain rfl (ex_slice0 ho)
            | some b =>
              obtain ⟨s, e4, rfl⟩ := some_map h
              exact bx_plain rfl (ex_sliceR ho (ihE X c k F _ _ f e4).ex)
          | some a =>
            cases hi with
            | none =>
              obtain ⟨s, e4, rfl⟩ := some_map h
              exact bx_plain rfl (ex_sliceL ho (ihE X c k F _ _ f e4).ex)
            | some b =>
              simp only at h
              split at h
              · rename_i r s e4 e5
                cases h
                exact bx_plain rfl (ex_sliceB ho (ihE X c k F _ _ f e4).ex (ihE X c k F _ _ f e5).ex)
              · cases h
      · -- an item
        rename_i o i p hno hno2
        split at h
        · rename_i hs
          split at h
          · rename_i s t' e1 e2
            cases h
            exact bx_plain rfl (ex_item un (ihE X c k F _ _ f e1).ex (ihE X c k F _ _ f e2).ex hs)
          · cases h
        · cases h
      · -- a comprehension
        rename_i elt tg iter ifs scope p
        split at h
        · rename_i hb
          rw [Bool.and_eq_true] at hb
          split at h
          · rename_i it g te e1 e2 e3
            split at h
            · rename_i hsub
              rw [Bool.and_eq_true] at hsub
              have ok : BlkOk X.N X.env.scope scope (ownOf c.N scope) := by
                rw [f.N, f.sc]
                exact blkOk_by hb.2
              have hN : X.N.Nodup := by rw [f.N]; exact f.nd
              have hi := ihI X c k F iter it f e1 tg hsub.1
              have hg := fun s H C cl fp => pg_of (f.blk hb.2 s H C cl fp) n tg g e2
              have he := fun s H C cl fp => (ihE _ (c.blk scope) k F elt te (f.blk hb.2 s H C cl fp) e3).ex
              have hsb : ∀ i ∈ tgSlots g, i ∈ (ownOf c.N scope).map (·.2) := by
                intro i hi
                have := List.all_eq_true.mp hsub.2 i hi
                exact List.contains_iff_mem.mp this
              split at h
              · cases h
                have ht : ∀ (s : Shared) (H : Hp) (C : Addr) (cl : List (Str × Addr)) (fp : List Addr), PTs (X.blk s H scope (compEnvC scope cl C X.env) fp) [] (tCond X.K F none) := fun _ _ _ _ _ => pts_nil
                exact bx_plain rfl (PE.imp (pe_lc f.calm hN hi ok hg ht he (noSet_fold hb.1 _)) (ex_comp f.calm hN hi ok hg ht he (noSet_fold hb.1 _) hsb))
              · rename_i kc
                obtain ⟨tk, e4, rfl⟩ := some_map h
                have ht : ∀ (s : Shared) (H : Hp) (C : Addr) (cl : List (Str × Addr)) (fp : List Addr), PTs (X.blk s H scope (compEnvC scope cl C X.env) fp) [kc] (tCond X.K F (some tk)) := fun s H C cl fp => pts_one (ihE _ (c.blk scope) k F kc tk (f.blk hb.2 s H C cl fp) e4).tx
                exact bx_plain rfl (PE.imp (pe_lc f.calm hN hi ok hg ht he (noSet_fold hb.1 _)) (ex_comp f.calm hN hi ok hg ht he (noSet_fold hb.1 _) hsb))
              · cases h
            · cases h
          · cases h
        · cases h
      · -- a call by name
        rename_i x p args kws pos
        split at h
        · rename_i hx
          rw [Bool.and_eq_true] at hx
          obtain ⟨n1, n2, n3⟩ := okName_parts hx.1
          have hg := f.gl hx.2
          split at h
          · rename_i ps eps
            split at h
            · rename_i ha
              simp only [Bool.and_eq_true, decide_eq_true_eq] at ha
              split at h
              · rename_i ts us e1 e2
                cases h
                exact bx_plain rfl (ex_call (f.fns x ps eps) f.room f.gd hg n1 (manyE e1) ha.1.1 ((mapO_all e2).imp fun a b q => (ihE X c k F a.value b f q).ex) ha.1.2 ha.2)
              · cases h
            · cases h
          · split at h
            · rename_i e0
              split at h
              · rename_i hs
                split at h
                · rename_i hc
                  obtain ⟨rfl, hc⟩ := hc
                  cases q : isCall1 "set" c e0 with
                  | none => rw [q] at hc; cases hc
                  | some e' =>
                    rw [q] at h
                    obtain ⟨t', e1, rfl⟩ := some_map h
                    obtain ⟨p', pos', rfl, g', s'⟩ := isCall1_some q
                    exact bx_plain rfl (ex_sset f.un f.calm (f.blt _ (by decide)) (f.blt _ (by decide)) hg (f.gl g') (ihE X c k F _ _ f e1).ex s')
                · split at h
                  · rename_i hc
                    obtain ⟨rfl, hc⟩ := hc
                    cases q : isCall1 "range" c e0 with
                    | none => rw [q] at hc; cases hc
                    | some e' =>
                      rw [q] at h
                      obtain ⟨t', e1, rfl⟩ := some_map h
                      obtain ⟨p', pos', rfl, g', s'⟩ := isCall1_some q
                      exact bx_plain rfl (ex_lrange f.calm hg (f.blt _ (by decide)) (f.gl g') (f.blt _ (by decide)) (ihE X c k F _ _ f e1).ex s')
                  · split at h
                    · rename_i fn t' e1 e2
                      cases h
                      exact bx_plain rfl (ex_fn1 un f.gd f.calm e1 hg (f.blt _ (fn1_blt e1)) (ihE X c k F _ _ f e2).ex hs)
                    · cases h
              · cases h
            · rename_i e0 y p'
              split at h
              · rename_i hc
                obtain ⟨rfl, hgy, hfy, hs⟩ := hc
                split at h
                · rename_i ty t' e1 e2
                  cases h
                  exact bx_plain rfl (ex_isinst hg (f.blt _ (by decide)) (f.gl hgy) (f.blt _ (isTys_blt e1)) e1 (ihE X c k F _ _ f e2).ex hs)
                · cases h
              · cases h
            · cases h
        · cases h
      · -- a method
        rename_i o m ap args cp
        split at h
        · rename_i hc
          simp only [Bool.and_eq_true, decide_eq_true_eq] at hc
          obtain ⟨⟨⟨⟨hsu, hst⟩, hln⟩, _⟩, _⟩ := hc
          split at h
          · rename_i fm t' ts e1 e2 e3
            split at h
            · rename_i har
              cases h
              have ho := (ihE X c k F _ _ f e2).ex
              have ha := manyE e3
              have hl := all2_length ha
              have hm := PySem.mem_of_lookup e1
              simp only [meths, List.mem_cons, Prod.mk.injEq, List.not_mem_nil, or_false] at hm
              rcases hm with ⟨rfl, rfl⟩ | ⟨rfl, rfl⟩ | ⟨rfl, rfl⟩
              · cases ha with
                | nil => cases har
                | cons h1 h2 => cases h2 with
                  | nil => exact bx_plain rfl (ex_append (by simpa using hst) hsu hln ho h1)
                  | cons _ _ => simp [Mt.ar] at har
              · cases ha with
                | nil => cases har
                | cons h1 h2 => cases h2 with
                  | nil => exact bx_plain rfl (ex_join (by simpa using hst) hsu hln ho h1)
                  | cons _ _ => simp [Mt.ar] at har
              · cases ha with
                | nil => cases har
                | cons h1 h2 => cases h2 with
                  | nil => cases har
                  | cons h3 h4 => cases h4 with
                    | nil =>
                      simp only [List.all_cons, List.all_nil, Bool.and_true, Bool.and_eq_true] at hst
                      exact bx_plain rfl (ex_get un hst.1 hst.2 hsu hln ho h1 h3)
                    | cons _ _ => simp [Mt.ar] at har
            · cases h
          · cases h
        · cases h
      · cases h
    · intro X c k F e it f h tg htg
      unfold compI at h
      have seq : ∀ {t : T}, compE n c e = some t → PI X tg e (iD X.K F (.seq t)) := fun q => ix_seq (ihE X c k F _ _ f q).ex
      split at h
      · rename_i x p args pos
        split at h
        · rename_i hx
          simp only [Bool.and_eq_true] at hx
          have hg := f.gl hx.1.1
          split at h
          · rename_i a
            have hs : noStar a = true := by simpa using hx.2
            split at h
            · rename_i ex
              subst ex
              obtain ⟨t, e1, rfl⟩ := some_map h
              exact ix_range1 hg (f.blt _ (by decide)) (ihE X c k F _ _ f e1).ex hs
            · obtain ⟨t, e1, rfl⟩ := some_map h
              exact seq e1
          · rename_i a b
            have hs : noStar a = true ∧ noStar b = true := by simpa using hx.2
            split at h
            · rename_i ex
              subst ex
              split at h
              · rename_i s t e1 e2
                cases h
                exact ix_range2 hg (f.blt _ (by decide)) (ihE X c k F _ _ f e1).ex (ihE X c k F _ _ f e2).ex hs.1 hs.2
              · cases h
            · split at h
              · rename_i ex
                subst ex
                split at h
                · rename_i s t e1 e2
                  cases h
                  cases tg with
                  | Tuple elts kk tp => exact ix_zip hg (f.blt _ (by decide)) (ihE X c k F _ _ f e1).ex (ihE X c k F _ _ f e2).ex hs.1 hs.2
                  | _ => cases htg
                · cases h
              · obtain ⟨t, e1, rfl⟩ := some_map h
                exact seq e1
          · obtain ⟨t, e1, rfl⟩ := some_map h
            exact seq e1
        · obtain ⟨t, e1, rfl⟩ := some_map h
          exact seq e1
      · obtain ⟨t, e1, rfl⟩ := some_map h
        exact seq e1
end
end OW
end
section
set_option Elab.async false
set_option linter.all false
set_option autoImplicit false
set_option maxRecDepth 100000
set_option maxHeartbeats 8000000
/-! OwQ: statements. -/
namespace OW
open PySem L2

/-- what is wanted behind a statement -/
def fK (K : Kx) (ρ : List Addr) (H : Hp) (D : Ends) : Fl → Store → Prop
  | .next ε', S' => ∀ ρ' σ' H', Ext ρ H ρ' H' → Rep K ρ' ε' S' σ' H' → D.nx σ' H'
  | .ret d, S' => ∀ ρ' v H', Ext ρ H ρ' H' → SRel K ρ' S' H' → RelD K ρ' H' d v → D.rt v H'
def sD (K : PySem.W.Frag) (F : Fns) (sx : Sx) : TS := fun D σ H => ∃ ety ρ ε S, Rep ⟨K, ety⟩ ρ ε S σ H ∧ (denS F sx ε S).good (fK ⟨K, ety⟩ ρ H D)
def bD (K : PySem.W.Frag) (F : Fns) (sx : List Sx) : TS := fun D σ H => ∃ ety ρ ε S, Rep ⟨K, ety⟩ ρ ε S σ H ∧ (denB F sx ε S).good (fK ⟨K, ety⟩ ρ H D)
theorem PS.imp {X : Cx} {st : Stmt} {t t' : TS} (h : PS X st t) (k : ∀ D σ H, t' D σ H → t D σ H) : PS X st t' := ⟨fun pins s σ H D I q => h.run pins s σ H D I (k D σ H q)⟩
theorem PSs.imp {X : Cx} {st : List Stmt} {t t' : TS} (h : PSs X st t) (k : ∀ D σ H, t' D σ H → t D σ H) : PSs X st t' := ⟨fun pins s σ H D I q => h.run pins s σ H D I (k D σ H q)⟩
theorem fK.ext {K : Kx} {ρ ρ1 : List Addr} {H H1 : Hp} {D : Ends} {r : Res Fl} (h : r.good (fK K ρ H D)) (x : Ext ρ H ρ1 H1) : r.good (fK K ρ1 H1 D) := by
  refine Res.good_mono h fun fl S q => ?_
  cases fl with
  | next ε => exact fun ρ' σ' H' y r => q ρ' σ' H' (x.trans y) r
  | ret d => exact fun ρ' v H' y s r => q ρ' v H' (x.trans y) s r

theorem relK_put {K : Kx} {ρ : List Addr} {H : Hp} {k : Key} {d : D} {v : V} (rd : RelD K ρ H d v) : ∀ {kvs : List (Key × D)} {r : List (Key × V)}, RelK K ρ H kvs r → RelK K ρ H (putK k d kvs) (L2.putK r k v) := by
  have any_eq : ∀ {kvs : List (Key × D)} {r : List (Key × V)}, RelK K ρ H kvs r → (kvs.any fun p => decide (p.1 = k)) = (r.any fun p => decide (p.1 = k)) := by
    intro kvs
    induction kvs with
    | nil => intro r h; rw [show _ = _ from h]; rfl
    | cons p kvs ih =>
      intro r h
      obtain ⟨w, t, rfl, h1, h2⟩ := h
      simp only [List.any_cons, ih h2]
  have map_ok : ∀ {kvs : List (Key × D)} {r : List (Key × V)}, RelK K ρ H kvs r → RelK K ρ H (kvs.map fun p => if p.1 = k then (p.1, d) else p) (r.map fun p => if p.1 = k then (p.1, v) else p) := by
    intro kvs
    induction kvs with
    | nil => intro r h; rw [show _ = _ from h]; exact rfl
    | cons p kvs ih =>
      intro r h
      obtain ⟨w, t, rfl, h1, h2⟩ := h
      obtain ⟨pk, pd⟩ := p
      rw [List.map_cons, List.map_cons]
      by_cases e : pk = k
      · rw [if_pos e, if_pos e]
        exact ⟨v, _, rfl, rd, ih h2⟩
      · rw [if_neg e, if_neg e]
        exact ⟨w, _, rfl, h1, ih h2⟩
  have app_ok : ∀ {kvs : List (Key × D)} {r : List (Key × V)}, RelK K ρ H kvs r → RelK K ρ H (kvs ++ [(k, d)]) (r ++ [(k, v)]) := by
    intro kvs
    induction kvs with
    | nil => intro r h; rw [show _ = _ from h]; exact ⟨v, [], rfl, rd, rfl⟩
    | cons p kvs ih =>
      intro r h
      obtain ⟨w, t, rfl, h1, h2⟩ := h
      exact ⟨w, _, rfl, h1, ih h2⟩
  intro kvs r h
  unfold putK L2.putK
  rw [any_eq h]
  split
  · exact map_ok h
  · exact app_ok h

/-- a store o[i] = v, by values -/
def rSetD (K : PySem.W.Frag) : TSet := fun o i v H Q => ∃ ety ρ S od id vd, SRel ⟨K, ety⟩ ρ S H ∧ RelD ⟨K, ety⟩ ρ H od o ∧ RelD ⟨K, ety⟩ ρ H id i ∧ RelD ⟨K, ety⟩ ρ H vd v ∧ (subD od id vd S).good fun _ S' => ∀ H', Ext ρ H ρ H' → SRel ⟨K, ety⟩ ρ S' H' → Q H'
section
variable {X : Cx} {c : Cc} {k : Nat} {F : Fns}
theorem set_D (hu : X.A.units + 100 < cLine) : PSet X (rSetD X.K) := by
  intro pins s σ H o i v ov iv u Q I ro ri rv ⟨ety, ρ, S, od, id, vd, st, rd, rid, rvd, g⟩
  unfold subD at g
  split at g
  · rename_i n
    obtain ⟨a, rfl, q⟩ := rd
    obtain ⟨c, e1, e2⟩ := st.cell n a q
    have hm : a ∈ ρ := List.mem_of_getElem? q
    split at g
    · rename_i xs kk ec
      rw [ec] at e1
      cases e1
      obtain ⟨vs, qv, r⟩ := e2
      split at g
      · rename_i j ej
        refine set_list pins s σ H _ i v ov iv u Q I ro ri rv ⟨a, vs, kk, j, rfl, rid, qv, by rw [← r.length]; exact ej, ?_⟩
        have xw := Ext.write (H := H) (o := .lst (vs.set j v)) hm
        exact g _ xw (st.write q ⟨vs.set j v, upd_same, (RelDs.mono xw st.locs _ _ r).set j (RelD.mono xw st.locs _ _ rvd)⟩)
      · exact g.elim
    · rename_i kvs ec
      rw [ec] at e1
      cases e1
      obtain ⟨r, qr, rk⟩ := e2
      split at g
      · rename_i kk ek
        obtain ⟨hz, g⟩ := need_good g
        have hz := of_decide_eq_true hz
        have kr := keyD_rel rid ek
        subst kr
        cases ro
        have xw := Ext.write (H := H) (o := .dK (L2.putK r kk v)) hm
        have hlr := rk.length
        refine d_setItem (by omega) I (DPut.k (k := kk) qr (by rw [sizeLine_eq]; omega)) ri rv fun s' I' => ⟨_, I', ?_⟩
        exact g _ xw (st.write q ⟨L2.putK r kk v, upd_same, relK_put (RelD.mono xw st.locs _ _ rvd) (RelK.mono xw st.locs rk)⟩)
      · exact g.elim
    · exact g.elim
  · exact g.elim

/-! ### blocks -/
theorem bs_nil : PSs X [] (bD X.K F []) := PSs.imp pss_nil fun D σ H ⟨ety, ρ, ε, S, rep, g⟩ => g ρ σ H Ext.refl rep
theorem bs_cons {st : Stmt} {sts : List Stmt} {sx : Sx} {sxs : List Sx} (h1 : PS X st (sD X.K F sx)) (h2 : PSs X sts (bD X.K F sxs)) : PSs X (st :: sts) (bD X.K F (sx :: sxs)) := by
  refine PSs.imp (pss_cons h1 h2) fun D σ H ⟨ety, ρ, ε, S, rep, g⟩ => ⟨ety, ρ, ε, S, rep, ?_⟩
  simp only [denB, Res.good_andThen] at g
  refine Res.good_mono g fun fl S1 g => ?_
  cases fl with
  | next ε1 => exact fun ρ' σ' H' x r => ⟨ety, ρ', ε1, S1, r, fK.ext g x⟩
  | ret d => exact g
/-! ### plain statements -/
variable {e a b o i : Expr} {ta tb to ti : T} {pos p : Pos}
theorem ss_pass : PS X (.Pass pos) (sD X.K F .pass) := PS.imp ps_pass fun D σ H ⟨ety, ρ, ε, S, rep, g⟩ => g ρ σ H Ext.refl rep
theorem ss_doc {x : Str} {j : Nat} : PS X (.Expr (.Constant (.str x) j p) pos) (sD X.K F .pass) := PS.imp ps_doc fun D σ H ⟨ety, ρ, ε, S, rep, g⟩ => g ρ σ H Ext.refl rep
theorem ss_ret (he : EX X F e ta) : PS X (.Return (some e) pos) (sD X.K F (.ret ta)) := by
  refine PS.imp (ps_ret he) fun D σ H ⟨ety, ρ, ε, S, rep, g⟩ => ?_
  simp only [denS, Res.good_andThen] at g
  obtain ⟨d, S1, e1, g⟩ := Res.good_iff.mp g
  exact tE1 rep e1 fun ρ1 H1 v x1 s1 r1 => g ρ1 v H1 x1 s1 r1
theorem ss_retN : PS X (.Return none pos) (sD X.K F (.ret (.cst .non))) := by
  refine PS.imp ps_retN fun D σ H ⟨ety, ρ, ε, S, rep, g⟩ => ?_
  exact g ρ .non H Ext.refl rep.st rfl
theorem noCompr_swaps (h : isCompr e = false) (tg : Option Expr) (l : Nat) (env : Env) : swapsWith e tg l env = pure false := by
  cases e with
  | ListComp => cases h
  | SetComp => cases h
  | DictComp => cases h
  | _ => rfl
theorem sole_false (h : isCompr e = false) (tg : Expr) (l : Nat) (env : Env) : swapsWithSole [tg] e l env = pure false := by
  show swapsWith e (some tg) l env = pure false
  exact noCompr_swaps h _ _ _
theorem ss_expr (h : isCompr e = false) (he : EX X F e ta) : PS X (.Expr e pos) (sD X.K F (.expr ta)) := by
  refine PS.imp (ps_expr he (noCompr_swaps h _ _ _)) fun D σ H ⟨ety, ρ, ε, S, rep, g⟩ => ?_
  simp only [denS, Res.good_andThen] at g
  obtain ⟨d, S1, e1, g⟩ := Res.good_iff.mp g
  exact tE1 rep e1 fun ρ1 H1 v x1 s1 r1 => g ρ1 σ H1 x1 (rep.step x1 s1)
theorem ss_if {sa sb : List Stmt} {xa xb : List Sx} (hc : TX X F e ta) (ha : PSs X sa (bD X.K F xa)) (hb : PSs X sb (bD X.K F xb)) : PS X (.If e sa sb pos) (sD X.K F (.ifs ta xa xb)) := by
  refine PS.imp (ps_if hc ha hb) fun D σ H ⟨ety, ρ, ε, S, rep, g⟩ => ?_
  simp only [denS, Res.good_andThen] at g
  obtain ⟨d, S1, e1, g⟩ := Res.good_iff.mp g
  obtain ⟨kk, S2, e2, g⟩ := Res.good_iff.mp g
  refine tT_of (k := kk) (S1 := S2) rep (by simp only [denT, e1, Res.ok_andThen, e2]) fun ρ1 H1 x1 s1 => ?_
  cases kk with
  | true => exact ⟨ety, ρ1, ε, S2, rep.step x1 s1, fK.ext g x1⟩
  | false => exact ⟨ety, ρ1, ε, S2, rep.step x1 s1, fK.ext g x1⟩
/-! ### assignments -/
theorem asg_read {tg : Expr} {g : Tg} {D : Ends} {σ : St} {H : Hp} (h : sD X.K F (.asg g ta) D σ H) : tAsg (tE X.K F ta) (gD X.K g) D σ H := by
  obtain ⟨ety, ρ, ε, S, rep, g0⟩ := h
  simp only [denS, Res.good_andThen] at g0
  obtain ⟨d, S1, e1, g0⟩ := Res.good_iff.mp g0
  refine tE1 rep e1 fun ρ1 H1 v x1 s1 r1 => ?_
  cases es : storeTg g d ε with
  | none => rw [es] at g0; exact g0.elim
  | some ε1 =>
    rw [es] at g0
    exact ⟨ety, ρ1, ε, S1, d, ε1, rep.step x1 s1, r1, es, fun σ' rep' _ => g0 ρ1 σ' H1 x1 rep'⟩
theorem ss_asg {tg : Expr} {g : Tg} (he : EX X F e ta) (hg : PG X tg (gD X.K g)) (hs : swapsWithSole [tg] e pos.line X.env = pure false) (hw : swappedStores [tg] e X.env = pure none) (h1 : (assignEach [tg] X.env).map (·.2) = [assign tg X.env]) :
    PS X (.Assign [tg] e pos) (sD X.K F (.asg g ta)) := PS.imp (ps_asg he hg hs hw h1) fun D σ H h => asg_read (tg := tg) h
theorem noTuple_stores {tg e : Expr} (h : ∀ es kk p, e ≠ .Tuple es kk p) (env : Env) : swappedStores [tg] e env = pure none := by
  cases e with
  | Tuple es kk p => exact absurd rfl (h es kk p)
  | _ => cases tg <;> rfl
theorem ss_sub (hu : X.A.units + 100 < cLine) (hi' : noSlice i = true) (hcm : isCompr e = false) (he : EX X F e ta) (ho : EX X F o to) (hi : EX X F i ti) : PS X (.Assign [.Subscript o i p] e pos) (sD X.K F (.sub to ti ta)) := by
  have ha : ∀ v, assign (.Subscript o i p) X.env v = (do
      let ov ← holding [v] (eval o X.env)
      let iv ← holding [v, ov] (eval i X.env)
      standAt p
      holding [v, ov, iv] (setItem ov iv v)
      release [v, ov, iv] []) := by
    intro v
    cases i with
    | Slice => cases hi'
    | _ => rfl
  have hw : swappedStores [.Subscript o i p] e X.env = pure none := by cases e <;> rfl
  refine PS.imp (ps_asg he (pg_sub ho hi (set_D hu) ha) (sole_false hcm _ _ _) hw rfl) fun D σ H ⟨ety, ρ, ε, S, rep, g⟩ => ?_
  simp only [denS, Res.good_andThen] at g
  obtain ⟨d, S1, e1, g⟩ := Res.good_iff.mp g
  obtain ⟨d2, S2, e2, g⟩ := Res.good_iff.mp g
  obtain ⟨d3, S3, e3, g⟩ := Res.good_iff.mp g
  refine tE1 rep e1 fun ρ1 H1 v x1 s1 r1 => ?_
  refine tE2 (rep.step x1 s1) e2 e3 fun ρ3 H3 w z x3 s3 r2 r3 => ⟨ety, ρ3, S3, d2, d3, d, s3, r2, r3, RelD.mono x3 s1.locs _ _ r1, ?_⟩
  exact Res.good_mono g fun _ S4 g H' xw sw => g ρ3 σ H' ((x1.trans x3).trans xw) (((rep.step x1 s1).step x3 s3).step xw sw)
/-! ### for -/
def forD (F : Fns) (g : Tg) (body : List Sx) (x : D) (ε1 : Sl) (S2 : Store) : Res Fl :=
  match storeTg g x ε1 with
  | none => .bad
  | some ε2 => denB F body ε2 S2
theorem ss_for {tg iter : Expr} {g : Tg} {it : OW.Itr} {sb : List Stmt} {xb : List Sx} (hp : PassesOwn (model X.prog X.w) X.A X.env X.xe) (hc : X.calm = true) (hs : noSet iter = true) (hi : PI X tg iter (iD X.K F it)) (hg : PG X tg (gD X.K g)) (hb : PSs X sb (bD X.K F xb)) :
    PS X (.For tg iter sb [] pos) (sD X.K F (.for_ g it xb)) := by
  refine PS.imp (ps_for hp hc hi hg hb (noSet_fold hs _)) fun D σ H ⟨ety, ρ, ε, S, rep, g0⟩ => ?_
  simp only [denS, Res.good_andThen] at g0
  obtain ⟨xs, S1, e1, g1⟩ := Res.good_iff.mp g0
  clear g0
  replace g1 : (forGo (forD F g xb) xs ε S1).good (fK ⟨X.K, ety⟩ ρ H D) := g1
  refine ⟨ety, ρ, ε, S, rep, ?_⟩
  rw [e1]
  intro ρ1 H1 J x1 s1 wks
  let κ : Kx := ⟨X.K, ety⟩
  refine ⟨fun i m σi Hi => m = xs.length - i ∧ i ≤ xs.length ∧ ∃ ρi εi Si, Ext ρ1 H1 ρi Hi ∧ Rep κ ρi εi Si σi Hi ∧ (forGo (forD F g xb) (xs.drop i) εi Si).good (fK κ ρ H D), ?_, ?_⟩
  · exact ⟨xs.length, rfl, Nat.zero_le _, ρ1, ε, S1, Ext.refl, rep.step x1 s1, g1⟩
  · rintro i m σi Hi ⟨hm, hle, ρi, εi, Si, xi, ri, gi⟩
    have kp : Keep κ ρ1 H1 κ ρi Hi := xi.toKeep s1.locs
    have wk := wks κ ρi Hi kp
    by_cases hlt : i < xs.length
    · right
      have ed : xs[i]? = some xs[i] := List.getElem?_eq_getElem hlt
      obtain ⟨go, yld⟩ := wk.turn i _ ed
      rw [List.drop_eq_getElem_cons hlt] at gi
      replace gi : ((forD F g xb xs[i] εi Si).andThen fun f S1 => match f with
        | .next ε1 => forGo (forD F g xb) (xs.drop (i + 1)) ε1 S1
        | .ret d => .ok (.ret d) S1).good (fK κ ρ H D) := gi
      rw [Res.good_andThen] at gi
      refine ⟨go, fun σn Hn => m - 1 = xs.length - (i + 1) ∧ i + 1 ≤ xs.length ∧ ∃ ρi εi Si, Ext ρ1 H1 ρi Hn ∧ Rep κ ρi εi Si σn Hn ∧ (forGo (forD F g xb) (xs.drop (i + 1)) εi Si).good (fK κ ρ H D), fun σn Hn hn => ⟨m - 1, by omega, hn⟩, fun v H2 hy => ?_⟩
      have yl : Ext ρi Hi ρi H2 ∧ SRel κ ρi Si H2 ∧ RelD κ ρi H2 xs[i] v := by
        rcases yld v H2 hy with ⟨rfl, rv⟩ | ⟨pp, vs, ds, hpp, rfl, rfl, ed2, rds⟩
        · exact ⟨Ext.refl, ri.st, rv⟩
        · rw [ed2]
          exact ⟨Ext.upd hpp, ri.st.upd hpp, ⟨pp, vs, rfl, SqT.of upd_same, RelDs.mono (Ext.upd hpp) ri.st.locs _ _ rds⟩⟩
      obtain ⟨xy, sy, ry⟩ := yl
      unfold forD at gi
      cases est : storeTg g xs[i] εi with
      | none => rw [est] at gi; exact gi.elim
      | some ε2 =>
        rw [est] at gi
        refine ⟨ety, ρi, εi, Si, xs[i], ε2, ri.step xy sy, ry, est, fun σ2 rep2 _ => ⟨ety, ρi, ε2, Si, rep2, ?_⟩⟩
        refine Res.good_mono gi fun fl S3 gf => ?_
        cases fl with
        | next ε3 => exact fun ρ' σ' H' x' r' => ⟨by omega, by omega, ρ', ε3, S3, (xi.trans xy).trans x', r', gf⟩
        | ret d => exact fun ρ' w H' x' s' r' => gf ρ' w H' (((x1.trans xi).trans xy).trans x') s' r'
    · left
      have hi' : xs.length ≤ i := by omega
      refine ⟨wk.stop i hi', ?_⟩
      rw [List.drop_eq_nil_of_le hi'] at gi
      exact gi ρi σi Hi (x1.trans xi) ri

/-! ### several names at once -/
theorem swapped_eq {env : Env} (hk : env.scope.kind = .function) {ts vs : List Expr} {kk k2 : Nat} {p p2 : Pos} (hc : swapN env.scope ts vs ≠ none → vs.all (constantsAlone 8) = false) :
    swappedStores [.Tuple ts kk p] (.Tuple vs k2 p2) env = pure (swapN env.scope ts vs) := by
  have hb : env.blockKind = .function := by
    unfold Env.blockKind
    rw [hk]
    rfl
  unfold swappedStores
  simp only [hb]
  have c0 : ∀ {a b : Bool}, (a || b || ScopeKind.function != ScopeKind.function) = (a || b) := by
    intro a b
    cases a <;> cases b <;> decide
  rw [c0]
  unfold swapN at hc ⊢
  simp only at hc ⊢
  by_cases c1 : (!(ts.length == 2 || ts.length == 3) || vs.length != ts.length) = true
  · rw [if_pos c1, if_pos c1]
  · rw [if_neg c1, if_neg c1]
    rw [if_neg c1] at hc
    by_cases c2 : vs.any isStar = true
    · refine (if_pos (show _ = true from c2)).trans ?_
      rw [if_pos c2]
    · refine (if_neg (show ¬ _ = true from c2)).trans ?_
      rw [if_neg c2] at hc ⊢
      split at hc
      · rename_i c3
        refine (if_pos (show _ = true from c3)).trans ?_
        rw [if_pos c3]
      · rename_i c3
        refine (if_neg (show ¬ _ = true from c3)).trans ?_
        rw [if_neg c3]
        split at hc
        · rename_i c4
          refine (if_pos c4).trans ?_
          rw [if_pos c4]
        · rename_i c4
          refine (if_neg c4).trans ?_
          rw [if_neg c4]
          refine (if_neg (by rw [hc (by simp)]; exact Bool.false_ne_true)).trans ?_
          rfl
end
end OW
end
section
set_option Elab.async false
set_option linter.all false
set_option autoImplicit false
set_option maxRecDepth 100000
set_option maxHeartbeats 8000000
/-! OwR: several names at once, lists of subscripts, comprehensions that are stored; all statements. -/
namespace OW
open PySem L2

section
variable {X : Cx} {c : Cc} {k : Nat} {F : Fns} {e a b d o i : Expr} {ta tb td to ti : T} {pos p p2 px py pz : Pos} {x y z : Str}
theorem slot_ne {N : List Str} {x y : Str} {i j : Nat} (hi : slotOf N x = some i) (hj : slotOf N y = some j) (h : x ≠ y) : i ≠ j := by
  intro e
  subst e
  have h1 := slot_at hi
  have h2 := slot_at hj
  rw [h1] at h2
  exact h (Option.some.inj h2)
theorem ss_par2 (f : Fine X c k F) (hk : c.sc.kind = .function) {kk k2 i j : Nat} (hw : swapN c.sc [.Name x px, .Name y py] [a, b] = some [x, y]) (hcn : [a, b].all (constantsAlone 8) = false) (hx : c.sc.names.lookup x = some .local) (hy : c.sc.names.lookup y = some .local) (hne : x ≠ y)
    (sa : noStar a = true) (sb : noStar b = true) (hi : slotOf c.N x = some i) (hj : slotOf c.N y = some j) (ha : EX X F a ta) (hb : EX X F b tb) :
    PS X (.Assign [.Tuple [.Name x px, .Name y py] kk p] (.Tuple [a, b] k2 p2) pos) (sD X.K F (.par [i, j] [ta, tb])) := by
  have sw : swappedStores [.Tuple [.Name x px, .Name y py] kk p] (.Tuple [a, b] k2 p2) X.env = pure (some [x, y]) := by
    rw [swapped_eq (by rw [f.sc]; exact hk) (fun _ => hcn), f.sc, hw]
  refine PS.imp (ps_par f.calm (by rw [f.N]; exact f.nd) (f.slot hi) (f.slot hj) (slot_ne hi hj hne) (by rw [f.sc]; exact hx) (by rw [f.sc]; exact hy) (pa_all (F := F) (.cons ha (.cons hb .nil)) (by simp [sa, sb])) sw rfl) fun D σ H ⟨ety, ρ, ε, S, rep, g⟩ => ?_
  simp only [denS, Res.good_andThen] at g
  obtain ⟨ds, S1, e1, g⟩ := Res.good_iff.mp g
  refine tAs_of rep e1 fun ρ1 H1 vs x1 s1 r1 => ?_
  have hl := denA_length e1
  match ds, hl, r1, g with
  | [d1, d2], _, r1, g =>
    obtain ⟨v, r, rfl, q1, w, r', rfl, q2, rfl⟩ := r1
    exact ⟨v, w, rfl, g ρ1 _ H1 x1 (((rep.step x1 s1).set i q1).set j q2)⟩
theorem ss_par3 (f : Fine X c k F) (hk : c.sc.kind = .function) {kk k2 i j l : Nat} (hw : swapN c.sc [.Name x px, .Name y py, .Name z pz] [a, b, d] = some [x, y, z]) (hcn : [a, b, d].all (constantsAlone 8) = false) (hx : c.sc.names.lookup x = some .local) (hy : c.sc.names.lookup y = some .local) (hz : c.sc.names.lookup z = some .local) (hne : x ≠ y) (hne2 : x ≠ z) (hne3 : y ≠ z)
    (sa : noStar a = true) (sb : noStar b = true) (sd : noStar d = true) (hi : slotOf c.N x = some i) (hj : slotOf c.N y = some j) (hl : slotOf c.N z = some l) (ha : EX X F a ta) (hb : EX X F b tb) (hd : EX X F d td) :
    PS X (.Assign [.Tuple [.Name x px, .Name y py, .Name z pz] kk p] (.Tuple [a, b, d] k2 p2) pos) (sD X.K F (.par [i, j, l] [ta, tb, td])) := by
  have sw : swappedStores [.Tuple [.Name x px, .Name y py, .Name z pz] kk p] (.Tuple [a, b, d] k2 p2) X.env = pure (some [x, y, z]) := by
    rw [swapped_eq (by rw [f.sc]; exact hk) (fun _ => hcn), f.sc, hw]
  refine PS.imp (ps_par3 f.calm (by rw [f.N]; exact f.nd) (f.slot hi) (f.slot hj) (f.slot hl) (slot_ne hi hj hne) (slot_ne hi hl hne2) (slot_ne hj hl hne3) (by rw [f.sc]; exact hx) (by rw [f.sc]; exact hy) (by rw [f.sc]; exact hz) (pa_all (F := F) (.cons ha (.cons hb (.cons hd .nil))) (by simp [sa, sb, sd])) sw rfl) fun D σ H ⟨ety, ρ, ε, S, rep, g⟩ => ?_
  simp only [denS, Res.good_andThen] at g
  obtain ⟨ds, S1, e1, g⟩ := Res.good_iff.mp g
  refine tAs_of rep e1 fun ρ1 H1 vs x1 s1 r1 => ?_
  have hl' := denA_length e1
  match ds, hl', r1, g with
  | [d1, d2, d3], _, r1, g =>
    obtain ⟨v, r, rfl, q1, w, r', rfl, q2, u, r'', rfl, q3, rfl⟩ := r1
    exact ⟨v, w, u, rfl, g ρ1 _ H1 x1 ((((rep.step x1 s1).set i q1).set j q2).set l q3)⟩
/-- name = [..] -/
theorem ss_lc (f : Fine X c k F) (hk : c.sc.kind = .function) {i : Nat} {elt tg iter : Expr} {ifs : List Expr} {scope : Scope} (hx : isLoc c.sc x = true) (hs : okSt c x = true) (hi : slotOf c.N x = some i) (he : EX X F (.ListComp elt [⟨tg, iter, ifs, 0⟩] scope p) ta) (lc : LcOk X F elt tg iter ifs scope ta) :
    PS X (.Assign [.Name x px] (.ListComp elt [⟨tg, iter, ifs, 0⟩] scope p) pos) (sD X.K F (.asg (.nm i) ta)) := by
  have sw : swapsWith (.ListComp elt [⟨tg, iter, ifs, 0⟩] scope p) (some (.Name x px)) pos.line X.env = pure (X.env.blockKind == .function && X.env.kindOf x == some .local && px.line == p.line
      && !(scope.names.any fun (n, k) => n == x && (k == .local || k == .cell))) := rfl
  have hN : X.N.Nodup := by rw [f.N]; exact f.nd
  have rd : ∀ D σ H, sD X.K F (.asg (.nm i) ta) D σ H → tAsg (tE X.K F ta) (gName i) D σ H := by
    intro D σ H ⟨ety, ρ, ε, S, rep, g⟩
    simp only [denS, Res.good_andThen] at g
    obtain ⟨dd, S1, e1, g⟩ := Res.good_iff.mp g
    exact tE1 rep e1 fun ρ1 H1 v x1 s1 r1 => g ρ1 _ H1 x1 ((rep.step x1 s1).set i r1)
  cases hb : (X.env.blockKind == .function && X.env.kindOf x == some .local && px.line == p.line && !(scope.names.any fun (n, k) => n == x && (k == .local || k == .cell))) with
  | false =>
    rw [hb] at sw
    exact PS.imp (ps_set hN (f.slot hi) (f.loc hx) he sw (f.st x hx hs)) rd
  | true =>
    rw [hb] at sw
    have hl : X.env.scope.names.lookup x = some .local := by
      simp only [Bool.and_eq_true, beq_iff_eq] at hb
      exact hb.1.1.2
    obtain ⟨own, wi, g, tt, te, h1, h2, h3, h4, h5, h6, h7⟩ := lc
    refine PS.imp (ps_setLc f.calm hN (f.slot hi) hl sw h1 h2 h3 h4 h5 h6) fun D σ H h => ?_
    exact h7 σ H _ (rd D σ H h)
theorem ss_name (f : Fine X c k F) {i : Nat} (hx : isLoc c.sc x = true) (hs : okSt c x = true) (hi : slotOf c.N x = some i) (hc : isCompr e = false) (he : EX X F e ta) :
    PS X (.Assign [.Name x px] e pos) (sD X.K F (.asg (.nm i) ta)) := by
  refine PS.imp (ps_set (by rw [f.N]; exact f.nd) (f.slot hi) (f.loc hx) he (noCompr_swaps hc _ _ _) (f.st x hx hs)) fun D σ H ⟨ety, ρ, ε, S, rep, g⟩ => ?_
  simp only [denS, Res.good_andThen] at g
  obtain ⟨dd, S1, e1, g⟩ := Res.good_iff.mp g
  exact tE1 rep e1 fun ρ1 H1 v x1 s1 r1 => g ρ1 _ H1 x1 ((rep.step x1 s1).set i r1)
/-- a name op= e -/
theorem ss_aug (f : Fine X c k F) {i : Nat} {op : Operator} (hx : isLoc c.sc x = true) (hs : okSt c x = true) (hi : slotOf c.N x = some i) (he : EX X F e ta) :
    PS X (.AugAssign (.Name x px) op e pos) (sD X.K F (.aug i op ta)) := by
  refine ⟨fun pins s σ H D I ⟨ety, ρ, ε, S, rep, g⟩ => ?_⟩
  simp only [denS] at g
  split at g
  · rename_i dx ex
    rw [Res.good_andThen] at g
    obtain ⟨dd, S1, e1, g⟩ := Res.good_iff.mp g
    obtain ⟨v, ev, rv⟩ := rep.var i dx ex
    split at g
    · refine (ps_aug (by rw [f.N]; exact f.nd) (f.slot hi) (f.loc hx) he ip_add (f.st x hx hs)).run pins s σ H D I ⟨v, ev, tE1 rep e1 fun ρ1 H1 w x1 s1 r1 => ?_⟩
      exact ⟨_, _, rv, r1, g ρ1 _ H1 x1 ((rep.step x1 s1).set i rfl)⟩
    · refine (ps_aug (by rw [f.N]; exact f.nd) (f.slot hi) (f.loc hx) he ip_sub (f.st x hx hs)).run pins s σ H D I ⟨v, ev, tE1 rep e1 fun ρ1 H1 w x1 s1 r1 => ?_⟩
      exact ⟨_, _, rv, r1, g ρ1 _ H1 x1 ((rep.step x1 s1).set i rfl)⟩
    · exact g.elim
  · exact g.elim

/-! ### o[i], p[j] = .. -/
theorem subs_pg (f : Fine X c k F) {n : Nat} (ih : ∀ (e : Expr) (t : T), compE n c e = some t → EX X F e t) : ∀ {ts : List Expr} {ois : List (T × T)}, subsOf n c ts = some ois →
    PGs X ts (fun vs σ H Q => ∃ ety ρ ε S ds, Rep ⟨X.K, ety⟩ ρ ε S σ H ∧ RelDs ⟨X.K, ety⟩ ρ H ds vs ∧ (subAll F ois ds ε S).good fun _ S' => ∀ ρ' H', Ext ρ H ρ' H' → Rep ⟨X.K, ety⟩ ρ' ε S' σ H' → Q σ H') ∧ ts.all noStar = true
  | [], ois, h => by
    cases h
    refine ⟨⟨fun pins s σ H vs us Q I rv hq => pgs_nil.run pins s σ H vs us Q I rv ?_⟩, rfl⟩
    obtain ⟨ety, ρ, ε, S, ds, rep, rd, g⟩ := hq
    cases ds with
    | nil => exact ⟨rd, g ρ H Ext.refl rep⟩
    | cons _ _ => exact (show False from g).elim
  | e :: r, ois, h => by
    unfold subsOf at h
    split at h
    · rename_i q; cases q
    · rename_i o i pp r' q
      cases q
      split at h
      · rename_i hns
        split at h
        · rename_i s t us e1 e2 e3
          cases h
          obtain ⟨ih1, ih2⟩ := subs_pg f ih e3
          have ha : ∀ v, assign (.Subscript o i pp) X.env v = (do
              let ov ← holding [v] (eval o X.env)
              let iv ← holding [v, ov] (eval i X.env)
              standAt pp
              holding [v, ov, iv] (setItem ov iv v)
              release [v, ov, iv] []) := by
            intro v
            cases i with
            | Slice => cases hns
            | _ => rfl
          refine ⟨⟨fun pins s' σ H vs us' Q I rv hq => (pgs_cons (pg_sub (ih o s e1) (ih i t e2) (set_D f.un) ha) ih1 rfl).run pins s' σ H vs us' Q I rv ?_⟩, by simpa [noStar] using ih2⟩
          obtain ⟨ety, ρ, ε, S, ds, rep, rd, g⟩ := hq
          cases ds with
          | nil => exact (show False from g).elim
          | cons dv ds =>
            obtain ⟨v, vs', rfl, r1, r2⟩ := rd
            simp only [subAll, Res.good_andThen] at g
            obtain ⟨d1, S1, f1, g⟩ := Res.good_iff.mp g
            obtain ⟨d2, S2, f2, g⟩ := Res.good_iff.mp g
            refine ⟨v, vs', rfl, tE2 rep f1 f2 fun ρ2 H2 w z x2 s2 q1 q2 => ⟨ety, ρ2, S2, d1, d2, dv, s2, q1, q2, RelD.mono x2 rep.st.locs _ _ r1, ?_⟩⟩
            refine Res.good_mono g fun _ S3 g H' xw sw => ⟨ety, ρ2, ε, S3, ds, (rep.step x2 s2).step xw sw, RelDs.mono (x2.trans xw) rep.st.locs _ _ r2, ?_⟩
            exact Res.good_mono g fun _ S4 g ρ' H'' x' r' => g ρ' H'' ((x2.trans xw).trans x') r'
        · cases h
      · cases h
    · cases h
theorem ss_subs (f : Fine X c k F) (hk : c.sc.kind = .function) {n : Nat} (ih : ∀ (e : Expr) (t : T), compE n c e = some t → EX X F e t) {ts es : List Expr} {ois : List (T × T)} {us : List T} {kk k2 : Nat} (h : subsOf n c ts = some ois) (hw : swapN c.sc ts es = none) (hes : es.all noStar = true) (hu : All2 (EX X F) es us) :
    PS X (.Assign [.Tuple ts kk p] (.Tuple es k2 p2) pos) (sD X.K F (.subs ois (.app .tup us))) := by
  obtain ⟨pg, hst⟩ := subs_pg f ih h
  have hl := asg_len X.env hst
  have sw : swappedStores [.Tuple ts kk p] (.Tuple es k2 p2) X.env = pure none := by
    rw [swapped_eq (by rw [f.sc]; exact hk) (fun hn => by rw [f.sc, hw] at hn; exact absurd rfl hn), f.sc, hw]
  refine PS.imp (ps_asg (ex_tup hu hes) (pg_tup (n := ts.length) f.calm pg hl.1 hl.2) rfl sw rfl) fun D σ H ⟨ety, ρ, ε, S, rep, g⟩ => ?_
  simp only [denS, Res.good_andThen] at g
  obtain ⟨dv, S1, e1, g⟩ := Res.good_iff.mp g
  refine tE1 rep e1 fun ρ1 H1 v x1 s1 r1 => ?_
  cases dv with
  | tup ds =>
    obtain ⟨aa, vs, rfl, qa, r⟩ := r1
    simp only [Res.good_andThen] at g
    have hlen : ∀ (ois : List (T × T)) (ds : List OW.D) (S : Store) (Q : Unit → Store → Prop), (subAll F ois ds ε S).good Q → ds.length = ois.length := by
      intro ois
      induction ois with
      | nil => intro ds S Q h; cases ds with
        | nil => rfl
        | cons _ _ => exact (show False from h).elim
      | cons oi ois ih3 =>
        intro ds S Q h
        cases ds with
        | nil => exact (show False from h).elim
        | cons d ds =>
          obtain ⟨o, i⟩ := oi
          simp only [subAll, Res.good_andThen] at h
          obtain ⟨_, _, _, h⟩ := Res.good_iff.mp h
          obtain ⟨_, _, _, h⟩ := Res.good_iff.mp h
          obtain ⟨_, _, _, h⟩ := Res.good_iff.mp h
          simp [ih3 ds _ _ h]
    have hlo : ∀ {ts : List Expr} {ois : List (T × T)}, subsOf n c ts = some ois → ts.length = ois.length := by
      intro ts
      induction ts with
      | nil => intro ois h; cases h; rfl
      | cons e ts ih3 =>
        intro ois h
        unfold subsOf at h
        split at h
        · rename_i q; cases q
        · rename_i q
          cases q
          split at h
          · split at h
            · rename_i e3
              cases h
              simp [ih3 e3]
            · cases h
          · cases h
        · cases h
    refine ⟨aa, vs, rfl, qa, by rw [← r.length, hlen _ _ _ _ g, hlo h], ety, ρ1, ε, S1, ds, rep.step x1 s1, r, ?_⟩
    exact Res.good_mono g fun _ S2 g ρ' H' x' r' => g ρ' σ H' (x1.trans x') r'
  | _ => exact (show False from g).elim

/-! ### all statements -/
theorem compM_ex (f : Fine X c k F) {n : Nat} (ih : ∀ (e : Expr) (t : T), compE n c e = some t → EX X F e t) {t0 e : Expr} {t : T} (h : compM n c t0 e = some t) : EX X F e t := by
  unfold compM at h
  split at h
  · rename_i y py es pe
    split at h
    · split at h
      · rename_i hs
        obtain ⟨ts, e1, rfl⟩ := some_map h
        exact ex_lstM ((mapO_all e1).imp fun a b q => ih a b q) hs
      · cases h
    · exact ih _ _ h
  · exact ih _ _ h
theorem compMs_ex (f : Fine X c k F) {n : Nat} (ih : ∀ (e : Expr) (t : T), compE n c e = some t → EX X F e t) : ∀ {ts es : List Expr} {us : List T}, compMs n c ts es = some us → All2 (EX X F) es us
  | [], [], us, h => by cases h; exact .nil
  | [], _ :: _, us, h => by cases h
  | _ :: _, [], us, h => by cases h
  | t0 :: ts, e :: es, us, h => by
    unfold compMs at h
    split at h
    · rename_i t ts' e1 e2
      cases h
      exact .cons (compM_ex f ih e1) (compMs_ex f ih e2)
    · cases h
theorem compM_lc {n : Nat} {t0 e : Expr} {t : T} (h : compM n c t0 e = some t) (hc : isCompr e = true) : compE n c e = some t := by
  cases e with
  | List => cases hc
  | _ => cases t0 <;> exact h
theorem sound_s : ∀ (n : Nat) (X : Cx) (c : Cc) (k : Nat) (F : Fns), Fine X c k F → c.sc.kind = .function → PassesOwn (model X.prog X.w) X.A X.env X.xe →
    (∀ (st : Stmt) (sx : Sx), compS n c st = some sx → PS X st (sD X.K F sx)) ∧ (∀ (sts : List Stmt) (sxs : List Sx), compB n c sts = some sxs → PSs X sts (bD X.K F sxs)) := by
  intro n
  induction n with
  | zero => exact fun X c k F _ _ _ => ⟨(fun st sx h => by cases h), (fun st sx h => by cases h)⟩
  | succ n ih =>
    intro X c k F f hk hp
    obtain ⟨ihS, ihB⟩ := ih X c k F f hk hp
    have bx : ∀ (e : Expr) (t : T), compE n c e = some t → BX X F e t := fun e t h => (sound_ei n).1 X c k F e t f h
    have ex : ∀ (e : Expr) (t : T), compE n c e = some t → EX X F e t := fun e t h => (bx e t h).ex
    constructor
    · intro st sx h
      unfold compS at h
      split at h
      · cases h; exact ss_pass
      · cases h; exact ss_retN
      · obtain ⟨t, e1, rfl⟩ := some_map h
        exact ss_ret (ex _ _ e1)
      · cases h; exact ss_doc
      · split at h
        · cases h
        · rename_i hc
          obtain ⟨t, e1, rfl⟩ := some_map h
          exact ss_expr (by simpa using hc) (ex _ _ e1)
      · split at h
        · rename_i t xa xb e1 e2 e3
          cases h
          exact ss_if (bx _ _ e1).tx (ihB _ _ e2) (ihB _ _ e3)
        · cases h
      · rename_i tg iter body p
        split at h
        · rename_i hs
          split at h
          · rename_i it g b e1 e2 e3
            split at h
            · rename_i ht
              cases h
              exact ss_for hp f.calm hs ((sound_ei n).2 X c k F _ _ f e1 tg ht) (pg_of f n tg g e2) (ihB _ _ e3)
            · cases h
          · cases h
        · cases h
      · rename_i x px op e p
        split at h
        · rename_i hx
          simp only [Bool.and_eq_true] at hx
          split at h
          · rename_i i t e1 e2
            cases h
            exact ss_aug f hx.1.1 hx.1.2 e1 (ex _ _ e2)
          · cases h
        · cases h
      · rename_i x px e p
        split at h
        · rename_i hx
          rw [Bool.and_eq_true] at hx
          split at h
          · rename_i i t e1 e2
            cases h
            cases hc : isCompr e with
            | false => exact ss_name f hx.1 hx.2 e1 hc (compM_ex f ex e2)
            | true =>
              have e3 := compM_lc e2 hc
              cases n with
              | zero => cases e3
              | succ m =>
                cases e with
                | ListComp elt gs scope pl =>
                  obtain ⟨tg, iter, ifs, rfl, lc⟩ := lc_ok (X := X) (F := F) (sound_ei m).1 (sound_ei m).2 f e3
                  exact ss_lc f hk hx.1 hx.2 e1 (ex _ _ e3) lc
                | SetComp => unfold compE at e3; cases e3
                | DictComp => unfold compE at e3; cases e3
                | _ => cases hc
          · cases h
        · cases h
      · rename_i o i pp e p
        split at h
        · rename_i hi
          rw [Bool.and_eq_true] at hi
          split at h
          · rename_i s t u e1 e2 e3
            cases h
            exact ss_sub f.un hi.1 (by simpa using hi.2) (ex _ _ e3) (ex _ _ e1) (ex _ _ e2)
          · cases h
        · cases h
      · rename_i ts kk pp es k2 p2 p
        split at h
        · rename_i names hw
          split at h
          · cases h
          · rename_i hcn
            have hcn' : es.all (constantsAlone 8) = false := by simpa using hcn
            split at h
            · rename_i x px y py a b
              split at h
              · rename_i hq
                obtain ⟨rfl, h1, h2, h3, h4, h5⟩ := hq
                split at h
                · rename_i i j s t e1 e2 e3 e4
                  cases h
                  exact ss_par2 f hk hw hcn' h1 h2 h3 h4 h5 e1 e2 (compM_ex f ex e3) (compM_ex f ex e4)
                · cases h
              · cases h
            · rename_i x px y py z pz a b d
              split at h
              · rename_i hq
                obtain ⟨rfl, h1, h2, h3, h4, h5, h6, h7, h8, h9⟩ := hq
                split at h
                · rename_i i j l s t u e1 e2 e3 e4 e5 e6
                  cases h
                  exact ss_par3 f hk hw hcn' h1 h2 h3 h4 h5 h6 h7 h8 h9 e1 e2 e3 (compM_ex f ex e4) (compM_ex f ex e5) (compM_ex f ex e6)
                · cases h
              · cases h
            · cases h
        · rename_i hw
          split at h
          · rename_i hs
            rw [Bool.and_eq_true] at hs
            split at h
            · rename_i ois e1
              obtain ⟨us, e2, rfl⟩ := some_map h
              exact ss_subs f hk ex e1 hw hs.1 ((mapO_all e2).imp fun a b q => ex a b q)
            · split at h
              · rename_i g us e1 e2
                cases h
                have sw : swappedStores [.Tuple ts kk pp] (.Tuple es k2 p2) X.env = pure none := by
                  rw [swapped_eq (by rw [f.sc]; exact hk) (fun hn => by rw [f.sc, hw] at hn; exact absurd rfl hn), f.sc, hw]
                exact ss_asg (ex_tup (compMs_ex f ex e2) hs.1) (pg_of f n _ g e1) rfl sw rfl
              · cases h
          · cases h
      · rename_i ts kk pp e p hno
        split at h
        · cases h
        · rename_i hc
          split at h
          · rename_i g t e1 e2
            cases h
            exact ss_asg (ex _ _ e2) (pg_of f n _ g e1) (sole_false (by simpa using hc) _ _ _) (noTuple_stores hno _) rfl
          · cases h
      · cases h
    · intro sts sxs h
      unfold compB at h
      split at h
      · cases h; exact bs_nil
      · split at h
        · rename_i x xs e1 e2
          cases h
          exact bs_cons (ihS _ _ e1) (ihB _ _ e2)
        · cases h
end
end OW
end
section
set_option Elab.async false
set_option linter.all false
set_option autoImplicit false
set_option maxRecDepth 100000
set_option maxHeartbeats 8000000
/-! OwS: a def of the text keeps the promise that its meaning is; defs that call one another, level by level. -/
namespace OW
open PySem L2

section
variable {P : Program} {w : World} {K : PySem.W.Frag} {mg : Str → Option Value} {base : Heap}
/-- a def by its body (no guard on the stack) -/
theorem fnG_of {k : Nat} {f : Addr} {name qual : Str} {params : Arguments} {body : List Stmt} {scope : Scope} {dV kV doc pm cdv ct oc : Value} {an od : Option Addr} {osl : Array (Option Value)} {N ps : List Str} {sp : Sp}
    (lk : K.lookup f = some ⟨oc, od, .func (PySem.W.fnOf name qual params body scope dV kV doc pm an cdv ct), osl⟩) (hcd : PySem.W.codeIn K cdv qual = true) (sc : FnScope N ps scope) (len : ∀ vs H Q E, sp vs H Q E → vs.length = ps.length)
    (hbody : ∀ (A : Around) (outer : List Env) (s : Shared) (H : Hp) (vs : List V) (Q : VK) (E : XK), Room k (A.deeper (PyProof.Rows.envOfC qual scope s.heap.objs.size f cdv)) → A.guards = some [] → sp vs H Q E →
      ∃ t, PSs (cxOf L2.CX0 P w K mg base N qual scope f cdv A outer s H E) body t ∧ t { nx := fun _ H' => Q .non H', rt := Q } (L2.start N vs) H) :
    FnG P w K mg base (k + 1) f (PySem.W.fnOf name qual params body scope dV kV doc pm an cdv ct) ps sp := by
  refine ⟨len, fun A outer s H args us vs Q E hr hg e0 hb r hsp => ?_⟩
  have kin : K.In s.heap := e0.mod.kin.keeps fun b o e => (e0.bs b o e).1
  have nl : s.heap.NoLimit := e0.mod.nolimit.keeps fun b o e => (e0.bs b o e).1
  have kinds : ∀ y ∈ ps.zip us, scope.names.lookup y.1 = some .local ∨ (scope.names.lookup y.1 = some .cell ∧ ((cellsFrom (s.heap.objs.size + 1) scope.names []).lookup y.1).isSome = true) := by
    intro y hy
    rcases sc.par y.1 (List.of_mem_zip (a := y.1) (b := y.2) hy).1 with q | q
    · exact .inl q
    · exact .inr ⟨q, PySem.W.cellsFrom_some _ _ _ (.inl q)⟩
  refine codeAny_call_function hr.depth (kin _ _ lk) rfl sc.co sc.gen rfl (PySem.W.codeRec_of kin hcd) (hb _ _ _ _ (wpAny_newFunctionEnv_cells sc.kind kinds fun env he s1 x => ?_))
  subst he
  obtain ⟨t, ht, hq⟩ := hbody A outer s H vs Q E (hr.deeper _) hg hsp
  have I : Inv (cxOf L2.CX0 P w K mg base N qual scope f cdv A outer s H E) [] (L2.start N vs) H s1 := inv_start sc hr.hd e0 (len _ _ _ _ hsp) r x
  refine ⟨nl.keeps x.toInCall.keep, codeAny_func (wpAny_mono (ht.run [] s1 (L2.start N vs) H _ I hq) (fun fl s' hs => ?_) fun e s' hs => hs)⟩
  cases fl with
  | ret u =>
    obtain ⟨v, σ', H', J, rv, q⟩ := hs
    exact ⟨v, H', J.os, J.bare, J.base, J.hok, rv, q⟩
  | next =>
    obtain ⟨σ', H', J, q⟩ := hs
    exact ⟨.non, H', J.os, J.bare, J.base, J.hok, rfl, q⟩
  | brk => obtain ⟨_, _, _, q⟩ := hs; exact False.elim q
  | cont => obtain ⟨_, _, _, q⟩ := hs; exact False.elim q

/-- the names of a def's scope, looked at -/
def scOk (N ps : List Str) (sc : Scope) : Bool :=
  decide (sc.kind = .function) && !sc.isCoroutine && !sc.isGenerator && decide N.Nodup && decide (N.take ps.length = ps) && ps.all (fun x => isLoc sc x) && sc.names.all (fun y => !(y.2 == .free))
theorem scOk_ok {N ps : List Str} {sc : Scope} (h : scOk N ps sc = true) : FnScope N ps sc := by
  unfold scOk at h
  simp only [Bool.and_eq_true, Bool.not_eq_true', decide_eq_true_eq, List.all_eq_true, beq_eq_false_iff_ne] at h
  obtain ⟨⟨⟨⟨⟨⟨h1, h2⟩, h3⟩, h4⟩, h5⟩, h6⟩, h7⟩ := h
  refine ⟨h1, h2, h3, h4, h5, fun x hx => ?_, h7⟩
  have := h6 x hx
  unfold isLoc at this
  simpa using this
/-- a def of the text with its slots and its term -/
structure DefX where
  x : Str
  st : Stmt
  N : List Str
  mu : List Str
  fd : Fd
/-- plain parameters alone -/
def plainPs (a : Arguments) : Bool := a.posonlyargs.isEmpty && a.vararg.isNone && a.kwonlyargs.isEmpty && a.kwarg.isNone && a.defaults.isEmpty
/-- the text and its term fit -/
def defOk (gc : List (Str × D)) (fs : List (Str × List Str)) (d : DefX) : Bool :=
  plainPs (defArgs d.st) && scOk d.N (parsOf d.st) (defScope d.st) && decide ((parsOf d.st).Nodup)
def defFit (gc : List (Str × D)) (fs : List (Str × List Str)) (d : DefX) : Prop := compF 200 gc fs d.N d.mu d.st = some d.fd
/-- the meaning's table -/
def tabOf (ds : List DefX) : Tab := fun x => (ds.find? fun d => decide (d.x = x)).map (·.fd)
def fsOf (ds : List DefX) : List (Str × List Str) := ds.map fun d => (d.x, parsOf d.st)
theorem startRep {κ : Kx} {ρ : List Addr} {S : Store} {H : Hp} {N : List Str} {ds : List D} {vs : List V} (s : SRel κ ρ S H) (r : RelDs κ ρ H ds vs) : Rep κ ρ (startD N.length ds) S (L2.start N vs) H := by
  have hl := r.length
  refine ⟨s, by simp [startD, L2.start, hl], fun i d e => ?_⟩
  unfold startD at e
  by_cases hi : i < ds.length
  · rw [List.getElem?_append_left (by simpa using hi), List.getElem?_map] at e
    cases q : ds[i]? with
    | none => rw [q] at e; cases e
    | some d' =>
      rw [q] at e
      cases e
      obtain ⟨v, ev, rv⟩ := r.get q
      refine ⟨v, ?_, rv⟩
      unfold L2.start
      rw [List.getElem?_append_left (by rw [List.length_map]; omega), List.getElem?_map, ev]
      rfl
  · rw [List.getElem?_append_right (by simpa using hi), List.getElem?_replicate] at e
    split at e <;> cases e
theorem lookup_fs {ds : List DefX} {x : Str} {ps : List Str} (h : (fsOf ds).lookup x = some ps) : ∃ d ∈ ds, d.x = x ∧ parsOf d.st = ps := by
  have := PySem.mem_of_lookup h
  obtain ⟨d, hd, e⟩ := List.mem_map.mp this
  cases e
  exact ⟨d, hd, rfl, rfl⟩
theorem tab_find {ds : List DefX} (hnd : (ds.map (·.x)).Nodup) {d : DefX} (hd : d ∈ ds) : tabOf ds d.x = some d.fd := by
  unfold tabOf
  induction ds with
  | nil => cases hd
  | cons e ds ih =>
    rw [List.map_cons, List.nodup_cons] at hnd
    rcases List.mem_cons.mp hd with q | q
    · subst q
      simp
    · have hne : ¬ e.x = d.x := fun z => hnd.1 (by rw [z]; exact List.mem_map.mpr ⟨d, q, rfl⟩)
      rw [List.find?_cons, decide_eq_false hne]
      exact ih hnd.2 q
theorem binds_of {d : DefX} {f : Addr} {fd : FuncData} (hp : plainPs (defArgs d.st) = true) (nd : (parsOf d.st).Nodup) (F : FunD K d.x d.x (defArgs d.st) (defBody d.st) (defScope d.st) [] [] f fd) (s : Shared) (us ws : List Value) (hl : us.length + ws.length = (parsOf d.st).length) :
    BindsTo s fd ⟨us, ((parsOf d.st).drop us.length).zip ws⟩ ((parsOf d.st).zip (us ++ ws)) := by
  unfold plainPs at hp
  simp only [Bool.and_eq_true, List.isEmpty_iff, Option.isNone_iff_eq_none] at hp
  obtain ⟨⟨⟨⟨p1, p2⟩, p3⟩, p4⟩, p5⟩ := hp
  obtain ⟨oc, od, dV, kV, doc, pm, an, cdv, ct, osl, rfl, lk, hcd, hD, hK⟩ := F.ex
  have hdv : dV = .none := by
    rcases hD with ⟨_, q⟩ | ⟨q, _⟩
    · exact q
    · exact absurd rfl q
  subst hdv
  exact .of_eq (bind_gen (as := (defArgs d.st).args) p1 rfl p2 p3 p4 rfl us ws (by simpa [parsOf] using hl) nd)
theorem level_fn {gc : List (Str × D)} {ds : List DefX} (hok : ∀ d ∈ ds, defOk gc (fsOf ds) d = true) (hfit : ∀ d ∈ ds, defFit gc (fsOf ds) d) (hglob : ∀ x d, gc.lookup x = some d → ∃ u, mg x = some u ∧ GlobD K d u) (hblt : ∀ x, x ∈ bltNames → mg x = none)
    (hnd : (ds.map (·.x)).Nodup) {n : Nat} (ih : ∀ d : DefX, d ∈ ds → DefOk P w K mg base n (run (tabOf ds) n) d.x (parsOf d.st)) {d : DefX} (hd : d ∈ ds) {f : Addr} {fd : FuncData} (F : FunD K d.x d.x (defArgs d.st) (defBody d.st) (defScope d.st) [] [] f fd) :
    FnG P w K mg base (n + 1) f fd (parsOf d.st) (spF K (run (tabOf ds) (n + 1)) d.x (parsOf d.st).length) := by
  have ok := hok d hd
  unfold defOk at ok
  simp only [Bool.and_eq_true, decide_eq_true_eq] at ok
  have S := scOk_ok ok.1.2
  have fit := hfit d hd
  unfold defFit compF at fit
  obtain ⟨b, eb, hfd⟩ := some_map fit
  obtain ⟨oc, od, dV, kV, doc, pm, an, cdv, ct, osl, rfl, lk, hcd, hD, hK⟩ := F.ex
  refine fnG_of lk hcd S (fun vs H Q E ⟨ety, ρ, S0, dd, _, r, hl, g⟩ => by rw [← r.length]; exact hl) fun A outer s H vs Q E hr hg hsp => ?_
  have fine : Fine (cxOf L2.CX0 P w K mg base d.N d.x (defScope d.st) f cdv A outer s H E).nox { N := d.N, sc := defScope d.st, gc := gc, fs := fsOf ds, mu := d.mu, st := none } n (run (tabOf ds) n) := by
    refine ⟨rfl, S.nd, rfl, rfl, hg, hr, hglob, hblt, fun x ps hx => ?_, fun x _ _ => .inl rfl⟩
    obtain ⟨d', hd', rfl, rfl⟩ := lookup_fs hx
    exact ih d' hd'
  have body := (sound_s 200 _ _ n (run (tabOf ds) n) fine S.kind PassesOwn.never).2 _ _ eb
  refine ⟨_, PSs.nox body, ?_⟩
  obtain ⟨ety, ρ, S0, dd, st, r, hl, g⟩ := hsp
  refine ⟨ety, ρ, startD d.N.length dd, S0, startRep st r, ?_⟩
  have g' : (match tabOf ds d.x with
    | some fd => callD (run (tabOf ds) n) fd dd S0
    | none => .bad).good (K2 ⟨K, ety⟩ ρ H Q) := g
  rw [tab_find hnd hd, ← hfd] at g'
  unfold callD at g'
  obtain ⟨_, g'⟩ := need_good g'
  rw [Res.good_andThen] at g'
  refine Res.good_mono g' fun fl S1 gf => ?_
  cases fl with
  | next ε => exact fun ρ' σ' H' x' r' => gf ρ' .non H' x' r'.st rfl
  | ret dv => exact fun ρ' v H' x' s' r' => gf ρ' v H' x' s' r'
theorem level {gc : List (Str × D)} {ds : List DefX} (hok : ∀ d ∈ ds, defOk gc (fsOf ds) d = true) (hfit : ∀ d ∈ ds, defFit gc (fsOf ds) d) (hglob : ∀ x d, gc.lookup x = some d → ∃ u, mg x = some u ∧ GlobD K d u) (hblt : ∀ x, x ∈ bltNames → mg x = none)
    (hdef : ∀ d ∈ ds, ∃ f fd, mg d.x = some (.ref f) ∧ FunD K d.x d.x (defArgs d.st) (defBody d.st) (defScope d.st) [] [] f fd) (hnd : (ds.map (·.x)).Nodup) :
    ∀ (n : Nat) (d : DefX), d ∈ ds → DefOk P w K mg base n (run (tabOf ds) n) d.x (parsOf d.st) := by
  intro n
  induction n with
  | zero =>
    intro d hd
    obtain ⟨f, fd, hm, F⟩ := hdef d hd
    have ok := hok d hd
    unfold defOk at ok
    simp only [Bool.and_eq_true, decide_eq_true_eq] at ok
    exact ⟨f, fd, hm, F.kp, binds_of ok.1.1 ok.2 F, ⟨fun vs H Q E ⟨ety, ρ, S, dd, _, _, _, g⟩ => g.elim, fun A outer s H args us vs Q E _ _ _ _ _ ⟨ety, ρ, S, dd, _, _, _, g⟩ => g.elim⟩⟩
  | succ n ih =>
    intro d hd
    obtain ⟨f, fd, hm, F⟩ := hdef d hd
    have ok := hok d hd
    unfold defOk at ok
    simp only [Bool.and_eq_true, decide_eq_true_eq] at ok
    refine ⟨f, fd, hm, F.kp, binds_of ok.1.1 ok.2 F, ?_⟩
    exact level_fn hok hfit hglob hblt hnd ih hd F
end
end OW
end
section
set_option Elab.async false
set_option linter.all false
set_option autoImplicit false
set_option maxRecDepth 100000
set_option maxHeartbeats 8000000
/-! OwT: the law's own call. -/
namespace OW
open PySem L2 PyProof.Rows

theorem law_G {P : Program} {w : World} {K : PySem.W.Frag} {mg mb : Str → Option Value} {k : Nat} {fa a : Addr} {fd : FuncData} {x : Str} {sp : Sp} {s1 : Shared} {vs : List Value} {ns : List Int}
    (KX : K.In s1.heap) (hns : s1.heap.Ns mainGlobals mg) (hb : s1.heap.Ns builtinsNs mb) (hbb : ∀ x : Str, x ≠ "__name__" → mb x = bootBuiltins x) (hlim : s1.heap.NoLimit) (hg : s1.gens = #[])
    (ha : s1.heap.get? a = some { cls := .type "list", data := .seq vs.toArray }) (hi : IntsAre vs ns) (hl : ns.length ≤ sizeLine) (hr : Room k callerA)
    (F : ∀ base : Heap, K.In base → base.Ns mainGlobals mg → FnG P w K mg base k fa fd [x] sp) (hbind : ∀ (s : Shared) (u : Value), BindsTo s fd ⟨[u], []⟩ [(x, u)])
    (hsp : ∀ H : Hp, ((∃ o, H a = some (.frz o (.lst (ns.map V.int)))) ∨ KL K a (ns.map V.int)) → sp [.ref a] H (fun v _ => v = .bl true) fun _ _ _ => False) :
    codeAny (model P w) callerA (.call (.ref fa) ⟨[.ref a], []⟩) (fun r s' => r = .ok (.ret (.bool true)) ∧ OldK s1.heap s'.heap ∧ s'.os = s1.os ∧ AllBare s'.gens) s1 := by
  have rv := vals_ints hi
  have lv := hi.length
  have go : ∀ H : Hp, (∀ b u, H b = some u → b = a ∧ ∃ o xs, u = .frz o (.lst xs)) → ((∃ o, H a = some (.frz o (.lst (ns.map V.int)))) ∨ KL K a (ns.map V.int)) → HOk P w H s1.heap → (H a ≠ none → K.lookup a = none) →
      codeAny (model P w) callerA (.call (.ref fa) ⟨[.ref a], []⟩) (fun r s' => r = .ok (.ret (.bool true)) ∧ OldK s1.heap s'.heap ∧ s'.os = s1.os ∧ AllBare s'.gens) s1 := by
    intro H only sq hok hK
    have un : ∀ {b : Addr} {ob : Obj} {es : Array DictEntry} {ep : Nat}, s1.heap.get? b = some ob → ob.data = .dict es ep → H b = none := by
      intro b ob es ep e d
      cases q : H b with
      | none => rfl
      | some u =>
        have eb := (only b u q).1
        subst eb
        rw [ha] at e
        cases e
        cases d
    have ns' : ∀ {b : Addr} {m : Str → Option Value}, s1.heap.Ns b m → (hidT s1.heap H).Ns b m := by
      intro b m ⟨ob, es, ep, e, d, r⟩
      exact ⟨ob, es, ep, hidT_get e (un e d), d, r⟩
    have kb : K.In (hidT s1.heap H) := by
      intro b ob e
      refine hidT_get (KX b ob e) ?_
      cases q : H b with
      | none => rfl
      | some u =>
        have eb := (only b u q).1
        subst eb
        rw [hK (by rw [q]; simp)] at e
        cases e
    have md : Mod K mg (hidT s1.heap H) := ⟨kb, ns' hns, ⟨mb, ns' hb, hbb⟩, by obtain ⟨mc, h1, h2⟩ := hlim; exact ⟨mc, ns' h1, h2⟩⟩
    have e0 : Env0 P w K mg (hidT s1.heap H) callerA [] s1 H := ⟨rfl, md, fun b ob e => of_hidT e, Nat.le_of_eq (hidT_size _ _), trivial, (fun b hb => by cases hb), hok, .of_eq hg⟩
    refine codeAny_mono ((F _ kb (ns' hns)).run callerA [] s1 H ⟨[.ref a], []⟩ [.ref a] [.ref a] _ _ hr rfl e0 (hbind s1 (.ref a)) (.cons rfl .nil) (hsp H sq)) fun r s' h => ?_
    cases r with
    | error e => exact False.elim h
    | ok fl =>
      cases fl with
      | ret u =>
        obtain ⟨v, H', os, bare, ux, hok', r', q⟩ := h
        have q' : v = .bl true := q
        subst q'
        cases (show u = Value.bool true from r')
        refine ⟨rfl, OldK.of_keep fun b ob e => ?_, os, bare⟩
        cases qb : H b with
        | none => exact ux.keep b ob e qb (fun z => by cases z) (fun z => by cases z)
        | some u' =>
          obtain ⟨_, o2, xs, rfl⟩ := only b u' qb
          obtain ⟨e1, _⟩ := hok b _ qb
          obtain ⟨e2, _⟩ := hok' b _ (ux.frzs b o2 _ qb)
          rw [e] at e1
          cases e1
          exact e2
      | _ => exact False.elim h
  cases hk : K.lookup a with
  | some ob =>
    have e := KX a ob hk
    rw [ha] at e
    cases e
    exact go (fun _ => none) (fun b u z => by cases z) (.inr ⟨_, vs.toArray, _, hk, rfl, rfl, rfl, by rw [List.size_toArray, lv]; exact hl, by simpa using rv⟩) (fun b u z => by cases z) (fun z => absurd rfl z)
  | none =>
    refine go (fun b => if b = a then some (.frz { cls := .type "list", data := .seq vs.toArray } (.lst (ns.map V.int))) else none) (fun b u z => ?_) (.inl ⟨{ cls := .type "list", data := .seq vs.toArray }, if_pos rfl⟩) (fun b u z => ?_) fun _ => hk
    · by_cases eb : b = a
      · have z' := (if_pos eb).symm.trans z
        cases z'
        exact ⟨eb, _, _, rfl⟩
      · have z' := (if_neg eb).symm.trans z
        cases z'
    · by_cases eb : b = a
      · have z' := (if_pos eb).symm.trans z
        cases z'
        subst eb
        exact ⟨ha, by rw [List.length_map]; exact hl, vs, _, rv, ha⟩
      · have z' := (if_neg eb).symm.trans z
        cases z'

/-- the law's walk: F gives the written part, the table of defs; the meaning of the law is True -/
theorem walk_G {l : PySem.W.OpenLaw} {n k : Nat} {q : Program} {loose : List Str} {XP : (Str → Option Value) → Heap → Prop} {YP : World → Heap → Prop} {d : DefRec} {x : Str}
    (hn : l.most = some n) (hn2 : n ≤ sizeLine) (hdf : d.params.defaults = []) (hr : Room k callerA)
    (F : ∀ (w : World) (mg : Str → Option Value) (fa : Addr) (h : Heap), YP w h → h.Ns mainGlobals mg → mg d.name = some (.ref fa) →
      ∃ (K : PySem.W.Frag) (fd : FuncData) (sp : Sp), K.In h ∧ (∀ (s : Shared) (u : Value), BindsTo s fd ⟨[u], []⟩ [(x, u)]) ∧
        (∀ (H : Hp) (a : Addr) (ns : List Int), ns.length ≤ n → ((∃ o, H a = some (.frz o (.lst (ns.map V.int)))) ∨ KL K a (ns.map V.int)) → sp [.ref a] H (fun v _ => v = .bl true) fun _ _ _ => False) ∧
        ∀ base : Heap, K.In base → base.Ns mainGlobals mg → FnG l.prog w K mg base k fa fd [x] sp) :
    PySem.W.WalkO q loose XP YP l.row.toRowW d [] (fun f vs => PySem.call f vs) := by
  refine Att.attach_call hn hdf fun w s0 s1 mg mb fa o pm cd doc a vs ns G Y ho hd hcd hmg hobj hints hlen hg => ?_
  obtain ⟨K, fd, sp, KX, hb, hsp, hF⟩ := F w mg fa _ Y G.T.g hmg
  exact law_G KX G.T.g G.T.b G.T.builtins G.T.nolimit hg hobj hints (Nat.le_trans hlen hn2) hr hF hb fun H hS => hsp H a ns hlen hS
end OW
end
section
set_option Elab.async false
set_option linter.all false
set_option autoImplicit false
set_option maxRecDepth 100000
set_option maxHeartbeats 8000000
/-! OwU: what the module's top leaves, looked at by one Bool and the defs' own texts. -/
namespace OW
open PySem L2 PyProof.Rows

mutual
/-- a datum of the written part -/
def relB (K : PySem.W.Frag) : D → Value → Bool
  | .non, .none => true
  | .bl b, .bool c => b == c
  | .int i, .int j _ => decide (i = j)
  | .str x, .str y _ => decide (x = y)
  | .tup ds, .ref a => match K.lookup a with
    | some ⟨.type c, _, .seq its _, _⟩ => decide (c = "tuple") && decide (its.size ≤ sizeLine) && relBs K ds its.toList
    | _ => false
  | _, _ => false
def relBs (K : PySem.W.Frag) : List D → List Value → Bool
  | [], [] => true
  | d :: ds, v :: vs => relB K d v && relBs K ds vs
  | _, _ => false
end
mutual
theorem relB_ok {K : PySem.W.Frag} : ∀ (d : D) (u : Value), relB K d u = true → GlobD K d u
  | .non, u, h => by
    cases u with
    | none => exact ⟨.non, rfl, fun _ _ _ => rfl⟩
    | _ => cases h
  | .bl b, u, h => by
    cases u with
    | bool c =>
      have e : b = c := by simpa [relB] using h
      subst e
      exact ⟨.bl b, rfl, fun _ _ _ => rfl⟩
    | _ => cases h
  | .int i, u, h => by
    cases u with
    | int j t =>
      have e : i = j := by simpa [relB] using h
      subst e
      exact ⟨.int i, ⟨t, rfl⟩, fun _ _ _ => rfl⟩
    | _ => cases h
  | .str x, u, h => by
    cases u with
    | str y t =>
      have e : x = y := by simpa [relB] using h
      subst e
      exact ⟨.str x, ⟨t, rfl⟩, fun _ _ _ => rfl⟩
    | _ => cases h
  | .tup ds, u, h => by
    cases u with
    | ref a =>
      unfold relB at h
      split at h
      · rename_i c od its n sl e
        simp only [Bool.and_eq_true, decide_eq_true_eq] at h
        obtain ⟨vs, r, q⟩ := relBs_ok ds its.toList h.2
        refine ⟨.ref a, rfl, fun ety ρ H => ⟨a, vs, rfl, .inr ⟨_, its, n, e, ?_, rfl, h.1.2, r⟩, q ety ρ H⟩⟩
        rw [h.1.1]
      · cases h
    | _ => cases h
  | .lst _, u, h => by cases u <;> cases h
  | .ro _, u, h => by cases u <;> cases h
  | .loc _, u, h => by cases u <;> cases h
theorem relBs_ok {K : PySem.W.Frag} : ∀ (ds : List D) (us : List Value), relBs K ds us = true → ∃ vs, Vals vs us ∧ ∀ ety ρ H, RelDs ⟨K, ety⟩ ρ H ds vs
  | [], [], _ => ⟨[], .nil, fun _ _ _ => rfl⟩
  | [], _ :: _, h => by cases h
  | _ :: _, [], h => by cases h
  | d :: ds, u :: us, h => by
    have h' : relB K d u = true ∧ relBs K ds us = true := by simpa [relBs] using h
    obtain ⟨v, rv, q⟩ := relB_ok d u h'.1
    obtain ⟨vs, rs, qs⟩ := relBs_ok ds us h'.2
    exact ⟨v :: vs, .cons rv rs, fun ety ρ H => ⟨v, vs, rfl, q ety ρ H, qs ety ρ H⟩⟩
end
/-- the module's names: constants, built-ins that are not hidden, defs -/
def namesB (gc : List (Str × D)) (xs : List Str) (K : PySem.W.Frag) : Bool :=
  (gc.all fun p => match PySem.W.nsIn K mainGlobals p.1 with
    | some (some u) => relB K p.2 u
    | _ => false) && (bltNames.all fun x => (He.Fa.free x).ok K) && xs.all fun x => (He.Fa.glo x).ok K
def dOf (d : DefX) : He.DefD := ⟨(d.x, none), d.x, d.x, defArgs d.st, defBody d.st, defScope d.st, [], []⟩
def seesO (gc : List (Str × D)) (ds : List DefX) (K : PySem.W.Frag) : He.AlD := (namesB gc (ds.map (·.x)) K && ds.all fun d => (dOf d).ok K, ds.map fun d => He.fnW K (d.x, none))
def seesV (ds : List DefX) : He.AlD := (true, ds.map fun d => (dOf d).val)
def hookO (n : Nat) (gc : List (Str × D)) (ds : List DefX) : PySem.W.Hook where
  α := He.AlD
  obs := fun s => seesO gc ds (He.frG s.heap.get? (He.asD s.heap.get? n))
  val := fun _ => seesV ds
  says := fun _ h => ∃ K : PySem.W.Frag, K.In h ∧ seesO gc ds K = seesV ds
  of := fun _ _ e => ⟨_, He.frG_in, e⟩
  keeps := fun _ _ _ ⟨K, hK, c⟩ k => ⟨K, PySem.W.Frag.In.keeps hK k, c⟩
def obsO (n : Nat) (gc : List (Str × D)) (ds : List DefX) (s : PySem.W.SharedT) : He.AlD := seesO gc ds (He.frG (HandSHeadRun.getT s) (He.asD (HandSHeadRun.getT s) n))
theorem obsO_eq (n : Nat) (gc : List (Str × D)) (ds : List DefX) (s : PySem.W.SharedT) : obsO n gc ds s = (hookO n gc ds).obs s.abs := by
  have e : HandSHeadRun.getT s = s.abs.heap.get? := funext (HandSHeadRun.getT_eq s)
  unfold obsO
  rw [e]
  rfl
section
variable {gc : List (Str × D)} {ds : List DefX} {K : PySem.W.Frag} {h : Heap} {mg : Str → Option Value}
theorem sees_parts (X : K.In h) (G : h.Ns mainGlobals mg) (c : seesO gc ds K = seesV ds) : (∀ x d, gc.lookup x = some d → ∃ u, mg x = some u ∧ GlobD K d u) ∧ (∀ x, x ∈ bltNames → mg x = none) ∧
    ∀ d ∈ ds, ∃ f fd, mg d.x = some (.ref f) ∧ FunD K d.x d.x (defArgs d.st) (defBody d.st) (defScope d.st) [] [] f fd := by
  have c1 : (namesB gc (ds.map (·.x)) K && ds.all fun d => (dOf d).ok K) = true := congrArg (fun z : He.AlD => z.1) c
  have c2 : (ds.map fun d => He.fnW K (d.x, none)) = ds.map fun d => (dOf d).val := congrArg (fun z : He.AlD => z.2) c
  unfold namesB at c1
  simp only [Bool.and_eq_true, List.all_eq_true] at c1
  obtain ⟨⟨⟨h1, h2⟩, h3⟩, h4⟩ := c1
  refine ⟨fun x d e => ?_, fun x hx => He.free_ok X G (h2 x hx), fun d hd => ?_⟩
  · have := h1 (x, d) (PySem.mem_of_lookup e)
    split at this
    · rename_i u eu
      exact ⟨u, PySem.W.mg_of X G eu, relB_ok d u this⟩
    · cases this
  · have e : He.fnW K (d.x, none) = (dOf d).val := by
      obtain ⟨i, hi, ei⟩ := List.mem_iff_getElem.mp hd
      have := congrArg (fun l => l[i]?) c2
      simp only [List.getElem?_map, List.getElem?_eq_getElem hi, ei, Option.map_some] at this
      exact Option.some.inj this
    obtain ⟨fd, F⟩ := He.DefD.funD (d := dOf d) e (h4 d hd)
    exact ⟨_, fd, He.glo_ok X G (h3 d.x (List.mem_map.mpr ⟨d, hd, rfl⟩)), F⟩
end
end OW
end
section
set_option Elab.async false
set_option linter.all false
set_option autoImplicit false
set_option maxRecDepth 100000
set_option maxHeartbeats 8000000
/-! OwV: from the meaning of the law's def to the law's walk. -/
namespace OW
open PySem L2 PyProof.Rows

theorem relInts {κ : Kx} {ρ : List Addr} {H : Hp} : ∀ ns : List Int, RelDs κ ρ H (ns.map D.int) (ns.map V.int)
  | [] => rfl
  | i :: ns => ⟨.int i, ns.map V.int, rfl, rfl, relInts ns⟩
/-- the law's walk from the meaning of its def -/
theorem hc_of {l : PySem.W.OpenLaw} {gc : List (Str × D)} {ds : List DefX} {m n k : Nat} {q : Program} {loose : List Str} {d : DefRec} {dl : DefX} {x : Str}
    (hn : l.most = some m) (hm : m ≤ sizeLine) (hdf : d.params.defaults = []) (hr : Room (k + 1) callerA)
    (hok : (ds.all fun d => defOk gc (fsOf ds) d) = true) (hfit : ∀ d ∈ ds, defFit gc (fsOf ds) d) (hnd : (ds.map (·.x)).Nodup) (hdl : dl ∈ ds) (hx : d.name = dl.x) (hp : parsOf dl.st = [x])
    (main : ∀ ns : List Int, ns.length ≤ m → ∃ S, run (tabOf ds) (k + 1) dl.x [.ro (ns.map D.int)] [] = .ok (.bl true) S) :
    PySem.W.WalkO q loose (PySem.W.XL q []) (hookO n gc ds).says l.row.toRowW d [] (fun f vs => PySem.call f vs) := by
  refine walk_G (k := k + 1) (x := x) hn hm hdf hr fun w mg fa h Y G hmg => ?_
  obtain ⟨K, KX, c⟩ := Y
  obtain ⟨hglob, hblt, hdef⟩ := sees_parts KX G c
  have hok' : ∀ d ∈ ds, defOk gc (fsOf ds) d = true := List.all_eq_true.mp hok
  obtain ⟨f, fd, hmf, F⟩ := hdef dl hdl
  rw [hx, hmf] at hmg
  cases hmg
  have ok := hok' dl hdl
  unfold defOk at ok
  simp only [Bool.and_eq_true, decide_eq_true_eq] at ok
  have hb := binds_of ok.1.1 ok.2 F
  refine ⟨K, fd, spF K (run (tabOf ds) (k + 1)) dl.x 1, KX, fun s u => ?_, fun H a ns hl hS => ?_, fun base _ _ => ?_⟩
  · have := hb s [u] [] (by rw [hp]; rfl)
    rw [hp] at this
    exact this
  · obtain ⟨S, e⟩ := main ns hl
    refine ⟨[], [], [], [.ro (ns.map D.int)], ?_, ?_, rfl, ?_⟩
    · exact ⟨rfl, List.nodup_nil, fun a h => (by cases h), fun n a h => (by simp at h)⟩
    · exact ⟨.ref a, [], rfl, ⟨a, _, rfl, hS, relInts ns⟩, rfl⟩
    · rw [e]
      exact fun ρ' v H' _ _ r => r
  · have := level_fn (P := l.prog) (w := w) (base := base) hok' hfit hglob hblt hnd (n := k) (fun d hd => level hok' hfit hglob hblt hdef hnd k d hd) hdl F
    rw [hp] at this
    exact this
end OW
end
section
set_option Elab.async false
set_option linter.all false
set_option maxRecDepth 100000
set_option maxHeartbeats 4000000
/-! Ev: the meaning, step by step, by equations whose proofs are written out (so that the kernel need not reckon). -/
namespace OW
open PySem
/-- what comes behind is not entered by a rewriting -/
abbrev Boxed {α β : Type} (_ : α → Store → Res β) : Type := Res β
def bnd {α β : Type} (r : Res α) (k : α → Store → Res β) : Boxed k := r.andThen k
theorem nr {α : Sort _} {a b : α} (h : a = b) : a = b := h
theorem bnd_ok {α β : Type} {k : α → Store → Res β} {a : α} {S : Store} : bnd (.ok a S) k = k a S := nr rfl
section
variable {F : Fns} {ε : Sl} {S : Store}
def vGet (o : Option (Option D)) (S : Store) : Res D := match o with
  | some (some d) => .ok d S
  | _ => .bad
theorem vGet_some {d : D} : vGet (some (some d)) S = .ok d S := nr rfl
theorem e_var {i : Nat} : denE F (.var i) ε S = vGet ε[i]? S := by
  rw [denE]; exact nr rfl
theorem e_cst {d : D} : denE F (.cst d) ε S = .ok d S := by rw [denE]
theorem e_app {p : Prim} {args : List T} : denE F (.app p args) ε S = bnd (denA F args ε S) fun ds S1 => primD p ds S1 := by rw [denE]; exact nr rfl
theorem e_call {f : Str} {args : List T} : denE F (.call f args) ε S = bnd (denA F args ε S) fun ds S1 => F f ds S1 := by rw [denE]; exact nr rfl
theorem e_mcall {m : Mt} {o : T} {args : List T} : denE F (.mcall m o args) ε S = bnd (denE F o ε S) fun d S1 => need (kindOk m d S1) (bnd (denA F args ε S1) fun ds S2 => methD m (d :: ds) S2) := by rw [denE]; exact nr rfl
theorem e_and {a b : T} : denE F (.and a b) ε S = bnd (denE F a ε S) fun d S1 => bnd (truD S1 d) fun c S2 => if c = true then denE F b ε S2 else .ok d S2 := by rw [denE]; exact nr rfl
theorem e_or {a b : T} : denE F (.or a b) ε S = bnd (denE F a ε S) fun d S1 => bnd (truD S1 d) fun c S2 => if c = true then .ok d S2 else denE F b ε S2 := by rw [denE]; exact nr rfl
theorem e_not {a : T} : denE F (.not a) ε S = bnd (denE F a ε S) fun d S1 => bnd (truD S1 d) fun c S2 => .ok (.bl (!c)) S2 := by rw [denE]; exact nr rfl
theorem e_ite {c a b : T} : denE F (.ite c a b) ε S = bnd (denE F c ε S) fun d S1 => bnd (truD S1 d) fun k S2 => if k = true then denE F a ε S2 else denE F b ε S2 := by rw [denE]; exact nr rfl
theorem e_chain {p q : CmpOp} {a b c : T} : denE F (.chain p q a b c) ε S = bnd (denE F a ε S) fun x S1 => bnd (denE F b ε S1) fun y S2 => bnd (cmpD p x y S2) fun z S3 => match z with
    | .bl true => bnd (denE F c ε S3) fun w S4 => cmpD q y w S4
    | .bl false => .ok (.bl false) S3
    | _ => .bad := by rw [denE]; exact nr rfl
def compBody (F : Fns) (tg : Tg) (cond : Option T) (elt : T) (ε : Sl) (x : D) (S2 : Store) : Res (Option D) :=
  match storeTg tg x ε with
  | none => .bad
  | some ε2 => (match cond with
    | none => (denE F elt ε2 S2).andThen fun d S3 => .ok (some d) S3
    | some c => (denE F c ε2 S2).andThen fun k S3 => (truD S3 k).andThen fun b S4 => if b = true then (denE F elt ε2 S4).andThen fun d S5 => .ok (some d) S5 else .ok none S4)
theorem e_comp {tg : Tg} {it : Itr} {cond : Option T} {elt : T} {own : List Nat} : denE F (.comp tg it cond elt own) ε S = bnd (denI F it ε S) fun xs S1 => bnd (compGo (compBody F tg cond elt (wipeD ε own)) xs [] S1) fun ys S6 => .ok (.lst ys) S6 := by rw [denE]; exact nr rfl
theorem cb_none {tg : Tg} {elt : T} {x : D} : compBody F tg none elt ε x S = match storeTg tg x ε with
    | none => .bad
    | some ε2 => bnd (denE F elt ε2 S) fun d S3 => .ok (some d) S3 := by
  unfold compBody; exact nr rfl
theorem cb_some {tg : Tg} {c elt : T} {x : D} : compBody F tg (some c) elt ε x S = match storeTg tg x ε with
    | none => .bad
    | some ε2 => bnd (denE F c ε2 S) fun k S3 => bnd (truD S3 k) fun b S4 => if b = true then bnd (denE F elt ε2 S4) fun d S5 => .ok (some d) S5 else .ok none S4 := by
  unfold compBody; exact nr rfl
theorem a_nil : denA F [] ε S = .ok [] S := by rw [denA]
theorem a_cons {t : T} {ts : List T} : denA F (t :: ts) ε S = bnd (denE F t ε S) fun d S1 => bnd (denA F ts ε S1) fun ds S2 => .ok (d :: ds) S2 := by rw [denA]; exact nr rfl
theorem i_seq {t : T} : denI F (.seq t) ε S = bnd (denE F t ε S) fun d S1 => match itemsOf S1 d with
    | some xs => .ok xs S1
    | none => .bad := by rw [denI]; exact nr rfl
def rngR (i j : D) (S : Store) : Res (List D) := match i, j with
  | .int i, .int j => need (bnd62 i && bnd62 j) (.ok (rngD i j) S)
  | _, _ => .bad
theorem rngR_ok {i j : Int} (h : bnd62 i = true) (h2 : bnd62 j = true) : rngR (.int i) (.int j) S = .ok (rngD i j) S := by
  unfold rngR; simp only [h, h2, Bool.and_true, need_true]
theorem i_range1 {t : T} : denI F (.range1 t) ε S = bnd (denE F t ε S) fun d S1 => rngR (.int 0) d S1 := by
  rw [denI]
  unfold bnd
  congr 1
  funext d S1
  cases d <;> rfl
theorem i_range2 {a b : T} : denI F (.range2 a b) ε S = bnd (denE F a ε S) fun d S1 => bnd (denE F b ε S1) fun e S2 => rngR d e S2 := by rw [denI]; exact nr rfl
theorem i_zip {a b : T} : denI F (.zip a b) ε S = bnd (denE F a ε S) fun d S1 => bnd (denE F b ε S1) fun e S2 => match d, e with
    | .tup xs, .tup ys => .ok ((xs.zip ys).map fun p => D.tup [p.1, p.2]) S2
    | _, _ => .bad := by rw [denI]; exact nr rfl
def oNext (o : Option Sl) (S : Store) : Res Fl := match o with
  | some ε => .ok (.next ε) S
  | none => .bad
theorem oNext_some : oNext (some ε) S = .ok (.next ε) S := nr rfl
theorem s_asg {tg : Tg} {e : T} : denS F (.asg tg e) ε S = bnd (denE F e ε S) fun d S1 => oNext (storeTg tg d ε) S1 := by rw [denS]; exact nr rfl
theorem s_par {is : List Nat} {es : List T} : denS F (.par is es) ε S = bnd (denA F es ε S) fun ds S1 => oNext (setAll ε is ds) S1 := by rw [denS]; exact nr rfl
theorem s_sub {o i e : T} : denS F (.sub o i e) ε S = bnd (denE F e ε S) fun v S1 => bnd (denE F o ε S1) fun a S2 => bnd (denE F i ε S2) fun k S3 => bnd (subD a k v S3) fun _ S4 => .ok (.next ε) S4 := by rw [denS]; exact nr rfl
theorem s_subs {ois : List (T × T)} {e : T} : denS F (.subs ois e) ε S = bnd (denE F e ε S) fun v S1 => match v with
    | .tup ds => bnd (subAll F ois ds ε S1) fun _ S2 => .ok (.next ε) S2
    | _ => .bad := by rw [denS]; exact nr rfl
theorem s_expr {e : T} : denS F (.expr e) ε S = bnd (denE F e ε S) fun _ S1 => .ok (.next ε) S1 := by rw [denS]; exact nr rfl
theorem s_ret {e : T} : denS F (.ret e) ε S = bnd (denE F e ε S) fun d S1 => .ok (.ret d) S1 := by rw [denS]; exact nr rfl
theorem s_pass : denS F .pass ε S = .ok (.next ε) S := by rw [denS]
theorem s_ifs {c : T} {a b : List Sx} : denS F (.ifs c a b) ε S = bnd (denE F c ε S) fun d S1 => bnd (truD S1 d) fun k S2 => if k = true then denB F a ε S2 else denB F b ε S2 := by rw [denS]; exact nr rfl
def forBody (F : Fns) (tg : Tg) (body : List Sx) (x : D) (ε1 : Sl) (S2 : Store) : Res Fl := match storeTg tg x ε1 with
  | none => .bad
  | some ε2 => denB F body ε2 S2
theorem fb_some {tg : Tg} {body : List Sx} {x : D} : forBody F tg body x ε S = match storeTg tg x ε with
    | none => .bad
    | some ε2 => denB F body ε2 S := by
  unfold forBody; exact nr rfl
theorem s_for {tg : Tg} {it : Itr} {body : List Sx} : denS F (.for_ tg it body) ε S = bnd (denI F it ε S) fun xs S1 => forGo (forBody F tg body) xs ε S1 := by rw [denS]; exact nr rfl
theorem b_nil : denB F [] ε S = .ok (.next ε) S := by rw [denB]
theorem b_cons {s : Sx} {r : List Sx} : denB F (s :: r) ε S = bnd (denS F s ε S) fun f S1 => match f with
    | .next ε1 => denB F r ε1 S1
    | .ret d => .ok (.ret d) S1 := by rw [denB]; exact nr rfl
theorem for_nil {body : D → Sl → Store → Res Fl} : forGo body [] ε S = .ok (.next ε) S := by rw [forGo]
theorem for_cons {body : D → Sl → Store → Res Fl} {x : D} {xs : List D} : forGo body (x :: xs) ε S = bnd (body x ε S) fun f S1 => match f with
    | .next ε1 => forGo body xs ε1 S1
    | .ret d => .ok (.ret d) S1 := by rw [forGo]; exact nr rfl
theorem sa_nil : subAll F [] [] ε S = .ok () S := by rw [subAll]
theorem sa_cons {o i : T} {r : List (T × T)} {d : D} {ds : List D} : subAll F ((o, i) :: r) (d :: ds) ε S = bnd (denE F o ε S) fun a S1 => bnd (denE F i ε S1) fun k S2 => bnd (subD a k d S2) fun _ S3 => subAll F r ds ε S3 := by rw [subAll]; exact nr rfl
theorem call_eq {ps ns : Nat} {body : List Sx} {ds : List D} (h : ds.length = ps) : callD F ⟨ps, ns, body⟩ ds S = bnd (denB F body (startD ns ds) S) fun f S1 => match f with
    | .next _ => .ok .non S1
    | .ret d => .ok d S1 := by
  unfold callD
  rw [decide_eq_true h]; exact nr rfl
theorem run_eq {Φ : Tab} {n : Nat} {f : Str} {fd : Fd} {ds : List D} (h : Φ f = some fd) : run Φ (n + 1) f ds S = callD (run Φ n) fd ds S := by
  show (match Φ f with
    | some fd => callD (run Φ n) fd ds S
    | none => .bad) = _
  rw [h]
end
section
variable {F : Fns} {ε : Sl} {S : Store} {n : Nat}
variable {i j : Int} {x y : Str} {xs ys : List D} {a b d : D}
theorem p_bin {op : Operator} : primD (.bin op) [a, b] S = binD op a b S := nr rfl
theorem p_cmp {op : CmpOp} : primD (.cmp op) [a, b] S = cmpD op a b S := nr rfl
theorem p_item : primD .item [a, b] S = itemD a b S := nr rfl
theorem p_fn {f : Fn1} : primD (.fn f) [a] S = fnD f a S := nr rfl
theorem p_tup : primD .tup xs S = need (decide (xs.length ≤ sizeLine)) (.ok (.tup xs) S) := nr rfl
theorem p_lst : primD .lst xs S = need (decide (xs.length ≤ sizeLine)) (.ok (.lst xs) S) := nr rfl
theorem p_lstM : primD .lstM xs S = need (decide (xs.length ≤ sizeLine)) (.ok (.loc S.length) (S ++ [.lst xs])) := nr rfl
theorem p_inst {ts : List Ty} : primD (.isinst ts) [d] S = .ok (.bl (ts.any (isT (tyOf S d)))) S := nr rfl
theorem p_neg : primD .neg [.int i] S = .ok (.int (-i)) S := nr rfl
theorem b_addI : binD .Add (.int i) (.int j) S = .ok (.int (i + j)) S := nr rfl
theorem b_addS : binD .Add (.str x) (.str y) S = need (decide (x.length + y.length ≤ sizeLine)) (.ok (.str (x ++ y)) S) := nr rfl
theorem b_addT : binD .Add (.tup xs) (.tup ys) S = need (decide (xs.length + ys.length ≤ sizeLine)) (.ok (.tup (xs ++ ys)) S) := nr rfl
theorem b_addL : binD .Add (.lst xs) (.lst ys) S = need (decide (xs.length + ys.length ≤ sizeLine)) (.ok (.lst (xs ++ ys)) S) := nr rfl
theorem b_sub : binD .Sub (.int i) (.int j) S = .ok (.int (i - j)) S := nr rfl
theorem b_mulI : binD .Mult (.int i) (.int j) S = need (decide (-(2 ^ 64) < i ∧ i < 2 ^ 64) || decide (-(2 ^ 64) < j ∧ j < 2 ^ 64)) (.ok (.int (i * j)) S) := nr rfl
theorem b_div : binD .FloorDiv (.int i) (.int j) S = need (decide (0 < j ∧ j < 1073741824)) (.ok (.int (i / j)) S) := nr rfl
theorem b_mod : binD .Mod (.int i) (.int j) S = need (decide (0 < j)) (.ok (.int (i % j)) S) := nr rfl
theorem b_pow : binD .Pow (.int i) (.int j) S = need (decide (0 ≤ j ∧ j ≤ 1000 ∧ i.natAbs < 2 ^ 64)) (.ok (.int (i ^ j.toNat)) S) := nr rfl
theorem c_lt : cmpD .Lt (.int i) (.int j) S = .ok (.bl (decide (i < j))) S := nr rfl
theorem c_gt : cmpD .Gt (.int i) (.int j) S = .ok (.bl (decide (j < i))) S := nr rfl
theorem c_le : cmpD .LtE (.int i) (.int j) S = .ok (.bl (decide (i ≤ j))) S := nr rfl
theorem c_ge : cmpD .GtE (.int i) (.int j) S = .ok (.bl (decide (j ≤ i))) S := nr rfl
theorem c_eqI : cmpD .Eq (.int i) (.int j) S = .ok (.bl (i == j)) S := nr rfl
theorem f_intI : fnD .int (.int i) S = .ok (.int i) S := nr rfl
theorem f_intB {b : Bool} : fnD .int (.bl b) S = .ok (.int (if b then 1 else 0)) S := nr rfl
theorem f_lenT : fnD .len (.tup xs) S = .ok (.int xs.length) S := nr rfl
theorem f_lenL : fnD .len (.lst xs) S = .ok (.int xs.length) S := nr rfl
theorem f_lenS : fnD .len (.str x) S = need (decide (x.length ≤ sizeLine)) (.ok (.int x.length) S) := nr rfl
theorem i_tup : itemD (.tup xs) (.int i) S = oRes (L2.atI xs i) S := nr rfl
theorem i_lst : itemD (.lst xs) (.int i) S = oRes (L2.atI xs i) S := nr rfl
theorem o_some : oRes (some d) S = .ok d S := nr rfl
theorem t_bl {b : Bool} : truD S (.bl b) = .ok b S := nr rfl
theorem t_non : truD S .non = .ok false S := nr rfl
theorem i_dctS {kvs : List (L2.Key × D)} (h : S[n]? = some (.dct kvs)) : itemD (.loc n) (.str x) S = oRes (lookK (.inr x) kvs) S := by
  show (match S[n]?, D.str x with
    | some (.lst xs), .int i => oRes (L2.atI xs i) S
    | some (.dct kvs), b => match keyD b with
      | some k => oRes (lookK k kvs) S
      | none => .bad
    | _, _ => .bad) = _
  rw [h]; rfl
theorem s_dctS {kvs : List (L2.Key × D)} (h : S[n]? = some (.dct kvs)) : subD (.loc n) (.str x) d S = need (decide (kvs.length < 1000)) (.ok () (S.set n (.dct (putK (.inr x) d kvs)))) := by
  unfold subD
  simp only [h, keyD]
end
theorem need_dec {α : Type} {c : Prop} [Decidable c] {r : Res α} (h : c) : need (decide c) r = r := by rw [decide_eq_true h]; rfl
theorem sizeE : sizeLine = 16777216 := nr rfl
theorem st_nm {i : Nat} {d : D} {ε : Sl} : storeTg (.nm i) d ε = some (ε.set i (some d)) := nr rfl
theorem st_tu2 {i j : Nat} {a b : D} {ε : Sl} : storeTg (.tu [.nm i, .nm j]) (.tup [a, b]) ε = some ((ε.set i (some a)).set j (some b)) := nr rfl
theorem set_nil {ε : Sl} : setAll ε [] [] = some ε := nr rfl
theorem set_cons {ε : Sl} {i : Nat} {is : List Nat} {d : D} {ds : List D} : setAll ε (i :: is) (d :: ds) = setAll (ε.set i (some d)) is ds := nr rfl
theorem it_tup {S : Store} {xs : List D} : itemsOf S (.tup xs) = some xs := nr rfl
theorem it_lst {S : Store} {xs : List D} : itemsOf S (.lst xs) = some xs := nr rfl
theorem it_str {S : Store} {x : Str} : itemsOf S (.str x) = some (signsD x) := nr rfl
theorem wipe_nil {ε : Sl} : wipeD ε [] = ε := nr rfl
theorem wipe_cons {ε : Sl} {v : Nat} {vs : List Nat} : wipeD ε (v :: vs) = (wipeD ε vs).set v none := nr rfl
end OW
end
section
set_option Elab.async false
set_option linter.all false
set_option autoImplicit false
set_option maxRecDepth 100000
set_option maxHeartbeats 8000000
/-! the defs of oncewrong_k01_kinds_told as terms (written by genfd.py) -/
namespace K01
open PySem OW
def top (i : Nat) : Stmt := PySem.Challenge.pw_oncewrong_k01_kinds_told.main.body.getD i (.Pass ⟨0, 0, 0, 0⟩)
def gc : List (Str × D) := [("LETTERS", .str "abcdefghijklmnopqrstuvwxyz"), ("MOST_LETTERS", .int (8)), ("FACT_WORDS", .tup [(.str "say"), (.str "look"), (.str "use")]), ("MOVE_WORDS", .tup [(.str "take"), (.str "swap")])]
def fd_is_integer : Fd := ⟨1, 1, [
  .ret (.and (.app (.isinst [.int]) [(.var 0)]) (.not (.app (.isinst [.bool]) [(.var 0)])))]⟩
def fd_is_number : Fd := ⟨1, 1, [
  .ret (.and (.call "is_integer" [(.var 0)]) (.app (.cmp .GtE) [(.var 0), (.cst (.int (0)))]))]⟩
def fd_is_name : Fd := ⟨1, 2, [
  .ifs (.or (.not (.app (.isinst [.str]) [(.var 0)])) (.not (.chain .LtE .LtE (.cst (.int (1))) (.app (.fn .len) [(.var 0)]) (.cst (.int (8)))))) [
    .ret (.cst (.bl false))] [],
  .ret (.app (.fn .all) [(.comp (.nm 1) (.seq (.var 0)) none (.app (.cmp .In) [(.var 1), (.cst (.str "abcdefghijklmnopqrstuvwxyz"))]) [1])])]⟩
def fd_is_pair : Fd := ⟨1, 1, [
  .ret (.and (.app (.isinst [.tuple]) [(.var 0)]) (.app (.cmp .Eq) [(.app (.fn .len) [(.var 0)]), (.cst (.int (2)))]))]⟩
def fd_is_rising : Fd := ⟨1, 3, [
  .ret (.app (.fn .all) [(.comp (.tu [(.nm 1), (.nm 2)]) (.zip (.var 0) (.app (.slice true false) [(.var 0), (.cst (.int (1)))])) none (.app (.cmp .Lt) [(.var 1), (.var 2)]) [1, 2])])]⟩
def fd_is_fact : Fd := ⟨1, 3, [
  .ifs (.or (.not (.call "is_pair" [(.var 0)])) (.or (.not (.call "is_name" [(.app .item [(.var 0), (.cst (.int (0)))])])) (.not (.app (.isinst [.tuple]) [(.app .item [(.var 0), (.cst (.int (1)))])])))) [
    .ret (.cst (.bl false))] [],
  .asg (.nm 1) (.app .item [(.var 0), (.cst (.int (1)))]),
  .ret (.and (.app (.cmp .In) [(.app (.fn .len) [(.var 1)]), (.app .tup [(.cst (.int (1))), (.cst (.int (2)))])]) (.and (.app (.fn .all) [(.comp (.nm 2) (.seq (.var 1)) none (.call "is_name" [(.var 2)]) [2])]) (.call "is_rising" [(.var 1)])))]⟩
def fd_is_worldly : Fd := ⟨1, 3, [
  .ifs (.or (.not (.call "is_pair" [(.var 0)])) (.or (.not (.call "is_name" [(.app .item [(.var 0), (.cst (.int (0)))])])) (.not (.app (.isinst [.tuple]) [(.app .item [(.var 0), (.cst (.int (1)))])])))) [
    .ret (.cst (.bl false))] [],
  .asg (.nm 1) (.app .item [(.var 0), (.cst (.int (1)))]),
  .ret (.and (.app (.cmp .In) [(.app (.fn .len) [(.var 1)]), (.app .tup [(.cst (.int (1))), (.cst (.int (2)))])]) (.and (.app (.fn .all) [(.comp (.nm 2) (.seq (.var 1)) none (.call "is_number" [(.var 2)]) [2])]) (.call "is_rising" [(.var 1)])))]⟩
def fd_is_row : Fd := ⟨1, 3, [
  .ifs (.or (.not (.app (.isinst [.tuple]) [(.var 0)])) (.or (.app (.cmp .Eq) [(.app (.fn .len) [(.var 0)]), (.cst (.int (0)))]) (.not (.app (.isinst [.str]) [(.app .item [(.var 0), (.cst (.int (0)))])])))) [
    .ret (.cst (.bl false))] [],
  .par [1, 2] [(.app .item [(.var 0), (.cst (.int (0)))]), (.app (.slice true false) [(.var 0), (.cst (.int (1)))])],
  .ifs (.app (.cmp .In) [(.var 1), (.cst (.tup [(.str "say"), (.str "look"), (.str "use")]))]) [
    .ret (.call "is_fact" [(.var 2)])] [],
  .ifs (.app (.cmp .In) [(.var 1), (.cst (.tup [(.str "take"), (.str "swap")]))]) [
    .ret (.and (.app (.cmp .Eq) [(.app (.fn .len) [(.var 2)]), (.cst (.int (2)))]) (.and (.call "is_name" [(.app .item [(.var 2), (.cst (.int (0)))])]) (.and (.call "is_name" [(.app .item [(.var 2), (.cst (.int (1)))])]) (.app (.cmp .NotEq) [(.app .item [(.var 2), (.cst (.int (0)))]), (.app .item [(.var 2), (.cst (.int (1)))])]))))] [],
  .ifs (.app (.cmp .In) [(.var 1), (.app .tup [(.cst (.str "get")), (.cst (.str "tell"))])]) [
    .ret (.and (.app (.cmp .Eq) [(.app (.fn .len) [(.var 2)]), (.cst (.int (1)))]) (.call "is_name" [(.app .item [(.var 2), (.cst (.int (0)))])]))] [],
  .ret (.and (.app (.cmp .In) [(.var 1), (.app .tup [(.cst (.str "never")), (.cst (.str "pass"))])]) (.app (.cmp .Eq) [(.app (.fn .len) [(.var 2)]), (.cst (.int (0)))]))]⟩
def fd_is_numbers : Fd := ⟨1, 1, [
  .ret (.and (.call "is_choices" [(.var 0)]) (.call "is_rising" [(.var 0)]))]⟩
def fd_is_lacking : Fd := ⟨1, 2, [
  .ret (.and (.app (.isinst [.tuple]) [(.var 0)]) (.and (.app (.fn .all) [(.comp (.nm 1) (.seq (.var 0)) none (.call "is_worldly" [(.var 1)]) [1])]) (.call "is_rising" [(.var 0)])))]⟩
def fd_is_choices : Fd := ⟨1, 2, [
  .ret (.and (.app (.isinst [.tuple]) [(.var 0)]) (.app (.fn .all) [(.comp (.nm 1) (.seq (.var 0)) none (.call "is_number" [(.var 1)]) [1])]))]⟩
def fd_is_way : Fd := ⟨1, 1, [
  .ret (.and (.call "is_pair" [(.var 0)]) (.and (.call "is_number" [(.app .item [(.var 0), (.cst (.int (0)))])]) (.call "is_number" [(.app .item [(.var 0), (.cst (.int (1)))])])))]⟩
def fd_is_form : Fd := ⟨1, 2, [
  .ifs (.or (.not (.call "is_pair" [(.var 0)])) (.or (.not (.call "is_numbers" [(.app .item [(.var 0), (.cst (.int (0)))])])) (.not (.app (.isinst [.tuple]) [(.app .item [(.var 0), (.cst (.int (1)))])])))) [
    .ret (.cst (.bl false))] [],
  .ret (.and (.app (.fn .all) [(.comp (.nm 1) (.seq (.app .item [(.var 0), (.cst (.int (1)))])) none (.call "is_way" [(.var 1)]) [1])]) (.call "is_rising" [(.app .item [(.var 0), (.cst (.int (1)))])]))]⟩
def fd__law_feed : Fd := ⟨1, 1, [
  .ret (.app (.dct [.inr "cells", .inr "turn", .inr "rest", .inr "drawn"]) [(.app (.fn .list) [(.app (.slice false true) [(.var 0), (.cst (.int (63)))])]), (.cst (.int (0))), (.cst (.int (0))), (.cst (.int (0)))])]⟩
def fd__law_draw : Fd := ⟨2, 7, [
  .sub (.var 0) (.cst (.str "drawn")) (.app (.bin .Add) [(.app .item [(.var 0), (.cst (.str "drawn"))]), (.cst (.int (1)))]),
  .ifs (.app (.cmp .Gt) [(.app .item [(.var 0), (.cst (.str "rest"))]), (.cst (.int (0)))]) [
    .asg (.nm 2) (.app (.bin .Mod) [(.app (.fn .int) [(.app .item [(.var 0), (.cst (.str "rest"))])]), (.var 1)]),
    .sub (.var 0) (.cst (.str "rest")) (.app (.bin .FloorDiv) [(.app .item [(.var 0), (.cst (.str "rest"))]), (.var 1)]),
    .ret (.var 2)] [],
  .par [3, 4] [(.app .item [(.var 0), (.cst (.str "turn"))]), (.app .item [(.var 0), (.cst (.str "cells"))])],
  .sub (.var 0) (.cst (.str "turn")) (.app (.bin .Add) [(.var 3), (.cst (.int (1)))]),
  .asg (.nm 5) (.ite (.app (.cmp .NotEq) [(.var 4), (.app .lst [])]) (.app .item [(.var 4), (.app (.bin .Mod) [(.app (.fn .int) [(.var 3)]), (.app (.fn .len) [(.var 4)])])]) (.cst (.int (6101)))),
  .ifs (.and (.app (.cmp .Lt) [(.var 3), (.app (.fn .len) [(.var 4)])]) (.app (.cmp .GtE) [(.var 5), (.app (.bin .Pow) [(.cst (.int (10))), (.cst (.int (18)))])])) [
    .sub (.var 0) (.cst (.str "rest")) (.app (.bin .FloorDiv) [(.var 5), (.var 1)]),
    .ret (.app (.bin .Mod) [(.app (.fn .int) [(.var 5)]), (.var 1)])] [],
  .asg (.nm 6) (.app (.bin .Mod) [(.app (.fn .int) [(.app (.bin .Add) [(.app (.bin .Add) [(.app (.bin .Mod) [(.app (.fn .int) [(.var 5)]), (.cst (.int (2147483629)))]), (.app (.bin .Mult) [(.cst (.int (7300019))), (.app .item [(.var 0), (.cst (.str "drawn"))])])]), (.cst (.int (31)))])]), (.cst (.int (2147483587)))]),
  .asg (.nm 6) (.app (.bin .Mod) [(.app (.fn .int) [(.app (.bin .Add) [(.app (.bin .Add) [(.app (.bin .Mult) [(.var 6), (.var 6)]), (.app (.bin .Mult) [(.cst (.int (20101003))), (.app .item [(.var 0), (.cst (.str "drawn"))])])]), (.cst (.int (41)))])]), (.cst (.int (2147483579)))]),
  .ret (.app (.bin .Mod) [(.app (.fn .int) [(.app (.bin .FloorDiv) [(.app (.bin .Mod) [(.app (.fn .int) [(.app (.bin .Add) [(.app (.bin .Mult) [(.var 6), (.var 6)]), (.app (.bin .Mult) [(.cst (.int (211))), (.var 6)])])]), (.cst (.int (2147483549)))]), (.cst (.int (16)))])]), (.var 1)])]⟩
def fd__law_any : Fd := ⟨2, 2, [
  .ret (.app .item [(.var 1), (.call "_law_draw" [(.var 0), (.app (.fn .len) [(.var 1)])])])]⟩
def fd__law_is_name : Fd := ⟨1, 2, [
  .ifs (.or (.not (.app (.isinst [.str]) [(.var 0)])) (.not (.chain .Lt .Lt (.cst (.int (0))) (.app (.fn .len) [(.var 0)]) (.cst (.int (9)))))) [
    .ret (.cst (.bl false))] [],
  .ret (.app (.cmp .Eq) [(.comp (.nm 1) (.seq (.var 0)) (some (.app (.cmp .NotIn) [(.var 1), (.cst (.str "abcdefghijklmnopqrstuvwxyz"))])) (.var 1) [1]), (.app .lst [])])]⟩
def fd__law_is_number : Fd := ⟨1, 1, [
  .ret (.and (.app (.isinst [.int]) [(.var 0)]) (.and (.not (.app (.isinst [.bool]) [(.var 0)])) (.app (.cmp .GtE) [(.var 0), (.cst (.int (0)))])))]⟩
def fd__law_rises : Fd := ⟨1, 2, [
  .ret (.app (.cmp .Eq) [(.comp (.nm 1) (.range2 (.cst (.int (1))) (.app (.fn .len) [(.var 0)])) (some (.not (.app (.cmp .Lt) [(.app .item [(.var 0), (.app (.bin .Sub) [(.var 1), (.cst (.int (1)))])]), (.app .item [(.var 0), (.var 1)])]))) (.var 1) [1]), (.app .lst [])])]⟩
def fd__law_is_fact : Fd := ⟨2, 3, [
  .ifs (.or (.not (.app (.isinst [.tuple]) [(.var 0)])) (.or (.app (.cmp .NotEq) [(.app (.fn .len) [(.var 0)]), (.cst (.int (2)))]) (.not (.call "_law_is_name" [(.app .item [(.var 0), (.cst (.int (0)))])])))) [
    .ret (.cst (.bl false))] [],
  .ifs (.or (.not (.app (.isinst [.tuple]) [(.app .item [(.var 0), (.cst (.int (1)))])])) (.not (.chain .Lt .Lt (.cst (.int (0))) (.app (.fn .len) [(.app .item [(.var 0), (.cst (.int (1)))])]) (.cst (.int (3)))))) [
    .ret (.cst (.bl false))] [],
  .ifs (.app (.cmp .NotEq) [(.comp (.nm 2) (.seq (.app .item [(.var 0), (.cst (.int (1)))])) (some (.not (.ite (.var 1) (.call "_law_is_name" [(.var 2)]) (.call "_law_is_number" [(.var 2)])))) (.var 2) [2]), (.app .lst [])]) [
    .ret (.cst (.bl false))] [],
  .ret (.call "_law_rises" [(.app .item [(.var 0), (.cst (.int (1)))])])]⟩
def fd__law_sizes : Fd := ⟨0, 1, [
  .asg (.nm 0) (.app (.dct [.inr "get", .inr "take", .inr "swap", .inr "say", .inr "look", .inr "use"]) [(.cst (.int (2))), (.cst (.int (3))), (.cst (.int (3))), (.cst (.int (3))), (.cst (.int (3))), (.cst (.int (3)))]),
  .subs [((.var 0), (.cst (.str "tell"))), ((.var 0), (.cst (.str "never"))), ((.var 0), (.cst (.str "pass")))] (.app .tup [(.cst (.int (2))), (.cst (.int (1))), (.cst (.int (1)))]),
  .ret (.var 0)]⟩
def fd__law_is_row : Fd := ⟨1, 2, [
  .ifs (.or (.not (.app (.isinst [.tuple]) [(.var 0)])) (.or (.app (.cmp .Eq) [(.var 0), (.app .tup [])]) (.not (.app (.isinst [.str]) [(.app .item [(.var 0), (.cst (.int (0)))])])))) [
    .ret (.cst (.bl false))] [],
  .ifs (.app (.cmp .NotEq) [(.mcall .get (.call "_law_sizes" []) [(.app .item [(.var 0), (.cst (.int (0)))]), (.cst (.int (0)))]), (.app (.fn .len) [(.var 0)])]) [
    .ret (.cst (.bl false))] [],
  .ifs (.app (.cmp .In) [(.app .item [(.var 0), (.cst (.int (0)))]), (.app .tup [(.cst (.str "say")), (.cst (.str "look")), (.cst (.str "use"))])]) [
    .ret (.call "_law_is_fact" [(.app (.slice true false) [(.var 0), (.cst (.int (1)))]), (.cst (.bl true))])] [],
  .ifs (.app (.cmp .NotEq) [(.comp (.nm 1) (.seq (.app (.slice true false) [(.var 0), (.cst (.int (1)))])) (some (.not (.call "_law_is_name" [(.var 1)]))) (.var 1) [1]), (.app .lst [])]) [
    .ret (.cst (.bl false))] [],
  .ret (.or (.app (.cmp .Lt) [(.app (.fn .len) [(.var 0)]), (.cst (.int (3)))]) (.app (.cmp .NotEq) [(.app .item [(.var 0), (.cst (.int (1)))]), (.app .item [(.var 0), (.cst (.int (2)))])]))]⟩
def fd__law_is_set : Fd := ⟨2, 3, [
  .ifs (.or (.not (.app (.isinst [.tuple]) [(.var 0)])) (.app (.cmp .NotEq) [(.comp (.nm 2) (.seq (.var 0)) (some (.not (.call "_law_is_number" [(.var 2)]))) (.var 2) [2]), (.app .lst [])])) [
    .ret (.cst (.bl false))] [],
  .ret (.and (.call "_law_rises" [(.var 0)]) (.or (.app (.cmp .Is) [(.var 1), (.cst .non)]) (.or (.app (.cmp .Eq) [(.var 0), (.app .tup [])]) (.app (.cmp .Lt) [(.app .item [(.var 0), (.app .neg [(.cst (.int (1)))])]), (.var 1)]))))]⟩
def fd__law_is_lacking : Fd := ⟨1, 2, [
  .ifs (.or (.not (.app (.isinst [.tuple]) [(.var 0)])) (.app (.cmp .NotEq) [(.comp (.nm 1) (.seq (.var 0)) (some (.not (.call "_law_is_fact" [(.var 1), (.cst (.bl false))]))) (.var 1) [1]), (.app .lst [])])) [
    .ret (.cst (.bl false))] [],
  .ret (.call "_law_rises" [(.var 0)])]⟩
def fd__law_is_way : Fd := ⟨1, 1, [
  .ret (.and (.app (.isinst [.tuple]) [(.var 0)]) (.and (.app (.cmp .Eq) [(.app (.fn .len) [(.var 0)]), (.cst (.int (2)))]) (.and (.call "_law_is_number" [(.app .item [(.var 0), (.cst (.int (0)))])]) (.call "_law_is_number" [(.app .item [(.var 0), (.cst (.int (1)))])]))))]⟩
def fd__law_is_form : Fd := ⟨1, 2, [
  .ifs (.or (.not (.app (.isinst [.tuple]) [(.var 0)])) (.or (.app (.cmp .NotEq) [(.app (.fn .len) [(.var 0)]), (.cst (.int (2)))]) (.not (.call "_law_is_set" [(.app .item [(.var 0), (.cst (.int (0)))]), (.cst .non)])))) [
    .ret (.cst (.bl false))] [],
  .ifs (.or (.not (.app (.isinst [.tuple]) [(.app .item [(.var 0), (.cst (.int (1)))])])) (.app (.cmp .NotEq) [(.comp (.nm 1) (.seq (.app .item [(.var 0), (.cst (.int (1)))])) (some (.not (.call "_law_is_way" [(.var 1)]))) (.var 1) [1]), (.app .lst [])])) [
    .ret (.cst (.bl false))] [],
  .ret (.call "_law_rises" [(.app .item [(.var 0), (.cst (.int (1)))])])]⟩
def fd__law_names : Fd := ⟨1, 10, [
  .par [1, 2] [(.app (.bin .Add) [(.cst (.int (1))), (.call "_law_draw" [(.var 0), (.cst (.int (4)))])]), (.app .lstM [])],
  .asg (.nm 3) (.app .lst [(.app .tup [(.cst (.str "p")), (.cst (.str "q")), (.cst (.str "x")), (.cst (.str "y"))]), (.app .tup [(.cst (.str "b")), (.cst (.str "a")), (.cst (.str "ab")), (.cst (.str "c"))]), (.app .tup [(.cst (.str "zzzzzzzz")), (.cst (.str "m")), (.cst (.str "mm")), (.cst (.str "k"))])]),
  .asg (.nm 3) (.app (.bin .Add) [(.var 3), (.app .lst [(.app .tup [(.cst (.str "look")), (.cst (.str "say")), (.cst (.str "get")), (.cst (.str "names"))]), (.app .tup [(.cst (.str "never")), (.cst (.str "tell")), (.cst (.str "done")), (.cst (.str "a"))])])]),
  .ifs (.app (.cmp .Gt) [(.call "_law_draw" [(.var 0), (.cst (.int (3)))]), (.cst (.int (0)))]) [
    .asg (.tu [(.nm 4), (.nm 5)]) (.app .tup [(.call "_law_any" [(.var 0), (.var 3)]), (.call "_law_draw" [(.var 0), (.cst (.int (4)))])]),
    .ret (.app (.fn .sorted) [(.comp (.nm 6) (.range1 (.var 1)) none (.app .item [(.var 4), (.app (.bin .Mod) [(.app (.fn .int) [(.app (.bin .Add) [(.var 5), (.var 6)])]), (.cst (.int (4)))])]) [6])])] [],
  .for_ (.nm 6) (.range1 (.var 1)) [
    .asg (.nm 7) (.app (.bin .Add) [(.cst (.int (1))), (.call "_law_draw" [(.var 0), (.cst (.int (8)))])]),
    .asg (.nm 8) (.mcall .join (.cst (.str "")) [(.comp (.nm 9) (.range1 (.var 7)) none (.call "_law_any" [(.var 0), (.cst (.str "abcdefghijklmnopqrstuvwxyz"))]) [9])]),
    .ifs (.app (.cmp .NotIn) [(.var 8), (.var 2)]) [
      .expr (.mcall .append (.var 2) [(.var 8)])] []],
  .ret (.app (.fn .sorted) [(.var 2)])]⟩
def fd__law_line : Fd := ⟨3, 7, [
  .par [3, 4] [(.call "_law_draw" [(.var 0), (.cst (.int (10)))]), (.call "_law_any" [(.var 0), (.var 1)])],
  .asg (.nm 5) (.call "_law_any" [(.var 0), (.var 1)]),
  .ifs (.or (.app (.cmp .Eq) [(.var 3), (.cst (.int (0)))]) (.and (.app (.cmp .Lt) [(.var 3), (.cst (.int (3)))]) (.app (.cmp .Eq) [(.var 4), (.var 5)]))) [
    .ret (.app .tup [(.cst (.str "get")), (.var 5)])] [],
  .ifs (.app (.cmp .Lt) [(.var 3), (.cst (.int (3)))]) [
    .ret (.app .tup [(.ite (.app (.cmp .Eq) [(.var 3), (.cst (.int (1)))]) (.cst (.str "take")) (.cst (.str "swap"))), (.var 4), (.var 5)])] [],
  .ifs (.app (.cmp .Lt) [(.var 3), (.cst (.int (7)))]) [
    .asg (.nm 6) (.ite (.app (.cmp .Eq) [(.call "_law_draw" [(.var 0), (.cst (.int (2)))]), (.cst (.int (0)))]) (.app (.fn .tuple) [(.app .sortedSet [(.app .lst [(.var 4), (.var 5)])])]) (.app .tup [(.var 4)])),
    .ret (.app .tup [(.app .item [(.app .lst [(.cst (.str "say")), (.cst (.str "say")), (.cst (.str "look")), (.cst (.str "use"))]), (.app (.bin .Sub) [(.var 3), (.cst (.int (3)))])]), (.call "_law_any" [(.var 0), (.var 2)]), (.var 6)])] [],
  .ifs (.app (.cmp .Eq) [(.var 3), (.cst (.int (7)))]) [
    .ret (.app .tup [(.cst (.str "tell")), (.call "_law_any" [(.var 0), (.app .lst [(.cst (.str "done")), (.cst (.str "odd")), (.cst (.str "names")), (.cst (.str "say")), (.var 4)])])])] [],
  .ret (.ite (.app (.cmp .Eq) [(.var 3), (.cst (.int (8)))]) (.app .tup [(.cst (.str "never"))]) (.app .tup [(.cst (.str "pass"))]))]⟩
def fd__law_sorts : Fd := ⟨1, 2, [
  .asg (.nm 1) (.app .lst [(.app .tup [(.cst (.str "full")), (.cst (.str "apart")), (.cst (.str "low"))]), (.app .tup [(.cst (.str "say")), (.cst (.str "use")), (.cst (.str "full"))]), (.app .tup [(.cst (.str "k")), (.cst (.str "kk")), (.cst (.str "kkkkkkkk"))]), (.app .tup [(.cst (.str "names")), (.cst (.str "b")), (.cst (.str "p"))])]),
  .ret (.call "_law_any" [(.var 0), (.var 1)])]⟩
def fd__law_worldly : Fd := ⟨2, 5, [
  .par [2, 3] [(.call "_law_draw" [(.var 0), (.cst (.int (4)))]), (.call "_law_draw" [(.var 0), (.cst (.int (5)))])],
  .ifs (.app (.cmp .Eq) [(.call "_law_draw" [(.var 0), (.cst (.int (9)))]), (.cst (.int (0)))]) [
    .asg (.nm 3) (.app (.fn .int) [(.app (.bin .Add) [(.cst (.str "1")), (.app (.bin .Mult) [(.cst (.str "0")), (.app (.bin .Add) [(.cst (.int (1))), (.call "_law_draw" [(.var 0), (.cst (.int (59)))])])])])])] [],
  .asg (.nm 4) (.ite (.or (.app (.cmp .Eq) [(.var 2), (.var 3)]) (.app (.cmp .Eq) [(.call "_law_draw" [(.var 0), (.cst (.int (2)))]), (.cst (.int (0)))])) (.app .tup [(.var 2)]) (.app (.fn .tuple) [(.app (.fn .sorted) [(.app .lst [(.var 2), (.var 3)])])])),
  .ret (.app .tup [(.call "_law_any" [(.var 0), (.var 1)]), (.var 4)])]⟩
def fd__law_shape : Fd := ⟨2, 5, [
  .asg (.nm 2) (.comp (.nm 3) (.range1 (.call "_law_draw" [(.var 0), (.cst (.int (4)))])) none (.call "_law_draw" [(.var 0), (.var 1)]) [3]),
  .asg (.nm 4) (.comp (.nm 3) (.range1 (.call "_law_draw" [(.var 0), (.cst (.int (4)))])) none (.app .tup [(.call "_law_draw" [(.var 0), (.var 1)]), (.call "_law_draw" [(.var 0), (.cst (.int (7)))])]) [3]),
  .ret (.app .tup [(.app (.fn .tuple) [(.app .sortedSet [(.var 2)])]), (.app (.fn .tuple) [(.app .sortedSet [(.var 4)])])])]⟩
def fd__law_strange : Fd := ⟨1, 2, [
  .asg (.nm 1) (.app .lst [(.cst .non), (.cst (.bl true)), (.cst (.bl false)), (.cst (.int (0))), (.cst (.int (1))), (.cst (.int (2))), (.cst (.int (24))), (.app .neg [(.cst (.int (1)))]), (.app (.bin .Pow) [(.cst (.int (10))), (.cst (.int (59)))]), (.cst (.str "")), (.cst (.str "p")), (.cst (.str "a")), (.cst (.str "pq")), (.cst (.str "A")), (.cst (.str "p q")), (.cst (.str "-")), (.cst (.str "zzzzzzzz"))]),
  .asg (.nm 1) (.app (.bin .Add) [(.var 1), (.app .lst [(.cst (.str "zzzzzzzzz")), (.cst (.str "get")), (.cst (.str "names")), (.cst (.str "1")), (.app .tup []), (.app .lst []), (.app .tup [(.cst (.str "p"))]), (.app .tup [(.cst (.str "q")), (.cst (.str "p"))]), (.app .tup [(.cst (.str "p")), (.cst (.str "p"))]), (.app .tup [(.cst (.str "p")), (.cst (.str "q"))]), (.app .lst [(.cst (.str "p"))]), (.app .tup [(.cst (.str ""))])])]),
  .asg (.nm 1) (.app (.bin .Add) [(.var 1), (.app .lst [(.app .tup [(.cst (.str "P"))]), (.app .tup [(.cst (.int (0)))]), (.app .tup [(.cst (.int (0))), (.cst (.int (1)))]), (.app .tup [(.cst (.int (1))), (.cst (.int (0)))]), (.app .tup [(.cst (.int (1))), (.cst (.int (1)))]), (.app .tup [(.cst (.bl true))]), (.app .tup [(.cst (.int (0))), (.cst (.bl true))]), (.app .tup [(.cst (.int (0))), (.cst (.int (1))), (.cst (.int (2)))]), (.app .tup [(.cst (.str "p")), (.cst (.str "q")), (.cst (.str "x"))]), (.app .tup [(.app .tup [(.cst (.int (0))), (.cst (.int (1)))])])])]),
  .asg (.nm 1) (.app (.bin .Add) [(.var 1), (.app .lst [(.app .tup [(.cst (.str "full")), (.app .tup [(.cst (.str "p"))])]), (.app .tup [(.cst (.str "full")), (.app .tup [(.cst (.int (0)))])]), (.app .tup [(.cst (.str "full")), (.app .tup [(.cst (.int (1))), (.cst (.int (0)))])]), (.app .tup [(.cst (.str "full")), (.app .tup [(.cst (.int (0))), (.cst (.int (0)))])]), (.app .tup [(.cst (.str "full")), (.cst (.int (0)))]), (.app .tup [(.cst (.str "full")), (.cst (.str "p"))])])]),
  .asg (.nm 1) (.app (.bin .Add) [(.var 1), (.app .lst [(.app .tup [(.cst (.str "full")), (.app .tup [(.cst (.str "q")), (.cst (.str "p"))])]), (.app .tup [(.cst (.str "get")), (.cst (.str "p"))]), (.app .tup [(.cst (.str "get"))]), (.app .tup [(.cst (.str "get")), (.cst (.str "p")), (.cst (.str "q"))]), (.app .tup [(.cst (.str "take")), (.cst (.str "p")), (.cst (.str "p"))]), (.app .tup [(.cst (.str "go")), (.cst (.str "p"))])])]),
  .asg (.nm 1) (.app (.bin .Add) [(.var 1), (.app .lst [(.app .tup [(.cst (.str "take")), (.cst (.str "p")), (.cst (.str "q"))]), (.app .tup [(.cst (.str "swap")), (.cst (.str "q")), (.cst (.str "p"))]), (.app .tup [(.cst (.str "say")), (.cst (.str "full")), (.app .tup [(.cst (.str "p"))])]), (.app .tup [(.cst (.str "say")), (.cst (.str "full")), (.cst (.str "p"))]), (.app .tup [(.cst (.str "tell")), (.cst (.str ""))])])]),
  .asg (.nm 1) (.app (.bin .Add) [(.var 1), (.app .lst [(.app .tup [(.cst (.str "look")), (.cst (.str "Full")), (.app .tup [(.cst (.str "p"))])]), (.app .tup [(.cst (.str "use")), (.cst (.str "full")), (.app .tup [(.cst (.str "p")), (.cst (.str "p"))])]), (.app .tup [(.cst (.str "tell")), (.cst (.str "done"))]), (.app .tup [(.cst (.str "tell"))]), (.app .tup [(.cst (.str "never"))])])]),
  .asg (.nm 1) (.app (.bin .Add) [(.var 1), (.app .lst [(.app .tup [(.cst (.str "never")), (.cst (.str "p"))]), (.app .tup [(.cst (.str "pass"))]), (.app .lst [(.cst (.str "pass"))]), (.app .tup [(.app .tup [(.cst (.str "full")), (.app .tup [(.cst (.int (0)))])]), (.app .tup [(.cst (.str "apart")), (.app .tup [(.cst (.int (0)))])])]), (.app .tup [(.app .tup []), (.app .tup [])])])]),
  .asg (.nm 1) (.app (.bin .Add) [(.var 1), (.app .lst [(.app .tup [(.app .tup [(.cst (.str "apart")), (.app .tup [(.cst (.int (0)))])]), (.app .tup [(.cst (.str "apart")), (.app .tup [(.cst (.int (0))), (.cst (.int (1)))])])]), (.app .tup [(.app .tup [(.cst (.int (0)))]), (.app .tup [(.app .tup [(.cst (.int (0))), (.cst (.int (1)))])])]), (.app .tup [(.app .tup [(.cst (.int (1))), (.cst (.int (0)))]), (.app .tup [])]), (.app .tup [(.app .tup []), (.app .tup [(.app .tup [(.cst (.int (1))), (.cst (.int (0)))]), (.app .tup [(.cst (.int (0))), (.cst (.int (1)))])])])])]),
  .asg (.nm 1) (.app (.bin .Add) [(.var 1), (.app .lst [(.app .tup [(.app .tup []), (.app .tup [(.app .tup [(.cst (.int (0))), (.cst (.int (1)))]), (.app .tup [(.cst (.int (0))), (.cst (.int (1)))])])]), (.app .tup [(.app .lst []), (.app .tup [])]), (.app .tup [(.app .tup []), (.app .tup [(.app .tup [(.cst (.int (0)))])])]), (.app .tup [(.app .tup [(.cst (.str "pass"))]), (.app .tup [])])])]),
  .ret (.call "_law_any" [(.var 0), (.var 1)])]⟩
def fd__law_bent : Fd := ⟨2, 5, [
  .ifs (.and (.app (.isinst [.tuple]) [(.var 1)]) (.and (.app (.cmp .Gt) [(.app (.fn .len) [(.var 1)]), (.cst (.int (0)))]) (.app (.cmp .Gt) [(.call "_law_draw" [(.var 0), (.cst (.int (5)))]), (.cst (.int (0)))]))) [
    .asg (.nm 2) (.call "_law_draw" [(.var 0), (.app (.fn .len) [(.var 1)])]),
    .ret (.app (.bin .Add) [(.app (.bin .Add) [(.app (.slice false true) [(.var 1), (.var 2)]), (.app .tup [(.call "_law_bent" [(.var 0), (.app .item [(.var 1), (.var 2)])])])]), (.app (.slice true false) [(.var 1), (.app (.bin .Add) [(.var 2), (.cst (.int (1)))])])])] [],
  .par [3, 4] [(.call "_law_draw" [(.var 0), (.cst (.int (8)))]), (.call "_law_strange" [(.var 0)])],
  .ifs (.and (.app (.isinst [.tuple]) [(.var 1)]) (.app (.cmp .Lt) [(.var 3), (.cst (.int (6)))])) [
    .asg (.nm 2) (.call "_law_draw" [(.var 0), (.app (.bin .Add) [(.app (.fn .len) [(.var 1)]), (.cst (.int (1)))])]),
    .ifs (.app (.cmp .Eq) [(.var 3), (.cst (.int (0)))]) [
      .ret (.app (.fn .list) [(.var 1)])] [],
    .ifs (.app (.cmp .Eq) [(.var 3), (.cst (.int (1)))]) [
      .ret (.app (.bin .Add) [(.app (.slice false true) [(.var 1), (.var 2)]), (.app (.slice true false) [(.var 1), (.app (.bin .Add) [(.var 2), (.cst (.int (1)))])])])] [],
    .ifs (.app (.cmp .Eq) [(.var 3), (.cst (.int (2)))]) [
      .ret (.app (.bin .Add) [(.app (.bin .Add) [(.app (.slice false true) [(.var 1), (.var 2)]), (.app (.slice true true) [(.var 1), (.var 2), (.app (.bin .Add) [(.var 2), (.cst (.int (1)))])])]), (.app (.slice true false) [(.var 1), (.var 2)])])] [],
    .ret (.ite (.app (.cmp .Lt) [(.var 3), (.cst (.int (5)))]) (.app (.bin .Add) [(.app (.bin .Add) [(.app (.slice false true) [(.var 1), (.var 2)]), (.app .tup [(.var 4)])]), (.app (.slice true false) [(.var 1), (.var 2)])]) (.app .rev [(.var 1)]))] [],
  .ifs (.and (.app (.isinst [.str]) [(.var 1)]) (.app (.cmp .Lt) [(.var 3), (.cst (.int (5)))])) [
    .asg (.nm 2) (.call "_law_draw" [(.var 0), (.app (.bin .Add) [(.app (.fn .len) [(.var 1)]), (.cst (.int (1)))])]),
    .ret (.app (.bin .Add) [(.app (.bin .Add) [(.app (.slice false true) [(.var 1), (.var 2)]), (.call "_law_any" [(.var 0), (.app .lst [(.cst (.str "a")), (.cst (.str "b")), (.cst (.str "A")), (.cst (.str "")), (.cst (.str " ")), (.cst (.str "z")), (.cst (.str "0")), (.cst (.str "pqpqpqpq"))])])]), (.app (.slice true false) [(.var 1), (.app (.bin .Add) [(.var 2), (.app (.fn .int) [(.app (.cmp .Gt) [(.var 3), (.cst (.int (2)))])])])])])] [],
  .ifs (.and (.call "_law_is_number" [(.var 1)]) (.app (.cmp .Lt) [(.var 3), (.cst (.int (5)))])) [
    .ret (.call "_law_any" [(.var 0), (.app .lst [(.app (.bin .Add) [(.var 1), (.cst (.int (1)))]), (.app (.bin .Sub) [(.var 1), (.cst (.int (1)))]), (.app (.bin .Sub) [(.cst (.int (0))), (.var 1)]), (.app (.cmp .Eq) [(.var 1), (.cst (.int (1)))]), (.app (.fn .str) [(.var 1)])])])] [],
  .ret (.var 4)]⟩
def fd__law_due : Fd := ⟨1, 4, [
  .asg (.nm 1) (.and (.app (.isinst [.tuple]) [(.var 0)]) (.app (.cmp .Eq) [(.comp (.nm 2) (.seq (.var 0)) (some (.not (.call "_law_is_number" [(.var 2)]))) (.var 2) [2]), (.app .lst [])])),
  .asg (.nm 3) (.app .lst [(.and (.app (.isinst [.int]) [(.var 0)]) (.not (.app (.isinst [.bool]) [(.var 0)]))), (.call "_law_is_number" [(.var 0)]), (.call "_law_is_name" [(.var 0)])]),
  .asg (.nm 3) (.app (.bin .Add) [(.var 3), (.app .lst [(.call "_law_is_fact" [(.var 0), (.cst (.bl true))]), (.call "_law_is_fact" [(.var 0), (.cst (.bl false))]), (.call "_law_is_row" [(.var 0)]), (.call "_law_is_lacking" [(.var 0)])])]),
  .ret (.app (.bin .Add) [(.var 3), (.app .lst [(.var 1), (.call "_law_is_way" [(.var 0)]), (.call "_law_is_form" [(.var 0)])])])]⟩
def fd__law_is_told : Fd := ⟨1, 3, [
  .asg (.nm 1) (.app (.fn .repr) [(.var 0)]),
  .asg (.nm 2) (.app .lst [(.call "is_integer" [(.var 0)]), (.call "is_number" [(.var 0)]), (.call "is_name" [(.var 0)]), (.call "is_fact" [(.var 0)]), (.call "is_worldly" [(.var 0)]), (.call "is_row" [(.var 0)])]),
  .asg (.nm 2) (.app (.bin .Add) [(.var 2), (.app .lst [(.call "is_lacking" [(.var 0)]), (.call "is_choices" [(.var 0)]), (.call "is_way" [(.var 0)]), (.call "is_form" [(.var 0)])])]),
  .ret (.and (.app (.cmp .Eq) [(.app (.fn .repr) [(.var 2)]), (.app (.fn .repr) [(.call "_law_due" [(.var 0)])])]) (.app (.cmp .Eq) [(.app (.fn .repr) [(.var 0)]), (.var 1)]))]⟩
def fd__law_are_named : Fd := ⟨0, 1, [
  .asg (.nm 0) (.app .lst [(.call "is_integer" [(.app .neg [(.cst (.int (1)))])]), (.call "is_number" [(.cst (.int (0)))]), (.call "is_name" [(.cst (.str "a"))]), (.call "is_fact" [(.app .tup [(.cst (.str "a")), (.app .tup [(.cst (.str "b"))])])])]),
  .asg (.nm 0) (.app (.bin .Add) [(.var 0), (.app .lst [(.call "is_worldly" [(.app .tup [(.cst (.str "a")), (.app .tup [(.cst (.int (0)))])])]), (.call "is_row" [(.app .tup [(.cst (.str "pass"))])]), (.call "is_lacking" [(.app .tup [])])])]),
  .asg (.nm 0) (.app (.bin .Add) [(.var 0), (.app .lst [(.call "is_choices" [(.app .tup [(.cst (.int (3))), (.cst (.int (3)))])]), (.call "is_way" [(.app .tup [(.cst (.int (0))), (.cst (.int (0)))])]), (.call "is_form" [(.app .tup [(.app .tup []), (.app .tup [])])])])]),
  .ret (.app (.cmp .Eq) [(.app (.fn .repr) [(.var 0)]), (.app (.fn .repr) [(.app (.bin .Mult) [(.app .lst [(.cst (.bl true))]), (.cst (.int (10)))])])])]⟩
def fd_law : Fd := ⟨1, 13, [
  .asg (.nm 1) (.call "_law_feed" [(.var 0)]),
  .asg (.nm 2) (.app .lst [(.app (.bin .Mult) [(.cst (.str "a")), (.cst (.int (8)))]), (.app (.bin .Mult) [(.cst (.str "a")), (.cst (.int (9)))]), (.cst (.str "aB")), (.cst (.str "a1")), (.cst (.str "a b")), (.cst (.str " a")), (.cst (.str "z")), (.app .tup [(.cst (.int (0))), (.app .neg [(.cst (.int (1)))])]), (.app .tup [(.cst (.int (0))), (.cst (.bl false))]), (.app .tup [(.cst (.str "a")), (.app .tup [(.cst (.int (0))), (.cst (.int (1)))])]), (.app .tup [(.cst (.str "a")), (.app .tup [(.cst (.int (0))), (.cst (.int (1)))]), (.app .tup [])])]),
  .asg (.nm 2) (.app (.bin .Add) [(.var 2), (.app .lst [(.app .tup [(.cst (.str "ab")), (.app .tup [(.cst (.str "a")), (.cst (.str "b"))])]), (.app .tup [(.cst (.str "ab")), (.app .tup [(.cst (.str "b")), (.cst (.str "a"))])]), (.app .tup [(.cst (.str "ab")), (.app .tup [])]), (.app .tup [(.cst (.str "ab")), (.app .lst [(.cst (.str "a"))])]), (.app .lst [(.cst (.str "ab")), (.app .tup [(.cst (.str "a"))])]), (.app .tup [(.cst (.int (1))), (.app .tup [(.cst (.str "a"))])]), (.app .tup [(.cst (.int (0))), (.cst (.int (0))), (.cst (.int (0)))])])]),
  .asg (.nm 2) (.app (.bin .Add) [(.var 2), (.app .lst [(.app .tup [(.cst (.str "say")), (.cst (.str "a")), (.app .tup [(.cst (.str "a")), (.cst (.str "b"))])]), (.app .tup [(.cst (.str "say")), (.cst (.str "a")), (.app .tup [(.cst (.str "a"))]), (.app .tup [])]), (.app .tup [(.cst (.str "say")), (.cst (.str "a"))]), (.app .tup [(.cst (.str "tell")), (.cst (.str "tell"))]), (.app .tup [(.cst (.str "tell")), (.cst (.str "a")), (.cst (.str "b"))])])]),
  .asg (.nm 2) (.app (.bin .Add) [(.var 2), (.app .lst [(.app .tup [(.cst (.str "a")), (.app .tup [(.cst (.int (1))), (.cst (.int (0)))])]), (.app .tup [(.cst (.str "a")), (.app .tup [(.cst (.int (1))), (.cst (.int (1)))])]), (.app .tup [(.app .tup []), (.app .tup [(.app .tup [(.cst (.int (1))), (.cst (.int (0)))]), (.app .tup [(.cst (.int (0))), (.cst (.int (1)))])])]), (.app .tup [(.app .tup []), (.app .tup [(.app .tup [(.cst (.int (0))), (.cst (.int (1)))]), (.app .tup [(.cst (.int (0))), (.cst (.int (1)))])])]), (.app .tup [(.app .tup [(.cst (.int (1))), (.cst (.int (0)))]), (.app .tup [])])])]),
  .asg (.nm 2) (.app (.bin .Add) [(.var 2), (.app .lst [(.app .tup [(.app .tup [(.cst (.str "a")), (.app .tup [(.cst (.int (0))), (.cst (.int (1)))])]), (.app .tup [(.cst (.str "a")), (.app .tup [(.cst (.int (0)))])])]), (.app .tup [(.app .tup [(.cst (.str "a")), (.app .tup [(.cst (.int (0)))])]), (.app .tup [(.cst (.str "a")), (.app .tup [(.cst (.int (0)))])])]), (.app .tup [(.app .tup [(.cst (.str "a")), (.app .tup [(.cst (.int (0)))])]), (.app .tup [(.cst (.str "a")), (.app .tup [(.cst (.int (0))), (.cst (.int (1)))])])]), (.app .tup [(.cst (.int (0))), (.cst (.int (0)))]), (.app .tup [(.cst (.int (1))), (.cst (.int (0)))])])]),
  .asg (.nm 2) (.app (.bin .Add) [(.var 2), (.app .lst [(.app (.bin .Mult) [(.app .tup [(.cst (.int (0)))]), (.app (.bin .Add) [(.cst (.int (401))), (.cst (.int (7)))])]), (.app (.fn .tuple) [(.app (.fn .lrange) [(.cst (.int (450)))])]), (.app .tup [(.app (.fn .tuple) [(.app (.fn .lrange) [(.cst (.int (30)))])]), (.app .tup [])])])]),
  .asg (.nm 2) (.app (.bin .Add) [(.var 2), (.app .lst [(.app .tup [(.cst (.str "swap")), (.cst (.str "a")), (.cst (.str "b"))]), (.app .tup [(.cst (.str "swap")), (.cst (.str "a"))]), (.app .tup [(.cst (.str "swap")), (.cst (.str "a")), (.cst (.str "a"))]), (.app .tup [(.cst (.str "get")), (.cst (.int (0)))]), (.app .tup [(.cst (.str "pass")), (.cst (.str "pass"))]), (.app .tup [(.cst .non)]), (.app .tup [(.cst (.str ""))])])]),
  .for_ (.nm 3) (.range1 (.cst (.int (4)))) [
    .asg (.tu [(.nm 4), (.nm 5)]) (.app .tup [(.call "_law_names" [(.var 1)]), (.call "_law_sorts" [(.var 1)])]),
    .par [6, 7] [(.call "_law_line" [(.var 1), (.var 4), (.var 5)]), (.call "_law_shape" [(.var 1), (.cst (.int (9)))])],
    .asg (.nm 8) (.app (.fn .tuple) [(.app .sortedSet [(.comp (.nm 9) (.range1 (.call "_law_draw" [(.var 1), (.cst (.int (5)))])) none (.call "_law_worldly" [(.var 1), (.var 5)]) [9])])]),
    .asg (.nm 10) (.app .lst [(.var 6), (.app (.slice true false) [(.var 6), (.cst (.int (1)))]), (.app (.fn .tuple) [(.var 4)]), (.app .item [(.var 4), (.cst (.int (0)))]), (.var 8), (.app .rev [(.var 8)]), (.var 7), (.app .item [(.var 7), (.cst (.int (0)))]), (.app .item [(.var 7), (.cst (.int (1)))])]),
    .asg (.nm 10) (.app (.bin .Add) [(.app (.bin .Add) [(.var 10), (.app (.fn .list) [(.var 8)])]), (.app (.fn .list) [(.app .item [(.var 7), (.cst (.int (1)))])])]),
    .for_ (.nm 11) (.seq (.var 10)) [
      .asg (.nm 12) (.call "_law_bent" [(.var 1), (.var 11)]),
      .asg (.nm 2) (.app (.bin .Add) [(.var 2), (.app .lst [(.var 11), (.var 12), (.call "_law_bent" [(.var 1), (.var 12)])])])],
    .asg (.nm 2) (.app (.bin .Add) [(.var 2), (.comp (.nm 9) (.range1 (.cst (.int (6)))) none (.call "_law_strange" [(.var 1)]) [9])])],
  .ret (.and (.app (.cmp .Eq) [(.comp (.nm 11) (.seq (.var 2)) (some (.not (.call "_law_is_told" [(.var 11)]))) (.var 11) [11]), (.app .lst [])]) (.call "_law_are_named" []))]⟩
def ds : List DefX := [
  ⟨"is_integer", top 5, ["thing"], [], fd_is_integer⟩,
  ⟨"is_number", top 6, ["thing"], [], fd_is_number⟩,
  ⟨"is_name", top 7, ["thing", "sign"], [], fd_is_name⟩,
  ⟨"is_pair", top 8, ["thing"], [], fd_is_pair⟩,
  ⟨"is_rising", top 9, ["some", "one", "other"], [], fd_is_rising⟩,
  ⟨"is_fact", top 10, ["thing", "names", "name"], [], fd_is_fact⟩,
  ⟨"is_worldly", top 11, ["thing", "numbers", "one"], [], fd_is_worldly⟩,
  ⟨"is_row", top 12, ["thing", "word", "rest"], [], fd_is_row⟩,
  ⟨"is_numbers", top 13, ["thing"], [], fd_is_numbers⟩,
  ⟨"is_lacking", top 14, ["thing", "fact"], [], fd_is_lacking⟩,
  ⟨"is_choices", top 15, ["thing", "one"], [], fd_is_choices⟩,
  ⟨"is_way", top 16, ["thing"], [], fd_is_way⟩,
  ⟨"is_form", top 17, ["thing", "way"], [], fd_is_form⟩,
  ⟨"_law_feed", top 19, ["_law_script"], [], fd__law_feed⟩,
  ⟨"_law_draw", top 20, ["_law_feed_here", "_law_many", "_law_digit", "_law_turn", "_law_cells", "_law_cell", "_law_mixed"], ["_law_feed_here"], fd__law_draw⟩,
  ⟨"_law_any", top 21, ["_law_feed_here", "_law_some"], [], fd__law_any⟩,
  ⟨"_law_is_name", top 22, ["_law_what", "_law_sign"], [], fd__law_is_name⟩,
  ⟨"_law_is_number", top 23, ["_law_what"], [], fd__law_is_number⟩,
  ⟨"_law_rises", top 24, ["_law_lot", "_law_k"], [], fd__law_rises⟩,
  ⟨"_law_is_fact", top 25, ["_law_what", "_law_named", "_law_one"], [], fd__law_is_fact⟩,
  ⟨"_law_sizes", top 26, ["_law_found"], ["_law_found"], fd__law_sizes⟩,
  ⟨"_law_is_row", top 27, ["_law_what", "_law_one"], [], fd__law_is_row⟩,
  ⟨"_law_is_set", top 28, ["_law_what", "_law_bound", "_law_one"], [], fd__law_is_set⟩,
  ⟨"_law_is_lacking", top 29, ["_law_what", "_law_one"], [], fd__law_is_lacking⟩,
  ⟨"_law_is_way", top 30, ["_law_what"], [], fd__law_is_way⟩,
  ⟨"_law_is_form", top 31, ["_law_what", "_law_one"], [], fd__law_is_form⟩,
  ⟨"_law_names", top 32, ["_law_feed_here", "_law_many", "_law_found", "_law_menus", "_law_menu", "_law_first", "_law_k", "_law_size", "_law_own", "_law_lap"], ["_law_found"], fd__law_names⟩,
  ⟨"_law_line", top 33, ["_law_feed_here", "_law_known", "_law_sorts_here", "_law_way", "_law_one", "_law_two", "_law_group"], [], fd__law_line⟩,
  ⟨"_law_sorts", top 34, ["_law_feed_here", "_law_menus"], [], fd__law_sorts⟩,
  ⟨"_law_worldly", top 35, ["_law_feed_here", "_law_sorts_here", "_law_one", "_law_two", "_law_group"], [], fd__law_worldly⟩,
  ⟨"_law_shape", top 36, ["_law_feed_here", "_law_size", "_law_struck", "_law_lap", "_law_left"], [], fd__law_shape⟩,
  ⟨"_law_strange", top 37, ["_law_feed_here", "_law_some"], [], fd__law_strange⟩,
  ⟨"_law_bent", top 38, ["_law_feed_here", "_law_what", "_law_k", "_law_way", "_law_odd"], [], fd__law_bent⟩,
  ⟨"_law_due", top 39, ["_law_what", "_law_many", "_law_one", "_law_found"], [], fd__law_due⟩,
  ⟨"_law_is_told", top 40, ["_law_what", "_law_kept", "_law_found"], [], fd__law_is_told⟩,
  ⟨"_law_are_named", top 41, ["_law_found"], [], fd__law_are_named⟩,
  ⟨"law", top 42, ["_law_script", "_law_feed_here", "_law_some", "_law_lap", "_law_known", "_law_sorts_here", "_law_line_here", "_law_shape_here", "_law_lot", "_law_k", "_law_drawn", "_law_what", "_law_once"], [], fd_law⟩]
end K01
end
section
set_option Elab.async false
set_option linter.all false
set_option maxRecDepth 100000
set_option maxHeartbeats 4000000
namespace OW
open PySem
theorem i_setS {S : Store} {f : Nat} {kvs : List (L2.Key × D)} {x : Str} (h : f < S.length) : itemD (.loc f) (.str x) (S.set f (.dct kvs)) = oRes (lookK (.inr x) kvs) (S.set f (.dct kvs)) := i_dctS (by rw [List.getElem?_set_self h])
theorem s_setS {S : Store} {f : Nat} {kvs : List (L2.Key × D)} {x : Str} {d : D} (h : f < S.length) : subD (.loc f) (.str x) d (S.set f (.dct kvs)) = need (decide (kvs.length < 1000)) (.ok () (S.set f (.dct (putK (.inr x) d kvs)))) := by
  rw [s_dctS (by rw [List.getElem?_set_self h]), List.set_set]
/-! ### the feed -/
def feedL (cs : List Int) (t r k : Int) : List (L2.Key × D) := [(.inr "cells", .lst (cs.map D.int)), (.inr "turn", .int t), (.inr "rest", .int r), (.inr "drawn", .int k)]
def Feed (f : Nat) (S : Store) : Prop := ∃ cs t r k, cs.length ≤ 63 ∧ 0 ≤ t ∧ S[f]? = some (.dct (feedL cs t r k))
/-- all but f stays -/
def Same (f : Nat) (S S' : Store) : Prop := S.length ≤ S'.length ∧ ∀ i, i ≠ f → i < S.length → S'[i]? = S[i]?
theorem Same.refl {f S} : Same f S S := ⟨Nat.le_refl _, fun _ _ _ => rfl⟩
theorem Same.trans {f S S' S''} (h : Same f S S') (h' : Same f S' S'') : Same f S S'' := ⟨Nat.le_trans h.1 h'.1, fun i a b => (h'.2 i a (Nat.lt_of_lt_of_le b h.1)).trans (h.2 i a b)⟩
theorem Same.set {f S c} : Same f S (S.set f c) := ⟨by simp, fun i h _ => by rw [List.getElem?_set_ne (Ne.symm h)]⟩
theorem lt_of_get {α : Type} {S : List α} {f : Nat} {c : α} (h : S[f]? = some c) : f < S.length := by
  rcases Nat.lt_or_ge f S.length with h2 | h2
  · exact h2
  · rw [List.getElem?_eq_none h2] at h; cases h
theorem get_set {α : Type} {S : List α} {f : Nat} {c c' : α} (h : S[f]? = some c) : (S.set f c')[f]? = some c' := by
  rw [List.getElem?_set_self (lt_of_get h)]
section
variable (cs : List Int) (t r k i : Int)
theorem look_cells : lookK (.inr ("cells" : Str)) (feedL cs t r k) = some (.lst (cs.map D.int)) := rfl
theorem look_turn : lookK (.inr ("turn" : Str)) (feedL cs t r k) = some (.int t) := rfl
theorem look_rest : lookK (.inr ("rest" : Str)) (feedL cs t r k) = some (.int r) := rfl
theorem look_drawn : lookK (.inr ("drawn" : Str)) (feedL cs t r k) = some (.int k) := rfl
theorem put_turn : putK (.inr ("turn" : Str)) (.int i) (feedL cs t r k) = feedL cs i r k := rfl
theorem put_rest : putK (.inr ("rest" : Str)) (.int i) (feedL cs t r k) = feedL cs t i k := rfl
theorem put_drawn : putK (.inr ("drawn" : Str)) (.int i) (feedL cs t r k) = feedL cs t r i := rfl
theorem feed_len : (feedL cs t r k).length = 4 := rfl
theorem i_feed {f : Nat} {S : Store} {x : Str} {cs t r k} (h : S[f]? = some (.dct (feedL cs t r k))) : itemD (.loc f) (.str x) S = oRes (lookK (.inr x) (feedL cs t r k)) S := i_dctS h
end
theorem b_p1018 {S : Store} : binD .Pow (.int 10) (.int 18) S = .ok (.int 1000000000000000000) S := nr rfl
local macro_rules | `(tactic| walk_at "ev") => `(tactic| simp -dsimp only [bnd_ok, call_eq, e_var, vGet_some, e_cst, e_app, e_call, e_mcall, e_and, e_or, e_not, e_ite, e_chain, e_comp, cb_none, cb_some, a_nil, a_cons, i_seq, rngR_ok, i_range1, i_range2, i_zip, oNext_some, s_asg, s_par, s_sub, s_subs, s_expr, s_ret, s_pass, s_ifs, fb_some, s_for, b_nil, b_cons, for_nil, for_cons, sa_nil, sa_cons, p_bin, p_item, p_cmp, p_fn, p_tup, p_lst, p_lstM, p_inst, p_neg, o_some, b_addI, b_addS, b_addT, b_addL, b_sub, b_mulI, b_div, b_mod, c_lt, c_gt, c_le, c_ge, c_eqI, f_intI, f_intB, f_lenT, f_lenL, f_lenS, i_tup, i_lst, t_bl, t_non, need_dec, need_true, sizeE, st_nm, st_tu2, set_nil, set_cons, it_tup, it_lst, it_str, wipe_nil, wipe_cons, startD, tyOf, isT, Nat.reduceLT, Nat.reduceLeDiff, Nat.reduceAdd, Nat.reduceSub, Nat.reduceEqDiff, Int.reduceLT, Int.reduceLE, Int.reduceAdd, Int.reduceSub, Int.reduceNeg, Int.reduceToNat, Int.reducePow, decide_true, decide_false, if_true, if_false, Bool.false_eq_true, reduceIte, Bool.not_true, Bool.not_false, Bool.true_or, Bool.false_or, Bool.or_true, Bool.or_false, Bool.and_true, Bool.true_and, Bool.and_false, Bool.false_and, and_true, true_and, or_true, true_or, and_self, List.set_cons_zero, List.set_cons_succ, List.length_cons, List.length_nil, List.map_cons, List.map_nil, List.cons_append, List.nil_append, List.getElem?_cons_zero, List.getElem?_cons_succ, List.replicate_succ, List.replicate_zero, List.any_cons, List.any_nil, b_p1018, look_drawn, look_rest, look_turn, look_cells, put_turn, put_rest, put_drawn, feed_len, i_setS, s_setS, *])
theorem fit_ints : ∀ cs : List Int, D.flatL (cs.map D.int) = true ∧ PyData.canLayAll0 (D.pyL (cs.map D.int)) = true ∧ PyData.depthAll (D.pyL (cs.map D.int)) = 0
  | [] => ⟨rfl, rfl, rfl⟩
  | c :: cs => by
    obtain ⟨h1, h2, h3⟩ := fit_ints cs
    refine ⟨h1, h2, ?_⟩
    show max 0 (PyData.depthAll (D.pyL (cs.map D.int))) = 0
    omega
theorem fitL_ints (cs : List Int) : (D.lst (cs.map D.int)).flat = true ∧ SeqAt.shaped (D.lst (cs.map D.int)).py = true := by
  obtain ⟨h1, h2, h3⟩ := fit_ints cs
  refine ⟨h1, ?_⟩
  show (PyData.canLayAll0 (D.pyL (cs.map D.int)) && decide (PyData.depthAll (D.pyL (cs.map D.int)) + 1 ≤ 64)) = true
  rw [h2, h3]; rfl
theorem c_neNil {xs : List D} {S : Store} (h : (D.lst xs).flat = true) (h2 : SeqAt.shaped (D.lst xs).py = true) : cmpD .NotEq (.lst xs) (.lst []) S = .ok (.bl (!xs.isEmpty)) S := by
  show mapB not (need (eqOk (.lst xs) (.lst [])) (.ok (PyData.eqv (D.lst xs).py (D.lst []).py) S)) = _
  have : eqOk (.lst xs) (.lst []) = true := by unfold eqOk; rw [h, h2]; rfl
  rw [this]
  cases xs <;> rfl
theorem c_eqNil {xs : List D} {S : Store} (h : (D.lst xs).flat = true) (h2 : SeqAt.shaped (D.lst xs).py = true) : cmpD .Eq (.lst xs) (.lst []) S = .ok (.bl xs.isEmpty) S := by
  show mapB id (need (eqOk (.lst xs) (.lst [])) (.ok (PyData.eqv (D.lst xs).py (D.lst []).py) S)) = _
  have : eqOk (.lst xs) (.lst []) = true := by unfold eqOk; rw [h, h2]; rfl
  rw [this]
  cases xs <;> rfl
theorem atI_in {α : Type} (xs : List α) (i : Int) (h0 : 0 ≤ i) (h : i < xs.length) : ∃ x ∈ xs, L2.atI xs i = some x := by
  obtain ⟨j, rfl⟩ := Int.eq_ofNat_of_zero_le h0
  have hj : j < xs.length := by omega
  exact ⟨xs[j], List.getElem_mem hj, L2.atI_nat (List.getElem?_eq_getElem hj)⟩
theorem draw_good {Φ : Tab} {n f : Nat} {S : Store} {m : Int} (h : Φ "_law_draw" = some K01.fd__law_draw) (hm : 0 < m) (hm2 : m < 1073741824) (hf : Feed f S) :
    ∃ v S', run Φ (n + 1) "_law_draw" [.loc f, .int m] S = .ok (.int v) S' ∧ 0 ≤ v ∧ v < m ∧ Feed f S' ∧ Same f S S' := by
  obtain ⟨cs, t, r, k, hc, ht, hS⟩ := hf
  rw [run_eq h, K01.fd__law_draw]
  clear h
  have i1 := fun x => i_dctS (x := x) hS
  have s1 := fun x d => s_dctS (x := x) (d := d) hS
  have hlt := lt_of_get hS
  walk_at "ev"
  by_cases hr : 0 < r
  · walk_at "ev"
    refine ⟨r % m, _, rfl, Int.emod_nonneg _ (by omega), Int.emod_lt_of_pos _ hm, ⟨cs, t, r / m, k + 1, hc, ht, ?_⟩, Same.set⟩
    rw [List.getElem?_set_self hlt]
  · have hn := c_neNil (S := List.set S f (Cell.dct (feedL cs (t + 1) r (k + 1)))) (fitL_ints cs).1 (fitL_ints cs).2
    have fin : ∀ (c : Int) (v : Int), ∃ v_1 S', (Res.ok (D.int (v % m)) (List.set S f (Cell.dct (feedL cs (t + 1) c (k + 1)))) : Res D) = Res.ok (D.int v_1) S' ∧ 0 ≤ v_1 ∧ v_1 < m ∧ Feed f S' ∧ Same f S S' := fun c v =>
      ⟨v % m, _, rfl, Int.emod_nonneg _ (by omega), Int.emod_lt_of_pos _ hm, ⟨cs, t + 1, c, k + 1, hc, by omega, by rw [List.getElem?_set_self hlt]⟩, Same.set⟩
    have b1 : ∀ x : Int, -18446744073709551616 < x % 2147483587 := fun x => by omega
    have b2 : ∀ x : Int, x % 2147483587 < 18446744073709551616 := fun x => by omega
    have b3 : ∀ x : Int, -18446744073709551616 < x % 2147483579 := fun x => by omega
    have b4 : ∀ x : Int, x % 2147483579 < 18446744073709551616 := fun x => by omega
    by_cases hE : (List.map D.int cs).isEmpty = true
    · by_cases h1 : t < ↑(List.map D.int cs).length
      · walk_at "ev"
      · walk_at "ev"
    · have hE' : (List.map D.int cs).isEmpty = false := by simpa using hE
      have hpos : (0 : Int) < ↑(List.map D.int cs).length := by
        cases cs with
        | nil => cases hE rfl
        | cons c0 cs0 => simp only [List.map_cons, List.length_cons]; omega
      obtain ⟨x, hx, e⟩ := atI_in (List.map D.int cs) (t % ↑(List.map D.int cs).length) (Int.emod_nonneg _ (by omega)) (Int.emod_lt_of_pos _ hpos)
      obtain ⟨c, _, rfl⟩ := List.mem_map.mp hx
      by_cases h1 : t < ↑(List.map D.int cs).length
      · by_cases h2 : 1000000000000000000 ≤ c
        · walk_at "ev"
        · walk_at "ev"
      · walk_at "ev"
end OW
end
section
set_option Elab.async false
set_option linter.all false
set_option maxRecDepth 100000
set_option maxHeartbeats 4000000
namespace OW
open PySem
theorem comp_pure {body : D → Store → Res (Option D)} (g : D → Option D) {S : Store} : ∀ {xs acc : List D}, (∀ x ∈ xs, body x S = .ok (g x) S) → acc.length + xs.length ≤ sizeLine → compGo body xs acc S = .ok (acc ++ xs.filterMap g) S
  | [], acc, _, _ => by simp [compGo]
  | x :: xs, acc, h, hl => by
    rw [compGo, h x (List.mem_cons_self ..)]
    simp only [Res.ok_andThen, List.filterMap_cons]
    rw [List.length_cons] at hl
    cases e : g x with
    | none =>
      simp only []
      exact comp_pure g (fun y hy => h y (List.mem_cons_of_mem _ hy)) (by omega)
    | some d =>
      simp only []
      have : acc.length < sizeLine := by omega
      rw [decide_eq_true this, need_true, comp_pure g (fun y hy => h y (List.mem_cons_of_mem _ hy)) (by simp; omega)]
      simp
theorem allB_map {α : Type} (p : α → Bool) : ∀ xs : List α, allB (xs.map fun x => D.bl (p x)) = some (xs.all p)
  | [] => rfl
  | x :: xs => by
    show (allB (xs.map fun x => D.bl (p x))).map (p x && ·) = _
    rw [allB_map p xs]; rfl
theorem comp_map {body : D → Store → Res (Option D)} (g : D → D) {S : Store} {xs : List D} (h : ∀ x ∈ xs, body x S = .ok (some (g x)) S) (hl : xs.length ≤ sizeLine) : compGo body xs [] S = .ok (xs.map g) S := by
  rw [comp_pure (fun x => some (g x)) h (by simpa using hl), List.nil_append, List.filterMap_eq_map']
theorem comp_filter {body : D → Store → Res (Option D)} (p : D → Bool) {S : Store} {xs : List D} (h : ∀ x ∈ xs, body x S = .ok (if p x = true then some x else none) S) (hl : xs.length ≤ sizeLine) : compGo body xs [] S = .ok (xs.filter p) S := by
  rw [comp_pure (fun x => if p x = true then some x else none) h (by simpa using hl), List.nil_append]
  congr 1
  induction xs with
  | nil => rfl
  | cons x xs ih =>
    rw [List.filterMap_cons, List.filter_cons]
    have := ih (fun y hy => h y (List.mem_cons_of_mem _ hy)) (by rw [List.length_cons] at hl; omega)
    by_cases e : p x = true
    · simp only [e, if_true, this]
    · simp only [e, this]; rfl
theorem fitL_of {xs : List D} (h : (D.lst xs).flat = true) (h2 : SeqAt.shaped (D.lst xs).py = true) (p : D → Bool) : (D.lst (xs.filter p)).flat = true ∧ SeqAt.shaped (D.lst (xs.filter p)).py = true := by
  have h2' : (PyData.canLayAll0 (D.pyL xs) && decide (PyData.depthAll (D.pyL xs) + 1 ≤ 64)) = true := h2
  have h' : D.flatL xs = true := h
  have key : ∀ ys : List D, D.flatL ys = true → PyData.canLayAll0 (D.pyL ys) = true → D.flatL (ys.filter p) = true ∧ PyData.canLayAll0 (D.pyL (ys.filter p)) = true ∧ PyData.depthAll (D.pyL (ys.filter p)) ≤ PyData.depthAll (D.pyL ys) := by
    intro ys
    induction ys with
    | nil => intro _ _; exact ⟨rfl, rfl, Nat.le_refl _⟩
    | cons y ys ih =>
      intro a b
      have a' : (y.flat && D.flatL ys) = true := a
      have b' : (PyData.canLay0 y.py && PyData.canLayAll0 (D.pyL ys)) = true := b
      rw [Bool.and_eq_true] at a' b'
      obtain ⟨i1, i2, i3⟩ := ih a'.2 b'.2
      rw [List.filter_cons]
      by_cases e : p y = true
      · rw [if_pos e]
        refine ⟨?_, ?_, ?_⟩
        · show (y.flat && D.flatL (ys.filter p)) = true
          rw [a'.1, i1]; rfl
        · show (PyData.canLay0 y.py && PyData.canLayAll0 (D.pyL (ys.filter p))) = true
          rw [b'.1, i2]; rfl
        · show max (PyData.depth y.py) (PyData.depthAll (D.pyL (ys.filter p))) ≤ max (PyData.depth y.py) (PyData.depthAll (D.pyL ys))
          omega
      · rw [if_neg e]
        refine ⟨i1, i2, ?_⟩
        show _ ≤ max (PyData.depth y.py) (PyData.depthAll (D.pyL ys))
        omega
  rw [Bool.and_eq_true, decide_eq_true_eq] at h2'
  obtain ⟨i1, i2, i3⟩ := key xs h' h2'.1
  refine ⟨i1, ?_⟩
  show (PyData.canLayAll0 (D.pyL (xs.filter p)) && decide (PyData.depthAll (D.pyL (xs.filter p)) + 1 ≤ 64)) = true
  rw [i2, decide_eq_true (by omega)]; rfl
theorem isEmpty_filter {xs : List D} {p : D → Bool} : (xs.filter p).isEmpty = !xs.any p := by
  induction xs with
  | nil => rfl
  | cons x xs ih =>
    rw [List.filter_cons, List.any_cons]
    by_cases e : p x = true
    · rw [if_pos e, e]; rfl
    · rw [if_neg e, ih]; simp [e]
theorem c_neFil {xs : List D} {p : D → Bool} {S : Store} (h : (D.lst xs).flat = true) (h2 : SeqAt.shaped (D.lst xs).py = true) : cmpD .NotEq (.lst (xs.filter p)) (.lst []) S = .ok (.bl (xs.any p)) S := by
  rw [c_neNil (fitL_of h h2 p).1 (fitL_of h h2 p).2, isEmpty_filter, Bool.not_not]
theorem c_eqFil {xs : List D} {p : D → Bool} {S : Store} (h : (D.lst xs).flat = true) (h2 : SeqAt.shaped (D.lst xs).py = true) : cmpD .Eq (.lst (xs.filter p)) (.lst []) S = .ok (.bl (!xs.any p)) S := by
  rw [c_eqNil (fitL_of h h2 p).1 (fitL_of h h2 p).2, isEmpty_filter]
theorem f_all {xs : List D} {S : Store} {b : Bool} (h : allB xs = some b) : fnD .all (.lst xs) S = .ok (.bl b) S := by
  show (match allB xs with
    | some b => Res.ok (D.bl b) S
    | none => .bad) = _
  rw [h]
theorem f_allMap {xs : List D} {p : D → Bool} {S : Store} : fnD .all (.lst (xs.map fun x => D.bl (p x))) S = .ok (.bl (xs.all p)) S := f_all (allB_map p xs)
/-! ### what is told, plainly -/
def letB (c : Nat) : Bool := !(Builtin.Str.occurrences ("abcdefghijklmnopqrstuvwxyz" : Str) ⟨#[c]⟩ 0 ("abcdefghijklmnopqrstuvwxyz" : Str).length 1).isEmpty
def isIntB : D → Bool
  | .int _ => true
  | _ => false
def isNumB : D → Bool
  | .int i => decide (0 ≤ i)
  | _ => false
def isNameB : D → Bool
  | .str x => decide (1 ≤ x.length ∧ x.length ≤ 8) && x.cps.toList.all letB
  | _ => false
def isLetB : D → Bool
  | .str x => !(Builtin.Str.occurrences ("abcdefghijklmnopqrstuvwxyz" : Str) x 0 ("abcdefghijklmnopqrstuvwxyz" : Str).length 1).isEmpty
  | _ => false
def ltV : D → D → Bool
  | .int i, .int j => decide (i < j)
  | .str x, .str y => decide (x.cps.toList < y.cps.toList)
  | .tup xs, .tup ys => PySem.W.dataLt (D.tup xs).py (D.tup ys).py
  | _, _ => false
def risesB : List D → Bool
  | a :: b :: r => ltV a b && risesB (b :: r)
  | _ => true
theorem c_inLet {x : Str} {S : Store} : cmpD .In (.str x) (.str "abcdefghijklmnopqrstuvwxyz") S = .ok (.bl (isLetB (.str x))) S := rfl
theorem c_ninLet {x : Str} {S : Store} : cmpD .NotIn (.str x) (.str "abcdefghijklmnopqrstuvwxyz") S = .ok (.bl (!isLetB (.str x))) S := rfl
/-- any two may be compared -/
def Cmp (xs : List D) : Prop := ∀ a ∈ xs, ∀ b ∈ xs, ∀ S, ltD S a b = .ok (ltV a b) S
local macro_rules | `(tactic| walk_at "ev") => `(tactic| simp -dsimp only [bnd_ok, call_eq, e_var, vGet_some, e_cst, e_app, e_call, e_mcall, e_and, e_or, e_not, e_ite, e_chain, e_comp, cb_none, cb_some, a_nil, a_cons, i_seq, rngR_ok, i_range1, i_range2, i_zip, oNext_some, s_asg, s_par, s_sub, s_subs, s_expr, s_ret, s_pass, s_ifs, fb_some, s_for, b_nil, b_cons, for_nil, for_cons, sa_nil, sa_cons, p_bin, p_item, p_cmp, p_fn, p_tup, p_lst, p_lstM, p_inst, p_neg, o_some, b_addI, b_addS, b_addT, b_addL, b_sub, b_mulI, b_div, b_mod, c_lt, c_gt, c_le, c_ge, c_eqI, f_intI, f_intB, f_lenT, f_lenL, f_lenS, i_tup, i_lst, t_bl, t_non, need_dec, need_true, sizeE, st_nm, st_tu2, set_nil, set_cons, it_tup, it_lst, it_str, wipe_nil, wipe_cons, startD, tyOf, isT, Nat.reduceLT, Nat.reduceLeDiff, Nat.reduceAdd, Nat.reduceSub, Nat.reduceEqDiff, Int.reduceLT, Int.reduceLE, Int.reduceAdd, Int.reduceSub, Int.reduceNeg, Int.reduceToNat, Int.reducePow, decide_true, decide_false, if_true, if_false, Bool.false_eq_true, reduceIte, Bool.not_true, Bool.not_false, Bool.true_or, Bool.false_or, Bool.or_true, Bool.or_false, Bool.and_true, Bool.true_and, Bool.and_false, Bool.false_and, and_true, true_and, or_true, true_or, and_self, List.set_cons_zero, List.set_cons_succ, List.length_cons, List.length_nil, List.map_cons, List.map_nil, List.cons_append, List.nil_append, List.getElem?_cons_zero, List.getElem?_cons_succ, List.replicate_succ, List.replicate_zero, List.any_cons, List.any_nil, c_inLet, c_ninLet, f_allMap, *])
section
variable {Φ : Tab} {n : Nat} {S : Store} {d : D}
theorem run_is_integer (h : Φ "is_integer" = some K01.fd_is_integer) (hd : d.flat = true) : run Φ (n + 1) "is_integer" [d] S = .ok (.bl (isIntB d)) S := by
  rw [run_eq h, K01.fd_is_integer]
  clear h
  cases d <;> first | (walk_at "ev"; rfl) | cases hd
theorem run_is_number (h0 : Φ "is_integer" = some K01.fd_is_integer) (h : Φ "is_number" = some K01.fd_is_number) (hd : d.flat = true) : run Φ (n + 2) "is_number" [d] S = .ok (.bl (isNumB d)) S := by
  rw [run_eq h, K01.fd_is_number]
  have e := run_is_integer (n := n) (S := S) h0 hd
  clear h h0
  cases d <;> first | (simp only [isIntB] at e; walk_at "ev"; rfl) | cases hd
theorem run_law_is_number (h : Φ "_law_is_number" = some K01.fd__law_is_number) (hd : d.flat = true) : run Φ (n + 1) "_law_is_number" [d] S = .ok (.bl (isNumB d)) S := by
  rw [run_eq h, K01.fd__law_is_number]
  clear h
  cases d <;> first | (walk_at "ev"; rfl) | cases hd
theorem run_is_name (h : Φ "is_name" = some K01.fd_is_name) (hd : d.flat = true) (hs : ∀ x, d = .str x → x.length ≤ sizeLine) : run Φ (n + 1) "is_name" [d] S = .ok (.bl (isNameB d)) S := by
  rw [run_eq h, K01.fd_is_name]
  clear h
  cases d with
  | str x =>
    have hl := hs x rfl
    clear hs
    rw [sizeE] at hl
    by_cases h1 : (1 : Int) ≤ ↑x.length
    · by_cases h2 : (↑x.length : Int) ≤ 8
      · walk_at "ev"
        rw [comp_map (fun y => D.bl (isLetB y)) (fun y hy => ?_) (by simp [signsD]; rw [sizeE]; exact hl)]
        · have e : isNameB (.str x) = (signsD x).all isLetB := by
            rw [isNameB, decide_eq_true ⟨by omega, by omega⟩, Bool.true_and, signsD, List.all_map]
            rfl
          walk_at "ev"
        · obtain ⟨c, _, rfl⟩ := List.mem_map.mp hy
          walk_at "ev"
      · have e : isNameB (.str x) = false := by
          rw [isNameB, decide_eq_false (by omega)]; rfl
        walk_at "ev"
    · have e : isNameB (.str x) = false := by
        rw [isNameB, decide_eq_false (by omega)]; rfl
      walk_at "ev"
  | _ => first | (walk_at "ev"; rfl) | cases hd
theorem fit_signs (x : Str) (h : PyData.canLay0 (.str x) = true) : (D.lst (signsD x)).flat = true ∧ SeqAt.shaped (D.lst (signsD x)).py = true := by
  have h' : x.cps.all (fun c => decide (c < 0x110000)) = true := h
  have key : ∀ l : List Nat, (∀ c ∈ l, c < 0x110000) → D.flatL (l.map fun c => D.str ⟨#[c]⟩) = true ∧ PyData.canLayAll0 (D.pyL (l.map fun c => D.str ⟨#[c]⟩)) = true ∧ PyData.depthAll (D.pyL (l.map fun c => D.str ⟨#[c]⟩)) = 0 := by
    intro l
    induction l with
    | nil => intro _; exact ⟨rfl, rfl, rfl⟩
    | cons c l ih =>
      intro a
      obtain ⟨i1, i2, i3⟩ := ih fun c hc => a c (List.mem_cons_of_mem _ hc)
      refine ⟨i1, ?_, ?_⟩
      · show (PyData.canLay0 (.str ⟨#[c]⟩) && PyData.canLayAll0 (D.pyL (l.map fun c => D.str ⟨#[c]⟩))) = true
        have : PyData.canLay0 (.str ⟨#[c]⟩) = true := by
          show (#[c].all fun c => decide (c < 0x110000)) = true
          simp [a c (List.mem_cons_self ..)]
        rw [this, i2]; rfl
      · show max 0 (PyData.depthAll (D.pyL (l.map fun c => D.str ⟨#[c]⟩))) = 0
        omega
  obtain ⟨i1, i2, i3⟩ := key x.cps.toList (by
    intro c hc
    rw [Array.all_eq_true'] at h'
    simpa using h' c (by simpa using hc))
  refine ⟨i1, ?_⟩
  show (PyData.canLayAll0 (D.pyL (signsD x)) && decide (PyData.depthAll (D.pyL (signsD x)) + 1 ≤ 64)) = true
  unfold signsD
  rw [i2, i3]; rfl
theorem run_law_is_name (h : Φ "_law_is_name" = some K01.fd__law_is_name) (hd : d.flat = true) (hs : ∀ x, d = .str x → x.length ≤ sizeLine ∧ PyData.canLay0 (.str x) = true) : run Φ (n + 1) "_law_is_name" [d] S = .ok (.bl (isNameB d)) S := by
  rw [run_eq h, K01.fd__law_is_name]
  clear h
  cases d with
  | str x =>
    obtain ⟨hl, ho⟩ := hs x rfl
    clear hs
    rw [sizeE] at hl
    by_cases h1 : (0 : Int) < ↑x.length
    · by_cases h2 : (↑x.length : Int) < 9
      · walk_at "ev"
        rw [comp_filter (fun y => !isLetB y) (fun y hy => ?_) (by simp [signsD]; rw [sizeE]; exact hl)]
        · have e : isNameB (.str x) = !(signsD x).any fun y => !isLetB y := by
            rw [isNameB, decide_eq_true ⟨by omega, by omega⟩, Bool.true_and, signsD, List.any_map]
            rw [List.not_any_eq_all_not]
            simp only [Function.comp_def, Bool.not_not]
            rfl
          have f := fit_signs x ho
          have g := c_eqFil (p := fun y => !isLetB y) (S := S) f.1 f.2
          walk_at "ev"
        · obtain ⟨c, _, rfl⟩ := List.mem_map.mp hy
          walk_at "ev"
          by_cases hh : isLetB (.str ⟨#[c]⟩) = true
          · walk_at "ev"
          · walk_at "ev"
      · have e : isNameB (.str x) = false := by
          rw [isNameB, decide_eq_false (by omega)]; rfl
        walk_at "ev"
    · have e : isNameB (.str x) = false := by
        rw [isNameB, decide_eq_false (by omega)]; rfl
      walk_at "ev"
  | _ => first | (walk_at "ev"; rfl) | cases hd
end
end OW
end
section
set_option Elab.async false
set_option linter.all false
set_option maxRecDepth 100000
set_option maxHeartbeats 4000000
namespace OW
open PySem
theorem cut_1 {α : Type} (xs : List α) : cut xs (some 1) none = xs.drop 1 := by
  unfold cut
  cases xs with
  | nil => rfl
  | cons x xs =>
    have h1 : HT.sIx (x :: xs).length 0 (some 1) = 1 := by
      simp [HT.sIx]
    have h2 : HT.sIx (x :: xs).length (x :: xs).length none = (x :: xs).length := by simp [HT.sIx]
    rw [h1, h2]
    simp
theorem p_sl1 {xs : List D} {S : Store} : primD (.slice true false) [.tup xs, .int 1] S = .ok (.tup (xs.drop 1)) S := by
  show Res.ok (D.tup (cut xs (some 1) none)) S = _
  rw [cut_1]
theorem risesB_iff {xs : List D} : risesB xs = true ↔ ∀ i a b, xs[i]? = some a → xs[i + 1]? = some b → ltV a b = true := by
  induction xs with
  | nil => exact ⟨fun _ i a b h => by simp at h, fun _ => rfl⟩
  | cons x xs ih =>
    cases xs with
    | nil => exact ⟨fun _ i a b _ h => by simp at h, fun _ => rfl⟩
    | cons y ys =>
      have e : risesB (x :: y :: ys) = (ltV x y && risesB (y :: ys)) := rfl
      rw [e, Bool.and_eq_true, ih]
      constructor
      · rintro ⟨h0, h⟩ i a b ha hb
        cases i with
        | zero => simp at ha hb; subst ha hb; exact h0
        | succ i => exact h i a b (by simpa using ha) (by simpa using hb)
      · intro h
        exact ⟨h 0 x y rfl rfl, fun i a b ha hb => h (i + 1) a b (by simpa using ha) (by simpa using hb)⟩
def ltP : D → Bool
  | .tup [a, b] => ltV a b
  | _ => false
theorem mem_zip1 {xs : List D} {p : D × D} (h : p ∈ xs.zip (xs.drop 1)) : ∃ i, xs[i]? = some p.1 ∧ xs[i + 1]? = some p.2 := by
  obtain ⟨i, hi, e⟩ := List.mem_iff_getElem.mp h
  have := List.getElem_zip (h := hi)
  rw [List.length_zip] at hi
  refine ⟨i, ?_, ?_⟩
  · rw [List.getElem?_eq_getElem (by omega)]
    rw [← e, this]
  · rw [← e, this]
    simp [List.getElem?_eq_getElem]
theorem zip_rises (xs : List D) : ((xs.zip (xs.drop 1)).map fun p => D.tup [p.1, p.2]).all ltP = risesB xs := by
  rw [Bool.eq_iff_iff, risesB_iff, List.all_eq_true]
  constructor
  · intro h i a b ha hb
    have hi := lt_of_get hb
    refine h (.tup [a, b]) (List.mem_map.mpr ⟨(a, b), List.mem_iff_getElem?.mpr ⟨i, ?_⟩, rfl⟩)
    rw [List.getElem?_zip_eq_some]
    exact ⟨ha, by simpa [Nat.add_comm] using hb⟩
  · intro h x hx
    obtain ⟨p, hp, rfl⟩ := List.mem_map.mp hx
    obtain ⟨i, h1, h2⟩ := mem_zip1 hp
    exact h i _ _ h1 h2
theorem c_ltV {a b : D} {S : Store} (h : ltD S a b = .ok (ltV a b) S) : cmpD .Lt a b S = .ok (.bl (ltV a b)) S := by
  show mapB id (ltD S a b) = _
  rw [h]; rfl
local macro_rules | `(tactic| walk_at "ev") => `(tactic| simp -dsimp only [bnd_ok, call_eq, e_var, vGet_some, e_cst, e_app, e_call, e_mcall, e_and, e_or, e_not, e_ite, e_chain, e_comp, cb_none, cb_some, a_nil, a_cons, i_seq, rngR_ok, i_range1, i_range2, i_zip, oNext_some, s_asg, s_par, s_sub, s_subs, s_expr, s_ret, s_pass, s_ifs, fb_some, s_for, b_nil, b_cons, for_nil, for_cons, sa_nil, sa_cons, p_bin, p_item, p_cmp, p_fn, p_tup, p_lst, p_lstM, p_inst, p_neg, o_some, b_addI, b_addS, b_addT, b_addL, b_sub, b_mulI, b_div, b_mod, c_lt, c_gt, c_le, c_ge, c_eqI, f_intI, f_intB, f_lenT, f_lenL, f_lenS, i_tup, i_lst, t_bl, t_non, need_dec, need_true, sizeE, st_nm, st_tu2, set_nil, set_cons, it_tup, it_lst, it_str, wipe_nil, wipe_cons, startD, tyOf, isT, Nat.reduceLT, Nat.reduceLeDiff, Nat.reduceAdd, Nat.reduceSub, Nat.reduceEqDiff, Int.reduceLT, Int.reduceLE, Int.reduceAdd, Int.reduceSub, Int.reduceNeg, Int.reduceToNat, Int.reducePow, decide_true, decide_false, if_true, if_false, Bool.false_eq_true, reduceIte, Bool.not_true, Bool.not_false, Bool.true_or, Bool.false_or, Bool.or_true, Bool.or_false, Bool.and_true, Bool.true_and, Bool.and_false, Bool.false_and, and_true, true_and, or_true, true_or, and_self, List.set_cons_zero, List.set_cons_succ, List.length_cons, List.length_nil, List.map_cons, List.map_nil, List.cons_append, List.nil_append, List.getElem?_cons_zero, List.getElem?_cons_succ, List.replicate_succ, List.replicate_zero, List.any_cons, List.any_nil, c_inLet, c_ninLet, f_allMap, p_sl1, *])
section
variable {Φ : Tab} {n : Nat} {S : Store} {d : D} {xs : List D}
theorem run_is_rising (h : Φ "is_rising" = some K01.fd_is_rising) (hc : Cmp xs) (hl : xs.length ≤ sizeLine) : run Φ (n + 1) "is_rising" [.tup xs] S = .ok (.bl (risesB xs)) S := by
  rw [run_eq h, K01.fd_is_rising]
  clear h
  walk_at "ev"
  rw [comp_map (fun y => D.bl (ltP y)) (fun y hy => ?_) (by simp; omega)]
  · have e := zip_rises xs
    walk_at "ev"
  · obtain ⟨p, hp, rfl⟩ := List.mem_map.mp hy
    obtain ⟨i, h1, h2⟩ := mem_zip1 hp
    have := c_ltV (hc p.1 (List.mem_of_getElem? h1) p.2 (List.mem_of_getElem? h2) S)
    walk_at "ev"
    rfl
def ltI (xs : List D) : D → Bool
  | .int k => match L2.atI xs (k - 1), L2.atI xs k with
    | some a, some b => ltV a b
    | _, _ => false
  | _ => false
theorem ltI_at {xs : List D} {i : Nat} {a b : D} (h1 : xs[i]? = some a) (h2 : xs[i + 1]? = some b) : ltI xs (.int (1 + (i : Nat))) = ltV a b := by
  show (match L2.atI xs (1 + (i : Int) - 1), L2.atI xs (1 + (i : Int)) with
    | some a, some b => ltV a b
    | _, _ => false) = _
  have e1 : (1 + (i : Int)) - 1 = (i : Nat) := by omega
  have e2 : (1 + (i : Int)) = ((i + 1 : Nat) : Int) := by omega
  rw [e1, e2, L2.atI_nat h1, L2.atI_nat h2]
theorem rng_flat : ∀ (l : List Nat) (lo : Int), D.flatL (l.map fun i => D.int (lo + (i : Nat))) = true ∧ PyData.canLayAll0 (D.pyL (l.map fun i => D.int (lo + (i : Nat)))) = true ∧ PyData.depthAll (D.pyL (l.map fun i => D.int (lo + (i : Nat)))) = 0
  | [], _ => ⟨rfl, rfl, rfl⟩
  | i :: l, lo => by
    obtain ⟨h1, h2, h3⟩ := rng_flat l lo
    refine ⟨h1, h2, ?_⟩
    show max 0 (PyData.depthAll (D.pyL (l.map fun i => D.int (lo + (i : Nat))))) = 0
    omega
theorem fit_rng (lo hi : Int) : (D.lst (rngD lo hi)).flat = true ∧ SeqAt.shaped (D.lst (rngD lo hi)).py = true := by
  obtain ⟨h1, h2, h3⟩ := rng_flat (List.range (hi - lo).toNat) lo
  refine ⟨h1, ?_⟩
  show (PyData.canLayAll0 (D.pyL (rngD lo hi)) && decide (PyData.depthAll (D.pyL (rngD lo hi)) + 1 ≤ 64)) = true
  unfold rngD
  rw [h2, h3]; rfl
theorem rng_rises (xs : List D) : (!(rngD 1 ↑xs.length).any fun y => !ltI xs y) = risesB xs := by
  rw [List.not_any_eq_all_not]
  simp only [Bool.not_not]
  rw [Bool.eq_iff_iff, risesB_iff, List.all_eq_true]
  constructor
  · intro h i a b ha hb
    have hi := lt_of_get hb
    have := h (.int (1 + (i : Nat))) (List.mem_map.mpr ⟨i, List.mem_range.mpr (by omega), rfl⟩)
    rw [ltI_at ha hb] at this
    exact this
  · intro h x hx
    obtain ⟨i, hi, rfl⟩ := List.mem_map.mp hx
    have hi := List.mem_range.mp hi
    have hb : i + 1 < xs.length := by omega
    have ha : i < xs.length := by omega
    rw [ltI_at (List.getElem?_eq_getElem ha) (List.getElem?_eq_getElem hb)]
    exact h i _ _ (List.getElem?_eq_getElem ha) (List.getElem?_eq_getElem hb)
theorem bnd62_len {m : Nat} (h : m ≤ sizeLine) : bnd62 (m : Int) = true := by
  rw [sizeE] at h
  unfold bnd62
  rw [decide_eq_true]
  have e : (2 : Int) ^ 62 = 4611686018427387904 := rfl
  rw [e]
  omega
theorem bnd62_1 : bnd62 1 = true := rfl
theorem rng_len {m : Nat} (h : m ≤ sizeLine) : (rngD 1 (m : Int)).length ≤ sizeLine := by
  unfold rngD
  rw [List.length_map, List.length_range]
  omega
theorem run_law_rises (h : Φ "_law_rises" = some K01.fd__law_rises) (hc : Cmp xs) (hl : xs.length ≤ sizeLine) : run Φ (n + 1) "_law_rises" [.tup xs] S = .ok (.bl (risesB xs)) S := by
  rw [run_eq h, K01.fd__law_rises]
  clear h
  have hb : bnd62 (↑xs.length : Int) = true := bnd62_len hl
  have hb1 : bnd62 1 = true := bnd62_1
  walk_at "ev"
  rw [comp_filter (fun y => !ltI xs y) (fun y hy => ?_) (rng_len hl)]
  · have e := rng_rises xs
    have f := fit_rng 1 ↑xs.length
    have g := c_eqFil (p := fun y => !ltI xs y) (S := S) f.1 f.2
    walk_at "ev"
  · obtain ⟨i, hi, rfl⟩ := List.mem_map.mp hy
    have hi := List.mem_range.mp hi
    have hb : i + 1 < xs.length := by omega
    have ha : i < xs.length := by omega
    have e1 : (1 + (i : Int)) - 1 = (i : Nat) := by omega
    have e2 : (1 + (i : Int)) = ((i + 1 : Nat) : Int) := by omega
    have a1 := L2.atI_nat (List.getElem?_eq_getElem ha)
    have a2 := L2.atI_nat (List.getElem?_eq_getElem hb)
    have c := c_ltV (hc xs[i] (List.getElem_mem ha) xs[i+1] (List.getElem_mem hb) S)
    have l := ltI_at (List.getElem?_eq_getElem ha) (List.getElem?_eq_getElem hb)
    rw [← e2] at a2
    rw [← e1] at a1
    clear e1 e2
    walk_at "ev"
    cases ltV xs[i] xs[i + 1] <;> rfl
end
end OW
end
section
set_option Elab.async false
set_option linter.all false
set_option maxRecDepth 100000
set_option maxHeartbeats 4000000
namespace OW
open PySem
mutual
/-- a value that may be asked: sizes, signs, no list of the store -/
def okD : D → Bool
  | .str x => decide (x.length ≤ sizeLine) && PyData.canLay0 (.str x)
  | .tup xs => decide (xs.length ≤ sizeLine) && okL xs
  | .lst xs => decide (xs.length ≤ sizeLine) && okL xs
  | .ro _ => false
  | .loc _ => false
  | _ => true
def okL : List D → Bool
  | [] => true
  | x :: xs => okD x && okL xs
end
theorem okL_iff : ∀ {xs : List D}, okL xs = true ↔ ∀ x ∈ xs, okD x = true
  | [] => ⟨fun _ _ h => (by cases h), fun _ => rfl⟩
  | x :: xs => by
    show (okD x && okL xs) = true ↔ _
    rw [Bool.and_eq_true, okL_iff, List.forall_mem_cons]
theorem okD_tup {xs : List D} (h : okD (.tup xs) = true) : xs.length ≤ sizeLine ∧ okL xs = true := by
  have h' : (decide (xs.length ≤ sizeLine) && okL xs) = true := h
  simpa using h'
theorem okD_lst {xs : List D} (h : okD (.lst xs) = true) : xs.length ≤ sizeLine ∧ okL xs = true := by
  have h' : (decide (xs.length ≤ sizeLine) && okL xs) = true := h
  simpa using h'
theorem okD_str {x : Str} (h : okD (.str x) = true) : x.length ≤ sizeLine ∧ PyData.canLay0 (.str x) = true := by
  have h' : (decide (x.length ≤ sizeLine) && PyData.canLay0 (.str x)) = true := h
  simpa using h'
mutual
theorem okD_lay : ∀ {d : D}, okD d = true → d.flat = true ∧ PyData.canLay0 d.py = true
  | .non, _ => ⟨rfl, rfl⟩
  | .bl _, _ => ⟨rfl, rfl⟩
  | .int _, _ => ⟨rfl, rfl⟩
  | .str x, h => ⟨rfl, (okD_str h).2⟩
  | .tup xs, h => okL_lay (okD_tup h).2
  | .lst xs, h => okL_lay (okD_lst h).2
  | .ro _, h => by cases h
  | .loc _, h => by cases h
theorem okL_lay : ∀ {xs : List D}, okL xs = true → D.flatL xs = true ∧ PyData.canLayAll0 (D.pyL xs) = true
  | [], _ => ⟨rfl, rfl⟩
  | x :: xs, h => by
    have h' : (okD x && okL xs) = true := h
    rw [Bool.and_eq_true] at h'
    obtain ⟨a1, a2⟩ := okD_lay h'.1
    obtain ⟨b1, b2⟩ := okL_lay h'.2
    refine ⟨?_, ?_⟩
    · show (x.flat && D.flatL xs) = true
      rw [a1, b1]; rfl
    · show (PyData.canLay0 x.py && PyData.canLayAll0 (D.pyL xs)) = true
      rw [a2, b2]; rfl
end
/-- how deep -/
def dep (d : D) : Nat := d.py.depth
def depL (xs : List D) : Nat := PyData.depthAll (D.pyL xs)
theorem dep_tup {xs : List D} : dep (.tup xs) = depL xs + 1 := rfl
theorem dep_lst {xs : List D} : dep (.lst xs) = depL xs + 1 := rfl
theorem depL_le {m : Nat} : ∀ {xs : List D}, depL xs ≤ m ↔ ∀ x ∈ xs, dep x ≤ m
  | [] => ⟨fun _ _ h => (by cases h), fun _ => Nat.zero_le _⟩
  | x :: xs => by
    rw [List.forall_mem_cons, ← depL_le (xs := xs)]
    show max (dep x) (depL xs) ≤ m ↔ _
    omega
theorem shaped_of {d : D} (h : okD d = true) (h2 : dep d ≤ 64) : SeqAt.shaped d.py = true := by
  show (PyData.canLay0 d.py && decide (d.py.depth ≤ 64)) = true
  rw [(okD_lay h).2, decide_eq_true (show d.py.depth ≤ 64 from h2)]; rfl
theorem shapedL {xs : List D} (h : okL xs = true) (h2 : depL xs ≤ 63) : (D.lst xs).flat = true ∧ SeqAt.shaped (D.lst xs).py = true := by
  refine ⟨(okL_lay h).1, ?_⟩
  show (PyData.canLayAll0 (D.pyL xs) && decide (PyData.depthAll (D.pyL xs) + 1 ≤ 64)) = true
  rw [(okL_lay h).2, decide_eq_true (show PyData.depthAll (D.pyL xs) + 1 ≤ 64 from Nat.succ_le_succ h2)]; rfl
/-! ### facts -/
def isFactB (named : Bool) : D → Bool
  | .tup [a, .tup ys] => isNameB a && (decide (1 ≤ ys.length ∧ ys.length ≤ 2) && (ys.all (fun y => if named then isNameB y else isNumB y) && risesB ys))
  | _ => false
theorem cmp_names {xs : List D} (h : xs.all isNameB = true) : Cmp xs := by
  intro a ha b hb S
  have h1 := List.all_eq_true.mp h a ha
  have h2 := List.all_eq_true.mp h b hb
  cases a <;> first | (cases b <;> first | rfl | cases h2) | cases h1
theorem cmp_nums {xs : List D} (h : xs.all isNumB = true) : Cmp xs := by
  intro a ha b hb S
  have h1 := List.all_eq_true.mp h a ha
  have h2 := List.all_eq_true.mp h b hb
  cases a <;> first | (cases b <;> first | rfl | cases h2) | cases h1
theorem c_in12 {k : Int} {S : Store} : cmpD .In (.int k) (.tup [.int 1, .int 2]) S = .ok (.bl (1 == k || 2 == k)) S := by
  show Res.ok (D.bl (1 == k || (2 == k || false))) S = _
  rw [Bool.or_false]
theorem at_0 {α : Type} {a : α} {xs : List α} : L2.atI (a :: xs) 0 = some a := L2.atI_nat (j := 0) rfl
theorem at_1 {α : Type} {a b : α} {xs : List α} : L2.atI (a :: b :: xs) 1 = some b := L2.atI_nat (j := 1) rfl
theorem at_2 {α : Type} {a b c : α} {xs : List α} : L2.atI (a :: b :: c :: xs) 2 = some c := L2.atI_nat (j := 2) rfl
theorem c_eq2 {k : Int} {S : Store} : cmpD .Eq (.int k) (.int 2) S = .ok (.bl (decide (k = 2))) S := nr rfl
local macro_rules | `(tactic| walk_at "ev") => `(tactic| simp -dsimp only [bnd_ok, call_eq, e_var, vGet_some, e_cst, e_app, e_call, e_mcall, e_and, e_or, e_not, e_ite, e_chain, e_comp, cb_none, cb_some, a_nil, a_cons, i_seq, rngR_ok, i_range1, i_range2, i_zip, oNext_some, s_asg, s_par, s_sub, s_subs, s_expr, s_ret, s_pass, s_ifs, fb_some, s_for, b_nil, b_cons, for_nil, for_cons, sa_nil, sa_cons, p_bin, p_item, p_cmp, p_fn, p_tup, p_lst, p_lstM, p_inst, p_neg, o_some, b_addI, b_addS, b_addT, b_addL, b_sub, b_mulI, b_div, b_mod, c_lt, c_gt, c_le, c_ge, c_eqI, f_intI, f_intB, f_lenT, f_lenL, f_lenS, i_tup, i_lst, t_bl, t_non, need_dec, need_true, sizeE, st_nm, st_tu2, set_nil, set_cons, it_tup, it_lst, it_str, wipe_nil, wipe_cons, startD, tyOf, isT, Nat.reduceLT, Nat.reduceLeDiff, Nat.reduceAdd, Nat.reduceSub, Nat.reduceEqDiff, Int.reduceLT, Int.reduceLE, Int.reduceAdd, Int.reduceSub, Int.reduceNeg, Int.reduceToNat, Int.reducePow, decide_true, decide_false, if_true, if_false, Bool.false_eq_true, reduceIte, Bool.not_true, Bool.not_false, Bool.true_or, Bool.false_or, Bool.or_true, Bool.or_false, Bool.and_true, Bool.true_and, Bool.and_false, Bool.false_and, and_true, true_and, or_true, true_or, and_self, List.set_cons_zero, List.set_cons_succ, List.length_cons, List.length_nil, List.map_cons, List.map_nil, List.cons_append, List.nil_append, List.getElem?_cons_zero, List.getElem?_cons_succ, List.replicate_succ, List.replicate_zero, List.any_cons, List.any_nil, c_inLet, c_ninLet, f_allMap, p_sl1, c_in12, at_0, at_1, at_2, c_eq2, *])
section
variable {Φ : Tab} {n : Nat} {S : Store} {d : D} {xs : List D}
def isPairB : D → Bool
  | .tup xs => decide ((xs.length : Int) = 2)
  | _ => false
theorem run_is_pair (h : Φ "is_pair" = some K01.fd_is_pair) (hd : d.flat = true) : run Φ (n + 1) "is_pair" [d] S = .ok (.bl (isPairB d)) S := by
  rw [run_eq h, K01.fd_is_pair]
  clear h
  cases d <;> first | (walk_at "ev"; rfl) | cases hd
/-- the defs of kinds stand in the table -/
structure Kinds (Φ : Tab) : Prop where
  integer : Φ "is_integer" = some K01.fd_is_integer
  number : Φ "is_number" = some K01.fd_is_number
  name : Φ "is_name" = some K01.fd_is_name
  pair : Φ "is_pair" = some K01.fd_is_pair
  rising : Φ "is_rising" = some K01.fd_is_rising
  fact : Φ "is_fact" = some K01.fd_is_fact
  worldly : Φ "is_worldly" = some K01.fd_is_worldly
  row : Φ "is_row" = some K01.fd_is_row
  numbers : Φ "is_numbers" = some K01.fd_is_numbers
  lacking : Φ "is_lacking" = some K01.fd_is_lacking
  choices : Φ "is_choices" = some K01.fd_is_choices
  way : Φ "is_way" = some K01.fd_is_way
  form : Φ "is_form" = some K01.fd_is_form
theorem k_name (K : Kinds Φ) (hd : okD d = true) : run Φ (n + 1) "is_name" [d] S = .ok (.bl (isNameB d)) S :=
  run_is_name K.name (okD_lay hd).1 fun x e => (okD_str (e ▸ hd)).1
theorem k_number (K : Kinds Φ) (hd : okD d = true) : run Φ (n + 2) "is_number" [d] S = .ok (.bl (isNumB d)) S := run_is_number K.integer K.number (okD_lay hd).1
theorem k_pair (K : Kinds Φ) (hd : okD d = true) : run Φ (n + 1) "is_pair" [d] S = .ok (.bl (isPairB d)) S := run_is_pair K.pair (okD_lay hd).1
theorem comp_call {F : Fns} {i : Nat} {f : Str} {g : D → Bool} (h : ∀ x ∈ xs, F f [x] S = .ok (.bl (g x)) S) (hl : xs.length ≤ sizeLine) (ε : Sl) (hi : i < ε.length) : compGo (compBody F (.nm i) none (.call f [.var i]) ε) xs [] S = .ok (xs.map fun x => D.bl (g x)) S := by
  refine comp_map (fun x => D.bl (g x)) (fun y hy => ?_) hl
  have e := h y hy
  have e2 : (ε.set i (some y))[i]? = some (some y) := by rw [List.getElem?_set_self hi]
  walk_at "ev"
theorem comp_fnot {F : Fns} {i : Nat} {f : Str} {g : D → Bool} (h : ∀ x ∈ xs, F f [x] S = .ok (.bl (g x)) S) (hl : xs.length ≤ sizeLine) (ε : Sl) (hi : i < ε.length) : compGo (compBody F (.nm i) (some (.not (.call f [.var i]))) (.var i) ε) xs [] S = .ok (xs.filter fun x => !g x) S := by
  refine comp_filter (fun x => !g x) (fun y hy => ?_) hl
  have e := h y hy
  have e2 : (ε.set i (some y))[i]? = some (some y) := by rw [List.getElem?_set_self hi]
  cases hg : g y <;> (walk_at "ev")
theorem k_rising (K : Kinds Φ) (hc : Cmp xs) (hl : xs.length ≤ sizeLine) : run Φ (n + 1) "is_rising" [.tup xs] S = .ok (.bl (risesB xs)) S := run_is_rising K.rising hc hl
theorem k_fact (K : Kinds Φ) (hd : okD d = true) : run Φ (n + 2) "is_fact" [d] S = .ok (.bl (isFactB true d)) S := by
  rw [run_eq K.fact, K01.fd_is_fact]
  have hp := k_pair (n := n) (S := S) K hd
  cases d with
  | tup xs =>
    obtain ⟨hl, ho⟩ := okD_tup hd
    have ho' := okL_iff.mp ho
    clear hd ho
    match xs, hp, hl, ho' with
    | [], hp, _, _ =>
      have e : isPairB (.tup []) = false := rfl
      walk_at "ev"
      rfl
    | [a], hp, _, _ =>
      have e : isPairB (.tup [a]) = false := rfl
      walk_at "ev"
      cases a <;> rfl
    | a :: b :: c :: r, hp, _, _ =>
      have e : isPairB (.tup (a :: b :: c :: r)) = false := by unfold isPairB; simp; omega
      have e2 : isFactB true (.tup (a :: b :: c :: r)) = false := by cases b <;> rfl
      walk_at "ev"
    | [a, b], hp, _, ho' =>
      have hn := k_name (n := n) (S := S) K (ho' a (by simp))
      have e : isPairB (.tup [a, b]) = true := rfl
      cases hb : isNameB a
      · have e2 : isFactB true (.tup [a, b]) = false := by
          cases b <;> first | rfl | (show (isNameB a && _) = false; rw [hb]; rfl)
        walk_at "ev"
      · cases b with
        | tup ys =>
          obtain ⟨hly, hoy⟩ := okD_tup (ho' (.tup ys) (by simp))
          have hoy' := okL_iff.mp hoy
          have hc := comp_call (F := run Φ (n + 1)) (i := 2) (f := "is_name") (S := S) (fun x hx => k_name K (hoy' x hx)) hly
          have e2 : isFactB true (.tup [a, .tup ys]) = (decide (1 ≤ ys.length ∧ ys.length ≤ 2) && (ys.all isNameB && risesB ys)) := by
            show (isNameB a && (decide (1 ≤ ys.length ∧ ys.length ≤ 2) && (ys.all (fun y => isNameB y) && risesB ys))) = _
            rw [hb]; rfl
          have e3 : ((1 : Int) == ↑ys.length || (2 : Int) == ↑ys.length) = decide (1 ≤ ys.length ∧ ys.length ≤ 2) := by
            rw [Bool.eq_iff_iff]; simp; omega
          clear hoy hoy' ho' hly
          cases h1 : decide (1 ≤ ys.length ∧ ys.length ≤ 2)
          · walk_at "ev"
          · cases h2 : ys.all isNameB
            · walk_at "ev"
            · have hr := k_rising (n := n) (S := S) K (cmp_names h2) (by rw [decide_eq_true_eq] at h1; rw [sizeE]; omega)
              walk_at "ev"
        | _ =>
          have hbk := ho' _ (List.mem_cons_of_mem _ (List.mem_cons_self ..))
          first | (walk_at "ev"; rfl) | cases hbk
  | _ =>
    first
    | (have e : ∀ x, isPairB x = isPairB x := fun _ => rfl
       simp only [isPairB] at hp
       walk_at "ev"
       rfl)
    | cases hd
theorem k_worldly (K : Kinds Φ) (hd : okD d = true) : run Φ (n + 3) "is_worldly" [d] S = .ok (.bl (isFactB false d)) S := by
  rw [run_eq K.worldly, K01.fd_is_worldly]
  have hp := k_pair (n := n + 1) (S := S) K hd
  cases d with
  | tup xs =>
    obtain ⟨hl, ho⟩ := okD_tup hd
    have ho' := okL_iff.mp ho
    clear hd ho
    match xs, hp, hl, ho' with
    | [], hp, _, _ =>
      have e : isPairB (.tup []) = false := rfl
      walk_at "ev"
      rfl
    | [a], hp, _, _ =>
      have e : isPairB (.tup [a]) = false := rfl
      walk_at "ev"
      cases a <;> rfl
    | a :: b :: c :: r, hp, _, _ =>
      have e : isPairB (.tup (a :: b :: c :: r)) = false := by unfold isPairB; simp; omega
      have e2 : isFactB false (.tup (a :: b :: c :: r)) = false := by cases b <;> rfl
      walk_at "ev"
    | [a, b], hp, _, ho' =>
      have hn := k_name (n := n + 1) (S := S) K (ho' a (by simp))
      have e : isPairB (.tup [a, b]) = true := rfl
      cases hb : isNameB a
      · have e2 : isFactB false (.tup [a, b]) = false := by
          cases b <;> first | rfl | (show (isNameB a && _) = false; rw [hb]; rfl)
        walk_at "ev"
      · cases b with
        | tup ys =>
          obtain ⟨hly, hoy⟩ := okD_tup (ho' (.tup ys) (by simp))
          have hoy' := okL_iff.mp hoy
          have hc := comp_call (F := run Φ (n + 2)) (i := 2) (f := "is_number") (S := S) (fun x hx => k_number K (hoy' x hx)) hly
          have e2 : isFactB false (.tup [a, .tup ys]) = (decide (1 ≤ ys.length ∧ ys.length ≤ 2) && (ys.all isNumB && risesB ys)) := by
            show (isNameB a && (decide (1 ≤ ys.length ∧ ys.length ≤ 2) && (ys.all (fun y => isNumB y) && risesB ys))) = _
            rw [hb]; rfl
          have e3 : ((1 : Int) == ↑ys.length || (2 : Int) == ↑ys.length) = decide (1 ≤ ys.length ∧ ys.length ≤ 2) := by
            rw [Bool.eq_iff_iff]; simp; omega
          clear hoy hoy' ho' hly
          cases h1 : decide (1 ≤ ys.length ∧ ys.length ≤ 2)
          · walk_at "ev"
          · cases h2 : ys.all isNumB
            · walk_at "ev"
            · have hr := k_rising (n := n + 1) (S := S) K (cmp_nums h2) (by rw [decide_eq_true_eq] at h1; rw [sizeE]; omega)
              walk_at "ev"
        | _ =>
          have hbk := ho' _ (List.mem_cons_of_mem _ (List.mem_cons_self ..))
          first | (walk_at "ev"; rfl) | cases hbk
  | _ =>
    first
    | (have e : ∀ x, isPairB x = isPairB x := fun _ => rfl
       simp only [isPairB] at hp
       walk_at "ev"
       rfl)
    | cases hd
end
end OW
end
section
set_option Elab.async false
set_option linter.all false
set_option maxRecDepth 100000
set_option maxHeartbeats 4000000
namespace OW
open PySem
def isChoicesB : D → Bool
  | .tup xs => xs.all isNumB
  | _ => false
def isNumbersB : D → Bool
  | .tup xs => xs.all isNumB && risesB xs
  | _ => false
def isLackingB : D → Bool
  | .tup xs => xs.all (isFactB false) && risesB xs
  | _ => false
def isWayB : D → Bool
  | .tup [a, b] => isNumB a && isNumB b
  | _ => false
def isFormB : D → Bool
  | .tup [a, .tup ys] => isNumbersB a && (ys.all isWayB && risesB ys)
  | _ => false
def inB (w : Str) (ys : List D) : Bool := ys.any fun z => PyData.eqv z.py (.str w)
theorem ints_of : ∀ {ys : List D}, ys.all isNumB = true → ∃ ns : List Int, ys = ns.map D.int
  | [], _ => ⟨[], rfl⟩
  | y :: ys, h => by
    rw [List.all_cons, Bool.and_eq_true] at h
    obtain ⟨ns, rfl⟩ := ints_of h.2
    cases y with
    | int i => exact ⟨i :: ns, rfl⟩
    | _ => cases h.1
/-- the shape of a fact of values -/
theorem fact_shape {d : D} (h : isFactB false d = true) : ∃ (x : Str) (ns : List Int), d = .tup [.str x, .tup (ns.map D.int)] := by
  match d, h with
  | .tup [a, .tup ys], h =>
    have h' : (isNameB a && (decide (1 ≤ ys.length ∧ ys.length ≤ 2) && (ys.all (fun y => isNumB y) && risesB ys))) = true := h
    simp only [Bool.and_eq_true] at h'
    obtain ⟨h1, _, h2, _⟩ := h'
    have e1 : ∃ x, a = .str x := by
      cases a with
      | str x => exact ⟨x, rfl⟩
      | _ => cases h1
    have e2 : ∃ ns : List Int, ys = ns.map D.int := ints_of h2
    obtain ⟨x, rfl⟩ := e1
    obtain ⟨ns, rfl⟩ := e2
    exact ⟨x, ns, rfl⟩
theorem way_shape {d : D} (h : isWayB d = true) : ∃ i j, d = .tup [.int i, .int j] := by
  match d, h with
  | .tup [a, b], h =>
    have h' : (isNumB a && isNumB b) = true := h
    rw [Bool.and_eq_true] at h'
    cases a with
    | int i => cases b with
      | int j => exact ⟨i, j, rfl⟩
      | _ => cases h'.2
    | _ => cases h'.1
theorem ltD_tup {xs ys : List D} {S : Store} (h : ltOk (.tup xs) (.tup ys) = true) : ltD S (.tup xs) (.tup ys) = .ok (ltV (.tup xs) (.tup ys)) S := by
  show need (ltOk (.tup xs) (.tup ys)) (.ok (PySem.W.dataLt (D.tup xs).py (D.tup ys).py) S) = _
  rw [h]; rfl
theorem alike_ints : ∀ as bs : List Int, PySem.W.alikeAll (D.pyL (as.map D.int)) (D.pyL (bs.map D.int)) = true
  | [], _ => by
    show PySem.W.alikeAll [] _ = true
    unfold PySem.W.alikeAll
    rfl
  | _ :: _, [] => rfl
  | a :: as, b :: bs => by
    show (PySem.W.alike (.int a) (.int b) && PySem.W.alikeAll (D.pyL (as.map D.int)) (D.pyL (bs.map D.int))) = true
    rw [alike_ints as bs]; rfl
theorem cmp_facts {xs : List D} (h : xs.all (isFactB false) = true) : Cmp xs := by
  intro a ha b hb S
  obtain ⟨x, ns, rfl⟩ := fact_shape (List.all_eq_true.mp h a ha)
  obtain ⟨y, ms, rfl⟩ := fact_shape (List.all_eq_true.mp h b hb)
  refine ltD_tup ?_
  unfold ltOk
  have fl : ∀ (x : Str) (ns : List Int), (D.tup [.str x, .tup (ns.map D.int)]).flat = true := fun x ns => by
    show (true && ((D.flatL (ns.map D.int)) && true)) = true
    rw [(fit_ints ns).1]; rfl
  have dp : ∀ (x : Str) (ns : List Int), (D.tup [.str x, .tup (ns.map D.int)]).py.depth ≤ 64 := fun x ns => by
    show max 0 (max (PyData.depthAll (D.pyL (ns.map D.int)) + 1) 0) + 1 ≤ 64
    rw [(fit_ints ns).2.2]; decide
  have al : PySem.W.alike (D.tup [.str x, .tup (ns.map D.int)]).py (D.tup [.str y, .tup (ms.map D.int)]).py = true := by
    show (true && (PySem.W.alikeAll (D.pyL (ns.map D.int)) (D.pyL (ms.map D.int)) && PySem.W.alikeAll [] [])) = true
    rw [alike_ints]; rfl
  rw [fl, fl, al, decide_eq_true (dp _ _), decide_eq_true (dp _ _)]; rfl
theorem cmp_ways {xs : List D} (h : xs.all isWayB = true) : Cmp xs := by
  intro a ha b hb S
  obtain ⟨i, j, rfl⟩ := way_shape (List.all_eq_true.mp h a ha)
  obtain ⟨k, l, rfl⟩ := way_shape (List.all_eq_true.mp h b hb)
  exact ltD_tup rfl
theorem c_inW {w : Str} {ys : List D} {S : Store} (h : PyData.canLay0 (.str w) = true) (h2 : ((D.tup ys).flat && SeqAt.shaped (D.tup ys).py) = true) : cmpD .In (.str w) (.tup ys) S = .ok (.bl (inB w ys)) S := by
  show mapB id (need (eqOk (.str w) (.tup ys)) (.ok (ys.any fun z => PyData.eqv z.py (.str w)) S)) = _
  have : eqOk (.str w) (.tup ys) = true := by
    rw [Bool.and_eq_true] at h2
    unfold eqOk
    have e : SeqAt.shaped (D.str w).py = true := by
      show (PyData.canLay0 (.str w) && decide (0 ≤ 64)) = true
      rw [h]; rfl
    rw [h2.1, h2.2, e]; rfl
  rw [this]; rfl
theorem c_neS {x y : Str} {S : Store} (h : PyData.canLay0 (.str x) = true) (h2 : PyData.canLay0 (.str y) = true) : cmpD .NotEq (.str x) (.str y) S = .ok (.bl (!(x == y))) S := by
  show mapB not (need (eqOk (.str x) (.str y)) (.ok (x == y) S)) = _
  have e : ∀ w : Str, PyData.canLay0 (.str w) = true → SeqAt.shaped (D.str w).py = true := fun w h => by
    show (PyData.canLay0 (.str w) && decide (0 ≤ 64)) = true
    rw [h]; rfl
  have : eqOk (.str x) (.str y) = true := by unfold eqOk; rw [e x h, e y h2]; rfl
  rw [this]; rfl
theorem c_eqK {k j : Int} {S : Store} : cmpD .Eq (.int k) (.int j) S = .ok (.bl (decide (k = j))) S := nr rfl
theorem c_neK {k j : Int} {S : Store} : cmpD .NotEq (.int k) (.int j) S = .ok (.bl (!decide (k = j))) S := nr rfl
def isRowB : D → Bool
  | .tup (.str w :: rest) =>
    if inB w [.str "say", .str "look", .str "use"] then isFactB true (.tup rest)
    else if inB w [.str "take", .str "swap"] then (match rest with
      | [a, b] => isNameB a && (isNameB b && (match a, b with | .str x, .str y => !(x == y) | _, _ => false))
      | _ => false)
    else if inB w [.str "get", .str "tell"] then (match rest with
      | [a] => isNameB a
      | _ => false)
    else inB w [.str "never", .str "pass"] && rest.isEmpty
  | _ => false
local macro_rules | `(tactic| walk_at "ev") => `(tactic| simp -dsimp only [bnd_ok, call_eq, e_var, vGet_some, e_cst, e_app, e_call, e_mcall, e_and, e_or, e_not, e_ite, e_chain, e_comp, cb_none, cb_some, a_nil, a_cons, i_seq, rngR_ok, i_range1, i_range2, i_zip, oNext_some, s_asg, s_par, s_sub, s_subs, s_expr, s_ret, s_pass, s_ifs, fb_some, s_for, b_nil, b_cons, for_nil, for_cons, sa_nil, sa_cons, p_bin, p_item, p_cmp, p_fn, p_tup, p_lst, p_lstM, p_inst, p_neg, o_some, b_addI, b_addS, b_addT, b_addL, b_sub, b_mulI, b_div, b_mod, c_lt, c_gt, c_le, c_ge,  f_intI, f_intB, f_lenT, f_lenL, f_lenS, i_tup, i_lst, t_bl, t_non, need_dec, need_true, sizeE, st_nm, st_tu2, set_nil, set_cons, it_tup, it_lst, it_str, wipe_nil, wipe_cons, startD, tyOf, isT, Nat.reduceLT, Nat.reduceLeDiff, Nat.reduceAdd, Nat.reduceSub, Nat.reduceEqDiff, Int.reduceLT, Int.reduceLE, Int.reduceAdd, Int.reduceSub, Int.reduceNeg, Int.reduceToNat, Int.reducePow, decide_true, decide_false, if_true, if_false, Bool.false_eq_true, reduceIte, Bool.not_true, Bool.not_false, Bool.true_or, Bool.false_or, Bool.or_true, Bool.or_false, Bool.and_true, Bool.true_and, Bool.and_false, Bool.false_and, and_true, true_and, or_true, true_or, and_self, List.set_cons_zero, List.set_cons_succ, List.length_cons, List.length_nil, List.map_cons, List.map_nil, List.cons_append, List.nil_append, List.getElem?_cons_zero, List.getElem?_cons_succ, List.replicate_succ, List.replicate_zero, List.any_cons, List.any_nil, c_inLet, c_ninLet, f_allMap, p_sl1, c_in12, at_0, at_1, at_2, c_eqK, c_neK, *])
section
variable {Φ : Tab} {n : Nat} {S : Store} {d : D} {xs : List D}
theorem k_choices (K : Kinds Φ) (hd : okD d = true) : run Φ (n + 3) "is_choices" [d] S = .ok (.bl (isChoicesB d)) S := by
  rw [run_eq K.choices, K01.fd_is_choices]
  cases d with
  | tup xs =>
    obtain ⟨hl, ho⟩ := okD_tup hd
    have ho' := okL_iff.mp ho
    have hc := comp_call (F := run Φ (n + 2)) (i := 1) (f := "is_number") (S := S) (fun x hx => k_number K (ho' x hx)) hl
    clear hd ho ho' hl
    walk_at "ev"
    rfl
  | _ => first | (walk_at "ev"; rfl) | cases hd
theorem k_numbers (K : Kinds Φ) (hd : okD d = true) : run Φ (n + 4) "is_numbers" [d] S = .ok (.bl (isNumbersB d)) S := by
  rw [run_eq K.numbers, K01.fd_is_numbers]
  have hc := k_choices (n := n) (S := S) K hd
  cases d with
  | tup xs =>
    obtain ⟨hl, ho⟩ := okD_tup hd
    have e : isChoicesB (.tup xs) = xs.all isNumB := rfl
    have e2 : isNumbersB (.tup xs) = (xs.all isNumB && risesB xs) := rfl
    cases h2 : xs.all isNumB
    · walk_at "ev"
    · have hr := k_rising (n := n + 2) (S := S) K (cmp_nums h2) hl
      walk_at "ev"
  | _ =>
    simp only [isChoicesB] at hc
    first | (walk_at "ev"; rfl) | cases hd
theorem k_lacking (K : Kinds Φ) (hd : okD d = true) : run Φ (n + 4) "is_lacking" [d] S = .ok (.bl (isLackingB d)) S := by
  rw [run_eq K.lacking, K01.fd_is_lacking]
  cases d with
  | tup xs =>
    obtain ⟨hl, ho⟩ := okD_tup hd
    have ho' := okL_iff.mp ho
    have hc := comp_call (F := run Φ (n + 3)) (i := 1) (f := "is_worldly") (S := S) (fun x hx => k_worldly K (ho' x hx)) hl
    have e2 : isLackingB (.tup xs) = (xs.all (isFactB false) && risesB xs) := rfl
    clear hd ho ho'
    cases h2 : xs.all (isFactB false)
    · walk_at "ev"
    · have hr := k_rising (n := n + 2) (S := S) K (cmp_facts h2) hl
      walk_at "ev"
  | _ => first | (walk_at "ev"; rfl) | cases hd
theorem pair_cases (xs : List D) : (∃ a b, xs = [a, b]) ∨ (isPairB (.tup xs) = false ∧ isWayB (.tup xs) = false ∧ isFormB (.tup xs) = false ∧ ∀ b, isFactB b (.tup xs) = false) := by
  match xs with
  | [] => exact .inr ⟨rfl, rfl, rfl, fun _ => rfl⟩
  | [a] => exact .inr ⟨rfl, by cases a <;> rfl, by cases a <;> rfl, fun _ => by cases a <;> rfl⟩
  | [a, b] => exact .inl ⟨a, b, rfl⟩
  | a :: b :: c :: r => exact .inr ⟨by unfold isPairB; simp; omega, by cases b <;> rfl, by cases b <;> rfl, fun _ => by cases b <;> rfl⟩
theorem k_way (K : Kinds Φ) (hd : okD d = true) : run Φ (n + 3) "is_way" [d] S = .ok (.bl (isWayB d)) S := by
  rw [run_eq K.way, K01.fd_is_way]
  have hp := k_pair (n := n + 1) (S := S) K hd
  cases d with
  | tup xs =>
    obtain ⟨hl, ho⟩ := okD_tup hd
    have ho' := okL_iff.mp ho
    rcases pair_cases xs with ⟨a, b, rfl⟩ | ⟨e1, e2, _, _⟩
    · have ha := k_number (n := n) (S := S) K (ho' a (by simp))
      have hb := k_number (n := n) (S := S) K (ho' b (by simp))
      have e : isPairB (.tup [a, b]) = true := rfl
      have e2 : isWayB (.tup [a, b]) = (isNumB a && isNumB b) := rfl
      clear hd ho ho' hl
      cases h1 : isNumB a <;> cases h2 : isNumB b <;> (walk_at "ev")
    · clear hd ho ho' hl
      walk_at "ev"
  | _ =>
    simp only [isPairB] at hp
    first | (walk_at "ev"; rfl) | cases hd
theorem k_form (K : Kinds Φ) (hd : okD d = true) : run Φ (n + 5) "is_form" [d] S = .ok (.bl (isFormB d)) S := by
  rw [run_eq K.form, K01.fd_is_form]
  have hp := k_pair (n := n + 3) (S := S) K hd
  cases d with
  | tup xs =>
    obtain ⟨hl, ho⟩ := okD_tup hd
    have ho' := okL_iff.mp ho
    rcases pair_cases xs with ⟨a, b, rfl⟩ | ⟨e1, _, e2, _⟩
    · have ha := k_numbers (n := n) (S := S) K (ho' a (by simp))
      have e : isPairB (.tup [a, b]) = true := rfl
      have hbk := ho' b (by simp)
      clear hd ho ho' hl
      cases h1 : isNumbersB a
      · have e2 : isFormB (.tup [a, b]) = false := by
          cases b <;> first | rfl | (show (isNumbersB a && _) = false; rw [h1]; rfl)
        walk_at "ev"
      · cases b with
        | tup ys =>
          obtain ⟨hly, hoy⟩ := okD_tup hbk
          have hoy' := okL_iff.mp hoy
          have hc := comp_call (F := run Φ (n + 4)) (i := 1) (f := "is_way") (S := S) (fun x hx => k_way K (hoy' x hx)) hly
          have e2 : isFormB (.tup [a, .tup ys]) = (ys.all isWayB && risesB ys) := by
            show (isNumbersB a && _) = _
            rw [h1]; rfl
          clear hoy hoy' hbk
          cases h2 : ys.all isWayB
          · walk_at "ev"
          · have hr := k_rising (n := n + 3) (S := S) K (cmp_ways h2) hly
            walk_at "ev"
        | _ => first | (walk_at "ev"; rfl) | cases hbk
    · clear hd ho ho' hl
      walk_at "ev"
  | _ =>
    simp only [isPairB] at hp
    first | (walk_at "ev"; rfl) | cases hd
end
end OW
end
section
set_option Elab.async false
set_option linter.all false
set_option maxRecDepth 100000
set_option maxHeartbeats 4000000
namespace OW
open PySem
theorem nc0 : ((0 : Nat) : Int) = 0 := nr rfl
theorem nc1 : ((1 : Nat) : Int) = 1 := nr rfl
theorem nc2 : ((2 : Nat) : Int) = 2 := nr rfl
theorem nc3 : ((3 : Nat) : Int) = 3 := nr rfl
theorem nc4 : ((4 : Nat) : Int) = 4 := nr rfl
theorem nc5 : ((5 : Nat) : Int) = 5 := nr rfl
theorem nz0 {m : Nat} : decide (((m + 1 : Nat) : Int) = 0) = false := decide_eq_false (by omega)
theorem nz1 {m : Nat} : decide (((m + 1 + 1 : Nat) : Int) = 1) = false := decide_eq_false (by omega)
theorem nz2 {m : Nat} : decide (((m + 1 + 1 + 1 : Nat) : Int) = 2) = false := decide_eq_false (by omega)
theorem nz3 {m : Nat} : decide (((m + 1 + 1 + 1 + 1 : Nat) : Int) = 3) = false := decide_eq_false (by omega)
theorem nn_eq0 {m : Nat} : ((m : Int) + 1 = 0) = False := by simp; omega
theorem pair_len {xs : List D} : decide ((xs.length : Int) = 2) = isPairB (.tup xs) := rfl
def rowTwo : List D → Bool
  | [a, b] => isNameB a && (isNameB b && (match a, b with | .str x, .str y => !(x == y) | _, _ => false))
  | _ => false
theorem rowTwo2 {a b : D} : rowTwo [a, b] = (isNameB a && (isNameB b && (match a, b with | .str x, .str y => !(x == y) | _, _ => false))) := rfl
theorem rowTwoS {x y : Str} : rowTwo [.str x, .str y] = (isNameB (.str x) && (isNameB (.str y) && !(x == y))) := rfl
theorem rowTwo3 {a b c : D} {r : List D} : rowTwo (a :: b :: c :: r) = false := rfl
def rowOne : List D → Bool
  | [a] => isNameB a
  | _ => false
theorem rowOne2 {a b : D} {r : List D} : rowOne (a :: b :: r) = false := rfl
theorem isRowB_str {w : Str} {rest : List D} : isRowB (.tup (.str w :: rest)) = (if inB w [.str "say", .str "look", .str "use"] = true then isFactB true (.tup rest)
    else if inB w [.str "take", .str "swap"] = true then rowTwo rest
    else if inB w [.str "get", .str "tell"] = true then rowOne rest
    else inB w [.str "never", .str "pass"] && rest.isEmpty) := rfl
local macro_rules | `(tactic| walk_at "ev") => `(tactic| simp -dsimp only [bnd_ok, call_eq, e_var, vGet_some, e_cst, e_app, e_call, e_mcall, e_and, e_or, e_not, e_ite, e_chain, e_comp, cb_none, cb_some, a_nil, a_cons, i_seq, rngR_ok, i_range1, i_range2, i_zip, oNext_some, s_asg, s_par, s_sub, s_subs, s_expr, s_ret, s_pass, s_ifs, fb_some, s_for, b_nil, b_cons, for_nil, for_cons, sa_nil, sa_cons, p_bin, p_item, p_cmp, p_fn, p_tup, p_lst, p_lstM, p_inst, p_neg, o_some, b_addI, b_addS, b_addT, b_addL, b_sub, b_mulI, b_div, b_mod, c_lt, c_gt, c_le, c_ge, f_intI, f_intB, f_lenT, f_lenL, f_lenS, i_tup, i_lst, t_bl, t_non, need_dec, need_true, sizeE, st_nm, st_tu2, set_nil, set_cons, it_tup, it_lst, it_str, wipe_nil, wipe_cons, startD, tyOf, isT, Nat.reduceLT, Nat.reduceLeDiff, Nat.reduceAdd, Nat.reduceSub, Nat.reduceEqDiff, Int.reduceLT, Int.reduceEq, Int.reduceBEq, Int.reduceLE, Int.reduceAdd, Int.reduceSub, Int.reduceNeg, Int.reduceToNat, Int.reducePow, decide_true, decide_false, if_true, if_false, Bool.false_eq_true, reduceIte, Bool.not_true, Bool.not_false, Bool.true_or, Bool.false_or, Bool.or_true, Bool.or_false, Bool.and_true, Bool.true_and, Bool.and_false, Bool.false_and, and_true, true_and, or_true, true_or, and_self, List.set_cons_zero, List.set_cons_succ, List.length_cons, List.length_nil, List.map_cons, List.map_nil, List.cons_append, List.nil_append, List.getElem?_cons_zero, List.getElem?_cons_succ, List.replicate_succ, List.replicate_zero, List.any_cons, List.any_nil, c_inLet, c_ninLet, f_allMap, p_sl1, c_in12, at_0, at_1, at_2, c_eqK, c_neK, List.drop_succ_cons, List.drop_zero, nc0, nc1, nc2, nc3, nc4, nc5, nz0, nz1, nz2, nz3, rowTwo3, rowOne2, *])
section
variable {Φ : Tab} {n : Nat} {S : Store} {d : D} {xs : List D}
theorem k_row (K : Kinds Φ) (hd : okD d = true) : run Φ (n + 3) "is_row" [d] S = .ok (.bl (isRowB d)) S := by
  rw [run_eq K.row, K01.fd_is_row]
  cases d with
  | tup xs =>
    obtain ⟨hl, ho⟩ := okD_tup hd
    have ho' := okL_iff.mp ho
    match xs, hl, ho' with
    | [], _, _ => walk_at "ev"; rfl
    | a :: rest, hl, ho' =>
      have z : decide (((rest.length + 1 : Nat) : Int) = 0) = false := decide_eq_false (by omega)
      cases a with
      | str w =>
        have hw := (okD_str (ho' (.str w) (by simp))).2
        have hrest : okD (.tup rest) = true := by
          show (decide (rest.length ≤ sizeLine) && okL rest) = true
          rw [decide_eq_true (by rw [List.length_cons] at hl; omega), okL_iff.mpr fun x hx => ho' x (List.mem_cons_of_mem _ hx)]; rfl
        have i1 := c_inW (S := S) (ys := [.str "say", .str "look", .str "use"]) hw (by decide +kernel)
        have i2 := c_inW (S := S) (ys := [.str "take", .str "swap"]) hw (by decide +kernel)
        have i3 := c_inW (S := S) (ys := [.str "get", .str "tell"]) hw (by decide +kernel)
        have i4 := c_inW (S := S) (ys := [.str "never", .str "pass"]) hw (by decide +kernel)
        have hf := k_fact (n := n) (S := S) K hrest
        have hn : ∀ x ∈ rest, run Φ (n + 2) "is_name" [x] S = .ok (.bl (isNameB x)) S := fun x hx => k_name (n := n + 1) K (ho' x (List.mem_cons_of_mem _ hx))
        rw [isRowB_str]
        clear hd ho hl
        cases h1 : inB w [.str "say", .str "look", .str "use"]
        · cases h2 : inB w [.str "take", .str "swap"]
          · cases h3 : inB w [.str "get", .str "tell"]
            · cases h4 : inB w [.str "never", .str "pass"]
              · walk_at "ev"
              · cases rest with
                | nil => walk_at "ev"; rfl
                | cons b r =>
                  have z2 : decide (((r.length + 1 : Nat) : Int) = 0) = false := decide_eq_false (by omega)
                  walk_at "ev"
                  rfl
            · match rest, hn, z with
              | [], _, z => walk_at "ev"; rfl
              | [b], hn, z =>
                have hb := hn b (by simp)
                clear hn
                walk_at "ev"
                rfl
              | b :: c :: r, _, z =>
                have z2 : decide (((r.length + 1 + 1 : Nat) : Int) = 1) = false := decide_eq_false (by omega)
                walk_at "ev"
          · match rest, hn, z, ho' with
            | [], _, z, _ => walk_at "ev"; rfl
            | [b], hn, z, _ => walk_at "ev"; rfl
            | [b, c], hn, z, ho' =>
              have hb := hn b (by simp)
              have hc := hn c (by simp)
              have kb := ho' b (by simp)
              have kc := ho' c (by simp)
              clear hn ho' hf
              cases hb1 : isNameB b
              · have r2 : rowTwo [b, c] = false := by rw [rowTwo2, hb1]; rfl
                walk_at "ev"
              · cases hc1 : isNameB c
                · have r2 : rowTwo [b, c] = false := by rw [rowTwo2, hb1, hc1]; rfl
                  walk_at "ev"
                · cases b with
                  | str x => cases c with
                    | str y =>
                      have q := c_neS (S := S) (okD_str kb).2 (okD_str kc).2
                      have r2 : rowTwo [.str x, .str y] = !(x == y) := by rw [rowTwoS, hb1, hc1]; rfl
                      walk_at "ev"
                    | _ => cases hc1
                  | _ => cases hb1
            | b :: c :: dd :: r, _, z, _ =>
              have z2 : decide (((r.length + 1 + 1 + 1 : Nat) : Int) = 2) = false := decide_eq_false (by omega)
              walk_at "ev"
        · walk_at "ev"
      | _ => first | (walk_at "ev"; rfl) | (have hbk := ho' _ (List.mem_cons_self ..); cases hbk)
  | _ => first | (walk_at "ev"; rfl) | cases hd
end
end OW
end
section
set_option Elab.async false
set_option linter.all false
set_option maxRecDepth 100000
set_option maxHeartbeats 4000000
namespace OW
open PySem
theorem c_eqTnil {xs : List D} {S : Store} (h : okL xs = true) (h2 : depL xs ≤ 63) : cmpD .Eq (.tup xs) (.tup []) S = .ok (.bl xs.isEmpty) S := by
  show mapB id (need (eqOk (.tup xs) (.tup [])) (.ok (PyData.eqv (D.tup xs).py (D.tup []).py) S)) = _
  have : eqOk (.tup xs) (.tup []) = true := by
    unfold eqOk
    have e1 : (D.tup xs).flat = true := (okL_lay h).1
    have e2 : SeqAt.shaped (D.tup xs).py = true := by
      show (PyData.canLayAll0 (D.pyL xs) && decide (PyData.depthAll (D.pyL xs) + 1 ≤ 64)) = true
      rw [(okL_lay h).2, decide_eq_true (show PyData.depthAll (D.pyL xs) + 1 ≤ 64 from Nat.succ_le_succ h2)]; rfl
    rw [e1, e2]; rfl
  rw [this]
  cases xs <;> rfl
theorem c_isNon {S : Store} : cmpD .Is .non .non S = .ok (.bl true) S := nr rfl
theorem all_not_any {α : Type} {p : α → Bool} : ∀ {xs : List α}, (xs.any fun x => !p x) = !xs.all p
  | [] => rfl
  | x :: xs => by rw [List.any_cons, List.all_cons, all_not_any, Bool.not_and]
/-! the table of sizes -/
def szL : List (L2.Key × D) := putK (.inr "pass") (.int 1) (putK (.inr "never") (.int 1) (putK (.inr "tell") (.int 2) [(.inr "get", .int 2), (.inr "take", .int 3), (.inr "swap", .int 3), (.inr "say", .int 3), (.inr "look", .int 3), (.inr "use", .int 3)]))
theorem sub_app {S : Store} {x : Str} {d : D} {kvs : List (L2.Key × D)} (h : kvs.length < 1000) : subD (.loc S.length) (.str x) d (S ++ [.dct kvs]) = .ok () (S ++ [.dct (putK (.inr x) d kvs)]) := by
  rw [s_dctS (kvs := kvs) (by simp), need_dec h]
  congr 1
  simp [List.set_append]
theorem p_dct6 {S : Store} {a b c d e f : D} : primD (.dct [.inr "get", .inr "take", .inr "swap", .inr "say", .inr "look", .inr "use"]) [a, b, c, d, e, f] S = .ok (.loc S.length) (S ++ [.dct [(.inr "get", a), (.inr "take", b), (.inr "swap", c), (.inr "say", d), (.inr "look", e), (.inr "use", f)]]) := by
  show need (decide _) _ = _
  rw [need_dec ⟨rfl, by decide +kernel, by decide +kernel⟩]
  rfl
theorem kind_sz {S : Store} : kindOk .get (.loc S.length) (S ++ [.dct szL]) = true := by
  show (match (S ++ [Cell.dct szL])[S.length]? with
    | some (.dct _) => true
    | _ => false) = true
  simp
theorem get_sz {S : Store} {w : Str} : methD .get [.loc S.length, .str w, .int 0] (S ++ [.dct szL]) = .ok ((lookK (.inr w) szL).getD (.int 0)) (S ++ [.dct szL]) := by
  show (match (S ++ [Cell.dct szL])[S.length]? with
    | some (.dct kvs) => Res.ok ((lookK (.inr w) kvs).getD (.int 0)) (S ++ [Cell.dct szL])
    | _ => .bad) = _
  simp
abbrev Wf : List D := [.str "say", .str "look", .str "use"]
abbrev Wm : List D := [.str "take", .str "swap"]
abbrev Wg : List D := [.str "get", .str "tell"]
abbrev Wn : List D := [.str "never", .str "pass"]
theorem word_cases (w : Str) : (inB w Wf = true ∧ (lookK (.inr w) szL).getD (.int 0) = .int 3) ∨ (inB w Wf = false ∧ inB w Wm = true ∧ (lookK (.inr w) szL).getD (.int 0) = .int 3) ∨ (inB w Wf = false ∧ inB w Wm = false ∧ inB w Wg = true ∧ (lookK (.inr w) szL).getD (.int 0) = .int 2) ∨ (inB w Wf = false ∧ inB w Wm = false ∧ inB w Wg = false ∧ inB w Wn = true ∧ (lookK (.inr w) szL).getD (.int 0) = .int 1) ∨ (inB w Wf = false ∧ inB w Wm = false ∧ inB w Wg = false ∧ inB w Wn = false ∧ (lookK (.inr w) szL).getD (.int 0) = .int 0) := by
  by_cases h1 : w = "say"
  · subst h1; exact .inl ⟨by decide +kernel, rfl⟩
  by_cases h2 : w = "look"
  · subst h2; exact .inl ⟨by decide +kernel, rfl⟩
  by_cases h3 : w = "use"
  · subst h3; exact .inl ⟨by decide +kernel, rfl⟩
  by_cases h4 : w = "take"
  · subst h4; exact .inr (.inl ⟨by decide +kernel, by decide +kernel, rfl⟩)
  by_cases h5 : w = "swap"
  · subst h5; exact .inr (.inl ⟨by decide +kernel, by decide +kernel, rfl⟩)
  by_cases h6 : w = "get"
  · subst h6; exact .inr (.inr (.inl ⟨by decide +kernel, by decide +kernel, by decide +kernel, rfl⟩))
  by_cases h7 : w = "tell"
  · subst h7; exact .inr (.inr (.inl ⟨by decide +kernel, by decide +kernel, by decide +kernel, rfl⟩))
  by_cases h8 : w = "never"
  · subst h8; exact .inr (.inr (.inr (.inl ⟨by decide +kernel, by decide +kernel, by decide +kernel, by decide +kernel, rfl⟩)))
  by_cases h9 : w = "pass"
  · subst h9; exact .inr (.inr (.inr (.inl ⟨by decide +kernel, by decide +kernel, by decide +kernel, by decide +kernel, rfl⟩)))
  have e : ∀ x : Str, w ≠ x → PyData.eqv (D.str x).py (.str w) = false := fun x h => by
    show (x == w) = false
    simpa using fun q => h (Eq.symm q)
  have k : ∀ x : Str, w ≠ x → ¬ ((Sum.inr x : L2.Key) = .inr w) := fun x h q => h (Sum.inr.inj q).symm
  refine .inr (.inr (.inr (.inr ⟨?_, ?_, ?_, ?_, ?_⟩)))
  · simp [inB, e _ h1, e _ h2, e _ h3]
  · simp [inB, e _ h4, e _ h5]
  · simp [inB, e _ h6, e _ h7]
  · simp [inB, e _ h8, e _ h9]
  · have : szL = [(.inr "get", .int 2), (.inr "take", .int 3), (.inr "swap", .int 3), (.inr "say", .int 3), (.inr "look", .int 3), (.inr "use", .int 3), (.inr "tell", .int 2), (.inr "never", .int 1), (.inr "pass", .int 1)] := rfl
    rw [this]
    simp only [lookK, if_neg (k _ h1), if_neg (k _ h2), if_neg (k _ h3), if_neg (k _ h4), if_neg (k _ h5), if_neg (k _ h6), if_neg (k _ h7), if_neg (k _ h8), if_neg (k _ h9)]
    rfl
/-- the law's own defs stand in the table -/
structure LKinds (Φ : Tab) : Prop where
  name : Φ "_law_is_name" = some K01.fd__law_is_name
  number : Φ "_law_is_number" = some K01.fd__law_is_number
  rises : Φ "_law_rises" = some K01.fd__law_rises
  fact : Φ "_law_is_fact" = some K01.fd__law_is_fact
  sizes : Φ "_law_sizes" = some K01.fd__law_sizes
  row : Φ "_law_is_row" = some K01.fd__law_is_row
  set : Φ "_law_is_set" = some K01.fd__law_is_set
  lacking : Φ "_law_is_lacking" = some K01.fd__law_is_lacking
  way : Φ "_law_is_way" = some K01.fd__law_is_way
  form : Φ "_law_is_form" = some K01.fd__law_is_form
theorem notP {xs : List D} (h : isPairB (.tup xs) = false) : decide ((xs.length : Int) = 2) = false := h
local macro_rules | `(tactic| walk_at "ev") => `(tactic| simp -dsimp only [bnd_ok, call_eq, e_var, vGet_some, e_cst, e_app, e_call, e_mcall, e_and, e_or, e_not, e_ite, e_chain, e_comp, cb_none, cb_some, a_nil, a_cons, i_seq, rngR_ok, i_range1, i_range2, i_zip, oNext_some, s_asg, s_par, s_sub, s_subs, s_expr, s_ret, s_pass, s_ifs, fb_some, s_for, b_nil, b_cons, for_nil, for_cons, sa_nil, sa_cons, p_bin, p_item, p_cmp, p_fn, p_tup, p_lst, p_lstM, p_inst, p_neg, o_some, b_addI, b_addS, b_addT, b_addL, b_sub, b_mulI, b_div, b_mod, c_lt, c_gt, c_le, c_ge, f_intI, f_intB, f_lenT, f_lenL, f_lenS, i_tup, i_lst, t_bl, t_non, need_dec, need_true, sizeE, st_nm, st_tu2, set_nil, set_cons, it_tup, it_lst, it_str, wipe_nil, wipe_cons, startD, tyOf, isT, Nat.reduceLT, Nat.reduceLeDiff, Nat.reduceAdd, Nat.reduceSub, Nat.reduceEqDiff, Int.reduceLT, Int.reduceEq, Int.reduceBEq, Int.reduceLE, Int.reduceAdd, Int.reduceSub, Int.reduceNeg, Int.reduceToNat, Int.reducePow, decide_true, decide_false, if_true, if_false, Bool.false_eq_true, reduceIte, Bool.not_true, Bool.not_false, Bool.true_or, Bool.false_or, Bool.or_true, Bool.or_false, Bool.and_true, Bool.true_and, Bool.and_false, Bool.false_and, and_true, true_and, or_true, true_or, and_self, List.set_cons_zero, List.set_cons_succ, List.length_cons, List.length_nil, List.map_cons, List.map_nil, List.cons_append, List.nil_append, List.getElem?_cons_zero, List.getElem?_cons_succ, List.replicate_succ, List.replicate_zero, List.any_cons, List.any_nil, c_inLet, c_ninLet, f_allMap, p_sl1, c_in12, at_0, at_1, at_2, c_eqK, c_neK, List.drop_succ_cons, List.drop_zero, nc0, nc1, nc2, nc3, nc4, nc5, nz0, nz1, nz2, nz3, rowTwo3, rowOne2, c_isNon, Bool.not_not, *])
section
variable {Φ : Tab} {n : Nat} {S : Store} {d : D} {xs : List D}
theorem l_name (K : LKinds Φ) (hd : okD d = true) : run Φ (n + 1) "_law_is_name" [d] S = .ok (.bl (isNameB d)) S :=
  run_law_is_name K.name (okD_lay hd).1 fun x e => okD_str (e ▸ hd)
theorem l_number (K : LKinds Φ) (hd : okD d = true) : run Φ (n + 1) "_law_is_number" [d] S = .ok (.bl (isNumB d)) S := run_law_is_number K.number (okD_lay hd).1
theorem l_rises (K : LKinds Φ) (hc : Cmp xs) (hl : xs.length ≤ sizeLine) : run Φ (n + 1) "_law_rises" [.tup xs] S = .ok (.bl (risesB xs)) S := run_law_rises K.rises hc hl
theorem c_neNot {p : D → Bool} (ho : okL xs = true) (hp : depL xs ≤ 63) : cmpD .NotEq (.lst (xs.filter fun x => !p x)) (.lst []) S = .ok (.bl (!xs.all p)) S := by
  obtain ⟨f1, f2⟩ := shapedL ho hp
  rw [c_neFil f1 f2, all_not_any]
theorem c_eqNot {p : D → Bool} (ho : okL xs = true) (hp : depL xs ≤ 63) : cmpD .Eq (.lst (xs.filter fun x => !p x)) (.lst []) S = .ok (.bl (xs.all p)) S := by
  obtain ⟨f1, f2⟩ := shapedL ho hp
  rw [c_eqFil f1 f2, all_not_any, Bool.not_not]
def fitB (named : Bool) (y : D) : Bool := if named then isNameB y else isNumB y
theorem cmp_fit {named : Bool} (h : xs.all (fitB named) = true) : Cmp xs := by
  cases named
  · exact cmp_nums h
  · exact cmp_names h
theorem l_fact (K : LKinds Φ) {named : Bool} (hd : okD d = true) (hp : dep d ≤ 60) : run Φ (n + 2) "_law_is_fact" [d, .bl named] S = .ok (.bl (isFactB named d)) S := by
  rw [run_eq K.fact, K01.fd__law_is_fact]
  cases d with
  | tup xs =>
    obtain ⟨hl, ho⟩ := okD_tup hd
    have ho' := okL_iff.mp ho
    rcases pair_cases xs with ⟨a, b, rfl⟩ | ⟨e1, _, _, e2⟩
    · have ha := l_name (n := n) (S := S) K (ho' a (by simp))
      have hbk := ho' b (by simp)
      have hpb : dep b ≤ 60 := by
        rw [dep_tup] at hp
        exact depL_le.mp (show depL [a, b] ≤ 60 by omega) b (by simp)
      clear hd ho ho' hl hp
      cases h1 : isNameB a
      · have e2 : isFactB named (.tup [a, b]) = false := by
          cases b <;> first | rfl | (show (isNameB a && _) = false; rw [h1]; rfl)
        walk_at "ev"
      · cases b with
        | tup ys =>
          obtain ⟨hly, hoy⟩ := okD_tup hbk
          have hoy' := okL_iff.mp hoy
          rw [dep_tup] at hpb
          have hc : ∀ ε : Sl, ε = [some (D.tup [a, .tup ys]), some (.bl named), none] → compGo (compBody (run Φ (n + 1)) (.nm 2) (some (.not (.ite (.var 1) (.call "_law_is_name" [.var 2]) (.call "_law_is_number" [.var 2])))) (.var 2) ε) ys [] S = .ok (ys.filter fun x => !fitB named x) S := by
            intro ε he
            subst he
            refine comp_filter (fun x => !fitB named x) (fun y hy => ?_) hly
            have q1 := l_name (n := n) (S := S) K (hoy' y hy)
            have q2 := l_number (n := n) (S := S) K (hoy' y hy)
            cases named
            · have q3 : fitB false y = isNumB y := rfl
              cases h5 : isNumB y <;> (walk_at "ev")
            · have q3 : fitB true y = isNameB y := rfl
              cases h5 : isNameB y <;> (walk_at "ev")
          have hc' := hc _ rfl
          have hne := c_neNot (S := S) (p := fitB named) hoy (by omega)
          have e2 : isFactB named (.tup [a, .tup ys]) = (decide (1 ≤ ys.length ∧ ys.length ≤ 2) && (ys.all (fitB named) && risesB ys)) := by
            show (isNameB a && (decide (1 ≤ ys.length ∧ ys.length ≤ 2) && (ys.all (fun y => if named then isNameB y else isNumB y) && risesB ys))) = _
            rw [h1]; rfl
          by_cases h2 : (0 : Int) < ↑ys.length
          · by_cases h3 : (↑ys.length : Int) < 3
            · have h4 : (1 ≤ ys.length ∧ ys.length ≤ 2) := by omega
              cases h5 : ys.all (fitB named)
              · clear hc hoy hoy' hbk
                walk_at "ev"
              · have hr := l_rises (n := n) (S := S) K (cmp_fit h5) hly
                clear hc hoy hoy' hbk
                walk_at "ev"
            · have h4 : ¬ (1 ≤ ys.length ∧ ys.length ≤ 2) := by omega
              clear hc hoy hoy' hbk
              walk_at "ev"
          · have h4 : ¬ (1 ≤ ys.length ∧ ys.length ≤ 2) := by omega
            clear hc hoy hoy' hbk
            walk_at "ev"
        | _ => first | (walk_at "ev"; rfl) | cases hbk
    · have e3 := notP e1
      clear hd ho ho' hl
      walk_at "ev"
  | _ => first | (walk_at "ev"; rfl) | cases hd
theorem l_sizes (K : LKinds Φ) : run Φ (n + 1) "_law_sizes" [] S = .ok (.loc S.length) (S ++ [.dct szL]) := by
  rw [run_eq K.sizes, K01.fd__law_sizes]
  have a1 : ∀ d : D, subD (.loc S.length) (.str "tell") d (S ++ [.dct [(.inr "get", .int 2), (.inr "take", .int 3), (.inr "swap", .int 3), (.inr "say", .int 3), (.inr "look", .int 3), (.inr "use", .int 3)]]) = .ok () (S ++ [.dct (putK (.inr "tell") d [(.inr "get", .int 2), (.inr "take", .int 3), (.inr "swap", .int 3), (.inr "say", .int 3), (.inr "look", .int 3), (.inr "use", .int 3)])]) := fun d => sub_app (by simp)
  have a2 : subD (.loc S.length) (.str "never") (.int 1) (S ++ [.dct (putK (.inr "tell") (.int 2) [(.inr "get", .int 2), (.inr "take", .int 3), (.inr "swap", .int 3), (.inr "say", .int 3), (.inr "look", .int 3), (.inr "use", .int 3)])]) = .ok () (S ++ [.dct (putK (.inr "never") (.int 1) (putK (.inr "tell") (.int 2) [(.inr "get", .int 2), (.inr "take", .int 3), (.inr "swap", .int 3), (.inr "say", .int 3), (.inr "look", .int 3), (.inr "use", .int 3)]))]) := sub_app (by decide +kernel)
  have a3 : subD (.loc S.length) (.str "pass") (.int 1) (S ++ [.dct (putK (.inr "never") (.int 1) (putK (.inr "tell") (.int 2) [(.inr "get", .int 2), (.inr "take", .int 3), (.inr "swap", .int 3), (.inr "say", .int 3), (.inr "look", .int 3), (.inr "use", .int 3)]))]) = .ok () (S ++ [.dct szL]) := sub_app (by decide +kernel)
  have a0 := @p_dct6 S
  walk_at "ev"
end
end OW
end
section
set_option Elab.async false
set_option linter.all false
set_option maxRecDepth 100000
set_option maxHeartbeats 4000000
namespace OW
open PySem
local macro_rules | `(tactic| walk_at "ev") => `(tactic| simp -dsimp only [bnd_ok, call_eq, e_var, vGet_some, e_cst, e_app, e_call, e_mcall, e_and, e_or, e_not, e_ite, e_chain, e_comp, cb_none, cb_some, a_nil, a_cons, i_seq, rngR_ok, i_range1, i_range2, i_zip, oNext_some, s_asg, s_par, s_sub, s_subs, s_expr, s_ret, s_pass, s_ifs, fb_some, s_for, b_nil, b_cons, for_nil, for_cons, sa_nil, sa_cons, p_bin, p_item, p_cmp, p_fn, p_tup, p_lst, p_lstM, p_inst, p_neg, o_some, b_addI, b_addS, b_addT, b_addL, b_sub, b_mulI, b_div, b_mod, c_lt, c_gt, c_le, c_ge, f_intI, f_intB, f_lenT, f_lenL, f_lenS, i_tup, i_lst, t_bl, t_non, need_dec, need_true, sizeE, st_nm, st_tu2, set_nil, set_cons, it_tup, it_lst, it_str, wipe_nil, wipe_cons, startD, tyOf, isT, Nat.reduceLT, Nat.reduceLeDiff, Nat.reduceAdd, Nat.reduceSub, Nat.reduceEqDiff, Int.reduceLT, Int.reduceEq, Int.reduceBEq, Int.reduceLE, Int.reduceAdd, Int.reduceSub, Int.reduceNeg, Int.reduceToNat, Int.reducePow, decide_true, decide_false, if_true, if_false, Bool.false_eq_true, reduceIte, Bool.not_true, Bool.not_false, Bool.true_or, Bool.false_or, Bool.or_true, Bool.or_false, Bool.and_true, Bool.true_and, Bool.and_false, Bool.false_and, and_true, true_and, or_true, true_or, and_self, List.set_cons_zero, List.set_cons_succ, List.length_cons, List.length_nil, List.map_cons, List.map_nil, List.cons_append, List.nil_append, List.getElem?_cons_zero, List.getElem?_cons_succ, List.replicate_succ, List.replicate_zero, List.any_cons, List.any_nil, c_inLet, c_ninLet, f_allMap, p_sl1, c_in12, at_0, at_1, at_2, c_eqK, c_neK, List.drop_succ_cons, List.drop_zero, nc0, nc1, nc2, nc3, nc4, nc5, nz0, nz1, nz2, nz3, rowTwo3, rowOne2, c_isNon, Bool.not_not, *])
section
variable {Φ : Tab} {n : Nat} {S : Store} {d : D} {xs : List D}
theorem l_set (K : LKinds Φ) (hd : okD d = true) (hp : dep d ≤ 60) : run Φ (n + 2) "_law_is_set" [d, .non] S = .ok (.bl (isNumbersB d)) S := by
  rw [run_eq K.set, K01.fd__law_is_set]
  cases d with
  | tup xs =>
    obtain ⟨hl, ho⟩ := okD_tup hd
    have ho' := okL_iff.mp ho
    rw [dep_tup] at hp
    have hc := comp_fnot (F := run Φ (n + 1)) (i := 2) (f := "_law_is_number") (g := isNumB) (S := S) (fun x hx => l_number K (ho' x hx)) hl
    have hne := c_neNot (S := S) (p := isNumB) ho (by omega)
    have e2 : isNumbersB (.tup xs) = (xs.all isNumB && risesB xs) := rfl
    cases h5 : xs.all isNumB
    · clear hd ho ho' hl
      walk_at "ev"
    · have hr := l_rises (n := n) (S := S) K (cmp_nums h5) hl
      clear hd ho ho' hl
      cases h6 : risesB xs <;> (walk_at "ev")
  | _ => first | (walk_at "ev"; rfl) | cases hd
theorem l_lacking (K : LKinds Φ) (hd : okD d = true) (hp : dep d ≤ 60) : run Φ (n + 3) "_law_is_lacking" [d] S = .ok (.bl (isLackingB d)) S := by
  rw [run_eq K.lacking, K01.fd__law_is_lacking]
  cases d with
  | tup xs =>
    obtain ⟨hl, ho⟩ := okD_tup hd
    have ho' := okL_iff.mp ho
    rw [dep_tup] at hp
    have hp' := depL_le.mp (show depL xs ≤ 60 by omega)
    have hc : ∀ ε : Sl, 1 < ε.length → compGo (compBody (run Φ (n + 2)) (.nm 1) (some (.not (.call "_law_is_fact" [.var 1, .cst (.bl false)]))) (.var 1) ε) xs [] S = .ok (xs.filter fun x => !isFactB false x) S := by
      intro ε hi
      refine comp_filter (fun x => !isFactB false x) (fun y hy => ?_) hl
      have e := l_fact (n := n) (S := S) (named := false) K (ho' y hy) (hp' y hy)
      have e2 : (ε.set 1 (some y))[1]? = some (some y) := by rw [List.getElem?_set_self hi]
      cases hg : isFactB false y <;> (walk_at "ev")
    have hne := c_neNot (S := S) (p := isFactB false) ho (by omega)
    have e2 : isLackingB (.tup xs) = (xs.all (isFactB false) && risesB xs) := rfl
    cases h5 : xs.all (isFactB false)
    · clear hd ho ho' hl hp'
      walk_at "ev"
    · have hr := l_rises (n := n + 1) (S := S) K (cmp_facts h5) hl
      clear hd ho ho' hl hp'
      walk_at "ev"
  | _ => first | (walk_at "ev"; rfl) | cases hd
theorem l_way (K : LKinds Φ) (hd : okD d = true) : run Φ (n + 2) "_law_is_way" [d] S = .ok (.bl (isWayB d)) S := by
  rw [run_eq K.way, K01.fd__law_is_way]
  cases d with
  | tup xs =>
    obtain ⟨hl, ho⟩ := okD_tup hd
    have ho' := okL_iff.mp ho
    rcases pair_cases xs with ⟨a, b, rfl⟩ | ⟨e1, e2, _, _⟩
    · have ha := l_number (n := n) (S := S) K (ho' a (by simp))
      have hb := l_number (n := n) (S := S) K (ho' b (by simp))
      have e2 : isWayB (.tup [a, b]) = (isNumB a && isNumB b) := rfl
      clear hd ho ho' hl
      cases h1 : isNumB a <;> cases h2 : isNumB b <;> (walk_at "ev")
    · have e3 := notP e1
      clear hd ho ho' hl
      walk_at "ev"
  | _ => first | (walk_at "ev"; rfl) | cases hd
theorem l_form (K : LKinds Φ) (hd : okD d = true) (hp : dep d ≤ 60) : run Φ (n + 3) "_law_is_form" [d] S = .ok (.bl (isFormB d)) S := by
  rw [run_eq K.form, K01.fd__law_is_form]
  cases d with
  | tup xs =>
    obtain ⟨hl, ho⟩ := okD_tup hd
    have ho' := okL_iff.mp ho
    rcases pair_cases xs with ⟨a, b, rfl⟩ | ⟨e1, _, e2, _⟩
    · rw [dep_tup] at hp
      have hp' := depL_le.mp (show depL [a, b] ≤ 60 by omega)
      have ha := l_set (n := n) (S := S) K (ho' a (by simp)) (hp' a (by simp))
      have hbk := ho' b (by simp)
      have hpb := hp' b (by simp)
      clear hd ho ho' hl hp hp'
      cases h1 : isNumbersB a
      · have e2 : isFormB (.tup [a, b]) = false := by
          cases b <;> first | rfl | (show (isNumbersB a && _) = false; rw [h1]; rfl)
        walk_at "ev"
      · cases b with
        | tup ys =>
          obtain ⟨hly, hoy⟩ := okD_tup hbk
          have hoy' := okL_iff.mp hoy
          rw [dep_tup] at hpb
          have hc := comp_fnot (F := run Φ (n + 2)) (i := 1) (f := "_law_is_way") (g := isWayB) (S := S) (fun x hx => l_way K (hoy' x hx)) hly
          have hne := c_neNot (S := S) (p := isWayB) hoy (by omega)
          have e2 : isFormB (.tup [a, .tup ys]) = (ys.all isWayB && risesB ys) := by
            show (isNumbersB a && _) = _
            rw [h1]; rfl
          cases h2 : ys.all isWayB
          · clear hoy hoy' hbk hly
            walk_at "ev"
          · have hr := l_rises (n := n + 1) (S := S) K (cmp_ways h2) hly
            clear hoy hoy' hbk hly
            walk_at "ev"
        | _ => first | (walk_at "ev"; rfl) | cases hbk
    · have e3 := notP e1
      clear hd ho ho' hl
      walk_at "ev"
  | _ => first | (walk_at "ev"; rfl) | cases hd
theorem rowOne1 {a : D} : rowOne [a] = isNameB a := rfl
theorem l_row (K : LKinds Φ) (hd : okD d = true) (hp : dep d ≤ 60) : ∃ S', run Φ (n + 3) "_law_is_row" [d] S = .ok (.bl (isRowB d)) S' := by
  rw [run_eq K.row, K01.fd__law_is_row]
  cases d with
  | tup xs =>
    obtain ⟨hl, ho⟩ := okD_tup hd
    have ho' := okL_iff.mp ho
    rw [dep_tup] at hp
    have q0 := c_eqTnil (S := S) ho (by omega)
    match xs, hl, ho', ho, hp, q0 with
    | [], _, _, _, _, q0 => refine ⟨S, ?_⟩; have z : ([] : List D).isEmpty = true := rfl; walk_at "ev"; rfl
    | a :: rest, hl, ho', ho, hp, q0 =>
      have z : (a :: rest).isEmpty = false := rfl
      cases a with
      | str w =>
        have hw := (okD_str (ho' (.str w) (by simp))).2
        have hlr : rest.length ≤ sizeLine := by rw [List.length_cons] at hl; omega
        have hor : okL rest = true := okL_iff.mpr fun x hx => ho' x (List.mem_cons_of_mem _ hx)
        have hrest : okD (.tup rest) = true := by
          show (decide (rest.length ≤ sizeLine) && okL rest) = true
          rw [decide_eq_true hlr, hor]; rfl
        have hp' := depL_le.mp (show depL (.str w :: rest) ≤ 59 by omega)
        have hpr : depL rest ≤ 59 := depL_le.mpr fun x hx => hp' x (List.mem_cons_of_mem _ hx)
        have hpt : dep (.tup rest) ≤ 60 := by rw [dep_tup]; omega
        have i1 := c_inW (S := S ++ [.dct szL]) (ys := [.str "say", .str "look", .str "use"]) hw (by decide +kernel)
        have hf := l_fact (n := n) (S := S ++ [.dct szL]) (named := true) K hrest hpt
        have hz := l_sizes (n := n + 1) (S := S) K
        have hk := @kind_sz S
        have hg := @get_sz S w
        have hc := comp_fnot (F := run Φ (n + 2)) (i := 1) (f := "_law_is_name") (g := isNameB) (S := S ++ [.dct szL]) (fun x hx => l_name (n := n + 1) K (okL_iff.mp hor x hx)) hlr
        have hne := c_neNot (S := S ++ [.dct szL]) (p := isNameB) hor (by omega)
        rw [isRowB_str]
        have hor' := okL_iff.mp hor
        clear hd ho ho' hl hp hp' hor hpr hpt hrest hlr
        refine ⟨S ++ [.dct szL], ?_⟩
        rcases word_cases w with ⟨w1, ws⟩ | ⟨w1, w2, ws⟩ | ⟨w1, w2, w3, ws⟩ | ⟨w1, w2, w3, w4, ws⟩ | ⟨w1, w2, w3, w4, ws⟩
        · rcases pair_cases rest with ⟨b, c, rfl⟩ | ⟨e1, _, _, e2⟩
          · clear hor'
            walk_at "ev"
          · have e3 := e2 true
            have e4 : decide ((3 : Int) = ↑(rest.length + 1)) = false := decide_eq_false (by have := of_decide_eq_false (notP e1); omega)
            clear hor' e2
            walk_at "ev"
        · match rest, hor', hc, hne, hf with
          | [], _, hc, hne, _ =>
            have r0 : rowTwo [] = false := rfl
            clear hor'
            walk_at "ev"
          | [b], _, hc, hne, _ =>
            have r0 : rowTwo [b] = false := by cases b <;> rfl
            clear hor'
            walk_at "ev"
          | [b, c], hor', hc, hne, _ =>
            have kb := hor' b (by simp)
            have kc := hor' c (by simp)
            clear hor'
            have l0 : [b, c].all isNameB = (isNameB b && isNameB c) := by simp
            rw [l0] at hne
            cases hb1 : isNameB b
            · have r2 : rowTwo [b, c] = false := by rw [rowTwo2, hb1]; rfl
              rw [hb1] at hne
              walk_at "ev"
            · cases hc1 : isNameB c
              · have r2 : rowTwo [b, c] = false := by rw [rowTwo2, hb1, hc1]; rfl
                rw [hb1, hc1] at hne
                walk_at "ev"
              · rw [hb1, hc1] at hne
                cases b with
                | str x => cases c with
                  | str y =>
                    have q := c_neS (S := S ++ [.dct szL]) (okD_str kb).2 (okD_str kc).2
                    have r2 : rowTwo [.str x, .str y] = !(x == y) := by rw [rowTwoS, hb1, hc1]; rfl
                    walk_at "ev"
                  | _ => cases hc1
                | _ => cases hb1
          | b :: c :: dd :: r, _, hc, hne, _ =>
            have e4 : decide ((3 : Int) = ↑(r.length + 1 + 1 + 1 + 1)) = false := decide_eq_false (by omega)
            clear hor'
            walk_at "ev"
        · match rest, hor', hc, hne, hf with
          | [], _, hc, hne, _ =>
            have r0 : rowOne [] = false := rfl
            clear hor'
            walk_at "ev"
          | [b], _, hc, hne, _ =>
            have r0 := @rowOne1 b
            have l0 : [b].all isNameB = isNameB b := by simp
            rw [l0] at hne
            clear hor'
            cases hb1 : isNameB b
            · rw [hb1] at hne
              walk_at "ev"
            · rw [hb1] at hne
              walk_at "ev"
          | b :: c :: r, _, hc, hne, _ =>
            have e4 : decide ((2 : Int) = ↑(r.length + 1 + 1 + 1)) = false := decide_eq_false (by omega)
            clear hor'
            walk_at "ev"
        · cases rest with
          | nil =>
            have l0 : ([] : List D).all isNameB = true := rfl
            have l1 : ([] : List D).isEmpty = true := rfl
            clear hor'
            walk_at "ev"
          | cons b r =>
            have e4 : decide ((1 : Int) = ↑(r.length + 1 + 1)) = false := decide_eq_false (by omega)
            have l1 : (b :: r).isEmpty = false := rfl
            clear hor'
            walk_at "ev"
        · have e4 : decide ((0 : Int) = ↑(rest.length + 1)) = false := decide_eq_false (by omega)
          clear hor'
          walk_at "ev"
      | _ => first | (refine ⟨S, ?_⟩; walk_at "ev"; rfl) | (have hbk := ho' _ (List.mem_cons_self ..); cases hbk)
  | _ => first | (refine ⟨S, ?_⟩; walk_at "ev"; rfl) | cases hd
end
end OW
end
section
set_option Elab.async false
set_option linter.all false
set_option maxRecDepth 100000
set_option maxHeartbeats 4000000
namespace OW
open PySem
/-! ### the signs of a shown text -/
theorem okS_app {x y : Str} (h : PyData.strOk x = true) (h2 : PyData.strOk y = true) : PyData.strOk (x ++ y) = true := by
  have e : (x ++ y).cps = x.cps ++ y.cps := rfl
  unfold PyData.strOk at *
  rw [e, Array.all_append, h, h2]; rfl
theorem okS_iff {x : Str} : PyData.strOk x = true ↔ ∀ c ∈ x.cps.toList, c < 0x110000 := by
  unfold PyData.strOk
  rw [← Array.all_toList, List.all_eq_true]
  simp
theorem chr_lt (c : Char) : c.toNat < 0x110000 := by
  have := c.valid
  rcases this with h | ⟨_, h⟩
  · exact Nat.lt_of_lt_of_le h (by decide)
  · exact h
theorem okS_lit (s : String) : PyData.strOk (Str.ofString s) = true := by
  rw [okS_iff]
  intro c hc
  rw [Str.ofString_eq_toList] at hc
  have : c ∈ s.toList.map Char.toNat := by simpa using hc
  obtain ⟨k, _, rfl⟩ := List.mem_map.mp this
  exact chr_lt k
theorem okS_char {q c : Nat} (hq : q < 0x110000) (hc : c < 0x110000) : ∀ k ∈ Builtin.Str.reprChar q c, k < 0x110000 := by
  have hx : ∀ w, ∀ k ∈ List.replicate (w - ((Nat.toDigits 16 c).map Char.toNat).length) 48 ++ (Nat.toDigits 16 c).map Char.toNat, k < 0x110000 := by
    intro w k hk
    rcases List.mem_append.mp hk with h | h
    · rw [List.eq_of_mem_replicate h]; decide
    · obtain ⟨z, _, rfl⟩ := List.mem_map.mp h
      exact chr_lt z
  intro k hk
  unfold Builtin.Str.reprChar at hk
  simp only [] at hk
  split at hk
  · simp at hk; rcases hk with rfl | rfl <;> omega
  split at hk
  · simp at hk; omega
  split at hk
  · simp at hk; omega
  split at hk
  · simp at hk; omega
  split at hk
  · simp at hk; omega
  split at hk
  · rcases List.mem_append.mp hk with h | h
    · simp at h; omega
    · exact hx _ k h
  split at hk
  · rcases List.mem_append.mp hk with h | h
    · simp at h; omega
    · exact hx _ k h
  · rcases List.mem_append.mp hk with h | h
    · simp at h; omega
    · exact hx _ k h
theorem okS_repr {x : Str} (h : PyData.strOk x = true) : PyData.strOk (reprText x) = true := by
  rw [okS_iff] at *
  have hq : reprQuote x < 0x110000 := by unfold reprQuote; split <;> decide
  have key : ∀ (l : List Nat) (acc : Array Nat), (∀ c ∈ l, c < 0x110000) → (∀ c ∈ acc.toList, c < 0x110000) → ∀ c ∈ (l.foldl (fun out c => out ++ (Builtin.Str.reprChar (reprQuote x) c).toArray) acc).toList, c < 0x110000 := by
    intro l
    induction l with
    | nil => intro acc _ ha; exact ha
    | cons a l ih =>
      intro acc hl ha
      refine ih _ (fun c hc => hl c (List.mem_cons_of_mem _ hc)) ?_
      intro c hc
      rw [Array.toList_append] at hc
      rcases List.mem_append.mp hc with h1 | h1
      · exact ha c h1
      · exact okS_char hq (hl a (List.mem_cons_self ..)) c (by simpa using h1)
  intro c hc
  unfold reprText at hc
  simp only [Array.toList_push] at hc
  rcases List.mem_append.mp hc with h1 | h1
  · rw [← Array.foldl_toList] at h1
    exact key _ _ h (by simp; exact hq) c h1
  · simp at h1; omega
theorem okS_from : ∀ (ts : List Str) (k : Nat) (acc : Str), PyData.strOk acc = true → (∀ t ∈ ts, PyData.strOk t = true) → PyData.strOk (textFrom k acc ts) = true
  | [], _, acc, h, _ => h
  | t :: r, k, acc, h, ht => by
    show PyData.strOk (textFrom (k + 1) (acc ++ (if k > 0 then ", " else "" : String) ++ t) r) = true
    exact okS_from r (k + 1) _ (okS_app (okS_app h (okS_lit _)) (ht t (List.mem_cons_self ..))) fun u hu => ht u (List.mem_cons_of_mem _ hu)
theorem okS_join : ∀ (ts : List Str), (∀ t ∈ ts, PyData.strOk t = true) → PyData.strOk (Str.join ", " ts) = true
  | [], _ => okS_lit ""
  | [x], h => h x (by simp)
  | x :: y :: r, h => by
    show PyData.strOk (x ++ ", " ++ Str.join ", " (y :: r)) = true
    exact okS_app (okS_app (h x (by simp)) (okS_lit _)) (okS_join (y :: r) fun u hu => h u (List.mem_cons_of_mem _ hu))
mutual
theorem okS_shown : ∀ d : PyData, d.canLay0 = true → PyData.strOk d.shown = true
  | .none, _ => okS_lit _
  | .bool b, _ => by cases b <;> exact okS_lit _
  | .int i, _ => okS_lit _
  | .str x, h => okS_repr h
  | .list xs, h => okS_app (okS_from _ _ _ (okS_lit _) (okS_shownL xs h)) (okS_lit _)
  | .tuple xs, h => okS_app (okS_app (okS_lit _) (okS_join _ (okS_shownL xs h))) (okS_lit _)
  | .dict _, h => by cases h
theorem okS_shownL : ∀ xs : List PyData, PyData.canLayAll0 xs = true → ∀ t ∈ PyData.shownAll xs, PyData.strOk t = true
  | [], _, t, h => by cases h
  | x :: xs, h, t, ht => by
    have h' : (PyData.canLay0 x && PyData.canLayAll0 xs) = true := h
    rw [Bool.and_eq_true] at h'
    have ht' : t ∈ x.shown :: PyData.shownAll xs := ht
    rcases List.mem_cons.mp ht' with rfl | h2
    · exact okS_shown x h'.1
    · exact okS_shownL xs h'.2 t h2
end
/-! ### values with bounds -/
mutual
def valD (m : Nat) : D → Bool
  | .int i => decide (i.natAbs ≤ m)
  | .str x => PyData.strOk x
  | .tup xs => valL m xs
  | .lst xs => valL m xs
  | .ro _ => false
  | .loc _ => false
  | _ => true
def valL (m : Nat) : List D → Bool
  | [] => true
  | x :: xs => valD m x && valL m xs
end
mutual
def wtD : D → Nat
  | .str x => x.length + 1
  | .tup xs => wtL xs + 1
  | .lst xs => wtL xs + 1
  | _ => 1
def wtL : List D → Nat
  | [] => 0
  | x :: xs => wtD x + wtL xs
end
theorem valL_iff {m : Nat} : ∀ {xs : List D}, valL m xs = true ↔ ∀ x ∈ xs, valD m x = true
  | [] => ⟨fun _ _ h => (by cases h), fun _ => rfl⟩
  | x :: xs => by
    show (valD m x && valL m xs) = true ↔ _
    rw [Bool.and_eq_true, valL_iff, List.forall_mem_cons]
theorem wtD_pos (d : D) : 1 ≤ wtD d := by cases d <;> first | exact Nat.le_refl 1 | exact Nat.succ_le_succ (Nat.zero_le _)
theorem wtL_len : ∀ xs : List D, xs.length ≤ wtL xs
  | [] => Nat.le_refl _
  | x :: xs => by
    have h1 := wtD_pos x
    have h2 := wtL_len xs
    show xs.length + 1 ≤ wtD x + wtL xs
    omega
theorem wtL_mem : ∀ {xs : List D} {x : D}, x ∈ xs → wtD x ≤ wtL xs
  | y :: ys, x, h => by
    show _ ≤ wtD y + wtL ys
    rcases List.mem_cons.mp h with rfl | h
    · omega
    · have := wtL_mem h; omega
mutual
theorem val_ok {m : Nat} : ∀ {d : D}, valD m d = true → wtD d ≤ sizeLine → okD d = true
  | .non, _, _ => rfl
  | .bl _, _, _ => rfl
  | .int _, _, _ => rfl
  | .str x, h, hw => by
    have h' : PyData.strOk x = true := h
    have hw' : x.length + 1 ≤ sizeLine := hw
    show (decide (x.length ≤ sizeLine) && PyData.strOk x) = true
    rw [h', decide_eq_true (by omega)]; rfl
  | .tup xs, h, hw => by
    have hw' : wtL xs + 1 ≤ sizeLine := hw
    have hl := wtL_len xs
    show (decide (xs.length ≤ sizeLine) && okL xs) = true
    rw [valL_ok h (by omega), decide_eq_true (by omega)]; rfl
  | .lst xs, h, hw => by
    have hw' : wtL xs + 1 ≤ sizeLine := hw
    have hl := wtL_len xs
    show (decide (xs.length ≤ sizeLine) && okL xs) = true
    rw [valL_ok h (by omega), decide_eq_true (by omega)]; rfl
  | .ro _, h, _ => by cases h
  | .loc _, h, _ => by cases h
theorem valL_ok {m : Nat} : ∀ {xs : List D}, valL m xs = true → wtL xs ≤ sizeLine → okL xs = true
  | [], _, _ => rfl
  | x :: xs, h, hw => by
    have h' : (valD m x && valL m xs) = true := h
    have hw' : wtD x + wtL xs ≤ sizeLine := hw
    rw [Bool.and_eq_true] at h'
    show (okD x && okL xs) = true
    rw [val_ok h'.1 (by omega), valL_ok h'.2 (by omega)]; rfl
end
mutual
theorem val_show {m : Nat} (hm : m < 2 ^ 1000) : ∀ {d : D}, valD m d = true → d.py.showable = true
  | .non, _ => rfl
  | .bl _, _ => rfl
  | .int i, h => by
    have h' : i.natAbs ≤ m := by simpa [valD] using h
    show decide (i.natAbs.log2 < 1920) = true
    rw [decide_eq_true]
    rcases Nat.eq_zero_or_pos i.natAbs with e | e
    · rw [e]; decide
    · have h2 := (Nat.log2_lt (by omega : i.natAbs ≠ 0) (k := 1000)).mpr (by omega)
      omega
  | .str _, _ => rfl
  | .tup xs, h => valL_show hm h
  | .lst xs, h => valL_show hm h
  | .ro _, h => by cases h
  | .loc _, h => by cases h
theorem valL_show {m : Nat} (hm : m < 2 ^ 1000) : ∀ {xs : List D}, valL m xs = true → PyData.showableAll (D.pyL xs) = true
  | [], _ => rfl
  | x :: xs, h => by
    have h' : (valD m x && valL m xs) = true := h
    rw [Bool.and_eq_true] at h'
    show (x.py.showable && PyData.showableAll (D.pyL xs)) = true
    rw [val_show hm h'.1, valL_show hm h'.2]; rfl
end
theorem int_shown {i : Int} {k : Nat} (hk : 0 < k) (h : i.natAbs < 10 ^ k) : (PyData.shown (.int i)).length ≤ k + 1 := by
  have e := int_text_length_le10 (k := k) hk h
  show (Str.ofString (toString i)).length ≤ k + 1
  rw [ofString_length]; exact e
mutual
theorem val_shown {m : Nat} (hm : m < 10 ^ 99) : ∀ {d : D}, valD m d = true → d.py.shown.length + 2 ≤ 110 * wtD d
  | .non, _ => by show 4 + 2 ≤ 110 * 1; omega
  | .bl b, _ => by
    show (PyData.shown (.bool b)).length + 2 ≤ 110 * 1
    cases b <;> decide
  | .int i, h => by
    have h' : i.natAbs ≤ m := by simpa [valD] using h
    have := int_shown (i := i) (k := 99) (by decide) (by omega)
    show (PyData.shown (.int i)).length + 2 ≤ 110 * 1
    omega
  | .str x, h => by
    have h0 : PyData.strOk x = true := h
    have e := StrLaws.reprText_len x fun c hc => Nat.lt_trans (okS_iff.mp h0 c hc) (by decide)
    have e2 : x.length = x.cps.size := rfl
    show (reprText x).length + 2 ≤ 110 * (x.length + 1)
    omega
  | .tup xs, h => by
    have h1 := valL_shown hm h
    have h2 := tupleText_len_le (PyData.shownAll (D.pyL xs))
    have h3 := PyData.shownAll_length (D.pyL xs)
    rw [D.pyL_map, List.length_map] at h3
    have h4 := wtL_len xs
    show (tupleText (PyData.shownAll (D.pyL xs))).length + 2 ≤ 110 * (wtL xs + 1)
    rw [D.pyL_map] at *
    omega
  | .lst xs, h => by
    have h1 := valL_shown hm h
    have h2 := listText_len_le (PyData.shownAll (D.pyL xs))
    have h3 := PyData.shownAll_length (D.pyL xs)
    rw [D.pyL_map, List.length_map] at h3
    have h4 := wtL_len xs
    show (listText (PyData.shownAll (D.pyL xs))).length + 2 ≤ 110 * (wtL xs + 1)
    rw [D.pyL_map] at *
    omega
  | .ro _, h => by cases h
  | .loc _, h => by cases h
theorem valL_shown {m : Nat} (hm : m < 10 ^ 99) : ∀ {xs : List D}, valL m xs = true → ((PyData.shownAll (D.pyL xs)).map (·.length)).sum + 2 * xs.length ≤ 110 * wtL xs
  | [], _ => by show 0 + 2 * 0 ≤ _; omega
  | x :: xs, h => by
    have h' : (valD m x && valL m xs) = true := h
    rw [Bool.and_eq_true] at h'
    have h1 := val_shown hm h'.1
    have h2 := valL_shown hm h'.2
    show x.py.shown.length + ((PyData.shownAll (D.pyL xs)).map (·.length)).sum + 2 * (xs.length + 1) ≤ 110 * (wtD x + wtL xs)
    omega
end
theorem res_flat {d : D} {S : Store} (h : d.flat = true) : d.res S = d := by
  cases d <;> first | rfl | cases h
theorem f_repr {d : D} {S : Store} {m : Nat} (hm : m < 10 ^ 99) (h : valD m d = true) (hw : wtD d ≤ 100000) (hp : dep d ≤ 60) : fnD .repr d S = .ok (.str d.py.shown) S := by
  have hok := val_ok h (Nat.le_trans hw (by decide))
  have hf := (okD_lay hok).1
  show need ((d.res S).flat && (d.res S).py.showable && decide ((d.res S).py.shown.length ≤ sizeLine) && decide ((d.res S).py.depth ≤ 60)) (Res.ok (D.str (d.res S).py.shown) S) = _
  rw [res_flat hf, hf, val_show (Nat.lt_trans hm (by decide)) h, decide_eq_true (show d.py.depth ≤ 60 from hp), decide_eq_true (show d.py.shown.length ≤ sizeLine by
    have := val_shown hm h
    rw [sizeE]
    omega)]
  rfl
theorem c_eqSelf {x : Str} {S : Store} (h : PyData.strOk x = true) : cmpD .Eq (.str x) (.str x) S = .ok (.bl true) S := by
  show mapB id (need (eqOk (.str x) (.str x)) (.ok (x == x) S)) = _
  have e : SeqAt.shaped (D.str x).py = true := by
    show (PyData.strOk x && decide (0 ≤ 64)) = true
    rw [h]; rfl
  have : eqOk (.str x) (.str x) = true := by unfold eqOk; rw [e]; rfl
  rw [this, beq_self_eq_true]; rfl
end OW
end
section
set_option Elab.async false
set_option linter.all false
set_option maxRecDepth 100000
set_option maxHeartbeats 4000000
namespace OW
open PySem
structure Told (Φ : Tab) : Prop where
  k : Kinds Φ
  l : LKinds Φ
  due : Φ "_law_due" = some K01.fd__law_due
  told : Φ "_law_is_told" = some K01.fd__law_is_told
local macro_rules | `(tactic| walk_at "ev") => `(tactic| simp -dsimp only [bnd_ok, call_eq, e_var, vGet_some, e_cst, e_app, e_call, e_mcall, e_and, e_or, e_not, e_ite, e_chain, e_comp, cb_none, cb_some, a_nil, a_cons, i_seq, rngR_ok, i_range1, i_range2, i_zip, oNext_some, s_asg, s_par, s_sub, s_subs, s_expr, s_ret, s_pass, s_ifs, fb_some, s_for, b_nil, b_cons, for_nil, for_cons, sa_nil, sa_cons, p_bin, p_item, p_cmp, p_fn, p_tup, p_lst, p_lstM, p_inst, p_neg, o_some, b_addI, b_addS, b_addT, b_addL, b_sub, b_mulI, b_div, b_mod, c_lt, c_gt, c_le, c_ge, f_intI, f_intB, f_lenT, f_lenL, f_lenS, i_tup, i_lst, t_bl, t_non, need_dec, need_true, sizeE, st_nm, st_tu2, set_nil, set_cons, it_tup, it_lst, it_str, wipe_nil, wipe_cons, startD, tyOf, isT, Nat.reduceLT, Nat.reduceLeDiff, Nat.reduceAdd, Nat.reduceSub, Nat.reduceEqDiff, Int.reduceLT, Int.reduceEq, Int.reduceBEq, Int.reduceLE, Int.reduceAdd, Int.reduceSub, Int.reduceNeg, Int.reduceToNat, Int.reducePow, decide_true, decide_false, if_true, if_false, Bool.false_eq_true, reduceIte, Bool.not_true, Bool.not_false, Bool.true_or, Bool.false_or, Bool.or_true, Bool.or_false, Bool.and_true, Bool.true_and, Bool.and_false, Bool.false_and, and_true, true_and, or_true, true_or, and_self, List.set_cons_zero, List.set_cons_succ, List.length_cons, List.length_nil, List.map_cons, List.map_nil, List.cons_append, List.nil_append, List.getElem?_cons_zero, List.getElem?_cons_succ, List.replicate_succ, List.replicate_zero, List.any_cons, List.any_nil, p_sl1, at_0, at_1, at_2, c_eqK, c_neK, nc0, nc1, nc2, nc3, nc4, nc5, c_isNon, Bool.not_not, *])
local macro_rules | `(tactic| walk_at "evn") => `(tactic| simp -dsimp only [bnd_ok, call_eq, e_var, vGet_some, e_cst, e_app, e_call, e_mcall, e_and, e_or, e_not, e_ite, e_chain, e_comp, cb_none, cb_some, a_nil, a_cons, i_seq, rngR_ok, i_range1, i_range2, i_zip, oNext_some, s_asg, s_par, s_sub, s_subs, s_expr, s_ret, s_pass, s_ifs, fb_some, s_for, b_nil, b_cons, for_nil, for_cons, sa_nil, sa_cons, p_bin, p_item, p_cmp, p_fn, p_tup, p_lst, p_lstM, p_inst, p_neg, o_some, b_addI, b_addS, b_addT, b_addL, b_sub, b_mulI, b_div, b_mod, c_lt, c_gt, c_le, c_ge, f_intI, f_intB, f_lenT, f_lenL, f_lenS, i_tup, i_lst, t_bl, t_non, need_dec, need_true, sizeE, st_nm, st_tu2, set_nil, set_cons, it_tup, it_lst, it_str, wipe_nil, wipe_cons, startD, Nat.reduceLT, Nat.reduceLeDiff, Nat.reduceAdd, Nat.reduceSub, Nat.reduceEqDiff, Int.reduceLT, Int.reduceEq, Int.reduceBEq, Int.reduceLE, Int.reduceAdd, Int.reduceSub, Int.reduceNeg, Int.reduceToNat, Int.reducePow, decide_true, decide_false, if_true, if_false, Bool.false_eq_true, reduceIte, Bool.not_true, Bool.not_false, Bool.true_or, Bool.false_or, Bool.or_true, Bool.or_false, Bool.and_true, Bool.true_and, Bool.and_false, Bool.false_and, and_true, true_and, or_true, true_or, and_self, List.set_cons_zero, List.set_cons_succ, List.length_cons, List.length_nil, List.map_cons, List.map_nil, List.cons_append, List.nil_append, List.getElem?_cons_zero, List.getElem?_cons_succ, List.replicate_succ, List.replicate_zero, List.any_cons, List.any_nil, p_sl1, at_0, at_1, at_2, c_eqK, c_neK, nc0, nc1, nc2, nc3, nc4, nc5, c_isNon, Bool.not_not, *])
def isBoolB : D → Bool
  | .bl _ => true
  | _ => false
def isTupB : D → Bool
  | .tup _ => true
  | _ => false
section
variable {Φ : Tab} {n : Nat} {S : Store} {d : D} {xs : List D}
theorem l_due (K : Told Φ) (hd : okD d = true) (hp : dep d ≤ 60) : ∃ S', run Φ (n + 4) "_law_due" [d] S = .ok (.lst [.bl (isIntB d), .bl (isNumB d), .bl (isNameB d), .bl (isFactB true d), .bl (isFactB false d), .bl (isRowB d), .bl (isLackingB d), .bl (isChoicesB d), .bl (isWayB d), .bl (isFormB d)]) S' := by
  obtain ⟨S1, hr⟩ := l_row (n := n) (S := S) K.l hd hp
  refine ⟨S1, ?_⟩
  rw [run_eq K.due, K01.fd__law_due]
  have h1 := l_number (n := n + 2) (S := S) K.l hd
  have h2 := l_name (n := n + 2) (S := S) K.l hd
  have h3 := l_fact (n := n + 1) (S := S) (named := true) K.l hd hp
  have h4 := l_fact (n := n + 1) (S := S) (named := false) K.l hd hp
  have h5 := l_lacking (n := n) (S := S1) K.l hd hp
  have h6 := l_way (n := n + 1) (S := S1) K.l hd
  have h7 := l_form (n := n) (S := S1) K.l hd hp
  have t1 : isT (tyOf S d) .int = (isIntB d || isBoolB d) := by cases d <;> first | rfl | cases hd
  have t2 : isT (tyOf S d) .bool = isBoolB d := by cases d <;> first | rfl | cases hd
  have t3 : isT (tyOf S d) .tuple = isTupB d := by cases d <;> first | rfl | cases hd
  have t4 : isBoolB d = true → isIntB d = false := by cases d <;> intro h <;> first | rfl | cases h
  cases hT : isTupB d
  · have e : isChoicesB d = false := by cases d <;> first | rfl | cases hT
    cases hI : isIntB d <;> cases hB : isBoolB d
    · clear hd t4; walk_at "evn"
    · clear hd t4; walk_at "evn"
    · clear hd t4; walk_at "evn"
    · rw [t4 hB] at hI; cases hI
  · cases d with
    | tup xs =>
      obtain ⟨hl, ho⟩ := okD_tup hd
      have ho' := okL_iff.mp ho
      rw [dep_tup] at hp
      have hc := comp_fnot (F := run Φ (n + 3)) (i := 2) (f := "_law_is_number") (g := isNumB) (S := S) (fun x hx => l_number (n := n + 2) K.l (ho' x hx)) hl
      have hne := c_eqNot (S := S) (p := isNumB) ho (by omega)
      have e : isChoicesB (.tup xs) = xs.all isNumB := rfl
      have e2 : isIntB (.tup xs) = false := rfl
      clear hd ho ho' hl t1 t2 t3 t4
      walk_at "ev"
    | _ => cases hT
theorem told_ok (K : Told Φ) {m : Nat} (hm : m < 10 ^ 99) (hv : valD m d = true) (hw : wtD d ≤ 100000) (hp : dep d ≤ 60) : ∃ S', run Φ (n + 6) "_law_is_told" [d] S = .ok (.bl true) S' := by
  have hd : okD d = true := val_ok hv (Nat.le_trans hw (by decide))
  obtain ⟨S1, h0⟩ := l_due (n := n + 1) (S := S) K hd hp
  refine ⟨S1, ?_⟩
  rw [run_eq K.told, K01.fd__law_is_told]
  have r1 := f_repr (S := S) hm hv hw hp
  have r2 := f_repr (S := S1) hm hv hw hp
  have g1 := run_is_integer (n := n + 4) (S := S) K.k.integer (okD_lay hd).1
  have g2 := k_number (n := n + 3) (S := S) K.k hd
  have g3 := k_name (n := n + 4) (S := S) K.k hd
  have g4 := k_fact (n := n + 3) (S := S) K.k hd
  have g5 := k_worldly (n := n + 2) (S := S) K.k hd
  have g6 := k_row (n := n + 2) (S := S) K.k hd
  have g7 := k_lacking (n := n + 1) (S := S) K.k hd
  have g8 := k_choices (n := n + 2) (S := S) K.k hd
  have g9 := k_way (n := n + 2) (S := S) K.k hd
  have g10 := k_form (n := n) (S := S) K.k hd
  have hb := fun (S : Store) => f_repr (S := S) (m := 0) (d := .lst [.bl (isIntB d), .bl (isNumB d), .bl (isNameB d), .bl (isFactB true d), .bl (isFactB false d), .bl (isRowB d), .bl (isLackingB d), .bl (isChoicesB d), .bl (isWayB d), .bl (isFormB d)]) (by decide) rfl (by show 11 ≤ 100000; decide) (by show 1 ≤ 60; decide)
  have q1 := c_eqSelf (S := S1) (okS_shown d.py (okD_lay hd).2)
  have q2 := c_eqSelf (S := S1) (okS_shown (D.lst [.bl (isIntB d), .bl (isNumB d), .bl (isNameB d), .bl (isFactB true d), .bl (isFactB false d), .bl (isRowB d), .bl (isLackingB d), .bl (isChoicesB d), .bl (isWayB d), .bl (isFormB d)]).py rfl)
  clear hv hw hp hd hm
  walk_at "ev"
end
end OW
end
section
set_option Elab.async false
set_option linter.all false
set_option maxRecDepth 100000
set_option maxHeartbeats 4000000
namespace OW
open PySem
/-! ### pieces of lists -/
theorem cut_to {α : Type} (xs : List α) (k : Nat) : cut xs none (some (k : Int)) = xs.take k := by
  unfold cut
  rw [HT.sIx_none, HT.sIx_nat]
  simp
theorem cut_from {α : Type} (xs : List α) (k : Nat) : cut xs (some (k : Int)) none = xs.drop k := by
  unfold cut
  rw [HT.sIx_none, HT.sIx_nat]
  rcases Nat.le_total k xs.length with h | h
  · rw [Nat.min_eq_left h, List.take_of_length_le (by simp)]
  · rw [Nat.min_eq_right h, List.drop_of_length_le (Nat.le_refl _), List.drop_of_length_le h, List.take_nil]
theorem cut_sub {α : Type} (xs : List α) (lo hi : Option Int) : (cut xs lo hi).Sublist xs := (List.take_sublist _ _).trans (List.drop_sublist _ _)
theorem wtL_app : ∀ xs ys : List D, wtL (xs ++ ys) = wtL xs + wtL ys
  | [], ys => by show wtL ys = 0 + wtL ys; omega
  | x :: xs, ys => by
    show wtD x + wtL (xs ++ ys) = wtD x + wtL xs + wtL ys
    rw [wtL_app]; omega
theorem wtL_sub {xs ys : List D} (h : xs.Sublist ys) : wtL xs ≤ wtL ys := by
  induction h with
  | slnil => exact Nat.le_refl _
  | cons a _ ih => show _ ≤ wtD a + wtL _; omega
  | cons_cons a _ ih => show wtD a + wtL _ ≤ wtD a + wtL _; omega
theorem wtL_perm {xs ys : List D} (h : xs.Perm ys) : wtL xs = wtL ys := by
  induction h with
  | nil => rfl
  | cons x _ ih => show wtD x + wtL _ = wtD x + wtL _; rw [ih]
  | swap x y l => show wtD y + (wtD x + wtL l) = wtD x + (wtD y + wtL l); omega
  | trans _ _ h1 h2 => exact h1.trans h2
theorem wtL_le {c : Nat} : ∀ {xs : List D}, (∀ x ∈ xs, wtD x ≤ c) → wtL xs ≤ xs.length * c
  | [], _ => Nat.zero_le _
  | x :: xs, h => by
    have h1 := h x (List.mem_cons_self ..)
    have h2 := wtL_le fun y hy => h y (List.mem_cons_of_mem _ hy)
    show wtD x + wtL xs ≤ (xs.length + 1) * c
    rw [Nat.add_mul]; omega
theorem val_mono {m m' : Nat} (hm : m ≤ m') : ∀ {d : D}, valD m d = true → valD m' d = true := by
  suffices H : ∀ k, (∀ d : D, wtD d ≤ k → valD m d = true → valD m' d = true) from fun {d} h => H _ d (Nat.le_refl _) h
  intro k
  induction k with
  | zero => intro d hw; have := wtD_pos d; omega
  | succ k ih =>
    intro d hw h
    have hL : ∀ xs : List D, wtL xs ≤ k → valL m xs = true → valL m' xs = true := fun xs hx hv =>
      valL_iff.mpr fun x hx' => ih x (Nat.le_trans (wtL_mem hx') hx) (valL_iff.mp hv x hx')
    cases d with
    | int i =>
      have h' : i.natAbs ≤ m := by simpa [valD] using h
      simp [valD]; omega
    | tup xs => exact hL xs (by have : wtL xs + 1 ≤ k + 1 := hw; omega) h
    | lst xs => exact hL xs (by have : wtL xs + 1 ≤ k + 1 := hw; omega) h
    | _ => first | exact h | rfl
/-- a value with bounds -/
structure Val (m h w : Nat) (d : D) : Prop where
  v : valD m d = true
  h : dep d ≤ h
  w : wtD d ≤ w
structure Vals (m h w : Nat) (xs : List D) : Prop where
  v : valL m xs = true
  h : depL xs ≤ h
  w : wtL xs ≤ w
section
variable {m h w m' h' w' : Nat} {d : D} {xs ys : List D}
theorem Val.mono (v : Val m h w d) (a : m ≤ m') (b : h ≤ h') (c : w ≤ w') : Val m' h' w' d := ⟨val_mono a v.v, Nat.le_trans v.h b, Nat.le_trans v.w c⟩
theorem Vals.of (H : ∀ x ∈ xs, Val m h w x) : Vals m h (xs.length * w) xs := ⟨valL_iff.mpr fun x hx => (H x hx).v, depL_le.mpr fun x hx => (H x hx).h, wtL_le fun x hx => (H x hx).w⟩
theorem Vals.mem (v : Vals m h w xs) {x : D} (hx : x ∈ xs) : Val m h w x := ⟨valL_iff.mp v.v x hx, depL_le.mp v.h x hx, Nat.le_trans (wtL_mem hx) v.w⟩
theorem Vals.tup (v : Vals m h w xs) : Val m (h + 1) (w + 1) (.tup xs) := ⟨v.v, Nat.succ_le_succ v.h, Nat.succ_le_succ v.w⟩
theorem Vals.lst (v : Vals m h w xs) : Val m (h + 1) (w + 1) (.lst xs) := ⟨v.v, Nat.succ_le_succ v.h, Nat.succ_le_succ v.w⟩
theorem Vals.mono (v : Vals m h w xs) (a : m ≤ m') (b : h ≤ h') (c : w ≤ w') : Vals m' h' w' xs := ⟨valL_iff.mpr fun x hx => val_mono a (valL_iff.mp v.v x hx), Nat.le_trans v.h b, Nat.le_trans v.w c⟩
theorem Val.tup (v : Val m (h + 1) (w + 1) (.tup xs)) : Vals m h w xs := ⟨v.v, Nat.le_of_succ_le_succ v.h, Nat.le_of_succ_le_succ v.w⟩
theorem Vals.app (v : Vals m h w xs) (u : Vals m h w' ys) : Vals m h (w + w') (xs ++ ys) := ⟨valL_iff.mpr fun x hx => (List.mem_append.mp hx).elim (valL_iff.mp v.v x) (valL_iff.mp u.v x), depL_le.mpr fun x hx => (List.mem_append.mp hx).elim (depL_le.mp v.h x) (depL_le.mp u.h x), by rw [wtL_app]; exact Nat.add_le_add v.w u.w⟩
theorem Vals.sub (v : Vals m h w ys) (s : xs.Sublist ys) : Vals m h w xs := ⟨valL_iff.mpr fun x hx => valL_iff.mp v.v x (s.subset hx), depL_le.mpr fun x hx => depL_le.mp v.h x (s.subset hx), Nat.le_trans (wtL_sub s) v.w⟩
theorem Vals.perm (v : Vals m h w ys) (s : xs.Perm ys) : Vals m h w xs := ⟨valL_iff.mpr fun x hx => valL_iff.mp v.v x (s.mem_iff.mp hx), depL_le.mpr fun x hx => depL_le.mp v.h x (s.mem_iff.mp hx), by rw [wtL_perm s]; exact v.w⟩
theorem Vals.one (v : Val m h w d) : Vals m h w [d] := ⟨by show (valD m d && true) = true; rw [v.v]; rfl, depL_le.mpr fun x hx => by rw [List.mem_singleton.mp hx]; exact v.h, by show wtD d + 0 ≤ w; exact v.w⟩
theorem Vals.nil : Vals m h w [] := ⟨rfl, Nat.zero_le _, Nat.zero_le _⟩
theorem Vals.cons {x : D} (v : Val m h w x) (u : Vals m h w' ys) : Vals m h (w + w') (x :: ys) := Vals.app (xs := [x]) (Vals.one v) u
end
/-! ### the feed: what a draw gives -/
structure Gen (Φ : Tab) : Prop where
  draw : Φ "_law_draw" = some K01.fd__law_draw
  any : Φ "_law_any" = some K01.fd__law_any
/-- after: the feed stands, all else stays -/
structure Aft (f : Nat) (S S' : Store) : Prop where
  fd : Feed f S'
  s : Same f S S'
theorem Aft.trans {f : Nat} {S S1 S2 : Store} (a : Aft f S S1) (b : Aft f S1 S2) : Aft f S S2 := ⟨b.fd, a.s.trans b.s⟩
local macro_rules | `(tactic| walk_at "ev") => `(tactic| simp -dsimp only [bnd_ok, call_eq, e_var, vGet_some, e_cst, e_app, e_call, e_mcall, e_and, e_or, e_not, e_ite, e_chain, e_comp, cb_none, cb_some, a_nil, a_cons, i_seq, rngR_ok, i_range1, i_range2, i_zip, oNext_some, s_asg, s_par, s_sub, s_subs, s_expr, s_ret, s_pass, s_ifs, fb_some, s_for, b_nil, b_cons, for_nil, for_cons, sa_nil, sa_cons, p_bin, p_item, p_cmp, p_fn, p_tup, p_lst, p_lstM, p_inst, p_neg, o_some, b_addI, b_addS, b_addT, b_addL, b_sub, b_mulI, b_div, b_mod, c_lt, c_gt, c_le, c_ge, f_intI, f_intB, f_lenT, f_lenL, f_lenS, i_tup, i_lst, t_bl, t_non, need_dec, need_true, sizeE, st_nm, st_tu2, set_nil, set_cons, it_tup, it_lst, it_str, wipe_nil, wipe_cons, startD, tyOf, isT, Nat.reduceLT, Nat.reduceLeDiff, Nat.reduceAdd, Nat.reduceSub, Nat.reduceEqDiff, Int.reduceLT, Int.reduceEq, Int.reduceBEq, Int.reduceLE, Int.reduceAdd, Int.reduceSub, Int.reduceNeg, Int.reduceToNat, Int.reducePow, decide_true, decide_false, if_true, if_false, Bool.false_eq_true, reduceIte, Bool.not_true, Bool.not_false, Bool.true_or, Bool.false_or, Bool.or_true, Bool.or_false, Bool.and_true, Bool.true_and, Bool.and_false, Bool.false_and, and_true, true_and, or_true, true_or, and_self, List.set_cons_zero, List.set_cons_succ, List.length_cons, List.length_nil, List.map_cons, List.map_nil, List.cons_append, List.nil_append, List.getElem?_cons_zero, List.getElem?_cons_succ, List.replicate_succ, List.replicate_zero, List.any_cons, List.any_nil, p_sl1, at_0, at_1, at_2, c_eqK, c_neK, nc0, nc1, nc2, nc3, nc4, nc5, c_isNon, Bool.not_not, *])
section
variable {Φ : Tab} {n f : Nat} {S : Store} {d : D} {xs : List D}
theorem g_draw (G : Gen Φ) (hf : Feed f S) {m : Int} (hm : 0 < m) (hm2 : m < 1073741824) : ∃ (v : Int) (S' : Store), run Φ (n + 1) "_law_draw" [.loc f, .int m] S = .ok (.int v) S' ∧ 0 ≤ v ∧ v < m ∧ Aft f S S' := by
  obtain ⟨v, S', h1, h2, h3, h4, h5⟩ := draw_good (n := n) G.draw hm hm2 hf
  exact ⟨v, S', h1, h2, h3, h4, h5⟩
theorem g_anyL (G : Gen Φ) (hf : Feed f S) (h0 : 0 < xs.length) (hl : xs.length ≤ 1000000) : ∃ (x : D) (S' : Store), run Φ (n + 2) "_law_any" [.loc f, .lst xs] S = .ok x S' ∧ x ∈ xs ∧ Aft f S S' := by
  obtain ⟨v, S', h1, h2, h3, h4⟩ := g_draw (n := n) G hf (m := (xs.length : Int)) (by omega) (by omega)
  obtain ⟨x, hx, e⟩ := atI_in xs v h2 h3
  refine ⟨x, S', ?_, hx, h4⟩
  rw [run_eq G.any, K01.fd__law_any]
  walk_at "ev"
theorem g_anyT (G : Gen Φ) (hf : Feed f S) (h0 : 0 < xs.length) (hl : xs.length ≤ 1000000) : ∃ (x : D) (S' : Store), run Φ (n + 2) "_law_any" [.loc f, .tup xs] S = .ok x S' ∧ x ∈ xs ∧ Aft f S S' := by
  obtain ⟨v, S', h1, h2, h3, h4⟩ := g_draw (n := n) G hf (m := (xs.length : Int)) (by omega) (by omega)
  obtain ⟨x, hx, e⟩ := atI_in xs v h2 h3
  refine ⟨x, S', ?_, hx, h4⟩
  rw [run_eq G.any, K01.fd__law_any]
  walk_at "ev"
end
end OW
end
section
set_option Elab.async false
set_option linter.all false
set_option maxRecDepth 100000
set_option maxHeartbeats 4000000
namespace OW
open PySem
/-! Pl: the generators, one by one; each lemma tells how to go on behind the call. -/
theorem bnd_assoc {α β γ : Type} {r : Res α} {k : α → Store → Res β} {k2 : β → Store → Res γ} : bnd (bnd r k) k2 = bnd r fun a S => bnd (k a S) k2 := by
  cases r <;> exact nr rfl
theorem bnd_ite {α β : Type} {c : Prop} [Decidable c] {a b : Res α} {k : α → Store → Res β} : bnd (if c then a else b) k = if c then bnd a k else bnd b k := by
  by_cases h : c
  · rw [if_pos h, if_pos h]
  · rw [if_neg h, if_neg h]
theorem good_ok {α : Type} {a : α} {S : Store} {Q : α → Store → Prop} : (Res.ok a S).good Q = Q a S := nr rfl
theorem b_p1059 {S : Store} : binD .Pow (.int 10) (.int 59) S = .ok (.int 100000000000000000000000000000000000000000000000000000000000) S := nr rfl
theorem good_of {α β : Type} {r : Res α} {k : α → Store → Res β} {Q : β → Store → Prop} {a : α} {S : Store} (h : r = .ok a S) (g : (k a S).good Q) : (bnd r k).good Q := by
  rw [h]; exact g
section
variable {Φ : Tab} {n f : Nat} {S : Store} {d : D} {xs : List D} {β : Type} {k : D → Store → Res β} {Q : β → Store → Prop}
theorem c_draw (G : Gen Φ) (hf : Feed f S) {m : Int} (hm : 0 < m) (hm2 : m < 1073741824) (h : ∀ (v : Int) (S' : Store), 0 ≤ v → v < m → Aft f S S' → (k (.int v) S').good Q) : (bnd (run Φ (n + 1) "_law_draw" [.loc f, .int m] S) k).good Q := by
  obtain ⟨v, S', h1, h2, h3, h4⟩ := g_draw (n := n) G hf hm hm2
  exact good_of h1 (h v S' h2 h3 h4)
theorem c_anyL (G : Gen Φ) (hf : Feed f S) (h0 : 0 < xs.length) (hl : xs.length ≤ 1000000) (h : ∀ (x : D) (S' : Store), x ∈ xs → Aft f S S' → (k x S').good Q) : (bnd (run Φ (n + 2) "_law_any" [.loc f, .lst xs] S) k).good Q := by
  obtain ⟨x, S', h1, h2, h3⟩ := g_anyL (n := n) G hf h0 hl
  exact good_of h1 (h x S' h2 h3)
theorem c_anyT (G : Gen Φ) (hf : Feed f S) (h0 : 0 < xs.length) (hl : xs.length ≤ 1000000) (h : ∀ (x : D) (S' : Store), x ∈ xs → Aft f S S' → (k x S').good Q) : (bnd (run Φ (n + 2) "_law_any" [.loc f, .tup xs] S) k).good Q := by
  obtain ⟨x, S', h1, h2, h3⟩ := g_anyT (n := n) G hf h0 hl
  exact good_of h1 (h x S' h2 h3)
end
theorem all_of {α : Type} {P : α → Bool} {l : List α} (h : l.all P = true) {x : α} (hx : x ∈ l) : P x = true := List.all_eq_true.mp h x hx
/-- a value within bounds, to be reckoned -/
def valB (m h w : Nat) (d : D) : Bool := valD m d && decide (dep d ≤ h) && decide (wtD d ≤ w)
theorem valB_iff {m h w : Nat} {d : D} (e : valB m h w d = true) : Val m h w d := by
  unfold valB at e
  simp only [Bool.and_eq_true, decide_eq_true_eq] at e
  exact ⟨e.1.1, e.1.2, e.2⟩
/-- short names -/
def isNm : D → Bool
  | .str x => PyData.strOk x && decide (x.length ≤ 8)
  | _ => false
theorem nm_shape {d : D} (h : isNm d = true) : ∃ x : Str, d = .str x ∧ PyData.strOk x = true ∧ x.length ≤ 8 := by
  cases d with
  | str x =>
    have h : (PyData.strOk x && decide (x.length ≤ 8)) = true := h
    rw [Bool.and_eq_true, decide_eq_true_eq] at h
    exact ⟨x, rfl, h.1, h.2⟩
  | _ => cases h
theorem nm_val {d : D} (h : isNm d = true) : Val 0 0 9 d := by
  obtain ⟨x, rfl, h1, h2⟩ := nm_shape h
  exact ⟨h1, Nat.le_refl _, Nat.succ_le_succ h2⟩
structure GenA (Φ : Tab) : Prop where
  g : Gen Φ
  sorts : Φ "_law_sorts" = some K01.fd__law_sorts
  strange : Φ "_law_strange" = some K01.fd__law_strange
  line : Φ "_law_line" = some K01.fd__law_line
  worldly : Φ "_law_worldly" = some K01.fd__law_worldly
  shape : Φ "_law_shape" = some K01.fd__law_shape
  names : Φ "_law_names" = some K01.fd__law_names
  num : Φ "_law_is_number" = some K01.fd__law_is_number
  bent : Φ "_law_bent" = some K01.fd__law_bent
local macro_rules | `(tactic| walk_at "ev") => `(tactic| simp -dsimp only [bnd_ok, call_eq, e_var, vGet_some, e_cst, e_app, e_call, e_mcall, e_and, e_or, e_not, e_ite, e_chain, e_comp, cb_none, cb_some, a_nil, a_cons, i_seq, rngR_ok, i_range1, i_range2, i_zip, oNext_some, s_asg, s_par, s_sub, s_subs, s_expr, s_ret, s_pass, s_ifs, fb_some, s_for, b_nil, b_cons, for_nil, for_cons, sa_nil, sa_cons, p_bin, p_item, p_cmp, p_fn, p_tup, p_lst, p_lstM, p_inst, p_neg, o_some, b_addI, b_addS, b_addT, b_addL, b_sub, b_mulI, b_div, b_mod, c_lt, c_gt, c_le, c_ge, f_intI, f_intB, f_lenT, f_lenL, f_lenS, i_tup, i_lst, t_bl, t_non, need_dec, need_true, sizeE, st_nm, st_tu2, set_nil, set_cons, it_tup, it_lst, it_str, wipe_nil, wipe_cons, startD, tyOf, isT, Nat.reduceLT, Nat.reduceLeDiff, Nat.reduceAdd, Nat.reduceSub, Nat.reduceEqDiff, Int.reduceLT, Int.reduceEq, Int.reduceBEq, Int.reduceLE, Int.reduceAdd, Int.reduceSub, Int.reduceNeg, Int.reduceToNat, Int.reducePow, decide_true, decide_false, if_true, if_false, Bool.false_eq_true, reduceIte, Bool.not_true, Bool.not_false, Bool.true_or, Bool.false_or, Bool.or_true, Bool.or_false, Bool.and_true, Bool.true_and, Bool.and_false, Bool.false_and, and_true, true_and, or_true, true_or, and_self, List.set_cons_zero, List.set_cons_succ, List.length_cons, List.length_nil, List.map_cons, List.map_nil, List.cons_append, List.nil_append, List.getElem?_cons_zero, List.getElem?_cons_succ, List.replicate_succ, List.replicate_zero, List.any_cons, List.any_nil, p_sl1, at_0, at_1, at_2, c_eqK, c_neK, nc0, nc1, nc2, nc3, nc4, nc5, c_isNon, Bool.not_not, good_ok, b_p1059, *])
section
variable {Φ : Tab} {n f : Nat} {S : Store} {d : D} {xs : List D} {β : Type} {k : D → Store → Res β} {Q : β → Store → Prop}
theorem c_sorts (G : GenA Φ) (hf : Feed f S) (h : ∀ (xs : List D) (S' : Store), xs.all isNm = true → 0 < xs.length → xs.length ≤ 1000 → Aft f S S' → (k (.tup xs) S').good Q) : (bnd (run Φ (n + 3) "_law_sorts" [.loc f] S) k).good Q := by
  rw [run_eq G.sorts, K01.fd__law_sorts]
  (walk_at "ev"; try simp -dsimp only [bnd_assoc])
  refine c_anyL G.g hf (by decide) (by decide) fun x S1 hx hA => ?_
  (walk_at "ev"; try simp -dsimp only [bnd_assoc])
  simp only [List.mem_cons, List.not_mem_nil, or_false] at hx
  rcases hx with rfl | rfl | rfl | rfl <;> exact h _ _ (by decide +kernel) (by decide) (by decide) hA
theorem c_strange (G : GenA Φ) (hf : Feed f S) (h : ∀ (d : D) (S' : Store), Val (10 ^ 59) 4 60 d → Aft f S S' → (k d S').good Q) : (bnd (run Φ (n + 3) "_law_strange" [.loc f] S) k).good Q := by
  rw [run_eq G.strange, K01.fd__law_strange]
  (walk_at "ev"; try simp -dsimp only [bnd_assoc])
  refine c_anyL G.g hf (by decide) (by decide) fun x S1 hx hA => ?_
  (walk_at "ev"; try simp -dsimp only [bnd_assoc])
  exact h _ _ (valB_iff (all_of (P := valB (10 ^ 59) 4 60) (by decide +kernel) hx)) hA
end
end OW
end
section
set_option Elab.async false
set_option linter.all false
set_option maxRecDepth 100000
set_option maxHeartbeats 4000000
namespace OW
open PySem
/-! Pm: rows, facts of values, shapes. -/
theorem at_3 {α : Type} {a b c d : α} {xs : List α} : L2.atI (a :: b :: c :: d :: xs) 3 = some d := L2.atI_nat (j := 3) rfl
theorem p_sset {xs : List D} {S : Store} : primD .sortedSet [.lst xs] S = need (sortOk xs && setOk xs) (.ok (.lst (sortD (dedup xs))) S) := nr rfl
theorem f_sorted {xs : List D} {S : Store} : fnD .sorted (.lst xs) S = need (sortOk xs) (.ok (.lst (sortD xs)) S) := nr rfl
theorem f_tuple {xs : List D} {S : Store} : fnD .tuple (.lst xs) S = .ok (.tup xs) S := nr rfl
theorem f_list {xs : List D} {S : Store} : fnD .list (.tup xs) S = .ok (.lst xs) S := nr rfl
theorem c_eqS {x y : Str} {S : Store} (h : PyData.strOk x = true) (h2 : PyData.strOk y = true) : cmpD .Eq (.str x) (.str y) S = .ok (.bl (x == y)) S := by
  show mapB id (need (eqOk (.str x) (.str y)) (.ok (x == y) S)) = _
  have e : eqOk (.str x) (.str y) = true := by
    show (true && true && (PyData.strOk x && decide (0 ≤ 64)) && (PyData.strOk y && decide (0 ≤ 64))) = true
    rw [h, h2]; rfl
  rw [e]; rfl
/-! ### lists of one kind -/
structure Uni (K : D → Bool) : Prop where
  al : ∀ x y, K x = true → K y = true → PySem.W.alike x.py y.py = true
  fl : ∀ x, K x = true → x.flat = true ∧ x.keyD = true ∧ x.py.depth ≤ 8
  tp : (∀ x, K x = true → isTup1 x = true) ∨ (∀ x, K x = true → isKeyA x = true)
theorem keyL_of : ∀ {xs : List D}, (∀ x ∈ xs, x.keyD = true) → D.keyL xs = true
  | [], _ => rfl
  | x :: xs, h => by
    rw [keyL_cons, h x (List.mem_cons_self ..), keyL_of fun y hy => h y (List.mem_cons_of_mem _ hy)]; rfl
theorem uni_ok {K : D → Bool} (U : Uni K) {xs : List D} (h : xs.all K = true) (hl : xs.length ≤ 60) : sortOk xs = true ∧ setOk xs = true := by
  have hk := List.all_eq_true.mp h
  have at' : xs.all isTup1 = true ∨ xs.all isKeyA = true := U.tp.imp (fun t => List.all_eq_true.mpr fun x hx => t x (hk x hx)) fun t => List.all_eq_true.mpr fun x hx => t x (hk x hx)
  constructor
  · unfold sortOk
    have a1 : D.flatL xs = true := by rw [D.flatL_all]; exact List.all_eq_true.mpr fun x hx => (U.fl x (hk x hx)).1
    have a2 : (xs.all fun a => xs.all fun b => PySem.W.alike a.py b.py) = true := List.all_eq_true.mpr fun x hx => List.all_eq_true.mpr fun y hy => U.al x y (hk x hx) (hk y hy)
    have a3 : (xs.all fun a => decide (a.py.depth ≤ 64)) = true := List.all_eq_true.mpr fun x hx => decide_eq_true (Nat.le_trans (U.fl x (hk x hx)).2.2 (by decide))
    have a4 : (xs.all isTup1 || xs.all isAtom) = true := by
      rcases at' with t | t
      · rw [t]; rfl
      · have : xs.all isAtom = true := List.all_eq_true.mpr fun x hx => by
          have := List.all_eq_true.mp t x hx
          cases x <;> first | rfl | cases this
        rw [this, Bool.or_true]
    rw [a1, a2, a3, a4, decide_eq_true (show xs.length ≤ 1000000 by omega)]; rfl
  · unfold setOk
    have a2 : D.keyL xs = true := keyL_of fun x hx => (U.fl x (hk x hx)).2.1
    have a3 : (xs.all fun a => decide (a.py.depth ≤ 8)) = true := List.all_eq_true.mpr fun x hx => decide_eq_true (U.fl x (hk x hx)).2.2
    have a4 : (xs.all isTup1 || xs.all isKeyA) = true := by
      rcases at' with t | t
      · rw [t]; rfl
      · rw [t, Bool.or_true]
    rw [decide_eq_true hl, a2, a3, a4]; rfl
theorem dedup_len : ∀ xs : List D, (dedup xs).length ≤ xs.length
  | [] => Nat.le_refl _
  | x :: xs => by
    show ((dedup xs).filter _).length + 1 ≤ xs.length + 1
    have := List.length_filter_le (fun y => !PyData.eqv y.py x.py) (dedup xs)
    have := dedup_len xs
    omega
theorem sd_all {K : D → Bool} {xs : List D} (h : xs.all K = true) : (sortD xs).all K = true ∧ (sortD xs).length = xs.length :=
  ⟨List.all_eq_true.mpr fun x hx => List.all_eq_true.mp h x ((List.mergeSort_perm ..).mem_iff.mp hx), List.length_mergeSort ..⟩
theorem ss_all {K : D → Bool} {xs : List D} (h : xs.all K = true) : (sortD (dedup xs)).all K = true ∧ (sortD (dedup xs)).length ≤ xs.length := by
  have h1 : (dedup xs).all K = true := List.all_eq_true.mpr fun x hx => List.all_eq_true.mp h x (dedup_sub hx)
  have h2 := sd_all h1
  exact ⟨h2.1, by rw [h2.2]; exact dedup_len xs⟩
theorem uni_nm : Uni isNm where
  al := fun x y hx hy => by
    obtain ⟨a, rfl, _⟩ := nm_shape hx
    obtain ⟨b, rfl, _⟩ := nm_shape hy
    rfl
  fl := fun x hx => by
    obtain ⟨a, rfl, _⟩ := nm_shape hx
    exact ⟨rfl, rfl, Nat.zero_le _⟩
  tp := .inr fun x hx => by
    obtain ⟨a, rfl, _⟩ := nm_shape hx
    rfl
/-- small numbers -/
def isNu : D → Bool
  | .int i => decide (i.natAbs ≤ 10 ^ 59)
  | _ => false
theorem nu_shape {d : D} (h : isNu d = true) : ∃ i : Int, d = .int i ∧ i.natAbs ≤ 10 ^ 59 := by
  cases d with
  | int i => exact ⟨i, rfl, of_decide_eq_true h⟩
  | _ => cases h
theorem uni_nu : Uni isNu where
  al := fun x y hx hy => by
    obtain ⟨a, rfl, _⟩ := nu_shape hx
    obtain ⟨b, rfl, _⟩ := nu_shape hy
    rfl
  fl := fun x hx => by
    obtain ⟨a, rfl, _⟩ := nu_shape hx
    exact ⟨rfl, rfl, Nat.zero_le _⟩
  tp := .inr fun x hx => by
    obtain ⟨a, rfl, _⟩ := nu_shape hx
    rfl
def isPr : D → Bool
  | .tup [a, b] => isNu a && isNu b
  | _ => false
theorem pr_shape {d : D} (h : isPr d = true) : ∃ i j : Int, d = .tup [.int i, .int j] ∧ i.natAbs ≤ 10 ^ 59 ∧ j.natAbs ≤ 10 ^ 59 := by
  match d, h with
  | .tup [a, b], h =>
    have h : (isNu a && isNu b) = true := h
    rw [Bool.and_eq_true] at h
    obtain ⟨i, rfl, hi⟩ := nu_shape h.1
    obtain ⟨j, rfl, hj⟩ := nu_shape h.2
    exact ⟨i, j, rfl, hi, hj⟩
theorem uni_pr : Uni isPr where
  al := fun x y hx hy => by
    obtain ⟨a, b, rfl, _⟩ := pr_shape hx
    obtain ⟨c, d, rfl, _⟩ := pr_shape hy
    rfl
  fl := fun x hx => by
    obtain ⟨a, b, rfl, _⟩ := pr_shape hx
    exact ⟨rfl, rfl, (by show 1 ≤ 8; decide)⟩
  tp := .inl fun x hx => by
    obtain ⟨a, b, rfl, _⟩ := pr_shape hx
    rfl
/-- facts of values -/
def isWl : D → Bool
  | .tup [a, .tup ys] => isNm a && ys.all isNu && decide (ys.length ≤ 2)
  | _ => false
theorem wl_shape {d : D} (h : isWl d = true) : ∃ (x : Str) (ys : List D), d = .tup [.str x, .tup ys] ∧ isNm (.str x) = true ∧ ys.all isNu = true ∧ ys.length ≤ 2 := by
  match d, h with
  | .tup [a, .tup ys], h =>
    have h : (isNm a && ys.all isNu && decide (ys.length ≤ 2)) = true := h
    simp only [Bool.and_eq_true, decide_eq_true_eq] at h
    obtain ⟨x, rfl, _⟩ := nm_shape h.1.1
    exact ⟨x, ys, rfl, h.1.1, h.1.2, h.2⟩
theorem nus_alike : ∀ {xs ys : List D}, xs.all isNu = true → ys.all isNu = true → PySem.W.alikeAll (D.pyL xs) (D.pyL ys) = true
  | [], ys, _, _ => by cases ys <;> simp [D.pyL, PySem.W.alikeAll]
  | _ :: _, [], _, _ => by simp [D.pyL, PySem.W.alikeAll]
  | x :: xs, y :: ys, h1, h2 => by
    simp only [List.all_cons, Bool.and_eq_true] at h1 h2
    show (PySem.W.alike x.py y.py && PySem.W.alikeAll (D.pyL xs) (D.pyL ys)) = true
    rw [uni_nu.al x y h1.1 h2.1, nus_alike h1.2 h2.2]; rfl
theorem nus_fl : ∀ {xs : List D}, xs.all isNu = true → D.flatL xs = true ∧ D.keyL xs = true ∧ PyData.depthAll (D.pyL xs) = 0
  | [], _ => ⟨rfl, rfl, rfl⟩
  | x :: xs, h => by
    simp only [List.all_cons, Bool.and_eq_true] at h
    obtain ⟨i, rfl, _⟩ := nu_shape h.1
    obtain ⟨a, b, c⟩ := nus_fl h.2
    refine ⟨a, b, ?_⟩
    show max 0 (PyData.depthAll (D.pyL xs)) = 0
    omega
theorem uni_wl : Uni isWl where
  al := fun x y hx hy => by
    obtain ⟨a, xs, rfl, _, h1, _⟩ := wl_shape hx
    obtain ⟨b, ys, rfl, _, h2, _⟩ := wl_shape hy
    have e := nus_alike h1 h2
    show (true && (PySem.W.alikeAll (D.pyL xs) (D.pyL ys) && true)) = true
    rw [e]; rfl
  fl := fun x hx => by
    obtain ⟨a, xs, rfl, _, h1, _⟩ := wl_shape hx
    obtain ⟨e1, e2, e3⟩ := nus_fl h1
    refine ⟨?_, ?_, ?_⟩
    · show (true && (D.flatL xs && true)) = true
      rw [e1]; rfl
    · show (true && (D.keyL xs && true)) = true
      rw [e2]; rfl
    · show max 0 (max (PyData.depthAll (D.pyL xs) + 1) 0) + 1 ≤ 8
      omega
  tp := .inl fun x hx => by
    obtain ⟨a, xs, rfl, _⟩ := wl_shape hx
    rfl
theorem nu_val {d : D} (h : isNu d = true) : Val (10 ^ 59) 0 1 d := by
  obtain ⟨i, rfl, hi⟩ := nu_shape h
  exact ⟨decide_eq_true hi, Nat.le_refl _, Nat.le_refl _⟩
theorem pr_val {d : D} (h : isPr d = true) : Val (10 ^ 59) 1 3 d := by
  obtain ⟨i, j, rfl, hi, hj⟩ := pr_shape h
  refine ⟨?_, Nat.le_refl _, Nat.le_refl _⟩
  show (decide (i.natAbs ≤ 10 ^ 59) && (decide (j.natAbs ≤ 10 ^ 59) && true)) = true
  rw [decide_eq_true hi, decide_eq_true hj]; rfl
theorem vals_of {K : D → Bool} {m h w : Nat} (H : ∀ x, K x = true → Val m h w x) {xs : List D} (hx : xs.all K = true) {c : Nat} (hl : xs.length * w ≤ c) : Vals m h c xs :=
  (Vals.of fun x m => H x (List.all_eq_true.mp hx x m)).mono (Nat.le_refl _) (Nat.le_refl _) hl
theorem wl_val {d : D} (h : isWl d = true) : Val (10 ^ 59) 2 13 d := by
  obtain ⟨x, ys, rfl, h1, h2, h3⟩ := wl_shape h
  have a : Vals (10 ^ 59) 1 9 [.str x] := Vals.one ((nm_val h1).mono (Nat.zero_le _) (Nat.zero_le _) (Nat.le_refl _))
  have b : Vals (10 ^ 59) 0 2 ys := vals_of (fun _ => nu_val) h2 (by omega)
  exact (a.app (Vals.one b.tup)).tup
/-! ### comprehensions that draw -/
theorem comp_inv {body : D → Store → Res (Option D)} (J : Store → Prop) (P : D → Bool) {Q : List D → Store → Prop} : ∀ {xs acc : List D} {S : Store}, J S →
    (∀ x ∈ xs, ∀ S1 (R : Option D → Store → Prop), J S1 → (∀ d S', J S' → P d = true → R (some d) S') → (body x S1).good R) → acc.all P = true → acc.length + xs.length ≤ 16777216 →
    (∀ ys S', J S' → ys.all P = true → ys.length = acc.length + xs.length → Q ys S') → (compGo body xs acc S).good Q
  | [], acc, S, j, _, ha, _, h => by
    rw [compGo]
    exact h acc S j ha rfl
  | x :: xs, acc, S, j, st, ha, hl, h => by
    rw [compGo, Res.good_andThen]
    simp only [List.length_cons] at hl
    refine st x (List.mem_cons_self ..) S _ j fun d S1 j1 hd => ?_
    show (need (decide (acc.length < sizeLine)) _).good Q
    rw [need_dec (show acc.length < sizeLine by rw [sizeE]; omega)]
    refine comp_inv J P j1 (fun y hy => st y (List.mem_cons_of_mem _ hy)) ?_ ?_ fun ys S2 j2 hy hn => h ys S2 j2 hy ?_
    · rw [List.all_append, ha]
      show (true && (P d && true)) = true
      rw [hd]; rfl
    · rw [List.length_append, List.length_singleton]; omega
    · rw [hn, List.length_append, List.length_singleton, List.length_cons]; omega
theorem c_comp {β : Type} {body : D → Store → Res (Option D)} {k : List D → Store → Res β} {Q : β → Store → Prop} (J : Store → Prop) (P : D → Bool) {xs : List D} {S : Store} (j : J S)
    (st : ∀ x ∈ xs, ∀ S1 (R : Option D → Store → Prop), J S1 → (∀ d S', J S' → P d = true → R (some d) S') → (body x S1).good R) (hl : xs.length ≤ 16777216)
    (h : ∀ ys S', J S' → ys.all P = true → ys.length = xs.length → (k ys S').good Q) : (bnd (compGo body xs [] S) k).good Q := by
  show (Res.andThen _ _).good Q
  rw [Res.good_andThen]
  exact comp_inv J P j st rfl (by simpa using hl) fun ys S' j' hy hn => h ys S' j' hy (by simpa using hn)
theorem rng0_len (v : Int) : (rngD 0 v).length = v.toNat := by simp [rngD]
theorem ten {v : Int} (h0 : 0 ≤ v) (h1 : v < 59) : ∃ (z : Str) (i : Int), (∀ S, binD .Mult (.str "0") (.int (1 + v)) S = .ok (.str z) S) ∧ ("1" : Str).length + z.length ≤ 16777216 ∧ (∀ S, fnD .int (.str (("1" : Str) ++ z)) S = .ok (.int i) S) ∧ i.natAbs ≤ 10 ^ 59 := by
  obtain ⟨j, rfl⟩ := Int.eq_ofNat_of_zero_le h0
  have hj : j < 59 := by omega
  have T : ((List.range 59).all fun j => decide (PySem.intText? (("1" : Str) ++ repS "0" (j + 1)) = some ((10 : Int) ^ (j + 1))) && decide ((("1" : Str) ++ repS "0" (j + 1)).length ≤ 640) && decide ((repS "0" (j + 1)).length ≤ 100)) = true := by decide +kernel
  have t := List.all_eq_true.mp T j (List.mem_range.mpr hj)
  simp only [Bool.and_eq_true, decide_eq_true_eq] at t
  refine ⟨repS "0" (j + 1), (10 : Int) ^ (j + 1), fun S => ?_, ?_, fun S => ?_, ?_⟩
  · show need (decide (0 ≤ (1 + (j : Int)) ∧ (1 + (j : Int)) ≤ 1000 ∧ ("0" : Str).length ≤ 1000)) (.ok (D.str (repS "0" (1 + (j : Int)).toNat)) S) = _
    rw [need_dec (by refine ⟨by omega, by omega, by decide⟩), show (1 + (j : Int)).toNat = j + 1 by omega]
  · have : ("1" : Str).length = 1 := by decide +kernel
    omega
  · show (match PySem.intText? (("1" : Str) ++ repS "0" (j + 1)) with
      | some n => need (decide ((("1" : Str) ++ repS "0" (j + 1)).length ≤ 640)) (.ok (D.int n) S)
      | none => .bad) = _
    rw [t.1.1]
    exact need_dec t.1.2
  · have : ((10 : Int) ^ (j + 1)).natAbs = 10 ^ (j + 1) := by rw [Int.natAbs_pow]; rfl
    rw [this]
    exact Nat.pow_le_pow_right (by decide) (by omega)
end OW
end
section
set_option Elab.async false
set_option linter.all false
set_option maxRecDepth 100000
set_option maxHeartbeats 4000000
namespace OW
open PySem
/-! Pn: the generators of rows, facts of values and shapes. -/
local macro_rules | `(tactic| walk_at "ev") => `(tactic| simp -dsimp only [bnd_ok, call_eq, e_var, vGet_some, e_cst, e_app, e_call, e_mcall, e_and, e_or, e_not, e_ite, e_chain, e_comp, cb_none, cb_some, a_nil, a_cons, i_seq, rngR_ok, i_range1, i_range2, i_zip, oNext_some, s_asg, s_par, s_sub, s_subs, s_expr, s_ret, s_pass, s_ifs, fb_some, s_for, b_nil, b_cons, for_nil, for_cons, sa_nil, sa_cons, p_bin, p_item, p_cmp, p_fn, p_tup, p_lst, p_lstM, p_inst, p_neg, o_some, b_addI, b_addS, b_addT, b_addL, b_sub, b_mulI, b_div, b_mod, c_lt, c_gt, c_le, c_ge, f_intI, f_intB, f_lenT, f_lenL, f_lenS, i_tup, i_lst, t_bl, t_non, need_dec, need_true, sizeE, st_nm, st_tu2, set_nil, set_cons, it_tup, it_lst, it_str, wipe_nil, wipe_cons, startD, tyOf, isT, Nat.reduceLT, Nat.reduceLeDiff, Nat.reduceAdd, Nat.reduceSub, Nat.reduceEqDiff, Int.reduceLT, Int.reduceEq, Int.reduceBEq, Int.reduceLE, Int.reduceAdd, Int.reduceSub, Int.reduceNeg, Int.reduceToNat, Int.reducePow, decide_true, decide_false, if_true, if_false, Bool.false_eq_true, reduceIte, Bool.not_true, Bool.not_false, Bool.true_or, Bool.false_or, Bool.or_true, Bool.or_false, Bool.and_true, Bool.true_and, Bool.and_false, Bool.false_and, and_true, true_and, or_true, true_or, and_self, List.set_cons_zero, List.set_cons_succ, List.length_cons, List.length_nil, List.map_cons, List.map_nil, List.cons_append, List.nil_append, List.getElem?_cons_zero, List.getElem?_cons_succ, List.replicate_succ, List.replicate_zero, List.any_cons, List.any_nil, p_sl1, at_0, at_1, at_2, at_3, c_eqK, c_neK, nc0, nc1, nc2, nc3, nc4, nc5, c_isNon, Bool.not_not, good_ok, p_sset, f_sorted, f_tuple, f_list, c_eqS, *])
section
variable {Φ : Tab} {n f : Nat} {S : Store} {d : D} {xs : List D} {β : Type} {k : D → Store → Res β} {Q : β → Store → Prop}
theorem nms2 {m : Nat} {a b : D} (ha : isNm a = true) (hb : isNm b = true) : Vals m 0 18 [a, b] :=
  Vals.app (w := 9) (w' := 9) (Vals.one ((nm_val ha).mono (Nat.zero_le _) (Nat.le_refl _) (Nat.le_refl _))) (Vals.one ((nm_val hb).mono (Nat.zero_le _) (Nat.le_refl _) (Nat.le_refl _)))
theorem c_line (G : GenA Φ) (hf : Feed f S) {ks ts : List D} (hk : ks.all isNm = true) (hk0 : 0 < ks.length) (hkl : ks.length ≤ 1000000) (ht : ts.all isNm = true) (ht0 : 0 < ts.length) (htl : ts.length ≤ 1000000)
    (h : ∀ (xs : List D) (S' : Store), Vals 0 1 60 xs → 0 < xs.length → Aft f S S' → (k (.tup xs) S').good Q) : (bnd (run Φ (n + 3) "_law_line" [.loc f, .lst ks, .tup ts] S) k).good Q := by
  rw [run_eq G.line, K01.fd__law_line]
  (walk_at "ev"; try simp -dsimp only [bnd_assoc])
  refine c_draw (n := n + 1) G.g hf (by decide) (by decide) fun v S1 v0 v1 A1 => ?_
  (walk_at "ev"; try simp -dsimp only [bnd_assoc])
  refine c_anyL G.g A1.fd hk0 hkl fun a S2 ha A2 => ?_
  (walk_at "ev"; try simp -dsimp only [bnd_assoc])
  refine c_anyL G.g A2.fd hk0 hkl fun b S3 hb A3 => ?_
  have ha := List.all_eq_true.mp hk a ha
  have hb := List.all_eq_true.mp hk b hb
  have vab := nms2 (m := 0) ha hb
  have va := (Vals.one (nm_val ha)).mono (m' := 0) (h' := 1) (w' := 10) (Nat.le_refl _) (by decide) (by decide)
  have vb := (Vals.one (nm_val hb)).mono (m' := 0) (h' := 1) (w' := 10) (Nat.le_refl _) (by decide) (by decide)
  have A := (A1.trans A2).trans A3
  have lit : ∀ s : String, (Str.ofString s).length ≤ 8 → Vals 0 1 9 [.str (Str.ofString s)] := fun s hs => ⟨by show (PyData.strOk _ && true) = true; rw [okS_lit]; rfl, Nat.zero_le _, Nat.succ_le_succ hs⟩
  obtain ⟨x, rfl, hx, hx8⟩ := nm_shape ha
  obtain ⟨y, rfl, hy, hy8⟩ := nm_shape hb
  clear hk0 hkl
  rcases (by omega : v = 0 ∨ v = 1 ∨ v = 2 ∨ v = 3 ∨ v = 4 ∨ v = 5 ∨ v = 6 ∨ v = 7 ∨ v = 8 ∨ v = 9) with rfl | rfl | rfl | rfl | rfl | rfl | rfl | rfl | rfl | rfl
  · (walk_at "ev"; try simp -dsimp only [bnd_assoc])
    exact h _ _ (((lit "get" (by decide +kernel)).app vb).mono (Nat.le_refl _) (Nat.le_refl _) (by decide)) (Nat.succ_pos _) A
  · by_cases e : x = y
    · subst e
      have e' : (x == x) = true := beq_self_eq_true _
      (walk_at "ev"; try simp -dsimp only [bnd_assoc])
      exact h _ _ (((lit "get" (by decide +kernel)).app vb).mono (Nat.le_refl _) (Nat.le_refl _) (by decide)) (Nat.succ_pos _) A
    · have e' : (x == y) = false := beq_false_of_ne e
      (walk_at "ev"; try simp -dsimp only [bnd_assoc])
      exact h _ _ (((lit "take" (by decide +kernel)).app (va.app vb)).mono (Nat.le_refl _) (Nat.le_refl _) (by decide)) (Nat.succ_pos _) A
  · by_cases e : x = y
    · subst e
      have e' : (x == x) = true := beq_self_eq_true _
      (walk_at "ev"; try simp -dsimp only [bnd_assoc])
      exact h _ _ (((lit "get" (by decide +kernel)).app vb).mono (Nat.le_refl _) (Nat.le_refl _) (by decide)) (Nat.succ_pos _) A
    · have e' : (x == y) = false := beq_false_of_ne e
      (walk_at "ev"; try simp -dsimp only [bnd_assoc])
      exact h _ _ (((lit "swap" (by decide +kernel)).app (va.app vb)).mono (Nat.le_refl _) (Nat.le_refl _) (by decide)) (Nat.succ_pos _) A
  all_goals first
    | ((walk_at "ev"; try simp -dsimp only [bnd_assoc]); exact h _ _ ((lit "never" (by decide +kernel)).mono (Nat.le_refl _) (Nat.le_refl _) (by decide)) (Nat.succ_pos _) A)
    | ((walk_at "ev"; try simp -dsimp only [bnd_assoc]); exact h _ _ ((lit "pass" (by decide +kernel)).mono (Nat.le_refl _) (Nat.le_refl _) (by decide)) (Nat.succ_pos _) A)
    | skip
  rotate_right 1
  · (walk_at "ev"; try simp -dsimp only [bnd_assoc])
    refine c_anyL G.g A.fd (Nat.succ_pos _) (by simp) fun z S4 hz A4 => ?_
    (walk_at "ev"; try simp -dsimp only [bnd_assoc])
    have hz' : isNm z = true := by
      have T : ∀ s : String, (Str.ofString s).length ≤ 8 → isNm (.str (Str.ofString s)) = true := fun s hs => by
        show (PyData.strOk _ && decide _) = true
        rw [okS_lit, decide_eq_true hs]; rfl
      simp only [List.mem_cons, List.not_mem_nil, or_false] at hz
      rcases hz with rfl | rfl | rfl | rfl | rfl
      · exact T _ (by decide +kernel)
      · exact T _ (by decide +kernel)
      · exact T _ (by decide +kernel)
      · exact T _ (by decide +kernel)
      · exact ha
    exact h _ _ (((lit "tell" (by decide +kernel)).app ((Vals.one (nm_val hz')).mono (Nat.le_refl _) (Nat.zero_le _) (Nat.le_refl _))).mono (Nat.le_refl _) (Nat.le_refl _) (by decide)) (Nat.succ_pos _) (A.trans A4)
  all_goals
    (walk_at "ev"; try simp -dsimp only [bnd_assoc])
    refine c_draw (n := n + 1) G.g A.fd (by decide) (by decide) fun u S4 u0 u1 A4 => ?_
    have so := uni_ok uni_nm (xs := [.str x, .str y]) (by show (isNm _ && (isNm _ && true)) = true; rw [ha, hb]; rfl) (by show 2 ≤ 60; decide)
    have s1 := so.1
    have s2 := so.2
    have ss := ss_all (K := isNm) (xs := [.str x, .str y]) (by show (isNm _ && (isNm _ && true)) = true; rw [ha, hb]; rfl)
    have vs : Vals 0 0 18 (sortD (dedup [.str x, .str y])) := vals_of (w := 9) (fun _ => nm_val) ss.1 (by have := ss.2; show _ ≤ 18; simp only [List.length_cons, List.length_nil] at this; omega)
    rcases (by omega : u = 0 ∨ u = 1) with rfl | rfl
    · (walk_at "ev"; try simp -dsimp only [bnd_assoc])
      refine c_anyT G.g A4.fd ht0 htl fun z S5 hz A5 => ?_
      (walk_at "ev"; try simp -dsimp only [bnd_assoc])
      have hz' := List.all_eq_true.mp ht z hz
      refine h _ _ ((Vals.app (lit _ ?_) (Vals.app ((Vals.one (nm_val hz')).mono (Nat.le_refl _) (Nat.zero_le 1) (Nat.le_refl _)) (Vals.one vs.tup))).mono (Nat.le_refl _) (Nat.le_refl _) (by decide)) (Nat.succ_pos _) ((A.trans A4).trans A5)
      decide +kernel
    · (walk_at "ev"; try simp -dsimp only [bnd_assoc])
      refine c_anyT G.g A4.fd ht0 htl fun z S5 hz A5 => ?_
      (walk_at "ev"; try simp -dsimp only [bnd_assoc])
      have hz' := List.all_eq_true.mp ht z hz
      refine h _ _ ((Vals.app (lit _ ?_) (Vals.app ((Vals.one (nm_val hz')).mono (Nat.le_refl _) (Nat.zero_le 1) (Nat.le_refl _)) (Vals.one (Vals.one (nm_val ha)).tup))).mono (Nat.le_refl _) (Nat.le_refl _) (by decide)) (Nat.succ_pos _) ((A.trans A4).trans A5)
      decide +kernel
theorem c_worldly (G : GenA Φ) (hf : Feed f S) {ts : List D} (ht : ts.all isNm = true) (ht0 : 0 < ts.length) (htl : ts.length ≤ 1000000) (h : ∀ (d : D) (S' : Store), isWl d = true → Aft f S S' → (k d S').good Q) : (bnd (run Φ (n + 3) "_law_worldly" [.loc f, .tup ts] S) k).good Q := by
  rw [run_eq G.worldly, K01.fd__law_worldly]
  (walk_at "ev"; try simp -dsimp only [bnd_assoc])
  refine c_draw (n := n + 1) G.g hf (by decide) (by decide) fun a S1 a0 a1 A1 => ?_
  (walk_at "ev"; try simp -dsimp only [bnd_assoc])
  refine c_draw (n := n + 1) G.g A1.fd (by decide) (by decide) fun b S2 b0 b1 A2 => ?_
  (walk_at "ev"; try simp -dsimp only [bnd_assoc])
  refine c_draw (n := n + 1) G.g A2.fd (by decide) (by decide) fun c S3 c0 c1 A3 => ?_
  have A := (A1.trans A2).trans A3
  have na : isNu (.int a) = true := decide_eq_true (by have : (4 : Nat) ≤ 10 ^ 59 := by decide
                                                       omega)
  have nb : isNu (.int b) = true := decide_eq_true (by have : (5 : Nat) ≤ 10 ^ 59 := by decide
                                                       omega)
  by_cases e : c = 0
  · (walk_at "ev"; try simp -dsimp only [bnd_assoc])
    refine c_draw (n := n + 1) G.g A3.fd (by decide) (by decide) fun v S4 v0 v1 A4 => ?_
    obtain ⟨z, i, t1, t2, t3, t4⟩ := ten v0 v1
    have ni : isNu (.int i) = true := decide_eq_true t4
    have A' := A.trans A4
    by_cases e2 : a = i
    · subst e2
      (walk_at "ev"; try simp -dsimp only [bnd_assoc])
      refine c_anyT G.g (A').fd ht0 htl fun z S6 hz A6 => ?_
      (walk_at "ev"; try simp -dsimp only [bnd_assoc])
      refine h _ _ ?_ ((A').trans A6)
      show (isNm z && (isNu _ && true) && true) = true
      rw [List.all_eq_true.mp ht z hz, na]; rfl
    · (walk_at "ev"; try simp -dsimp only [bnd_assoc])
      refine c_draw (n := n + 1) G.g (A').fd (by decide) (by decide) fun u S5 u0 u1 A5 => ?_
      rcases (by omega : u = 0 ∨ u = 1) with rfl | rfl
      · (walk_at "ev"; try simp -dsimp only [bnd_assoc])
        refine c_anyT G.g A5.fd ht0 htl fun z S6 hz A6 => ?_
        (walk_at "ev"; try simp -dsimp only [bnd_assoc])
        refine h _ _ ?_ (((A').trans A5).trans A6)
        show (isNm z && (isNu _ && true) && true) = true
        rw [List.all_eq_true.mp ht z hz, na]; rfl
      · have al : ([D.int a, D.int i] : List D).all isNu = true := by show (isNu _ && (isNu _ && true)) = true; rw [na, ni]; rfl
        have s1 := (uni_ok uni_nu al (by show 2 ≤ 60; decide)).1
        have ss := sd_all al
        (walk_at "ev"; try simp -dsimp only [bnd_assoc])
        refine c_anyT G.g A5.fd ht0 htl fun z S6 hz A6 => ?_
        (walk_at "ev"; try simp -dsimp only [bnd_assoc])
        refine h _ _ ?_ (((A').trans A5).trans A6)
        show (isNm z && (sortD _).all isNu && decide ((sortD _).length ≤ 2)) = true
        rw [List.all_eq_true.mp ht z hz, ss.1, ss.2]; rfl
  · by_cases e2 : a = b
    · subst e2
      (walk_at "ev"; try simp -dsimp only [bnd_assoc])
      refine c_anyT G.g (A).fd ht0 htl fun z S6 hz A6 => ?_
      (walk_at "ev"; try simp -dsimp only [bnd_assoc])
      refine h _ _ ?_ ((A).trans A6)
      show (isNm z && (isNu _ && true) && true) = true
      rw [List.all_eq_true.mp ht z hz, na]; rfl
    · (walk_at "ev"; try simp -dsimp only [bnd_assoc])
      refine c_draw (n := n + 1) G.g (A).fd (by decide) (by decide) fun u S5 u0 u1 A5 => ?_
      rcases (by omega : u = 0 ∨ u = 1) with rfl | rfl
      · (walk_at "ev"; try simp -dsimp only [bnd_assoc])
        refine c_anyT G.g A5.fd ht0 htl fun z S6 hz A6 => ?_
        (walk_at "ev"; try simp -dsimp only [bnd_assoc])
        refine h _ _ ?_ (((A).trans A5).trans A6)
        show (isNm z && (isNu _ && true) && true) = true
        rw [List.all_eq_true.mp ht z hz, na]; rfl
      · have al : ([D.int a, D.int b] : List D).all isNu = true := by show (isNu _ && (isNu _ && true)) = true; rw [na, nb]; rfl
        have s1 := (uni_ok uni_nu al (by show 2 ≤ 60; decide)).1
        have ss := sd_all al
        (walk_at "ev"; try simp -dsimp only [bnd_assoc])
        refine c_anyT G.g A5.fd ht0 htl fun z S6 hz A6 => ?_
        (walk_at "ev"; try simp -dsimp only [bnd_assoc])
        refine h _ _ ?_ (((A).trans A5).trans A6)
        show (isNm z && (sortD _).all isNu && decide ((sortD _).length ≤ 2)) = true
        rw [List.all_eq_true.mp ht z hz, ss.1, ss.2]; rfl
theorem c_shape (G : GenA Φ) (hf : Feed f S) (h : ∀ (xs ys : List D) (S' : Store), xs.all isNu = true → ys.all isPr = true → xs.length ≤ 3 → ys.length ≤ 3 → Aft f S S' → (k (.tup [.tup xs, .tup ys]) S').good Q) : (bnd (run Φ (n + 3) "_law_shape" [.loc f, .int 9] S) k).good Q := by
  rw [run_eq G.shape, K01.fd__law_shape]
  (walk_at "ev"; try simp -dsimp only [bnd_assoc])
  refine c_draw (n := n + 1) G.g hf (by decide) (by decide) fun v S1 v0 v1 A1 => ?_
  have e62 : ∀ i : Int, 0 ≤ i → i < 4 → bnd62 i = true := fun i h0 h1 => decide_eq_true (by omega)
  have e0 : bnd62 0 = true := by decide
  have ev := e62 v v0 v1
  (walk_at "ev"; try simp -dsimp only [bnd_assoc])
  refine c_comp (fun S' => Aft f S S') isNu A1 (fun x hx S2 R A2 hR => ?_) (by rw [rng0_len]; omega) fun xs S2 A2 hx lx => ?_
  · (walk_at "ev"; try simp -dsimp only [bnd_assoc])
    refine c_draw (n := n + 1) G.g A2.fd (by decide) (by decide) fun u S3 u0 u1 A3 => ?_
    (walk_at "ev"; try simp -dsimp only [bnd_assoc])
    exact hR _ _ (A2.trans A3) (decide_eq_true (by have : (9 : Nat) ≤ 10 ^ 59 := by decide
                                                   omega))
  rw [rng0_len] at lx
  (walk_at "ev"; try simp -dsimp only [bnd_assoc])
  refine c_draw (n := n + 1) G.g A2.fd (by decide) (by decide) fun u S3 u0 u1 A3 => ?_
  have eu := e62 u u0 u1
  (walk_at "ev"; try simp -dsimp only [bnd_assoc])
  refine c_comp (fun S' => Aft f S S') isPr (A2.trans A3) (fun x hx S2 R A2 hR => ?_) (by rw [rng0_len]; omega) fun ys S4 A4 hy ly => ?_
  · (walk_at "ev"; try simp -dsimp only [bnd_assoc])
    refine c_draw (n := n + 1) G.g A2.fd (by decide) (by decide) fun p S3 p0 p1 A3 => ?_
    (walk_at "ev"; try simp -dsimp only [bnd_assoc])
    refine c_draw (n := n + 1) G.g A3.fd (by decide) (by decide) fun q S4 q0 q1 A4 => ?_
    (walk_at "ev"; try simp -dsimp only [bnd_assoc])
    refine hR _ _ ((A2.trans A3).trans A4) ?_
    show (decide _ && decide _) = true
    have : (9 : Nat) ≤ 10 ^ 59 := by decide
    rw [decide_eq_true (show p.natAbs ≤ 10 ^ 59 by omega), decide_eq_true (show q.natAbs ≤ 10 ^ 59 by omega)]; rfl
  rw [rng0_len] at ly
  have o1 := uni_ok uni_nu hx (by omega)
  have o2 := uni_ok uni_pr hy (by omega)
  have s1 := o1.1
  have s2 := o1.2
  have s3 := o2.1
  have s4 := o2.2
  have r1 := ss_all hx
  have r2 := ss_all hy
  (walk_at "ev"; try simp -dsimp only [bnd_assoc])
  exact h _ _ _ r1.1 r2.1 (by omega) (by omega) A4
end
end OW
end
section
set_option Elab.async false
set_option linter.all false
set_option maxRecDepth 100000
set_option maxHeartbeats 4000000
namespace OW
open PySem
/-! Po: names. -/
local macro_rules | `(tactic| walk_at "ev") => `(tactic| simp -dsimp only [bnd_ok, call_eq, e_var, vGet_some, e_cst, e_app, e_call, e_mcall, e_and, e_or, e_not, e_ite, e_chain, e_comp, cb_none, cb_some, a_nil, a_cons, i_seq, rngR_ok, i_range1, i_range2, i_zip, oNext_some, s_asg, s_par, s_sub, s_subs, s_expr, s_ret, s_pass, s_ifs, fb_some, s_for, b_nil, b_cons, for_nil, for_cons, sa_nil, sa_cons, p_bin, p_item, p_cmp, p_fn, p_tup, p_lst, p_lstM, p_inst, p_neg, o_some, b_addI, b_addS, b_addT, b_addL, b_sub, b_mulI, b_div, b_mod, c_lt, c_gt, c_le, c_ge, f_intI, f_intB, f_lenT, f_lenL, f_lenS, i_tup, i_lst, t_bl, t_non, need_dec, need_true, sizeE, st_nm, st_tu2, set_nil, set_cons, it_tup, it_lst, it_str, wipe_nil, wipe_cons, startD, tyOf, isT, Nat.reduceLT, Nat.reduceLeDiff, Nat.reduceAdd, Nat.reduceSub, Nat.reduceEqDiff, Int.reduceLT, Int.reduceEq, Int.reduceBEq, Int.reduceLE, Int.reduceAdd, Int.reduceSub, Int.reduceNeg, Int.reduceToNat, Int.reducePow, decide_true, decide_false, if_true, if_false, Bool.false_eq_true, reduceIte, Bool.not_true, Bool.not_false, Bool.true_or, Bool.false_or, Bool.or_true, Bool.or_false, Bool.and_true, Bool.true_and, Bool.and_false, Bool.false_and, and_true, true_and, or_true, true_or, and_self, List.set_cons_zero, List.set_cons_succ, List.length_cons, List.length_nil, List.map_cons, List.map_nil, List.cons_append, List.nil_append, List.getElem?_cons_zero, List.getElem?_cons_succ, List.replicate_succ, List.replicate_zero, List.any_cons, List.any_nil, p_sl1, at_0, at_1, at_2, at_3, c_eqK, c_neK, nc0, nc1, nc2, nc3, nc4, nc5, c_isNon, Bool.not_not, good_ok, p_sset, f_sorted, f_tuple, f_list, c_eqS, *])
theorem Aft.push {f : Nat} {S S1 : Store} {c : Cell} (a : Aft f S S1) : Aft f S (S1 ++ [c]) := by
  obtain ⟨⟨cs, t, r, k, h1, h2, h3⟩, hs⟩ := a
  have hl := lt_of_get h3
  refine ⟨⟨cs, t, r, k, h1, h2, ?_⟩, ?_, fun i hi hl2 => ?_⟩
  · rw [List.getElem?_append_left hl]; exact h3
  · rw [List.length_append]; exact Nat.le_trans hs.1 (Nat.le_add_right _ _)
  · rw [List.getElem?_append_left (Nat.lt_of_lt_of_le hl2 hs.1)]; exact hs.2 i hi hl2
theorem Aft.setO {f l : Nat} {S S1 : Store} {c : Cell} (a : Aft f S S1) (hl : S.length ≤ l) (hf : l ≠ f) : Aft f S (S1.set l c) := by
  obtain ⟨⟨cs, t, r, k, h1, h2, h3⟩, hs⟩ := a
  refine ⟨⟨cs, t, r, k, h1, h2, ?_⟩, ?_, fun i hi hl2 => ?_⟩
  · rw [List.getElem?_set_ne hf]; exact h3
  · rw [List.length_set]; exact hs.1
  · rw [List.getElem?_set_ne (by omega)]; exact hs.2 i hi hl2
theorem Aft.here {f : Nat} {S : Store} (h : Feed f S) : Aft f S S := ⟨h, Same.refl⟩
theorem c_for {β : Type} {body : D → Sl → Store → Res Fl} {k : Fl → Store → Res β} {Q : β → Store → Prop} (J : Nat → Sl → Store → Prop) {xs : List D} {ε : Sl} {S : Store} (j : J 0 ε S)
    (st : ∀ (i : Nat) (x : D) (ε : Sl) (S : Store) (R : Fl → Store → Prop), xs[i]? = some x → J i ε S → (∀ ε' S', J (i + 1) ε' S' → R (.next ε') S') → (body x ε S).good R)
    (h : ∀ ε' S', J xs.length ε' S' → (k (.next ε') S').good Q) : (bnd (forGo body xs ε S) k).good Q := by
  show (Res.andThen _ _).good Q
  rw [Res.good_andThen]
  suffices H : ∀ (m i : Nat) (ε : Sl) (S : Store), xs.length - i = m → i ≤ xs.length → J i ε S → (forGo body (xs.drop i) ε S).good fun f S' => (k f S').good Q from by
    have := H xs.length 0 ε S (by omega) (Nat.zero_le _) j
    rw [List.drop_zero] at this
    exact this
  intro m
  induction m with
  | zero =>
    intro i ε S e hi j
    rw [List.drop_of_length_le (by omega), forGo]
    have : i = xs.length := by omega
    subst this
    exact h ε S j
  | succ m ih =>
    intro i ε S e hi j
    have hlt : i < xs.length := by omega
    rw [List.drop_eq_getElem_cons hlt, forGo, Res.good_andThen]
    exact st i xs[i] ε S _ (List.getElem?_eq_getElem hlt) j fun ε' S' j' => ih (i + 1) ε' S' (by omega) hlt j'
/-- one sign -/
def isSg : D → Bool
  | .str x => PyData.strOk x && decide (x.length = 1)
  | _ => false
theorem sg_shape {d : D} (h : isSg d = true) : ∃ x : Str, d = .str x ∧ PyData.strOk x = true ∧ x.length = 1 := by
  cases d with
  | str x =>
    have h : (PyData.strOk x && decide (x.length = 1)) = true := h
    rw [Bool.and_eq_true, decide_eq_true_eq] at h
    exact ⟨x, rfl, h.1, h.2⟩
  | _ => cases h
theorem sgs : ∀ {ys : List D}, ys.all isSg = true → ∃ ts : List Str, strsD ys = some ts ∧ ts.length = ys.length ∧ (∀ t ∈ ts, PyData.strOk t = true ∧ t.length = 1)
  | [], _ => ⟨[], rfl, rfl, fun t ht => by cases ht⟩
  | y :: ys, h => by
    rw [List.all_cons, Bool.and_eq_true] at h
    obtain ⟨x, rfl, h1, h2⟩ := sg_shape h.1
    obtain ⟨ts, e1, e2, e3⟩ := sgs h.2
    refine ⟨x :: ts, by show (strsD ys).map _ = _; rw [e1]; rfl, by rw [List.length_cons, List.length_cons, e2], fun t ht => ?_⟩
    rcases List.mem_cons.mp ht with rfl | ht
    · exact ⟨h1, h2⟩
    · exact e3 t ht
theorem sum_ones : ∀ {ts : List Str}, (∀ t ∈ ts, t.length = 1) → (ts.map Str.length).sum = ts.length
  | [], _ => rfl
  | t :: ts, h => by
    rw [List.map_cons, List.sum_cons, h t (List.mem_cons_self ..), sum_ones fun x hx => h x (List.mem_cons_of_mem _ hx), List.length_cons]; omega
theorem join1 : ∀ {ts : List Str}, (∀ t ∈ ts, PyData.strOk t = true ∧ t.length = 1) → PyData.strOk (Str.join "" ts) = true ∧ (Str.join "" ts).length = ts.length
  | [], _ => ⟨by decide +kernel, rfl⟩
  | [x], h => ⟨(h x (List.mem_cons_self ..)).1, (h x (List.mem_cons_self ..)).2⟩
  | x :: y :: r, h => by
    obtain ⟨a, b⟩ := join1 (ts := y :: r) fun t ht => h t (List.mem_cons_of_mem _ ht)
    obtain ⟨c, d⟩ := h x (List.mem_cons_self ..)
    have e : Str.join "" (x :: y :: r) = x ++ "" ++ Str.join "" (y :: r) := rfl
    have z : (Str.ofString "").length = 0 := by decide
    rw [e]
    refine ⟨okS_app (okS_app c (okS_lit "")) a, ?_⟩
    rw [Str.length_append, Str.length_append, b, d, z, List.length_cons (a := x)]
    omega
theorem joins {ys : List D} (h : ys.all isSg = true) (hl : ys.length ≤ 8) : ∃ x : Str, (∀ S, methD .join [.str "", .lst ys] S = .ok (.str x) S) ∧ isNm (.str x) = true := by
  obtain ⟨ts, e1, e2, e3⟩ := sgs h
  have e4 : Txt.join "" ts = Str.join "" ts := StrLaws.glued_eq_join _ _
  obtain ⟨a, b⟩ := join1 e3
  refine ⟨Txt.join "" ts, fun S => ?_, ?_⟩
  · show (match strsD ys with
      | some ts => need (decide ((ts.map Str.length).sum + ts.length * (Str.ofString "").length ≤ 16777216)) (.ok (D.str (Txt.join "" ts)) S)
      | none => .bad) = _
    rw [e1]
    refine need_dec ?_
    rw [sum_ones fun t ht => (e3 t ht).2, show (Str.ofString "").length = 0 from by decide]
    omega
  · show (PyData.strOk _ && decide _) = true
    rw [e4, a, decide_eq_true (show (Str.join "" ts).length ≤ 8 by rw [b]; omega)]; rfl
theorem c_anyS {Φ : Tab} {n f : Nat} {S : Store} {β : Type} {k : D → Store → Res β} {Q : β → Store → Prop} (G : Gen Φ) (hf : Feed f S) {x : Str} (hx : PyData.strOk x = true) (h0 : 0 < x.length) (hl : x.length ≤ 1000000) (h : ∀ (d : D) (S' : Store), isSg d = true → Aft f S S' → (k d S').good Q) : (bnd (run Φ (n + 2) "_law_any" [.loc f, .str x] S) k).good Q := by
  obtain ⟨v, S', h1, h2, h3, h4⟩ := g_draw (n := n) G hf (m := (x.length : Int)) (by omega) (by omega)
  obtain ⟨c, hc, e⟩ := atI_in x.cps.toList v h2 (by rw [Array.length_toList]; exact h3)
  have hi : ∀ S, itemD (.str x) (.int v) S = .ok (.str ⟨#[c]⟩) S := fun S => by
    show need (decide (x.length ≤ sizeLine)) (match L2.atI x.cps.toList v with
      | some c => .ok (D.str ⟨#[c]⟩) S
      | none => .bad) = _
    rw [need_dec (by rw [sizeE]; omega), e]
  have hs : isSg (.str ⟨#[c]⟩) = true := by
    show (PyData.strOk _ && decide _) = true
    have : PyData.strOk ⟨#[c]⟩ = true := okS_iff.mpr fun y hy => by
      have : y = c := by simpa using hy
      rw [this]
      exact okS_iff.mp hx c hc
    rw [this]; rfl
  have hl2 : x.length ≤ 16777216 := by omega
  rw [run_eq G.any, K01.fd__law_any]
  (walk_at "ev"; try simp -dsimp only [bnd_assoc])
  all_goals exact h _ _ hs h4
theorem c_notIn {x : Str} {ks : List D} {S : Store} {l : Nat} (hx : isNm (.str x) = true) (hk : ks.all isNm = true) (hl : ks.length ≤ 1000) (e : S[l]? = some (.lst ks)) : cmpD .NotIn (.str x) (.loc l) S = .ok (.bl (!ks.any fun z => PyData.eqv z.py (.str x))) S := by
  have r : (D.loc l).res S = .lst ks := by
    show (match S[l]? with
      | some (.lst xs) => D.lst xs
      | _ => .loc l) = _
    rw [e]
  have v : Vals 0 0 9000 ks := vals_of (w := 9) (fun _ => nm_val) hk (by omega)
  have ok : okL ks = true := okL_iff.mpr fun y hy => val_ok (v.mem hy).v (Nat.le_trans (v.mem hy).w (by decide))
  have sh := shapedL ok (Nat.le_trans v.h (by decide))
  have eo : eqOk (.str x) (.lst ks) = true := by
    unfold eqOk
    rw [sh.1, sh.2]
    obtain ⟨y, e, h1, _⟩ := nm_shape hx
    cases e
    show (true && true && (PyData.strOk x && true) && true) = true
    rw [h1]; rfl
  show mapB not (inD S (.str x) (.loc l)) = _
  unfold inD
  rw [r]
  show mapB not (need (eqOk (.str x) (.lst ks)) _) = _
  rw [eo]
  rfl
theorem m_app {x : D} {ks : List D} {S : Store} {l : Nat} (e : S[l]? = some (.lst ks)) (hl : ks.length ≤ 1000) : kindOk .append (.loc l) S = true ∧ methD .append [.loc l, x] S = .ok .non (S.set l (.lst (ks ++ [x]))) := by
  constructor
  · unfold kindOk; simp only [e]
  · show (match S[l]? with
      | some (.lst xs) => need (decide (xs.length < sizeLine)) (.ok D.non (S.set l (.lst (xs ++ [x]))))
      | _ => .bad) = _
    rw [e]
    exact need_dec (by rw [sizeE]; omega)
end OW
end
section
set_option Elab.async false
set_option linter.all false
set_option maxRecDepth 100000
set_option maxHeartbeats 4000000
namespace OW
open PySem
/-! Pp: the generator of names. -/
local macro_rules | `(tactic| walk_at "ev") => `(tactic| simp -dsimp only [bnd_ok, call_eq, e_var, vGet_some, e_cst, e_app, e_call, e_mcall, e_and, e_or, e_not, e_ite, e_chain, e_comp, cb_none, cb_some, a_nil, a_cons, i_seq, rngR_ok, i_range1, i_range2, i_zip, oNext_some, s_asg, s_par, s_sub, s_subs, s_expr, s_ret, s_pass, s_ifs, fb_some, s_for, b_nil, b_cons, for_nil, for_cons, sa_nil, sa_cons, p_bin, p_item, p_cmp, p_fn, p_tup, p_lst, p_lstM, p_inst, p_neg, o_some, b_addI, b_addS, b_addT, b_addL, b_sub, b_mulI, b_div, b_mod, c_lt, c_gt, c_le, c_ge, f_intI, f_intB, f_lenT, f_lenL, f_lenS, i_tup, i_lst, t_bl, t_non, need_dec, need_true, sizeE, st_nm, st_tu2, set_nil, set_cons, it_tup, it_lst, it_str, wipe_nil, wipe_cons, startD, tyOf, isT, Nat.reduceLT, Nat.reduceLeDiff, Nat.reduceAdd, Nat.reduceSub, Nat.reduceEqDiff, Int.reduceLT, Int.reduceEq, Int.reduceBEq, Int.reduceLE, Int.reduceAdd, Int.reduceSub, Int.reduceNeg, Int.reduceToNat, Int.reducePow, decide_true, decide_false, if_true, if_false, Bool.false_eq_true, reduceIte, Bool.not_true, Bool.not_false, Bool.true_or, Bool.false_or, Bool.or_true, Bool.or_false, Bool.and_true, Bool.true_and, Bool.and_false, Bool.false_and, and_true, true_and, or_true, true_or, and_self, List.set_cons_zero, List.set_cons_succ, List.length_cons, List.length_nil, List.map_cons, List.map_nil, List.cons_append, List.nil_append, List.getElem?_cons_zero, List.getElem?_cons_succ, List.replicate_succ, List.replicate_zero, List.any_cons, List.any_nil, p_sl1, at_0, at_1, at_2, at_3, c_eqK, c_neK, nc0, nc1, nc2, nc3, nc4, nc5, c_isNon, Bool.not_not, good_ok, p_sset, f_sorted, f_tuple, f_list, c_eqS, *])
section
variable {Φ : Tab} {n f : Nat} {S : Store} {d : D} {xs : List D} {β : Type} {k : D → Store → Res β} {Q : β → Store → Prop}
def isMenu : D → Bool
  | .tup xs => xs.all isNm && decide (xs.length = 4)
  | _ => false
theorem menu_shape {d : D} (h : isMenu d = true) : ∃ xs, d = .tup xs ∧ xs.all isNm = true ∧ xs.length = 4 := by
  cases d with
  | tup xs =>
    have h : (xs.all isNm && decide (xs.length = 4)) = true := h
    rw [Bool.and_eq_true, decide_eq_true_eq] at h
    exact ⟨xs, rfl, h.1, h.2⟩
  | _ => cases h
theorem c_names (G : GenA Φ) (hf : Feed f S) (h : ∀ (ks : List D) (S' : Store), ks.all isNm = true → 0 < ks.length → ks.length ≤ 4 → Aft f S S' → (k (.lst ks) S').good Q) : (bnd (run Φ (n + 3) "_law_names" [.loc f] S) k).good Q := by
  rw [run_eq G.names, K01.fd__law_names]
  (walk_at "ev"; try simp -dsimp only [bnd_assoc])
  refine c_draw (n := n + 1) G.g hf (by decide) (by decide) fun v S1 v0 v1 A1 => ?_
  (walk_at "ev"; try simp -dsimp only [bnd_assoc])
  have A1' : Aft f S (S1 ++ [Cell.lst []]) := A1.push
  refine c_draw (n := n + 1) G.g A1'.fd (by decide) (by decide) fun u S2 u0 u1 A2 => ?_
  have A := A1'.trans A2
  have e62 : ∀ i : Int, 0 ≤ i → i < 100 → bnd62 i = true := fun i h0 h1 => decide_eq_true (by omega)
  have e0 : bnd62 0 = true := by decide
  have ev := e62 (1 + v) (by omega) (by omega)
  by_cases hu : 0 < u
  · (walk_at "ev"; try simp -dsimp only [bnd_assoc])
    refine c_anyL G.g A.fd (by decide) (by decide) fun m S3 hm A3 => ?_
    obtain ⟨ms, rfl, hms, hm4⟩ := menu_shape (all_of (P := isMenu) (by decide +kernel) hm)
    clear hm
    (walk_at "ev"; try simp -dsimp only [bnd_assoc])
    refine c_draw (n := n + 1) G.g A3.fd (by decide) (by decide) fun w S4 w0 w1 A4 => ?_
    have A5 := (A.trans A3).trans A4
    (walk_at "ev"; try simp -dsimp only [bnd_assoc])
    refine c_comp (fun S' => Aft f S S') isNm A5 (fun x hx S2 R A2 hR => ?_) (by rw [rng0_len]; omega) fun xs S2 A2 hx lx => ?_
    · obtain ⟨j, _, rfl⟩ := List.mem_map.mp hx
      obtain ⟨y, hy, e⟩ := atI_in ms ((w + (0 + (j : Int))) % 4) (by omega) (by omega)
      have hy' := List.all_eq_true.mp hms y hy
      (walk_at "ev"; try simp -dsimp only [bnd_assoc])
      all_goals exact hR _ _ A2 hy'
    · rw [rng0_len] at lx
      have s1 := (uni_ok uni_nm hx (by omega)).1
      have s2 := sd_all hx
      (walk_at "ev"; try simp -dsimp only [bnd_assoc])
      all_goals exact h _ _ s2.1 (by omega) (by omega) A2
  · (walk_at "ev"; try simp -dsimp only [bnd_assoc])
    have lf : S1.length ≠ f := by
      obtain ⟨cs, t, r, kk, _, _, hh⟩ := A1.fd
      have := lt_of_get hh
      omega
    have get2 : S2[S1.length]? = some (Cell.lst []) := by
      rw [A2.s.2 S1.length lf (by rw [List.length_append]; exact Nat.lt_succ_self _), List.getElem?_append_right (Nat.le_refl _)]
      simp
    refine c_for (fun i ε S' => Aft f S S' ∧ (∃ ks : List D, S'[S1.length]? = some (Cell.lst ks) ∧ ks.all isNm = true ∧ ks.length ≤ i ∧ (0 < i → 0 < ks.length)) ∧ ∃ a6 a7 a8 a9 a3, ε = [some (D.loc f), some (D.int (1 + v)), some (D.loc S1.length), a3, none, none, a6, a7, a8, a9]) ⟨A, ⟨[], get2, rfl, Nat.le_refl _, fun h => absurd h (by decide)⟩, _, _, _, _, _, rfl⟩ ?_ ?_
    · rintro i x ε S3 R hx ⟨A3, ⟨ks, g3, hks, lks, pks⟩, a6, a7, a8, a9, a3, rfl⟩ hR
      have li : i < 4 := by
        have := lt_of_getElem? hx
        rw [rng0_len] at this
        omega
      (walk_at "ev"; try simp -dsimp only [bnd_assoc])
      refine c_draw (n := n + 1) G.g A3.fd (by decide) (by decide) fun w S4 w0 w1 A4 => ?_
      have ew := e62 (1 + w) (by omega) (by omega)
      have kj : ∀ S, kindOk .join (.str "") S = true := fun _ => rfl
      (walk_at "ev"; try simp -dsimp only [bnd_assoc])
      have A4' := A3.trans A4
      have lS : S1.length < S3.length := lt_of_get g3
      refine c_comp (fun S' => Aft f S3 S') isSg A4 (fun x hx S2 R A2 hR => ?_) (by rw [rng0_len]; omega) fun ys S5 A5 hy ly => ?_
      · (walk_at "ev"; try simp -dsimp only [bnd_assoc])
        refine c_anyS G.g A2.fd (by decide +kernel) (by decide +kernel) (by decide +kernel) fun z S6 hz A6 => ?_
        (walk_at "ev"; try simp -dsimp only [bnd_assoc])
        all_goals exact hR _ _ (A2.trans A6) hz
      · rw [rng0_len] at ly
        have g5 : S5[S1.length]? = some (Cell.lst ks) := by rw [A5.s.2 S1.length lf lS]; exact g3
        obtain ⟨own, ho, hn⟩ := joins hy (by omega)
        have ni := c_notIn hn hks (by omega) g5
        have ma := m_app (x := D.str own) g5 (by omega)
        have m1 := ma.1
        have m2 := ma.2
        have A6 : Aft f S S5 := A3.trans A5
        cases hb : ks.any fun z => PyData.eqv z.py (.str own) with
        | true =>
          rw [hb] at ni
          (walk_at "ev"; try simp -dsimp only [bnd_assoc])
          refine hR _ _ ⟨A6, ⟨ks, g5, hks, by omega, fun _ => ?_⟩, _, _, _, _, _, rfl⟩
          cases ks with
          | nil => cases hb
          | cons z zs => exact Nat.succ_pos _
        | false =>
          rw [hb] at ni
          (walk_at "ev"; try simp -dsimp only [bnd_assoc])
          refine hR _ _ ⟨A6.setO (Nat.le_trans ?_ (Nat.le_refl _)) lf, ⟨ks ++ [.str own], ?_, ?_, ?_, fun _ => ?_⟩, _, _, _, _, _, rfl⟩
          · exact A1.s.1
          · rw [List.getElem?_set_self (lt_of_get g5)]
          · rw [List.all_append, hks]
            show (true && (isNm _ && true)) = true
            rw [hn]; rfl
          · rw [List.length_append, List.length_singleton]; omega
          · rw [List.length_append, List.length_singleton]; omega
    · rintro ε S3 ⟨A3, ⟨ks, g3, hks, lks, pks⟩, a6, a7, a8, a9, a3, rfl⟩
      rw [rng0_len] at lks pks
      have s1 := (uni_ok uni_nm hks (by omega)).1
      have s2 := sd_all hks
      have fs : fnD .sorted (.loc S1.length) S3 = .ok (.lst (sortD ks)) S3 := by
        have r : (D.loc S1.length).res S3 = .lst ks := by
          show (match S3[S1.length]? with
            | some (.lst xs) => D.lst xs
            | _ => .loc S1.length) = _
          rw [g3]
        show (match (D.loc S1.length).res S3 with
          | .lst xs => need (sortOk xs) (.ok (D.lst (sortD xs)) S3)
          | _ => .bad) = _
        rw [r]
        show need (sortOk ks) _ = _
        rw [s1]; rfl
      (walk_at "ev"; try simp -dsimp only [bnd_assoc])
      all_goals exact h _ _ s2.1 (by have := pks (by omega); omega) (by omega) A3
end
end OW
end
section
set_option Elab.async false
set_option linter.all false
set_option maxRecDepth 100000
set_option maxHeartbeats 4000000
namespace OW
open PySem
/-! Pq: values with a change. -/
theorem p_slTo {xs : List D} {j : Int} {S : Store} : primD (.slice false true) [.tup xs, .int j] S = .ok (.tup (cut xs none (some j))) S := nr rfl
theorem p_slFr {xs : List D} {j : Int} {S : Store} : primD (.slice true false) [.tup xs, .int j] S = .ok (.tup (cut xs (some j) none)) S := nr rfl
theorem p_slBt {xs : List D} {i j : Int} {S : Store} : primD (.slice true true) [.tup xs, .int i, .int j] S = .ok (.tup (cut xs (some i) (some j))) S := nr rfl
theorem p_slToS {x : Str} {j : Int} {S : Store} : primD (.slice false true) [.str x, .int j] S = need (decide (x.length ≤ sizeLine)) (.ok (.str (L2.cutS x none (some j))) S) := nr rfl
theorem p_slFrS {x : Str} {j : Int} {S : Store} : primD (.slice true false) [.str x, .int j] S = need (decide (x.length ≤ sizeLine)) (.ok (.str (L2.cutS x (some j) none)) S) := nr rfl
theorem p_revT {xs : List D} {S : Store} : primD .rev [.tup xs] S = .ok (.tup xs.reverse) S := nr rfl
theorem f_strI {i : Int} {S : Store} : fnD .str (.int i) S = need (decide (i.natAbs.log2 < 1920)) (.ok (.str (toString i)) S) := nr rfl
theorem piece (xs : List D) (lo hi : Option Int) : ∃ A, cut xs lo hi = A ∧ A.Sublist xs := ⟨_, rfl, cut_sub ..⟩
theorem pieceS {x : Str} (lo hi : Option Int) (h : PyData.strOk x = true) : ∃ y : Str, L2.cutS x lo hi = y ∧ PyData.strOk y = true ∧ y.length ≤ x.length := by
  refine ⟨_, rfl, okS_iff.mpr fun c hc => okS_iff.mp h c ?_, ?_⟩
  · exact ((List.take_sublist _ _).trans (List.drop_sublist _ _)).subset (by simpa [L2.cutS] using hc)
  · have := (((List.take_sublist (HT.sIx x.length x.length hi - HT.sIx x.length 0 lo) _).trans (List.drop_sublist (HT.sIx x.length 0 lo) x.cps.toList))).length_le
    rw [Array.length_toList] at this
    simpa [L2.cutS, Str.length] using this
local macro_rules | `(tactic| walk_at "ev") => `(tactic| simp -dsimp only [bnd_ok, call_eq, e_var, vGet_some, e_cst, e_app, e_call, e_mcall, e_and, e_or, e_not, e_ite, e_chain, e_comp, cb_none, cb_some, a_nil, a_cons, i_seq, rngR_ok, i_range1, i_range2, i_zip, oNext_some, s_asg, s_par, s_sub, s_subs, s_expr, s_ret, s_pass, s_ifs, fb_some, s_for, b_nil, b_cons, for_nil, for_cons, sa_nil, sa_cons, p_bin, p_item, p_cmp, p_fn, p_tup, p_lst, p_lstM, p_inst, p_neg, o_some, b_addI, b_addS, b_addT, b_addL, b_sub, b_mulI, b_div, b_mod, c_lt, c_gt, c_le, c_ge, f_intI, f_intB, f_lenT, f_lenL, f_lenS, i_tup, i_lst, t_bl, t_non, need_dec, need_true, sizeE, st_nm, st_tu2, set_nil, set_cons, it_tup, it_lst, it_str, wipe_nil, wipe_cons, startD, tyOf, isT, Nat.reduceLT, Nat.reduceLeDiff, Nat.reduceAdd, Nat.reduceSub, Nat.reduceEqDiff, Int.reduceLT, Int.reduceEq, Int.reduceBEq, Int.reduceLE, Int.reduceAdd, Int.reduceSub, Int.reduceNeg, Int.reduceToNat, Int.reducePow, decide_true, decide_false, if_true, if_false, Bool.false_eq_true, reduceIte, Bool.not_true, Bool.not_false, Bool.true_or, Bool.false_or, Bool.or_true, Bool.or_false, Bool.and_true, Bool.true_and, Bool.and_false, Bool.false_and, and_true, true_and, or_true, true_or, and_self, List.set_cons_zero, List.set_cons_succ, List.length_cons, List.length_nil, List.map_cons, List.map_nil, List.cons_append, List.nil_append, List.getElem?_cons_zero, List.getElem?_cons_succ, List.replicate_succ, List.replicate_zero, List.any_cons, List.any_nil, p_sl1, at_0, at_1, at_2, at_3, c_eqK, c_neK, nc0, nc1, nc2, nc3, nc4, nc5, c_isNon, Bool.not_not, good_ok, f_list, p_slTo, p_slFr, p_slBt, p_slToS, p_slFrS, p_revT, f_strI, *])
local macro_rules | `(tactic| walk_at "evn") => `(tactic| simp -dsimp only [bnd_ok, call_eq, e_var, vGet_some, e_cst, e_app, e_call, e_mcall, e_and, e_or, e_not, e_ite, e_chain, e_comp, cb_none, cb_some, a_nil, a_cons, i_seq, rngR_ok, i_range1, i_range2, i_zip, oNext_some, s_asg, s_par, s_sub, s_subs, s_expr, s_ret, s_pass, s_ifs, fb_some, s_for, b_nil, b_cons, for_nil, for_cons, sa_nil, sa_cons, p_bin, p_item, p_cmp, p_fn, p_tup, p_lst, p_lstM, p_inst, p_neg, o_some, b_addI, b_addS, b_addT, b_addL, b_sub, b_mulI, b_div, b_mod, c_lt, c_gt, c_le, c_ge, f_intI, f_intB, f_lenT, f_lenL, f_lenS, i_tup, i_lst, t_bl, t_non, need_dec, need_true, sizeE, st_nm, st_tu2, set_nil, set_cons, it_tup, it_lst, it_str, wipe_nil, wipe_cons, startD, Nat.reduceLT, Nat.reduceLeDiff, Nat.reduceAdd, Nat.reduceSub, Nat.reduceEqDiff, Int.reduceLT, Int.reduceEq, Int.reduceBEq, Int.reduceLE, Int.reduceAdd, Int.reduceSub, Int.reduceNeg, Int.reduceToNat, Int.reducePow, decide_true, decide_false, if_true, if_false, Bool.false_eq_true, reduceIte, Bool.not_true, Bool.not_false, Bool.true_or, Bool.false_or, Bool.or_true, Bool.or_false, Bool.and_true, Bool.true_and, Bool.and_false, Bool.false_and, and_true, true_and, or_true, true_or, and_self, List.set_cons_zero, List.set_cons_succ, List.length_cons, List.length_nil, List.map_cons, List.map_nil, List.cons_append, List.nil_append, List.getElem?_cons_zero, List.getElem?_cons_succ, List.replicate_succ, List.replicate_zero, List.any_cons, List.any_nil, p_sl1, at_0, at_1, at_2, at_3, c_eqK, c_neK, nc0, nc1, nc2, nc3, nc4, nc5, c_isNon, Bool.not_not, good_ok, f_list, p_slTo, p_slFr, p_slBt, p_slToS, p_slFrS, p_revT, f_strI, *])
section
variable {Φ : Tab} {n f m h w : Nat} {S : Store} {d : D} {xs : List D} {β : Type} {k : D → Store → Res β} {Q : β → Store → Prop}
/-- not a tuple, not a text, not a number: some other value -/
theorem bent_odd (G : GenA Φ) (L : LKinds Φ) (hf : Feed f S) (hm : 10 ^ 59 ≤ m) (hd : okD d = true) (t1 : ∀ S, isT (tyOf S d) .tuple = false) (t2 : ∀ S, isT (tyOf S d) .str = false) (t3 : isNumB d = false)
    (hQ : ∀ (d' : D) (S' : Store), Val (m + 1) (h + 4) (2 * w + 200) d' → Aft f S S' → (k d' S').good Q) : (bnd (run Φ (n + 4) "_law_bent" [.loc f, d] S) k).good Q := by
  rw [run_eq G.bent, K01.fd__law_bent]
  (walk_at "evn"; try simp -dsimp only [bnd_assoc])
  refine c_draw (n := n + 2) G.g hf (by decide) (by decide) fun v S1 v0 v1 A1 => ?_
  (walk_at "evn"; try simp -dsimp only [bnd_assoc])
  refine c_strange G A1.fd fun odd S2 ho A2 => ?_
  have hn := fun S => l_number (n := n + 2) (S := S) L hd
  rw [t3] at hn
  (walk_at "evn"; try simp -dsimp only [bnd_assoc])
  all_goals exact hQ _ _ (ho.mono (by omega) (by omega) (by omega)) (A1.trans A2)
theorem bent_str (G : GenA Φ) (L : LKinds Φ) (hf : Feed f S) (hm : 10 ^ 59 ≤ m) {x : Str} (hx : PyData.strOk x = true) (hw : x.length + 1 ≤ w) (hw2 : w ≤ 100000)
    (hQ : ∀ (d' : D) (S' : Store), Val (m + 1) (h + 4) (2 * w + 200) d' → Aft f S S' → (k d' S').good Q) : (bnd (run Φ (n + 4) "_law_bent" [.loc f, .str x] S) k).good Q := by
  rw [run_eq G.bent, K01.fd__law_bent]
  (walk_at "ev"; try simp -dsimp only [bnd_assoc])
  refine c_draw (n := n + 2) G.g hf (by decide) (by decide) fun v S1 v0 v1 A1 => ?_
  (walk_at "ev"; try simp -dsimp only [bnd_assoc])
  refine c_strange G A1.fd fun odd S2 ho A2 => ?_
  have hn := fun S => l_number (n := n + 2) (S := S) (d := .str x) L (val_ok (m := m) hx (by show x.length + 1 ≤ _; rw [sizeE]; omega))
  have hn : ∀ S, run Φ (n + 2 + 1) "_law_is_number" [.str x] S = .ok (.bl false) S := hn
  have l1 : x.length ≤ 16777216 := by omega
  by_cases hv : v < 5
  · (walk_at "ev"; try simp -dsimp only [bnd_assoc])
    refine c_draw (n := n + 2) G.g A2.fd (by omega) (by omega) fun j S3 j0 j1 A3 => ?_
    obtain ⟨y, ey, y1, y2⟩ := pieceS none (some j) hx
    (walk_at "ev"; try simp -dsimp only [bnd_assoc])
    refine c_anyL (n := n + 1) G.g A3.fd (by decide) (by decide) fun z S4 hz A4 => ?_
    obtain ⟨z, rfl, z1, z2⟩ := nm_shape (all_of (P := isNm) (by decide +kernel) hz)
    clear hz
    have fin : ∀ (i : Int) (u : Str), L2.cutS x (some i) none = u → Val (m + 1) (h + 4) (2 * w + 200) (.str (y ++ z ++ u)) := fun i u eu => by
      obtain ⟨u', e', u1, u2⟩ := pieceS (some i) none hx
      rw [e'] at eu
      subst eu
      refine ⟨okS_app (okS_app y1 z1) u1, Nat.zero_le _, ?_⟩
      show (y ++ z ++ u').length + 1 ≤ _
      rw [Str.length_append, Str.length_append]
      omega
    have q1 : y.length + z.length ≤ 16777216 := by omega
    have q2 : ∀ i : Int, (y ++ z).length + (L2.cutS x (some i) none).length ≤ 16777216 := fun i => by
      obtain ⟨u', e', u1, u2⟩ := pieceS (some i) none hx
      rw [e', Str.length_append]
      omega
    by_cases hv2 : 2 < v
    · (walk_at "ev"; try simp -dsimp only [bnd_assoc])
      all_goals exact hQ _ _ (fin _ _ rfl) (((A1.trans A2).trans A3).trans A4)
    · (walk_at "ev"; try simp -dsimp only [bnd_assoc])
      all_goals exact hQ _ _ (fin _ _ rfl) (((A1.trans A2).trans A3).trans A4)
  · (walk_at "ev"; try simp -dsimp only [bnd_assoc])
    all_goals exact hQ _ _ (ho.mono (by omega) (by omega) (by omega)) (A1.trans A2)
theorem bent_int (G : GenA Φ) (L : LKinds Φ) (hf : Feed f S) (hm : 10 ^ 59 ≤ m) (hm2 : m < 10 ^ 90) {i : Int} (hi : i.natAbs ≤ m)
    (hQ : ∀ (d' : D) (S' : Store), Val (m + 1) (h + 4) (2 * w + 200) d' → Aft f S S' → (k d' S').good Q) : (bnd (run Φ (n + 4) "_law_bent" [.loc f, .int i] S) k).good Q := by
  rw [run_eq G.bent, K01.fd__law_bent]
  (walk_at "ev"; try simp -dsimp only [bnd_assoc])
  refine c_draw (n := n + 2) G.g hf (by decide) (by decide) fun v S1 v0 v1 A1 => ?_
  (walk_at "ev"; try simp -dsimp only [bnd_assoc])
  refine c_strange G A1.fd fun odd S2 ho A2 => ?_
  have hn : ∀ S, run Φ (n + 2 + 1) "_law_is_number" [.int i] S = .ok (.bl (decide (0 ≤ i))) S := fun S => l_number (n := n + 2) (S := S) (d := .int i) L rfl
  have lg : i.natAbs.log2 < 1920 := by
    by_cases z : i.natAbs = 0
    · rw [z]; decide
    · refine (Nat.log2_lt z).mpr (Nat.lt_of_le_of_lt hi (Nat.lt_of_lt_of_le hm2 ?_))
      calc 10 ^ 90 ≤ 16 ^ 90 := Nat.pow_le_pow_left (by decide) 90
        _ = 2 ^ 360 := by rw [show (16 : Nat) = 2 ^ 4 from rfl, ← Nat.pow_mul]
        _ ≤ 2 ^ 1920 := Nat.pow_le_pow_right (by decide) (by decide)
  by_cases hz : 0 ≤ i
  · by_cases hv : v < 5
    · (walk_at "ev"; try simp -dsimp only [bnd_assoc])
      refine c_anyL (n := n + 1) G.g A2.fd (Nat.succ_pos _) (by simp) fun z S3 hz A3 => ?_
      (walk_at "ev"; try simp -dsimp only [bnd_assoc])
      all_goals
        refine hQ _ _ ?_ ((A1.trans A2).trans A3)
        simp only [List.mem_cons, List.not_mem_nil, or_false] at hz
        have I : ∀ j : Int, j.natAbs ≤ m + 1 → Val (m + 1) (h + 4) (2 * w + 200) (.int j) := fun j hj => ⟨decide_eq_true hj, Nat.zero_le _, by show 1 ≤ _; omega⟩
        rcases hz with rfl | rfl | rfl | rfl | rfl
        · exact I _ (by omega)
        · exact I _ (by omega)
        · exact I _ (by omega)
        · exact ⟨rfl, Nat.zero_le _, by show 1 ≤ _; omega⟩
        · have a := val_shown (m := m) (d := .int i) (Nat.lt_of_lt_of_le hm2 (Nat.pow_le_pow_right (by decide) (by decide))) (decide_eq_true hi)
          have b := okS_shown (.int i) rfl
          have e : (D.int i).py.shown = (toString i : String) := by simp [D.py, PyData.shown]
          have e2 : (PyData.int i).shown = (toString i : String) := by simp [PyData.shown]
          rw [e] at a
          rw [e2] at b
          refine ⟨b, Nat.zero_le _, ?_⟩
          show (Str.ofString (toString i)).length + 1 ≤ _
          have a' : (Str.ofString (toString i)).length + 2 ≤ 110 * 1 := a
          omega
    · (walk_at "ev"; try simp -dsimp only [bnd_assoc])
      all_goals exact hQ _ _ (ho.mono (by omega) (by omega) (by omega)) (A1.trans A2)
  · (walk_at "ev"; try simp -dsimp only [bnd_assoc])
    all_goals exact hQ _ _ (ho.mono (by omega) (by omega) (by omega)) (A1.trans A2)
end
end OW
end
section
set_option Elab.async false
set_option linter.all false
set_option maxRecDepth 100000
set_option maxHeartbeats 4000000
namespace OW
open PySem
/-! Pr: a change at any depth. -/
local macro_rules | `(tactic| walk_at "ev") => `(tactic| simp -dsimp only [bnd_ok, call_eq, e_var, vGet_some, e_cst, e_app, e_call, e_mcall, e_and, e_or, e_not, e_ite, e_chain, e_comp, cb_none, cb_some, a_nil, a_cons, i_seq, rngR_ok, i_range1, i_range2, i_zip, oNext_some, s_asg, s_par, s_sub, s_subs, s_expr, s_ret, s_pass, s_ifs, fb_some, s_for, b_nil, b_cons, for_nil, for_cons, sa_nil, sa_cons, p_bin, p_item, p_cmp, p_fn, p_tup, p_lst, p_lstM, p_inst, p_neg, o_some, b_addI, b_addS, b_addT, b_addL, b_sub, b_mulI, b_div, b_mod, c_lt, c_gt, c_le, c_ge, f_intI, f_intB, f_lenT, f_lenL, f_lenS, i_tup, i_lst, t_bl, t_non, need_dec, need_true, sizeE, st_nm, st_tu2, set_nil, set_cons, it_tup, it_lst, it_str, wipe_nil, wipe_cons, startD, tyOf, isT, Nat.reduceLT, Nat.reduceLeDiff, Nat.reduceAdd, Nat.reduceSub, Nat.reduceEqDiff, Int.reduceLT, Int.reduceEq, Int.reduceBEq, Int.reduceLE, Int.reduceAdd, Int.reduceSub, Int.reduceNeg, Int.reduceToNat, Int.reducePow, decide_true, decide_false, if_true, if_false, Bool.false_eq_true, reduceIte, Bool.not_true, Bool.not_false, Bool.true_or, Bool.false_or, Bool.or_true, Bool.or_false, Bool.and_true, Bool.true_and, Bool.and_false, Bool.false_and, and_true, true_and, or_true, true_or, and_self, List.set_cons_zero, List.set_cons_succ, List.length_cons, List.length_nil, List.map_cons, List.map_nil, List.cons_append, List.nil_append, List.getElem?_cons_zero, List.getElem?_cons_succ, List.replicate_succ, List.replicate_zero, List.any_cons, List.any_nil, p_sl1, at_0, at_1, at_2, at_3, c_eqK, c_neK, nc0, nc1, nc2, nc3, nc4, nc5, c_isNon, Bool.not_not, good_ok, f_list, p_slTo, p_slFr, p_slBt, p_slToS, p_slFrS, p_revT, f_strI, *])
section
variable {Φ : Tab} {f m h w : Nat} {S : Store} {d : D} {xs : List D} {β : Type} {k : D → Store → Res β} {Q : β → Store → Prop}
/-- behind the draw of what is to be done -/
theorem bent_tup {n : Nat} (G : GenA Φ) (L : LKinds Φ) (hf : Feed f S) (hm : 10 ^ 59 ≤ m) (hv : Vals m h w xs) (hw : w ≤ 100000)
    (rec : ∀ (e : D) (S1 : Store) {β : Type} {k : D → Store → Res β} {Q : β → Store → Prop}, e ∈ xs → Feed f S1 → (∀ (d' : D) (S' : Store), Val (m + 1) (h + 4) (2 * wtD e + 200) d' → Aft f S1 S' → (k d' S').good Q) → (bnd (run Φ (n + 4) "_law_bent" [.loc f, e] S1) k).good Q)
    (hQ : ∀ (d' : D) (S' : Store), Val (m + 1) (h + 5) (2 * w + 202) d' → Aft f S S' → (k d' S').good Q) : (bnd (run Φ (n + 5) "_law_bent" [.loc f, .tup xs] S) k).good Q := by
  have lx : xs.length ≤ w := Nat.le_trans (wtL_len xs) hv.w
  have up : ∀ {ys : List D} {c : Nat}, Vals (m + 1) (h + 4) c ys → c ≤ 2 * w + 201 → Val (m + 1) (h + 5) (2 * w + 202) (.tup ys) := fun v hc => v.tup.mono (Nat.le_refl _) (Nat.le_refl _) (by omega)
  have hvx : Vals (m + 1) (h + 4) w xs := hv.mono (Nat.le_succ _) (by omega) (Nat.le_refl _)
  -- the second part
  have two : ∀ (S1 : Store), Aft f S S1 → (bnd (bnd (denB (run Φ (n + 4)) [.par [3, 4] [(.call "_law_draw" [(.var 0), (.cst (.int (8)))]), (.call "_law_strange" [(.var 0)])], .ifs (.and (.app (.isinst [.tuple]) [(.var 1)]) (.app (.cmp .Lt) [(.var 3), (.cst (.int (6)))])) [ .asg (.nm 2) (.call "_law_draw" [(.var 0), (.app (.bin .Add) [(.app (.fn .len) [(.var 1)]), (.cst (.int (1)))])]), .ifs (.app (.cmp .Eq) [(.var 3), (.cst (.int (0)))]) [ .ret (.app (.fn .list) [(.var 1)])] [], .ifs (.app (.cmp .Eq) [(.var 3), (.cst (.int (1)))]) [ .ret (.app (.bin .Add) [(.app (.slice false true) [(.var 1), (.var 2)]), (.app (.slice true false) [(.var 1), (.app (.bin .Add) [(.var 2), (.cst (.int (1)))])])])] [], .ifs (.app (.cmp .Eq) [(.var 3), (.cst (.int (2)))]) [ .ret (.app (.bin .Add) [(.app (.bin .Add) [(.app (.slice false true) [(.var 1), (.var 2)]), (.app (.slice true true) [(.var 1), (.var 2), (.app (.bin .Add) [(.var 2), (.cst (.int (1)))])])]), (.app (.slice true false) [(.var 1), (.var 2)])])] [], .ret (.ite (.app (.cmp .Lt) [(.var 3), (.cst (.int (5)))]) (.app (.bin .Add) [(.app (.bin .Add) [(.app (.slice false true) [(.var 1), (.var 2)]), (.app .tup [(.var 4)])]), (.app (.slice true false) [(.var 1), (.var 2)])]) (.app .rev [(.var 1)]))] [], .ifs (.and (.app (.isinst [.str]) [(.var 1)]) (.app (.cmp .Lt) [(.var 3), (.cst (.int (5)))])) [ .asg (.nm 2) (.call "_law_draw" [(.var 0), (.app (.bin .Add) [(.app (.fn .len) [(.var 1)]), (.cst (.int (1)))])]), .ret (.app (.bin .Add) [(.app (.bin .Add) [(.app (.slice false true) [(.var 1), (.var 2)]), (.call "_law_any" [(.var 0), (.app .lst [(.cst (.str "a")), (.cst (.str "b")), (.cst (.str "A")), (.cst (.str "")), (.cst (.str " ")), (.cst (.str "z")), (.cst (.str "0")), (.cst (.str "pqpqpqpq"))])])]), (.app (.slice true false) [(.var 1), (.app (.bin .Add) [(.var 2), (.app (.fn .int) [(.app (.cmp .Gt) [(.var 3), (.cst (.int (2)))])])])])])] [], .ifs (.and (.call "_law_is_number" [(.var 1)]) (.app (.cmp .Lt) [(.var 3), (.cst (.int (5)))])) [ .ret (.call "_law_any" [(.var 0), (.app .lst [(.app (.bin .Add) [(.var 1), (.cst (.int (1)))]), (.app (.bin .Sub) [(.var 1), (.cst (.int (1)))]), (.app (.bin .Sub) [(.cst (.int (0))), (.var 1)]), (.app (.cmp .Eq) [(.var 1), (.cst (.int (1)))]), (.app (.fn .str) [(.var 1)])])])] [], .ret (.var 4)] [some (D.loc f), some (D.tup xs), none, none, none] S1) fun f S1 => match f with
            | Fl.next _ => Res.ok D.non S1
            | Fl.ret d => Res.ok d S1) k).good Q := by
    intro S1 A1
    (walk_at "ev"; try simp -dsimp only [bnd_assoc])
    refine c_draw (n := n + 3) G.g A1.fd (by decide) (by decide) fun v S2 v0 v1 A2 => ?_
    (walk_at "ev"; try simp -dsimp only [bnd_assoc])
    refine c_strange (n := n + 1) G A2.fd fun odd S3 ho A3 => ?_
    have A := (A1.trans A2).trans A3
    have ho' : Vals (m + 1) (h + 4) 60 [odd] := Vals.one (ho.mono (by omega) (by omega) (Nat.le_refl _))
    have hn : ∀ S, run Φ (n + 3 + 1) "_law_is_number" [.tup xs] S = .ok (.bl false) S := fun S => l_number (n := n + 3) (S := S) (d := .tup xs) L (val_ok (m := m) hv.v (by show wtL xs + 1 ≤ _; have := hv.w; rw [sizeE]; omega))
    by_cases h6 : v < 6
    · (walk_at "ev"; try simp -dsimp only [bnd_assoc])
      refine c_draw (n := n + 3) G.g A.fd (by omega) (by omega) fun j S4 j0 j1 A4 => ?_
      have A' := A.trans A4
      obtain ⟨B1, b1, c1⟩ := piece xs none (some j)
      obtain ⟨B2, b2, c2⟩ := piece xs (some (j + 1)) none
      obtain ⟨B3, b3, c3⟩ := piece xs (some j) none
      obtain ⟨B4, b4, c4⟩ := piece xs (some j) (some (j + 1))
      have w1 := c1.length_le
      have w2 := c2.length_le
      have w3 := c3.length_le
      have w4 := c4.length_le
      have q1 : B1.length + B2.length ≤ 16777216 := by omega
      have q2 : B1.length + B4.length ≤ 16777216 := by omega
      have q3 : (B1 ++ B4).length + B3.length ≤ 16777216 := by rw [List.length_append]; omega
      have q4 : B1.length + 1 ≤ 16777216 := by omega
      have q5 : (B1 ++ [odd]).length + B3.length ≤ 16777216 := by rw [List.length_append, List.length_singleton]; omega
      -- what the pieces weigh
      have s1 : B1 = xs.take j.toNat := by
        obtain ⟨i, rfl⟩ := Int.eq_ofNat_of_zero_le j0
        rw [← b1]; exact cut_to xs i
      have s3 : B3 = xs.drop j.toNat := by
        obtain ⟨i, rfl⟩ := Int.eq_ofNat_of_zero_le j0
        rw [← b3]; exact cut_from xs i
      have v13 : Vals (m + 1) (h + 4) w (B1 ++ B3) := by rw [s1, s3, List.take_append_drop]; exact hvx
      have x1 := hvx.sub c1
      have x2 := hvx.sub c2
      have x3 := hvx.sub c3
      have x4 := hvx.sub c4
      have v143 : Vals (m + 1) (h + 4) (2 * w) (B1 ++ B4 ++ B3) := by
        have e : (B1 ++ B4 ++ B3).Perm (B4 ++ (B1 ++ B3)) := by
          rw [List.append_assoc]
          exact List.perm_append_comm_assoc ..
        exact ((x4.app v13).perm e).mono (Nat.le_refl _) (Nat.le_refl _) (by omega)
      have v1o3 : Vals (m + 1) (h + 4) (w + 60) (B1 ++ [odd] ++ B3) := by
        have e : (B1 ++ [odd] ++ B3).Perm ([odd] ++ (B1 ++ B3)) := by
          rw [List.append_assoc]
          exact List.perm_append_comm_assoc ..
        exact ((ho'.app v13).perm e).mono (Nat.le_refl _) (Nat.le_refl _) (by omega)
      clear s1 s3 v13
      rcases (by omega : v = 0 ∨ v = 1 ∨ v = 2 ∨ (v = 3 ∨ v = 4) ∨ v = 5) with rfl | rfl | rfl | (rfl | rfl) | rfl
      · (walk_at "ev"; try simp -dsimp only [bnd_assoc])
        all_goals exact hQ _ _ (hvx.lst.mono (Nat.le_refl _) (Nat.le_refl _) (by omega)) A'
      · (walk_at "ev"; try simp -dsimp only [bnd_assoc])
        all_goals exact hQ _ _ (up (x1.app x2) (by omega)) A'
      · (walk_at "ev"; try simp -dsimp only [bnd_assoc])
        all_goals exact hQ _ _ (up v143 (by omega)) A'
      · (walk_at "ev"; try simp -dsimp only [bnd_assoc])
        all_goals exact hQ _ _ (up v1o3 (by omega)) A'
      · (walk_at "ev"; try simp -dsimp only [bnd_assoc])
        all_goals exact hQ _ _ (up v1o3 (by omega)) A'
      · (walk_at "ev"; try simp -dsimp only [bnd_assoc])
        all_goals exact hQ _ _ (up (hvx.perm (List.reverse_perm xs)) (by omega)) A'
    · (walk_at "ev"; try simp -dsimp only [bnd_assoc])
      all_goals exact hQ _ _ (ho.mono (by omega) (by omega) (by omega)) A
  rw [run_eq G.bent, K01.fd__law_bent]
  by_cases e0 : xs.length = 0
  · have e0' : ¬ ((0 : Int) < (xs.length : Int)) := by omega
    have t := two S (Aft.here hf)
    revert t
    (walk_at "ev"; try simp -dsimp only [bnd_assoc])
    all_goals exact id
  · have e0' : (0 : Int) < (xs.length : Int) := by omega
    (walk_at "ev"; try simp -dsimp only [bnd_assoc])
    refine c_draw (n := n + 3) G.g hf (by decide) (by decide) fun u S1 u0 u1 A1 => ?_
    by_cases hu : 0 < u
    · (walk_at "ev"; try simp -dsimp only [bnd_assoc])
      refine c_draw (n := n + 3) G.g A1.fd e0' (by omega) fun j S2 j0 j1 A2 => ?_
      obtain ⟨i, rfl⟩ := Int.eq_ofNat_of_zero_le j0
      have hi : i < xs.length := by omega
      have eat : L2.atI xs (i : Int) = some xs[i] := L2.atI_nat (List.getElem?_eq_getElem hi)
      have c1 : cut xs none (some (i : Int)) = xs.take i := cut_to xs i
      have c2 : cut xs (some ((i : Int) + 1)) none = xs.drop (i + 1) := cut_from xs (i + 1)
      (walk_at "ev"; try simp -dsimp only [bnd_assoc])
      refine rec xs[i] S2 (List.getElem_mem hi) (A1.trans A2).fd fun d' S3 hd A3 => ?_
      have q1 : (xs.take i).length + 1 ≤ 16777216 := by rw [List.length_take]; omega
      have q2 : (xs.take i ++ [d']).length + (xs.drop (i + 1)).length ≤ 16777216 := by rw [List.length_append, List.length_take, List.length_drop, List.length_singleton]; omega
      have sp : xs.take i ++ [xs[i]] ++ xs.drop (i + 1) = xs := by
        rw [List.append_assoc, List.singleton_append, ← List.drop_eq_getElem_cons hi, List.take_append_drop]
      have wsum : wtL (xs.take i) + wtD xs[i] + wtL (xs.drop (i + 1)) ≤ w := by
        have e := congrArg wtL sp
        rw [wtL_app, wtL_app] at e
        have e2 : wtL [xs[i]] = wtD xs[i] := Nat.add_zero _
        rw [e2] at e
        have := hv.w
        omega
      have T : Vals (m + 1) (h + 4) (wtL (xs.take i)) (xs.take i) := ⟨(hvx.sub (List.take_sublist ..)).v, (hvx.sub (List.take_sublist ..)).h, Nat.le_refl _⟩
      have B : Vals (m + 1) (h + 4) (wtL (xs.drop (i + 1))) (xs.drop (i + 1)) := ⟨(hvx.sub (List.drop_sublist ..)).v, (hvx.sub (List.drop_sublist ..)).h, Nat.le_refl _⟩
      have all : Vals (m + 1) (h + 4) (2 * w + 201) (xs.take i ++ [d'] ++ xs.drop (i + 1)) := ((T.app (Vals.one hd)).app B).mono (Nat.le_refl _) (Nat.le_refl _) (by omega)
      (walk_at "ev"; try simp -dsimp only [bnd_assoc])
      all_goals exact hQ _ _ (up all (Nat.le_refl _)) ((A1.trans A2).trans A3)
    · have t := two S1 A1
      revert t
      (walk_at "ev"; try simp -dsimp only [bnd_assoc])
      all_goals exact id
end
end OW
end
section
set_option Elab.async false
set_option linter.all false
set_option maxRecDepth 100000
set_option maxHeartbeats 4000000
namespace OW
open PySem
/-! Ps: changes of any value; the laps. -/
section
variable {Φ : Tab} {f m : Nat}
theorem c_bent (G : GenA Φ) (L : LKinds Φ) (hm : 10 ^ 59 ≤ m) (hm2 : m < 10 ^ 90) : ∀ (h : Nat) {n : Nat} (d : D) (S : Store) {β : Type} {k : D → Store → Res β} {Q : β → Store → Prop}, valD m d = true → dep d ≤ h → wtD d ≤ 100000 → Feed f S →
    (∀ (d' : D) (S' : Store), Val (m + 1) (h + 4) (2 * wtD d + 200) d' → Aft f S S' → (k d' S').good Q) → (bnd (run Φ (n + h + 4) "_law_bent" [.loc f, d] S) k).good Q := by
  intro h
  induction h with
  | zero =>
    intro n d S β k Q hv hd hw hf hQ
    cases d with
    | tup xs => rw [dep_tup] at hd; omega
    | lst xs => rw [dep_lst] at hd; omega
    | str x => exact bent_str (w := x.length + 1) G L hf hm hv (Nat.le_refl _) hw hQ
    | int i => exact bent_int (w := 1) G L hf hm hm2 (of_decide_eq_true hv) hQ
    | non => exact bent_odd (w := 1) G L hf hm rfl (fun _ => rfl) (fun _ => rfl) rfl hQ
    | bl b => exact bent_odd (w := 1) G L hf hm rfl (fun _ => rfl) (fun _ => rfl) rfl hQ
    | ro _ => cases hv
    | loc _ => cases hv
  | succ h ih =>
    intro n d S β k Q hv hd hw hf hQ
    have okd : okD d = true := val_ok hv (Nat.le_trans hw (by rw [sizeE]; decide))
    cases d with
    | tup xs =>
      rw [dep_tup] at hd
      have hw' : wtL xs + 1 ≤ 100000 := hw
      have V : Vals m h (wtL xs) xs := ⟨hv, by omega, Nat.le_refl _⟩
      refine bent_tup (n := n + h) G L hf hm V (by omega) (fun e S1 β k Q he hf1 hQ1 => ?_) fun d' S' v A => hQ d' S' ?_ A
      · have ve := V.mem he
        exact ih e S1 ve.v ve.h (Nat.le_trans ve.w (by omega)) hf1 hQ1
      · exact v.mono (Nat.le_refl _) (Nat.le_refl _) (by show 2 * wtL xs + 202 ≤ 2 * (wtL xs + 1) + 200; omega)
    | lst xs => exact bent_odd (n := n + (h + 1)) (w := wtL xs + 1) G L hf hm okd (fun _ => rfl) (fun _ => rfl) rfl hQ
    | str x => exact bent_str (n := n + (h + 1)) (w := x.length + 1) G L hf hm hv (Nat.le_refl _) hw hQ
    | int i => exact bent_int (n := n + (h + 1)) (w := 1) G L hf hm hm2 (of_decide_eq_true hv) hQ
    | non => exact bent_odd (n := n + (h + 1)) (w := 1) G L hf hm rfl (fun _ => rfl) (fun _ => rfl) rfl hQ
    | bl b => exact bent_odd (n := n + (h + 1)) (w := 1) G L hf hm rfl (fun _ => rfl) (fun _ => rfl) rfl hQ
    | ro _ => cases hv
    | loc _ => cases hv
end
/-- a value that the law asks about -/
def gd (d : D) : Bool := valB (10 ^ 59 + 2) 20 2000 d
theorem valB_of {m h w : Nat} {d : D} (v : Val m h w d) : valB m h w d = true := by
  unfold valB
  rw [v.v, decide_eq_true v.h, decide_eq_true v.w]; rfl
theorem gd_of {m h w : Nat} {d : D} (v : Val m h w d) (a : m ≤ 10 ^ 59 + 2) (b : h ≤ 20) (c : w ≤ 2000) : gd d = true := valB_of (v.mono a b c)
theorem comp_none {body : D → Store → Res (Option D)} : ∀ {xs : List D} {S : Store}, (∀ x ∈ xs, ∀ S, ∃ S', body x S = .ok none S') → ∃ S', compGo body xs [] S = .ok [] S'
  | [], S, _ => ⟨S, rfl⟩
  | x :: xs, S, h => by
    obtain ⟨S1, e⟩ := h x (List.mem_cons_self ..) S
    obtain ⟨S2, e2⟩ := comp_none (S := S1) fun y hy => h y (List.mem_cons_of_mem _ hy)
    refine ⟨S2, ?_⟩
    rw [compGo, e]
    exact e2
theorem rev_all {K : D → Bool} {xs : List D} (h : xs.all K = true) : xs.reverse.all K = true := by rw [List.all_reverse]; exact h
local macro_rules | `(tactic| walk_at "ev") => `(tactic| simp -dsimp only [bnd_ok, call_eq, e_var, vGet_some, e_cst, e_app, e_call, e_mcall, e_and, e_or, e_not, e_ite, e_chain, e_comp, cb_none, cb_some, a_nil, a_cons, i_seq, rngR_ok, i_range1, i_range2, i_zip, oNext_some, s_asg, s_par, s_sub, s_subs, s_expr, s_ret, s_pass, s_ifs, fb_some, s_for, b_nil, b_cons, for_nil, for_cons, sa_nil, sa_cons, p_bin, p_item, p_cmp, p_fn, p_tup, p_lst, p_lstM, p_inst, p_neg, o_some, b_addI, b_addS, b_addT, b_addL, b_sub, b_mulI, b_div, b_mod, c_lt, c_gt, c_le, c_ge, f_intI, f_intB, f_lenT, f_lenL, f_lenS, i_tup, i_lst, t_bl, t_non, need_dec, need_true, sizeE, st_nm, st_tu2, set_nil, set_cons, it_tup, it_lst, it_str, wipe_nil, wipe_cons, startD, tyOf, isT, Nat.reduceLT, Nat.reduceLeDiff, Nat.reduceAdd, Nat.reduceSub, Nat.reduceEqDiff, Int.reduceLT, Int.reduceEq, Int.reduceBEq, Int.reduceLE, Int.reduceAdd, Int.reduceSub, Int.reduceNeg, Int.reduceToNat, Int.reducePow, decide_true, decide_false, if_true, if_false, Bool.false_eq_true, reduceIte, Bool.not_true, Bool.not_false, Bool.true_or, Bool.false_or, Bool.or_true, Bool.or_false, Bool.and_true, Bool.true_and, Bool.and_false, Bool.false_and, and_true, true_and, or_true, true_or, and_self, List.set_cons_zero, List.set_cons_succ, List.length_cons, List.length_nil, List.map_cons, List.map_nil, List.cons_append, List.nil_append, List.getElem?_cons_zero, List.getElem?_cons_succ, List.replicate_succ, List.replicate_zero, List.any_cons, List.any_nil, p_sl1, at_0, at_1, at_2, at_3, c_eqK, c_neK, nc0, nc1, nc2, nc3, nc4, nc5, c_isNon, Bool.not_not, good_ok, p_sset, f_tuple, f_list, p_slTo, p_slFr, p_revT, *])
section
variable {Φ : Tab} {n f : Nat} {S : Store} {β : Type} {k : Fl → Store → Res β} {Q : β → Store → Prop}
/-- the changes of each drawn value -/
theorem lap_in (G : GenA Φ) (L : LKinds Φ) {ws xs : List D} {a0 a3 a4 a5 a6 a7 a8 a9 a10 a11 a12 : Option D} (hf : Feed f S) (hw : ∀ w ∈ ws, Val (10 ^ 59) 5 200 w) (hx : xs.all gd = true) (lx : xs.length + 3 * ws.length ≤ 100000)
    (hQ : ∀ (S' : Store) (ys : List D) (b11 b12 : Option D), Feed f S' → ys.all gd = true → ys.length ≤ xs.length + 3 * ws.length → (k (.next [a0, some (D.loc f), some (D.lst ys), a3, a4, a5, a6, a7, a8, a9, a10, b11, b12]) S').good Q) :
    (bnd (forGo (forBody (run Φ (n + 59)) (.nm 11) [.asg (.nm 12) (.call "_law_bent" [(.var 1), (.var 11)]),
      .asg (.nm 2) (.app (.bin .Add) [(.var 2), (.app .lst [(.var 11), (.var 12), (.call "_law_bent" [(.var 1), (.var 12)])])])]) ws [a0, some (D.loc f), some (D.lst xs), a3, a4, a5, a6, a7, a8, a9, a10, a11, a12] S) k).good Q := by
  refine c_for (fun i ε S' => Feed f S' ∧ ∃ ys b11 b12, ε = [a0, some (D.loc f), some (D.lst ys), a3, a4, a5, a6, a7, a8, a9, a10, b11, b12] ∧ ys.all gd = true ∧ ys.length ≤ xs.length + 3 * i) ⟨hf, xs, a11, a12, rfl, hx, by omega⟩ ?_ ?_
  · rintro i w ε S1 R hi ⟨hf1, ys, b11, b12, rfl, hy, ly⟩ hR
    have li := lt_of_getElem? hi
    have vw := hw w (List.mem_of_getElem? hi)
    have w200 := vw.w
    (walk_at "ev"; try simp -dsimp only [bnd_assoc])
    refine c_bent (m := 10 ^ 59) (n := n + 50) G L (Nat.le_refl _) (Nat.pow_lt_pow_right (by decide) (by decide)) 5 w S1 vw.v vw.h (Nat.le_trans vw.w (by decide)) hf1 fun w1 S2 v1 A1 => ?_
    have w600 := v1.w
    (walk_at "ev"; try simp -dsimp only [bnd_assoc])
    refine c_bent (m := 10 ^ 59 + 1) (n := n + 46) G L (Nat.le_succ _) (Nat.lt_of_lt_of_le (Nat.succ_lt_succ (Nat.lt_of_lt_of_le (Nat.pow_lt_pow_right (a := 10) (by decide) (by decide : 59 < 60)) (Nat.le_refl _))) (by decide)) 9 w1 S2 v1.v v1.h (Nat.le_trans v1.w (by omega)) A1.fd fun w2 S3 v2 A2 => ?_
    have q : ys.length + 3 ≤ 16777216 := by omega
    (walk_at "ev"; try simp -dsimp only [bnd_assoc])
    refine hR _ _ ⟨A2.fd, ys ++ [w, w1, w2], _, _, rfl, ?_, ?_⟩
    · rw [List.all_append, hy]
      show (true && (gd w && (gd w1 && (gd w2 && true)))) = true
      rw [gd_of vw (by omega) (by omega) (by omega), gd_of v1 (by omega) (by omega) (by omega), gd_of v2 (by omega) (by omega) (by omega)]; rfl
    · rw [List.length_append]
      show ys.length + 3 ≤ _
      omega
  · rintro ε S1 ⟨hf1, ys, b11, b12, rfl, hy, ly⟩
    exact hQ S1 ys b11 b12 hf1 hy ly
end
end OW
end
section
set_option Elab.async false
set_option linter.all false
set_option maxRecDepth 100000
set_option maxHeartbeats 4000000
namespace OW
open PySem
/-! Pt: the laps, the names of the parameters, the law. -/
theorem b_mulSt {x : Str} {k : Int} {S : Store} : binD .Mult (.str x) (.int k) S = need (decide (0 ≤ k ∧ k ≤ 1000 ∧ x.length ≤ 1000)) (.ok (.str (repS x k.toNat)) S) := nr rfl
theorem b_mulTu {xs : List D} {k : Int} {S : Store} : binD .Mult (.tup xs) (.int k) S = need (decide (2 ≤ k ∧ k ≤ 1000 ∧ 0 < xs.length ∧ xs.length ≤ 1000)) (.ok (.tup (List.replicate k.toNat xs).flatten) S) := nr rfl
theorem b_mulLi {xs : List D} {k : Int} {S : Store} : binD .Mult (.lst xs) (.int k) S = need (decide (0 ≤ k ∧ k ≤ 1000 ∧ xs.length ≤ 1000)) (.ok (.lst (List.replicate k.toNat xs).flatten) S) := nr rfl
theorem f_lrange {k : Int} {S : Store} : fnD .lrange (.int k) S = need (decide (0 ≤ k ∧ k ≤ 1000000)) (.ok (.lst ((List.range k.toNat).map fun i => D.int (i : Nat))) S) := nr rfl
structure LawT (Φ : Tab) : Prop where
  told : Told Φ
  gen : GenA Φ
  feed : Φ "_law_feed" = some K01.fd__law_feed
  named : Φ "_law_are_named" = some K01.fd__law_are_named
  law : Φ "law" = some K01.fd_law
local macro_rules | `(tactic| walk_at "ev") => `(tactic| simp -dsimp only [bnd_ok, call_eq, e_var, vGet_some, e_cst, e_app, e_call, e_mcall, e_and, e_or, e_not, e_ite, e_chain, e_comp, cb_none, cb_some, a_nil, a_cons, i_seq, rngR_ok, i_range1, i_range2, i_zip, oNext_some, s_asg, s_par, s_sub, s_subs, s_expr, s_ret, s_pass, s_ifs, fb_some, s_for, b_nil, b_cons, for_nil, for_cons, sa_nil, sa_cons, p_bin, p_item, p_cmp, p_fn, p_tup, p_lst, p_lstM, p_inst, p_neg, o_some, b_addI, b_addS, b_addT, b_addL, b_sub, b_mulI, b_div, b_mod, c_lt, c_gt, c_le, c_ge, f_intI, f_intB, f_lenT, f_lenL, f_lenS, i_tup, i_lst, t_bl, t_non, need_dec, need_true, sizeE, st_nm, st_tu2, set_nil, set_cons, it_tup, it_lst, it_str, wipe_nil, wipe_cons, startD, tyOf, isT, Nat.reduceLT, Nat.reduceLeDiff, Nat.reduceAdd, Nat.reduceSub, Nat.reduceEqDiff, Int.reduceLT, Int.reduceEq, Int.reduceBEq, Int.reduceLE, Int.reduceAdd, Int.reduceSub, Int.reduceNeg, Int.reduceToNat, Int.reducePow, decide_true, decide_false, if_true, if_false, Bool.false_eq_true, reduceIte, Bool.not_true, Bool.not_false, Bool.true_or, Bool.false_or, Bool.or_true, Bool.or_false, Bool.and_true, Bool.true_and, Bool.and_false, Bool.false_and, and_true, true_and, or_true, true_or, and_self, List.set_cons_zero, List.set_cons_succ, List.length_cons, List.length_nil, List.map_cons, List.map_nil, List.cons_append, List.nil_append, List.getElem?_cons_zero, List.getElem?_cons_succ, List.replicate_succ, List.replicate_zero, List.any_cons, List.any_nil, p_sl1, at_0, at_1, at_2, at_3, c_eqK, c_neK, nc0, nc1, nc2, nc3, nc4, nc5, c_isNon, Bool.not_not, good_ok, p_sset, f_tuple, f_list, p_slTo, p_slFr, p_revT, *])
local macro_rules | `(tactic| walk_at "evf") => `(tactic| simp -dsimp only [bnd_ok, call_eq, e_var, vGet_some, e_cst, e_app, e_call, e_mcall, e_and, e_or, e_not, e_ite, e_chain, e_comp, cb_none, cb_some, a_nil, a_cons, i_seq, rngR_ok, i_range1, i_range2, i_zip, oNext_some, s_asg, s_par, s_sub, s_subs, s_expr, s_ret, s_pass, s_ifs, fb_some, s_for, b_nil, b_cons, sa_nil, sa_cons, p_bin, p_item, p_cmp, p_fn, p_tup, p_lst, p_lstM, p_inst, p_neg, o_some, b_addI, b_addS, b_addT, b_addL, b_sub, b_mulI, b_div, b_mod, c_lt, c_gt, c_le, c_ge, f_intI, f_intB, f_lenT, f_lenL, f_lenS, i_tup, i_lst, t_bl, t_non, need_dec, need_true, sizeE, st_nm, st_tu2, set_nil, set_cons, it_tup, it_lst, it_str, wipe_nil, wipe_cons, startD, tyOf, isT, Nat.reduceLT, Nat.reduceLeDiff, Nat.reduceAdd, Nat.reduceSub, Nat.reduceEqDiff, Int.reduceLT, Int.reduceEq, Int.reduceBEq, Int.reduceLE, Int.reduceAdd, Int.reduceSub, Int.reduceNeg, Int.reduceToNat, Int.reducePow, decide_true, decide_false, if_true, if_false, Bool.false_eq_true, reduceIte, Bool.not_true, Bool.not_false, Bool.true_or, Bool.false_or, Bool.or_true, Bool.or_false, Bool.and_true, Bool.true_and, Bool.and_false, Bool.false_and, and_true, true_and, or_true, true_or, and_self, List.set_cons_zero, List.set_cons_succ, List.length_cons, List.length_nil, List.map_cons, List.map_nil, List.cons_append, List.nil_append, List.getElem?_cons_zero, List.getElem?_cons_succ, List.replicate_succ, List.replicate_zero, List.any_cons, List.any_nil, p_sl1, at_0, at_1, at_2, at_3, c_eqK, c_neK, nc0, nc1, nc2, nc3, nc4, nc5, c_isNon, Bool.not_not, good_ok, p_sset, f_tuple, f_list, p_slTo, p_slFr, p_revT, *])
section
variable {Φ : Tab} {n f : Nat} {S : Store} {β : Type} {k : Fl → Store → Res β} {Q : β → Store → Prop}
theorem lap_out (K : LawT Φ) {xs : List D} {a0 a3 a4 a5 a6 a7 a8 a9 a10 a11 a12 : Option D} (hf : Feed f S) (hx : xs.all gd = true) (lx : xs.length ≤ 1000)
    (hQ : ∀ (S' : Store) (ys : List D) (a0 a3 a4 a5 a6 a7 a8 a9 a10 a11 a12 : Option D), Feed f S' → ys.all gd = true → ys.length ≤ 2000 → (k (.next [a0, some (D.loc f), some (D.lst ys), a3, a4, a5, a6, a7, a8, a9, a10, a11, a12]) S').good Q) :
    (bnd (forGo (forBody (run Φ (n + 59)) (.nm 3) [.asg (.tu [(.nm 4), (.nm 5)]) (.app .tup [(.call "_law_names" [(.var 1)]), (.call "_law_sorts" [(.var 1)])]), .par [6, 7] [(.call "_law_line" [(.var 1), (.var 4), (.var 5)]), (.call "_law_shape" [(.var 1), (.cst (.int (9)))])], .asg (.nm 8) (.app (.fn .tuple) [(.app .sortedSet [(.comp (.nm 9) (.range1 (.call "_law_draw" [(.var 1), (.cst (.int (5)))])) none (.call "_law_worldly" [(.var 1), (.var 5)]) [9])])]), .asg (.nm 10) (.app .lst [(.var 6), (.app (.slice true false) [(.var 6), (.cst (.int (1)))]), (.app (.fn .tuple) [(.var 4)]), (.app .item [(.var 4), (.cst (.int (0)))]), (.var 8), (.app .rev [(.var 8)]), (.var 7), (.app .item [(.var 7), (.cst (.int (0)))]), (.app .item [(.var 7), (.cst (.int (1)))])]), .asg (.nm 10) (.app (.bin .Add) [(.app (.bin .Add) [(.var 10), (.app (.fn .list) [(.var 8)])]), (.app (.fn .list) [(.app .item [(.var 7), (.cst (.int (1)))])])]), .for_ (.nm 11) (.seq (.var 10)) [ .asg (.nm 12) (.call "_law_bent" [(.var 1), (.var 11)]), .asg (.nm 2) (.app (.bin .Add) [(.var 2), (.app .lst [(.var 11), (.var 12), (.call "_law_bent" [(.var 1), (.var 12)])])])], .asg (.nm 2) (.app (.bin .Add) [(.var 2), (.comp (.nm 9) (.range1 (.cst (.int (6)))) none (.call "_law_strange" [(.var 1)]) [9])])]) (rngD 0 4) [a0, some (D.loc f), some (D.lst xs), a3, a4, a5, a6, a7, a8, a9, a10, a11, a12] S) k).good Q := by
  have G := K.gen
  have L := K.told.l
  refine c_for (fun i ε S' => Feed f S' ∧ ∃ ys a0 a3 a4 a5 a6 a7 a8 a9 a10 a11 a12, ε = [a0, some (D.loc f), some (D.lst ys), a3, a4, a5, a6, a7, a8, a9, a10, a11, a12] ∧ ys.all gd = true ∧ ys.length ≤ 1000 + 100 * i) ⟨hf, xs, _, _, _, _, _, _, _, _, _, _, _, rfl, hx, by omega⟩ ?_ ?_
  · rintro i x ε S0 R hi ⟨hf0, ys, a0, a3, a4, a5, a6, a7, a8, a9, a10, a11, a12, rfl, hy, ly⟩ hR
    have li : i < 4 := by
      have := lt_of_getElem? hi
      rw [rng0_len] at this
      omega
    clear hx lx hf hQ
    (walk_at "ev"; try simp -dsimp only [bnd_assoc])
    refine c_names (n := n + 56) G hf0 fun ks S1 hk k0 k4 A1 => ?_
    (walk_at "ev"; try simp -dsimp only [bnd_assoc])
    refine c_sorts (n := n + 56) G A1.fd fun ts S2 ht t0 t4 A2 => ?_
    (walk_at "ev"; try simp -dsimp only [bnd_assoc])
    refine c_line (n := n + 56) G A2.fd hk k0 (by omega) ht t0 (by omega) fun ps S3 hp p0 A3 => ?_
    (walk_at "ev"; try simp -dsimp only [bnd_assoc])
    refine c_shape (n := n + 56) G A3.fd fun us vs S4 hu hv lu lv A4 => ?_
    (walk_at "ev"; try simp -dsimp only [bnd_assoc])
    refine c_draw (n := n + 58) G.g A4.fd (by decide) (by decide) fun v S5 v0 v1 A5 => ?_
    have e0 : bnd62 0 = true := by decide
    have ev : bnd62 v = true := decide_eq_true (by omega)
    (walk_at "ev"; try simp -dsimp only [bnd_assoc])
    refine c_comp (fun S' => Feed f S') isWl A5.fd (fun x hx S2 R hf2 hR => ?_) (by rw [rng0_len]; omega) fun ls S6 hf6 hl ll => ?_
    · (walk_at "ev"; try simp -dsimp only [bnd_assoc])
      refine c_worldly (n := n + 56) G hf2 ht t0 (by omega) fun d S3 hd A3 => ?_
      (walk_at "ev"; try simp -dsimp only [bnd_assoc])
      all_goals exact hR _ _ A3.fd hd
    rw [rng0_len] at ll
    have so := uni_ok uni_wl hl (by omega)
    have s1 := so.1
    have s2 := so.2
    have ss := ss_all hl
    generalize hm : sortD (dedup ls) = ms at ss
    obtain ⟨k1, kr, rfl⟩ : ∃ a b, ks = a :: b := by
      cases ks with
      | nil => cases k0
      | cons a b => exact ⟨a, b, rfl⟩
    obtain ⟨hms, lms⟩ := ss
    have q1 : 9 + ms.length ≤ 16777216 := by omega
    have q2 : ms.length + 1 + 1 + 1 + 1 + 1 + 1 + 1 + 1 + 1 + vs.length ≤ 16777216 := by omega
    (walk_at "evf"; try simp -dsimp only [bnd_assoc])
    have vk : Vals (10 ^ 59) 0 36 (k1 :: kr) := vals_of (w := 9) (fun _ h => (nm_val h).mono (Nat.zero_le _) (Nat.le_refl _) (Nat.le_refl _)) hk (by omega)
    have vm : Vals (10 ^ 59) 2 100 ms := vals_of (w := 13) (fun _ h => wl_val h) hms (by omega)
    have vu : Vals (10 ^ 59) 0 3 us := vals_of (w := 1) (fun _ h => nu_val h) hu (by omega)
    have vv : Vals (10 ^ 59) 1 9 vs := vals_of (w := 3) (fun _ h => pr_val h) hv (by omega)
    have vp : Vals (10 ^ 59) 1 60 ps := hp.mono (Nat.zero_le _) (Nat.le_refl _) (Nat.le_refl _)
    have up : ∀ {h w : Nat} {d : D}, Val (10 ^ 59) h w d → h ≤ 5 → w ≤ 200 → Val (10 ^ 59) 5 200 d := fun v a b => v.mono (Nat.le_refl _) a b
    have cl : (D.tup ps :: D.tup (cut ps (some 1) none) :: D.tup (k1 :: kr) :: k1 :: D.tup ms :: D.tup ms.reverse :: D.tup [D.tup us, D.tup vs] :: D.tup us :: D.tup vs :: (ms ++ vs)).length ≤ 16 := by
      simp only [List.length_cons, List.length_append]
      omega
    refine lap_in (n := n) G L hf6 ?_ hy ?_ fun S7 zs b11 b12 hf7 hz lz => ?_
    · intro w hw
      simp only [List.mem_cons, List.mem_append] at hw
      rcases hw with rfl | rfl | rfl | rfl | rfl | rfl | rfl | rfl | rfl | hw | hw
      · exact up vp.tup (by decide) (by decide)
      · exact up (vp.sub (cut_sub ..)).tup (by decide) (by decide)
      · exact up vk.tup (by decide) (by decide)
      · exact up (vk.mem (List.mem_cons_self ..)) (by decide) (by decide)
      · exact up vm.tup (by decide) (by decide)
      · exact up (vm.perm (List.reverse_perm ms)).tup (by decide) (by decide)
      · exact up (Vals.cons (vu.tup.mono (h' := 2) (Nat.le_refl _) (by decide) (Nat.le_refl _)) (Vals.one vv.tup)).tup (by decide) (by decide)
      · exact up vu.tup (by decide) (by decide)
      · exact up vv.tup (by decide) (by decide)
      · exact up (vm.mem hw) (by decide) (by decide)
      · exact up (vv.mem hw) (by decide) (by decide)
    · omega
    · have e6 : bnd62 6 = true := by decide
      clear hm vk vm vu vv vp
      (walk_at "ev"; try simp -dsimp only [bnd_assoc])
      refine c_comp (fun S' => Feed f S') gd hf7 (fun x hx S2 R hf2 hR => ?_) (by rw [rng0_len]; decide) fun os S8 hf8 ho lo => ?_
      · (walk_at "ev"; try simp -dsimp only [bnd_assoc])
        refine c_strange (n := n + 56) G hf2 fun d S3 hd A3 => ?_
        (walk_at "ev"; try simp -dsimp only [bnd_assoc])
        all_goals exact hR _ _ A3.fd (gd_of hd (by omega) (by omega) (by omega))
      rw [rng0_len] at lo
      have lo : os.length = 6 := lo
      have q3 : zs.length ≤ 16777210 := by omega
      (walk_at "ev"; try simp -dsimp only [bnd_assoc])
      refine hR _ _ ⟨hf8, zs ++ os, _, _, _, _, _, _, _, _, _, _, _, rfl, ?_, ?_⟩
      · rw [List.all_append, hz, ho]; rfl
      · rw [List.length_append]; omega
  · rintro ε S1 ⟨hf1, ys, a0, a3, a4, a5, a6, a7, a8, a9, a10, a11, a12, rfl, hy, ly⟩
    rw [rng0_len] at ly
    exact hQ S1 ys _ _ _ _ _ _ _ _ _ _ _ hf1 hy (Nat.le_trans ly (by decide))
end
end OW
end
section
set_option Elab.async false
set_option linter.all false
set_option maxRecDepth 100000
set_option maxHeartbeats 4000000
namespace OW
open PySem
/-! Pu: the names of the parameters, the feed, the law. -/
theorem p_dct4 {S : Store} {a b c d : D} : primD (.dct [.inr "cells", .inr "turn", .inr "rest", .inr "drawn"]) [a, b, c, d] S = .ok (.loc S.length) (S ++ [.dct [(.inr "cells", a), (.inr "turn", b), (.inr "rest", c), (.inr "drawn", d)]]) := by
  show need (decide _) _ = _
  rw [need_dec ⟨rfl, by decide +kernel, by decide +kernel⟩]
  rfl
theorem p_slRo {xs : List D} {j : Int} {S : Store} : primD (.slice false true) [.ro xs, .int j] S = .ok (.lst (cut xs none (some j))) S := nr rfl
theorem f_listL {xs : List D} {S : Store} : fnD .list (.lst xs) S = .ok (.lst xs) S := nr rfl
local macro_rules | `(tactic| walk_at "ev") => `(tactic| simp -dsimp only [bnd_ok, call_eq, e_var, vGet_some, e_cst, e_app, e_call, e_mcall, e_and, e_or, e_not, e_ite, e_chain, e_comp, cb_none, cb_some, a_nil, a_cons, i_seq, rngR_ok, i_range1, i_range2, i_zip, oNext_some, s_asg, s_par, s_sub, s_subs, s_expr, s_ret, s_pass, s_ifs, fb_some, s_for, b_nil, b_cons, for_nil, for_cons, sa_nil, sa_cons, p_bin, p_item, p_cmp, p_fn, p_tup, p_lst, p_lstM, p_inst, p_neg, o_some, b_addI, b_addS, b_addT, b_addL, b_sub, b_mulI, b_div, b_mod, c_lt, c_gt, c_le, c_ge, f_intI, f_intB, f_lenT, f_lenL, f_lenS, i_tup, i_lst, t_bl, t_non, need_dec, need_true, sizeE, st_nm, st_tu2, set_nil, set_cons, it_tup, it_lst, it_str, wipe_nil, wipe_cons, startD, tyOf, isT, Nat.reduceLT, Nat.reduceLeDiff, Nat.reduceAdd, Nat.reduceSub, Nat.reduceEqDiff, Int.reduceLT, Int.reduceEq, Int.reduceBEq, Int.reduceLE, Int.reduceAdd, Int.reduceSub, Int.reduceNeg, Int.reduceToNat, Int.reducePow, decide_true, decide_false, if_true, if_false, Bool.false_eq_true, reduceIte, Bool.not_true, Bool.not_false, Bool.true_or, Bool.false_or, Bool.or_true, Bool.or_false, Bool.and_true, Bool.true_and, Bool.and_false, Bool.false_and, and_true, true_and, or_true, true_or, and_self, List.set_cons_zero, List.set_cons_succ, List.length_cons, List.length_nil, List.map_cons, List.map_nil, List.cons_append, List.nil_append, List.getElem?_cons_zero, List.getElem?_cons_succ, List.replicate_succ, List.replicate_zero, List.any_cons, List.any_nil, p_sl1, at_0, at_1, at_2, at_3, c_eqK, c_neK, nc0, nc1, nc2, nc3, nc4, nc5, c_isNon, Bool.not_not, good_ok, f_tuple, f_list, f_listL, p_slRo, p_dct4, b_mulLi, List.flatten_cons, List.flatten_nil, *])
section
variable {Φ : Tab} {n f : Nat} {S : Store}
theorem feed_ok (K : LawT Φ) (ns : List Int) : ∃ S', run Φ (n + 1) "_law_feed" [.ro (ns.map D.int)] S = .ok (.loc S.length) S' ∧ Feed S.length S' := by
  rw [run_eq K.feed, K01.fd__law_feed]
  have e : cut (ns.map D.int) none (some 63) = (ns.take 63).map D.int := by
    rw [show (63 : Int) = ((63 : Nat) : Int) from rfl, cut_to, List.map_take]
  clear K
  walk_at "ev"
  refine ⟨_, rfl, ns.take 63, 0, 0, 0, List.length_take_le .., Int.le_refl _, ?_⟩
  rw [List.getElem?_append_right (Nat.le_refl _), Nat.sub_self]
  rfl
theorem named_ok (K : LawT Φ) : run Φ (n + 10) "_law_are_named" [] S = .ok (.bl true) S := by
  rw [run_eq K.named, K01.fd__law_are_named]
  have k := K.told.k
  have g1 := run_is_integer (n := n + 8) (S := S) (d := .int (-1)) k.integer rfl
  have g2 := k_number (n := n + 7) (S := S) (d := .int 0) k rfl
  have g3 := k_name (n := n + 8) (S := S) (d := .str "a") k (by decide +kernel)
  have g4 := k_fact (n := n + 7) (S := S) (d := .tup [.str "a", .tup [.str "b"]]) k (by decide +kernel)
  have g5 := k_worldly (n := n + 6) (S := S) (d := .tup [.str "a", .tup [.int 0]]) k (by decide +kernel)
  have g6 := k_row (n := n + 6) (S := S) (d := .tup [.str "pass"]) k (by decide +kernel)
  have g7 := k_lacking (n := n + 5) (S := S) (d := .tup []) k (by decide +kernel)
  have g8 := k_choices (n := n + 6) (S := S) (d := .tup [.int 3, .int 3]) k (by decide +kernel)
  have g9 := k_way (n := n + 6) (S := S) (d := .tup [.int 0, .int 0]) k (by decide +kernel)
  have g10 := k_form (n := n + 4) (S := S) (d := .tup [.tup [], .tup []]) k (by decide +kernel)
  rw [show isIntB (.int (-1)) = true by decide +kernel] at g1
  rw [show isNumB (.int 0) = true by decide +kernel] at g2
  rw [show isNameB (.str "a") = true by decide +kernel] at g3
  rw [show isFactB true (.tup [.str "a", .tup [.str "b"]]) = true by decide +kernel] at g4
  rw [show isFactB false (.tup [.str "a", .tup [.int 0]]) = true by decide +kernel] at g5
  rw [show isRowB (.tup [.str "pass"]) = true by decide +kernel] at g6
  rw [show isLackingB (.tup []) = true by decide +kernel] at g7
  rw [show isChoicesB (.tup [.int 3, .int 3]) = true by decide +kernel] at g8
  rw [show isWayB (.tup [.int 0, .int 0]) = true by decide +kernel] at g9
  rw [show isFormB (.tup [.tup [], .tup []]) = true by decide +kernel] at g10
  have r1 : fnD .repr (.lst [.bl true, .bl true, .bl true, .bl true, .bl true, .bl true, .bl true, .bl true, .bl true, .bl true]) S = .ok (.str (D.lst [.bl true, .bl true, .bl true, .bl true, .bl true, .bl true, .bl true, .bl true, .bl true, .bl true]).py.shown) S := f_repr (S := S) (m := 0) (by decide +kernel) rfl (by decide +kernel) (by decide +kernel)
  have q := c_eqSelf (S := S) (okS_shown (D.lst [.bl true, .bl true, .bl true, .bl true, .bl true, .bl true, .bl true, .bl true, .bl true, .bl true]).py rfl)
  have e10 : (List.replicate 10 [D.bl true]).flatten = [.bl true, .bl true, .bl true, .bl true, .bl true, .bl true, .bl true, .bl true, .bl true, .bl true] := rfl
  clear k K
  walk_at "ev"
end
def z408 : List D := (List.replicate 408 [D.int 0]).flatten
def r450 : List D := (List.range 450).map fun i => D.int (i : Nat)
def r30 : List D := (List.range 30).map fun i => D.int (i : Nat)
def a8 : Str := repS "a" 8
def a9 : Str := repS "a" 9
section
variable {S : Store}
theorem m_a8 : binD .Mult (.str "a") (.int 8) S = .ok (.str a8) S := by rw [b_mulSt, need_dec ⟨by decide, by decide, by decide +kernel⟩]; rfl
theorem m_a9 : binD .Mult (.str "a") (.int 9) S = .ok (.str a9) S := by rw [b_mulSt, need_dec ⟨by decide, by decide, by decide +kernel⟩]; rfl
theorem m_z408 : binD .Mult (.tup [.int 0]) (.int 408) S = .ok (.tup z408) S := by rw [b_mulTu, need_dec ⟨by decide, by decide, by decide, by decide⟩]; rfl
theorem m_r450 : fnD .lrange (.int 450) S = .ok (.lst r450) S := by rw [f_lrange, need_dec ⟨by decide, by decide⟩]; rfl
theorem m_r30 : fnD .lrange (.int 30) S = .ok (.lst r30) S := by rw [f_lrange, need_dec ⟨by decide, by decide⟩]; rfl
end
local macro_rules | `(tactic| walk_at "ev") => `(tactic| simp -dsimp only [bnd_ok, call_eq, e_var, vGet_some, e_cst, e_app, e_call, e_mcall, e_and, e_or, e_not, e_ite, e_chain, e_comp, cb_none, cb_some, a_nil, a_cons, i_seq, rngR_ok, i_range1, i_range2, i_zip, oNext_some, s_asg, s_par, s_sub, s_subs, s_expr, s_ret, s_pass, s_ifs, fb_some, s_for, b_nil, b_cons, for_nil, for_cons, sa_nil, sa_cons, p_bin, p_item, p_cmp, p_fn, p_tup, p_lst, p_lstM, p_inst, p_neg, o_some, b_addI, b_addS, b_addT, b_addL, b_sub, b_mulI, b_div, b_mod, c_lt, c_gt, c_le, c_ge, f_intI, f_intB, f_lenT, f_lenL, f_lenS, i_tup, i_lst, t_bl, t_non, need_dec, need_true, sizeE, st_nm, st_tu2, set_nil, set_cons, it_tup, it_lst, it_str, wipe_nil, wipe_cons, startD, tyOf, isT, Nat.reduceLT, Nat.reduceLeDiff, Nat.reduceAdd, Nat.reduceSub, Nat.reduceEqDiff, Int.reduceLT, Int.reduceEq, Int.reduceBEq, Int.reduceLE, Int.reduceAdd, Int.reduceSub, Int.reduceNeg, Int.reduceToNat, Int.reducePow, decide_true, decide_false, if_true, if_false, Bool.false_eq_true, reduceIte, Bool.not_true, Bool.not_false, Bool.true_or, Bool.false_or, Bool.or_true, Bool.or_false, Bool.and_true, Bool.true_and, Bool.and_false, Bool.false_and, and_true, true_and, or_true, true_or, and_self, List.set_cons_zero, List.set_cons_succ, List.length_cons, List.length_nil, List.map_cons, List.map_nil, List.cons_append, List.nil_append, List.getElem?_cons_zero, List.getElem?_cons_succ, List.replicate_succ, List.replicate_zero, List.any_cons, List.any_nil, p_sl1, at_0, at_1, at_2, at_3, c_eqK, c_neK, nc0, nc1, nc2, nc3, nc4, nc5, c_isNon, Bool.not_not, good_ok, f_tuple, f_list, f_listL, m_a8, m_a9, m_z408, m_r450, m_r30, *])
local macro_rules | `(tactic| walk_at "evf") => `(tactic| simp -dsimp only [bnd_ok, call_eq, e_var, vGet_some, e_cst, e_app, e_call, e_mcall, e_and, e_or, e_not, e_ite, e_chain, e_comp, cb_none, cb_some, a_nil, a_cons, i_seq, rngR_ok, i_range1, i_range2, i_zip, oNext_some, s_asg, s_par, s_sub, s_subs, s_expr, s_ret, s_pass, s_ifs, fb_some, s_for, b_nil, b_cons, sa_nil, sa_cons, p_bin, p_item, p_cmp, p_fn, p_tup, p_lst, p_lstM, p_inst, p_neg, o_some, b_addI, b_addS, b_addT, b_addL, b_sub, b_mulI, b_div, b_mod, c_lt, c_gt, c_le, c_ge, f_intI, f_intB, f_lenT, f_lenL, f_lenS, i_tup, i_lst, t_bl, t_non, need_dec, need_true, sizeE, st_nm, st_tu2, set_nil, set_cons, it_tup, it_lst, it_str, wipe_nil, wipe_cons, startD, tyOf, isT, Nat.reduceLT, Nat.reduceLeDiff, Nat.reduceAdd, Nat.reduceSub, Nat.reduceEqDiff, Int.reduceLT, Int.reduceEq, Int.reduceBEq, Int.reduceLE, Int.reduceAdd, Int.reduceSub, Int.reduceNeg, Int.reduceToNat, Int.reducePow, decide_true, decide_false, if_true, if_false, Bool.false_eq_true, reduceIte, Bool.not_true, Bool.not_false, Bool.true_or, Bool.false_or, Bool.or_true, Bool.or_false, Bool.and_true, Bool.true_and, Bool.and_false, Bool.false_and, and_true, true_and, or_true, true_or, and_self, List.set_cons_zero, List.set_cons_succ, List.length_cons, List.length_nil, List.map_cons, List.map_nil, List.cons_append, List.nil_append, List.getElem?_cons_zero, List.getElem?_cons_succ, List.replicate_succ, List.replicate_zero, List.any_cons, List.any_nil, p_sl1, at_0, at_1, at_2, at_3, c_eqK, c_neK, nc0, nc1, nc2, nc3, nc4, nc5, c_isNon, Bool.not_not, good_ok, f_tuple, f_list, f_listL, m_a8, m_a9, m_z408, m_r450, m_r30, *])
theorem law_ok {Φ : Tab} {n : Nat} {S : Store} (K : LawT Φ) (ns : List Int) : (run Φ (n + 60) "law" [.ro (ns.map D.int)] S).good fun d _ => d = .bl true := by
  rw [run_eq K.law, K01.fd_law]
  obtain ⟨S1, e1, F1⟩ := feed_ok (n := n + 58) (S := S) K ns
  have e4 : bnd62 4 = true := by decide
  have e0 : bnd62 0 = true := by decide
  (walk_at "evf"; try simp -dsimp only [bnd_assoc])
  refine lap_out (n := n) K F1 (by decide +kernel) (by decide) fun S2 ys b0 b3 b4 b5 b6 b7 b8 b9 b10 b11 b12 F2 hy ly => ?_
  clear e1 F1
  (walk_at "evf"; try simp -dsimp only [bnd_assoc])
  obtain ⟨S3, e3⟩ := comp_none (body := compBody (run Φ (n + 59)) (.nm 11) (some (.not (.call "_law_is_told" [.var 11]))) (.var 11) [b0, some (.loc S.length), some (.lst ys), b3, b4, b5, b6, b7, b8, b9, b10, none, b12]) (xs := ys) (S := S2) fun x hx S => by
    have v := valB_iff (all_of hy hx)
    obtain ⟨S4, e⟩ := told_ok (n := n + 53) (S := S) (m := 10 ^ 59 + 2) K.told (by decide) v.v (Nat.le_trans v.w (by decide)) (Nat.le_trans v.h (by decide))
    refine ⟨S4, ?_⟩
    clear hy ly F2 v K
    walk_at "ev"
  have nm := named_ok (n := n + 49) (S := S3) K
  have en : cmpD .Eq (.lst []) (.lst []) S3 = .ok (.bl true) S3 := rfl
  clear hy ly F2 K
  (walk_at "evf"; try simp -dsimp only [bnd_assoc])
end OW
end
section
set_option Elab.async false
set_option linter.all false
set_option maxRecDepth 100000
namespace K01
open PySem OW
def depth : Nat := 59
def dLaw : DefX := ⟨"law", top 42, ["_law_script", "_law_feed_here", "_law_some", "_law_lap", "_law_known", "_law_sorts_here", "_law_line_here", "_law_shape_here", "_law_lot", "_law_k", "_law_drawn", "_law_what", "_law_once"], [], fd_law⟩
theorem tab_kinds : Kinds (tabOf ds) := ⟨rfl, rfl, rfl, rfl, rfl, rfl, rfl, rfl, rfl, rfl, rfl, rfl, rfl⟩
theorem tab_lkinds : LKinds (tabOf ds) := ⟨rfl, rfl, rfl, rfl, rfl, rfl, rfl, rfl, rfl, rfl⟩
theorem tab_gen : Gen (tabOf ds) := ⟨rfl, rfl⟩
theorem tab_genA : GenA (tabOf ds) := ⟨tab_gen, rfl, rfl, rfl, rfl, rfl, rfl, rfl, rfl⟩
theorem tab_law : LawT (tabOf ds) := ⟨⟨tab_kinds, tab_lkinds, rfl, rfl⟩, tab_genA, rfl, rfl, rfl⟩
theorem main : ∀ ns : List Int, ns.length ≤ 63 → ∃ S, run (tabOf ds) (depth + 1) dLaw.x [.ro (ns.map D.int)] [] = .ok (.bl true) S := fun ns _ => by
  obtain ⟨d, S, e, h⟩ := Res.good_iff.mp (law_ok (n := 0) (S := []) tab_law ns)
  exact ⟨S, by rw [← h]; exact e⟩
end K01
end
section
set_option Elab.async false
set_option linter.all false
set_option maxRecDepth 100000
set_option maxHeartbeats 0
namespace K01
open PySem OW
abbrev R : PySem.W.OpenRow := PySem.W.OpenLaw.row PySem.Challenge.rw_oncewrong_k01_kinds_told
abbrev hk : PySem.W.Hook := hookO 4 gc ds
def ob (s : PySem.W.SharedT) : He.AlD := obsO 4 gc ds s
theorem run_ (w : World) : HandSHeadRun.RunEq R (PySem.W.view R.prog [42]) hk ob 4000 [("LETTERS" : Str), ("MOST_LETTERS" : Str), ("FACT_WORDS" : Str), ("MOVE_WORDS" : Str), ("is_integer" : Str), ("is_number" : Str), ("is_name" : Str), ("is_pair" : Str), ("is_rising" : Str), ("is_fact" : Str), ("is_worldly" : Str), ("is_row" : Str), ("is_numbers" : Str), ("is_lacking" : Str), ("is_choices" : Str), ("is_way" : Str), ("is_form" : Str), ("_law_feed" : Str), ("_law_draw" : Str), ("_law_any" : Str), ("_law_is_name" : Str), ("_law_is_number" : Str), ("_law_rises" : Str), ("_law_is_fact" : Str), ("_law_sizes" : Str), ("_law_is_row" : Str), ("_law_is_set" : Str), ("_law_is_lacking" : Str), ("_law_is_way" : Str), ("_law_is_form" : Str), ("_law_names" : Str), ("_law_line" : Str), ("_law_sorts" : Str), ("_law_worldly" : Str), ("_law_shape" : Str), ("_law_strange" : Str), ("_law_bent" : Str), ("_law_due" : Str), ("_law_is_told" : Str), ("_law_are_named" : Str)] w := by
  intro os
  kernel_rfl
theorem oks : (ds.all fun d => defOk gc (fsOf ds) d) = true := by decide +kernel
theorem nodup : (ds.map (·.x)).Nodup := by decide +kernel
theorem fit_is_integer : defFit gc (fsOf ds) ⟨"is_integer", top 5, [("thing" : Str)], [], fd_is_integer⟩ := by
  unfold defFit
  kernel_rfl
theorem fit_is_number : defFit gc (fsOf ds) ⟨"is_number", top 6, [("thing" : Str)], [], fd_is_number⟩ := by
  unfold defFit
  kernel_rfl
theorem fit_is_name : defFit gc (fsOf ds) ⟨"is_name", top 7, [("thing" : Str), ("sign" : Str)], [], fd_is_name⟩ := by
  unfold defFit
  kernel_rfl
theorem fit_is_pair : defFit gc (fsOf ds) ⟨"is_pair", top 8, [("thing" : Str)], [], fd_is_pair⟩ := by
  unfold defFit
  kernel_rfl
theorem fit_is_rising : defFit gc (fsOf ds) ⟨"is_rising", top 9, [("some" : Str), ("one" : Str), ("other" : Str)], [], fd_is_rising⟩ := by
  unfold defFit
  kernel_rfl
theorem fit_is_fact : defFit gc (fsOf ds) ⟨"is_fact", top 10, [("thing" : Str), ("names" : Str), ("name" : Str)], [], fd_is_fact⟩ := by
  unfold defFit
  kernel_rfl
theorem fit_is_worldly : defFit gc (fsOf ds) ⟨"is_worldly", top 11, [("thing" : Str), ("numbers" : Str), ("one" : Str)], [], fd_is_worldly⟩ := by
  unfold defFit
  kernel_rfl
theorem fit_is_row : defFit gc (fsOf ds) ⟨"is_row", top 12, [("thing" : Str), ("word" : Str), ("rest" : Str)], [], fd_is_row⟩ := by
  unfold defFit
  kernel_rfl
theorem fit_is_numbers : defFit gc (fsOf ds) ⟨"is_numbers", top 13, [("thing" : Str)], [], fd_is_numbers⟩ := by
  unfold defFit
  kernel_rfl
theorem fit_is_lacking : defFit gc (fsOf ds) ⟨"is_lacking", top 14, [("thing" : Str), ("fact" : Str)], [], fd_is_lacking⟩ := by
  unfold defFit
  kernel_rfl
theorem fit_is_choices : defFit gc (fsOf ds) ⟨"is_choices", top 15, [("thing" : Str), ("one" : Str)], [], fd_is_choices⟩ := by
  unfold defFit
  kernel_rfl
theorem fit_is_way : defFit gc (fsOf ds) ⟨"is_way", top 16, [("thing" : Str)], [], fd_is_way⟩ := by
  unfold defFit
  kernel_rfl
theorem fit_is_form : defFit gc (fsOf ds) ⟨"is_form", top 17, [("thing" : Str), ("way" : Str)], [], fd_is_form⟩ := by
  unfold defFit
  kernel_rfl
theorem fit__law_feed : defFit gc (fsOf ds) ⟨"_law_feed", top 19, [("_law_script" : Str)], [], fd__law_feed⟩ := by
  unfold defFit
  kernel_rfl
theorem fit__law_draw : defFit gc (fsOf ds) ⟨"_law_draw", top 20, [("_law_feed_here" : Str), ("_law_many" : Str), ("_law_digit" : Str), ("_law_turn" : Str), ("_law_cells" : Str), ("_law_cell" : Str), ("_law_mixed" : Str)], [("_law_feed_here" : Str)], fd__law_draw⟩ := by
  unfold defFit
  kernel_rfl
theorem fit__law_any : defFit gc (fsOf ds) ⟨"_law_any", top 21, [("_law_feed_here" : Str), ("_law_some" : Str)], [], fd__law_any⟩ := by
  unfold defFit
  kernel_rfl
theorem fit__law_is_name : defFit gc (fsOf ds) ⟨"_law_is_name", top 22, [("_law_what" : Str), ("_law_sign" : Str)], [], fd__law_is_name⟩ := by
  unfold defFit
  kernel_rfl
theorem fit__law_is_number : defFit gc (fsOf ds) ⟨"_law_is_number", top 23, [("_law_what" : Str)], [], fd__law_is_number⟩ := by
  unfold defFit
  kernel_rfl
theorem fit__law_rises : defFit gc (fsOf ds) ⟨"_law_rises", top 24, [("_law_lot" : Str), ("_law_k" : Str)], [], fd__law_rises⟩ := by
  unfold defFit
  kernel_rfl
theorem fit__law_is_fact : defFit gc (fsOf ds) ⟨"_law_is_fact", top 25, [("_law_what" : Str), ("_law_named" : Str), ("_law_one" : Str)], [], fd__law_is_fact⟩ := by
  unfold defFit
  kernel_rfl
theorem fit__law_sizes : defFit gc (fsOf ds) ⟨"_law_sizes", top 26, [("_law_found" : Str)], [("_law_found" : Str)], fd__law_sizes⟩ := by
  unfold defFit
  kernel_rfl
theorem fit__law_is_row : defFit gc (fsOf ds) ⟨"_law_is_row", top 27, [("_law_what" : Str), ("_law_one" : Str)], [], fd__law_is_row⟩ := by
  unfold defFit
  kernel_rfl
theorem fit__law_is_set : defFit gc (fsOf ds) ⟨"_law_is_set", top 28, [("_law_what" : Str), ("_law_bound" : Str), ("_law_one" : Str)], [], fd__law_is_set⟩ := by
  unfold defFit
  kernel_rfl
theorem fit__law_is_lacking : defFit gc (fsOf ds) ⟨"_law_is_lacking", top 29, [("_law_what" : Str), ("_law_one" : Str)], [], fd__law_is_lacking⟩ := by
  unfold defFit
  kernel_rfl
theorem fit__law_is_way : defFit gc (fsOf ds) ⟨"_law_is_way", top 30, [("_law_what" : Str)], [], fd__law_is_way⟩ := by
  unfold defFit
  kernel_rfl
theorem fit__law_is_form : defFit gc (fsOf ds) ⟨"_law_is_form", top 31, [("_law_what" : Str), ("_law_one" : Str)], [], fd__law_is_form⟩ := by
  unfold defFit
  kernel_rfl
theorem fit__law_names : defFit gc (fsOf ds) ⟨"_law_names", top 32, [("_law_feed_here" : Str), ("_law_many" : Str), ("_law_found" : Str), ("_law_menus" : Str), ("_law_menu" : Str), ("_law_first" : Str), ("_law_k" : Str), ("_law_size" : Str), ("_law_own" : Str), ("_law_lap" : Str)], [("_law_found" : Str)], fd__law_names⟩ := by
  unfold defFit
  kernel_rfl
theorem fit__law_line : defFit gc (fsOf ds) ⟨"_law_line", top 33, [("_law_feed_here" : Str), ("_law_known" : Str), ("_law_sorts_here" : Str), ("_law_way" : Str), ("_law_one" : Str), ("_law_two" : Str), ("_law_group" : Str)], [], fd__law_line⟩ := by
  unfold defFit
  kernel_rfl
theorem fit__law_sorts : defFit gc (fsOf ds) ⟨"_law_sorts", top 34, [("_law_feed_here" : Str), ("_law_menus" : Str)], [], fd__law_sorts⟩ := by
  unfold defFit
  kernel_rfl
theorem fit__law_worldly : defFit gc (fsOf ds) ⟨"_law_worldly", top 35, [("_law_feed_here" : Str), ("_law_sorts_here" : Str), ("_law_one" : Str), ("_law_two" : Str), ("_law_group" : Str)], [], fd__law_worldly⟩ := by
  unfold defFit
  kernel_rfl
theorem fit__law_shape : defFit gc (fsOf ds) ⟨"_law_shape", top 36, [("_law_feed_here" : Str), ("_law_size" : Str), ("_law_struck" : Str), ("_law_lap" : Str), ("_law_left" : Str)], [], fd__law_shape⟩ := by
  unfold defFit
  kernel_rfl
theorem fit__law_strange : defFit gc (fsOf ds) ⟨"_law_strange", top 37, [("_law_feed_here" : Str), ("_law_some" : Str)], [], fd__law_strange⟩ := by
  unfold defFit
  kernel_rfl
theorem fit__law_bent : defFit gc (fsOf ds) ⟨"_law_bent", top 38, [("_law_feed_here" : Str), ("_law_what" : Str), ("_law_k" : Str), ("_law_way" : Str), ("_law_odd" : Str)], [], fd__law_bent⟩ := by
  unfold defFit
  kernel_rfl
theorem fit__law_due : defFit gc (fsOf ds) ⟨"_law_due", top 39, [("_law_what" : Str), ("_law_many" : Str), ("_law_one" : Str), ("_law_found" : Str)], [], fd__law_due⟩ := by
  unfold defFit
  kernel_rfl
theorem fit__law_is_told : defFit gc (fsOf ds) ⟨"_law_is_told", top 40, [("_law_what" : Str), ("_law_kept" : Str), ("_law_found" : Str)], [], fd__law_is_told⟩ := by
  unfold defFit
  kernel_rfl
theorem fit__law_are_named : defFit gc (fsOf ds) ⟨"_law_are_named", top 41, [("_law_found" : Str)], [], fd__law_are_named⟩ := by
  unfold defFit
  kernel_rfl
theorem fit_law : defFit gc (fsOf ds) ⟨"law", top 42, [("_law_script" : Str), ("_law_feed_here" : Str), ("_law_some" : Str), ("_law_lap" : Str), ("_law_known" : Str), ("_law_sorts_here" : Str), ("_law_line_here" : Str), ("_law_shape_here" : Str), ("_law_lot" : Str), ("_law_k" : Str), ("_law_drawn" : Str), ("_law_what" : Str), ("_law_once" : Str)], [], fd_law⟩ := by
  unfold defFit
  kernel_rfl
theorem fits : ∀ d ∈ ds, defFit gc (fsOf ds) d := by
  unfold ds
  simp only [List.forall_mem_cons, List.not_mem_nil, false_implies, implies_true, and_true]
  exact ⟨fit_is_integer, fit_is_number, fit_is_name, fit_is_pair, fit_is_rising, fit_is_fact, fit_is_worldly, fit_is_row, fit_is_numbers, fit_is_lacking, fit_is_choices, fit_is_way, fit_is_form, fit__law_feed, fit__law_draw, fit__law_any, fit__law_is_name, fit__law_is_number, fit__law_rises, fit__law_is_fact, fit__law_sizes, fit__law_is_row, fit__law_is_set, fit__law_is_lacking, fit__law_is_way, fit__law_is_form, fit__law_names, fit__law_line, fit__law_sorts, fit__law_worldly, fit__law_shape, fit__law_strange, fit__law_bent, fit__law_due, fit__law_is_told, fit__law_are_named, fit_law⟩
end K01
open PySem PySem.W PySem.Calls PyProof.Rows
theorem PySem.Challenge.cw_oncewrong_k01_kinds_told_holds : PySem.Challenge.rw_oncewrong_k01_kinds_told.Holds := by
  w_on; o_law
  refine HandSHeadRun.head_any (r := OpenLaw.row PySem.Challenge.rw_oncewrong_k01_kinds_told) (q := view (OpenLaw.row PySem.Challenge.rw_oncewrong_k01_kinds_told).prog [42]) (H := K01.hk) (ob := K01.ob) (M := 4000) (loose := [("LETTERS" : Str), ("MOST_LETTERS" : Str), ("FACT_WORDS" : Str), ("MOVE_WORDS" : Str), ("is_integer" : Str), ("is_number" : Str), ("is_name" : Str), ("is_pair" : Str), ("is_rising" : Str), ("is_fact" : Str), ("is_worldly" : Str), ("is_row" : Str), ("is_numbers" : Str), ("is_lacking" : Str), ("is_choices" : Str), ("is_way" : Str), ("is_form" : Str), ("_law_feed" : Str), ("_law_draw" : Str), ("_law_any" : Str), ("_law_is_name" : Str), ("_law_is_number" : Str), ("_law_rises" : Str), ("_law_is_fact" : Str), ("_law_sizes" : Str), ("_law_is_row" : Str), ("_law_is_set" : Str), ("_law_is_lacking" : Str), ("_law_is_way" : Str), ("_law_is_form" : Str), ("_law_names" : Str), ("_law_line" : Str), ("_law_sorts" : Str), ("_law_worldly" : Str), ("_law_shape" : Str), ("_law_strange" : Str), ("_law_bent" : Str), ("_law_due" : Str), ("_law_is_told" : Str), ("_law_are_named" : Str)]) (d := HandSHeadRun.topDef (OpenLaw.row PySem.Challenge.rw_oncewrong_k01_kinds_told).prog 42) (kwd := []) (OW.obsO_eq 4 K01.gc K01.ds)
    (by kernel_rfl) (fun s => by kernel_rfl) K01.run_ (by kernel_rfl) (by kernel_rfl) (by kernel_rfl) (by rfl) (by first | assumption | decide +kernel) (by decide +kernel) ⟨rfl, rfl, rfl, rfl, rfl, by decide +kernel⟩ ?hw ?hc
  case hw => w_witness2
  case hc =>
    exact OW.hc_of (l := PySem.Challenge.rw_oncewrong_k01_kinds_told) (m := 63) (k := K01.depth) (dl := K01.dLaw) (x := "_law_script") rfl (by decide) (by kernel_rfl) ⟨rfl, by decide, by decide⟩ K01.oks K01.fits K01.nodup (by unfold K01.ds K01.dLaw; simp only [List.mem_cons, true_or, or_true]) (by kernel_rfl) (by kernel_rfl) K01.main
end
