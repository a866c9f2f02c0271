import PyProof.Rows.All
import Wide.All
import OpenK.AllK
import Wide.FinOn
import HandS.ForMost
import HandS.Walk
import HandS.Wide
import HandS.WideBits
import HandS.Codes
import HandS.IsInst
import HandS.SortInts
import HandS.SortRule
import HandS.Conv
import HandS.NoneIn
import HandS.RevRange
import HandS.Zip
import HandS.More
import HandS.HeadHook1
import HandS.Exc
import HandS.ExcIs
import HandS.ExcOwn
import HandS.TryMany
import HandS.Iter
import HandS.TupAny
import HandS.TupMul
import HandS.Style
import HandS.Deep
import HandS.Replace
import HandS.SetFor
import KE.GoesMore
import HandS.TupSets
import PyProof.ExcBaseAll.ValueError
import HandS.Defaults
import HandS.HeadEnd
import HandS.HeadWalk
import KE.KStateDown
import Lean
import HandS.Words
import HandS.WordsExc
import HandS.Head0
import HandS.Head1
import HandS.Head2
import HandS.HeadHook2
import PyProof.Rows.ReprOcc
import PySem.Challenge.RW_faultwood_k07_trees_known
set_option Elab.async false
set_option linter.all false
section
set_option Elab.async false
set_option linter.all false
/-! The core language: data, a store, an interpreter. -/
namespace PC
open PySem (Operator CmpOp)

inductive D where
  | non | bl (b : Bool) | int (i : Int) | str (s : List Nat) | tup (xs : List D) | lst (xs : List D) | ref (k : Nat) | exc (c : String) (vs : List D) | scr (xs : List D) | kset (ks : List Int)
  deriving Inhabited

/-- a whole number from 0 on -/
def nD (n : Nat) : D := .int (n : Int)
/-- a key: a number or a text -/
abbrev KY := Sum Int (List Nat)
/-- a list; a dict whose keys are tuples (t) or not; an instance of an own class -/
inductive Cell where
  | lst (xs : List D) | dict (t : Bool) (kvs : List (List KY × D)) | ins (c : String) (fs : List (String × D))

abbrev Store := List Cell
abbrev Slots := List (Option D)

inductive Res (α : Type) where
  | ok (a : α) (st : Store) | exc (d : D) (st : Store) | err

def Res.bind {α β : Type} (r : Res α) (f : α → Store → Res β) : Res β :=
  match r with
  | .ok a st => f a st
  | .exc d st => .exc d st
  | .err => .err
@[simp] theorem Res.bind_ok {α β : Type} (a : α) (st : Store) (f : α → Store → Res β) : (Res.ok a st).bind f = f a st := Eq.trans rfl rfl
@[simp] theorem Res.bind_exc {α β : Type} (d : D) (st : Store) (f : α → Store → Res β) : (Res.exc d st : Res α).bind f = .exc d st := rfl
@[simp] theorem Res.bind_err {α β : Type} (f : α → Store → Res β) : (Res.err : Res α).bind f = .err := rfl

inductive RS where
  | nx (σ : Slots) (st : Store) | rt (d : D) (st : Store) | bk (σ : Slots) (st : Store) | ct (σ : Slots) (st : Store) | exc (d : D) (σ : Slots) (st : Store) | err

def Res.toS {α : Type} (r : Res α) (σ : Slots) (f : α → Store → RS) : RS :=
  match r with
  | .ok a st => f a st
  | .exc d st => .exc d σ st
  | .err => .err
@[simp] theorem Res.toS_ok {α : Type} (a : α) (st : Store) (σ : Slots) (f : α → Store → RS) : (Res.ok a st).toS σ f = f a st := Eq.trans rfl rfl
@[simp] theorem Res.toS_exc {α : Type} (d : D) (st : Store) (σ : Slots) (f : α → Store → RS) : (Res.exc d st : Res α).toS σ f = .exc d σ st := rfl
@[simp] theorem Res.toS_err {α : Type} (σ : Slots) (f : α → Store → RS) : (Res.err : Res α).toS σ f = .err := rfl

/-! ### data -/
mutual
def pyEq : D → D → Bool
  | .non, .non => true
  | .bl a, .bl b => a == b
  | .bl a, .int b => (if a then 1 else 0) == b
  | .int a, .bl b => a == (if b then 1 else 0)
  | .int a, .int b => a == b
  | .str a, .str b => a == b
  | .tup a, .tup b => pyEqs a b
  | .lst a, .lst b => pyEqs a b
  | _, _ => false
termination_by structural x => x
def pyEqs : List D → List D → Bool
  | [], [] => true
  | a :: as, b :: bs => pyEq a b && pyEqs as bs
  | _, _ => false
termination_by structural x => x
end
mutual
/-- every cell that is named lies below n; no exception within -/
def closed (n : Nat) : D → Bool
  | .ref k => decide (k < n)
  | .tup xs => closeds n xs
  | .lst xs => closeds n xs
  | .exc _ vs => closeds n vs
  | .scr xs => closeds n xs
  | _ => true
termination_by structural x => x
def closeds (n : Nat) : List D → Bool
  | [] => true
  | a :: as => closed n a && closeds n as
termination_by structural x => x
end
mutual
/-- plain data: no cells, no exceptions -/
def plain : D → Bool
  | .ref _ => false
  | .exc _ _ => false
  | .scr _ => false
  | .kset _ => false
  | .tup xs => plains xs
  | .lst xs => plains xs
  | _ => true
termination_by structural x => x
def plains : List D → Bool
  | [] => true
  | a :: as => plain a && plains as
termination_by structural x => x
end
mutual
/-- data as the model's law of equality reads them -/
def toPy : D → PySem.PyData
  | .bl b => .bool b
  | .int i => .int i
  | .str s => .str ⟨s.toArray⟩
  | .tup xs => .tuple (toPys xs)
  | .lst xs => .list (toPys xs)
  | _ => .none
termination_by structural x => x
def toPys : List D → List PySem.PyData
  | [] => []
  | a :: as => toPy a :: toPys as
termination_by structural x => x
end
/-- plain data that can be compared: not too deep, signs that are signs -/
def shp (d : D) : Bool := plain d && PySem.SeqAt.shaped (toPy d)
def Cell.closed (n : Nat) : Cell → Bool
  | .lst xs => closeds n xs
  | .dict _ kvs => kvs.all fun p => PC.closed n p.2
  | .ins _ fs => fs.all fun p => PC.closed n p.2

/-- a cell that is a list, read as one -/
def deref (st : Store) : D → D
  | .ref k => match st[k]? with
    | some (.lst xs) => .lst xs
    | _ => .ref k
  | .scr xs => .lst xs
  | d => d
/-- .. where the script itself will not do -/
def derefB (st : Store) : D → D
  | .scr xs => .scr xs
  | d => deref st d
/-- the items of a list or a tuple -/
def items (st : Store) (d : D) : Option (List D) :=
  match deref st d with
  | .lst xs => some xs
  | .tup xs => some xs
  | _ => none
def lineN : Nat := 16777216
/-- a number whose size is no matter -/
def Sm (i : Int) : Prop := i.natAbs < 2 ^ 8000
instance (i : Int) : Decidable (Sm i) := by unfold Sm; infer_instance

def ok1 (d : D) (st : Store) : Res D := .ok d st
def gd {α : Type} (p : Prop) [Decidable p] (r : Res α) : Res α := if p then r else .err
@[simp] theorem gd_pos {α : Type} {p : Prop} [Decidable p] {r : Res α} (h : p) : gd p r = r := if_pos h

def idiv (i j : Int) : Int := if 0 < j then i / j else i.fdiv j
def imod (i j : Int) : Int := if 0 < j then i % j else i.fmod j
theorem idiv_pos {i j : Int} (h : 0 < j) : idiv i j = i / j := if_pos h
theorem imod_pos {i j : Int} (h : 0 < j) : imod i j = i % j := if_pos h

def addD (st : Store) : D → D → Res D
  | .int i, .int j => .ok (.int (i + j)) st
  | .str a, .str b => gd (a.length + b.length ≤ lineN) (.ok (.str (a ++ b)) st)
  | .tup a, .tup b => gd (a.length + b.length ≤ lineN) (.ok (.tup (a ++ b)) st)
  | .lst a, .lst b => gd (a.length + b.length ≤ lineN) (.ok (.lst (a ++ b)) st)
  | _, _ => .err
def reps {α : Type} (xs : List α) (n : Int) : List α := (List.replicate n.toNat xs).flatten
def mulD (st : Store) : D → D → Res D
  | .int i, .int j => gd (Sm i ∧ Sm j) (.ok (.int (i * j)) st)
  | .str a, .int n => gd (a.length * n.toNat ≤ lineN ∧ 0 ≤ n ∧ n ≤ lineN) (.ok (.str (reps a n)) st)
  | .lst a, .int n => gd (a.length * n.toNat ≤ lineN ∧ 0 ≤ n ∧ n ≤ lineN) (.ok (.lst (reps a n)) st)
  | .tup a, .int n => gd (a.length ≠ 0 ∧ a.length ≤ 1000 ∧ 1 ≤ n ∧ n ≤ 1000) (.ok (.tup (reps a n)) st)
  | _, _ => .err

def binop (op : Operator) (x y : D) (st : Store) : Res D :=
  match op with
  | .Add => addD st (derefB st x) (derefB st y)
  | .Mult => mulD st (derefB st x) y
  | .Sub => match x, y with | .int i, .int j => .ok (.int (i - j)) st | _, _ => .err
  | .FloorDiv => match x, y with | .int i, .int j => gd (j ≠ 0 ∧ Sm j) (.ok (.int (idiv i j)) st) | _, _ => .err
  | .Mod => match x, y with | .int i, .int j => gd (j ≠ 0) (.ok (.int (imod i j)) st) | _, _ => .err
  | .Pow => match x, y with | .int i, .int j => gd (0 ≤ j ∧ j ≤ 1000 ∧ i.natAbs < 2 ^ 64) (.ok (.int (i ^ j.toNat)) st) | _, _ => .err
  | .LShift => match x, y with | .int i, .int j => gd (0 ≤ j ∧ j ≤ 8000 ∧ Sm i) (.ok (.int (i * 2 ^ j.toNat)) st) | _, _ => .err
  | .RShift => match x, y with | .int i, .int j => gd (0 ≤ j) (.ok (.int (i / 2 ^ j.toNat)) st) | _, _ => .err
  | .BitAnd => match x, y with | .int i, .int j => .ok (.int (PySem.Builtin.bitAnd i j)) st | _, _ => .err
  | .BitOr => match x, y with | .int i, .int j => .ok (.int (PySem.Builtin.bitOr i j)) st | _, _ => .err
  | .BitXor => match x, y with | .int i, .int j => .ok (.int (PySem.Builtin.bitXor i j)) st | _, _ => .err
  | _ => .err

/-- one text within another -/
def subS (a b : List Nat) : Bool := !(PySem.Builtin.Str.occurrences ⟨b.toArray⟩ ⟨a.toArray⟩ 0 b.length 1).isEmpty

def inD (st : Store) (x y : D) : Res Bool :=
  match y with
  | .str b => match x with
    | .str a => .ok (subS a b) st
    | _ => .err
  | .ref k => match st[k]? with
    | some (.lst ys) => gd (shp x = true ∧ shp (.lst ys) = true) (.ok (ys.any fun z => pyEq z x) st)
    | _ => .err
  | .lst ys => gd (shp x = true ∧ shp (.lst ys) = true) (.ok (ys.any fun z => pyEq z x) st)
  | .tup ys => gd (shp x = true ∧ shp (.lst ys) = true) (.ok (ys.any fun z => pyEq z x) st)
  | .kset ks => match x with
    | .int i => .ok (ks.contains i) st
    | _ => .err
  | _ => .err

def isD (st : Store) (x y : D) : Res Bool :=
  match y with
  | .non => .ok (match x with | .non => true | _ => false) st
  | .bl b => .ok (match x with | .bl c => c == b | _ => false) st
  | _ => .err

def isS : D → Bool
  | .str _ => true
  | _ => false
/-- a tuple; the empty one -/
def isTu : D → Bool
  | .tup _ => true
  | _ => false
def isT0 : D → Bool
  | .tup [] => true
  | _ => false
/-- a list; the empty one -/
def isLs : D → Bool
  | .lst _ => true
  | _ => false
def isL0 : D → Bool
  | .lst [] => true
  | _ => false
def eqD (st : Store) (x y : D) : Res Bool :=
  gd ((isS x = true ∧ isS y = true) ∨ (shp (deref st x) = true ∧ shp (deref st y) = true) ∨ (isTu x = true ∧ isT0 y = true) ∨ (isLs (deref st x) = true ∧ isL0 (deref st y) = true)) (.ok (pyEq (deref st x) (deref st y)) st)

def cmpI (st : Store) (f : Int → Int → Bool) : D → D → Res Bool
  | .int i, .int j => .ok (f i j) st
  | _, _ => .err

def cmpB (op : CmpOp) (x y : D) (st : Store) : Res Bool :=
  match op with
  | .Eq => eqD st x y
  | .NotEq => (eqD st x y).bind fun b st => .ok (!b) st
  | .Lt => cmpI st (fun i j => decide (i < j)) x y
  | .LtE => cmpI st (fun i j => decide (i ≤ j)) x y
  | .Gt => cmpI st (fun i j => decide (j < i)) x y
  | .GtE => cmpI st (fun i j => decide (j ≤ i)) x y
  | .Is => isD st x y
  | .IsNot => (isD st x y).bind fun b st => .ok (!b) st
  | .In => inD st x y
  | .NotIn => (inD st x y).bind fun b st => .ok (!b) st

def idxD (st : Store) (x i : D) : Res D :=
  match x with
  | .str s => match i with
    | .int i => gd (s.length ≤ lineN ∧ 0 ≤ i) (match s[i.toNat]? with | some c => .ok (.str [c]) st | none => .err)
    | _ => .err
  | .ref k => match st[k]? with
    | some (.lst xs) => match i with
      | .int i => match L2.atI xs i with | some d => .ok d st | none => .err
      | _ => .err
    | _ => .err
  | .lst xs => match i with
    | .int i => match L2.atI xs i with | some d => .ok d st | none => .err
    | _ => .err
  | .scr xs => match i with
    | .int i => match L2.atI xs i with | some d => .ok d st | none => .err
    | _ => .err
  | .tup xs => match i with
    | .int i => match L2.atI xs i with | some d => .ok d st | none => .err
    | _ => .err
  | _ => .err

def cut {α : Type} (xs : List α) (lo hi : Option Int) : List α :=
  (xs.drop (HT.sIx xs.length 0 lo)).take (HT.sIx xs.length xs.length hi - HT.sIx xs.length 0 lo)
def sliceD (st : Store) (x : D) (lo hi : Option Int) : Res D :=
  match deref st x with
  | .str s => gd (s.length ≤ lineN) (.ok (.str (cut s lo hi)) st)
  | .lst xs => .ok (.lst (cut xs lo hi)) st
  | .tup xs => .ok (.tup (cut xs lo hi)) st
  | _ => .err

/-! ### built-ins -/
inductive Ty where
  | int | bool | str | tuple | list | dict | own (c : String)
/-- the bases of an own class, itself first -/
abbrev Bases := String → List String
/-- a method's name in the table -/
def mN (c m : String) : String := c ++ "." ++ m
structure GE where
  bs : Bases
  gl : String → Option D
  fs : String → Bool
  cl : String → Bool
  fd : String → String → Bool
  ms : String → String → Bool
  xc : String → Bool
  xk : String → Bool
/-- whether a class is, or is under, another one -/
def GE.sub (ge : GE) (c k : String) : Bool := (ge.bs c).contains k
def isTy (bs : Bases) (st : Store) (d : D) (t : Ty) : Bool :=
  match d, t with
  | .int _, .int => true
  | .bl _, .int => true
  | .bl _, .bool => true
  | .str _, .str => true
  | .tup _, .tuple => true
  | .lst _, .list => true
  | .scr _, .list => true
  | .kset _, .dict => true
  | .ref k, t => match st[k]?, t with
    | some (.lst _), .list => true
    | some (.dict _ _), .dict => true
    | some (.ins c _), .own c' => (bs c).contains c'
    | _, _ => false
  | .exc c _, .own c' => (bs c).contains c'
  | _, _ => false

/-- no instance of an own class -/
def notIns (st : Store) (d : D) : Bool := match d with
  | .ref k => match st[k]? with
    | some (.ins _ _) => false
    | _ => true
  | .exc _ _ => false
  | _ => true
/-- a number that may be written out -/
def Sh (i : Int) : Prop := i.natAbs < 2 ^ 1900
instance (i : Int) : Decidable (Sh i) := by unfold Sh; infer_instance
/-- data that repr takes: plain, so deep at most -/
def shw : Nat → D → Bool
  | 0, _ => false
  | n + 1, d => match d with
    | .non => true
    | .bl _ => true
    | .str z => z.all fun c => decide (c < 1114112)
    | .int i => decide (Sh i)
    | .tup xs => xs.all (shw n)
    | .lst xs => xs.all (shw n)
    | _ => false
mutual
/-- how long its text is at most -/
def rlen : D → Nat
  | .non => 4
  | .bl _ => 5
  | .int i => if 0 ≤ i ∧ i < 1000 then 3 else 1921
  | .str s => 10 * s.length + 2
  | .tup xs => rlens xs + 3
  | .lst xs => rlens xs + 3
  | _ => 0
termination_by structural x => x
def rlens : List D → Nat
  | [] => 0
  | a :: as => rlen a + 2 + rlens as
termination_by structural x => x
end
/-- the text of data -/
def reprD (d : D) : List Nat := (toPy d).shown.cps.toList
def isSeq : D → Bool
  | .tup _ => true
  | .lst _ => true
  | _ => false
def absI (i : Int) : Int := if i < 0 then -i else i
def isDig (c : Nat) : Bool := decide (48 ≤ c) && decide (c ≤ 57)
def digV (s : List Nat) : Int := ((PySem.NumText.digitsVal s : Nat) : Int)
/-- the text of a number -/
def strI (i : Int) : List Nat := (PySem.Str.ofString (toString i)).cps.toList
def toInts : List D → Option (List Int)
  | [] => some []
  | .int i :: r => (toInts r).map (i :: ·)
  | _ => none
def toBools : List D → Option (List Bool)
  | [] => some []
  | .bl i :: r => (toBools r).map (i :: ·)
  | _ => none
def toPairs : List D → Option (List (Int × Int))
  | [] => some []
  | .tup [.int i, .int j] :: r => (toPairs r).map ((i, j) :: ·)
  | _ => none
def insI (x : Int) : List Int → List Int
  | [] => [x]
  | y :: r => if x ≤ y then x :: y :: r else y :: insI x r
def sortI (xs : List Int) : List Int := xs.foldr insI []
def ltP (p q : Int × Int) : Bool := decide (p.1 < q.1) || (p.1 == q.1 && decide (p.2 < q.2))
def insP (x : Int × Int) : List (Int × Int) → List (Int × Int)
  | [] => [x]
  | y :: r => if ltP y x then y :: insP x r else x :: y :: r
def sortP (xs : List (Int × Int)) : List (Int × Int) := xs.foldr insP []
/-- the keys of pairs -/
def toKeys : List D → Option (List Int)
  | [] => some []
  | .tup [.int k, _] :: r => (toKeys r).map (k :: ·)
  | _ => none
def rng (a b : Int) : List D := (List.range (b - a).toNat).map fun (i : Nat) => D.int (a + (i : Int))
/-- a, a + c, .. -/
def rngC (a b c : Int) : List D := (List.range (PySem.Builtin.Range.rangeSize a b c).toNat).map fun (i : Nat) => D.int (a + (i : Int) * c)
def okC (a b c : Int) : Prop := c ≠ 0 ∧ c.natAbs < 1073741824 ∧ PySem.Builtin.Range.small a b c = true ∧ 0 ≤ PySem.Builtin.Range.rangeSize a b c
instance (a b c : Int) : Decidable (okC a b c) := by unfold okC; infer_instance
def small62 (i : Int) : Prop := -(2 ^ 62) ≤ i ∧ i < 2 ^ 62
instance (i : Int) : Decidable (small62 i) := by unfold small62; infer_instance

inductive Blt where
  | len | abs | min | max | int | str | tuple | list | all | sum | sorted | repr | bool | dict
def lenD (st : Store) (d : D) : Res D :=
  match d with
  | .str s => gd (s.length ≤ lineN) (.ok (.int s.length) st)
  | .lst xs => .ok (.int xs.length) st
  | .scr xs => .ok (.int xs.length) st
  | .tup xs => .ok (.int xs.length) st
  | .ref k => match st[k]? with
    | some (.lst xs) => .ok (.int xs.length) st
    | _ => .err
  | _ => .err
def sortD (st : Store) (xs : List D) : Res D :=
  match toInts xs with
  | some is => .ok (.lst ((sortI is).map .int)) st
  | none => match toPairs xs with
    | some ps => .ok (.lst ((sortP ps).map fun p => .tup [.int p.1, .int p.2])) st
    | none => .err
/-- a dict that holds nothing -/
def isE0 (st : Store) (d : D) : Bool := match d with
  | .ref k => (match st[k]? with
    | some (.dict false []) => true
    | _ => false)
  | _ => false
def blt1 (b : Blt) (d : D) (st : Store) : Res D :=
  match b with
  | .len => lenD st d
  | .abs => match d with | .int i => .ok (.int (absI i)) st | _ => .err
  | .int => match d with
    | .int i => .ok (.int i) st
    | .bl b => .ok (.int (if b then 1 else 0)) st
    | .str s => gd (s.length ≠ 0 ∧ s.length ≤ 640 ∧ s.all isDig = true) (.ok (.int (digV s)) st)
    | _ => .err
  | .str => match d with | .int i => gd (i.natAbs < 2 ^ 1900) (.ok (.str (strI i)) st) | _ => .err
  | .tuple => match items st d with | some xs => .ok (.tup xs) st | none => .err
  | .list => match items st d with | some xs => .ok (.lst xs) st | none => .err
  | .all => match deref st d with
    | .lst xs => match toBools xs with | some bs => .ok (.bl (bs.all id)) st | none => .err
    | _ => .err
  | .sum => match deref st d with
    | .lst xs => match toInts xs with | some is => .ok (.int is.sum) st | none => .err
    | _ => .err
  | .sorted => match derefB st d with
    | .lst xs => sortD st xs
    | _ => .err
  | .bool => match d with | .bl b => .ok (.bl b) st | .int i => .ok (.bl (i != 0)) st | _ => .err
  | .dict => match d with
    | .lst xs => match toKeys xs with | some ks => .ok (.kset ks) st | none => .err
    | _ => .err
  | .max => match deref st d with
    | .lst xs => match toInts xs with | some (i :: is) => .ok (.int (is.foldl max i)) st | _ => .err
    | _ => .err
  | .min => match deref st d with
    | .lst xs => match toInts xs with | some (i :: is) => .ok (.int (is.foldl min i)) st | _ => .err
    | _ => .err
  | .repr => if isE0 st d = true then .ok (.str [123, 125]) st else gd (shw 60 (deref st d) = true ∧ rlen (deref st d) ≤ lineN) (.ok (.str (reprD (deref st d))) st)
def blt2 (b : Blt) (d e : D) (st : Store) : Res D :=
  match d, e with
  | .int i, .int j => match b with
    | .min => .ok (.int (if j < i then j else i)) st
    | .max => .ok (.int (if j > i then j else i)) st
    | _ => .err
  | _, _ => .err
def blt (b : Blt) (args : List D) (st : Store) : Res D :=
  match args with
  | [d] => blt1 b d st
  | [d, e] => blt2 b d e st
  | _ => .err

/-! ### methods of built-in kinds -/
inductive Mth where
  | append | pop | insert | extend | countL | countS | indexL | indexS | join | split | partition | get | upper
def toStrs : List D → Option (List (List Nat))
  | [] => some []
  | .str i :: r => (toStrs r).map (i :: ·)
  | _ => none
def Mth.isL : Mth → Bool
  | .append | .pop | .insert | .extend | .countL | .indexL => true
  | _ => false
/-- a receiver of the method's kind -/
def mOk (m : Mth) (x : D) (st : Store) : Bool :=
  match m.isL with
  | true => match deref st x with | .lst _ => true | _ => false
  | false => match x with | .str _ => true | _ => false
def mth0 (m : Mth) (o : D) (st : Store) : Res D :=
  match m with
  | .pop => match o with
    | .ref k => match st[k]? with
      | some (.lst xs) => match xs.getLast? with
        | some d => .ok d (st.set k (.lst xs.dropLast))
        | none => .err
      | _ => .err
    | _ => .err
  | .upper => match o with
    | .str a => gd (a.length ≤ 5592405) (.ok (.str (PySem.Txt.upper ⟨a.toArray⟩).cps.toList) st)
    | _ => .err
  | _ => .err
def mth1 (m : Mth) (o d : D) (st : Store) : Res D :=
  match m with
  | .append => match o with
    | .ref k => match st[k]? with
      | some (.lst xs) => gd (xs.length < lineN) (.ok .non (st.set k (.lst (xs ++ [d]))))
      | _ => .err
    | _ => .err
  | .pop => match o, d with
    | .ref k, .int i => match st[k]? with
      | some (.lst xs) => gd (0 ≤ i) (match xs[i.toNat]? with
        | some d => .ok d (st.set k (.lst (xs.eraseIdx i.toNat)))
        | none => .err)
      | _ => .err
    | _, _ => .err
  | .extend => match o with
    | .ref k => match st[k]?, derefB st d with
      | some (.lst xs), .lst ys => gd (xs.length + ys.length ≤ lineN) (.ok .non (st.set k (.lst (xs ++ ys))))
      | _, _ => .err
    | _ => .err
  | .countL => match deref st o with
    | .lst xs => gd (shp (.lst xs) = true ∧ shp d = true) (.ok (.int (xs.countP fun z => pyEq z d : Nat)) st)
    | _ => .err
  | .indexL => match deref st o with
    | .lst xs => gd (shp (.lst xs) = true ∧ shp d = true) (match xs.findIdx? (fun z => pyEq z d) with
      | some j => .ok (.int (j : Nat)) st
      | none => .err)
    | _ => .err
  | .indexS => match o, d with
    | .str a, .str b => match PySem.Builtin.Str.occurrences ⟨a.toArray⟩ ⟨b.toArray⟩ 0 a.length 1 with
      | i :: _ => .ok (.int (i : Nat)) st
      | [] => .err
    | _, _ => .err
  | .partition => match o, d with
    | .str s, .str sep => gd (s.length ≤ lineN ∧ sep.length ≠ 0) (match TL.par sep [] s with
      | some p => .ok (.tup [.str p.1, .str sep, .str p.2]) st
      | none => .ok (.tup [.str s, .str [], .str []]) st)
    | _, _ => .err
  | .split => match o, d with
    | .str s, .str sep => gd (s.length + 2 ≤ lineN ∧ sep.length ≠ 0 ∧ sep.all (· < 256) = true) (.ok (.lst ((TL.spl sep 0 [] s).map .str)) st)
    | _, _ => .err
  | .join => match o with
    | .str sep => match items st d with
      | some xs => match toStrs xs with
        | some ss => gd ((ss.map (·.length)).sum + ss.length * sep.length ≤ lineN) (.ok (.str (TL.joinL sep ss)) st)
        | none => .err
      | none => .err
    | _ => .err
  | _ => .err
def mth2 (m : Mth) (o d e : D) (st : Store) : Res D :=
  match m with
  | .insert => match o, d with
    | .ref k, .int i => match st[k]? with
      | some (.lst xs) => gd (xs.length < lineN ∧ 0 ≤ i ∧ i < 2 ^ 63) (.ok .non (st.set k (.lst (xs.take i.toNat ++ [e] ++ xs.drop i.toNat))))
      | _ => .err
    | _, _ => .err
  | _ => .err
def mth (m : Mth) (o : D) (args : List D) (st : Store) : Res D :=
  match args with
  | [] => mth0 m o st
  | [d] => mth1 m o d st
  | [d, e] => mth2 m o d e st
  | _ => .err

/-! ### the language -/
mutual
inductive CE where
  | var (i : Nat) | non | bl (b : Bool) | int (i : Int) | str (s : List Nat)
  | glob (x : String)
  | bin (op : Operator) (a b : CE) | neg (a : CE) | inv (a : CE) | not (a : CE) | and (a b : CE) | or (a b : CE)
  | ite (c a b : CE) | cmp (op : CmpOp) (a b : CE) | chain (op op' : CmpOp) (a b c : CE)
  | tup (es : CEs) | new (l : CL) | cell (l : CL) | dict0 (t : Bool)
  | dgetK (o k : CE) | dgetT (o : CE) (es : CEs) | dinK (neg : Bool) (k o : CE) | dinT (neg : Bool) (es : CEs) (o : CE)
  | make (c : String) (es : CEs) | meth (c m : String) (o : CE) (es : CEs) | fld (c : String) (o : CE) (f : String)
  | idx (a i : CE) | slice (a : CE) (lo hi : CO)
  | call (f : String) (es : CEs) | blt (b : Blt) (es : CEs) | mth (m : Mth) (o : CE) (es : CEs)
  | isI (a : CE) (t : Ty) | isX (a : CE) (one : Bool) (cs : List String)
  | lenSet (a : CE) | tupR (a : CE) | fcall (fs : List String) (i : CE) (es : CEs)
inductive CL where
  | disp (es : CEs) | comp (t : List Nat) (one : Bool) (it : CI) (c : CO) (e : CE) | listOf (e : CE) | rep (es : CEs) (n : CE) | range1 (a : CE) | range2 (a b : CE) | cat (a b : CE)
inductive CEs where
  | nil | cons (e : CE) (es : CEs)
inductive CO where
  | none | some (e : CE)
inductive CI where
  | of (e : CE) | range1 (a : CE) | range2 (a b : CE) | enum (e : CE) | zip (a b : CE) | rrange2 (a b : CE) | range3 (a b c : CE)
end

inductive CT where
  | name (i : Nat) | names (is : List Nat) | sub (o i : CE) | nest (i : Nat) (js : List Nat)
  | dputK (o k : CE) | dputT (o : CE) (es : CEs) | fld (c : String) (o : CE) (f : String)
mutual
inductive CS where
  | asg (t : CT) (e : CE) | expr (e : CE) | ret (e : CE) | retN | pass | brk | cont | stop
  | ifs (c : CE) (a b : CSs) | for_ (t : CT) (it : CI) (b : CSs) | while_ (c : CE) (b : CSs)
  | forG (t : CT) (it : CI) (b : CSs) (dr : List Nat) | whG (c : CE) (b : CSs) (dr : List Nat)
  | raise_ (c : String) | tryK (b : CSs) (k : String) (i j : Nat)
inductive CSs where
  | nil | cons (s : CS) (r : CSs) | drp (is : List Nat) (r : CSs)
end

/-- a written number -/
def cN (n : Nat) : CE := .int (n : Int)
/-! ### the interpreter -/
def lookS (σ : Slots) (i : Nat) (st : Store) : Res D :=
  match σ[i]? with
  | some (some d) => .ok d st
  | _ => .err
/-- the cells that a walk leans on, as they stood -/
abbrev Watch := List (Nat × List D)
def okW (w : Watch) (st : Store) : Prop := ∀ p ∈ w, st[p.1]? = some (.lst p.2)
open Classical in
noncomputable def gw {α : Type} (w : Watch) (st : Store) (r e : α) : α := if okW w st then r else e
theorem gw_nil {α : Type} (st : Store) (r e : α) : gw [] st r e = r := if_pos (fun p hp => by cases hp)
/-- an exception out of a comprehension is not served -/
def nox {α : Type} (r : Res α) : Res α := match r with
  | .ok a st => .ok a st
  | .exc _ _ => .err
  | .err => .err
@[simp] theorem nox_ok {α : Type} (a : α) (st : Store) : nox (.ok a st) = .ok a st := rfl
@[simp] theorem nox_exc {α : Type} (d : D) (st : Store) : nox (.exc d st : Res α) = .err := rfl
@[simp] theorem nox_err {α : Type} : nox (.err : Res α) = .err := rfl
noncomputable def lcL (step : D → Store → Res (Option D)) (w : Watch) : List D → Store → Res (List D)
  | [], st => gw w st (.ok [] st) .err
  | x :: xs, st => gw w st ((nox (step x st)).bind fun o st => (lcL step w xs st).bind fun ys st => .ok (o.toList ++ ys) st) .err
noncomputable def forL (step : D → Slots → Store → RS) (w : Watch) : List D → Slots → Store → RS
  | [], σ, st => gw w st (.nx σ st) .err
  | x :: xs, σ, st => gw w st (match step x σ st with
    | .nx σ st => forL step w xs σ st
    | .ct σ st => forL step w xs σ st
    | .bk σ st => .nx σ st
    | r => r) .err
def whN (c : Slots → Store → Res D) (b : Slots → Store → RS) : Nat → Slots → Store → RS
  | 0, _, _ => .err
  | n + 1, σ, st => (c σ st).toS σ fun d st => match d with
    | .bl true => match b σ st with
      | .nx σ st => whN c b n σ st
      | .ct σ st => whN c b n σ st
      | .bk σ st => .nx σ st
      | r => r
    | .bl false => .nx σ st
    | _ => .err
open Classical in
noncomputable def wh (c : Slots → Store → Res D) (b : Slots → Store → RS) (σ : Slots) (st : Store) : RS :=
  if h : ∃ n, whN c b n σ st ≠ .err then whN c b h.choose σ st else .err
def watch (d : D) (xs : List D) : Watch :=
  match d with
  | .ref k => [(k, xs)]
  | _ => []
/-- what is walked: the items, and the cells that are leant on -/
def walkD (st : Store) (d : D) : Res (List D × Watch) :=
  match d with
  | .str s => .ok (s.map fun c => .str [c], []) st
  | d => match items st d with
    | some xs => .ok (xs, watch d xs) st
    | none => .err
def enumD : Nat → List D → List D
  | _, [] => []
  | n, x :: xs => .tup [.int n, x] :: enumD (n + 1) xs
def zipD : List D → List D → List D
  | x :: xs, y :: ys => .tup [x, y] :: zipD xs ys
  | _, _ => []
def setAll (σ : Slots) : List Nat → List D → Slots
  | i :: is, d :: ds => setAll (σ.set i (some d)) is ds
  | _, _ => σ
/-- the names of a loop or a comprehension -/
def bindT (t : List Nat) (one : Bool) (d : D) (σ : Slots) (st : Store) : Option Slots :=
  match one with
  | true => match t with
    | [i] => some (σ.set i (some d))
    | _ => none
  | false => match deref st d with
    | .tup ds => if ds.length = t.length then some (setAll σ t ds) else none
    | _ => none
def wipe (σ : Slots) : List Nat → Slots
  | [] => σ
  | v :: vs => (wipe σ vs).set v none
abbrev CF := String → List D → Store → Res D

/-! dicts and instances -/
def keyD : D → Option KY
  | .int i => some (.inl i)
  | .str s => some (.inr s)
  | _ => none
def keysA : List D → Option (List KY)
  | [] => some []
  | d :: ds => (keyD d).bind fun k => (keysA ds).map (k :: ·)
def keyD1 (d : D) : Option (List KY) := (keyD d).map fun k => [k]
def optR (o : Option D) (st : Store) : Res D := match o with
  | some d => .ok d st
  | none => .err
def valD (kvs : List (List KY × D)) (k : List KY) : Option D := (kvs.find? fun p => decide (p.1 = k)).map (·.2)
def putD (kvs : List (List KY × D)) (k : List KY) (v : D) : List (List KY × D) :=
  if (kvs.any fun p => decide (p.1 = k)) = true then kvs.map (fun p => if p.1 = k then (p.1, v) else p) else kvs ++ [(k, v)]
def putFD (f : String) (v : D) : List (String × D) → List (String × D)
  | [] => [(f, v)]
  | (g, x) :: r => if g = f then (g, v) :: r else (g, x) :: putFD f v r
def dictR {α : Type} (st : Store) (x : D) (t : Bool) (k : Option (List KY)) (e : α) (f : Nat → List (List KY × D) → List KY → α) : α := match x with
  | .ref j => match st[j]? with
    | some (.dict t' kvs) => match k with
      | some k => if t' = t then f j kvs k else e
      | none => e
    | _ => e
  | _ => e
def insR {α : Type} (st : Store) (x : D) (c : String) (e : α) (f : Nat → List (String × D) → α) : α := match x with
  | .ref j => match st[j]? with
    | some (.ins c' fs) => if c' = c then f j fs else e
    | _ => e
  | _ => e

/-- isinstance of an exception, or None -/
def isXR (ge : GE) (x : D) (cs : List String) (st : Store) : Res D := match x with
  | .non => .ok (.bl false) st
  | .exc c [] => gd (ge.xc c = true) (.ok (.bl (cs.any fun k => ge.sub c k)) st)
  | _ => .err
/-- two lists, one behind the other, anew -/
def catR (st : Store) (x y : D) : Res (List D) := match derefB st x, derefB st y with
  | .lst xs, .lst ys => gd (xs.length + ys.length ≤ lineN) (.ok (xs ++ ys) st)
  | _, _ => .err
/-- the unlike ones -/
def uniqI : List Int → List Int
  | [] => []
  | a :: r => if a ∈ r then uniqI r else a :: uniqI r
/-- how many unlike ones there are in a tuple of numbers -/
def lenSetR (x : D) (st : Store) : Res D := match x with
  | .tup xs => (match toInts xs with
    | some is => gd (is.length ≤ 1000) (.ok (.int ((uniqI is).length : Nat)) st)
    | none => .err)
  | _ => .err
/-- tuple(range(..)) -/
def tupRR (x : D) (st : Store) : Res D := match x with
  | .int i => gd (i ≤ lineN ∧ -(lineN : Int) ≤ i) (.ok (.tup (rng 0 i)) st)
  | _ => .err
mutual
noncomputable def ev (ge : GE) (cf : CF) : CE → Slots → Store → Res D
  | .var i, σ, st => lookS σ i st
  | .non, _, st => .ok .non st
  | .bl b, _, st => .ok (.bl b) st
  | .int i, _, st => .ok (.int i) st
  | .str s, _, st => .ok (.str s) st
  | .glob x, _, st => match ge.gl x with | some d => .ok d st | none => .err
  | .bin op a b, σ, st => (ev ge cf a σ st).bind fun x st => (ev ge cf b σ st).bind fun y st => binop op x y st
  | .neg a, σ, st => (ev ge cf a σ st).bind fun x st => match x with | .int i => .ok (.int (-i)) st | _ => .err
  | .inv a, σ, st => (ev ge cf a σ st).bind fun x st => match x with | .int i => .ok (.int (-i - 1)) st | _ => .err
  | .not a, σ, st => (ev ge cf a σ st).bind fun x st => match x with | .bl b => .ok (.bl (!b)) st | _ => .err
  | .and a b, σ, st => (ev ge cf a σ st).bind fun x st => match x with | .bl true => ev ge cf b σ st | .bl false => .ok (.bl false) st | _ => .err
  | .or a b, σ, st => (ev ge cf a σ st).bind fun x st => match x with | .bl true => .ok (.bl true) st | .bl false => ev ge cf b σ st | _ => .err
  | .ite c a b, σ, st => (ev ge cf c σ st).bind fun x st => match x with | .bl true => ev ge cf a σ st | .bl false => ev ge cf b σ st | _ => .err
  | .cmp op a b, σ, st => (ev ge cf a σ st).bind fun x st => (ev ge cf b σ st).bind fun y st => (cmpB op x y st).bind fun b st => .ok (.bl b) st
  | .chain op op' a b c, σ, st => (ev ge cf a σ st).bind fun x st => (ev ge cf b σ st).bind fun y st => (cmpB op x y st).bind fun k st =>
      match k with
      | true => (ev ge cf c σ st).bind fun z st => (cmpB op' y z st).bind fun b st => .ok (.bl b) st
      | false => .ok (.bl false) st
  | .tup es, σ, st => (evs ge cf es σ st).bind fun xs st => gd (xs.length ≤ lineN) (.ok (.tup xs) st)
  | .new l, σ, st => (evl ge cf l σ st).bind fun xs st => .ok (.lst xs) st
  | .cell l, σ, st => (evl ge cf l σ st).bind fun xs st => .ok (.ref st.length) (st ++ [.lst xs])
  | .dict0 t, _, st => .ok (.ref st.length) (st ++ [.dict t []])
  | .dgetK o k, σ, st => (ev ge cf o σ st).bind fun x st => (ev ge cf k σ st).bind fun y st => dictR st x false (keyD1 y) .err fun _ kvs k => optR (valD kvs k) st
  | .dgetT o es, σ, st => (ev ge cf o σ st).bind fun x st => (evs ge cf es σ st).bind fun ks st => gd (ks.length ≤ lineN) (dictR st x true (keysA ks) .err fun _ kvs k => optR (valD kvs k) st)
  | .dinK neg k o, σ, st => (ev ge cf k σ st).bind fun y st => (ev ge cf o σ st).bind fun x st => dictR st x false (keyD1 y) .err fun _ kvs k => .ok (.bl (neg ^^ (valD kvs k).isSome)) st
  | .dinT neg es o, σ, st => (evs ge cf es σ st).bind fun ks st => gd (ks.length ≤ lineN) ((ev ge cf o σ st).bind fun x st => dictR st x true (keysA ks) .err fun _ kvs k => .ok (.bl (neg ^^ (valD kvs k).isSome)) st)
  | .make c es, σ, st => gd (ge.cl c = true ∧ ge.ms c "__init__" = true) ((evs ge cf es σ st).bind fun xs st => (cf (mN c "__init__") (.ref st.length :: xs) (st ++ [.ins c []])).bind fun r st' => match r with
      | .non => .ok (.ref st.length) st'
      | _ => .err)
  | .meth c m o es, σ, st => gd (ge.cl c = true ∧ ge.ms c m = true) ((ev ge cf o σ st).bind fun x st => insR st x c .err fun _ fs => gd (fs.lookup m = none) ((evs ge cf es σ st).bind fun xs st => cf (mN c m) (x :: xs) st))
  | .fld c o f, σ, st => gd (ge.cl c = true ∧ ge.fd c f = true) ((ev ge cf o σ st).bind fun x st => insR st x c .err fun _ fs => match fs.lookup f with
      | some d => .ok d st
      | none => .err)
  | .idx a i, σ, st => (ev ge cf a σ st).bind fun x st => (ev ge cf i σ st).bind fun y st => idxD st x y
  | .slice a lo hi, σ, st => (ev ge cf a σ st).bind fun x st => (evo ge cf lo σ st).bind fun l st => (evo ge cf hi σ st).bind fun h st => sliceD st x l h
  | .call f es, σ, st => gd (ge.fs f = true) ((evs ge cf es σ st).bind fun xs st => cf f xs st)
  | .blt b es, σ, st => (evs ge cf es σ st).bind fun xs st => blt b xs st
  | .mth m o es, σ, st => (ev ge cf o σ st).bind fun x st => gd (mOk m x st = true) ((evs ge cf es σ st).bind fun xs st => mth m x xs st)
  | .isI a t, σ, st => (ev ge cf a σ st).bind fun x st => gd (notIns st x = true) (.ok (.bl (isTy ge.bs st x t)) st)
  | .isX a _ cs, σ, st => gd (cs.all ge.xk = true) ((ev ge cf a σ st).bind fun x st => isXR ge x cs st)
  | .lenSet a, σ, st => (ev ge cf a σ st).bind fun x st => lenSetR x st
  | .tupR a, σ, st => (ev ge cf a σ st).bind fun x st => tupRR x st
  | .fcall fs i es, σ, st => gd (fs.all ge.fs = true ∧ fs.length ≤ 100) ((ev ge cf i σ st).bind fun x st => match x with
      | .int j => (match L2.atI fs j with
        | some f => (evs ge cf es σ st).bind fun xs st => cf f xs st
        | none => .err)
      | _ => .err)
noncomputable def evl (ge : GE) (cf : CF) : CL → Slots → Store → Res (List D)
  | .disp es, σ, st => (evs ge cf es σ st).bind fun xs st => gd (xs.length ≤ lineN) (.ok xs st)
  | .comp t one it c e, σ, st => (evi ge cf it σ st).bind fun w st =>
      gd (w.1.length ≤ lineN) (lcL (fun x st => match bindT t one x (wipe σ t) st with
        | some σ' => (evc ge cf c σ' st).bind fun b st => match b with
          | true => (ev ge cf e σ' st).bind fun y st => .ok (some y) st
          | false => .ok none st
        | none => .err) w.2 w.1 st)
  | .listOf e, σ, st => (ev ge cf e σ st).bind fun x st => match items st x with | some xs => .ok xs st | none => .err
  | .rep es n, σ, st => (evs ge cf es σ st).bind fun xs st => gd (xs.length ≤ lineN) ((ev ge cf n σ st).bind fun y st => match y with
      | .int k => gd (xs.length * k.toNat ≤ lineN ∧ 0 ≤ k ∧ k ≤ lineN) (.ok (reps xs k) st)
      | _ => .err)
  | .cat a b, σ, st => (ev ge cf a σ st).bind fun x st => (ev ge cf b σ st).bind fun y st => catR st x y
  | .range1 a, σ, st => (ev ge cf a σ st).bind fun x st => match x with | .int i => gd (i ≤ lineN ∧ -(lineN : Int) ≤ i) (.ok (rng 0 i) st) | _ => .err
  | .range2 a b, σ, st => (ev ge cf a σ st).bind fun x st => (ev ge cf b σ st).bind fun y st => match x, y with
      | .int i, .int j => gd (i ≤ lineN ∧ -(lineN : Int) ≤ i ∧ j ≤ lineN ∧ -(lineN : Int) ≤ j ∧ j - i ≤ lineN) (.ok (rng i j) st)
      | _, _ => .err
noncomputable def evs (ge : GE) (cf : CF) : CEs → Slots → Store → Res (List D)
  | .nil, _, st => .ok [] st
  | .cons e es, σ, st => (ev ge cf e σ st).bind fun x st => (evs ge cf es σ st).bind fun xs st => .ok (x :: xs) st
noncomputable def evo (ge : GE) (cf : CF) : CO → Slots → Store → Res (Option Int)
  | .none, _, st => .ok none st
  | .some e, σ, st => (ev ge cf e σ st).bind fun x st => match x with | .int i => .ok (some i) st | _ => .err
noncomputable def evc (ge : GE) (cf : CF) : CO → Slots → Store → Res Bool
  | .none, _, st => .ok true st
  | .some e, σ, st => (ev ge cf e σ st).bind fun x st => match x with | .bl b => .ok b st | _ => .err
noncomputable def evi (ge : GE) (cf : CF) : CI → Slots → Store → Res (List D × Watch)
  | .of e, σ, st => (ev ge cf e σ st).bind fun x st => walkD st x
  | .range1 a, σ, st => (ev ge cf a σ st).bind fun x st => match x with | .int i => gd (small62 i) (.ok (rng 0 i, []) st) | _ => .err
  | .range2 a b, σ, st => (ev ge cf a σ st).bind fun x st => (ev ge cf b σ st).bind fun y st => match x, y with
      | .int i, .int j => gd (small62 i ∧ small62 j) (.ok (rng i j, []) st)
      | _, _ => .err
  | .enum e, σ, st => (ev ge cf e σ st).bind fun x st => match deref st x with
      | .lst xs => .ok (enumD 0 xs, watch x xs) st
      | .tup xs => .ok (enumD 0 xs, []) st
      | _ => .err
  | .zip a b, σ, st => (ev ge cf a σ st).bind fun x st => (ev ge cf b σ st).bind fun y st => match deref st x, deref st y with
      | .lst xs, .lst ys => .ok (zipD xs ys, watch x xs ++ watch y ys) st
      | .lst xs, .tup ys => .ok (zipD xs ys, watch x xs) st
      | _, _ => .err
  | .rrange2 a b, σ, st => (ev ge cf a σ st).bind fun x st => (ev ge cf b σ st).bind fun y st => match x, y with
      | .int i, .int j => gd (small62 i ∧ small62 j) (.ok ((rng i j).reverse, []) st)
      | _, _ => .err
  | .range3 a b c, σ, st => (ev ge cf a σ st).bind fun x st => (ev ge cf b σ st).bind fun y st => (ev ge cf c σ st).bind fun z st => match x, y, z with
      | .int i, .int j, .int k => gd (okC i j k) (.ok (rngC i j k, []) st)
      | _, _, _ => .err
end

def setIx (o i v : D) (st : Store) : Option Store :=
  match o, i with
  | .ref k, .int j => match st[k]? with
    | some (.lst xs) => if 0 ≤ j ∧ j.toNat < xs.length then some (st.set k (.lst (xs.set j.toNat v))) else none
    | _ => none
  | _, _ => none
noncomputable def asgT (ge : GE) (cf : CF) (t : CT) (d : D) (σ : Slots) (st : Store) : RS :=
  match t with
  | .name i => .nx (σ.set i (some d)) st
  | .names is => match items st d with
    | some ds => if ds.length = is.length then .nx (setAll σ is ds) st else .err
    | none => .err
  | .nest i js => match deref st d with
    | .tup [a, b] => match deref st b with
      | .tup ds => if ds.length = js.length then .nx (setAll (σ.set i (some a)) js ds) st else .err
      | _ => .err
    | _ => .err
  | .sub o i => (ev ge cf o σ st).toS σ fun ov st => (ev ge cf i σ st).toS σ fun iv st => match setIx ov iv d st with
    | some st => .nx σ st
    | none => .err
  | .dputK o k => (ev ge cf o σ st).toS σ fun ov st => (ev ge cf k σ st).toS σ fun y st => dictR st ov false (keyD1 y) .err fun j kvs k => if kvs.length < lineN then .nx σ (st.set j (.dict false (putD kvs k d))) else .err
  | .dputT o es => (ev ge cf o σ st).toS σ fun ov st => (evs ge cf es σ st).toS σ fun ks st => dictR st ov true (keysA ks) .err fun j kvs k => if kvs.length < lineN ∧ ks.length ≤ lineN then .nx σ (st.set j (.dict true (putD kvs k d))) else .err
  | .fld c o f => (ev ge cf o σ st).toS σ fun ov st => insR st ov c .err fun j fs => if fs.length < 1000 ∧ ge.cl c = true ∧ ge.fd c f = true then .nx σ (st.set j (.ins c (putFD f d fs))) else .err

/-- what a slot holds behind a scope's end: cells of the scope go, its lists stay as data -/
def slFrz (n : Nat) (st : Store) (d : D) : Option D :=
  if closed n d = true then some d else match d with
    | .ref k => match st[k]? with
      | some (.lst xs) => if closeds n xs = true then some (.lst xs) else none
      | _ => none
    | _ => none
open Classical in
noncomputable def scp (st0 : Store) (σ : Slots) (st : Store) : Slots × Store :=
  if st.length ≤ st0.length then (σ, st)
  else if st.take st0.length = st0 ∨ (st.take st0.length).all (Cell.closed st0.length) = true then (σ.map fun o => o.bind (slFrz st0.length st), st.take st0.length) else (σ, st)
/-- a turn's end: names that are not wanted any more go, and the turn's own cells -/
noncomputable def endT (dr : List Nat) (st0 : Store) (r : RS) : RS :=
  match r with
  | .nx σ st => .nx (scp st0 (wipe σ dr) st).1 (scp st0 (wipe σ dr) st).2
  | .ct σ st => .nx (scp st0 (wipe σ dr) st).1 (scp st0 (wipe σ dr) st).2
  | .bk σ st => .bk (scp st0 (wipe σ dr) st).1 (scp st0 (wipe σ dr) st).2
  | r => r
/-- what is caught is kept -/
def tryR (ge : GE) (k : String) (i j : Nat) (r : RS) : RS := match r with
  | .exc d σ st => (match d with
    | .exc c [] => if ge.sub c k = true ∧ i ≠ j ∧ ge.xc c = true then .nx ((σ.set i none).set j (some (.exc c []))) st else .err
    | _ => .err)
  | r => r
mutual
noncomputable def ex (ge : GE) (cf : CF) : CS → Slots → Store → RS
  | .asg t e, σ, st => (ev ge cf e σ st).toS σ fun d st => asgT ge cf t d σ st
  | .expr e, σ, st => (ev ge cf e σ st).toS σ fun _ st => .nx σ st
  | .ret e, σ, st => (ev ge cf e σ st).toS σ fun d st => .rt d st
  | .retN, _, st => .rt .non st
  | .pass, σ, st => .nx σ st
  | .brk, σ, st => .bk σ st
  | .cont, σ, st => .ct σ st
  | .stop, _, _ => .err
  | .ifs c a b, σ, st => (ev ge cf c σ st).toS σ fun x st => match x with
      | .bl true => exs ge cf a σ st
      | .bl false => exs ge cf b σ st
      | _ => .err
  | .for_ t it b, σ, st => (evi ge cf it σ st).toS σ fun w st =>
      forL (fun x σ st => match asgT ge cf t x σ st with
        | .nx σ st => exs ge cf b σ st
        | _ => .err) w.2 w.1 σ st
  | .while_ c b, σ, st => wh (fun σ st => ev ge cf c σ st) (fun σ st => exs ge cf b σ st) σ st
  | .forG t it b dr, σ, st => (evi ge cf it σ st).toS σ fun w st =>
      forL (fun x σ st => endT dr st (match asgT ge cf t x σ st with
        | .nx σ st => exs ge cf b σ st
        | _ => .err)) w.2 w.1 (wipe σ dr) st
  | .whG c b dr, σ, st => wh (fun σ st => ev ge cf c σ st) (fun σ st => endT dr st (exs ge cf b σ st)) (wipe σ dr) st
  | .raise_ c, σ, st => if ge.xc c = true then .exc (.exc c []) σ st else .err
  | .tryK b k i j, σ, st => if ge.xk k = true then tryR ge k i j (exs ge cf b σ st) else .err
noncomputable def exs (ge : GE) (cf : CF) : CSs → Slots → Store → RS
  | .nil, σ, st => .nx σ st
  | .cons s r, σ, st => match ex ge cf s σ st with
      | .nx σ st => exs ge cf r σ st
      | r => r
  | .drp is r, σ, st => exs ge cf r (wipe σ is) st
end

structure Fn where
  np : Nat
  ns : Nat
  keep : Bool
  body : CSs
open Classical in
/-- at a def's end: what it made goes, where nothing else leans on it; a list of its own is handed on as data -/
noncomputable def fin (n : Nat) (st : Store) (d : D) (st' : Store) : Res D :=
  if (st'.take n = st ∨ (st'.take n).all (Cell.closed n) = true) then
    match d with
    | .ref k => if k < n then .ok d (st'.take n) else match st'[k]? with
      | some (.lst xs) => if closeds n xs = true then .ok (.lst xs) (st'.take n) else .ok d st'
      | _ => .ok d st'
    | d => if closed n d = true then .ok d (st'.take n) else .ok d st'
  else .ok d st'
open Classical in
/-- .. where an exception leaves it -/
noncomputable def finX (n : Nat) (st : Store) (d : D) (st' : Store) : Res D :=
  if (st'.take n = st ∨ (st'.take n).all (Cell.closed n) = true) then .exc d (st'.take n) else .exc d st'
noncomputable def run (ge : GE) (cf : CF) (f : Fn) (args : List D) (st : Store) : Res D :=
  gd (args.length = f.np ∧ f.np ≤ f.ns) (match exs ge cf f.body (args.map some ++ List.replicate (f.ns - args.length) none) st with
    | .rt d st' => if f.keep = true then .ok d st' else fin st.length st d st'
    | .nx _ st' => if f.keep = true then .ok .non st' else fin st.length st .non st'
    | .exc d _ st' => if f.keep = true then .exc d st' else finX st.length st d st'
    | _ => .err)
abbrev Tab := String → Option Fn
noncomputable def call (ge : GE) (T : Tab) : Nat → CF
  | 0 => fun _ _ _ => .err
  | k + 1 => fun f args st => match T f with
    | some fn => run ge (call ge T k) fn args st
    | none => .err
end PC
end
section
set_option Elab.async false
set_option linter.all false
set_option autoImplicit false
set_option maxRecDepth 100000
/-! What stands in the model's heap for the core's data and store. -/
namespace PC
open PySem L2

def sv (s : List Nat) : Str := ⟨s.toArray⟩

/-- where the cells stand; which addresses hold lists that no one changes any more -/
structure Wd where
  c : List Addr
  F : Addr → Prop
def Wd.frz (φ : Wd) (p : Addr) : Wd := ⟨φ.c, fun q => φ.F q ∨ q = p⟩
def Wd.add (φ : Wd) (p : Addr) : Wd := ⟨φ.c ++ [p], φ.F⟩

/-- a list of the module's own -/
def KL (K : PySem.W.Frag) (p : Addr) (xs : List V) : Prop := ∃ (o : Obj) (its : Array Value) (n : Nat), K.lookup p = some o ∧ o.cls = .type "list" ∧ o.dict = none ∧ o.data = .seq its n ∧ its.size ≤ sizeLine ∧ Vals xs its.toList
/-- a list that no one changes -/
def LsF (K : PySem.W.Frag) (φ : Wd) (H : Hp) (p : Addr) (vs : List V) : Prop := Rd H p (.lst vs) ∧ φ.F p
theorem LsF.sq {K : PySem.W.Frag} {φ : Wd} {H : Hp} {p : Addr} {vs : List V} (h : LsF K φ H p vs) : SqL K H p vs := .inl h.1
/-- .. or the module's -/
def LsK (K : PySem.W.Frag) (φ : Wd) (H : Hp) (p : Addr) (vs : List V) : Prop := LsF K φ H p vs ∨ KL K p vs
theorem LsK.sq {K : PySem.W.Frag} {φ : Wd} {H : Hp} {p : Addr} {vs : List V} (h : LsK K φ H p vs) : SqL K H p vs := h.elim LsF.sq .inr
/-- a caught exception: its class and its dict -/
def CaO (cls : Value) (d : Option Addr) (a : Addr) : HO := .ext fun h => ∃ (oe : Obj) (vs : Array Value), h.get? a = some oe ∧ Zc cls d oe ∧ oe.data = .fields vs
mutual
inductive RepV (K : PySem.W.Frag) (φ : Wd) (H : Hp) : V → D → Prop
  | non : RepV K φ H .non .non
  | bl (b : Bool) : RepV K φ H (.bl b) (.bl b)
  | int (i : Int) : RepV K φ H (.int i) (.int i)
  | str (s : List Nat) : RepV K φ H (.str (sv s)) (.str s)
  | tup {p : Addr} {vs : List V} {ds : List D} : SqT K H p vs → RepVs K φ H vs ds → RepV K φ H (.ref p) (.tup ds)
  | lst {p : Addr} {vs : List V} {ds : List D} : LsF K φ H p vs → RepVs K φ H vs ds → RepV K φ H (.ref p) (.lst ds)
  | ref {p : Addr} {k : Nat} : φ.c[k]? = some p → RepV K φ H (.ref p) (.ref k)
  | scr {p : Addr} {vs : List V} {ds : List D} : LsK K φ H p vs → RepVs K φ H vs ds → RepV K φ H (.ref p) (.scr ds)
  | kset {p : Addr} {kvs : List (Key × V)} {ks : List Int} : H p = some (.dK kvs) → φ.F p → (∀ k : Int, (valV kvs (Sum.inl k)).isSome = ks.contains k) → RepV K φ H (.ref p) (.kset ks)
  | exc {p : Addr} {c : String} : H p = some (CaO (.ref (He.ga K (Str.ofString c))) none p) → φ.F p → RepV K φ H (.ref p) (.exc c [])
inductive RepVs (K : PySem.W.Frag) (φ : Wd) (H : Hp) : List V → List D → Prop
  | nil : RepVs K φ H [] []
  | cons {v : V} {d : D} {vs : List V} {ds : List D} : RepV K φ H v d → RepVs K φ H vs ds → RepVs K φ H (v :: vs) (d :: ds)
end

/-- from one stand to another: tuples stay, frozen lists stay so -/
structure Ext0 (K : PySem.W.Frag) (φ : Wd) (H : Hp) (φ' : Wd) (H' : Hp) : Prop where
  pre : ∀ (k : Nat) (p : Addr), φ.c[k]? = some p → φ'.c[k]? = some p
  tup : ∀ p vs, SqT K H p vs → SqT K H' p vs
  lst : ∀ p u, H p = some u → φ.F p → H' p = some u ∧ φ'.F p
/-- from one stand to a later one: what is no cell stays, new cells are new objects -/
structure Ext (K : PySem.W.Frag) (φ : Wd) (H : Hp) (φ' : Wd) (H' : Hp) : Prop extends Ext0 K φ H φ' H' where
  keep : ∀ p o, H p = some o → p ∉ φ.c → H' p = some o
  new : ∀ p, p ∈ φ'.c → p ∉ φ.c → H p = none
  newF : ∀ p, φ'.F p → ¬ φ.F p → H p = none
  dom : ∀ p, H' p = none → H p = none

section
variable {K : PySem.W.Frag} {φ φ' φ'' : Wd} {H H' H'' : Hp}
theorem Ext0.rd (e : Ext0 K φ H φ' H') {p : Addr} {u : HO} (h : Rd H p u) (hf : φ.F p) : Rd H' p u ∧ φ'.F p := by
  rcases h with h | ⟨o, h⟩
  · exact ⟨.inl (e.lst p _ h hf).1, (e.lst p _ h hf).2⟩
  · exact ⟨.inr ⟨o, (e.lst p _ h hf).1⟩, (e.lst p _ h hf).2⟩
theorem Ext.refl : Ext K φ H φ H := ⟨⟨fun _ _ h => h, fun _ _ h => h, fun _ _ h h' => ⟨h, h'⟩⟩, fun _ _ h _ => h, fun _ h h' => absurd h h', fun _ h h' => absurd h h', fun _ h => h⟩
theorem Ext0.sub (a : Ext0 K φ H φ' H') {p : Addr} (h : p ∈ φ.c) : p ∈ φ'.c := by
  obtain ⟨k, hk, e⟩ := List.getElem_of_mem h
  exact List.mem_of_getElem? (a.pre k p (by rw [List.getElem?_eq_getElem hk, e]))
theorem Ext.trans (a : Ext K φ H φ' H') (b : Ext K φ' H' φ'' H'') : Ext K φ H φ'' H'' := by
  have out : ∀ p o, H p = some o → p ∉ φ.c → p ∉ φ'.c := fun p o h hn hm => by
    rw [a.new p hm hn] at h; cases h
  refine ⟨⟨fun k p h => b.pre k p (a.pre k p h), fun p vs h => b.tup p vs (a.tup p vs h), fun p vs h h' => let q := a.lst p vs h h'; b.lst p vs q.1 q.2⟩,
    fun p o h hn => b.keep p o (a.keep p o h hn) (out p o h hn), fun p hm hn => ?_, fun p hm hn => ?_, fun p h => a.dom p (b.dom p h)⟩
  · by_cases hm' : p ∈ φ'.c
    · exact a.new p hm' hn
    · exact a.dom p (b.new p hm hm')
  · by_cases hm' : φ'.F p
    · exact a.newF p hm' hn
    · exact a.dom p (b.newF p hm hm')
mutual
theorem RepV.ext0 (e : Ext0 K φ H φ' H') : ∀ {v : V} {d : D}, RepV K φ H v d → RepV K φ' H' v d
  | _, _, .non => .non
  | _, _, .bl b => .bl b
  | _, _, .int i => .int i
  | _, _, .str s => .str s
  | _, _, .tup a b => .tup (e.tup _ _ a) (RepVs.ext0 e b)
  | _, _, .lst a b => .lst (e.rd a.1 a.2) (RepVs.ext0 e b)
  | _, _, .kset a b c => .kset (e.lst _ _ a b).1 (e.lst _ _ a b).2 c
  | _, _, .exc a b => .exc (e.lst _ _ a b).1 (e.lst _ _ a b).2
  | _, _, .ref h => .ref (e.pre _ _ h)
  | _, _, .scr a b => .scr (a.elim (fun z => .inl (e.rd z.1 z.2)) .inr) (RepVs.ext0 e b)
theorem RepVs.ext0 (e : Ext0 K φ H φ' H') : ∀ {vs : List V} {ds : List D}, RepVs K φ H vs ds → RepVs K φ' H' vs ds
  | _, _, .nil => .nil
  | _, _, .cons a b => .cons (RepV.ext0 e a) (RepVs.ext0 e b)
end
theorem RepV.ext (e : Ext K φ H φ' H') {v : V} {d : D} (h : RepV K φ H v d) : RepV K φ' H' v d := h.ext0 e.toExt0
theorem RepVs.ext (e : Ext K φ H φ' H') {v : List V} {d : List D} (h : RepVs K φ H v d) : RepVs K φ' H' v d := h.ext0 e.toExt0
theorem RepVs.length : ∀ {vs : List V} {ds : List D}, RepVs K φ H vs ds → vs.length = ds.length
  | _, _, .nil => rfl
  | _, _, .cons _ b => by rw [List.length_cons, List.length_cons, RepVs.length b]
theorem RepVs.get : ∀ {vs : List V} {ds : List D} {i : Nat} {d : D}, RepVs K φ H vs ds → ds[i]? = some d → ∃ v, vs[i]? = some v ∧ RepV K φ H v d
  | _, _, 0, _, .cons a _, e => by cases (by simpa using e : _ = _); exact ⟨_, rfl, a⟩
  | _, _, i + 1, d, .cons _ b, e => by
    obtain ⟨v, h, r⟩ := RepVs.get (i := i) (d := d) b (by simpa using e)
    exact ⟨v, by simpa using h, r⟩
theorem RepVs.get' : ∀ {vs : List V} {ds : List D} {i : Nat} {v : V}, RepVs K φ H vs ds → vs[i]? = some v → ∃ d, ds[i]? = some d ∧ RepV K φ H v d
  | _, _, 0, _, .cons a _, e => by cases (by simpa using e : _ = _); exact ⟨_, rfl, a⟩
  | _, _, i + 1, d, .cons _ b, e => by
    obtain ⟨v, h, r⟩ := RepVs.get' (i := i) (v := d) b (by simpa using e)
    exact ⟨v, by simpa using h, r⟩
theorem RepVs.append : ∀ {vs ws : List V} {ds es : List D}, RepVs K φ H vs ds → RepVs K φ H ws es → RepVs K φ H (vs ++ ws) (ds ++ es)
  | _, _, _, _, .nil, b => b
  | _, _, _, _, .cons a t, b => .cons a (RepVs.append t b)
theorem RepVs.take : ∀ {vs : List V} {ds : List D} (n : Nat), RepVs K φ H vs ds → RepVs K φ H (vs.take n) (ds.take n)
  | _, _, 0, _ => .nil
  | _, _, _ + 1, .nil => .nil
  | _, _, n + 1, .cons a b => .cons a (RepVs.take n b)
theorem RepVs.drop : ∀ {vs : List V} {ds : List D} (n : Nat), RepVs K φ H vs ds → RepVs K φ H (vs.drop n) (ds.drop n)
  | _, _, 0, h => h
  | _, _, _ + 1, .nil => .nil
  | _, _, n + 1, .cons _ b => RepVs.drop n b
theorem RepVs.set {v : V} {d : D} (r : RepV K φ H v d) : ∀ {vs : List V} {ds : List D} (n : Nat), RepVs K φ H vs ds → RepVs K φ H (vs.set n v) (ds.set n d)
  | _, _, _, .nil => .nil
  | _, _, 0, .cons _ b => .cons r b
  | _, _, n + 1, .cons a b => .cons a (RepVs.set r n b)
theorem RepVs.eraseIdx : ∀ {vs : List V} {ds : List D} (n : Nat), RepVs K φ H vs ds → RepVs K φ H (vs.eraseIdx n) (ds.eraseIdx n)
  | _, _, _, .nil => .nil
  | _, _, 0, .cons _ b => b
  | _, _, n + 1, .cons a b => .cons a (RepVs.eraseIdx n b)
theorem RepVs.dropLast {vs : List V} {ds : List D} (h : RepVs K φ H vs ds) : RepVs K φ H vs.dropLast ds.dropLast := by
  rw [List.dropLast_eq_take, List.dropLast_eq_take, h.length]; exact h.take _
theorem RepVs.replicate {vs : List V} {ds : List D} (h : RepVs K φ H vs ds) : ∀ n, RepVs K φ H (List.replicate n vs).flatten (List.replicate n ds).flatten
  | 0 => .nil
  | n + 1 => by
    rw [List.replicate_succ, List.replicate_succ, List.flatten_cons, List.flatten_cons]
    exact h.append (RepVs.replicate h n)
theorem RepV.int_inv {v : V} {i : Int} (h : RepV K φ H v (.int i)) : v = .int i := by cases h; rfl
theorem RepV.bl_inv {v : V} {b : Bool} (h : RepV K φ H v (.bl b)) : v = .bl b := by cases h; rfl
theorem RepV.str_inv {v : V} {s : List Nat} (h : RepV K φ H v (.str s)) : v = .str (sv s) := by cases h; rfl
theorem RepV.non_inv {v : V} (h : RepV K φ H v .non) : v = .non := by cases h; rfl
theorem RepVs.ofInts {vs : List V} : ∀ {is : List Int}, RepVs K φ H vs (is.map .int) → vs = is.map .int
  | [], h => by cases h; rfl
  | i :: is, h => by
    cases h with
    | cons a b => rw [a.int_inv, RepVs.ofInts b]; rfl
theorem RepVs.ints : ∀ is : List Int, RepVs K φ H (is.map .int) (is.map .int)
  | [] => .nil
  | i :: is => .cons (.int i) (RepVs.ints is)
theorem RepVs.ofBools {vs : List V} : ∀ {is : List Bool}, RepVs K φ H vs (is.map .bl) → vs = is.map .bl
  | [], h => by cases h; rfl
  | i :: is, h => by
    cases h with
    | cons a b => rw [a.bl_inv, RepVs.ofBools b]; rfl
theorem RepVs.ofStrs {vs : List V} : ∀ {is : List (List Nat)}, RepVs K φ H vs (is.map .str) → vs = is.map fun s => .str (sv s)
  | [], h => by cases h; rfl
  | i :: is, h => by
    cases h with
    | cons a b => rw [a.str_inv, RepVs.ofStrs b]; rfl
theorem RepVs.strs : ∀ is : List (List Nat), RepVs K φ H (is.map fun s => V.str (sv s)) (is.map .str)
  | [] => .nil
  | i :: is => .cons (.str i) (RepVs.strs is)
end

theorem toInts_eq : ∀ {xs : List D} {is : List Int}, toInts xs = some is → xs = is.map .int
  | [], is, h => by cases (by simpa [toInts] using h : [] = is); rfl
  | x :: xs, is, h => by
    cases x with
    | int i =>
      simp only [toInts] at h
      cases e : toInts xs with
      | none => rw [e] at h; cases h
      | some js => rw [e] at h; cases h; rw [toInts_eq e]; rfl
    | _ => cases h
theorem toBools_eq : ∀ {xs : List D} {is : List Bool}, toBools xs = some is → xs = is.map .bl
  | [], is, h => by cases (by simpa [toBools] using h : [] = is); rfl
  | x :: xs, is, h => by
    cases x with
    | bl i =>
      simp only [toBools] at h
      cases e : toBools xs with
      | none => rw [e] at h; cases h
      | some js => rw [e] at h; cases h; rw [toBools_eq e]; rfl
    | _ => cases h
theorem toStrs_eq : ∀ {xs : List D} {is : List (List Nat)}, toStrs xs = some is → xs = is.map .str
  | [], is, h => by cases (by simpa [toStrs] using h : [] = is); rfl
  | x :: xs, is, h => by
    cases x with
    | str i =>
      simp only [toStrs] at h
      cases e : toStrs xs with
      | none => rw [e] at h; cases h
      | some js => rw [e] at h; cases h; rw [toStrs_eq e]; rfl
    | _ => cases h

def kyV : KY → Key
  | .inl i => .inl i
  | .inr s => .inr (sv s)
theorem sv_inj {a b : List Nat} (h : sv a = sv b) : a = b := by
  have h : a.toArray = b.toArray := Str.mk.inj h
  have := congrArg Array.toList h
  simpa using this
theorem kyV_inj {a b : KY} (h : kyV a = kyV b) : a = b := by
  cases a <;> cases b <;> simp only [kyV, Sum.inl.injEq, Sum.inr.injEq, reduceCtorEq] at h
  · rw [h]
  · rw [sv_inj h]
theorem kyVs_inj : ∀ {a b : List KY}, a.map kyV = b.map kyV → a = b
  | [], [], _ => rfl
  | [], _ :: _, h => by simp at h
  | _ :: _, [], h => by simp at h
  | x :: a, y :: b, h => by
    simp only [List.map_cons, List.cons.injEq] at h
    rw [kyV_inj h.1, kyVs_inj h.2]
theorem ofS_inj {a b : String} (h : Str.ofString a = Str.ofString b) : a = b := by
  rw [Str.ofString_eq_toList, Str.ofString_eq_toList] at h
  have h : (a.toList.map Char.toNat).toArray = (b.toList.map Char.toNat).toArray := Str.mk.inj h
  have h := congrArg Array.toList h
  have h : a.toList.map Char.toNat = b.toList.map Char.toNat := by simpa using h
  have key : ∀ l m : List Char, l.map Char.toNat = m.map Char.toNat → l = m := by
    intro l
    induction l with
    | nil => intro m h; cases m with | nil => rfl | cons _ _ => simp at h
    | cons x l ih =>
      intro m h
      cases m with
      | nil => simp at h
      | cons y m =>
        simp only [List.map_cons, List.cons.injEq] at h
        rw [ih m h.2]
        congr 1
        exact Char.ext (UInt32.toNat_inj.mp h.1)
  exact String.toList_inj.mp (key _ _ h)
/-- the entries of a dict -/
inductive RepK (K : PySem.W.Frag) (φ : Wd) (H : Hp) : List (Key × V) → List (List KY × D) → Prop
  | nil : RepK K φ H [] []
  | cons {k : KY} {v : V} {d : D} {vs : List (Key × V)} {ds : List (List KY × D)} : RepV K φ H v d → RepK K φ H vs ds → RepK K φ H ((kyV k, v) :: vs) (([k], d) :: ds)
inductive RepT (K : PySem.W.Frag) (φ : Wd) (H : Hp) : List (List Key × V) → List (List KY × D) → Prop
  | nil : RepT K φ H [] []
  | cons {k : List KY} {v : V} {d : D} {vs : List (List Key × V)} {ds : List (List KY × D)} : RepV K φ H v d → RepT K φ H vs ds → RepT K φ H ((k.map kyV, v) :: vs) ((k, d) :: ds)
/-- the fields of an instance -/
inductive RepF (K : PySem.W.Frag) (φ : Wd) (H : Hp) : List (Str × V) → List (String × D) → Prop
  | nil : RepF K φ H [] []
  | cons {f : String} {v : V} {d : D} {vs : List (Str × V)} {ds : List (String × D)} : RepV K φ H v d → RepF K φ H vs ds → RepF K φ H ((Str.ofString f, v) :: vs) ((f, d) :: ds)
/-- what stands at a cell's address -/
def RepC (K : PySem.W.Frag) (φ : Wd) (H : Hp) (p : Addr) : Cell → Prop
  | .lst ds => ∃ vs, H p = some (.lst vs) ∧ RepVs K φ H vs ds
  | .dict false kvs => ∃ vs, H p = some (.dK vs) ∧ RepK K φ H vs kvs
  | .dict true kvs => ∃ vs, H p = some (.dT vs) ∧ RepT K φ H vs kvs
  | .ins c fs => ∃ dx vs, H p = some (.ins (He.ga K (Str.ofString c)) dx vs) ∧ RepF K φ H vs fs
section
variable {K : PySem.W.Frag} {φ φ' : Wd} {H H' : Hp}
theorem RepK.ext0 (e : Ext0 K φ H φ' H') : ∀ {vs : List (Key × V)} {ds : List (List KY × D)}, RepK K φ H vs ds → RepK K φ' H' vs ds
  | _, _, .nil => .nil
  | _, _, .cons a b => .cons (a.ext0 e) (RepK.ext0 e b)
theorem RepT.ext0 (e : Ext0 K φ H φ' H') : ∀ {vs : List (List Key × V)} {ds : List (List KY × D)}, RepT K φ H vs ds → RepT K φ' H' vs ds
  | _, _, .nil => .nil
  | _, _, .cons a b => .cons (a.ext0 e) (RepT.ext0 e b)
theorem RepF.ext0 (e : Ext0 K φ H φ' H') : ∀ {vs : List (Str × V)} {ds : List (String × D)}, RepF K φ H vs ds → RepF K φ' H' vs ds
  | _, _, .nil => .nil
  | _, _, .cons a b => .cons (a.ext0 e) (RepF.ext0 e b)
theorem RepK.len : ∀ {vs : List (Key × V)} {ds : List (List KY × D)}, RepK K φ H vs ds → vs.length = ds.length
  | _, _, .nil => rfl
  | _, _, .cons _ b => by rw [List.length_cons, List.length_cons, RepK.len b]
theorem RepT.len : ∀ {vs : List (List Key × V)} {ds : List (List KY × D)}, RepT K φ H vs ds → vs.length = ds.length
  | _, _, .nil => rfl
  | _, _, .cons _ b => by rw [List.length_cons, List.length_cons, RepT.len b]
theorem RepF.len : ∀ {vs : List (Str × V)} {ds : List (String × D)}, RepF K φ H vs ds → vs.length = ds.length
  | _, _, .nil => rfl
  | _, _, .cons _ b => by rw [List.length_cons, List.length_cons, RepF.len b]
/-- what is found, or not -/
def RepO (K : PySem.W.Frag) (φ : Wd) (H : Hp) : Option V → Option D → Prop
  | none, none => True
  | some v, some d => RepV K φ H v d
  | _, _ => False
theorem RepO.isSome {v : Option V} {d : Option D} (h : RepO K φ H v d) : v.isSome = d.isSome := by
  cases v <;> cases d <;> first | rfl | exact h.elim
theorem RepO.some {v : Option V} {d : D} (h : RepO K φ H v (.some d)) : ∃ x, v = .some x ∧ RepV K φ H x d := by
  cases v with
  | none => exact h.elim
  | some x => exact ⟨x, rfl, h⟩
theorem valD_cons (p : List KY × D) (r : List (List KY × D)) (k : List KY) : valD (p :: r) k = if p.1 = k then some p.2 else valD r k := by
  unfold valD
  rw [List.find?_cons]
  by_cases h : p.1 = k
  · rw [if_pos h, decide_eq_true h]; rfl
  · rw [if_neg h, decide_eq_false h]
theorem RepK.val {k : KY} : ∀ {vs : List (Key × V)} {ds : List (List KY × D)}, RepK K φ H vs ds → RepO K φ H (valV vs (kyV k)) (valD ds [k])
  | _, _, .nil => trivial
  | _, _, .cons (k := j) a b => by
    rw [valD_cons]
    by_cases h : j = k
    · subst h
      rw [if_pos rfl, valV_pos rfl]; exact a
    · rw [if_neg (by simpa using h), valV_neg (fun e => h (kyV_inj e))]
      exact RepK.val b
theorem RepT.val {k : List KY} : ∀ {vs : List (List Key × V)} {ds : List (List KY × D)}, RepT K φ H vs ds → RepO K φ H (valV vs (k.map kyV)) (valD ds k)
  | _, _, .nil => trivial
  | _, _, .cons (k := j) a b => by
    rw [valD_cons]
    by_cases h : j = k
    · subst h
      rw [if_pos rfl, valV_pos rfl]; exact a
    · rw [if_neg h, valV_neg (fun e => h (kyVs_inj e))]
      exact RepT.val b
theorem RepF.look {f : String} : ∀ {vs : List (Str × V)} {ds : List (String × D)}, RepF K φ H vs ds → RepO K φ H (vs.lookup (Str.ofString f)) (ds.lookup f)
  | _, _, .nil => trivial
  | _, _, .cons (f := g) a b => by
    by_cases h : f = g
    · subst h
      rw [List.lookup_cons, List.lookup_cons, beq_self_eq_true, beq_self_eq_true]; exact a
    · rw [List.lookup_cons, List.lookup_cons, beq_eq_false_iff_ne.mpr h, beq_eq_false_iff_ne.mpr (fun e => h (ofS_inj e))]
      exact RepF.look b
theorem RepK.any {k : KY} : ∀ {vs : List (Key × V)} {ds : List (List KY × D)}, RepK K φ H vs ds → (vs.any fun p => decide (p.1 = kyV k)) = ds.any fun p => decide (p.1 = [k])
  | _, _, .nil => rfl
  | _, _, .cons (k := j) a b => by
    rw [List.any_cons, List.any_cons, RepK.any b]
    congr 1
    by_cases h : j = k
    · subst h; simp
    · rw [decide_eq_false (fun e => h (kyV_inj e)), decide_eq_false (by simpa using h)]
theorem RepT.any {k : List KY} : ∀ {vs : List (List Key × V)} {ds : List (List KY × D)}, RepT K φ H vs ds → (vs.any fun p => decide (p.1 = k.map kyV)) = ds.any fun p => decide (p.1 = k)
  | _, _, .nil => rfl
  | _, _, .cons (k := j) a b => by
    rw [List.any_cons, List.any_cons, RepT.any b]
    congr 1
    by_cases h : j = k
    · subst h; simp
    · rw [decide_eq_false (fun e => h (kyVs_inj e)), decide_eq_false h]
theorem RepK.map {k : KY} {v : V} {d : D} (r : RepV K φ H v d) : ∀ {vs : List (Key × V)} {ds : List (List KY × D)}, RepK K φ H vs ds → RepK K φ H (vs.map fun p => if p.1 = kyV k then (p.1, v) else p) (ds.map fun p => if p.1 = [k] then (p.1, d) else p)
  | _, _, .nil => .nil
  | _, _, .cons (k := j) a b => by
    rw [List.map_cons, List.map_cons]
    by_cases h : j = k
    · subst h
      rw [if_pos rfl, if_pos rfl]; exact .cons r (RepK.map r b)
    · rw [if_neg (fun e => h (kyV_inj e)), if_neg (by simpa using h)]; exact .cons a (RepK.map r b)
theorem RepT.map {k : List KY} {v : V} {d : D} (r : RepV K φ H v d) : ∀ {vs : List (List Key × V)} {ds : List (List KY × D)}, RepT K φ H vs ds → RepT K φ H (vs.map fun p => if p.1 = k.map kyV then (p.1, v) else p) (ds.map fun p => if p.1 = k then (p.1, d) else p)
  | _, _, .nil => .nil
  | _, _, .cons (k := j) a b => by
    rw [List.map_cons, List.map_cons]
    by_cases h : j = k
    · subst h
      rw [if_pos rfl, if_pos rfl]; exact .cons r (RepT.map r b)
    · rw [if_neg (fun e => h (kyVs_inj e)), if_neg h]; exact .cons a (RepT.map r b)
theorem RepK.snoc {k : KY} {v : V} {d : D} (r : RepV K φ H v d) : ∀ {vs : List (Key × V)} {ds : List (List KY × D)}, RepK K φ H vs ds → RepK K φ H (vs ++ [(kyV k, v)]) (ds ++ [([k], d)])
  | _, _, .nil => .cons r .nil
  | _, _, .cons a b => .cons a (RepK.snoc r b)
theorem RepT.snoc {k : List KY} {v : V} {d : D} (r : RepV K φ H v d) : ∀ {vs : List (List Key × V)} {ds : List (List KY × D)}, RepT K φ H vs ds → RepT K φ H (vs ++ [(k.map kyV, v)]) (ds ++ [(k, d)])
  | _, _, .nil => .cons r .nil
  | _, _, .cons a b => .cons a (RepT.snoc r b)
theorem RepK.put {k : KY} {v : V} {d : D} (r : RepV K φ H v d) {vs : List (Key × V)} {ds : List (List KY × D)} (h : RepK K φ H vs ds) : RepK K φ H (putK vs (kyV k) v) (putD ds [k] d) := by
  unfold putK putD
  rw [RepK.any h]
  split
  · exact RepK.map r h
  · exact RepK.snoc r h
theorem RepT.put {k : List KY} {v : V} {d : D} (r : RepV K φ H v d) {vs : List (List Key × V)} {ds : List (List KY × D)} (h : RepT K φ H vs ds) : RepT K φ H (putK vs (k.map kyV) v) (putD ds k d) := by
  unfold putK putD
  rw [RepT.any h]
  split
  · exact RepT.map r h
  · exact RepT.snoc r h
theorem RepF.put {f : String} {v : V} {d : D} (r : RepV K φ H v d) : ∀ {vs : List (Str × V)} {ds : List (String × D)}, RepF K φ H vs ds → RepF K φ H (putF (Str.ofString f) v vs) (putFD f d ds)
  | _, _, .nil => .cons r .nil
  | _, _, .cons (f := g) a b => by
    unfold putF putFD
    by_cases h : g = f
    · subst h
      rw [if_pos rfl, if_pos rfl]; exact .cons r b
    · rw [if_neg (fun e => h (ofS_inj e)), if_neg h]; exact .cons a (RepF.put r b)
end
structure Sim (K : PySem.W.Frag) (φ : Wd) (H : Hp) (st : Store) : Prop where
  len : φ.c.length = st.length
  nd : φ.c.Nodup
  cell : ∀ (k : Nat) (p : Addr) (c : Cell), φ.c[k]? = some p → st[k]? = some c → RepC K φ H p c
  frz : ∀ p, φ.F p → p ∉ φ.c ∧ ∃ u, H p = some u

def Opn : Option HO → Prop
  | some (.lst _) => True
  | some (.dK _) => True
  | some (.dT _) => True
  | some (.ins _ _ _) => True
  | _ => False
section
variable {K : PySem.W.Frag} {φ φ' : Wd} {H H' : Hp} {st : Store}
theorem RepC.opn {p : Addr} {c : Cell} (h : RepC K φ H p c) : Opn (H p) := by
  cases c with
  | lst ds => obtain ⟨vs, e, _⟩ := h; rw [e]; trivial
  | dict t kvs =>
    cases t with
    | false => obtain ⟨vs, e, _⟩ := h; rw [e]; trivial
    | true => obtain ⟨vs, e, _⟩ := h; rw [e]; trivial
  | ins _ _ => obtain ⟨dx, vs, e, _⟩ := h; rw [e]; trivial
theorem RepC.ext {p : Addr} {c : Cell} (e : Ext0 K φ H φ' H') (hp : H' p = H p) (h : RepC K φ H p c) : RepC K φ' H' p c := by
  cases c with
  | lst ds => obtain ⟨vs, e', r⟩ := h; exact ⟨vs, hp.trans e', r.ext0 e⟩
  | dict t kvs =>
    cases t with
    | false => obtain ⟨vs, e', r⟩ := h; exact ⟨vs, hp.trans e', r.ext0 e⟩
    | true => obtain ⟨vs, e', r⟩ := h; exact ⟨vs, hp.trans e', r.ext0 e⟩
  | ins _ _ => obtain ⟨dx, vs, e', r⟩ := h; exact ⟨dx, vs, hp.trans e', r.ext0 e⟩
theorem Sim.opn (s : Sim K φ H st) {p : Addr} (hp : p ∈ φ.c) : Opn (H p) := by
  obtain ⟨k, hk, e⟩ := List.getElem_of_mem hp
  have hk' : k < st.length := by rw [← s.len]; exact hk
  exact (s.cell k p st[k] (by rw [List.getElem?_eq_getElem hk, e]) (List.getElem?_eq_getElem hk')).opn
theorem Sim.at_ (s : Sim K φ H st) {k : Nat} {p : Addr} (hk : φ.c[k]? = some p) : ∃ c, st[k]? = some c ∧ RepC K φ H p c := by
  obtain ⟨h, e⟩ := List.getElem?_eq_some_iff.mp hk
  have hk' : k < st.length := by rw [← s.len]; exact h
  exact ⟨st[k], List.getElem?_eq_getElem hk', s.cell k p _ hk (List.getElem?_eq_getElem hk')⟩
theorem sqT_upd {p q : Addr} {vs : List V} {o : HO} (h : SqT K H q vs) (hp : ∀ vs, H p ≠ some (.tup vs)) (hf : ∀ o u, H p ≠ some (.frz o u)) : SqT K (upd H p o) q vs := by
  rcases h with (h | ⟨o', h⟩) | h
  · refine .inl (.inl ?_)
    rw [upd_ne (fun (e : q = p) => hp vs (e ▸ h))]; exact h
  · refine .inl (.inr ⟨o', ?_⟩)
    rw [upd_ne (fun (e : q = p) => hf o' (.tup vs) (e ▸ h))]; exact h
  · exact .inr h
theorem rdL_upd {p q : Addr} {vs : List V} {o : HO} (h : Rd H q (.lst vs)) (hq : q ≠ p) : Rd (upd H p o) q (.lst vs) := by
  rcases h with h | ⟨o', h⟩
  · exact .inl (by rw [upd_ne hq]; exact h)
  · exact .inr ⟨o', by rw [upd_ne hq]; exact h⟩
theorem rd_ne {p q : Addr} {u : HO} (h : Rd H q u) (hn : H p = none) : q ≠ p := by
  rintro rfl
  rcases h with h | ⟨o', h⟩ <;> rw [hn] at h <;> cases h
theorem sqT_new {p q : Addr} {vs : List V} {o : HO} (hn : H p = none) (h : SqT K H q vs) : SqT K (upd H p o) q vs :=
  sqT_upd h (fun vs e => by rw [hn] at e; cases e) (fun _ _ e => by rw [hn] at e; cases e)
/-- a list that is neither a cell nor frozen is put otherwise -/
theorem Ext0.own {p : Addr} {xs : List V} {o : HO} (hH : H p = some (.lst xs)) (hf : ¬ φ.F p) : Ext0 K φ H φ (upd H p o) :=
  ⟨fun _ _ h => h, fun q vs h => sqT_upd h (fun vs e => by rw [hH] at e; cases e) (fun _ _ e => by rw [hH] at e; cases e),
    fun q vs h h' => ⟨by rw [upd_ne (fun (e : q = p) => hf (e ▸ h'))]; exact h, h'⟩⟩
/-- a new object that is no cell -/
theorem kept_new {p q : Addr} {o u : HO} (hn : H p = none) (h : H q = some u) : upd H p o q = some u := by
  rw [upd_ne (ne_of_none h hn)]; exact h
theorem dom_upd {p q : Addr} {o : HO} (h : upd H p o q = none) : H q = none := by
  unfold upd at h
  split at h
  · cases h
  · exact h
theorem Ext.fresh {p : Addr} {o : HO} (hn : H p = none) : Ext K φ H φ (upd H p o) :=
  ⟨⟨fun _ _ h => h, fun q vs h => sqT_new hn h, fun q vs h h' => ⟨kept_new hn h, h'⟩⟩, fun q u h _ => kept_new hn h, fun _ h h' => absurd h h', fun _ h h' => absurd h h', fun _ h => dom_upd h⟩
theorem Sim.fresh (s : Sim K φ H st) {p : Addr} (hn : H p = none) : p ∉ φ.c := fun hp => by
  have := s.opn hp
  rw [hn] at this; exact this
theorem Sim.freshF (s : Sim K φ H st) {p : Addr} (hn : H p = none) : ¬ φ.F p := fun hp => by
  obtain ⟨_, vs, h⟩ := s.frz p hp
  rw [hn] at h; cases h
/-- the heap goes on, the cells' own objects as they were -/
theorem Sim.step (s : Sim K φ H st) (e : Ext0 K φ H φ H') (h : ∀ p ∈ φ.c, H' p = H p) : Sim K φ H' st :=
  ⟨s.len, s.nd, fun k q c hk hc => (s.cell k q c hk hc).ext e (h q (List.mem_of_getElem? hk)), fun p hp => by
    obtain ⟨h1, vs, h2⟩ := s.frz p hp
    exact ⟨h1, vs, (e.lst p vs h2 hp).1⟩⟩
theorem Sim.new (s : Sim K φ H st) {p : Addr} {o : HO} (hn : H p = none) : Sim K φ (upd H p o) st :=
  s.step (Ext.fresh hn).toExt0 fun q hq => upd_ne (fun (e : q = p) => s.fresh hn (e ▸ hq))
theorem Sim.own (s : Sim K φ H st) {p : Addr} {xs : List V} {o : HO} (hH : H p = some (.lst xs)) (hf : ¬ φ.F p) (hc : p ∉ φ.c) : Sim K φ (upd H p o) st :=
  s.step (Ext0.own hH hf) fun q hq => upd_ne (fun (e : q = p) => hc (e ▸ hq))
/-- a list that is neither is frozen -/
theorem Ext0.freeze {p : Addr} : Ext0 K φ H (φ.frz p) H :=
  ⟨fun _ _ h => h, fun _ _ h => h, fun q vs h h' => ⟨h, .inl h'⟩⟩
theorem Ext.frz (e : Ext K φ H φ' H') {p : Addr} (hn : H p = none) : Ext K φ H (φ'.frz p) H' :=
  ⟨⟨e.pre, e.tup, fun q vs h h' => ⟨(e.lst q vs h h').1, .inl (e.lst q vs h h').2⟩⟩, e.keep, e.new, fun q h h' => by
    rcases h with h | h
    · exact e.newF q h h'
    · rw [h]; exact hn, e.dom⟩
theorem Sim.freeze (s : Sim K φ H st) {p : Addr} {u : HO} (hc : p ∉ φ.c) (h : Rd H p u) : Sim K (φ.frz p) H st :=
  ⟨s.len, s.nd, fun k q c hk hc => (s.cell k q c hk hc).ext Ext0.freeze rfl, fun q hq => by
    rcases hq with hq | hq
    · exact s.frz q hq
    · rw [hq]; exact ⟨hc, h.elim (fun z => ⟨_, z⟩) fun ⟨_, z⟩ => ⟨_, z⟩⟩⟩
/-- a new object that is a cell -/
theorem Ext.cell {p : Addr} {o : HO} (hn : H p = none) : Ext K φ H (φ.add p) (upd H p o) :=
  ⟨⟨fun k q h => by
    show (φ.c ++ [p])[k]? = some q
    rw [List.getElem?_append_left (List.getElem?_eq_some_iff.mp h).1]; exact h, fun q vs h => sqT_new hn h, fun q vs h h' => ⟨kept_new hn h, h'⟩⟩,
    fun q u h _ => kept_new hn h, fun q h h' => by
      rcases List.mem_append.mp (show q ∈ φ.c ++ [p] from h) with hm | hm
      · exact absurd hm h'
      · have : q = p := by simpa using hm
        rw [this]; exact hn, fun _ h h' => absurd h h', fun _ h => dom_upd h⟩
theorem Sim.cellNew (s : Sim K φ H st) {p : Addr} {o : HO} {c : Cell} (hn : H p = none) (h : RepC K (φ.add p) (upd H p o) p c) : Sim K (φ.add p) (upd H p o) (st ++ [c]) := by
  refine ⟨?_, ?_, fun k q c' hk hc => ?_, fun q hq => ?_⟩
  · show (φ.c ++ [p]).length = _
    rw [List.length_append, List.length_append, s.len]; rfl
  · show (φ.c ++ [p]).Nodup
    rw [List.nodup_append]
    refine ⟨s.nd, by simp, fun a ha b hb => ?_⟩
    have : b = p := by simpa using hb
    subst this
    rintro rfl
    exact s.fresh hn ha
  · have hk : (φ.c ++ [p])[k]? = some q := hk
    by_cases hlt : k < φ.c.length
    · rw [List.getElem?_append_left hlt] at hk
      rw [List.getElem?_append_left (by rw [← s.len]; exact hlt)] at hc
      exact (s.cell k q c' hk hc).ext (Ext.cell hn).toExt0 (upd_ne (fun (e : q = p) => s.fresh hn (e ▸ List.mem_of_getElem? hk)))
    · have hk2 : k = φ.c.length := by
        have := (List.getElem?_eq_some_iff.mp hk).1
        rw [List.length_append] at this
        simp at this; omega
      subst hk2
      rw [List.getElem?_append_right (Nat.le_refl _)] at hk
      rw [s.len, List.getElem?_append_right (Nat.le_refl _)] at hc
      simp at hk hc
      subst hk; subst hc
      exact h
  · obtain ⟨h1, vs, h2⟩ := s.frz q hq
    refine ⟨?_, vs, kept_new hn h2⟩
    show q ∉ φ.c ++ [p]
    rw [List.mem_append]
    rintro (hm | hm)
    · exact h1 hm
    · exact ne_of_none h2 hn (by simpa using hm)
/-- a cell is changed -/
theorem Ext.put (s : Sim K φ H st) {k : Nat} {p : Addr} {o : HO} (hk : φ.c[k]? = some p) : Ext K φ H φ (upd H p o) := by
  have hp : p ∈ φ.c := List.mem_of_getElem? hk
  have ho := s.opn hp
  exact ⟨⟨fun _ _ h => h, fun q vs h => sqT_upd h (fun vs e => by rw [e] at ho; exact ho) (fun _ _ e => by rw [e] at ho; exact ho),
    fun q vs h h' => ⟨by rw [upd_ne (fun (e : q = p) => (s.frz q h').1 (e ▸ hp))]; exact h, h'⟩⟩, fun q u h hn => by rw [upd_ne (fun (e : q = p) => hn (e ▸ hp))]; exact h, fun _ h h' => absurd h h', fun _ h h' => absurd h h', fun _ h => dom_upd h⟩
theorem nodup_at {l : List Addr} (nd : l.Nodup) {i j : Nat} {p : Addr} (hi : l[i]? = some p) (hj : l[j]? = some p) : i = j := by
  obtain ⟨h1, e1⟩ := List.getElem?_eq_some_iff.mp hi
  obtain ⟨h2, e2⟩ := List.getElem?_eq_some_iff.mp hj
  exact (List.getElem_inj nd).mp (e1.trans e2.symm)
theorem Sim.put (s : Sim K φ H st) {k : Nat} {p : Addr} {o : HO} {c : Cell} (hk : φ.c[k]? = some p) (h : RepC K φ (upd H p o) p c) : Sim K φ (upd H p o) (st.set k c) := by
  refine ⟨by rw [List.length_set]; exact s.len, s.nd, fun j q c' hj hc => ?_, fun q hq => ?_⟩
  · by_cases e : k = j
    · subst e
      rw [hk] at hj; cases hj
      rw [List.getElem?_set_self (by rw [← s.len]; exact (List.getElem?_eq_some_iff.mp hk).1)] at hc
      cases hc
      exact h
    · rw [List.getElem?_set_ne e] at hc
      exact (s.cell j q c' hj hc).ext (Ext.put s hk).toExt0 (upd_ne (fun (z : q = p) => e (nodup_at s.nd hk (z ▸ hj))))
  · obtain ⟨h1, vs, h2⟩ := s.frz q hq
    exact ⟨h1, vs, ((Ext.put s hk).lst q vs h2 hq).1⟩
end

/-! ### slots -/
structure RepS (K : PySem.W.Frag) (φ : Wd) (H : Hp) (σ : St) (τ : Slots) : Prop where
  len : σ.length = τ.length
  at_ : ∀ (i : Nat) (d : D), τ[i]? = some (some d) → ∃ v, σ[i]? = some (some v) ∧ RepV K φ H v d
section
variable {K : PySem.W.Frag} {φ φ' : Wd} {H H' : Hp} {σ : St} {τ : Slots}
theorem RepS.ext0 (r : RepS K φ H σ τ) (e : Ext0 K φ H φ' H') : RepS K φ' H' σ τ := ⟨r.len, fun i d h => let ⟨v, a, b⟩ := r.at_ i d h; ⟨v, a, b.ext0 e⟩⟩
theorem RepS.ext (r : RepS K φ H σ τ) (e : Ext K φ H φ' H') : RepS K φ' H' σ τ := ⟨r.len, fun i d h => let ⟨v, a, b⟩ := r.at_ i d h; ⟨v, a, b.ext e⟩⟩
theorem RepS.set (r : RepS K φ H σ τ) {v : V} {d : D} (h : RepV K φ H v d) (i : Nat) : RepS K φ H (σ.set i (some v)) (τ.set i (some d)) := by
  refine ⟨by rw [List.length_set, List.length_set]; exact r.len, fun j d' hj => ?_⟩
  by_cases e : i = j
  · subst e
    have hlt : i < τ.length := by
      have := (List.getElem?_eq_some_iff.mp hj).1
      rwa [List.length_set] at this
    rw [List.getElem?_set_self hlt] at hj
    cases hj
    exact ⟨v, by rw [List.getElem?_set_self (by rw [r.len]; exact hlt)], h⟩
  · rw [List.getElem?_set_ne e] at hj
    rw [List.getElem?_set_ne e]
    exact r.at_ j d' hj
theorem RepS.setNone (r : RepS K φ H σ τ) (i : Nat) : RepS K φ H (σ.set i none) (τ.set i none) := by
  refine ⟨by rw [List.length_set, List.length_set]; exact r.len, fun j d' hj => ?_⟩
  by_cases e : i = j
  · subst e
    have hlt : i < τ.length := by
      have := (List.getElem?_eq_some_iff.mp hj).1
      rwa [List.length_set] at this
    rw [List.getElem?_set_self hlt] at hj
    cases hj
  · rw [List.getElem?_set_ne e] at hj
    rw [List.getElem?_set_ne e]
    exact r.at_ j d' hj
theorem RepS.wipe (r : RepS K φ H σ τ) : ∀ vs : List Nat, RepS K φ H (L2.wipe σ vs) (PC.wipe τ vs)
  | [] => r
  | v :: vs => (RepS.wipe r vs).setNone v
end

/-! ### what is wanted of a result -/
/-- W: what is wanted of an exception -/
abbrev WD := D → St → Hp → Prop
def Post {α β : Type} (K : PySem.W.Frag) (R : Wd → Hp → β → α → Prop) (W : Wd → Hp → Store → D → Prop) (φ : Wd) (H : Hp) (r : Res α) (Q : β → Hp → Prop) : Prop :=
  match r with
  | .ok d st => ∀ φ' H' v, Ext K φ H φ' H' → Sim K φ' H' st → R φ' H' v d → Q v H'
  | .exc d st => ∀ φ' H', Ext K φ H φ' H' → Sim K φ' H' st → W φ' H' st d
  | .err => False
theorem Post.ext {α β : Type} {K : PySem.W.Frag} {R : Wd → Hp → β → α → Prop} {W : Wd → Hp → Store → D → Prop} {φ φ' : Wd} {H H' : Hp} {r : Res α} {Q : β → Hp → Prop} (h : Post K R W φ H r Q) (e : Ext K φ H φ' H') : Post K R W φ' H' r Q := by
  cases r with
  | ok d st => exact fun φ2 H2 v e2 => h φ2 H2 v (e.trans e2)
  | exc d st => exact fun φ2 H2 e2 => h φ2 H2 (e.trans e2)
  | err => exact h
/-- first r, then f -/
theorem Post.bind {α α' β β' : Type} {K : PySem.W.Frag} {R : Wd → Hp → β → α → Prop} {R' : Wd → Hp → β' → α' → Prop} {W : Wd → Hp → Store → D → Prop} {φ : Wd} {H : Hp} {r : Res α} {f : α → Store → Res α'}
    {Q : β' → Hp → Prop} {Q1 : β → Hp → Prop} (h : Post K R' W φ H (r.bind f) Q)
    (k : ∀ x st φ1 H1 v, Ext K φ H φ1 H1 → Sim K φ1 H1 st → R φ1 H1 v x → Post K R' W φ1 H1 (f x st) Q → Q1 v H1) : Post K R W φ H r Q1 := by
  cases r with
  | ok d st => exact fun φ1 H1 v e s rv => k d st φ1 H1 v e s rv (Post.ext h e)
  | exc d st => exact h
  | err => exact h
end PC
end
section
set_option Elab.async false
set_option linter.all false
set_option autoImplicit false
set_option maxRecDepth 100000
set_option maxHeartbeats 2000000
/-! A caught exception that outlives its suite. -/
namespace PC
open PySem PySem.Spec L2 PyProof.Rows
theorem caO_ok {P : Program} {w : World} {H : Hp} {h : Heap} {a : Addr} {cls : Value} {d : Option Addr} {oe : Obj} {vs : Array Value} (e : h.get? a = some oe) (z : Zc cls d oe) (q : oe.data = .fields vs) : ObjOk P w H h a (CaO cls d a) :=
  ⟨⟨oe, vs, e, z, q⟩, ⟨oe, e⟩, fun _ _ ⟨o, v, q, r⟩ k => ⟨o, v, k o q, r⟩⟩
section
variable {X : Cx} {pins : List (Addr × Obj)} {σ : L2.St} {H : Hp} {s : Shared}
/-- an object that is new since the def began, and known to no one, is tracked from now on -/
theorem track (I : Inv X pins σ H s) {a : Addr} {o : HO} (n0 : X.s_0.heap.get? a = none) (na : H a = none) (nL : a ≠ X.env.locals) (nC : ∀ x c, X.env.cells.lookup x = some c → c ≠ a) (nP : ∀ p ∈ X.pn ++ pins, p.1 ≠ a) (ho : ObjOk X.prog X.w (upd H a o) s.heap a o) : Inv X pins σ (upd H a o) s := by
  have n1 : ∀ b u, X.s_0.heap.get? b = some u → b ≠ a := fun b u e z => by rw [z, n0] at e; cases e
  have n2 : ∀ b u, H b = some u → b ≠ a := fun b u e z => by rw [z, na] at e; cases e
  refine ⟨I.ok, I.os, I.bare, ⟨I.base.keep, I.base.slot, fun b u e n hx => ?_, I.base.there, fun b xs e => ?_, fun b u v e => ?_, fun b ps e => ?_⟩, I.loc, I.cell, ?_, fun x c e => ?_, fun p hp => ?_, fun b u e => ?_, I.len⟩
  · rw [upd_ne (n1 b u e)]; exact I.base.free b u e n hx
  · have q := I.base.tups b xs e
    rw [upd_ne (n2 b _ q)]; exact q
  · have q := I.base.frzs b u v e
    rw [upd_ne (n2 b _ q)]; exact q
  · obtain ⟨m, q⟩ := I.base.tbls b ps e
    exact ⟨m, by rw [upd_ne (n2 b _ q)]; exact q⟩
  · rw [upd_ne (Ne.symm nL)]; exact I.free
  · rw [upd_ne (nC x c e)]; exact I.freeC x c e
  · obtain ⟨h1, h2, h3, h4, h5⟩ := I.pin p hp
    exact ⟨h1, by rw [upd_ne (nP p hp)]; exact h2, h3, h4, h5⟩
  · by_cases hb : b = a
    · subst hb
      rw [upd_same] at e
      cases e
      exact ho
    · rw [upd_ne hb] at e
      exact (I.hok b u e).stay (fun c v _ q => q) (fun c q => by rw [upd_ne (n2 c _ q)]; exact q) fun c xs q => by rw [upd_ne (n2 c _ q)]; exact q
end
/-- what 'except x as n' wishes of an exception of the body, when the exception is kept beyond the suite: slot i is n's -/
def wAsK (K : PySem.W.Frag) (c : Value) (i : Nat) (ts : Addr → Value → Option Addr → TS) (D : Ends) : WX := fun cls d σ H =>
  PySem.W.exmOne K cls c = some true ∧ ∀ a, H a = none → ts a cls d { nx := fun σ' H' => H' a = none → D.nx (σ'.set i none) (upd H' a (CaO cls d a)), rt := fun _ _ => False, bk := fun _ _ => False, ct := fun _ _ => False } (σ.set i (some (.ref a))) H
section
variable {X : Cx} {x n : Str} {c : Value} {i : Nat} {body suite : List Stmt} {b₀ : Stmt} {np pos pos' : Pos} {tb : WX → TS} {ts : Addr → Value → Option Addr → TS}
theorem ps_try_keep (hs : X.stack = X.env :: X.outer) (hf : X.env.frame = some X.env.locals) (hN : X.N.Nodup) (hi : X.N[i]? = some n) (hln : X.env.kindOf n = some .local) (hc : Names X x c) (hex : X.ex = [])
    (hb : ∀ (W : WX) (pn : List (Addr × Obj)) (xe : Value → Shared → Prop), Takes (X.tr pn xe) W → PassesOwn (model X.prog X.w) X.A X.env xe → PSs (X.tr pn xe) body (tb W))
    (hsu : ∀ (a : Addr) (oe : Obj) (cls : Value) (d : Option Addr) (pn : List (Addr × Obj)), Zc cls d oe → (∃ vs, oe.data = .fields vs) → PSs (X.suite a ((a, oe) :: pn)) (b₀ :: suite) (ts a cls d)) :
    PS X (.Try body [.ExceptHandler (some (.Name x np)) (some n) (b₀ :: suite) pos'] [] [] pos) (fun D σ H => tb (wAsK X.K c i ts D) D σ H) := by
  refine ⟨fun pins s σ H D I h => ?_⟩
  have ok := I.ok
  have hfr : X.A.frames = some (X.env :: X.outer) := by rw [ok.frames, hs]
  have hloc : Loc X.env.scope n := .inl hln
  refine wpAny_Try_except ?_
  refine wpAny_mono ((hb (wAsK X.K c i ts D) (X.pn ++ pins) (fun e s₁ => wpAny (model X.prog X.w) X.A (noteFrame e X.env) (fun _ s₂ => wpAny (model X.prog X.w) X.A (setFlight e none) (fun _ s₃ =>
    wpAny (model X.prog X.w) X.A (handleBy e X.env [.ExceptHandler (some (.Name x np)) (some n) (b₀ :: suite) pos']) (SP X pins D) X.xe s₃) X.xe s₂) X.xe s₁) (fun u s' xx => ?_) PassesOwn.looking).run [] s σ H D (I.toTry _) h) (fun f s1 hsp => ?_) (fun e s1 he => he)
  · obtain ⟨a, B, sI, pins', σ', H', cls, d, rfl, J', nb, up, sky, na, os, ag, hb1, hyes⟩ := xx
    have J : Inv X pins σ' H' sI := J'.ofTry ok
    have sky' : Sky B (X.env :: X.outer) a (Zc cls d) X.env.locals s'.heap := by rw [← hs]; exact sky
    show wpAny (model X.prog X.w) X.A (noteFrame (.ref a) X.env) _ _ _
    refine Sky.land Zc.steady hfr hf sky' fun h3 fl3 up3 => ?_
    obtain ⟨oe3, vs3, he3, hz3, hd3⟩ := fl3.there
    have J3 : Inv X pins σ' H' { s' with heap := h3 } := J.landed nb fl3.1 (up.trans up3) os ag
    have nfr : a ∉ frs (X.env :: X.outer) := fun hm => by
      obtain ⟨_, o', e', hnf⟩ := fl3.2.2.1.mem hm
      rw [he3] at e'; cases e'
      exact hnf _ hd3
    have nL : a ≠ X.env.locals := fun z => nfr (List.mem_filterMap.mpr ⟨X.env, List.mem_cons_self, by rw [hf, z]⟩)
    have nF : a ∉ X.fs := fun hm => by
      obtain ⟨e, he, q⟩ := List.mem_filterMap.mp hm
      exact nfr (List.mem_filterMap.mpr ⟨e, List.mem_cons_of_mem _ he, q⟩)
    have nB : B.get? a = none := fl3.2.1
    have nI : sI.heap.get? a = none := by
      cases e : sI.heap.get? a with
      | none => rfl
      | some o => rw [nb a o e (by rw [hs]; exact nfr)] at nB; cases nB
    have n0 : X.s_0.heap.get? a = none := by
      cases e : X.s_0.heap.get? a with
      | none => rfl
      | some o =>
        obtain ⟨o', q⟩ := J.base.there a o e (by rw [hex]; exact fun z => nomatch z)
        rw [nI] at q; cases q
    have nC : ∀ x c, X.env.cells.lookup x = some c → c ≠ a := fun x c e z => by
      obtain ⟨v, o, ho, _⟩ := J.cell x c e
      rw [z, nI] at ho; cases ho
    have nP : ∀ p ∈ X.pn ++ pins, p.1 ≠ a := fun p hp z => by
      have q := (J.pin p hp).1
      rw [z, nI] at q; cases q
    have S3 := J3.suite he3 hd3 na nL nF
    refine wpAny_handleBy_cons (codeAny_handlers_test ?_) (by intro q; cases q)
    have LT : PySem.W.Looks (model X.prog X.w) h3 (typeOf (.ref a)) cls := fun A Q E s k q => wpAny_typeOf_ref (k _ _ he3) (by rw [hz3.1]; exact q)
    have LM := PySem.W.exm_one (M := model X.prog X.w) (J3.kIn) LT hb1
    have test : ∀ {Q : Value → Shared → Prop} {E : Value → Shared → Prop}, Q c { s' with heap := h3 } → wpAny (model X.prog X.w) (X.A.mark (some (.ref a))) (eval (.Name x np) X.env) Q E { s' with heap := h3 } := fun {Q E} q => by
      obtain ⟨hg, hdbg, hm | ⟨hm, hv, hnn⟩⟩ := hc
      · exact ld_glob (X := X.suite a ((a, oe3) :: (X.pn ++ pins))) S3 hg hm q hdbg
      · exact ld_blt (X := X.suite a ((a, oe3) :: (X.pn ++ pins))) S3 hg hm hv q hnn hdbg
    refine test (LM.here ?_)
    refine codeAny_handlers_suite_as ?_
    refine HandSPX.lands_againZ fl3 fun h4 fl4 up4 => ?_
    have J4 : Inv X pins σ' H' { s' with heap := h4 } := J.landed nb fl4.1 ((up.trans up3).trans up4) os ag
    obtain ⟨oe4, vs4, he4, hz4, hd4⟩ := fl4.there
    have S4 := J4.suite he4 hd4 na nL nF
    refine store_ok (X := X.suite a ((a, oe4) :: (X.pn ++ pins))) (v := .ref a) S4 hN hi hloc rfl (fun s5 S5 => ?_) (.inr hln)
    refine wpAny_mono ((hsu a oe4 cls d (X.pn ++ pins) hz4 ⟨_, hd4⟩).run [] s5 _ H' _ S5 (hyes a na)) (fun f s6 hsp => ?_) (fun _ _ z => False.elim z)
    cases f with
    | next =>
      obtain ⟨σ6, H6, S6, q6⟩ := hsp
      refine gone_ok (X := X.suite a ((a, oe4) :: (X.pn ++ pins))) S6 hN hi hln fun s7 S7 => ?_
      obtain ⟨p1, p2, _⟩ := S7.pin (a, oe4) (List.mem_append_left _ List.mem_cons_self)
      have J7 : Inv X pins (σ6.set i none) H6 s7 := S7.unsuite ok
      exact ⟨_, _, track J7 n0 p2 nL nC nP (caO_ok p1 hz4 hd4), q6 p2⟩
    | brk =>
      obtain ⟨σ6, H6, S6, q6⟩ := hsp
      exact False.elim q6
    | cont =>
      obtain ⟨σ6, H6, S6, q6⟩ := hsp
      exact False.elim q6
    | ret u =>
      obtain ⟨v6, σ6, H6, S6, r6, q6⟩ := hsp
      exact False.elim q6
  · cases f with
    | next =>
      obtain ⟨σ', H', J', q⟩ := hsp
      exact wpAny_execs_nil ⟨σ', H', J'.ofTry ok, q⟩
    | brk =>
      obtain ⟨σ', H', J', q⟩ := hsp
      exact ⟨σ', H', J'.ofTry ok, q⟩
    | cont =>
      obtain ⟨σ', H', J', q⟩ := hsp
      exact ⟨σ', H', J'.ofTry ok, q⟩
    | ret u =>
      obtain ⟨v, σ', H', J', r, q⟩ := hsp
      exact ⟨v, σ', H', J'.ofTry ok, r, q⟩
end
end PC
end
section
set_option Elab.async false
set_option linter.all false
set_option autoImplicit false
set_option maxRecDepth 100000
set_option maxHeartbeats 1000000
/-! The core's operators, kept by the model. -/
namespace PC
open PySem L2 PyProof.Rows

abbrev RV (K : PySem.W.Frag) : Wd → Hp → V → D → Prop := fun φ H v d => RepV K φ H v d
abbrev noW : Wd → Hp → Store → D → Prop := fun _ _ _ _ => False
abbrev PostV (K : PySem.W.Frag) (φ : Wd) (H : Hp) (r : Res D) (Q : VK) : Prop := Post K (RV K) noW φ H r Q
abbrev PostB (K : PySem.W.Frag) (φ : Wd) (H : Hp) (r : Res Bool) (Q : VK) : Prop := Post K (fun _ _ v b => v = V.bl b) noW φ H r Q
theorem gd_ok {α β : Type} {K : PySem.W.Frag} {R : Wd → Hp → β → α → Prop} {W : Wd → Hp → Store → D → Prop} {φ : Wd} {H : Hp} {r : Res α} {Q : β → Hp → Prop} {p : Prop} [Decidable p] (h : Post K R W φ H (gd p r) Q) :
    p ∧ Post K R W φ H r Q := by
  unfold gd at h
  by_cases hp : p
  · rw [if_pos hp] at h; exact ⟨hp, h⟩
  · rw [if_neg hp] at h; exact False.elim h
theorem ok_here {K : PySem.W.Frag} {W : Wd → Hp → Store → D → Prop} {φ : Wd} {H : Hp} {d : D} {st : Store} {Q : VK} {v : V} (h : Post K (RV K) W φ H (.ok d st) Q) (s : Sim K φ H st) (r : RepV K φ H v d) : Q v H := h φ H v Ext.refl s r
theorem line_eq : lineN = sizeLine := by rw [sizeLine_eq]; rfl
/-- a new tuple -/
theorem ok_tup {K : PySem.W.Frag} {W : Wd → Hp → Store → D → Prop} {φ : Wd} {H : Hp} {ds : List D} {vs : List V} {st : Store} {Q : VK} (h : Post K (RV K) W φ H (.ok (.tup ds) st) Q) (s : Sim K φ H st) (r : RepVs K φ H vs ds) : ∀ p, H p = none → Q (.ref p) (upd H p (.tup vs)) :=
  fun p hp => h φ _ _ (Ext.fresh hp) (s.new hp) (.tup (.of upd_same) (r.ext (Ext.fresh hp)))
/-- a new list -/
theorem ok_lst {K : PySem.W.Frag} {W : Wd → Hp → Store → D → Prop} {φ : Wd} {H : Hp} {ds : List D} {vs : List V} {st : Store} {Q : VK} (h : Post K (RV K) W φ H (.ok (.lst ds) st) Q) (s : Sim K φ H st) (r : RepVs K φ H vs ds) : ∀ p, H p = none → Q (.ref p) (upd H p (.lst vs)) :=
  fun p hp => h (φ.frz p) _ _ ((Ext.fresh hp).frz hp) ((s.new hp).freeze (s.fresh hp) (.of upd_same)) (.lst ⟨.of upd_same, .inr rfl⟩ (r.ext ((Ext.fresh hp).frz hp)))

/-- a value that is a list, wherever it stands -/
theorem list_at {K : PySem.W.Frag} {φ : Wd} {H : Hp} {st : Store} {v : V} {d : D} {ds : List D} (s : Sim K φ H st) (r : RepV K φ H v d) (e : deref st d = .lst ds) : ∃ p vs, v = .ref p ∧ SqL K H p vs ∧ RepVs K φ H vs ds := by
  cases r with
  | lst h b => cases e; exact ⟨_, _, rfl, h.sq, b⟩
  | @ref p k hk =>
    obtain ⟨c, hc, rc⟩ := s.at_ hk
    simp only [deref, hc] at e
    cases c with
    | lst xs => cases e; obtain ⟨vs, h, b⟩ := rc; exact ⟨_, vs, rfl, .inl (.inl h), b⟩
    | _ => cases e
  | scr h b => cases e; exact ⟨_, _, rfl, h.sq, b⟩
  | _ => cases e
theorem list_atB {K : PySem.W.Frag} {φ : Wd} {H : Hp} {st : Store} {v : V} {d : D} {ds : List D} (s : Sim K φ H st) (r : RepV K φ H v d) (e : derefB st d = .lst ds) : ∃ p vs, v = .ref p ∧ Rd H p (.lst vs) ∧ RepVs K φ H vs ds := by
  cases r with
  | lst h b => cases e; exact ⟨_, _, rfl, h.1, b⟩
  | @ref p k hk =>
    obtain ⟨c, hc, rc⟩ := s.at_ hk
    simp only [derefB, deref, hc] at e
    cases c with
    | lst xs => cases e; obtain ⟨vs, h, b⟩ := rc; exact ⟨_, vs, rfl, .inl h, b⟩
    | _ => cases e
  | _ => cases e
theorem derefB_of {st : Store} {d e : D} (h : derefB st d = e) (hs : ∀ xs, e ≠ .scr xs) : deref st d = e := by
  cases d with
  | scr xs => exact absurd h.symm (hs xs)
  | _ => exact h
theorem tup_at {K : PySem.W.Frag} {φ : Wd} {H : Hp} {st : Store} {v : V} {d : D} {ds : List D} (r : RepV K φ H v d) (e : deref st d = .tup ds) : ∃ p vs, v = .ref p ∧ SqT K H p vs ∧ RepVs K φ H vs ds := by
  cases r with
  | tup h b => cases e; exact ⟨_, _, rfl, h, b⟩
  | @ref p k hk =>
    simp only [deref] at e
    split at e <;> cases e
  | _ => cases e
theorem deref_flat {st : Store} {d : D} (h : ∀ xs, deref st d ≠ .lst xs) : deref st d = d := by
  cases d with
  | ref k =>
    cases e : st[k]? with
    | none => simp only [deref, e]
    | some c =>
      cases c with
      | lst xs => exact absurd (by simp only [deref, e]) (h xs)
      | _ => simp only [deref, e]
  | scr xs => exact absurd rfl (h xs)
  | _ => rfl
theorem str_at {K : PySem.W.Frag} {φ : Wd} {H : Hp} {st : Store} {v : V} {d : D} {s : List Nat} (r : RepV K φ H v d) (e : deref st d = .str s) : v = .str (sv s) := by
  have := deref_flat (st := st) (d := d) (by rw [e]; exact fun _ z => nomatch z)
  rw [this] at e; subst e; exact r.str_inv
theorem int_at {K : PySem.W.Frag} {φ : Wd} {H : Hp} {st : Store} {v : V} {d : D} {i : Int} (r : RepV K φ H v d) (e : deref st d = .int i) : v = .int i := by
  have := deref_flat (st := st) (d := d) (by rw [e]; exact fun _ z => nomatch z)
  rw [this] at e; subst e; exact r.int_inv

theorem int_atB {K : PySem.W.Frag} {φ : Wd} {H : Hp} {st : Store} {v : V} {d : D} {i : Int} (r : RepV K φ H v d) (e : derefB st d = .int i) : v = .int i := int_at r (derefB_of e (by intro z h; cases h))
theorem str_atB {K : PySem.W.Frag} {φ : Wd} {H : Hp} {st : Store} {v : V} {d : D} {s : List Nat} (r : RepV K φ H v d) (e : derefB st d = .str s) : v = .str (sv s) := str_at r (derefB_of e (by intro z h; cases h))
theorem tup_atB {K : PySem.W.Frag} {φ : Wd} {H : Hp} {st : Store} {v : V} {d : D} {ds : List D} (r : RepV K φ H v d) (e : derefB st d = .tup ds) : ∃ p vs, v = .ref p ∧ SqT K H p vs ∧ RepVs K φ H vs ds := tup_at r (derefB_of e (by intro z h; cases h))
section
variable {X : Cx}
def rB (K : PySem.W.Frag) (op : Operator) : R2 := fun x y H Q => ∃ φ st a b, Sim K φ H st ∧ RepV K φ H x a ∧ RepV K φ H y b ∧ PostV K φ H (binop op a b st) Q

theorem rdM {pins : List (Addr × Obj)} {s : Shared} {σ : L2.St} {H : Hp} {l : Addr} {xs : List V} (I : Inv X pins σ H s) (h : Rd H l (.lst xs)) : xs.length ≤ sizeLine ∧ ∃ (its : List Value) (n : Nat), Vals xs its ∧ s.heap.get? l = some { cls := .type "list", data := .seq its.toArray n } :=
  h.ok I.hok
theorem cat_lists : OpR X (binaryOp .Add) (fun x y H Q => ∃ l b xs zs, x = .ref l ∧ y = .ref b ∧ Rd H l (.lst xs) ∧ Rd H b (.lst zs) ∧ xs.length + zs.length ≤ sizeLine ∧ ∀ p, H p = none → Q (.ref p) (upd H p (.lst (xs ++ zs)))) := by
  rintro pins s σ H _ _ v u Q I rx ry ⟨l, b, xs, zs, rfl, rfl, h1, h2, hz, q⟩
  cases rx; cases ry
  obtain ⟨_, i1, n1, r1, e1⟩ := rdM I h1
  obtain ⟨_, i2, n2, r2, e2⟩ := rdM I h2
  have l1 := r1.length
  have l2 := r2.length
  refine PySem.P.add_list e1 e2 ?_ (by simp only [List.size_toArray]; omega)
  rw [List.append_toArray]
  have J := I.lnew (t' := s.toks) (r1.append r2) (by rw [List.length_append]; exact hz)
  exact ⟨V.ref _, _, J, rfl, q _ I.fresh⟩
theorem sv_append (a b : List Nat) : sv (a ++ b) = sv a ++ sv b := by
  show (⟨(a ++ b).toArray⟩ : Str) = ⟨a.toArray ++ b.toArray⟩
  rw [List.append_toArray]
theorem sv_length (a : List Nat) : (sv a).length = a.length := by show a.toArray.size = _; simp
theorem opAdd : OpR X (binaryOp .Add) (rB X.K .Add) := by
  rintro pins s σ H x y v u Q I rx ry ⟨φ, st, a, b, sim, ra, rb, post⟩
  simp only [binop] at post
  cases ea : derefB st a with
  | int i =>
    cases eb : derefB st b with
    | int j =>
      rw [ea, eb] at post
      rw [int_atB ra ea] at rx
      rw [int_atB rb eb] at ry
      exact op_add pins s σ H _ _ v u Q I rx ry ⟨i, j, rfl, rfl, ok_here post sim (.int _)⟩
    | _ => rw [ea, eb] at post; exact False.elim post
  | str i =>
    cases eb : derefB st b with
    | str j =>
      rw [ea, eb] at post
      rw [str_atB ra ea] at rx
      rw [str_atB rb eb] at ry
      obtain ⟨hz, post⟩ := gd_ok post
      have q := ok_here post sim (.str _)
      rw [sv_append] at q
      exact op_add_str pins s σ H _ _ v u Q I rx ry ⟨_, _, rfl, rfl, by rw [sv_length, sv_length, ← line_eq]; exact hz, q⟩
    | _ => rw [ea, eb] at post; exact False.elim post
  | tup i =>
    cases eb : derefB st b with
    | tup j =>
      rw [ea, eb] at post
      obtain ⟨hz, post⟩ := gd_ok post
      obtain ⟨p, vs, rfl, h1, r1⟩ := tup_atB ra ea
      obtain ⟨p2, vs2, rfl, h2, r2⟩ := tup_atB rb eb
      have r := r1.append r2
      refine op_catA pins s σ H _ _ v u Q I rx ry ⟨p, p2, vs, vs2, rfl, rfl, h1, h2, by rw [r1.length, r2.length, ← line_eq]; exact hz, fun e => ?_, fun _ e => ?_, fun _ _ => ok_tup post sim r⟩
      · subst e; exact ok_here post sim (.tup h2 r)
      · subst e; rw [List.append_nil] at r; exact ok_here post sim (.tup h1 r)
    | _ => rw [ea, eb] at post; exact False.elim post
  | lst i =>
    cases eb : derefB st b with
    | lst j =>
      rw [ea, eb] at post
      obtain ⟨hz, post⟩ := gd_ok post
      obtain ⟨p, vs, rfl, h1, r1⟩ := list_atB sim ra ea
      obtain ⟨p2, vs2, rfl, h2, r2⟩ := list_atB sim rb eb
      exact cat_lists pins s σ H _ _ v u Q I rx ry ⟨p, p2, vs, vs2, rfl, rfl, h1, h2, by rw [r1.length, r2.length, ← line_eq]; exact hz, ok_lst post sim (r1.append r2)⟩
    | _ => rw [ea, eb] at post; exact False.elim post
  | _ => rw [ea] at post; exact False.elim post
theorem sm_log {i : Int} (h : Sm i) : i.natAbs.log2 < 8001 := by
  by_cases h0 : i.natAbs = 0
  · rw [h0]; decide
  · exact Nat.lt_succ_of_lt ((Nat.log2_lt h0).mpr h)
/-- a rule on two ints -/
theorem intOp {op : Operator} {C : Int → Int → Prop} {g : Int → Int → Int} (ho : OpR X (binaryOp op) (rI C fun i j => .int (g i j)))
    (hb : ∀ φ H a b st Q, PostV X.K φ H (binop op a b st) Q → ∃ i j, a = .int i ∧ b = .int j ∧ C i j ∧ PostV X.K φ H (.ok (.int (g i j)) st) Q) : OpR X (binaryOp op) (rB X.K op) := by
  rintro pins s σ H x y v u Q I rx ry ⟨φ, st, a, b, sim, ra, rb, post⟩
  obtain ⟨i, j, rfl, rfl, c, post⟩ := hb _ _ _ _ _ _ post
  rw [ra.int_inv] at rx
  rw [rb.int_inv] at ry
  exact ho pins s σ H _ _ v u Q I rx ry ⟨i, j, rfl, rfl, c, ok_here post sim (.int _)⟩
theorem ints_of {α : Type} {f : Int → Int → Res α} {a b : D} {P : Res α → Prop} (h : P (match a, b with | .int i, .int j => f i j | _, _ => .err)) (he : ¬ P .err) : ∃ i j, a = .int i ∧ b = .int j ∧ P (f i j) := by
  cases a with
  | int i =>
    cases b with
    | int j => exact ⟨i, j, rfl, rfl, h⟩
    | _ => exact absurd h he
  | _ => exact absurd h he
theorem opSub : OpR X (binaryOp .Sub) (rB X.K .Sub) :=
  intOp (C := fun _ _ => True) (g := fun i j => i - j) (opI fun _ _ _ _ _ _ _ _ q => sub_int q) fun φ H a b st Q post => by
    obtain ⟨i, j, e1, e2, post⟩ := ints_of (P := fun r => PostV X.K φ H r Q) post id
    exact ⟨i, j, e1, e2, trivial, post⟩
theorem opDiv : OpR X (binaryOp .FloorDiv) (rB X.K .FloorDiv) :=
  intOp (C := fun _ j => j ≠ 0 ∧ Sm j) (g := idiv) (opI fun i j _ _ _ _ _ hc q => by
    refine floordiv_int hc.1 ?_ (.inl (PyProof.noPylong_of_log2 (Nat.lt_trans (sm_log hc.2) (by decide))))
    unfold idiv at q
    by_cases h : 0 < j
    · rw [if_pos h] at q; rw [Int.fdiv_eq_ediv_of_nonneg i (Int.le_of_lt h)]; exact q
    · rw [if_neg h] at q; exact q) fun φ H a b st Q post => by
    obtain ⟨i, j, e1, e2, post⟩ := ints_of (P := fun r => PostV X.K φ H r Q) post id
    obtain ⟨c, post⟩ := gd_ok post
    exact ⟨i, j, e1, e2, c, post⟩
theorem opMod : OpR X (binaryOp .Mod) (rB X.K .Mod) :=
  intOp (C := fun _ j => j ≠ 0) (g := imod) (opI fun i j _ _ _ _ _ hc q => by
    refine mod_int' hc ?_
    unfold imod at q
    by_cases h : 0 < j
    · rw [if_pos h] at q; rw [Int.fmod_eq_emod_of_nonneg i (Int.le_of_lt h)]; exact q
    · rw [if_neg h] at q; exact q) fun φ H a b st Q post => by
    obtain ⟨i, j, e1, e2, post⟩ := ints_of (P := fun r => PostV X.K φ H r Q) post id
    obtain ⟨c, post⟩ := gd_ok post
    exact ⟨i, j, e1, e2, c, post⟩
theorem opPow : OpR X (binaryOp .Pow) (rB X.K .Pow) :=
  intOp (C := CPow) (g := fun i j => i ^ j.toNat) op_pow fun φ H a b st Q post => by
    obtain ⟨i, j, e1, e2, post⟩ := ints_of (P := fun r => PostV X.K φ H r Q) post id
    obtain ⟨c, post⟩ := gd_ok post
    exact ⟨i, j, e1, e2, ⟨c.1, by omega, c.2.2⟩, post⟩
theorem opShl : OpR X (binaryOp .LShift) (rB X.K .LShift) :=
  intOp (C := CShl) (g := fun i j => i * 2 ^ j.toNat) op_shlW fun φ H a b st Q post => by
    obtain ⟨i, j, e1, e2, post⟩ := ints_of (P := fun r => PostV X.K φ H r Q) post id
    obtain ⟨c, post⟩ := gd_ok post
    refine ⟨i, j, e1, e2, ?_, post⟩
    have h := shl_ok (i := i) (j := j.toNat) (n := 8000) c.2.2 (by omega)
    rw [Int.toNat_of_nonneg c.1] at h
    exact h
theorem opShr : OpR X (binaryOp .RShift) (rB X.K .RShift) :=
  intOp (C := fun _ j => 0 ≤ j) (g := fun i j => i / 2 ^ j.toNat) op_shr fun φ H a b st Q post => by
    obtain ⟨i, j, e1, e2, post⟩ := ints_of (P := fun r => PostV X.K φ H r Q) post id
    obtain ⟨c, post⟩ := gd_ok post
    exact ⟨i, j, e1, e2, c, post⟩
theorem opAnd : OpR X (binaryOp .BitAnd) (rB X.K .BitAnd) :=
  intOp (C := fun _ _ => True) (g := Builtin.bitAnd) (opI fun _ _ _ _ _ _ _ _ q => and_int q) fun φ H a b st Q post => by
    obtain ⟨i, j, e1, e2, post⟩ := ints_of (P := fun r => PostV X.K φ H r Q) post id
    exact ⟨i, j, e1, e2, trivial, post⟩
theorem opOr : OpR X (binaryOp .BitOr) (rB X.K .BitOr) :=
  intOp (C := fun _ _ => True) (g := Builtin.bitOr) (opI fun _ _ _ _ _ _ _ _ q => or_int q) fun φ H a b st Q post => by
    obtain ⟨i, j, e1, e2, post⟩ := ints_of (P := fun r => PostV X.K φ H r Q) post id
    exact ⟨i, j, e1, e2, trivial, post⟩
theorem opXor : OpR X (binaryOp .BitXor) (rB X.K .BitXor) :=
  intOp (C := fun _ _ => True) (g := Builtin.bitXor) (opI fun _ _ _ _ _ _ _ _ q => xor_int q) fun φ H a b st Q post => by
    obtain ⟨i, j, e1, e2, post⟩ := ints_of (P := fun r => PostV X.K φ H r Q) post id
    exact ⟨i, j, e1, e2, trivial, post⟩
end
end PC
end
section
set_option Elab.async false
set_option linter.all false
set_option autoImplicit false
set_option maxRecDepth 100000
set_option maxHeartbeats 1000000
namespace PC
open PySem L2 PyProof.Rows
section
variable {X : Cx}
theorem sv_reps (a : List Nat) (m : Nat) : (⟨(List.replicate m (sv a).cps).foldl (· ++ ·) #[]⟩ : Str) = sv (List.replicate m a).flatten := by
  have key : ∀ (m : Nat) (acc : List Nat), (List.replicate m a.toArray).foldl (· ++ ·) acc.toArray = (acc ++ (List.replicate m a).flatten).toArray := by
    intro m
    induction m with
    | zero => intro acc; simp
    | succ m ih =>
      intro acc
      rw [List.replicate_succ, List.foldl_cons, List.append_toArray, ih, List.replicate_succ, List.flatten_cons, List.append_assoc]
  have := key m []
  rw [List.nil_append] at this
  show (⟨(List.replicate m a.toArray).foldl (· ++ ·) #[]⟩ : Str) = ⟨(List.replicate m a).flatten.toArray⟩
  rw [← this]
theorem rep_lists : OpR X (binaryOp .Mult) (fun x y H Q => ∃ l k xs, x = .ref l ∧ y = .int k ∧ Rd H l (.lst xs) ∧ 0 ≤ k ∧ k ≤ sizeLine ∧ xs.length * k.toNat ≤ sizeLine ∧
    ∀ p, H p = none → Q (.ref p) (upd H p (.lst (List.replicate k.toNat xs).flatten))) := by
  rintro pins s σ H _ _ v u Q I rx ry ⟨l, k, xs, rfl, rfl, hH, h1, h2, hz, q⟩
  cases rx
  obtain ⟨t, rfl⟩ := ry
  obtain ⟨_, its, n, r, e⟩ := rdM I hH
  have hl := r.length
  have hsl : sizeLine = 16777216 := sizeLine_eq
  have h3 : its.toArray.size * k.toNat ≤ sizeLine := by
    rw [List.size_toArray, ← hl]; exact hz
  have h4 : ¬ its.toArray.size * k.toNat > (2 ^ 63 - 1) / 8 := by omega
  have hnew : List.foldl (fun x1 x2 => x1 ++ x2) #[]
      (List.replicate (if its.toArray.isEmpty = true then 0 else k.toNat) its.toArray) =
      (List.replicate k.toNat its).flatten.toArray := by
    have f0 : ∀ m : Nat, List.foldl (fun x1 x2 => x1 ++ x2) #[] (List.replicate m its.toArray) = (List.replicate m its).flatten.toArray := by
      intro m
      simpa using foldl_rep its m []
    cases its with
    | nil => simp
    | cons a b => rw [f0]; simp
  have hT : s.TypeIs (.ref l) "list" := ⟨_, e, rfl⟩
  refine wpAny_binaryOp_repeat_ref (T := "list") (U := "int") (by decide) hT (fun s' => typeIs_int s' k t)
    noFill_list_mul F.fills_int_mul F.slot_int_rmul repeat_list F.slot_int_index.lookup ?_
  refine call_meets F.slot_int_rmul (typeIs_int s k t) F.entry_int_rmul (F.args_int_rmul_2 _ _)
    (int___rmul___int_list k t l its.toArray n) ⟨e, rfl, hT, ?_⟩
  refine call_meets F.slot_list_mul hT F.entry_list_mul (F.args_list_mul_2 _ _)
    (AutoListH.list___mul___list_int_3 l its.toArray n k t
      (by simp [Builtin.List.listFitsIndex]; omega) h4 (by rw [notLongL h3]; exact Bool.false_ne_true)) ⟨e, ?_⟩
  rw [hnew]
  have J := I.lnew (t' := s.toks) (r.rep k.toNat) (by rw [PyProof.Rows.lm_len_rep_flat, Nat.mul_comm]; exact hz)
  exact ⟨V.ref _, _, J, rfl, q _ I.fresh⟩
theorem rep_strs : OpR X (binaryOp .Mult) (fun x y H Q => ∃ a k, x = .str (sv a) ∧ y = .int k ∧ 0 ≤ k ∧ k ≤ sizeLine ∧ a.length * k.toNat ≤ sizeLine ∧ Q (.str (sv (List.replicate k.toNat a).flatten)) H) := by
  rintro pins s σ H _ _ v u Q I rx ry ⟨a, k, rfl, rfl, h1, h2, hz, q⟩
  obtain ⟨t, rfl⟩ := rx
  obtain ⟨t', rfl⟩ := ry
  have hsl : sizeLine = 16777216 := sizeLine_eq
  have hlen : (sv a).length = a.length := sv_length a
  refine PySem.P.mul_str (by rw [decide_eq_false (by omega), decide_eq_false (by omega)]; rfl) (fun h3 h4 => ?_) (fun h3 h4 => ?_) ?_
  · rw [hlen]
    have h5 : k ≠ 1 ∧ a.length ≠ 0 := by
      simp only [Bool.or_eq_false_iff, beq_eq_false_iff_ne, hlen] at h4
      exact h4
    have : (a.length : Int) * k ≤ 16777216 := by
      have e : (a.length : Int) * k = ((a.length * k.toNat : Nat) : Int) := by
        rw [Int.natCast_mul, Int.toNat_of_nonneg h1]
      rw [e]; omega
    have hk : 0 < k := by omega
    rw [Int.not_lt]
    apply (Int.le_ediv_iff_mul_le hk).mpr
    omega
  · rw [hlen]
    show decide _ = false
    exact decide_eq_false (by omega)
  · by_cases h3 : k < 1
    · rw [if_pos h3]
      have hk0 : k = 0 := by omega
      subst hk0
      exact ⟨by decide, V.str _, H, I.tok _, ⟨_, rfl⟩, q⟩
    · rw [if_neg h3]
      by_cases h4 : (k == 1 || (sv a).length == 0) = true
      · rw [if_pos h4]
        refine ⟨V.str (sv a), H, I, ⟨_, rfl⟩, ?_⟩
        simp only [Bool.or_eq_true, beq_iff_eq, hlen] at h4
        rcases h4 with rfl | h4
        · simpa using q
        · have : a = [] := List.eq_nil_of_length_eq_zero h4
          subst this
          simpa using q
      · rw [if_neg h4]
        have e := sv_reps a k.toNat
        rw [e]
        refine ⟨?_, V.str _, H, I.tok _, ⟨_, rfl⟩, q⟩
        show _ ≤ _
        rw [sv_length, PyProof.Rows.lm_len_rep_flat, Nat.mul_comm]
        omega
theorem tup_mul1W (l : Addr) (items : Array Value) (n : Nat) (dd : Option Addr) (sl : Array (Option Value)) (u : Tok) :
    Meets (Builtin.«tuple.__mul__» ⟨[.ref l, .int 1 u], []⟩) (fun _ R s => s.heap.get? l = some { cls := .type "tuple", dict := dd, data := .seq items n, slots := sl } ∧ R (.ok (.ret (Value.ref l))) s) :=
  .of_wp fun prog w A R s h => by
    obtain ⟨hp, g, d, tk, os⟩ := s
    obtain ⟨hl, h⟩ := h
    have f1 := AutoSeq1.idx_int
    have c0 : (decide ((1 : Int) < -(2 ^ 63)) || decide ((1 : Int) ≥ 2 ^ 63)) = false := by decide
    have c1 : (items.isEmpty || (1 : Int) == 1) = true := by simp
    wp_walk using wpAny_loadPart' hl
    repeat (first
      | (refine wpAny_ite_false (decide_eq_false (by rw [c0]; exact Bool.false_ne_true)) ?_; wp_walk using wpAny_loadPart' hl)
      | (refine wpAny_ite_true (decide_eq_true c1) ?_; wp_walk using wpAny_loadPart' hl))
    exact ⟨_, rfl, h⟩
/-- a tuple, once -/
theorem op_repT1 : OpR X (binaryOp .Mult) (fun x y H Q => ∃ l xs, x = .ref l ∧ y = .int 1 ∧ SqT X.K H l xs ∧ Q (.ref l) H) := by
  intro pins s σ H x y v u Q I rx ry h
  obtain ⟨l, xs, rfl, rfl, hT, q⟩ := h
  cases rx
  obtain ⟨t, rfl⟩ := ry
  obtain ⟨its, r, ⟨⟨cls, dd, data, sl⟩, ho, hc, n, hd⟩, hs⟩ := I.tuple hT
  simp only at hc hd
  subst hc hd
  refine wpAny_binaryOp_repeat_ref (T := "tuple") (U := "int") (by decide) ⟨_, ho, rfl⟩ (fun s' => typeIs_int s' 1 t) noFill_tuple_mul F.fills_int_mul F.slot_int_rmul repeat_tuple F.slot_int_index.lookup
    (call_meets F.slot_int_rmul (typeIs_int s 1 t) F.entry_int_rmul (F.args_int_rmul_2 _ _) (int_rmul_tuple 1 t l its.toArray n dd sl)
      ⟨ho, rfl, ⟨_, ho, rfl⟩, call_meets F.slot_tuple_mul ⟨_, ho, rfl⟩ F.entry_tuple_mul (F.args_tuple_mul_2 _ _) (tup_mul1W l its.toArray n dd sl t) ⟨ho, ?_⟩⟩)
  exact ⟨.ref l, H, I, rfl, q⟩
theorem opMul : OpR X (binaryOp .Mult) (rB X.K .Mult) := by
  rintro pins s σ H x y v u Q I rx ry ⟨φ, st, a, b, sim, ra, rb, post⟩
  simp only [binop] at post
  cases ea : derefB st a with
  | int i =>
    cases b with
    | int j =>
      rw [ea] at post
      rw [int_atB ra ea] at rx
      rw [rb.int_inv] at ry
      obtain ⟨⟨c1, c2⟩, post⟩ := gd_ok post
      exact op_mulX pins s σ H _ _ v u Q I rx ry ⟨i, j, rfl, rfl, mulx_ok (a := 8000) (b := 8000) c1 c2 (by decide), ok_here post sim (.int _)⟩
    | _ => rw [ea] at post; exact False.elim post
  | str i =>
    cases b with
    | int j =>
      rw [ea] at post
      rw [str_atB ra ea] at rx
      rw [rb.int_inv] at ry
      obtain ⟨⟨c1, c2, c3⟩, post⟩ := gd_ok post
      rw [line_eq] at c1 c3
      exact rep_strs pins s σ H _ _ v u Q I rx ry ⟨i, j, rfl, rfl, c2, c3, c1, ok_here post sim (.str _)⟩
    | _ => rw [ea] at post; exact False.elim post
  | lst i =>
    cases b with
    | int j =>
      rw [ea] at post
      rw [rb.int_inv] at ry
      obtain ⟨⟨c1, c2, c3⟩, post⟩ := gd_ok post
      obtain ⟨p, vs, rfl, h1, r1⟩ := list_atB sim ra ea
      rw [line_eq] at c1 c3
      exact rep_lists pins s σ H _ _ v u Q I rx ry ⟨p, j, vs, rfl, rfl, h1, c2, c3, by rw [r1.length]; exact c1, ok_lst post sim (r1.replicate _)⟩
    | _ => rw [ea] at post; exact False.elim post
  | tup i =>
    cases b with
    | int j =>
      rw [ea] at post
      rw [rb.int_inv] at ry
      obtain ⟨⟨c0, c1, c2, c3⟩, post⟩ := gd_ok post
      obtain ⟨p, vs, rfl, h1, r1⟩ := tup_atB ra ea
      by_cases hj : j = 1
      · subst hj
        have er : reps i 1 = i := by unfold reps; simp
        rw [er] at post
        have ra' : RepV X.K φ H (.ref p) (.tup i) := .tup h1 r1
        exact op_repT1 pins s σ H _ _ v u Q I rx ry ⟨p, vs, rfl, rfl, h1, ok_here post sim ra'⟩
      have c2 : 2 ≤ j := by omega
      exact op_repT pins s σ H _ _ v u Q I rx ry ⟨p, j, vs, rfl, rfl, h1, fun e => c0 (by rw [← r1.length, e]; rfl), c2, c3, by rw [r1.length]; exact c1, ok_tup post sim (r1.replicate _)⟩
    | _ => rw [ea] at post; exact False.elim post
  | _ => rw [ea] at post; exact False.elim post
theorem opAny {op : Operator} : OpR X (binaryOp op) (rB X.K op) := by
  cases op with
  | Add => exact opAdd
  | Sub => exact opSub
  | Mult => exact opMul
  | FloorDiv => exact opDiv
  | Mod => exact opMod
  | Pow => exact opPow
  | LShift => exact opShl
  | RShift => exact opShr
  | BitAnd => exact opAnd
  | BitOr => exact opOr
  | BitXor => exact opXor
  | _ =>
    rintro pins s σ H x y v u Q I rx ry ⟨φ, st, a, b, sim, ra, rb, post⟩
    exact False.elim post

/-! ### comparisons -/
def rC (K : PySem.W.Frag) (op : CmpOp) : R2 := fun x y H Q => ∃ φ st a b, Sim K φ H st ∧ RepV K φ H x a ∧ RepV K φ H y b ∧ PostB K φ H (cmpB op a b st) Q
theorem okb_here {K : PySem.W.Frag} {φ : Wd} {H : Hp} {b : Bool} {st : Store} {Q : VK} (h : PostB K φ H (.ok b st) Q) (s : Sim K φ H st) : Q (.bl b) H := h φ H _ Ext.refl s rfl
mutual
theorem rep_dp {K : PySem.W.Frag} {φ : Wd} {H : Hp} : ∀ {v : V} {d : D}, RepV K φ H v d → plain d = true → Dp K H v (toPy d)
  | _, _, .non, _ => .non
  | _, _, .bl b, _ => .bl b
  | _, _, .int i, _ => .int i
  | _, _, .str s, _ => .str _
  | _, _, .tup a b, h => .tup a (rep_dps b h)
  | _, _, .lst a b, h => .lst a.sq (rep_dps b h)
  | _, _, .ref _, h => by cases h
  | _, _, .scr _ _, h => by cases h
theorem rep_dps {K : PySem.W.Frag} {φ : Wd} {H : Hp} : ∀ {vs : List V} {ds : List D}, RepVs K φ H vs ds → plains ds = true → DpAll K H vs (toPys ds)
  | _, _, .nil, _ => .nil
  | _, _, .cons a b, h => by
    simp only [plains, Bool.and_eq_true] at h
    exact .cons (rep_dp a h.1) (rep_dps b h.2)
end
mutual
theorem eqv_py : ∀ (a b : D), plain a = true → plain b = true → PyData.eqv (toPy a) (toPy b) = pyEq a b
  | .non, b, _, h => by cases b <;> first | rfl | (exact absurd h (by simp [plain]))
  | .bl x, b, _, h => by cases b <;> first | rfl | (exact absurd h (by simp [plain]))
  | .int x, b, _, h => by cases b <;> first | rfl | (exact absurd h (by simp [plain]))
  | .str x, b, _, h => by
    cases b with
    | str y =>
      simp only [toPy, PyData.eqv, pyEq]
      rw [Bool.eq_iff_iff]
      simp
    | ref _ => cases h
    | exc _ _ => cases h
    | scr _ => cases h
    | _ => rfl
  | .tup x, b, h', h => by
    cases b with
    | tup y =>
      simp only [toPy, PyData.eqv, pyEq]
      exact eqvs_py x y h' h
    | ref _ => cases h
    | exc _ _ => cases h
    | scr _ => cases h
    | _ => rfl
  | .lst x, b, h', h => by
    cases b with
    | lst y =>
      simp only [toPy, PyData.eqv, pyEq]
      exact eqvs_py x y h' h
    | ref _ => cases h
    | exc _ _ => cases h
    | scr _ => cases h
    | _ => rfl
  | .ref k, _, h, _ => by cases h
  | .exc c vs, _, h, _ => by cases h
  | .scr _, _, h, _ => by cases h
theorem eqvs_py : ∀ (a b : List D), plains a = true → plains b = true → PyData.eqvAll (toPys a) (toPys b) = pyEqs a b
  | [], [], _, _ => rfl
  | [], _ :: _, _, _ => rfl
  | _ :: _, [], _, _ => rfl
  | a :: as, b :: bs, h, h' => by
    simp only [plains, Bool.and_eq_true] at h h'
    simp only [toPys, PyData.eqvAll, pyEqs, eqv_py a b h.1 h'.1, eqvs_py as bs h.2 h'.2]
end
theorem dp_deref {K : PySem.W.Frag} {φ : Wd} {H : Hp} {st : Store} {v : V} {d : D} (s : Sim K φ H st) (r : RepV K φ H v d) (h : plain (deref st d) = true) : Dp K H v (toPy (deref st d)) := by
  by_cases e : ∃ xs, deref st d = .lst xs
  · obtain ⟨xs, e⟩ := e
    obtain ⟨p, vs, rfl, h1, h2⟩ := list_at s r e
    rw [e] at h ⊢
    exact .lst h1 (rep_dps h2 h)
  · rw [deref_flat (fun xs q => e ⟨xs, q⟩)] at h ⊢
    exact rep_dp r h
theorem shp_iff {d : D} (h : shp d = true) : plain d = true ∧ SeqAt.shaped (toPy d) = true := by
  unfold shp at h
  rwa [Bool.and_eq_true] at h
theorem isS_str {d : D} (h : isS d = true) : ∃ z, d = .str z := by
  cases d <;> first | exact ⟨_, rfl⟩ | cases h
theorem eq_strs (a b : List Nat) : decide (V.str (sv a) = V.str (sv b)) = pyEq (.str a) (.str b) := by
  show _ = (a == b)
  rw [Bool.eq_iff_iff]
  simp [sv]
theorem ne_of_eqT {prog : Program} {w : World} {A : Around} {E : Value → Shared → Prop} {s : Shared} {l b : Addr} {items items2 : Array Value} {e : Nat → Bool} {Q : Value → Shared → Prop} (hl : s.heap.IsTuple l items) (hb : s.heap.IsTuple b items2) (hu : A.units < cLine)
    (he : ∀ j (h1 : j < items.size) (h2 : j < items2.size), SeqAt.EqAt A.in1 s items[j] items2[j] (e j)) (h : Q (.bool (!((List.range (min items.size items2.size)).all e && items.size == items2.size))) s) : wpAny (model prog w) A (compareOp .NotEq (.ref l) (.ref b)) Q E s :=
  SeqAt.RcNeAt.tuples hl hb hu he prog w E Q h
theorem t0_inv {d : D} (h : isT0 d = true) : d = .tup [] := by
  cases d with
  | tup xs => cases xs with
    | nil => rfl
    | cons _ _ => cases h
  | _ => cases h
theorem tu_inv {d : D} (h : isTu d = true) : ∃ xs, d = .tup xs := by
  cases d <;> first | exact ⟨_, rfl⟩ | cases h
theorem l0_inv {d : D} (h : isL0 d = true) : d = .lst [] := by
  cases d with
  | lst xs => cases xs with
    | nil => rfl
    | cons _ _ => cases h
  | _ => cases h
theorem ls_inv {d : D} (h : isLs d = true) : ∃ xs, d = .lst xs := by
  cases d <;> first | exact ⟨_, rfl⟩ | cases h
theorem eq_l0 (xs : List D) : pyEq (.lst xs) (.lst []) = decide (xs.length = 0) := by
  cases xs <;> rfl
theorem eq_t0 (xs : List D) : pyEq (.tup xs) (.tup []) = decide (xs.length = 0) := by
  cases xs <;> rfl
theorem cmpEq (hu : X.A.units + 65 < cLine) : OpR X (compareOp .Eq) (rC X.K .Eq) := by
  rintro pins s σ H x y v u Q I rx ry ⟨φ, st, a, b, sim, ra, rb, post⟩
  obtain ⟨hh, post⟩ := gd_ok post
  rcases hh with ⟨h1, h2⟩ | ⟨h1, h2⟩ | ⟨h1, h2⟩ | ⟨h1, h2⟩
  · obtain ⟨za, rfl⟩ := isS_str h1
    obtain ⟨zb, rfl⟩ := isS_str h2
    cases ra; cases rb
    refine op_eq pins s σ H _ _ v u Q I rx ry ⟨rfl, ?_⟩
    rw [show decide (V.str (sv za) = V.str (sv zb)) = pyEq (.str za) (.str zb) from eq_strs za zb]
    exact okb_here post sim
  · obtain ⟨p1, q1⟩ := shp_iff h1
    obtain ⟨p2, q2⟩ := shp_iff h2
    refine op_eqD (by omega) pins s σ H x y v u Q I rx ry ⟨_, _, dp_deref sim ra p1, dp_deref sim rb p2, q1, q2, ?_⟩
    rw [eqv_py _ _ p1 p2]
    exact okb_here post sim
  · obtain ⟨xs, rfl⟩ := tu_inv h1
    cases t0_inv h2
    cases ra with
    | tup a1 a2 =>
      cases rb with
      | tup b1 b2 =>
        cases b2
        cases rx
        cases ry
        obtain ⟨ia, va, pa, _⟩ := I.tuple a1
        obtain ⟨ib, vb, pb, _⟩ := I.tuple b1
        cases vb
        have hl := va.length
        have hl2 := a2.length
        refine SeqAt.eq_tupleAt (e := fun _ => true) pa pb (by omega) (fun j _ h2 => by simp at h2) ⟨.bl _, H, I, rfl, ?_⟩
        have post : PostB X.K φ H (.ok (pyEq (.tup xs) (.tup [])) st) Q := post
        rw [eq_t0] at post
        have e : ((List.range (min ia.toArray.size ([] : List Value).toArray.size)).all (fun _ => true) && ia.toArray.size == ([] : List Value).toArray.size) = decide (xs.length = 0) := by
          simp only [List.size_toArray, List.length_nil, Nat.min_zero, List.range_zero, List.all_nil, Bool.true_and]
          rw [← hl2, hl]
          rfl
        rw [e]
        exact okb_here post sim
  · obtain ⟨xs, e1⟩ := ls_inv h1
    have e2 := l0_inv h2
    obtain ⟨p, vs, rfl, sq, rv⟩ := list_at sim ra e1
    obtain ⟨p', vs', rfl, sq', rv'⟩ := list_at sim rb e2
    cases rx
    cases ry
    obtain ⟨ia, va, pa, _⟩ := I.list sq
    obtain ⟨ib, vb, pb, _⟩ := I.list sq'
    have l1 : ia.toArray.size = xs.length := by rw [List.size_toArray, ← va.length, rv.length]
    have l2 : ib.toArray.size = 0 := by rw [List.size_toArray, ← vb.length, rv'.length]; rfl
    have post : PostB X.K φ H (.ok (pyEq (deref st a) (deref st b)) st) Q := post
    rw [e1, e2, eq_l0] at post
    by_cases h0 : xs.length = 0
    · refine SeqAt.eq_listAt (e := fun _ => true) pa.isList pb.isList (by omega) (by omega) (fun j h1 _ => by omega) ⟨.bl _, H, I, rfl, ?_⟩
      rw [decide_eq_true h0] at post
      have e : (List.range ia.toArray.size).all (fun _ => true) = true := by rw [l1, h0]; rfl
      rw [e]
      exact okb_here post sim
    · refine SeqAt.RcAt.lists_lengths pa.isList pb.isList (by rw [l1, l2]; exact bne_iff_ne.mpr h0) (by omega) _ _ _ _ ⟨.bl _, H, I, rfl, ?_⟩
      rw [decide_eq_false h0] at post
      exact okb_here post sim
theorem cmpNe (hu : X.A.units + 65 < cLine) : OpR X (compareOp .NotEq) (rC X.K .NotEq) := by
  rintro pins s σ H x y v u Q I rx ry ⟨φ, st, a, b, sim, ra, rb, post⟩
  simp only [cmpB, eqD, gd] at post
  split at post
  · rename_i hh
    rcases hh with ⟨h1, h2⟩ | ⟨h1, h2⟩ | ⟨h1, h2⟩ | ⟨h1, h2⟩
    · obtain ⟨za, rfl⟩ := isS_str h1
      obtain ⟨zb, rfl⟩ := isS_str h2
      cases ra; cases rb
      refine op_ne pins s σ H _ _ v u Q I rx ry ⟨rfl, ?_⟩
      rw [show decide (V.str (sv za) = V.str (sv zb)) = pyEq (.str za) (.str zb) from eq_strs za zb]
      exact okb_here post sim
    · obtain ⟨p1, q1⟩ := shp_iff h1
      obtain ⟨p2, q2⟩ := shp_iff h2
      refine op_neD (by omega) pins s σ H x y v u Q I rx ry ⟨_, _, dp_deref sim ra p1, dp_deref sim rb p2, q1, q2, ?_⟩
      rw [eqv_py _ _ p1 p2]
      exact okb_here post sim
    · obtain ⟨xs, rfl⟩ := tu_inv h1
      cases t0_inv h2
      cases ra with
      | tup a1 a2 =>
        cases rb with
        | tup b1 b2 =>
          cases b2
          cases rx
          cases ry
          obtain ⟨ia, va, pa, _⟩ := I.tuple a1
          obtain ⟨ib, vb, pb, _⟩ := I.tuple b1
          cases vb
          have hl := va.length
          have hl2 := a2.length
          refine ne_of_eqT (e := fun _ => true) pa pb (by omega) (fun j _ h2 => by simp at h2) ⟨.bl _, H, I, rfl, ?_⟩
          have post : PostB X.K φ H (.ok (!pyEq (.tup xs) (.tup [])) st) Q := post
          rw [eq_t0] at post
          have e : (!((List.range (min ia.toArray.size ([] : List Value).toArray.size)).all (fun _ => true) && ia.toArray.size == ([] : List Value).toArray.size)) = !decide (xs.length = 0) := by
            simp only [List.size_toArray, List.length_nil, Nat.min_zero, List.range_zero, List.all_nil, Bool.true_and]
            rw [← hl2, hl]
            rfl
          rw [e]
          exact okb_here post sim
    · obtain ⟨xs, e1⟩ := ls_inv h1
      have e2 := l0_inv h2
      obtain ⟨p, vs, rfl, sq, rv⟩ := list_at sim ra e1
      obtain ⟨p', vs', rfl, sq', rv'⟩ := list_at sim rb e2
      cases rx
      cases ry
      obtain ⟨ia, va, pa, _⟩ := I.list sq
      obtain ⟨ib, vb, pb, _⟩ := I.list sq'
      have l1 : ia.toArray.size = xs.length := by rw [List.size_toArray, ← va.length, rv.length]
      have l2 : ib.toArray.size = 0 := by rw [List.size_toArray, ← vb.length, rv'.length]; rfl
      have post : PostB X.K φ H (.ok (!pyEq (deref st a) (deref st b)) st) Q := post
      rw [e1, e2, eq_l0] at post
      by_cases h0 : xs.length = 0
      · refine SeqAt.RcNeAt.lists (e := fun _ => true) pa.isList pb.isList (by omega) (by omega) (fun j h1 _ => by omega) _ _ _ _ ⟨.bl _, H, I, rfl, ?_⟩
        rw [decide_eq_true h0] at post
        have e : (List.range ia.toArray.size).all (fun _ => true) = true := by rw [l1, h0]; rfl
        rw [e]
        exact okb_here post sim
      · refine SeqAt.RcNeAt.lists_lengths pa.isList pb.isList (by rw [l1, l2]; exact bne_iff_ne.mpr h0) (by omega) _ _ _ _ ⟨.bl _, H, I, rfl, ?_⟩
        rw [decide_eq_false h0] at post
        exact okb_here post sim
  · exact False.elim post
theorem cmpInt {op : CmpOp} {f : Int → Int → Bool} (ho : OpR X (compareOp op) (rI0 fun i j => .bl (f i j))) (hb : ∀ a b st, cmpB op a b st = cmpI st f a b) : OpR X (compareOp op) (rC X.K op) := by
  rintro pins s σ H x y v u Q I rx ry ⟨φ, st, a, b, sim, ra, rb, post⟩
  rw [hb] at post
  cases a with
  | int i =>
    cases b with
    | int j =>
      rw [ra.int_inv] at rx
      rw [rb.int_inv] at ry
      exact ho pins s σ H _ _ v u Q I rx ry ⟨i, j, rfl, rfl, okb_here post sim⟩
    | _ => exact False.elim post
  | _ => exact False.elim post
theorem anyEqv (ds : List D) (x : D) (hx : plain x = true) (hd : plains ds = true) : ((toPys ds).any fun z => PyData.eqv z (toPy x)) = ds.any fun z => pyEq z x := by
  induction ds with
  | nil => rfl
  | cons a as ih =>
    simp only [plains, Bool.and_eq_true] at hd
    simp only [toPys, List.any_cons, eqv_py a x hd.1 hx, ih hd.2]
theorem shaped_lt {d : D} (h : SeqAt.shaped (toPy d) = true) : (toPy d).depth ≤ 64 := SeqAt.depth_of_shaped h
theorem inRun (hu : X.A.units + 65 < cLine) (neg : Bool) : OpR X (compareOp (if neg then .NotIn else .In)) (fun x y H Q => ∃ φ st a b, Sim X.K φ H st ∧ RepV X.K φ H x a ∧ RepV X.K φ H y b ∧ PostB X.K φ H ((inD st a b).bind fun b st => .ok (neg ^^ b) st) Q) := by
  rintro pins s σ H x y v u Q I rx ry ⟨φ, st, a, b, sim, ra, rb, post⟩
  have seq : ∀ (ys : List D) (isT : Bool), shp a = true → shp (.lst ys) = true → Dp X.K H y (if isT then .tuple (toPys ys) else .list (toPys ys)) → Q (.bl (neg ^^ (ys.any fun z => pyEq z a))) H →
      wpAny (model X.prog X.w) X.A (compareOp (if neg then .NotIn else .In) v u) (EP X pins σ Q) X.xe s := by
    intro ys isT h1 h2 hd q
    obtain ⟨p1, q1⟩ := shp_iff h1
    obtain ⟨p2, q2⟩ := shp_iff h2
    have hys : PyData.canLayAll0 (toPys ys) = true := SeqAt.canLay_of_shaped q2
    obtain ⟨as, r1⟩ := Dp.reads I _ x v (rep_dp ra p1) rx
    obtain ⟨bs, r2⟩ := Dp.reads I _ y u hd ry
    have room : X.A.units + 1 + min (PyData.depthAll (toPys ys)) (toPy a).depth < cLine := by
      have := SeqAt.depth_of_shaped q1
      omega
    rw [← anyEqv ys a p1 p2] at q
    cases isT with
    | true =>
      cases neg with
      | true => exact SeqAt.notIn_tuple_reads r2 r1 hys (SeqAt.canLay_of_shaped q1) room ⟨V.bl _, H, I, rfl, by simpa using q⟩
      | false => exact SeqAt.in_tuple_reads r2 r1 hys (SeqAt.canLay_of_shaped q1) room ⟨V.bl _, H, I, rfl, by simpa using q⟩
    | false =>
      cases neg with
      | true => exact SeqAt.notIn_list_reads r2 r1 hys (SeqAt.canLay_of_shaped q1) room ⟨V.bl _, H, I, rfl, by simpa using q⟩
      | false => exact SeqAt.in_list_reads r2 r1 hys (SeqAt.canLay_of_shaped q1) room ⟨V.bl _, H, I, rfl, by simpa using q⟩
  cases b with
  | str z =>
    cases a with
    | str c =>
      have q := okb_here post sim
      rw [ra.str_inv] at rx
      rw [rb.str_inv] at ry
      obtain ⟨t, rfl⟩ := rx
      obtain ⟨t', rfl⟩ := ry
      have e : subS c z = !(Builtin.Str.occurrences (sv z) (sv c) 0 (sv z).length 1).isEmpty := by rw [sv_length]; rfl
      rw [e] at q
      cases neg with
      | true => exact notIn_str ⟨V.bl _, H, I, rfl, by simpa using q⟩
      | false => exact in_str ⟨V.bl _, H, I, rfl, by simpa using q⟩
    | _ => exact False.elim post
  | tup ys =>
    simp only [inD, gd] at post
    split at post
    · rename_i hh
      refine seq ys true hh.1 hh.2 ?_ (okb_here post sim)
      have := (shp_iff hh.2).1
      exact rep_dp rb this
    · exact False.elim post
  | lst ys =>
    simp only [inD, gd] at post
    split at post
    · rename_i hh
      exact seq ys false hh.1 hh.2 (rep_dp rb (shp_iff hh.2).1) (okb_here post sim)
    · exact False.elim post
  | ref k =>
    simp only [inD] at post
    split at post
    · rename_i ys e
      simp only [gd] at post
      split at post
      · rename_i hh
        have hd : deref st (.ref k) = .lst ys := by simp only [deref, e]
        have := dp_deref sim rb (by rw [hd]; exact (shp_iff hh.2).1)
        rw [hd] at this
        exact seq ys false hh.1 hh.2 this (okb_here post sim)
      · exact False.elim post
    · exact False.elim post
  | kset ks =>
    cases a with
    | int i =>
      have q := okb_here post sim
      rw [ra.int_inv] at rx
      cases rb with
      | kset h1 h2 h3 =>
        cases ry
        rw [← h3 i] at q
        cases neg with
        | true => exact d_notIn (by omega) I (DGet.k (k := Sum.inl i) h1) rx fun s' I' => ⟨V.bl _, H, I', rfl, by simpa using q⟩
        | false => exact d_in (by omega) I (DGet.k (k := Sum.inl i) h1) rx fun s' I' => ⟨V.bl _, H, I', rfl, by simpa using q⟩
    | _ => exact False.elim post
  | _ => exact False.elim post
theorem cmpIn (hu : X.A.units + 65 < cLine) : OpR X (compareOp .In) (rC X.K .In) := by
  rintro pins s σ H x y v u Q I rx ry ⟨φ, st, a, b, sim, ra, rb, post⟩
  refine inRun hu false pins s σ H x y v u Q I rx ry ⟨φ, st, a, b, sim, ra, rb, ?_⟩
  have e : ((inD st a b).bind fun b st => .ok (false ^^ b) st) = inD st a b := by cases inD st a b <;> simp
  rw [e]; exact post
theorem cmpNotIn (hu : X.A.units + 65 < cLine) : OpR X (compareOp .NotIn) (rC X.K .NotIn) := by
  rintro pins s σ H x y v u Q I rx ry ⟨φ, st, a, b, sim, ra, rb, post⟩
  refine inRun hu true pins s σ H x y v u Q I rx ry ⟨φ, st, a, b, sim, ra, rb, ?_⟩
  simp only [Bool.true_xor]
  exact post
theorem cmpIs : OpR X (compareOp .Is) (rC X.K .Is) := by
  rintro pins s σ H x y v u Q I rx ry ⟨φ, st, a, b, sim, ra, rb, post⟩
  cases b with
  | non =>
    have q := okb_here post sim
    rw [rb.non_inv] at ry
    refine op_isN pins s σ H x _ v u Q I rx ry ⟨rfl, ?_⟩
    cases ra <;> exact q
  | bl c =>
    have q := okb_here post sim
    rw [rb.bl_inv] at ry
    cases (show u = Value.bool c from ry)
    have other : (∀ d, a ≠ .bl d) → plainIs v (.bool c) = true → v ≠ .bool c → wpAny (model X.prog X.w) X.A (compareOp .Is v (.bool c)) (EP X pins σ Q) X.xe s := fun h h1 h2 => by
      refine wpAny_is_other h1 h2 ⟨V.bl false, H, I, rfl, ?_⟩
      cases a <;> first | exact q | exact absurd rfl (h _)
    cases ra with
    | bl d =>
      have q : Q (.bl (d == c)) H := q
      rw [show (d == c) = decide (d = c) by cases d <;> cases c <;> rfl] at q
      exact op_isBl pins s σ H _ (.bl c) v _ Q I rx rfl ⟨d, c, rfl, rfl, q⟩
    | non => cases rx; exact other (fun _ z => nomatch z) rfl (fun z => nomatch z)
    | int i => obtain ⟨t, rfl⟩ := rx; exact other (fun _ z => nomatch z) rfl (fun z => nomatch z)
    | str i => obtain ⟨t, rfl⟩ := rx; exact other (fun _ z => nomatch z) rfl (fun z => nomatch z)
    | tup _ _ => cases rx; exact other (fun _ z => nomatch z) rfl (fun z => nomatch z)
    | lst _ _ => cases rx; exact other (fun _ z => nomatch z) rfl (fun z => nomatch z)
    | scr _ _ => cases rx; exact other (fun _ z => nomatch z) rfl (fun z => nomatch z)
    | ref _ => cases rx; exact other (fun _ z => nomatch z) rfl (fun z => nomatch z)
    | kset _ _ _ => cases rx; exact other (fun _ z => nomatch z) rfl (fun z => nomatch z)
    | exc _ _ => cases rx; exact other (fun _ z => nomatch z) rfl (fun z => nomatch z)
  | _ => exact False.elim post
theorem cmpIsNot : OpR X (compareOp .IsNot) (rC X.K .IsNot) := by
  rintro pins s σ H x y v u Q I rx ry ⟨φ, st, a, b, sim, ra, rb, post⟩
  cases b with
  | non =>
    have q := okb_here post sim
    rw [rb.non_inv] at ry
    refine op_notN pins s σ H x _ v u Q I rx ry ⟨rfl, ?_⟩
    cases ra <;> exact q
  | bl c =>
    have q := okb_here post sim
    rw [rb.bl_inv] at ry
    cases (show u = Value.bool c from ry)
    have other : (∀ d, a ≠ .bl d) → plainIs v (.bool c) = true → v ≠ .bool c → wpAny (model X.prog X.w) X.A (compareOp .IsNot v (.bool c)) (EP X pins σ Q) X.xe s := fun h h1 h2 => by
      refine wpAny_isNot_other h1 h2 ⟨V.bl true, H, I, rfl, ?_⟩
      cases a <;> first | exact q | exact absurd rfl (h _)
    cases ra with
    | bl d =>
      have q : Q (.bl (!(d == c))) H := q
      rw [show (d == c) = decide (d = c) by cases d <;> cases c <;> rfl] at q
      exact op_notBl pins s σ H _ (.bl c) v _ Q I rx rfl ⟨d, c, rfl, rfl, q⟩
    | non => cases rx; exact other (fun _ z => nomatch z) rfl (fun z => nomatch z)
    | int i => obtain ⟨t, rfl⟩ := rx; exact other (fun _ z => nomatch z) rfl (fun z => nomatch z)
    | str i => obtain ⟨t, rfl⟩ := rx; exact other (fun _ z => nomatch z) rfl (fun z => nomatch z)
    | tup _ _ => cases rx; exact other (fun _ z => nomatch z) rfl (fun z => nomatch z)
    | lst _ _ => cases rx; exact other (fun _ z => nomatch z) rfl (fun z => nomatch z)
    | scr _ _ => cases rx; exact other (fun _ z => nomatch z) rfl (fun z => nomatch z)
    | ref _ => cases rx; exact other (fun _ z => nomatch z) rfl (fun z => nomatch z)
    | kset _ _ _ => cases rx; exact other (fun _ z => nomatch z) rfl (fun z => nomatch z)
    | exc _ _ => cases rx; exact other (fun _ z => nomatch z) rfl (fun z => nomatch z)
  | _ => exact False.elim post
theorem cmpAny (hu : X.A.units + 65 < cLine) {op : CmpOp} : OpR X (compareOp op) (rC X.K op) := by
  cases op with
  | Eq => exact cmpEq hu
  | NotEq => exact cmpNe hu
  | Lt => exact cmpInt op_lt fun _ _ _ => rfl
  | LtE => exact cmpInt op_le fun _ _ _ => rfl
  | Gt => exact cmpInt op_gt fun _ _ _ => rfl
  | GtE => exact cmpInt op_ge fun _ _ _ => rfl
  | Is => exact cmpIs
  | IsNot => exact cmpIsNot
  | In => exact cmpIn hu
  | NotIn => exact cmpNotIn hu
end
end PC
end
section
set_option Elab.async false
set_option linter.all false
set_option autoImplicit false
set_option maxRecDepth 100000
set_option maxHeartbeats 1000000
namespace PC
open PySem L2 PyProof.Rows
section
variable {X : Cx}
/-! ### places and slices -/
def rIx (K : PySem.W.Frag) : R2 := fun x y H Q => ∃ φ st a b, Sim K φ H st ∧ RepV K φ H x a ∧ RepV K φ H y b ∧ PostV K φ H (idxD st a b) Q
theorem atI_rep {K : PySem.W.Frag} {φ : Wd} {H : Hp} {vs : List V} {ds : List D} {i : Int} {d : D} (r : RepVs K φ H vs ds) (h : atI ds i = some d) : ∃ v, atI vs i = some v ∧ RepV K φ H v d := by
  unfold atI at h ⊢
  rw [r.length]
  cases e : ixN ds.length i with
  | none => rw [e] at h; cases h
  | some j => rw [e] at h; exact r.get h
theorem ixAny : IxR X (rIx X.K) := by
  rintro value slice pins s σ H x y v u Q I rx ry ⟨φ, st, a, b, sim, ra, rb, post⟩ hs
  have seqL : ∀ (xs : List D) (i : Int) (p : Addr) (vs : List V), x = .ref p → SqL X.K H p vs → RepVs X.K φ H vs xs → b = .int i →
      PostV X.K φ H (match atI xs i with | some d => .ok d st | none => .err) Q → wpAny (model X.prog X.w) X.A (subscriptTail value slice v u) (EP X pins σ Q) X.xe s := by
    intro xs i p vs ex h1 h2 eb post1
    subst ex eb
    rw [rb.int_inv] at ry
    cases e : atI xs i with
    | none => rw [e] at post1; exact False.elim post1
    | some d =>
      rw [e] at post1
      obtain ⟨w, hw, rw'⟩ := atI_rep h2 e
      exact ix_list value slice pins s σ H _ _ v u Q I rx ry ⟨p, vs, i, w, rfl, rfl, h1, hw, ok_here post1 sim rw'⟩ hs
  cases a with
  | str z =>
    cases b with
    | int i =>
      obtain ⟨⟨hz, h0⟩, post⟩ := gd_ok post
      rw [ra.str_inv] at rx
      rw [rb.int_inv] at ry
      obtain ⟨t, rfl⟩ := rx
      obtain ⟨t', rfl⟩ := ry
      cases e : z[i.toNat]? with
      | none => rw [e] at post; exact False.elim post
      | some c =>
        rw [e] at post
        have hlt : i.toNat < z.length := (List.getElem?_eq_some_iff.mp e).1
        have hl : lineN = 16777216 := rfl
        have h1 : i < (sv z).length := by rw [sv_length]; omega
        have e3 : seqIndex? i (sv z).length = some i.toNat := PySem.StrLaws.seqIndex_nonneg h0 h1
        have hb1 : decide (i < -(2 ^ 63 : Int)) = false := decide_eq_false (by omega)
        have hb2 : decide (i ≥ 2 ^ 63) = false := decide_eq_false (by rw [sv_length] at h1; omega)
        refine tail_any (typeIs_str s (sv z) t) slot_str_getitem.lookup (getItem_str (c := c) (by rw [hb1, hb2]; rfl) ?_ ?_) hs
        · rw [e3]
          show (sv z).cps[i.toNat]? = some c
          show z.toArray[i.toNat]? = some c
          rw [List.getElem?_toArray]; exact e
        · exact ⟨V.str _, H, I.tok _, ⟨_, rfl⟩, ok_here post sim (.str [c])⟩
    | _ => exact False.elim post
  | lst xs =>
    cases b with
    | int i =>
      cases ra with
      | lst h1 h2 => exact seqL xs i _ _ rfl h1.sq h2 rfl post
    | _ => exact False.elim post
  | scr xs =>
    cases b with
    | int i =>
      cases ra with
      | scr h1 h2 => exact seqL xs i _ _ rfl h1.sq h2 rfl post
    | _ => exact False.elim post
  | tup xs =>
    cases b with
    | int i =>
      cases ra with
      | tup h1 h2 =>
        rw [rb.int_inv] at ry
        have post : PostV X.K φ H (match atI xs i with | some d => .ok d st | none => .err) Q := post
        cases e : atI xs i with
        | none => rw [e] at post; exact False.elim post
        | some d =>
          rw [e] at post
          obtain ⟨w, hw, rw'⟩ := atI_rep h2 e
          exact ix_tup value slice pins s σ H _ _ v u Q I rx ry ⟨_, _, i, w, rfl, rfl, h1, hw, ok_here post sim rw'⟩ hs
    | _ => exact False.elim post
  | ref k =>
    simp only [idxD] at post
    split at post
    · rename_i xs e
      obtain ⟨p, vs, ex, h1, h2⟩ := list_at sim ra (show deref st (.ref k) = .lst xs by simp only [deref, e])
      cases b with
      | int i => exact seqL xs i p vs ex h1 h2 rfl post
      | _ => exact False.elim post
    · exact False.elim post
  | _ => exact False.elim post
def rSl (K : PySem.W.Frag) : V → Option Int → Option Int → Hp → VK → Prop := fun x lo hi H Q => ∃ φ st a, Sim K φ H st ∧ RepV K φ H x a ∧ PostV K φ H (sliceD st a lo hi) Q
theorem cut_rep {K : PySem.W.Frag} {φ : Wd} {H : Hp} {vs : List V} {ds : List D} {lo hi : Option Int} (r : RepVs K φ H vs ds) : RepVs K φ H (cutV vs lo hi) (cut ds lo hi) := by
  unfold cutV cut
  rw [r.length]
  exact (r.drop _).take _
theorem slAny : SlR X (rSl X.K) := by
  rintro pins s σ H x v vl vu lo hi sl Q I rx hs pl pu ⟨φ, st, a, sim, ra, post⟩
  simp only [sliceD] at post
  cases ea : deref st a with
  | str z =>
    rw [ea] at post
    obtain ⟨hz, post⟩ := gd_ok post
    rw [str_at ra ea] at rx
    have q := ok_here post sim (.str _)
    refine sl_str pins s σ H _ v vl vu lo hi sl Q I rx hs pl pu ⟨sv z, rfl, by rw [sv_length, ← line_eq]; exact hz, ?_⟩
    have e : cutS (sv z) lo hi = sv (cut z lo hi) := by
      unfold cutS cut
      rw [sv_length]
      rfl
    rw [e]; exact q
  | lst z =>
    rw [ea] at post
    obtain ⟨p, vs, rfl, h1, h2⟩ := list_at sim ra ea
    exact sl_list pins s σ H _ v vl vu lo hi sl Q I rx hs pl pu ⟨p, vs, rfl, h1, ok_lst post sim (cut_rep h2)⟩
  | tup z =>
    rw [ea] at post
    have post : PostV X.K φ H (.ok (.tup (cut z lo hi)) st) Q := post
    obtain ⟨p, vs, rfl, h1, h2⟩ := tup_at ra ea
    refine sl_tupA pins s σ H _ v vl vu lo hi sl Q I rx hs pl pu ⟨p, vs, rfl, h1, fun e => ?_, fun _ => ok_tup post sim (cut_rep h2)⟩
    have e2 : cut z lo hi = z := by
      rw [h2.length] at e
      unfold cut
      rw [e.1, e.2]
      simp
    rw [e2] at post
    exact ok_here post sim (.tup h1 h2)
  | _ => rw [ea] at post; exact False.elim post

/-! ### built-ins -/
def bval : Blt → Value
  | .len => .builtin "len"
  | .abs => .builtin "abs"
  | .min => .builtin "min"
  | .max => .builtin "max"
  | .int => .type "int"
  | .str => .type "str"
  | .tuple => .type "tuple"
  | .list => .type "list"
  | .all => .builtin "all"
  | .sum => .builtin "sum"
  | .sorted => .builtin "sorted"
  | .repr => .builtin "repr"
  | .bool => .type "bool"
  | .dict => .type "dict"
def rBl (K : PySem.W.Frag) (b : Blt) : List V → Hp → VK → Prop := fun xs H Q => ∃ φ st as, Sim K φ H st ∧ RepVs K φ H xs as ∧ PostV K φ H (blt b as st) Q
theorem rep1 {K : PySem.W.Frag} {φ : Wd} {H : Hp} {xs : List V} {d : D} (r : RepVs K φ H xs [d]) : ∃ v, xs = [v] ∧ RepV K φ H v d := by
  cases r with
  | cons a b => cases b; exact ⟨_, rfl, a⟩
theorem rep2 {K : PySem.W.Frag} {φ : Wd} {H : Hp} {xs : List V} {d e : D} (r : RepVs K φ H xs [d, e]) : ∃ v w, xs = [v, w] ∧ RepV K φ H v d ∧ RepV K φ H w e := by
  cases r with
  | cons a b =>
    obtain ⟨w, rfl, h⟩ := rep1 b
    exact ⟨_, w, rfl, a, h⟩
theorem arg1 {b : Blt} {as : List D} {st : Store} {P : Res D → Prop} (h : P (blt b as st)) (he : ¬ P .err) (hb : ∀ d e, blt2 b d e st = .err) : ∃ d, as = [d] := by
  match as, h with
  | [d], _ => exact ⟨d, rfl⟩
  | [], h => exact absurd h he
  | [x, y], h =>
    have h : P (blt2 b x y st) := h
    rw [hb] at h
    exact absurd h he
  | _ :: _ :: _ :: _, h => exact absurd h he
theorem b2none {b : Blt} (h1 : b ≠ .min) (h2 : b ≠ .max) (d e : D) (st : Store) : blt2 b d e st = .err := by
  cases d <;> cases e <;> first | rfl | skip
  cases b <;> first | rfl | exact absurd rfl h1 | exact absurd rfl h2
theorem bLen : CallR X (.builtin "len") (rBl X.K .len) := by
  rintro pins s σ H xs us Q I r ⟨φ, st, as, sim, ra, post⟩
  obtain ⟨d, rfl⟩ := arg1 (P := fun r => PostV X.K φ H r Q) post id fun d e => b2none (b := .len) (by intro z; cases z) (by intro z; cases z) d e st
  have post : PostV X.K φ H (lenD st d) Q := post
  obtain ⟨v, rfl, rv⟩ := rep1 ra
  refine call_len pins s σ H _ us Q I r ?_
  cases rv with
  | str z =>
    obtain ⟨hz, post⟩ := gd_ok post
    refine ⟨_, z.length, rfl, ⟨by rw [sv_length, ← line_eq]; exact hz, (sv_length z).symm⟩, ok_here post sim (.int _)⟩
  | tup h1 h2 => exact ⟨_, _, rfl, .inr ⟨_, h1, rfl⟩, by rw [h2.length]; exact ok_here post sim (.int _)⟩
  | scr h1 h2 => exact ⟨_, _, rfl, .inl ⟨_, h1.sq, rfl⟩, by rw [h2.length]; exact ok_here post sim (.int _)⟩
  | lst h1 h2 => exact ⟨_, _, rfl, .inl ⟨_, h1.sq, rfl⟩, by rw [h2.length]; exact ok_here post sim (.int _)⟩
  | @ref p k hk =>
    simp only [lenD] at post
    split at post
    · rename_i ys e
      obtain ⟨p', vs, ex, h1, h2⟩ := list_at sim (.ref hk) (show deref st (.ref k) = .lst ys by simp only [deref, e])
      cases ex
      exact ⟨_, _, rfl, .inl ⟨_, h1, rfl⟩, by rw [h2.length]; exact ok_here post sim (.int _)⟩
    · exact False.elim post
  | _ => exact False.elim post
theorem items_at {K : PySem.W.Frag} {φ : Wd} {H : Hp} {st : Store} {v : V} {d : D} {ds : List D} (s : Sim K φ H st) (r : RepV K φ H v d) (e : items st d = some ds) : ∃ p vs, v = .ref p ∧ (SqL K H p vs ∨ SqT K H p vs) ∧ RepVs K φ H vs ds := by
  unfold items at e
  cases ed : deref st d with
  | lst xs =>
    rw [ed] at e; cases e
    obtain ⟨p, vs, h, h1, h2⟩ := list_at s r ed
    exact ⟨p, vs, h, .inl h1, h2⟩
  | tup xs =>
    rw [ed] at e; cases e
    obtain ⟨p, vs, h, h1, h2⟩ := tup_at r ed
    exact ⟨p, vs, h, .inr h1, h2⟩
  | _ => rw [ed] at e; cases e
theorem insI_perm (x : Int) : ∀ l : List Int, (insI x l).Perm (x :: l)
  | [] => List.Perm.refl _
  | y :: r => by
    unfold insI
    split
    · exact List.Perm.refl _
    · exact ((insI_perm x r).cons y).trans (List.Perm.swap x y r)
theorem sortI_perm : ∀ l : List Int, (sortI l).Perm l
  | [] => List.Perm.refl _
  | x :: r => (insI_perm x _).trans ((sortI_perm r).cons x)
theorem insI_sorted (x : Int) : ∀ l : List Int, l.Pairwise (· ≤ ·) → (insI x l).Pairwise (· ≤ ·)
  | [], _ => by simp [insI]
  | y :: r, h => by
    unfold insI
    rw [List.pairwise_cons] at h
    split
    · rename_i hxy
      refine List.pairwise_cons.mpr ⟨fun z hz => ?_, List.pairwise_cons.mpr h⟩
      rcases List.mem_cons.mp hz with rfl | hz
      · exact hxy
      · exact Int.le_trans hxy (h.1 z hz)
    · rename_i hxy
      refine List.pairwise_cons.mpr ⟨fun z hz => ?_, insI_sorted x r h.2⟩
      rcases List.mem_cons.mp ((insI_perm x r).mem_iff.mp hz) with rfl | hz
      · omega
      · exact h.1 z hz
theorem sortI_sorted : ∀ l : List Int, (sortI l).Pairwise (· ≤ ·)
  | [] => List.Pairwise.nil
  | x :: r => insI_sorted x _ (sortI_sorted r)
theorem int_sorted_uniq {l m : List Int} (hp : l.Perm m) (h1 : l.Pairwise (· ≤ ·)) (h2 : m.Pairwise (· ≤ ·)) : l = m :=
  List.Perm.eq_of_pairwise (fun a b _ _ h h' => Int.le_antisymm h h') h1 h2 hp
def leP (p q : Int × Int) : Prop := p.1 < q.1 ∨ (p.1 = q.1 ∧ p.2 ≤ q.2)
theorem ltP_iff {p q : Int × Int} : ltP p q = true ↔ ¬ leP q p := by
  unfold ltP leP
  simp only [Bool.or_eq_true, Bool.and_eq_true, beq_iff_eq, decide_eq_true_eq]
  omega
theorem insP_perm (x : Int × Int) : ∀ l : List (Int × Int), (insP x l).Perm (x :: l)
  | [] => List.Perm.refl _
  | y :: r => by
    unfold insP
    split
    · exact ((insP_perm x r).cons y).trans (List.Perm.swap x y r)
    · exact List.Perm.refl _
theorem sortP_perm : ∀ l : List (Int × Int), (sortP l).Perm l
  | [] => List.Perm.refl _
  | x :: r => (insP_perm x _).trans ((sortP_perm r).cons x)
theorem insP_sorted (x : Int × Int) : ∀ l : List (Int × Int), l.Pairwise leP → (insP x l).Pairwise leP
  | [], _ => by simp [insP]
  | y :: r, h => by
    unfold insP
    rw [List.pairwise_cons] at h
    split
    · rename_i hxy
      have hyx : leP y x := by
        have := ltP_iff.mp hxy
        unfold leP at this ⊢
        omega
      refine List.pairwise_cons.mpr ⟨fun z hz => ?_, insP_sorted x r h.2⟩
      rcases List.mem_cons.mp ((insP_perm x r).mem_iff.mp hz) with rfl | hz
      · exact hyx
      · exact h.1 z hz
    · rename_i hxy
      have hyx : leP x y := by
        have := mt ltP_iff.mpr hxy
        exact Classical.not_not.mp this
      refine List.pairwise_cons.mpr ⟨fun z hz => ?_, List.pairwise_cons.mpr h⟩
      rcases List.mem_cons.mp hz with rfl | hz
      · exact hyx
      · have := h.1 z hz
        unfold leP at *
        omega
theorem sortP_sorted : ∀ l : List (Int × Int), (sortP l).Pairwise leP
  | [] => List.Pairwise.nil
  | x :: r => insP_sorted x _ (sortP_sorted r)
theorem pair_sorted_uniq {l m : List (Int × Int)} (hp : l.Perm m) (h1 : l.Pairwise leP) (h2 : m.Pairwise leP) : l = m :=
  List.Perm.eq_of_pairwise (fun a b _ _ h h' => by
    unfold leP at h h'
    apply Prod.ext <;> omega) h1 h2 hp
end
end PC
end
section
set_option Elab.async false
set_option linter.all false
set_option autoImplicit false
set_option maxRecDepth 100000
set_option maxHeartbeats 1000000
namespace PC
open PySem L2 PyProof.Rows
section
variable {X : Cx}
theorem sv_strI (i : Int) : sv (strI i) = Str.ofString (toString i) := SX.S_tl _
theorem sm_1900 {i : Int} (h : i.natAbs < 2 ^ 1900) : i.natAbs.log2 < 1920 := by
  by_cases h0 : i.natAbs = 0
  · rw [h0]; decide
  · exact Nat.lt_trans ((Nat.log2_lt h0).mpr h) (by decide)
theorem toPairs_eq : ∀ {xs : List D} {ps : List (Int × Int)}, toPairs xs = some ps → xs = ps.map fun p => .tup [.int p.1, .int p.2]
  | [], ps, h => by
    simp only [toPairs, Option.some.injEq] at h
    subst h; rfl
  | x :: xs, ps, h => by
    unfold toPairs at h
    split at h
    · rename_i e; cases e
    · rename_i i j r e
      cases e
      cases e2 : toPairs xs with
      | none => rw [e2] at h; cases h
      | some qs => rw [e2] at h; cases h; rw [toPairs_eq e2]; rfl
    · cases h
abbrev tP (p : Int × Int) : D := .tup [.int p.1, .int p.2]
open Classical in
/-- the two ints of a pair -/
noncomputable def kP (K : PySem.W.Frag) (H : Hp) (v : V) : Int × Int :=
  if h : ∃ (t : Addr) (p : Int × Int), v = .ref t ∧ SqT K H t [.int p.1, .int p.2] then h.choose_spec.choose else (0, 0)
theorem kP_of {pins : List (Addr × Obj)} {s : Shared} {σ : L2.St} {H : Hp} (I : Inv X pins σ H s) {t : Addr} {p : Int × Int} (h : SqT X.K H t [.int p.1, .int p.2]) : kP X.K H (.ref t) = p := by
  have ex : ∃ (t' : Addr) (p : Int × Int), V.ref t = .ref t' ∧ SqT X.K H t' [.int p.1, .int p.2] := ⟨t, p, rfl, h⟩
  unfold kP
  rw [dif_pos ex]
  obtain ⟨e, h2⟩ := ex.choose_spec.choose_spec
  generalize ex.choose_spec.choose = q at h2
  generalize ex.choose = t' at e h2
  cases e
  have := I.tuple_inj h h2
  simp only [List.cons.injEq, V.int.injEq, and_true] at this
  exact Prod.ext this.1.symm this.2.symm
theorem pairs_rep {pins : List (Addr × Obj)} {s : Shared} {σ : L2.St} {φ : Wd} {H : Hp} (I : Inv X pins σ H s) : ∀ {vs : List V} {ps : List (Int × Int)}, RepVs X.K φ H vs (ps.map tP) →
    vs.map (kP X.K H) = ps ∧ ∀ v ∈ vs, ∃ (t : Addr), v = .ref t ∧ SqT X.K H t [.int (kP X.K H v).1, .int (kP X.K H v).2]
  | _, [], h => by cases h; exact ⟨rfl, fun v hv => by cases hv⟩
  | _, p :: ps, h => by
    cases h with
    | cons a b =>
      obtain ⟨e1, e2⟩ := pairs_rep I b
      cases a with
      | @tup t vs' _ h1 h2 =>
        obtain ⟨v1, v2, rfl, q1, q2⟩ := rep2 h2
        rw [q1.int_inv, q2.int_inv] at h1
        have hk := kP_of I h1
        refine ⟨by rw [List.map_cons, hk, e1], fun v hv => ?_⟩
        rcases List.mem_cons.mp hv with rfl | hv
        · exact ⟨t, rfl, by rw [hk]; exact h1⟩
        · exact e2 v hv
theorem rep_pairs {K : PySem.W.Frag} {φ : Wd} {H : Hp} : ∀ {ys : List V}, (∀ v ∈ ys, ∃ (t : Addr), v = .ref t ∧ SqT K H t [.int (kP K H v).1, .int (kP K H v).2]) → RepVs K φ H ys ((ys.map (kP K H)).map tP)
  | [], _ => .nil
  | y :: ys, h => by
    obtain ⟨t, e, hs⟩ := h y List.mem_cons_self
    refine .cons ?_ (rep_pairs fun v hv => h v (List.mem_cons_of_mem _ hv))
    rw [e] at hs ⊢
    exact .tup hs (.cons (.int _) (.cons (.int _) .nil))
theorem lexB_le {p q : Int × Int} (h : SrtO.lexB q p = false) : leP p q := by
  have := SrtO.lexB_no.mp h
  unfold leP
  omega
theorem sorted_pairs : CallR X (.builtin "sorted") (fun xs H Q => ∃ φ a vs ps, xs = [V.ref a] ∧ Rd H a (.lst vs) ∧ RepVs X.K φ H vs (ps.map tP) ∧
    ∀ ys p, RepVs X.K φ H ys ((sortP ps).map tP) → H p = none → Q (.ref p) (upd H p (.lst ys))) := by
  rintro pins s σ H _ us Q I r ⟨φ, a, vs, ps, rfl, hs, hr, q⟩
  obtain ⟨hz, its, n0, rv, hl⟩ := rdM I hs
  obtain ⟨u, rfl, ru⟩ := vals1 r
  cases ru
  obtain ⟨ek, hv⟩ := pairs_rep I hr
  obtain ⟨e1, e2⟩ := refs_back rv fun x m => let ⟨t, e, _⟩ := hv x m; ⟨t, e⟩
  refine SrtO.sorted_pairsO (k := fun u => kP X.K H (backV u)) ⟨_, hl, rfl, n0, rfl⟩ (by rw [← rv.length]; exact hz) (fun v hm => ?_) fun h' d out h1 h2 kp hd hn => ?_
  · obtain ⟨t, rfl⟩ := e2 v hm
    have hm' : V.ref t ∈ vs := by rw [e1]; exact List.mem_map.mpr ⟨_, hm, rfl⟩
    obtain ⟨t', e, ht⟩ := hv _ hm'
    cases e
    obtain ⟨its2, r2, ⟨o, ho, hc, n, hd⟩, _⟩ := I.tuple ht
    obtain ⟨u1, u2, rfl, ⟨t1, rfl⟩, ⟨t2, rfl⟩⟩ := vals2 r2
    exact ⟨t, o, t1, t2, n, rfl, ho, hc, hd⟩
  · obtain ⟨n, hn⟩ := hn
    have h3 : ∀ u ∈ out, ∃ a, u = Value.ref a := fun u hu => e2 u (h2.perm.mem_iff.mp hu)
    have hperm : (out.map backV).Perm vs := by rw [e1]; exact h2.perm.map backV
    have hlen : (out.map backV).length ≤ sizeLine := by rw [hperm.length_eq]; exact hz
    have hmem : ∀ v ∈ out.map backV, ∃ (t : Addr), v = .ref t ∧ SqT X.K H t [.int (kP X.K H v).1, .int (kP X.K H v).2] := fun v hm => hv v (hperm.mem_iff.mp hm)
    have hsort : (out.map backV).map (kP X.K H) = sortP ps := by
      refine pair_sorted_uniq ?_ ?_ (sortP_sorted ps)
      · refine (hperm.map _).trans ?_
        rw [ek]; exact (sortP_perm ps).symm
      · rw [List.map_map, List.pairwise_map]
        exact List.Pairwise.imp (fun h => lexB_le h) h1
    have hrep := rep_pairs (φ := φ) hmem
    rw [hsort] at hrep
    have J := I.laid (t' := s.toks) (o := .lst (out.map backV)) kp hd ⟨hlen, out, n, vals_back h3, hn⟩
    exact ⟨V.ref d, _, J, rfl, q _ d hrep (I.hok.fresh hd)⟩
theorem bOne {b : Blt} {f : Value} (h1 : b ≠ .min) (h2 : b ≠ .max) (h : ∀ pins s σ H v u Q φ st d, Inv X pins σ H s → RelV v u → Sim X.K φ H st → RepV X.K φ H v d → PostV X.K φ H (blt1 b d st) Q → wpAny (model X.prog X.w) X.A (PySem.call f [u]) (EP X pins σ Q) X.xe s) :
    CallR X f (rBl X.K b) := by
  rintro pins s σ H xs us Q I r ⟨φ, st, as, sim, ra, post⟩
  obtain ⟨d, rfl⟩ := arg1 (P := fun r => PostV X.K φ H r Q) post id fun d e => b2none h1 h2 d e st
  obtain ⟨v, rfl, rv⟩ := rep1 ra
  obtain ⟨u, rfl, ru⟩ := vals1 r
  exact h pins s σ H v u Q φ st d I ru sim rv post
theorem v1 {v : V} {u : Value} (r : RelV v u) : Vals [v] [u] := .cons r .nil
theorem bAbs : CallR X (.builtin "abs") (rBl X.K .abs) := bOne (by intro z; cases z) (by intro z; cases z) fun pins s σ H v u Q φ st d I ru sim rv post => by
  cases rv with
  | int i => exact call_abs pins s σ H _ _ Q I (v1 ru) ⟨i, rfl, ok_here post sim (.int _)⟩
  | _ => exact False.elim post
theorem bInt : CallR X (.type "int") (rBl X.K .int) := bOne (by intro z; cases z) (by intro z; cases z) fun pins s σ H v u Q φ st d I ru sim rv post => by
  cases rv with
  | int i => exact call_int1 pins s σ H _ _ Q I (v1 ru) (.inl ⟨i, rfl, ok_here post sim (.int _)⟩)
  | bl i => exact call_int1 pins s σ H _ _ Q I (v1 ru) (.inr ⟨i, rfl, ok_here post sim (.int _)⟩)
  | str z =>
    obtain ⟨⟨h1, h2, h3⟩, post⟩ := gd_ok post
    refine call_int_str pins s σ H _ _ Q I (v1 ru) ⟨sv z, _, rfl, SX.int_S (a := z) h3 (fun e => h1 (by rw [e]; rfl)) (by omega), by rw [sv_length]; exact h2, ok_here post sim (.int _)⟩
  | _ => exact False.elim post
theorem bStr : CallR X (.type "str") (rBl X.K .str) := bOne (by intro z; cases z) (by intro z; cases z) fun pins s σ H v u Q φ st d I ru sim rv post => by
  cases rv with
  | int i =>
    obtain ⟨h1, post⟩ := gd_ok post
    have q := ok_here post sim (.str _)
    rw [sv_strI] at q
    exact call_str_int pins s σ H _ _ Q I (v1 ru) ⟨i, rfl, sm_1900 h1, q⟩
  | _ => exact False.elim post
theorem bBool : CallR X (.type "bool") (rBl X.K .bool) := bOne (by intro z; cases z) (by intro z; cases z) fun pins s σ H v u Q φ st d I ru sim rv post => by
  cases rv with
  | int i => exact call_bool1 pins s σ H _ _ Q I (v1 ru) (.inl ⟨i, rfl, ok_here post sim (.bl _)⟩)
  | bl i => exact call_bool1 pins s σ H _ _ Q I (v1 ru) (.inr ⟨i, rfl, ok_here post sim (.bl _)⟩)
  | _ => exact False.elim post
theorem bTuple : CallR X (.type "tuple") (rBl X.K .tuple) := bOne (by intro z; cases z) (by intro z; cases z) fun pins s σ H v u Q φ st d I ru sim rv post => by
  simp only [blt1] at post
  split at post
  · rename_i xs e
    obtain ⟨p, vs, rfl, h, r⟩ := items_at sim rv e
    refine call_tuple_of pins s σ H _ _ Q I (v1 ru) ⟨p, vs, rfl, ?_⟩
    rcases h with h | h
    · exact .inl ⟨h, ok_tup post sim r⟩
    · exact .inr ⟨h, ok_here post sim (.tup h r)⟩
  · exact False.elim post
theorem bList : CallR X (.type "list") (rBl X.K .list) := bOne (by intro z; cases z) (by intro z; cases z) fun pins s σ H v u Q φ st d I ru sim rv post => by
  simp only [blt1] at post
  split at post
  · rename_i xs e
    obtain ⟨p, vs, rfl, h, r⟩ := items_at sim rv e
    refine call_list_of pins s σ H _ _ Q I (v1 ru) ⟨p, vs, rfl, ?_, ok_lst post sim r⟩
    rcases h with h | h
    · exact .inl h
    · exact .inr h
  · exact False.elim post
theorem bAll (hc : X.calm = true) : CallR X (.builtin "all") (rBl X.K .all) := bOne (by intro z; cases z) (by intro z; cases z) fun pins s σ H v u Q φ st d I ru sim rv post => by
  simp only [blt1] at post
  split at post
  · rename_i xs e
    split at post
    · rename_i bs eb
      rw [toBools_eq eb] at e
      obtain ⟨p, vs, rfl, h, r⟩ := list_at sim rv e
      rw [r.ofBools] at h
      exact cr_all hc pins s σ H _ _ Q I (v1 ru) ⟨p, bs, rfl, h, ok_here post sim (.bl _)⟩
    · exact False.elim post
  · exact False.elim post
theorem bSum (hc : X.calm = true) : CallR X (.builtin "sum") (rBl X.K .sum) := bOne (by intro z; cases z) (by intro z; cases z) fun pins s σ H v u Q φ st d I ru sim rv post => by
  simp only [blt1] at post
  split at post
  · rename_i xs e
    split at post
    · rename_i bs eb
      rw [toInts_eq eb] at e
      obtain ⟨p, vs, rfl, h, r⟩ := list_at sim rv e
      rw [r.ofInts] at h
      exact cr_sum hc pins s σ H _ _ Q I (v1 ru) ⟨p, bs, rfl, h, ok_here post sim (.int _)⟩
    · exact False.elim post
  · exact False.elim post
theorem bSorted : CallR X (.builtin "sorted") (rBl X.K .sorted) := bOne (by intro z; cases z) (by intro z; cases z) fun pins s σ H v u Q φ st d I ru sim rv post => by
  simp only [blt1] at post
  split at post
  · rename_i xs e
    simp only [sortD] at post
    split at post
    · rename_i is eb
      rw [toInts_eq eb] at e
      obtain ⟨p, vs, rfl, h, r⟩ := list_atB sim rv e
      rw [r.ofInts] at h
      refine cr_sortedI pins s σ H _ _ Q I (v1 ru) ⟨p, is, rfl, .inl h, fun ns' p' hp hs hn => ?_⟩
      have := int_sorted_uniq (hp.trans (sortI_perm is).symm) hs (sortI_sorted is)
      subst this
      exact ok_lst post sim (RepVs.ints _) p' hn
    · split at post
      · rename_i ps ep
        rw [toPairs_eq ep] at e
        obtain ⟨p, vs, rfl, h, r⟩ := list_atB sim rv e
        exact sorted_pairs pins s σ H _ _ Q I (v1 ru) ⟨φ, p, vs, ps, rfl, h, r, fun ys p' hr hn => ok_lst post sim hr p' hn⟩
      · exact False.elim post
  · exact False.elim post
theorem foldl_max : ∀ (is : List Int) (i : Int), is.foldl max i ∈ i :: is ∧ ∀ y ∈ i :: is, y ≤ is.foldl max i
  | [], i => ⟨List.mem_cons_self, fun y hy => by rw [List.mem_singleton.mp hy]; exact Int.le_refl _⟩
  | j :: is, i => by
    obtain ⟨h1, h2⟩ := foldl_max is (max i j)
    rw [List.foldl_cons]
    have a1 : i ≤ max i j := by omega
    have a2 : j ≤ max i j := by omega
    have a3 := h2 (max i j) List.mem_cons_self
    refine ⟨?_, fun y hy => ?_⟩
    · rcases List.mem_cons.mp h1 with h | h
      · rw [h]
        by_cases hq : i ≤ j
        · rw [show max i j = j by omega]; exact List.mem_cons_of_mem _ List.mem_cons_self
        · rw [show max i j = i by omega]; exact List.mem_cons_self
      · exact List.mem_cons_of_mem _ (List.mem_cons_of_mem _ h)
    · rcases List.mem_cons.mp hy with rfl | hy
      · exact Int.le_trans a1 a3
      · rcases List.mem_cons.mp hy with rfl | hy
        · exact Int.le_trans a2 a3
        · exact h2 y (List.mem_cons_of_mem _ hy)
theorem foldl_min : ∀ (is : List Int) (i : Int), is.foldl min i ∈ i :: is ∧ ∀ y ∈ i :: is, is.foldl min i ≤ y
  | [], i => ⟨List.mem_cons_self, fun y hy => by rw [List.mem_singleton.mp hy]; exact Int.le_refl _⟩
  | j :: is, i => by
    obtain ⟨h1, h2⟩ := foldl_min is (min i j)
    rw [List.foldl_cons]
    have a1 : min i j ≤ i := by omega
    have a2 : min i j ≤ j := by omega
    have a3 := h2 (min i j) List.mem_cons_self
    refine ⟨?_, fun y hy => ?_⟩
    · rcases List.mem_cons.mp h1 with h | h
      · rw [h]
        by_cases hq : i ≤ j
        · rw [show min i j = i by omega]; exact List.mem_cons_self
        · rw [show min i j = j by omega]; exact List.mem_cons_of_mem _ List.mem_cons_self
      · exact List.mem_cons_of_mem _ (List.mem_cons_of_mem _ h)
    · rcases List.mem_cons.mp hy with rfl | hy
      · exact Int.le_trans a3 a1
      · rcases List.mem_cons.mp hy with rfl | hy
        · exact Int.le_trans a3 a2
        · exact h2 y (List.mem_cons_of_mem _ hy)
theorem bTwo {b : Blt} {f : Value} {g : Int → Int → Int} (h1 : ∀ (φ : Wd) (H : Hp) (v : V) (d : D) (st : Store) (Q : VK), Sim X.K φ H st → RepV X.K φ H v d → PostV X.K φ H (blt1 b d st) Q → ∀ pins s σ us, Inv X pins σ H s → Vals [v] us → wpAny (model X.prog X.w) X.A (PySem.call f us) (EP X pins σ Q) X.xe s) (h2 : ∀ i j st, blt2 b (.int i) (.int j) st = .ok (.int (g i j)) st)
    (h : CallR X f (fun xs H Q => ∃ i j, xs = [.int i, .int j] ∧ Q (.int (g i j)) H)) : CallR X f (rBl X.K b) := by
  rintro pins s σ H xs us Q I r ⟨φ, st, as, sim, ra, post⟩
  match as, ra, post with
  | [d, e], ra, post =>
    have post : PostV X.K φ H (blt2 b d e st) Q := post
    obtain ⟨v, w, rfl, r1, r2⟩ := rep2 ra
    cases d with
    | int i =>
      cases e with
      | int j =>
        rw [h2] at post
        rw [r1.int_inv, r2.int_inv] at r
        exact h pins s σ H _ us Q I r ⟨i, j, rfl, ok_here post sim (.int _)⟩
      | _ => exact False.elim post
    | _ => exact False.elim post
  | [d], ra, post =>
    have post : PostV X.K φ H (blt1 b d st) Q := post
    obtain ⟨v, rfl, rv⟩ := rep1 ra
    exact h1 φ H v d st Q sim rv post pins s σ us I r
  | [], _, post => exact False.elim post
  | _ :: _ :: _ :: _, _, post => exact False.elim post
theorem bMax1 (hc : X.calm = true) : ∀ (φ : Wd) (H : Hp) (v : V) (d : D) (st : Store) (Q : VK), Sim X.K φ H st → RepV X.K φ H v d → PostV X.K φ H (blt1 .max d st) Q → ∀ pins s σ us, Inv X pins σ H s → Vals [v] us → wpAny (model X.prog X.w) X.A (PySem.call (.builtin "max") us) (EP X pins σ Q) X.xe s := by
  intro φ H v d st Q sim rv post pins s σ us I r
  simp only [blt1] at post
  split at post
  · rename_i xs e
    split at post
    · rename_i i is eb
      rw [toInts_eq eb] at e
      obtain ⟨p, vs, rfl, h, r2⟩ := list_at sim rv e
      rw [r2.ofInts] at h
      refine cr_max hc pins s σ H _ us Q I r ⟨p, i :: is, rfl, h, by simp, fun m hm hle => ?_⟩
      obtain ⟨f1, f2⟩ := foldl_max is i
      have : m = is.foldl max i := Int.le_antisymm (f2 m hm) (hle _ f1)
      subst this
      exact ok_here post sim (.int _)
    · exact False.elim post
  · exact False.elim post
theorem bMin1 (hc : X.calm = true) : ∀ (φ : Wd) (H : Hp) (v : V) (d : D) (st : Store) (Q : VK), Sim X.K φ H st → RepV X.K φ H v d → PostV X.K φ H (blt1 .min d st) Q → ∀ pins s σ us, Inv X pins σ H s → Vals [v] us → wpAny (model X.prog X.w) X.A (PySem.call (.builtin "min") us) (EP X pins σ Q) X.xe s := by
  intro φ H v d st Q sim rv post pins s σ us I r
  simp only [blt1] at post
  split at post
  · rename_i xs e
    split at post
    · rename_i i is eb
      rw [toInts_eq eb] at e
      obtain ⟨p, vs, rfl, h, r2⟩ := list_at sim rv e
      rw [r2.ofInts] at h
      refine cr_min hc pins s σ H _ us Q I r ⟨p, i :: is, rfl, h, by simp, fun m hm hle => ?_⟩
      obtain ⟨f1, f2⟩ := foldl_min is i
      have : m = is.foldl min i := Int.le_antisymm (hle _ f1) (f2 m hm)
      subst this
      exact ok_here post sim (.int _)
    · exact False.elim post
  · exact False.elim post
mutual
theorem noDict : ∀ d : D, (toPy d).hasDict = false
  | .non => rfl
  | .bl _ => rfl
  | .int _ => rfl
  | .str _ => rfl
  | .tup xs => by simp only [toPy, PyData.hasDict]; exact noDicts xs
  | .lst xs => by simp only [toPy, PyData.hasDict]; exact noDicts xs
  | .ref _ => rfl
  | .exc _ _ => rfl
  | .scr _ => rfl
  | .kset _ => rfl
theorem noDicts : ∀ ds : List D, PyData.hasDictAll (toPys ds) = false
  | [] => rfl
  | d :: ds => by simp only [toPys, PyData.hasDictAll, noDict d, noDicts ds]; rfl
end
theorem shw_facts : ∀ (n : Nat) (d : D), shw n d = true → plain d = true ∧ (toPy d).showable = true ∧ (toPy d).depth ≤ n
  | 0, d, h => by cases h
  | n + 1, d, h => by
    have all : ∀ xs : List D, xs.all (shw n) = true → plains xs = true ∧ PyData.showableAll (toPys xs) = true ∧ PyData.depthAll (toPys xs) ≤ n := by
      intro xs
      induction xs with
      | nil => intro _; exact ⟨rfl, rfl, Nat.zero_le _⟩
      | cons x xs ih =>
        intro h
        rw [List.all_cons, Bool.and_eq_true] at h
        obtain ⟨a1, a2, a3⟩ := shw_facts n x h.1
        obtain ⟨b1, b2, b3⟩ := ih h.2
        refine ⟨by simp only [plains, a1, b1, Bool.and_self], by simp only [toPys, PyData.showableAll, a2, b2, Bool.and_self], ?_⟩
        simp only [toPys, PyData.depthAll]
        omega
    cases d with
    | non => exact ⟨rfl, rfl, by simp [toPy, PyData.depth]⟩
    | bl => exact ⟨rfl, rfl, by simp [toPy, PyData.depth]⟩
    | str => exact ⟨rfl, rfl, by simp [toPy, PyData.depth]⟩
    | int i =>
      have hi : i.natAbs < 2 ^ 1900 := of_decide_eq_true h
      exact ⟨rfl, by simp only [toPy, PyData.showable]; exact decide_eq_true (sm_1900 hi), by simp [toPy, PyData.depth]⟩
    | tup xs =>
      obtain ⟨a1, a2, a3⟩ := all xs h
      refine ⟨a1, by simp only [toPy, PyData.showable]; exact a2, ?_⟩
      simp only [toPy, PyData.depth]
      omega
    | lst xs =>
      obtain ⟨a1, a2, a3⟩ := all xs h
      refine ⟨a1, by simp only [toPy, PyData.showable]; exact a2, ?_⟩
      simp only [toPy, PyData.depth]
      omega
    | ref | exc | scr | kset => cases h
theorem len_app (a b : Str) : (a ++ b).length = a.length + b.length := by
  show (a.cps ++ b.cps).size = _
  rw [Array.size_append]; rfl
theorem textFrom_le : ∀ (ts : List Str) (k : Nat) (acc : Str), (textFrom k acc ts).length ≤ acc.length + (ts.map fun t => t.length + 2).sum
  | [], k, acc => by simp [textFrom]
  | t :: ts, k, acc => by
    rw [textFrom]
    refine Nat.le_trans (textFrom_le ts (k + 1) _) ?_
    rw [len_app, len_app, List.map_cons, List.sum_cons]
    have : (Str.ofString (if k > 0 then ", " else "")).length ≤ 2 := by
      split <;> decide
    omega
theorem piled_eq (ts : List Str) : piled ts = (ts.map fun t => t.length + 2).sum := rfl
theorem small_text : ∀ m : Nat, m < 1000 → (PySem.Str.ofString (toString (m : Int))).length ≤ 3 := by decide +kernel
theorem shown_len : ∀ (n : Nat) (d : D), shw n d = true → (toPy d).shown.length ≤ rlen d
  | 0, d, h => by cases h
  | n + 1, d, h => by
    have all : ∀ xs : List D, xs.all (shw n) = true → ((PyData.shownAll (toPys xs)).map fun t => t.length + 2).sum ≤ rlens xs := by
      intro xs
      induction xs with
      | nil => intro _; exact Nat.le_refl _
      | cons x xs ih =>
        intro h
        rw [List.all_cons, Bool.and_eq_true] at h
        have a := shown_len n x h.1
        have b := ih h.2
        simp only [toPys, PyData.shownAll, List.map_cons, List.sum_cons, rlens]
        omega
    cases d with
    | non => simp only [toPy, PyData.shown, rlen]; decide
    | bl b => simp only [toPy, PyData.shown, rlen]; cases b <;> decide
    | int i =>
      have hi : i.natAbs < 2 ^ 1900 := of_decide_eq_true h
      simp only [toPy, PyData.shown, rlen]
      split
      · rename_i h3
        obtain ⟨m, rfl⟩ : ∃ m : Nat, i = (m : Int) := ⟨i.toNat, by omega⟩
        have hm : m < 1000 := by omega
        exact small_text m hm
      · exact int_text_len_1921 (sm_1900 hi)
    | str z =>
      have h : (z.all fun c => decide (c < 1114112)) = true := h
      simp only [toPy, PyData.shown, rlen]
      have := PySem.StrLaws.reprText_len ⟨z.toArray⟩ (fun c hc => by
        have := List.all_eq_true.mp h c (by simpa using hc)
        have : c < 1114112 := of_decide_eq_true this
        omega)
      have e : (⟨z.toArray⟩ : Str).length = z.length := by show z.toArray.size = _; simp
      rw [e] at this
      exact this
    | tup xs =>
      have a := all xs h
      simp only [toPy, PyData.shown, rlen, tupleText]
      rw [len_app, len_app]
      have l1 : (Str.ofString "(").length = 1 := by decide
      have l2 : ∀ b : Bool, (Str.ofString (if b = true then ",)" else ")")).length ≤ 2 := by intro b; cases b <;> decide
      have l2' := l2 ((PyData.shownAll (toPys xs)).length == 1)
      by_cases hn : PyData.shownAll (toPys xs) = []
      · rw [hn] at a l2' ⊢
        have l3 : (Str.join ", " []).length = 0 := by decide
        omega
      · have l3 := join_length_add _ hn
        rw [piled_eq] at l3
        omega
    | lst xs =>
      have a := all xs h
      simp only [toPy, PyData.shown, rlen, listText]
      rw [len_app]
      have l1 : (Str.ofString "]").length = 1 := by decide
      have l2 : (Str.ofString "[").length = 1 := by decide
      have l3 := textFrom_le (PyData.shownAll (toPys xs)) 0 "["
      omega
    | ref | exc | scr | kset => cases h
theorem reprD_sv (d : D) : (toPy d).shown = sv (reprD d) := by
  show _ = (⟨((toPy d).shown.cps.toList).toArray⟩ : Str)
  rw [Array.toArray_toList]
theorem bRepr (hg : X.A.guards = some []) (hu : X.A.units + 65 < cLine) : CallR X (.builtin "repr") (rBl X.K .repr) := bOne (by intro z; cases z) (by intro z; cases z) fun pins s σ H v u Q φ st d I ru sim rv post => by
  by_cases he : isE0 st d = true
  · have post : Post X.K (RV X.K) _ φ H (if isE0 st d = true then .ok (.str [123, 125]) st else gd (shw 60 (deref st d) = true ∧ rlen (deref st d) ≤ lineN) (.ok (.str (reprD (deref st d))) st)) Q := post
    rw [if_pos he] at post
    have post2 := post
    clear post
    cases d with
    | ref k =>
      cases hk : st[k]? with
      | none => simp [isE0, hk] at he
      | some c =>
        have hc : c = .dict false [] := by
          cases c with
          | dict t kvs =>
            cases t with
            | true => simp [isE0, hk] at he
            | false =>
              cases kvs with
              | nil => rfl
              | cons _ _ => simp [isE0, hk] at he
          | _ => simp [isE0, hk] at he
        subst hc
        cases rv with
        | ref hp =>
          rename_i p
          obtain ⟨c, hc, rc⟩ := sim.at_ hp
          rw [hk] at hc
          cases hc
          obtain ⟨vs, hH, rk⟩ := rc
          cases rk
          cases ru
          obtain ⟨_, hS, vs, r, o, es, ep, ho, hx, hd, _, hpr, _⟩ := I.hok p _ hH
          cases r
          have hes : es.toList = [] := List.eq_nil_of_length_eq_zero hpr.length
          have rd : Reads s.heap (.ref p) (.dict []) ([p] ++ []) := .dict ho hx.1 hd (by rw [hes]; exact .nil) (by rw [hes]; exact .nil)
          have sh : (PyData.dict []).shown = sv [123, 125] := by decide +kernel
          have hdp : (PyData.dict []).depth ≤ 2 := by decide +kernel
          refine repr_of_reads' rd (by decide +kernel) (fun _ hm => ?_) hg (by omega) (fun _ _ z => z) (fun h' t tk hk => ?_) (by rw [sh]; decide +kernel)
          · rw [List.append_nil, List.mem_singleton] at hm
            rw [hm] at hS
            simp at hS
          · refine ⟨.str (PyData.dict []).shown, H, I.kept (t' := tk) hk, ⟨t, rfl⟩, ?_⟩
            rw [sh]
            exact ok_here post2 sim (.str _)
    | _ => cases he
  have post : Post X.K (RV X.K) _ φ H (if isE0 st d = true then .ok (.str [123, 125]) st else gd (shw 60 (deref st d) = true ∧ rlen (deref st d) ≤ lineN) (.ok (.str (reprD (deref st d))) st)) Q := post
  rw [if_neg he] at post
  obtain ⟨⟨hw, hl⟩, post⟩ := gd_ok post
  obtain ⟨h1, h2, h3⟩ := shw_facts 60 _ hw
  have dp := dp_deref sim rv h1
  obtain ⟨as, rd⟩ := Dp.reads I _ _ _ dp ru
  have hz : (toPy (deref st d)).shown.length ≤ sizeLine := by rw [← line_eq]; exact Nat.le_trans (shown_len 60 _ hw) hl
  have big : ∀ a, u = .ref a → wpAny (model X.prog X.w) X.A (PySem.call (.builtin "repr") [u]) (EP X pins σ Q) X.xe s := by
    rintro a rfl
    refine repr_of_reads' rd h2 (fun z => by rw [noDict] at z; cases z) hg (by omega) (fun _ _ z => z) (fun h' t tk hk => ?_) hz
    refine ⟨.str (toPy (deref st d)).shown, H, I.kept (t' := tk) hk, ⟨t, rfl⟩, ?_⟩
    rw [reprD_sv]
    exact ok_here post sim (.str _)
  cases e : deref st d with
  | tup xs => rw [e] at rd; simp only [toPy] at rd; cases rd; exact big _ rfl
  | lst xs => rw [e] at rd; simp only [toPy] at rd; cases rd; exact big _ rfl
  | non =>
    rw [e] at rd; simp only [toPy] at rd; cases rd
    refine P.repr_of_none ⟨.str (toPy (deref st d)).shown, H, I.tok _, ⟨_, by rw [e]; rfl⟩, ?_⟩
    rw [reprD_sv]; exact ok_here post sim (.str _)
  | bl b =>
    rw [e] at rd; simp only [toPy] at rd; cases rd
    refine P.repr_of_bool ⟨.str (toPy (deref st d)).shown, H, I.tok _, ⟨_, by rw [e]; rfl⟩, ?_⟩
    rw [reprD_sv]; exact ok_here post sim (.str _)
  | int i =>
    rw [e] at rd hw; simp only [toPy] at rd; cases rd
    have hi : i.natAbs < 2 ^ 1900 := of_decide_eq_true hw
    refine P.repr_of_int (sm_1900 hi) ⟨.str (toPy (deref st d)).shown, H, I.tok _, ⟨_, by rw [e]; rfl⟩, ?_⟩
    rw [reprD_sv]; exact ok_here post sim (.str _)
  | str z =>
    rw [e] at rd hz; simp only [toPy] at rd; cases rd
    refine P.repr_of_str (hsz := hz) ⟨.str (toPy (deref st d)).shown, H, I.tok _, ⟨_, by rw [e]; rfl⟩, ?_⟩
    rw [reprD_sv]; exact ok_here post sim (.str _)
  | ref | exc | scr | kset => rw [e] at hw; cases hw
theorem keys_at {K : PySem.W.Frag} {φ : Wd} {H : Hp} : ∀ {vs : List V} {xs : List D} {ks : List Int}, RepVs K φ H vs xs → toKeys xs = some ks → ∃ (ps : List Addr) (kvs : List (Key × V)), vs = ps.map V.ref ∧ Paired (fun p kv => SqT K H p [kV kv.1, kv.2]) ps kvs ∧ kvs.map (·.1) = ks.map Sum.inl
  | _, _, ks, .nil, h => by
    have h : some ([] : List Int) = some ks := h
    cases h
    exact ⟨[], [], rfl, .nil, rfl⟩
  | _, _, ks, .cons (d := d) (ds := ds) a b, h => by
    unfold toKeys at h
    split at h
    · rename_i heq; cases heq
    · rename_i k w r heq
      cases heq
      cases e : toKeys ds with
      | none => rw [e] at h; cases h
      | some js =>
        rw [e] at h
        cases h
        obtain ⟨ps, kvs, h1, h2, h3⟩ := keys_at b e
        cases a with
        | @tup p us _ t1 t2 =>
          cases t2 with
          | cons a1 a2 =>
            cases a2 with
            | @cons v2 _ _ _ a3 a4 =>
              cases a4
              rw [a1.int_inv] at t1
              exact ⟨p :: ps, (Sum.inl k, v2) :: kvs, by rw [h1]; rfl, .cons t1 h2, by rw [List.map_cons, h3]; rfl⟩
    · cases h
theorem merge_some (k : Key) : ∀ (more kvs : List (Key × V)), (valV (mergeK kvs more) k).isSome = ((valV kvs k).isSome || (more.map (·.1)).any fun j => decide (j = k))
  | [], kvs => by simp [mergeK]
  | p :: r, kvs => by
    have ih := merge_some k r (putK kvs p.1 p.2)
    show (valV (mergeK (putK kvs p.1 p.2) r) k).isSome = _
    rw [ih, valV_put, List.map_cons, List.any_cons]
    by_cases e : k = p.1
    · rw [if_pos e, decide_eq_true e.symm]; simp
    · rw [if_neg e, decide_eq_false (fun z => e z.symm), Bool.false_or]
theorem keys_has (ks : List Int) (k : Int) : ((ks.map (Sum.inl : Int → Key)).any fun j => decide (j = Sum.inl k)) = ks.contains k := by
  induction ks with
  | nil => rfl
  | cons j ks ih =>
    rw [List.map_cons, List.any_cons, List.contains_cons, ih]
    congr 1
    by_cases e : j = k
    · subst e; rw [decide_eq_true rfl, beq_self_eq_true]
    · rw [decide_eq_false (fun z => e (Sum.inl.inj z)), beq_eq_false_iff_ne.mpr (fun z => e z.symm)]
theorem bDict (hc : X.calm = true) : CallR X (.type "dict") (rBl X.K .dict) := bOne (by intro z; cases z) (by intro z; cases z) fun pins s σ H v u Q φ st d I ru sim rv post => by
  cases rv with
  | @lst p vs ds h1 h2 =>
    simp only [blt1] at post
    split at post
    · rename_i ks e
      obtain ⟨ps, kvs, e1, e2, e3⟩ := keys_at h2 e
      have hs := h1.sq
      rw [e1] at hs
      refine call_dictP hc pins s σ H _ _ Q I (v1 ru) ⟨p, ps, kvs, rfl, hs, e2, fun q hq => ?_⟩
      refine post (φ.frz q) _ _ ((Ext.fresh hq).frz hq) ((sim.new hq).freeze (sim.fresh hq) (.of upd_same)) (.kset upd_same (.inr rfl) fun k => ?_)
      rw [merge_some, e3, keys_has]
      simp [valV_nil]
    · exact False.elim post
  | _ => exact False.elim post
theorem bAny (hc : X.calm = true) (hg : X.A.guards = some []) (hu : X.A.units + 65 < cLine) (b : Blt) : CallR X (bval b) (rBl X.K b) := by
  cases b with
  | len => exact bLen
  | abs => exact bAbs
  | min => exact bTwo (bMin1 hc) (fun _ _ _ => rfl) (call_min2 hc)
  | max => exact bTwo (bMax1 hc) (fun _ _ _ => rfl) (call_max2 hc)
  | int => exact bInt
  | str => exact bStr
  | tuple => exact bTuple
  | list => exact bList
  | all => exact bAll hc
  | sum => exact bSum hc
  | sorted => exact bSorted
  | bool => exact bBool
  | dict => exact bDict hc
  | repr => exact bRepr hg hu
end
end PC
end
section
set_option Elab.async false
set_option linter.all false
set_option autoImplicit false
set_option maxRecDepth 100000
set_option maxHeartbeats 1000000
namespace PC
open PySem L2 PyProof.Rows
section
variable {X : Cx}
def mName : Mth → Str
  | .append => "append" | .pop => "pop" | .insert => "insert" | .extend => "extend" | .countL => "count" | .countS => "count" | .indexL => "index" | .indexS => "index"
  | .join => "join" | .split => "split" | .partition => "partition" | .get => "get" | .upper => "upper"
def mType (m : Mth) : String := match m.isL with | true => "list" | false => "str"
def mId : Mth → String
  | .append => "list.append" | .pop => "list.pop" | .insert => "list.insert" | .extend => "list.extend" | .countL => "list.count" | .countS => "str.count" | .indexL => "list.index" | .indexS => "str.index"
  | .join => "str.join" | .split => "str.split" | .partition => "str.partition" | .get => "dict.get" | .upper => "str.upper"
/-- the methods that are served -/
def mServed : Mth → Bool
  | .append | .pop | .insert | .join | .split | .partition | .extend | .countL | .indexL | .indexS | .upper => true
  | _ => false
structure MFacts (m : Mth) : Prop where
  pa : PlainAttrs (mType m)
  slot : Slot (mType m) (mName m) (mId m)
  ty : typeOf (.builtin (mId m)) = pure (.type "method_descriptor")
theorem mFacts : ∀ m, mServed m = true → MFacts m
  | .append, _ => ⟨PySem.F.plainAttrs_list, PySem.F.slot_list_append, PySem.F.type_list_append⟩
  | .pop, _ => ⟨PySem.F.plainAttrs_list, PySem.F.slot_list_pop, PySem.F.type_list_pop⟩
  | .insert, _ => ⟨PySem.F.plainAttrs_list, PySem.F.slot_list_insert, PySem.F.type_list_insert⟩
  | .join, _ => ⟨PySem.F.plainAttrs_str, PySem.F.slot_str_join, PySem.F.type_str_join⟩
  | .split, _ => ⟨PySem.F.plainAttrs_str, PySem.F.slot_str_split, PySem.F.type_str_split⟩
  | .partition, _ => ⟨PySem.F.plainAttrs_str, PySem.F.slot_str_partition, PySem.F.type_str_partition⟩
  | .extend, _ => ⟨PySem.F.plainAttrs_list, PySem.F.slot_list_extend, PySem.F.type_list_extend⟩
  | .countL, _ => ⟨PySem.F.plainAttrs_list, PySem.F.slot_list_count, PySem.F.type_list_count⟩
  | .indexL, _ => ⟨PySem.F.plainAttrs_list, PySem.F.slot_list_index, PySem.F.type_list_index⟩
  | .indexS, _ => ⟨PySem.F.plainAttrs_str, PySem.F.slot_str_index, PySem.F.type_str_index⟩
  | .upper, _ => ⟨PySem.F.plainAttrs_str, PySem.F.slot_str_upper, PySem.F.type_str_upper⟩
def rM (K : PySem.W.Frag) (m : Mth) : V → List V → Hp → VK → Prop := fun x xs H Q => ∃ φ st o as, Sim K φ H st ∧ RepV K φ H x o ∧ RepVs K φ H xs as ∧ PostV K φ H (mth m o as st) Q
theorem mOk_ty {K : PySem.W.Frag} {φ : Wd} {H : Hp} {st : Store} {m : Mth} {x : V} {d : D} (s : Sim K φ H st) (r : RepV K φ H x d) (h : mOk m d st = true) : tyV K (mType m) x H := by
  unfold mOk at h
  unfold mType
  cases e : m.isL with
  | true =>
    rw [e] at h
    simp only at h ⊢
    split at h
    · rename_i xs ed
      obtain ⟨p, vs, rfl, h1, _⟩ := list_at s r ed
      exact .inl ⟨rfl, vs, h1⟩
    · cases h
  | false =>
    rw [e] at h
    simp only at h ⊢
    split at h
    · rw [r.str_inv]; exact rfl
    · cases h
/-- a cell that is a list, to be changed -/
theorem cell_lst {K : PySem.W.Frag} {φ : Wd} {H : Hp} {st : Store} {v : V} {k : Nat} {xs : List D} (s : Sim K φ H st) (r : RepV K φ H v (.ref k)) (e : st[k]? = some (.lst xs)) :
    ∃ p vs, v = .ref p ∧ φ.c[k]? = some p ∧ H p = some (.lst vs) ∧ RepVs K φ H vs xs := by
  cases r with
  | @ref p _ hk =>
    obtain ⟨vs, h1, h2⟩ := s.cell k p _ hk e
    exact ⟨p, vs, rfl, hk, h1, h2⟩
/-- a cell's list is put otherwise -/
theorem ok_put {K : PySem.W.Frag} {φ : Wd} {H : Hp} {st : Store} {k : Nat} {p : Addr} {vs : List V} {ds : List D} {v : V} {d : D} {Q : VK} (h : PostV K φ H (.ok d (st.set k (.lst ds))) Q) (s : Sim K φ H st) (hk : φ.c[k]? = some p)
    (r : RepVs K φ H vs ds) (rv : RepV K φ H v d) : Q v (upd H p (.lst vs)) :=
  h φ _ v (Ext.put s hk) (s.put hk ⟨vs, upd_same, r.ext (Ext.put s hk)⟩) (rv.ext (Ext.put s hk))
theorem seq_nn {i : Int} {n : Nat} (h0 : 0 ≤ i) (h1 : i.toNat < n) : seqIndex? i n = some i.toNat := PySem.StrLaws.seqIndex_nonneg h0 (by omega)
/-- xs.extend(ys), ys a list that is to be read -/
theorem mt_extendR : MtM X "list.extend" (fun x vs H Q => ∃ l b xs zs, x = .ref l ∧ vs = [.ref b] ∧ H l = some (.lst xs) ∧ Rd H b (.lst zs) ∧ xs.length + zs.length ≤ sizeLine ∧ Q .non (upd H l (.lst (xs ++ zs)))) := by
  rintro pins s σ H _ _ v us Q I rx rv ⟨l, b, xs, zs, rfl, rfl, h1, h2, hz, q⟩
  cases rx
  obtain ⟨u, rfl, ru⟩ := rv.one
  cases ru
  obtain ⟨_, i1, n1, r1, e1⟩ := rdM I (.inl h1)
  obtain ⟨_, i2, n2, r2, e2⟩ := rdM I h2
  have l1 := r1.length
  have l2 := r2.length
  have fits : Builtin.List.listTooLong (i1.toArray.size + i2.toArray.size) = false := notLongL (by simp only [List.size_toArray]; omega)
  refine call_meets PySem.F.slot_list_extend ⟨_, e1, rfl⟩ PySem.F.entry_list_extend (PySem.F.args_list_extend_2 _ _)
    (AutoSeq1.list_extend_list_list_0 l i1.toArray n1 b i2.toArray n2 (by rw [fits, Bool.and_false]; exact Bool.false_ne_true) (by simp only [List.size_toArray]; omega) (by simp only [List.size_toArray]; omega)) ?_
  exact ⟨e1, e2, .non, _, I.lset (its' := i1 ++ i2) h1 e1 (by simp) (r1.append r2) (by rw [List.length_append]; exact hz), rfl, q⟩
/-- xs.count(y), data of any depth -/
theorem mt_countD (hu : X.A.units + 65 < cLine) : MtR X "list.count" (fun x xs H Q => ∃ (a : Addr) (y : V) (d : PyData) (ds : List PyData), x = V.ref a ∧ xs = [y] ∧ Dp X.K H (V.ref a) (.list ds) ∧ Dp X.K H y d ∧ SeqAt.shaped (.list ds) = true ∧ SeqAt.shaped d = true ∧
    Q (.int (ds.countP fun z => PyData.eqv z d : Nat)) H) := by
  rintro pins s σ H _ _ v us Q I rx rxs ⟨a, y, d, ds, rfl, rfl, hl, hy, sl, sd, q⟩
  cases rx
  obtain ⟨uy, rfl, ry⟩ := rxs.one
  obtain ⟨bs, r1⟩ := Dp.reads I d y uy hy ry
  have hxs : PyData.canLayAll0 ds = true := SeqAt.canLay_of_shaped sl
  have hroom : X.A.units + 1 + min (PyData.depthAll ds) d.depth < cLine := room_in_shaped sd hu
  cases hl with
  | lst hs ha =>
    obtain ⟨its, rv, ⟨⟨cls, dd, data, sls⟩, n, ho, hc, hdn, hdt⟩, hlen⟩ := I.list hs
    simp only at hc hdt
    subst hc hdt
    obtain ⟨as, h4⟩ := Dp.readsAll I ds _ its ha rv
    have hmap : its.map (SeqAt.readOf s.heap) = ds := SeqAt.readsAll_map ds its as hxs h4
    refine call_meets PySem.F.slot_list_count ⟨_, ho, rfl⟩ PySem.F.entry_list_count (PySem.F.args_list_count_2 _ _)
      (SeqAt.list_countAt a its.toArray n dd sls uy fun u => PyData.eqv (SeqAt.readOf s.heap u) d) ?_
    refine ⟨ho, SeqAt.items_eqAt (vs := its.toArray) (show ReadsAll s.heap its.toArray.toList ds as from h4) r1 hxs (SeqAt.canLay_of_shaped sd) hroom, ?_⟩
    refine ⟨.int _, H, I.tok _, ⟨_, rfl⟩, ?_⟩
    have e : its.toArray.toList.countP (fun u => PyData.eqv (SeqAt.readOf s.heap u) d) = ds.countP fun z => PyData.eqv z d := by
      rw [← hmap, List.countP_map]; rfl
    rw [e]; exact q
theorem countEqv (ds : List D) (x : D) (hx : plain x = true) (hd : plains ds = true) : (toPys ds).countP (fun z => PyData.eqv z (toPy x)) = ds.countP fun z => pyEq z x := by
  induction ds with
  | nil => rfl
  | cons d ds ih =>
    simp only [plains, Bool.and_eq_true] at hd
    simp only [toPys, List.countP_cons, ih hd.2, eqv_py d x hd.1 hx]
theorem toPys_get : ∀ (ds : List D) (j : Nat), (toPys ds)[j]? = (ds[j]?).map toPy
  | [], _ => by simp [toPys]
  | d :: ds, 0 => by simp [toPys]
  | d :: ds, j + 1 => by simp only [toPys, List.getElem?_cons_succ]; exact toPys_get ds j
theorem plains_get : ∀ (ds : List D) (j : Nat) (z : D), plains ds = true → ds[j]? = some z → plain z = true
  | d :: ds, 0, z, h, e => by
    simp only [plains, Bool.and_eq_true] at h
    cases (by simpa using e : d = z)
    exact h.1
  | d :: ds, j + 1, z, h, e => by
    simp only [plains, Bool.and_eq_true] at h
    exact plains_get ds j z h.2 (by simpa using e)
theorem mAny (hu : X.A.units + 65 < cLine) (m : Mth) (hs : mServed m = true) : MtR X (mId m) (rM X.K m) := by
  rintro pins s σ H x xs v us Q I rx rs ⟨φ, st, o, as, sim, ro, ra, post⟩
  match as, ra, post with
  | [], ra, post =>
    cases ra
    have post : PostV X.K φ H (mth0 m o st) Q := post
    cases m with
    | pop =>
      cases o with
      | ref k =>
        simp only [mth0] at post
        split at post
        · rename_i ys e
          split at post
          · rename_i d ed
            obtain ⟨p, vs, rfl, hk, h1, h2⟩ := cell_lst sim ro e
            have hd : ys[ys.length - 1]? = some d := by rw [← List.getLast?_eq_getElem?]; exact ed
            obtain ⟨w, hw, rw'⟩ := h2.get hd
            exact mt_pop pins s σ H _ [] v us Q I rx rs ⟨p, vs, w, rfl, rfl, h1, by rw [h2.length]; exact hw, ok_put post sim hk h2.dropLast rw'⟩
          · exact False.elim post
        · exact False.elim post
      | _ => exact False.elim post
    | upper =>
      cases o with
      | str a =>
        obtain ⟨hl, post⟩ := gd_ok post
        rw [ro.str_inv] at rx
        refine mt_upper pins s σ H _ [] v us Q I rx rs ⟨sv a, rfl, rfl, by rw [sv_length]; exact hl, ?_⟩
        have e : Txt.upper (sv a) = sv (Txt.upper ⟨a.toArray⟩).cps.toList := by
          show _ = (⟨((Txt.upper ⟨a.toArray⟩).cps.toList).toArray⟩ : Str)
          rw [Array.toArray_toList]; rfl
        rw [e]
        exact ok_here post sim (.str _)
      | _ => exact False.elim post
    | _ => first | exact False.elim post | cases hs
  | [d], ra, post =>
    have post : PostV X.K φ H (mth1 m o d st) Q := post
    obtain ⟨w, rfl, rw'⟩ := rep1 ra
    cases m with
    | append =>
      cases o with
      | ref k =>
        simp only [mth1] at post
        split at post
        · rename_i ys e
          obtain ⟨hz, post⟩ := gd_ok post
          obtain ⟨p, vs, rfl, hk, h1, h2⟩ := cell_lst sim ro e
          exact mt_append pins s σ H _ _ v us Q I rx rs ⟨p, vs, w, rfl, rfl, h1, by rw [h2.length, ← line_eq]; exact hz, ok_put post sim hk (h2.append (.cons rw' .nil)) .non⟩
        · exact False.elim post
      | _ => exact False.elim post
    | pop =>
      cases o with
      | ref k =>
        cases d with
        | int i =>
          simp only [mth1] at post
          split at post
          · rename_i ys e
            obtain ⟨h0, post⟩ := gd_ok post
            split at post
            · rename_i d ed
              obtain ⟨p, vs, rfl, hk, h1, h2⟩ := cell_lst sim ro e
              obtain ⟨w2, hw, rw2⟩ := h2.get ed
              have hlt : i.toNat < vs.length := (List.getElem?_eq_some_iff.mp hw).1
              have hz : vs.length ≤ sizeLine := (rdM I (.inl h1)).1
              rw [sizeLine_eq] at hz
              rw [rw'.int_inv] at rs
              exact mt_popAt pins s σ H _ _ v us Q I rx rs ⟨p, vs, i, i.toNat, w2, rfl, rfl, h1, by omega, by omega, seq_nn h0 hlt, hw, ok_put post sim hk (h2.eraseIdx _) rw2⟩
            · exact False.elim post
          · exact False.elim post
        | _ => exact False.elim post
      | _ => exact False.elim post
    | partition =>
      cases o with
      | str z =>
        cases d with
        | str sep =>
          obtain ⟨⟨hz, hs0⟩, post⟩ := gd_ok post
          rw [ro.str_inv] at rx
          rw [rw'.str_inv] at rs
          have hne : sep ≠ [] := fun e => hs0 (by rw [e]; rfl)
          refine mt_partition pins s σ H _ _ v us Q I rx rs ⟨sv z, sv sep, rfl, rfl, by rw [sv_length]; exact beq_eq_false_iff_ne.mpr hs0, by rw [sv_length, ← line_eq]; exact hz, ?_⟩
          cases e : TL.par sep [] z with
          | some pq =>
            rw [e] at post
            have e2 := SX.partition_some (a := z) (b := sep) (p := pq.1) (q := pq.2) hne e
            rw [show Txt.partition (sv z) (sv sep) = _ from e2]
            exact ok_tup (vs := [.str (sv pq.1), .str (sv sep), .str (sv pq.2)]) post sim (.cons (.str _) (.cons (.str _) (.cons (.str _) .nil)))
          | none =>
            rw [e] at post
            have e2 := SX.partition_none (a := z) (b := sep) hne e
            rw [show Txt.partition (sv z) (sv sep) = _ from e2]
            exact ok_tup (vs := [.str (sv z), .str (sv []), .str (sv [])]) post sim (.cons (.str _) (.cons (.str _) (.cons (.str _) .nil)))
        | _ => exact False.elim post
      | _ => exact False.elim post
    | split =>
      cases o with
      | str z =>
        cases d with
        | str sep =>
          obtain ⟨⟨hz, hs0, hs1⟩, post⟩ := gd_ok post
          rw [ro.str_inv] at rx
          rw [rw'.str_inv] at rs
          have hne : sep ≠ [] := fun e => hs0 (by rw [e]; rfl)
          refine mt_split pins s σ H _ _ v us Q I rx rs ⟨sv z, sv sep, rfl, rfl, by rw [sv_length]; exact beq_eq_false_iff_ne.mpr hs0, by rw [sv_length, ← line_eq]; exact hz, ?_⟩
          show rNewStrs (Txt.split (SX.S z) (SX.S sep)) H Q
          rw [SX.split_S hne hs1]
          have r := RepVs.strs (K := X.K) (φ := φ) (H := H) (TL.spl sep 0 [] z)
          intro p hp
          have q := ok_lst post sim r p hp
          rw [List.map_map]
          exact q
        | _ => exact False.elim post
      | _ => exact False.elim post
    | join =>
      cases o with
      | str sep =>
        simp only [mth1] at post
        split at post
        · rename_i ys e
          split at post
          · rename_i ss es
            obtain ⟨hz, post⟩ := gd_ok post
            rw [toStrs_eq es] at e
            obtain ⟨p, vs, rfl, h1, h2⟩ := items_at sim rw' e
            have ev := h2.ofStrs
            rw [ro.str_inv] at rx
            have hq := ok_here post sim (.str _)
            have hj := SX.join_S sep ss
            refine mt_join pins s σ H _ _ v us Q I rx rs ⟨sv sep, p, ss.map SX.S, rfl, rfl, ?_, ?_, ?_⟩
            · rw [List.map_map]
              have : vs = ss.map (V.str ∘ SX.S) := ev
              rw [← this]
              rcases h1 with h1 | h1
              · exact .inl h1
              · exact .inr h1
            · rw [SX.lens, List.length_map, sv_length]
              exact hz
            · rw [show Txt.join (sv sep) (ss.map SX.S) = SX.S (TL.joinL sep ss) from hj]
              exact hq
          · exact False.elim post
        · exact False.elim post
      | _ => exact False.elim post
    | extend =>
      cases o with
      | ref k =>
        simp only [mth1] at post
        split at post
        · rename_i ys zs e e2
          obtain ⟨hz, post⟩ := gd_ok post
          obtain ⟨p, vs, rfl, hk, h1, h2⟩ := cell_lst sim ro e
          obtain ⟨p2, ws, rfl, h3, h4⟩ := list_atB sim rw' e2
          exact mt_extendR pins s σ H _ _ v us Q I rx rs ⟨p, p2, vs, ws, rfl, rfl, h1, h3, by rw [h2.length, h4.length, ← line_eq]; exact hz, ok_put post sim hk (h2.append h4) .non⟩
        · exact False.elim post
      | _ => exact False.elim post
    | countL =>
      simp only [mth1] at post
      split at post
      · rename_i ys e
        obtain ⟨⟨h1, h2⟩, post⟩ := gd_ok post
        obtain ⟨p1, q1⟩ := shp_iff h1
        obtain ⟨p2, q2⟩ := shp_iff h2
        have d1 := dp_deref sim ro (by rw [e]; exact p1)
        rw [e] at d1
        obtain ⟨p, vs, rfl, h3, h4⟩ := list_at sim ro e
        refine mt_countD hu pins s σ H _ _ v us Q I rx rs ⟨p, w, toPy d, toPys ys, rfl, rfl, d1, rep_dp rw' p2, q1, q2, ?_⟩
        rw [countEqv ys d p2 p1]
        exact ok_here post sim (.int _)
      · exact False.elim post
    | indexL =>
      simp only [mth1] at post
      split at post
      · rename_i ys e
        obtain ⟨⟨h1, h2⟩, post⟩ := gd_ok post
        split at post
        · rename_i j ej
          obtain ⟨p1, q1⟩ := shp_iff h1
          obtain ⟨p2, q2⟩ := shp_iff h2
          have d1 := dp_deref sim ro (by rw [e]; exact p1)
          rw [e] at d1
          obtain ⟨p, vs, rfl, h3, h4⟩ := list_at sim ro e
          obtain ⟨hj, hj1, hj2⟩ := List.findIdx?_eq_some_iff_getElem.mp ej
          have pj : plain ys[j] = true := plains_get ys j _ p1 (List.getElem?_eq_getElem hj)
          refine mt_indexD hu pins s σ H _ _ v us Q I rx rs ⟨p, w, toPy d, toPys ys, j, toPy ys[j], rfl, rfl, d1, rep_dp rw' p2, q1, q2, by rw [toPys_get, List.getElem?_eq_getElem hj]; rfl, by rw [eqv_py _ _ pj p2]; exact hj1, fun m z' hm hz' => ?_, ok_here post sim (.int _)⟩
          rw [toPys_get, List.getElem?_eq_getElem (by omega)] at hz'
          cases hz'
          rw [eqv_py _ _ (plains_get ys m _ p1 (List.getElem?_eq_getElem (by omega))) p2]
          simpa using hj2 m hm
        · exact False.elim post
      · exact False.elim post
    | indexS =>
      cases o with
      | str a =>
        cases d with
        | str b =>
          simp only [mth1] at post
          split at post
          · rename_i i rest e
            rw [ro.str_inv] at rx
            rw [rw'.str_inv] at rs
            exact mt_sindex pins s σ H _ _ v us Q I rx rs ⟨sv a, sv b, i, rest, rfl, rfl, by rw [sv_length]; exact e, ok_here post sim (.int _)⟩
          · exact False.elim post
        | _ => exact False.elim post
      | _ => exact False.elim post
    | _ => first | exact False.elim post | cases hs
  | [d, e], ra, post =>
    have post : PostV X.K φ H (mth2 m o d e st) Q := post
    obtain ⟨w, w2, rfl, rw', rw2⟩ := rep2 ra
    cases m with
    | insert =>
      cases o with
      | ref k =>
        cases d with
        | int i =>
          simp only [mth2] at post
          split at post
          · rename_i ys ec
            obtain ⟨⟨h0, h1, h2⟩, post⟩ := gd_ok post
            obtain ⟨p, vs, rfl, hk, h3, h4⟩ := cell_lst sim ro ec
            rw [rw'.int_inv] at rs
            exact mt_insert pins s σ H _ _ v us Q I rx rs ⟨p, vs, i, w2, rfl, rfl, h3, by rw [h4.length, ← line_eq]; exact h0, h1, h2, ok_put post sim hk (((h4.take _).append (.cons rw2 .nil)).append (h4.drop _)) .non⟩
          · exact False.elim post
        | _ => exact False.elim post
      | _ => exact False.elim post
    | _ => first | exact False.elim post | cases hs
  | _ :: _ :: _ :: _, _, post => exact False.elim post
end
end PC
end
section
set_option Elab.async false
set_option linter.all false
set_option autoImplicit false
set_option maxRecDepth 100000
set_option maxHeartbeats 1000000
namespace PC
open PySem L2 PyProof.Rows

/-! ### a core's text -/
def visB (sc : Scope) (x : Str) : Bool := match sc.names.lookup x with
  | some .local => true
  | some .cell => true
  | some .free => true
  | _ => false
def locB (sc : Scope) (x : Str) : Bool := match sc.names.lookup x with
  | some .local => true
  | some .cell => true
  | _ => false
def glB (sc : Scope) (x : Str) : Bool := match sc.names.lookup x with
  | some .globalImplicit => true
  | _ => false
def nmB (x : Str) : Bool := !(x == ("__debug__" : Str)) && !(x == ("__classdict__" : Str)) && !(x == ("__name__" : Str))
/-- the forms that have a core -/
def good : Expr → Bool
  | .Name _ _ | .Constant _ _ _ | .BinOp _ _ _ _ | .UnaryOp _ _ _ | .BoolOp _ _ _ | .IfExp _ _ _ _ | .Compare _ _ _ _ | .Tuple _ _ _ | .List _ _ | .Subscript _ _ _ | .Attribute _ _ _ | .ListComp _ _ _ _ | .Dict _ _ _ => true
  | .Call _ _ _ _ => true
  | _ => false
/-- .. as a receiver of a method: no call without arguments -/
def goodO : Expr → Bool
  | .Call _ [] [] _ => false
  | _ => true
def bName : Blt → Str
  | .len => "len" | .abs => "abs" | .min => "min" | .max => "max" | .int => "int" | .str => "str" | .tuple => "tuple" | .list => "list" | .all => "all" | .sum => "sum" | .sorted => "sorted" | .repr => "repr" | .bool => "bool" | .dict => "dict"
def tName : Ty → Str
  | .int => "int" | .bool => "bool" | .str => "str" | .tuple => "tuple" | .list => "list" | .dict => "dict" | .own c => Str.ofString c
def tBlt : Ty → Bool
  | .own _ => false
  | _ => true
def bltNames : List Str := ["len", "abs", "min", "max", "int", "str", "tuple", "list", "all", "sum", "sorted", "repr", "bool", "dict", "isinstance", "range", "enumerate", "zip", "reversed", "ValueError", "set"]
def relS' (scope sc : Scope) : Scope := L2.relS scope sc
/-- the names of a target, with their places -/
def ownOf (N : List Str) : List Nat → List (Str × Nat)
  | [] => []
  | i :: is => (N.getD i "", i) :: ownOf N is
def chkNames (N : List Str) (scope : Scope) : List Nat → List Expr → Bool
  | [], [] => true
  | i :: is, .Name x _ :: es => decide (N[i]? = some x) && locB scope x && chkNames N scope is es
  | _, _ => false
def chkT (N : List Str) (scope : Scope) (t : List Nat) (one : Bool) (tg : Expr) : Bool :=
  match one with
  | true => match t, tg with
    | [i], .Name x _ => decide (N[i]? = some x) && locB scope x
    | _, _ => false
  | false => match tg with
    | .Tuple es _ _ => chkNames N scope t es
    | _ => false
/-- the classes that isinstance is asked for -/
def chkCs (sc : Scope) : List String → List Expr → Bool
  | [], [] => true
  | c :: cs, .Name x _ :: es => decide (x = Str.ofString c) && glB sc x && nmB x && chkCs sc cs es
  | _, _ => false
def chkC (sc : Scope) (one : Bool) (cs : List String) (z : Expr) : Bool :=
  match one with
  | true => match cs, z with
    | [c], .Name x _ => decide (x = Str.ofString c) && glB sc x && nmB x
    | _, _ => false
  | false => match z with
    | .Tuple es _ _ => decide (cs.length ≤ 100) && chkCs sc cs es
    | _ => false
mutual
def chkE (N : List Str) (sc : Scope) : CE → Expr → Bool
  | .var i, .Name x _ => decide (N[i]? = some x) && visB sc x && nmB x
  | .non, .Constant .none _ _ => true
  | .bl b, .Constant (.bool c) _ _ => decide (c = b)
  | .int i, .Constant (.int j) _ _ => decide (j = i)
  | .str s, .Constant (.str x) _ _ => decide (x = sv s)
  | .glob x, .Name y _ => decide (y = Str.ofString x) && glB sc y && nmB y
  | .bin op a b, .BinOp l o r _ => decide (o = op) && chkE N sc a l && chkE N sc b r
  | .neg a, .UnaryOp .USub x _ => chkE N sc a x
  | .inv a, .UnaryOp .Invert x _ => chkE N sc a x
  | .not a, .UnaryOp .Not x _ => chkE N sc a x
  | .and a b, .BoolOp .And (x :: y :: rest) pos => chkE N sc a x && (match rest with | [] => chkE N sc b y | _ :: _ => chkE N sc b (.BoolOp .And (y :: rest) pos))
  | .or a b, .BoolOp .Or (x :: y :: rest) pos => chkE N sc a x && (match rest with | [] => chkE N sc b y | _ :: _ => chkE N sc b (.BoolOp .Or (y :: rest) pos))
  | .ite c a b, .IfExp t x y _ => chkE N sc c t && chkE N sc a x && chkE N sc b y
  | .cmp op a b, .Compare l [o] [r] _ => decide (o = op) && chkE N sc a l && chkE N sc b r
  | .chain op op' a b c, .Compare l [o, o'] [m, r] _ => decide (o = op) && decide (o' = op') && chkE N sc a l && chkE N sc b m && chkE N sc c r
  | .tup es, .Tuple xs _ _ => chkEs N sc es xs
  | .new l, e => chkL N sc l e
  | .cell l, e => chkL N sc l e
  | .dict0 _, .Dict [] [] _ => true
  | .dgetK o k, .Subscript x y _ => chkE N sc o x && chkE N sc k y
  | .dgetT o es, .Subscript x (.Tuple ys _ _) _ => chkE N sc o x && chkEs N sc es ys
  | .dinK neg k o, .Compare l [op] [r] _ => decide (op = if neg then .NotIn else .In) && chkE N sc k l && chkE N sc o r
  | .dinT neg es o, .Compare (.Tuple ys _ _) [op] [r] _ => decide (op = if neg then .NotIn else .In) && chkEs N sc es ys && chkE N sc o r
  | .make c es, .Call (.Name x _) ys [] _ => decide (x = Str.ofString c) && glB sc x && nmB x && chkEs N sc es ys
  | .meth _ m o es, .Call (.Attribute x a ap) ys [] cp => decide (a = Str.ofString m) && goodO x && decide (ap.endLine = cp.line) && decide (ys.length < 20) && chkE N sc o x && chkEs N sc es ys
  | .fld _ o f, .Attribute x a _ => decide (a = Str.ofString f) && goodO x && chkE N sc o x
  | .idx a i, .Subscript x y _ => chkE N sc a x && chkE N sc i y
  | .slice a lo hi, .Subscript x (.Slice l h none _) _ => chkE N sc a x && chkO N sc lo l && chkO N sc hi h
  | .lenSet e, .Call (.Name x _) [.Call (.Name y _) [z] [] _] [] _ => decide (x = "len") && glB sc x && decide (y = "set") && glB sc y && chkE N sc e z
  | .tupR e, .Call (.Name x _) [.Call (.Name y _) [z] [] _] [] _ => decide (x = "tuple") && glB sc x && decide (y = "range") && glB sc y && chkE N sc e z
  | .fcall fs i es, .Call (.Subscript (.List ls _) z _) (y :: ys) [] _ => chkCs sc fs ls && chkE N sc i z && chkEs N sc es (y :: ys)
  | .call f es, .Call (.Name x _) ys [] _ => decide (x = Str.ofString f) && glB sc x && nmB x && chkEs N sc es ys
  | .blt b es, .Call (.Name x _) (y :: ys) [] _ => decide (x = bName b) && glB sc x && chkEs N sc es (y :: ys)
  | .mth m o es, .Call (.Attribute x a ap) ys [] cp => decide (a = mName m) && mServed m && goodO x && decide (ap.endLine = cp.line) && decide (ys.length < 20) && chkE N sc o x && chkEs N sc es ys
  | .isX a one cs, .Call (.Name x _) [y, z] [] _ => decide (x = "isinstance") && glB sc x && chkE N sc a y && chkC sc one cs z
  | .isI a t, .Call (.Name x _) [y, .Name z _] [] _ => decide (x = "isinstance") && glB sc x && decide (z = tName t) && tBlt t && glB sc z && chkE N sc a y
  | _, _ => false
termination_by structural c => c
def chkL (N : List Str) (sc : Scope) : CL → Expr → Bool
  | .disp es, .List xs _ => chkEs N sc es xs
  | .comp t one it c e, .ListComp elt [⟨tg, iter, ifs, k⟩] scope _ => decide (k = 0) && blkC N sc scope (ownOf N t) && chkT N scope t one tg && chkI N sc it tg iter &&
      chkIf N (relS' scope sc) c ifs && chkE N (relS' scope sc) e elt
  | .listOf e, .Call (.Name x _) [y] [] _ => decide (x = "list") && glB sc x && chkE N sc e y
  | .rep es n, .BinOp (.List xs _) .Mult r _ => chkEs N sc es xs && chkE N sc n r
  | .cat a b, .BinOp l o r _ => decide (o = .Add) && chkE N sc a l && chkE N sc b r
  | .range1 a, .Call (.Name x _) [.Call (.Name y _) [z] [] _] [] _ => decide (x = "list") && glB sc x && decide (y = "range") && glB sc y && chkE N sc a z
  | .range2 a b, .Call (.Name x _) [.Call (.Name y _) [z, w] [] _] [] _ => decide (x = "list") && glB sc x && decide (y = "range") && glB sc y && chkE N sc a z && chkE N sc b w
  | _, _ => false
termination_by structural c => c
def chkEs (N : List Str) (sc : Scope) : CEs → List Expr → Bool
  | .nil, [] => true
  | .cons c cs, e :: es => chkE N sc c e && chkEs N sc cs es
  | _, _ => false
termination_by structural c => c
def chkO (N : List Str) (sc : Scope) : CO → Option Expr → Bool
  | .none, none => true
  | .some c, some e => chkE N sc c e
  | _, _ => false
termination_by structural c => c
def chkIf (N : List Str) (sc : Scope) : CO → List Expr → Bool
  | .none, [] => true
  | .some c, [e] => chkE N sc c e
  | _, _ => false
termination_by structural c => c
def chkI (N : List Str) (sc : Scope) : CI → Expr → Expr → Bool
  | .of c, _, e => chkE N sc c e
  | .range1 a, _, .Call (.Name x _) [y] [] _ => decide (x = "range") && glB sc x && chkE N sc a y
  | .range2 a b, _, .Call (.Name x _) [y, z] [] _ => decide (x = "range") && glB sc x && chkE N sc a y && chkE N sc b z
  | .enum a, .Tuple _ _ _, .Call (.Name x _) [y] [] _ => decide (x = "enumerate") && glB sc x && chkE N sc a y
  | .zip a b, .Tuple _ _ _, .Call (.Name x _) [y, z] [] _ => decide (x = "zip") && glB sc x && chkE N sc a y && chkE N sc b z
  | .rrange2 a b, _, .Call (.Name x _) [.Call (.Name y _) [z, w] [] _] [] _ => decide (x = "reversed") && glB sc x && decide (y = "range") && glB sc y && chkE N sc a z && chkE N sc b w
  | .range3 a b c, _, .Call (.Name x _) [y, z, w] [] _ => decide (x = "range") && glB sc x && chkE N sc a y && chkE N sc b z && chkE N sc c w
  | _, _, _ => false
termination_by structural c => c
end

/-! ### plain facts of forms -/
theorem good_of {N : List Str} {sc : Scope} : ∀ {c : CE} {e : Expr}, chkE N sc c e = true → good e = true := by
  intro c e h
  cases e with
  | Name | Constant | BinOp | UnaryOp | BoolOp | IfExp | Compare | Tuple | List | Subscript | Attribute | ListComp | Dict | Call => rfl
  | _ =>
    cases c with
    | new l => cases l <;> cases h
    | cell l => cases l <;> cases h
    | _ => cases h
theorem star_good {e : Expr} {es : List Expr} {env : Env} (h : good e = true) : starEach (e :: es) env = (false, eval e env) :: starEach es env := by
  cases e <;> first | rfl | cases h
theorem visB_ok {sc : Scope} {x : Str} (h : visB sc x = true) : Vis sc x := by
  unfold visB at h
  split at h
  · exact .inl (by assumption)
  · exact .inr (.inl (by assumption))
  · exact .inr (.inr (by assumption))
  · cases h
theorem locB_ok {sc : Scope} {x : Str} (h : locB sc x = true) : Loc sc x := by
  unfold locB at h
  split at h
  · exact .inl (by assumption)
  · exact .inr (by assumption)
  · cases h
theorem glB_ok {X : Cx} {x : Str} (h : glB X.env.scope x = true) : Gl X x := by
  unfold glB at h
  split at h
  · assumption
  · cases h
theorem nmB_ok {x : Str} (h : nmB x = true) : (x == ("__debug__" : Str)) = false ∧ (x == ("__classdict__" : Str)) = false ∧ x ≠ "__name__" := by
  unfold nmB at h
  simp only [Bool.and_eq_true, Bool.not_eq_true', beq_eq_false_iff_ne] at h ⊢
  exact ⟨h.1.1, h.1.2, h.2⟩
theorem base_good {e : Expr} {f : Str} {env : Env} {w : Sem Value} (h : good e = true) (h' : goodO e = true) : attributeBase e f env w = w := by
  cases e with
  | Call g as ks p =>
    cases g with
    | Name id q =>
      cases as with
      | nil =>
        cases ks with
        | nil => cases h'
        | cons _ _ => rfl
      | cons _ _ => rfl
    | _ => rfl
  | _ => first | rfl | cases h
theorem mark_good {op : CmpOp} {e : Expr} (h : good e = true) : behindInMarks op e = false := by
  cases e <;> first | rfl | cases h
theorem last_good {op op' : CmpOp} {a e : Expr} (h : good e = true) : lastMarks [op, op'] [a, e] = false := mark_good (op := op') h
theorem ix_good {e : Expr} (h : good e = true) : PlainIx e := by
  intro o i
  cases e <;> first | rfl | cases h
theorem fold_good {e : Expr} {env : Env} (h : good e = true) : ∀ x, foldedSetIterable e env x = pure x := by
  intro x
  cases e <;> first | rfl | cases h
theorem test_plain {e : Expr} {env : Env} (h : (match e with | .UnaryOp _ _ _ => false | .BoolOp _ _ _ => false | .IfExp _ _ _ _ => false | .Compare _ _ _ _ => false | _ => true) = true) :
    ∀ whole, isTrue e env whole = (do let v ← whole; standAt e.pos; holding [v] (truthy v)) := by
  intro whole
  cases e <;> first | rfl | cases h

/-! ### what a core says of its text -/
abbrev WT := L2.St → Wd → Hp → Store → D → Prop
/-- the class that a name stands for -/
def cvOf (K : PySem.W.Frag) (k : String) : Value := if k = "ValueError" then .type "ValueError" else .ref (He.ga K (Str.ofString k))
/-- what is known of an own exception class that is raised -/
structure XcOk (K : PySem.W.Frag) (mg : Str → Option Value) (c : String) : Prop where
  mg : mg (Str.ofString c) = some (.ref (He.ga K (Str.ofString c)))
  kp : PySem.W.keepIn K (.ref (He.ga K (Str.ofString c))) = true
  ein : PySem.W.excIn K (He.ga K (Str.ofString c)) [.type "ValueError", .type "Exception", .type "BaseException", .type "object"] "ValueError.__new__" = true
  is : ExcC K (He.ga K (Str.ofString c))
  ty : PySem.W.typeIn K (.ref (He.ga K (Str.ofString c))) = some (.type "type")
/-- .. of all exception classes -/
structure XOk (ge : GE) (K : PySem.W.Frag) (mg : Str → Option Value) : Prop where
  xc : ∀ c, ge.xc c = true → XcOk K mg c
  xk : ∀ k, ge.xk k = true → k = "ValueError" ∨ (k ≠ "ValueError" ∧ mg (Str.ofString k) = some (.ref (He.ga K (Str.ofString k))))
  kit : ∀ c k, ge.xc c = true → ge.xk k = true → PySem.W.kitOne K (.ref (He.ga K (Str.ofString c))) (cvOf K k) = some (ge.sub c k)
  non : ∀ k, ge.xk k = true → PySem.W.kitOne K (.type "NoneType") (cvOf K k) = some false
  exm : ∀ c k, ge.xc c = true → ge.xk k = true → k ≠ "ValueError" → PySem.W.exmOne K (.ref (He.ga K (Str.ofString c))) (.ref (He.ga K (Str.ofString k))) = some (ge.sub c k)
/-- the wish of an exception: its class, no dict -/
def wX (K : PySem.W.Frag) (E : XK) : Wd → Hp → Store → D → Prop := fun _ H _ d => ∃ c, d = .exc c [] ∧ E (.ref (He.ga K (Str.ofString c))) none H
abbrev wOf (K : PySem.W.Frag) (Wx : WX) : WT := fun σ => wX K (fun cls d H => Wx cls d σ H)
/-- the def's own names, its room, what the module holds -/
structure Ok (ge : GE) (X : Cx) : Prop where
  calm : X.calm = true
  nd : X.N.Nodup
  room : X.A.units + 65 < cLine
  grd : X.A.guards = some []
  free : ∀ x ∈ bltNames, X.mg x = none
  glob : ∀ x d, ge.gl x = some d → ∃ v u, X.mg (Str.ofString x) = some u ∧ RelV v u ∧ ∀ φ H, RepV X.K φ H v d
  cls : ∀ c, ge.cl c = true → Cls X.K (He.ga X.K (Str.ofString c))
  noat : ∀ c f, ge.fd c f = true → NoAttr X.K (He.ga X.K (Str.ofString c)) (Str.ofString f)
  x : XOk ge X.K X.mg
abbrev noWT : WT := fun _ => noW
/-- the calls, with what is wanted of an exception -/
def Calls (ge : GE) (cf : CF) (X : Cx) (W : WT) : Prop := ∀ (f : String) (e : Expr) (es : List Expr) (t : TA) (p pos : Pos), ge.fs f = true → glB X.env.scope (Str.ofString f) = true → nmB (Str.ofString f) = true → good e = true → (∀ x ∈ es, good x = true) → PA X (e :: es) t →
  PE X (.Call (.Name (Str.ofString f) p) (e :: es) [] pos) (fun σ H Q => t σ H fun vs H1 => ∃ φ st as, Sim X.K φ H1 st ∧ RepVs X.K φ H1 vs as ∧ Post X.K (RV X.K) (W σ) φ H1 (cf f as st) Q)
def Calls0 (ge : GE) (cf : CF) (X : Cx) (W : WT) : Prop := ∀ (f : String) (p pos : Pos), ge.fs f = true → glB X.env.scope (Str.ofString f) = true → nmB (Str.ofString f) = true →
  PE X (.Call (.Name (Str.ofString f) p) [] [] pos) (fun σ H Q => ∃ φ st, Sim X.K φ H st ∧ Post X.K (RV X.K) (W σ) φ H (cf f [] st) Q)
/-- a def that a value names -/
def CallsV (ge : GE) (cf : CF) (X : Cx) (W : WT) : Prop := ∀ (a0 b0 : Expr) (p0 : Pos) (fe : TE) (e : Expr) (es : List Expr) (t : TA) (pos : Pos), good e = true → (∀ x ∈ es, good x = true) → PE X (.Subscript a0 b0 p0) fe → PA X (e :: es) t →
  PE X (.Call (.Subscript a0 b0 p0) (e :: es) [] pos) (fun σ H Q => fe σ H fun x H1 => ∃ f a, ge.fs f = true ∧ x = .ref a ∧ X.mg (Str.ofString f) = some (.ref a) ∧
    t σ H1 fun vs H2 => ∃ φ st as, Sim X.K φ H2 st ∧ RepVs X.K φ H2 vs as ∧ Post X.K (RV X.K) (W σ) φ H2 (cf f as st) Q)
theorem Post.monoW {α β : Type} {K : PySem.W.Frag} {R : Wd → Hp → β → α → Prop} {W W' : Wd → Hp → Store → D → Prop} {φ : Wd} {H : Hp} {r : Res α} {Q : β → Hp → Prop} (h : Post K R W φ H r Q) (k : ∀ φ H st d, W φ H st d → W' φ H st d) : Post K R W' φ H r Q := by
  cases r with
  | ok d st => exact h
  | exc d st => exact fun φ1 H1 e s => k _ _ _ _ (h φ1 H1 e s)
  | err => exact h
theorem Post.monoQ {α β : Type} {K : PySem.W.Frag} {R : Wd → Hp → β → α → Prop} {W : Wd → Hp → Store → D → Prop} {φ : Wd} {H : Hp} {r : Res α} {Q Q' : β → Hp → Prop} (h : Post K R W φ H r Q) (k : ∀ v H, Q v H → Q' v H) : Post K R W φ H r Q' := by
  cases r with
  | ok d st => exact fun φ1 H1 v e s r => k _ _ (h φ1 H1 v e s r)
  | exc d st => exact h
  | err => exact h
/-- the arguments of a call as it is written: none, or some -/
def ArgsOk (X : Cx) (es : List Expr) (t : TA) : Prop := (∀ x ∈ es, good x = true) ∧ PA X es t ∧ (es = [] → ∀ σ H Q, t σ H Q → Q [] H)
/-- methods, with what is wanted of an exception -/
def CallsO (ge : GE) (cf : CF) (X : Cx) (W : WT) : Prop := ∀ (c m : String) (o : Expr) (es : List Expr) (to : TE) (t : TA) (ap pos : Pos), ge.cl c = true → ge.ms c m = true → good o = true → goodO o = true → (ap.endLine == pos.line) = true → es.length < 20 → PE X o to → ArgsOk X es t →
  PE X (.Call (.Attribute o (Str.ofString m) ap) es [] pos) (fun σ H Q => to σ H fun x H1 => ∃ a dx fs, x = .ref a ∧ H1 a = some (.ins (He.ga X.K (Str.ofString c)) dx fs) ∧ fs.lookup (Str.ofString m) = none ∧
    t σ H1 fun vs H2 => ∃ φ st as, Sim X.K φ H2 st ∧ RepVs X.K φ H2 (x :: vs) as ∧ Post X.K (RV X.K) (W σ) φ H2 (cf (mN c m) as st) Q)
/-- instances are made -/
def CallsI (ge : GE) (cf : CF) (X : Cx) (W : WT) : Prop := ∀ (c : String) (es : List Expr) (t : TA) (p pos : Pos), ge.cl c = true → ge.ms c "__init__" = true → glB X.env.scope (Str.ofString c) = true → nmB (Str.ofString c) = true → ArgsOk X es t →
  PE X (.Call (.Name (Str.ofString c) p) es [] pos) (fun σ H Q => t σ H fun vs H1 => ∀ x dx, H1 x = none → H1 dx = none → dx ≠ x →
    ∃ φ st as, Sim X.K φ (upd (upd H1 dx (.own x)) x (.ins (He.ga X.K (Str.ofString c)) dx [])) st ∧ RepVs X.K φ (upd (upd H1 dx (.own x)) x (.ins (He.ga X.K (Str.ofString c)) dx [])) (.ref x :: vs) as ∧
      Post X.K (RV X.K) (W σ) φ (upd (upd H1 dx (.own x)) x (.ins (He.ga X.K (Str.ofString c)) dx [])) (cf (mN c "__init__") as st) (fun v H2 => v = .non ∧ Q (.ref x) H2))
section
variable {X : Cx}
/-- weaker readings -/
theorem PE.weak {e : Expr} {t t' : TE} (h : PE X e t) (k : ∀ σ H Q, t' σ H Q → t σ H Q) : PE X e t' := ⟨fun pins s σ H Q I q => h.run pins s σ H Q I (k σ H Q q)⟩
theorem PA.weak {e : List Expr} {t t' : TA} (h : PA X e t) (k : ∀ σ H Q, t' σ H Q → t σ H Q) : PA X e t' := ⟨fun pos pins s σ H Q I q => h.run pos pins s σ H Q I (k σ H Q q)⟩
theorem PT.weak {e : Expr} {t t' : TT} (h : PT X e t) (k : ∀ σ H Q, t' σ H Q → t σ H Q) : PT X e t' := ⟨fun pins s σ H Q I q => h.run pins s σ H Q I (k σ H Q q)⟩
theorem PW.weak {e : Expr} {t t' : TT} (h : PW X e t) (k : ∀ σ H Q, t' σ H Q → t σ H Q) : PW X e t' := ⟨fun wh pins s σ H Q I q => h.run wh pins s σ H Q I (k σ H Q q)⟩
end
/-- a reading by an evaluation of the core -/
def tR {α β : Type} (K : PySem.W.Frag) (W : WT) (R : Wd → Hp → β → α → Prop) (f : Slots → Store → Res α) : L2.St → Hp → (β → Hp → Prop) → Prop := fun σ H Q => ∃ φ τ st, RepS K φ H σ τ ∧ Sim K φ H st ∧ Post K R (W σ) φ H (f τ st) Q
abbrev tD (K : PySem.W.Frag) (W : WT) (f : Slots → Store → Res D) : TE := tR K W (RV K) f
abbrev RVs (K : PySem.W.Frag) : Wd → Hp → List V → List D → Prop := fun φ H v d => RepVs K φ H v d
abbrev tDs (K : PySem.W.Frag) (W : WT) (f : Slots → Store → Res (List D)) : TA := tR K W (RVs K) f
/-- a test: the value is a truth -/
def asB (r : Res D) : Res Bool := r.bind fun x st => match x with | .bl b => .ok b st | _ => .err
abbrev tB' (K : PySem.W.Frag) (W : WT) (f : Slots → Store → Res D) : TT := tR K W (fun _ _ (v : Bool) b => v = b) fun τ st => asB (f τ st)
/-- first f, then g -/
theorem tR.bind {α α' β β' : Type} {K : PySem.W.Frag} {W : WT} {R : Wd → Hp → β → α → Prop} {R' : Wd → Hp → β' → α' → Prop} {f : Slots → Store → Res α} {g : Slots → α → Store → Res α'} {σ : L2.St} {H : Hp} {Q : β' → Hp → Prop} {Q1 : β → Hp → Prop}
    (h : tR K W R' (fun τ st => (f τ st).bind (g τ)) σ H Q)
    (k : ∀ φ τ x st v H1, RepS K φ H1 σ τ → Sim K φ H1 st → R φ H1 v x → Post K R' (W σ) φ H1 (g τ x st) Q → Q1 v H1) : tR K W R f σ H Q1 := by
  obtain ⟨φ, τ, st, rs, sim, post⟩ := h
  exact ⟨φ, τ, st, rs, sim, post.bind fun x st1 φ1 H1 v e s1 rv p => k φ1 τ x st1 v H1 (rs.ext e) s1 rv p⟩
theorem tR.of {α β : Type} {K : PySem.W.Frag} {W : WT} {R : Wd → Hp → β → α → Prop} {f : Slots → Store → Res α} {σ : L2.St} {H : Hp} {Q : β → Hp → Prop} {φ : Wd} {τ : Slots} {st : Store} (rs : RepS K φ H σ τ) (sim : Sim K φ H st) (post : Post K R (W σ) φ H (f τ st) Q) : tR K W R f σ H Q :=
  ⟨φ, τ, st, rs, sim, post⟩
/-! ### what never lets an exception out -/
def NoX {α : Type} (r : Res α) : Prop := ∀ d st, r ≠ .exc d st
theorem NoX.ok {α : Type} {a : α} {st : Store} : NoX (.ok a st) := fun _ _ h => nomatch h
theorem NoX.err {α : Type} : NoX (.err : Res α) := fun _ _ h => nomatch h
theorem NoX.gd {α : Type} {p : Prop} [Decidable p] {r : Res α} (h : NoX r) : NoX (PC.gd p r) := by
  unfold PC.gd
  split
  · exact h
  · exact NoX.err
theorem NoX.bind {α β : Type} {r : Res α} {f : α → Store → Res β} (h : NoX r) (k : ∀ a st, NoX (f a st)) : NoX (r.bind f) := by
  cases r with
  | ok a st => exact k a st
  | exc d st => exact absurd rfl (h d st)
  | err => exact NoX.err
theorem Post.nox {α β : Type} {K : PySem.W.Frag} {R : Wd → Hp → β → α → Prop} {W W' : Wd → Hp → Store → D → Prop} {φ : Wd} {H : Hp} {r : Res α} {Q : β → Hp → Prop} (h : Post K R W φ H r Q) (hn : NoX r) : Post K R W' φ H r Q := by
  cases r with
  | ok a st => exact h
  | exc d st => exact absurd rfl (hn d st)
  | err => exact h
theorem addD_nox {st : Store} {x y : D} : NoX (addD st x y) := by unfold addD; (repeat' (first | exact NoX.ok | exact NoX.err | apply NoX.gd | split))
theorem mulD_nox {st : Store} {x y : D} : NoX (mulD st x y) := by unfold mulD; (repeat' (first | exact NoX.ok | exact NoX.err | apply NoX.gd | split))
theorem binop_nox {op : Operator} {x y : D} {st : Store} : NoX (binop op x y st) := by
  cases op <;> simp only [binop] <;> first | exact addD_nox | exact mulD_nox | (repeat' (first | exact NoX.ok | exact NoX.err | apply NoX.gd | split))
theorem cmpI_nox {st : Store} {f : Int → Int → Bool} {x y : D} : NoX (cmpI st f x y) := by unfold cmpI; (repeat' (first | exact NoX.ok | exact NoX.err | apply NoX.gd | split))
theorem inD_nox {st : Store} {x y : D} : NoX (inD st x y) := by unfold inD; (repeat' (first | exact NoX.ok | exact NoX.err | apply NoX.gd | split))
theorem isD_nox {st : Store} {x y : D} : NoX (isD st x y) := by unfold isD; (repeat' (first | exact NoX.ok | exact NoX.err | apply NoX.gd | split))
theorem eqD_nox {st : Store} {x y : D} : NoX (eqD st x y) := by unfold eqD; (repeat' (first | exact NoX.ok | exact NoX.err | apply NoX.gd | split))
theorem cmpB_nox {op : CmpOp} {x y : D} {st : Store} : NoX (cmpB op x y st) := by
  cases op <;> simp only [cmpB] <;> first | exact cmpI_nox | exact inD_nox | exact isD_nox | exact eqD_nox | exact NoX.bind inD_nox (fun _ _ => NoX.ok) | exact NoX.bind isD_nox (fun _ _ => NoX.ok) | exact NoX.bind eqD_nox (fun _ _ => NoX.ok)
theorem idxD_nox {st : Store} {x y : D} : NoX (idxD st x y) := by unfold idxD; (repeat' (first | exact NoX.ok | exact NoX.err | apply NoX.gd | split))
theorem sliceD_nox {st : Store} {x : D} {lo hi : Option Int} : NoX (sliceD st x lo hi) := by unfold sliceD; (repeat' (first | exact NoX.ok | exact NoX.err | apply NoX.gd | split))
theorem lenD_nox {st : Store} {d : D} : NoX (lenD st d) := by unfold lenD; (repeat' (first | exact NoX.ok | exact NoX.err | apply NoX.gd | split))
theorem sortD_nox {st : Store} {d : List D} : NoX (sortD st d) := by unfold sortD; (repeat' (first | exact NoX.ok | exact NoX.err | apply NoX.gd | split))
theorem blt1_nox {b : Blt} {d : D} {st : Store} : NoX (blt1 b d st) := by
  cases b <;> simp only [blt1] <;> first | exact lenD_nox | ((repeat' (first | exact NoX.ok | exact NoX.err | apply NoX.gd | split)); done) | (split <;> first | exact sortD_nox | exact NoX.err)
theorem blt2_nox {b : Blt} {d e : D} {st : Store} : NoX (blt2 b d e st) := by unfold blt2; (repeat' (first | exact NoX.ok | exact NoX.err | apply NoX.gd | split))
theorem blt_nox {b : Blt} {as : List D} {st : Store} : NoX (blt b as st) := by
  unfold blt
  split
  · exact blt1_nox
  · exact blt2_nox
  · exact NoX.err
theorem mth_nox {m : Mth} {o : D} {as : List D} {st : Store} : NoX (mth m o as st) := by
  unfold mth
  split
  · cases m <;> simp only [mth0] <;> (repeat' (first | exact NoX.ok | exact NoX.err | apply NoX.gd | split))
  · cases m <;> simp only [mth1] <;> (repeat' (first | exact NoX.ok | exact NoX.err | apply NoX.gd | split))
  · cases m <;> simp only [mth2] <;> (repeat' (first | exact NoX.ok | exact NoX.err | apply NoX.gd | split))
  · exact NoX.err
theorem walkD_nox {st : Store} {x : D} : NoX (walkD st x) := by unfold walkD; (repeat' (first | exact NoX.ok | exact NoX.err | apply NoX.gd | split))
end PC
end
section
set_option Elab.async false
set_option linter.all false
set_option autoImplicit false
set_option maxRecDepth 100000
set_option maxHeartbeats 1000000
namespace PC
open PySem L2 PyProof.Rows

/-- what is wanted of a new list: it is no cell, not frozen -/
def PostO (K : PySem.W.Frag) (W : Wd → Hp → Store → D → Prop) (φ : Wd) (H : Hp) (r : Res (List D)) (Q : VK) : Prop :=
  match r with
  | .ok ds st => ∀ φ' H' p vs, Ext K φ H φ' H' → Sim K φ' H' st → H p = none → H' p = some (.lst vs) → ¬ φ'.F p → p ∉ φ'.c → RepVs K φ' H' vs ds → Q (.ref p) H'
  | .exc d st => ∀ φ' H', Ext K φ H φ' H' → Sim K φ' H' st → W φ' H' st d
  | .err => False
theorem PostO.ext {K : PySem.W.Frag} {W : Wd → Hp → Store → D → Prop} {φ φ' : Wd} {H H' : Hp} {r : Res (List D)} {Q : VK} (h : PostO K W φ H r Q) (e : Ext K φ H φ' H') : PostO K W φ' H' r Q := by
  cases r with
  | ok ds st => exact fun φ2 H2 p vs e2 s2 hn => h φ2 H2 p vs (e.trans e2) s2 (e.dom p hn)
  | exc d st => exact fun φ2 H2 e2 => h φ2 H2 (e.trans e2)
  | err => exact h
theorem PostO.bind {α β : Type} {K : PySem.W.Frag} {W : Wd → Hp → Store → D → Prop} {R : Wd → Hp → β → α → Prop} {φ : Wd} {H : Hp} {r : Res α} {f : α → Store → Res (List D)} {Q : VK} {Q1 : β → Hp → Prop} (h : PostO K W φ H (r.bind f) Q)
    (k : ∀ x st φ1 H1 v, Ext K φ H φ1 H1 → Sim K φ1 H1 st → R φ1 H1 v x → PostO K W φ1 H1 (f x st) Q → Q1 v H1) : Post K R W φ H r Q1 := by
  cases r with
  | ok d st => exact fun φ1 H1 v e s rv => k d st φ1 H1 v e s rv (PostO.ext h e)
  | exc d st => exact h
  | err => exact h
theorem gdO {K : PySem.W.Frag} {W : Wd → Hp → Store → D → Prop} {φ : Wd} {H : Hp} {r : Res (List D)} {Q : VK} {p : Prop} [Decidable p] (h : PostO K W φ H (gd p r) Q) : p ∧ PostO K W φ H r Q := by
  unfold gd at h
  by_cases hp : p
  · rw [if_pos hp] at h; exact ⟨hp, h⟩
  · rw [if_neg hp] at h; exact False.elim h
theorem okO {K : PySem.W.Frag} {W : Wd → Hp → Store → D → Prop} {φ : Wd} {H : Hp} {st : Store} {vs : List V} {ds : List D} {Q : VK} (h : PostO K W φ H (.ok ds st) Q) (s : Sim K φ H st) (r : RepVs K φ H vs ds) : ∀ p, H p = none → Q (.ref p) (upd H p (.lst vs)) :=
  fun p hn => h φ _ p vs (Ext.fresh hn) (s.new hn) hn upd_same (s.freshF hn) (s.fresh hn) (r.ext (Ext.fresh hn))
def tO (K : PySem.W.Frag) (W : WT) (f : Slots → Store → Res (List D)) : TE := fun σ H Q => ∃ φ τ st, RepS K φ H σ τ ∧ Sim K φ H st ∧ PostO K (W σ) φ H (f τ st) Q
/-- the list is frozen at once -/
theorem own_frz {K : PySem.W.Frag} {W : WT} {f : Slots → Store → Res (List D)} {σ : L2.St} {H : Hp} {Q : VK} (h : tD K W (fun τ st => (f τ st).bind fun xs st => .ok (.lst xs) st) σ H Q) : tO K W f σ H Q := by
  obtain ⟨φ, τ, st, rs, sim, post⟩ := h
  refine ⟨φ, τ, st, rs, sim, ?_⟩
  cases e : f τ st with
  | ok ds st1 =>
    simp only [e] at post
    intro φ' H' p vs ex s1 hn h1 h2 h3 h4
    exact post (φ'.frz p) H' _ (ex.frz hn) (s1.freeze h3 (.inl h1)) (.lst ⟨.inl h1, .inr rfl⟩ (h4.ext0 Ext0.freeze))
  | exc d st1 => simp only [e] at post; exact post
  | err => simp only [e] at post; exact post
/-- the list becomes a cell -/
theorem own_cell {K : PySem.W.Frag} {W : WT} {f : Slots → Store → Res (List D)} {σ : L2.St} {H : Hp} {Q : VK} (h : tD K W (fun τ st => (f τ st).bind fun xs st => .ok (.ref st.length) (st ++ [.lst xs])) σ H Q) : tO K W f σ H Q := by
  obtain ⟨φ, τ, st, rs, sim, post⟩ := h
  refine ⟨φ, τ, st, rs, sim, ?_⟩
  cases e : f τ st with
  | ok ds st1 =>
    simp only [e] at post
    intro φ' H' p vs ex s hn h1 h2 h3 h4
    have e0 : Ext0 K φ' H' (φ'.add p) H' := ⟨fun k q hk => by
      show (φ'.c ++ [p])[k]? = some q
      rw [List.getElem?_append_left (List.getElem?_eq_some_iff.mp hk).1]; exact hk, fun _ _ z => z, fun _ _ z z' => ⟨z, z'⟩⟩
    have mem : ∀ q, q ∈ (φ'.add p).c → q ∈ φ'.c ∨ q = p := fun q hq => by
      rcases List.mem_append.mp (show q ∈ φ'.c ++ [p] from hq) with hm | hm
      · exact .inl hm
      · exact .inr (by simpa using hm)
    have e1 : Ext K φ H (φ'.add p) H' := ⟨⟨fun k q hk => e0.pre k q (ex.pre k q hk), ex.tup, ex.lst⟩, ex.keep, fun q hm hq => by
      rcases mem q hm with hm | hm
      · exact ex.new q hm hq
      · rw [hm]; exact hn, ex.newF, ex.dom⟩
    refine post (φ'.add p) H' _ e1 ⟨?_, ?_, fun k q c hk hc => ?_, fun q hq => ?_⟩ (.ref ?_)
    · show (φ'.c ++ [p]).length = _
      rw [List.length_append, List.length_append, s.len]; rfl
    · show (φ'.c ++ [p]).Nodup
      rw [List.nodup_append]
      refine ⟨s.nd, by simp, fun a ha b hb => ?_⟩
      have : b = p := by simpa using hb
      subst this
      rintro rfl
      exact h3 ha
    · have hk : (φ'.c ++ [p])[k]? = some q := hk
      by_cases hlt : k < φ'.c.length
      · rw [List.getElem?_append_left hlt] at hk
        rw [List.getElem?_append_left (by rw [← s.len]; exact hlt)] at hc
        exact (s.cell k q c hk hc).ext e0 rfl
      · have hk2 : k = φ'.c.length := by
          have := (List.getElem?_eq_some_iff.mp hk).1
          rw [List.length_append] at this
          simp at this; omega
        subst hk2
        rw [List.getElem?_append_right (Nat.le_refl _)] at hk
        rw [s.len, List.getElem?_append_right (Nat.le_refl _)] at hc
        simp at hk hc
        subst hk; subst hc
        exact ⟨vs, h1, h4.ext0 e0⟩
    · obtain ⟨q1, q2⟩ := s.frz q hq
      refine ⟨fun hm => ?_, q2⟩
      rcases mem q hm with hm | hm
      · exact q1 hm
      · rw [hm] at hq; exact h2 hq
    · show (φ'.c ++ [p])[st1.length]? = some p
      rw [← s.len, List.getElem?_append_right (Nat.le_refl _)]
      simp
  | exc d st1 => simp only [e] at post; exact post
  | err => simp only [e] at post; exact post
section
variable {X : Cx}
theorem star_all {env : Env} {pos : Pos} : ∀ {es : List Expr}, (∀ x ∈ es, good x = true) → (backTo pos (starEach es env)).any (·.1) = false
  | [], _ => rfl
  | e :: es, h => by
    rw [star_good (h e List.mem_cons_self)]
    show (false || (backTo pos (starEach es env)).any (·.1)) = false
    rw [Bool.false_or]
    exact star_all fun x hx => h x (List.mem_cons_of_mem _ hx)
theorem star_none {env : Env} {pos : Pos} : ∀ {es : List Expr}, (∀ x ∈ es, good x = true) → (backTo pos (starEach es env)).all (fun x => !x.1) = true
  | [], _ => rfl
  | e :: es, h => by
    rw [star_good (h e List.mem_cons_self)]
    show (true && (backTo pos (starEach es env)).all (fun x => !x.1)) = true
    rw [Bool.true_and]
    exact star_none fun x hx => h x (List.mem_cons_of_mem _ hx)
theorem goods {N : List Str} {sc : Scope} : ∀ {cs : CEs} {es : List Expr}, chkEs N sc cs es = true → ∀ x ∈ es, good x = true
  | .nil, [], _, x, hx => by cases hx
  | .nil, _ :: _, h, _, _ => by cases h
  | .cons _ _, [], h, _, _ => by cases h
  | .cons c cs, e :: es, h, x, hx => by
    simp only [chkEs, Bool.and_eq_true] at h
    rcases List.mem_cons.mp hx with rfl | hx
    · exact good_of h.1
    · exact goods h.2 x hx
theorem bltin {b : Blt} : bName b ∈ bltNames := by cases b <;> decide +kernel
/-- a built-in by its name -/
theorem callBlt (ok : X.calm = true) (grd : X.A.guards = some []) (room : X.A.units + 65 < cLine) (free : ∀ x ∈ bltNames, X.mg x = none) {b : Blt} {p pos : Pos} {e : Expr} {es : List Expr} {t : TA} (hg : Gl X (bName b)) (he : good e = true) (hes : ∀ x ∈ es, good x = true) (ha : PA X (e :: es) t) :
    PE X (.Call (.Name (bName b) p) (e :: es) [] pos) (tCB (rBl X.K b) t) := by
  have hm := free _ (bltin (b := b))
  cases b with
  | len => exact pe_callB (bAny ok grd room .len) hg hm (by decide +kernel) ha (by decide +kernel) (by decide +kernel) (star_good he) (star_all hes)
  | abs => exact pe_callB (bAny ok grd room .abs) hg hm (by decide +kernel) ha (by decide +kernel) (by decide +kernel) (star_good he) (star_all hes)
  | min => exact pe_callB (bAny ok grd room .min) hg hm (by decide +kernel) ha (by decide +kernel) (by decide +kernel) (star_good he) (star_all hes)
  | max => exact pe_callB (bAny ok grd room .max) hg hm (by decide +kernel) ha (by decide +kernel) (by decide +kernel) (star_good he) (star_all hes)
  | int => exact pe_callTy (bAny ok grd room .int) hg hm (by decide +kernel) ha (by decide +kernel) (by decide +kernel) (star_good he) (star_all hes)
  | str => exact pe_callTy (bAny ok grd room .str) hg hm (by decide +kernel) ha (by decide +kernel) (by decide +kernel) (star_good he) (star_all hes)
  | tuple => exact pe_callTy (bAny ok grd room .tuple) hg hm (by decide +kernel) ha (by decide +kernel) (by decide +kernel) (star_good he) (star_all hes)
  | list => exact pe_callTy (bAny ok grd room .list) hg hm (by decide +kernel) ha (by decide +kernel) (by decide +kernel) (star_good he) (star_all hes)
  | all => exact pe_callB (bAny ok grd room .all) hg hm (by decide +kernel) ha (by decide +kernel) (by decide +kernel) (star_good he) (star_all hes)
  | sum => exact pe_callB (bAny ok grd room .sum) hg hm (by decide +kernel) ha (by decide +kernel) (by decide +kernel) (star_good he) (star_all hes)
  | sorted => exact pe_callB (bAny ok grd room .sorted) hg hm (by decide +kernel) ha (by decide +kernel) (by decide +kernel) (star_good he) (star_all hes)
  | repr => exact pe_callB (bAny ok grd room .repr) hg hm (by decide +kernel) ha (by decide +kernel) (by decide +kernel) (star_good he) (star_all hes)
  | bool => exact pe_callTy (bAny ok grd room .bool) hg hm (by decide +kernel) ha (by decide +kernel) (by decide +kernel) (star_good he) (star_all hes)
  | dict => exact pe_callTy (bAny ok grd room .dict) hg hm (by decide +kernel) ha (by decide +kernel) (by decide +kernel) (star_good he) (star_all hes)
/-- the type of a value -/
theorem ty_of {φ : Wd} {H : Hp} {st : Store} {v : V} {d : D} (s : Sim X.K φ H st) (r : RepV X.K φ H v d) (hni : notIns st d = true) : ∃ t : String, TyX X.K H v (.type t) ∧ ∀ ge : Bases, ∀ T, tBlt T = true → kitB t (match T with | .int => "int" | .bool => "bool" | .str => "str" | .tuple => "tuple" | .list => "list" | .dict => "dict" | .own _ => "") = some (isTy ge st d T) := by
  have hk : ∀ (a : String) (g : Ty → Bool), (kitB a "int" = some (g .int) ∧ kitB a "bool" = some (g .bool) ∧ kitB a "str" = some (g .str) ∧ kitB a "tuple" = some (g .tuple) ∧ kitB a "list" = some (g .list) ∧ kitB a "dict" = some (g .dict)) →
      ∀ T, tBlt T = true → kitB a (match T with | .int => "int" | .bool => "bool" | .str => "str" | .tuple => "tuple" | .list => "list" | .dict => "dict" | .own _ => "") = some (g T) := by
    intro a g h T hT
    cases T with
    | int => exact h.1
    | bool => exact h.2.1
    | str => exact h.2.2.1
    | tuple => exact h.2.2.2.1
    | list => exact h.2.2.2.2.1
    | dict => exact h.2.2.2.2.2
    | own _ => cases hT
  have kL : ∀ (ge : Bases) (d : D), (∀ T, isTy ge st d T = match T with | .list => true | _ => false) → ∀ T, tBlt T = true → kitB "list" (match T with | .int => "int" | .bool => "bool" | .str => "str" | .tuple => "tuple" | .list => "list" | .dict => "dict" | .own _ => "") = some (isTy ge st d T) := by
    intro ge d h
    refine hk "list" (isTy ge st d) ?_
    simp only [h]
    decide +kernel
  cases r with
  | non => exact ⟨"NoneType", .base .non, fun ge => hk _ _ (by simp only [isTy]; decide +kernel)⟩
  | bl b => exact ⟨"bool", .base (.bl b), fun ge => hk _ _ (by simp only [isTy]; decide +kernel)⟩
  | int i => exact ⟨"int", .base (.int i), fun ge => hk _ _ (by simp only [isTy]; decide +kernel)⟩
  | str z => exact ⟨"str", .base (.str _), fun ge => hk _ _ (by simp only [isTy]; decide +kernel)⟩
  | @tup p vs ds h1 h2 =>
    have e : ∀ ge : Bases, ∀ T, tBlt T = true → kitB "tuple" (match T with | .int => "int" | .bool => "bool" | .str => "str" | .tuple => "tuple" | .list => "list" | .dict => "dict" | .own _ => "") = some (isTy ge st (.tup ds) T) := fun ge => hk _ _ (by simp only [isTy]; decide +kernel)
    rcases h1 with (h1 | ⟨o, h1⟩) | ⟨o, its, n, hl, hc, _⟩
    · exact ⟨"tuple", .base (.tup h1), e⟩
    · exact ⟨"tuple", .fTuple h1, e⟩
    · exact ⟨"tuple", .kTuple hl hc, e⟩
  | @lst p vs ds h1 h3 =>
    have e := fun ge : Bases => kL ge (.lst ds) (fun T => by cases T <;> rfl)
    rcases h1 with ⟨h1 | ⟨o, h1⟩, _⟩
    · exact ⟨"list", .base (.lst h1), fun ge => e ge⟩
    · exact ⟨"list", .base (.frz h1), fun ge => e ge⟩
  | @scr p vs ds h1 h3 =>
    have e := fun ge : Bases => kL ge (.scr ds) (fun T => by cases T <;> rfl)
    rcases h1 with ⟨h1 | ⟨o, h1⟩, _⟩ | ⟨o, _, _, hl, hc, _⟩
    · exact ⟨"list", .base (.lst h1), fun ge => e ge⟩
    · exact ⟨"list", .base (.frz h1), fun ge => e ge⟩
    · exact ⟨"list", .kList hl hc, fun ge => e ge⟩
  | exc _ _ => cases hni
  | @kset p kvs ks h1 h2 h3 => exact ⟨"dict", .base (.dK h1), fun ge => hk _ _ (by simp only [isTy]; decide +kernel)⟩
  | @ref p k hkk =>
    obtain ⟨c, hc, rc⟩ := s.at_ hkk
    cases c with
    | lst xs =>
      obtain ⟨vs, h1, _⟩ := rc
      exact ⟨"list", .base (.lst h1), fun ge => kL ge (.ref k) (fun T => by cases T <;> simp [isTy, hc])⟩
    | dict t kvs =>
      cases t with
      | false =>
        obtain ⟨_, h1, _⟩ := rc
        exact ⟨"dict", .base (.dK h1), fun ge => hk _ _ (by simp only [isTy, hc]; decide +kernel)⟩
      | true =>
        obtain ⟨_, h1, _⟩ := rc
        exact ⟨"dict", .base (.dT h1), fun ge => hk _ _ (by simp only [isTy, hc]; decide +kernel)⟩
    | ins _ _ => simp [notIns, hc] at hni
end
end PC
end
section
set_option Elab.async false
set_option linter.all false
set_option autoImplicit false
set_option maxRecDepth 100000
set_option maxHeartbeats 1000000
namespace PC
open PySem L2 PyProof.Rows

/-! ### what is walked -/
/-- J walks the items ds while the cells of w stand -/
def IterOk (K : PySem.W.Frag) (φ : Wd) (H : Hp) (ds : List D) (w : Watch) (J : It) : Prop :=
  ∃ (G : Hp → Prop) (Y : Nat → Hp → V → Hp → Prop), Walk J ds.length G Y ∧ (∀ φ2 H2 st2, Ext K φ H φ2 H2 → Sim K φ2 H2 st2 → okW w st2 → G H2) ∧
    ∀ φ2 H2 st2 i x H3, i < ds.length → Ext K φ H φ2 H2 → Sim K φ2 H2 st2 → okW w st2 → Y i H2 x H3 →
      ∃ d, ds[i]? = some d ∧ Ext K φ2 H2 φ2 H3 ∧ Sim K φ2 H3 st2 ∧ RepV K φ2 H3 x d
abbrev RIt (K : PySem.W.Frag) : Wd → Hp → It → List D × Watch → Prop := fun φ H J w => IterOk K φ H w.1 w.2 J
abbrev tI (K : PySem.W.Frag) (W : WT) (f : Slots → Store → Res (List D × Watch)) : TI := tR K W (RIt K) f

section
variable {X : Cx} {K : PySem.W.Frag} {φ : Wd} {H : Hp} {st : Store}
/-- a list that is walked, later -/
theorem later_list {v : V} {d : D} {xs : List D} (s : Sim K φ H st) (r : RepV K φ H v d) (e : deref st d = .lst xs) :
    ∃ p vs, v = .ref p ∧ SqL K H p vs ∧ ∀ φ2 H2 st2, Ext K φ H φ2 H2 → Sim K φ2 H2 st2 → okW (watch d xs) st2 → ∃ vs, SqL K H2 p vs ∧ RepVs K φ2 H2 vs xs := by
  cases r with
  | @lst p vs ds h b =>
    cases e
    exact ⟨p, vs, rfl, h.sq, fun φ2 H2 st2 e2 s2 _ => ⟨vs, .inl (e2.rd h.1 h.2).1, b.ext e2⟩⟩
  | @scr p vs ds h b =>
    cases e
    exact ⟨p, vs, rfl, h.sq, fun φ2 H2 st2 e2 s2 _ => ⟨vs, h.elim (fun z => .inl (e2.rd z.1 z.2).1) .inr, b.ext e2⟩⟩
  | @ref p k hk =>
    have hw : ∀ st2 : Store, okW (watch (.ref k) xs) st2 → st2[k]? = some (.lst xs) := fun st2 h => h (k, xs) (by simp [watch])
    obtain ⟨c, hc, rc⟩ := s.at_ hk
    simp only [deref, hc] at e
    cases c with
    | lst ys =>
      cases e
      obtain ⟨vs, h1, _⟩ := rc
      refine ⟨p, vs, rfl, .inl (.inl h1), fun φ2 H2 st2 e2 s2 w => ?_⟩
      obtain ⟨vs2, q1, q2⟩ := s2.cell k p _ (e2.pre k p hk) (hw st2 w)
      exact ⟨vs2, .inl (.inl q1), q2⟩
    | _ => cases e
  | _ => cases e
/-- the list at p, whatever it is, so long -/
def GL (K : PySem.W.Frag) (p : Addr) (n : Nat) (H : Hp) : Prop := ∃ vs, SqL K H p vs ∧ vs.length = n
theorem walkL {p : Addr} {n : Nat} : Walk (Itl K p) n (GL K p n) (fun i H x H' => H' = H ∧ ∀ xs, SqL K H p xs → xs[i]? = some x) :=
  ⟨fun i H hi ⟨vs, h, e⟩ => ⟨vs, vs[i]'(by omega), h, List.getElem?_eq_getElem (by omega)⟩, fun H ⟨vs, h, e⟩ => ⟨vs, h, by omega⟩, fun i H x H' _ _ y => y⟩
theorem iterL {p : Addr} {xs : List D} {w : Watch} (h : ∀ φ2 H2 st2, Ext K φ H φ2 H2 → Sim K φ2 H2 st2 → okW w st2 → ∃ vs, SqL K H2 p vs ∧ RepVs K φ2 H2 vs xs) : IterOk K φ H xs w (Itl K p) := by
  refine ⟨_, _, walkL, fun φ2 H2 st2 e s ow => ?_, fun φ2 H2 st2 i x H3 hi e s ow y => ?_⟩
  · obtain ⟨vs, h1, h2⟩ := h φ2 H2 st2 e s ow
    exact ⟨vs, h1, h2.length⟩
  · obtain ⟨vs, h1, h2⟩ := h φ2 H2 st2 e s ow
    obtain ⟨rfl, y⟩ := y
    obtain ⟨d, hd, rd⟩ := h2.get' (y vs h1)
    exact ⟨d, hd, Ext.refl, s, rd⟩
theorem iterT {p : Addr} {vs : List V} {xs : List D} {w : Watch} (h : SqT K H p vs) (r : RepVs K φ H vs xs) : IterOk K φ H xs w (Itt K p) := by
  have wk := walk_tup (K := K) (a := p) (xs := vs)
  rw [r.length] at wk
  refine ⟨_, _, wk, fun φ2 H2 st2 e s ow => e.tup p vs h, fun φ2 H2 st2 i x H3 hi e s ow y => ?_⟩
  obtain ⟨rfl, y⟩ := y
  obtain ⟨d, hd, rd⟩ := (r.ext e).get' y
  exact ⟨d, hd, Ext.refl, s, rd⟩
theorem iterS {z : List Nat} {w : Watch} : IterOk K φ H (z.map fun c => .str [c]) w (Its (sv z)) := by
  have wk := walk_str (z := sv z)
  have e0 : (sv z).cps.size = z.length := by show z.toArray.size = _; simp
  rw [e0] at wk
  refine ⟨_, _, by rw [List.length_map]; exact wk, fun φ2 H2 st2 e s ow => trivial, fun φ2 H2 st2 i x H3 hi e s ow y => ?_⟩
  obtain ⟨rfl, c, hc, rfl⟩ := y
  have hc : z.toArray[i]? = some c := hc
  rw [List.getElem?_toArray] at hc
  exact ⟨.str [c], by rw [List.getElem?_map, hc]; rfl, Ext.refl, s, .str [c]⟩
theorem rng_get {a b : Int} {i : Nat} (h : i < (b - a).toNat) : (rng a b)[i]? = some (.int (a + i)) := by
  unfold rng
  rw [List.getElem?_map, List.getElem?_range h]; rfl
theorem rng_len (a b : Int) : (rng a b).length = (b - a).toNat := by unfold rng; rw [List.length_map, List.length_range]
theorem iterR {a b : Int} {w : Watch} : IterOk K φ H (rng a b) w (Itr a (b - a).toNat) := by
  have wk := walk_range (lo := a) (n := (b - a).toNat)
  refine ⟨_, _, by rw [rng_len]; exact wk, fun φ2 H2 st2 e s ow => trivial, fun φ2 H2 st2 i x H3 hi e s ow y => ?_⟩
  obtain ⟨rfl, rfl⟩ := y
  rw [rng_len] at hi
  exact ⟨_, rng_get hi, Ext.refl, s, .int _⟩
theorem iterRR {a b : Int} {w : Watch} : IterOk K φ H (rng a b).reverse w (Itc (a + (((b - a).toNat : Nat) : Int) - 1) (-1) (b - a).toNat) := by
  have wk := walk_rangeC (lo := a + (((b - a).toNat : Nat) : Int) - 1) (c := -1) (n := (b - a).toNat)
  refine ⟨_, _, by rw [List.length_reverse, rng_len]; exact wk, fun φ2 H2 st2 e s ow => trivial, fun φ2 H2 st2 i x H3 hi e s ow y => ?_⟩
  obtain ⟨rfl, rfl⟩ := y
  rw [List.length_reverse, rng_len] at hi
  refine ⟨_, ?_, Ext.refl, s, .int _⟩
  rw [List.getElem?_reverse (by rw [rng_len]; exact hi), rng_len, rng_get (by omega)]
  congr 2
  omega
theorem enumD_len : ∀ (n : Nat) (xs : List D), (enumD n xs).length = xs.length
  | _, [] => rfl
  | n, x :: xs => by rw [enumD, List.length_cons, List.length_cons, enumD_len]
theorem enumD_get : ∀ (n : Nat) (xs : List D) (i : Nat) (d : D), xs[i]? = some d → (enumD n xs)[i]? = some (.tup [.int ((n + i : Nat) : Int), d])
  | n, x :: xs, 0, d, h => by cases (by simpa using h : x = d); rfl
  | n, x :: xs, i + 1, d, h => by
    have := enumD_get (n + 1) xs i d (by simpa using h)
    rw [enumD, List.getElem?_cons_succ, this]
    congr 4
    omega
theorem zipD_len : ∀ (xs ys : List D), (zipD xs ys).length = min xs.length ys.length
  | [], ys => by rw [zipD]; simp; exact fun _ _ _ _ h => nomatch h
  | x :: xs, [] => by rw [zipD]; simp; exact fun _ _ _ _ _ h => nomatch h
  | x :: xs, y :: ys => by rw [zipD, List.length_cons, List.length_cons, List.length_cons, zipD_len]; omega
theorem zipD_get : ∀ (xs ys : List D) (i : Nat) (d e : D), xs[i]? = some d → ys[i]? = some e → (zipD xs ys)[i]? = some (.tup [d, e])
  | x :: xs, y :: ys, 0, d, e, h, h' => by cases (by simpa using h : x = d); cases (by simpa using h' : y = e); rfl
  | x :: xs, y :: ys, i + 1, d, e, h, h' => by
    rw [zipD, List.getElem?_cons_succ]
    exact zipD_get xs ys i d e (by simpa using h) (by simpa using h')
/-- a new tuple in a turn -/
theorem turnT {st2 : Store} {T : Addr} {vs : List V} {ds : List D} (s : Sim K φ H st2) (hn : H T = none) (r : RepVs K φ H vs ds) : Ext K φ H φ (upd H T (.tup vs)) ∧ Sim K φ (upd H T (.tup vs)) st2 ∧ RepV K φ (upd H T (.tup vs)) (.ref T) (.tup ds) :=
  ⟨Ext.fresh hn, s.new hn, .tup (.of upd_same) (r.ext (Ext.fresh hn))⟩
theorem iterE {p : Addr} {xs : List D} {w : Watch} (h : ∀ φ2 H2 st2, Ext K φ H φ2 H2 → Sim K φ2 H2 st2 → okW w st2 → ∃ vs, SqL K H2 p vs ∧ RepVs K φ2 H2 vs xs) : IterOk K φ H (enumD 0 xs) w (Ite K p) := by
  refine ⟨GL K p xs.length, fun i H v H' => ∃ T x, v = .ref T ∧ H T = none ∧ H' = upd H T (.tup [.int (i : Nat), x]) ∧ ∀ xs, SqL K H p xs → xs[i]? = some x, ⟨?_, ?_, fun i H x H' _ _ y => y⟩, fun φ2 H2 st2 e s ow => ?_, fun φ2 H2 st2 i x H3 hi e s ow y => ?_⟩
  · rintro i H hi ⟨vs, h, e⟩
    rw [enumD_len] at hi
    exact ⟨vs, vs[i]'(by omega), h, List.getElem?_eq_getElem (by omega)⟩
  · rintro H ⟨vs, h, e⟩
    refine ⟨vs, h, ?_⟩
    rw [enumD_len]; omega
  · obtain ⟨vs, h1, h2⟩ := h φ2 H2 st2 e s ow
    exact ⟨vs, h1, h2.length⟩
  · obtain ⟨vs, h1, h2⟩ := h φ2 H2 st2 e s ow
    obtain ⟨T, x', rfl, hn, rfl, y⟩ := y
    obtain ⟨d, hd, rd⟩ := h2.get' (y vs h1)
    obtain ⟨q1, q2, q3⟩ := turnT (ds := [.int i, d]) s hn (.cons (.int _) (.cons rd .nil))
    refine ⟨_, ?_, q1, q2, q3⟩
    have := enumD_get 0 xs i d hd
    rw [Nat.zero_add] at this
    exact this
theorem iterZ {p q : Addr} {xs ys : List D} {w : Watch} (h : ∀ φ2 H2 st2, Ext K φ H φ2 H2 → Sim K φ2 H2 st2 → okW w st2 → ∃ vs, SqL K H2 p vs ∧ RepVs K φ2 H2 vs xs)
    (h' : ∀ φ2 H2 st2, Ext K φ H φ2 H2 → Sim K φ2 H2 st2 → okW w st2 → ∃ vs, SqL K H2 q vs ∧ RepVs K φ2 H2 vs ys) : IterOk K φ H (zipD xs ys) w (Itz K p q) := by
  refine ⟨fun H => GL K p xs.length H ∧ GL K q ys.length H, (Itz K p q).yld, ⟨?_, ?_, fun i H x H' _ _ y => y⟩, fun φ2 H2 st2 e s ow => ?_, fun φ2 H2 st2 i x H3 hi e s ow y => ?_⟩
  · rintro i H hi ⟨⟨vs, h, e⟩, ⟨vs', h', e'⟩⟩
    rw [zipD_len] at hi
    exact ⟨vs, vs', vs[i]'(by omega), vs'[i]'(by omega), h, h', List.getElem?_eq_getElem (by omega), List.getElem?_eq_getElem (by omega)⟩
  · rintro H ⟨⟨vs, h, e⟩, ⟨vs', h', e'⟩⟩
    refine ⟨vs, vs', h, h', ?_⟩
    rw [zipD_len]; omega
  · obtain ⟨vs, h1, h2⟩ := h φ2 H2 st2 e s ow
    obtain ⟨vs', h1', h2'⟩ := h' φ2 H2 st2 e s ow
    exact ⟨⟨vs, h1, h2.length⟩, ⟨vs', h1', h2'.length⟩⟩
  · obtain ⟨vs, h1, h2⟩ := h φ2 H2 st2 e s ow
    obtain ⟨vs', h1', h2'⟩ := h' φ2 H2 st2 e s ow
    obtain ⟨T, x1, x2, rfl, hn, rfl, y, y'⟩ := y
    obtain ⟨d, hd, rd⟩ := h2.get' (y vs h1)
    obtain ⟨d', hd', rd'⟩ := h2'.get' (y' vs' h1')
    obtain ⟨q1, q2, q3⟩ := turnT (ds := [d, d']) s hn (.cons rd (.cons rd' .nil))
    exact ⟨_, zipD_get xs ys i d d' hd hd', q1, q2, q3⟩
end
section
variable {X : Cx} {tg : Expr}
/-- iter(v), by what v is -/
theorem iterV {pins : List (Addr × Obj)} {s : Shared} {σ : L2.St} {φ : Wd} {H : Hp} {st : Store} {v : V} {u : Value} {d : D} {R : It → Hp → Prop} (I : Inv X pins σ H s) (ru : RelV v u) (sim : Sim X.K φ H st) (rv : RepV X.K φ H v d)
    (post : Post X.K (RIt X.K) noW φ H (walkD st d) R) : wpAny (model X.prog X.w) X.A (pyIter u) (PIE X pins σ tg R) X.xe s := by
  have lst : ∀ xs, deref st d = .lst xs → Post X.K (RIt X.K) noW φ H (.ok (xs, watch d xs) st) R → wpAny (model X.prog X.w) X.A (pyIter u) (PIE X pins σ tg R) X.xe s := by
    intro xs e post
    obtain ⟨p, vs, rfl, h1, h2⟩ := later_list sim rv e
    cases ru
    obtain ⟨its, r1, ⟨o, n, e1, c1, _, d1⟩, _⟩ := I.list h1
    have q : R (Itl X.K p) H := post φ H _ Ext.refl sim (iterL h2)
    exact wpAny_pyIter_list ⟨o, e1, c1, n, d1⟩ (pi_one (tk := s.toks) I _ (turn_list p _) ⟨_, Heap.get?_push_size _ rfl, rfl, rfl⟩ q)
  cases d with
  | str z =>
    rw [rv.str_inv] at ru
    obtain ⟨t, rfl⟩ := ru
    have q : R (Its (sv z)) H := post φ H _ Ext.refl sim iterS
    cases ha : (sv z).cps.all (· < 128)
    · exact wpAny_pyIter_wide ha (pi_one (tk := s.toks) I _ (turn_str _ (sv z) t "str_iterator" (.inr rfl)) ⟨_, Heap.get?_push_size _ rfl, rfl, rfl⟩ q)
    · exact wpAny_pyIter_ascii ha (pi_one (tk := s.toks) I _ (turn_str _ (sv z) t "str_ascii_iterator" (.inl rfl)) ⟨_, Heap.get?_push_size _ rfl, rfl, rfl⟩ q)
  | lst xs => exact lst xs rfl post
  | scr xs => exact lst xs rfl post
  | tup xs =>
    cases rv with
    | @tup p vs _ h1 h2 =>
      cases ru
      obtain ⟨its, r1, pt, _⟩ := I.tuple h1
      have q : R (Itt X.K p) H := post φ H _ Ext.refl sim (iterT h1 h2)
      exact wpAny_pyIter_tuple pt (pi_one (tk := s.toks) I _ (turn_tuple p _) ⟨_, Heap.get?_push_size _ rfl, rfl, rfl⟩ q)
  | ref k =>
    simp only [walkD, items] at post
    cases e : deref st (.ref k) with
    | lst xs => rw [e] at post; exact lst xs e post
    | tup xs =>
      have := deref_flat (st := st) (d := .ref k) (by rw [e]; exact fun _ z => nomatch z)
      rw [this] at e; cases e
    | _ => rw [e] at post; exact False.elim post
  | _ => exact False.elim post
theorem piOf {W : WT} {e : Expr} {f : Slots → Store → Res D} (h : PE X e (tD X.K W f)) : PI X tg e (tI X.K W fun τ st => (f τ st).bind fun x st => walkD st x) := by
  refine ⟨fun pins s σ H R I q => ?_⟩
  have q2 : tD X.K W f σ H fun v H1 => ∃ φ st d, Sim X.K φ H1 st ∧ RepV X.K φ H1 v d ∧ Post X.K (RIt X.K) noW φ H1 (walkD st d) R :=
    q.bind fun φ τ x st v H1 rs s1 rv post => ⟨φ, st, x, s1, rv, post.nox walkD_nox⟩
  refine thn (h.run pins s σ H _ I q2) fun u s1 ⟨v, H1, I1, r1, φ, st, d, sim, rv, post⟩ => ?_
  exact iterV I1 r1 sim rv post
end
end PC
end
section
set_option Elab.async false
set_option linter.all false
set_option autoImplicit false
set_option maxRecDepth 100000
set_option maxHeartbeats 1000000
/-! enumerate(tuple) -/
namespace PC
open PySem L2 PyProof.Rows
theorem meets_enumB {v : Value} {o : Obj} {G : Heap → Prop} (B : Begins v o G) :
    Meets (Builtin.«enumerate.__new__» ⟨[.type "enumerate", v], []⟩) (fun _ R s => G s.heap ∧
      R (.ok (.ret (.ref (s.heap.push o).objs.size))) { s with heap := (s.heap.push o).push { cls := .type "enumerate", data := .fields #[.none, .bool false, .ref s.heap.objs.size, rawInt 0, .none, .none] } }) :=
  .of_wp fun prog w A R s h => by
    obtain ⟨hp, g, d, tk, os⟩ := s
    obtain ⟨hG, h⟩ := h
    have hsub := sub_enumerate
    have it : ∀ {A' : Around} {E : Value → Shared → Prop} {Q : Value → Shared → Prop}, Q (.ref hp.objs.size) ⟨hp.push o, g, d, tk, os⟩ → wpAny (model prog w) A' (pyIter v) Q E ⟨hp, g, d, tk, os⟩ := fun z => B.iter prog w _ _ _ _ hG z
    wp_walk using it
    refine wpAny_stack_any fun st => wpAny_pure ?_
    split
    · rename_i c _ _ _ _ _
      by_cases hc : (c == Value.type "enumerate") = true
      · rw [hc]
        wp_walk using it
        exact ⟨_, rfl, h⟩
      · rw [Bool.not_eq_true] at hc
        rw [hc]
        wp_walk using it
        exact ⟨_, rfl, h⟩
    · wp_walk using it
      exact ⟨_, rfl, h⟩
section
variable {prog : Program} {w : World} {A : Around} {E : Value → Shared → Prop} {s : Shared}
theorem call_enumB {v : Value} {o : Obj} {G : Heap → Prop} {Q : Value → Shared → Prop} (B : Begins v o G) (hG : G s.heap)
    (h : ∀ h', IsEnum h' (s.heap.objs.size + 1) s.heap.objs.size 0 .none → h'.get? s.heap.objs.size = some o → (∀ b u, s.heap.get? b = some u → h'.get? b = some u) → Q (.ref (s.heap.objs.size + 1)) { s with heap := h' }) :
    wpAny (model prog w) A (PySem.call (.type "enumerate") [v]) Q E s := by
  apply callType_new F.called_enumerate (by decide) (F.typeCall_enumerate_1 _) (F.newCall_enumerate_1 _) (fun obj => F.args_object_init_2 obj _) F.entry_enumerate_new (meets_enumB B)
  refine ⟨hG, ?_⟩
  have sz : (s.heap.push o).objs.size = s.heap.objs.size + 1 := Heap.size_push ..
  have at1 := Heap.get?_push_size (s.heap.push o) (o := { cls := .type "enumerate", data := .fields #[.none, .bool false, .ref s.heap.objs.size, rawInt 0, .none, .none] }) rfl
  show _ ∧ _
  rw [sz] at at1 ⊢
  exact ⟨⟨_, at1, rfl⟩, h _ at1 (Heap.get?_push_of_some _ (Heap.get?_push_size _ B.free)) fun b u e => Heap.get?_push_of_some _ (Heap.get?_push_of_some _ e)⟩
end
/-- the tuple at a, each item in a new pair -/
def IteT (K : PySem.W.Frag) (a : Addr) : It where
  go := fun i H => ∃ (xs : List V) (x : V), SqT K H a xs ∧ xs[i]? = some x
  yld := fun i H v H' => ∃ T x, v = .ref T ∧ H T = none ∧ H' = upd H T (.tup [.int (i : Nat), x]) ∧ ∀ xs, SqT K H a xs → xs[i]? = some x
  stop := fun i H => ∃ xs : List V, SqT K H a xs ∧ xs.length ≤ i
theorem ne_cls {h : Heap} {a b : Addr} {o u : Obj} (ha : h.get? a = some o) (hb : h.get? b = some u) (hne : o.cls ≠ u.cls) : a ≠ b := by
  rintro rfl
  rw [ha] at hb
  cases hb
  exact hne rfl
theorem turn_enumT {P : Program} {w : World} {K : PySem.W.Frag} {elts : List Expr} {kk : Nat} {tpos : Pos} (a e it : Addr) :
    Turn P w K (.Tuple elts kk tpos) (IteT K a) [e, it] e (fun i h => (∃ old, IsEnum h e it ((i : Nat) : Int) old) ∧ h.IsTupleIter it a i) := by
  have two : ∀ {b : Addr}, b ∈ [e, it] → b = e ∨ b = it := fun h => by simpa using h
  refine ⟨by simp, ?_, ?_, ?_, ?_, ?_⟩
  · rintro i h ⟨⟨old, he⟩, o, ho, hc, hd⟩ b hb
    rcases two hb with rfl | rfl
    · exact ⟨_, he, fun v z => nomatch z⟩
    · exact ⟨o, ho, fun v z => by rw [hd] at z; cases z⟩
  · rintro i h h' ⟨⟨old, he⟩, hi⟩ k
    exact ⟨⟨old, k e (by simp) _ he⟩, hi.at fun o z => k it (by simp) o z⟩
  · intro X hP hw hK hc i pins s σ H E I hf st hg
    subst hP hw hK
    obtain ⟨⟨old, he⟩, hit⟩ := st
    obtain ⟨xs, x, hq, hx⟩ := hg
    obtain ⟨its, rv, p, hz⟩ := I.tuple hq
    have p : s.heap.IsTuple a its.toArray := p
    obtain ⟨u, hu, ru⟩ := rv.get hx
    have hei : e ≠ it := by
      obtain ⟨o, z, c, _⟩ := hit
      exact ne_cls he z (by rw [c]; intro q; injection q with q; exact absurd q (by decide))
    have hea : e ≠ a := by
      obtain ⟨o, z, c, _⟩ := p
      exact ne_cls he z (by rw [c]; intro q; injection q with q; exact absurd q (by decide))
    have hai : a ≠ it := by
      obtain ⟨o, z, c, _⟩ := p
      obtain ⟨o', z', c', _⟩ := hit
      exact ne_cls z z' (by rw [c, c']; intro q; injection q with q; exact absurd q (by decide))
    have hlt : i < its.toArray.size := by
      have := (List.getElem?_eq_some_iff.mp hu).1
      simpa using this
    have hel : e < s.heap.objs.size := Heap.lt_size he
    have hil : it < s.heap.objs.size := by obtain ⟨_, z, _⟩ := hit; exact Heap.lt_size z
    have dr := Draws.tuple (prog := X.prog) (w := X.w) (A := X.A.in1) (show X.A.in1.handled = none from I.ok.hd hc) it a hai its.toArray
    refine wpAny_pyNext_enum_itemD dr he ⟨hit, p⟩ hlt hei (by simp [hei, hea]) fun y h' tk hy out st' hT hsz hk => ?_
    have hy : its.toArray[i]? = some y := hy
    have : y = u := by
      rw [List.getElem?_toArray, hu] at hy
      cases hy; rfl
    subst this
    refine ⟨_, rfl, wpAny_letOwnedTupleGo_enum (s := { s with heap := h', toks := tk + 1 }) out fun h'' he' sb => ?_⟩
    have hT2 : h''.get? s.heap.objs.size = some { cls := .type "tuple", data := .seq #[.int i tk, y] } := (sb.2 _ (Nat.ne_of_gt hel)).trans hT
    have new : ObjOk X.prog X.w (upd H s.heap.objs.size (.tup [.int (i : Nat), x])) h'' s.heap.objs.size (.tup [.int (i : Nat), x]) :=
      ⟨by show 2 ≤ sizeLine; decide, [.int i tk, y], .cons ⟨_, rfl⟩ (.cons ru .nil), ⟨_, hT2, rfl, _, rfl⟩⟩
    have I1 := I.turnedNew (t' := tk + 1) (ch := [e, it]) (fun b ob hb z => (sb.2 b (fun q => hb (by simp [q]))).trans (hk b ob (fun q => hb (by simp [q])) (fun q => hb (by simp [q])) z)) hf (Nat.le_refl _) new
    refine ⟨.ref s.heap.objs.size, _, I1, rfl, ⟨_, x, rfl, I.hok.fresh (Nat.le_refl _), rfl, fun ys hy => by rw [I.tuple_inj hy hq]; exact hx⟩, ⟨⟨y, ?_⟩, st'.1.at fun o z => (sb.2 it (Ne.symm hei)).trans z⟩, fun b hb => ?_⟩
    · have e1 : ((i + 1 : Nat) : Int) = (i : Int) + 1 := by omega
      rw [e1]; exact he'
    · have hlt : b < s.heap.objs.size := by rcases two hb with rfl | rfl <;> assumption
      rw [upd_ne (Nat.ne_of_lt hlt)]
      exact (hf b hb).1
  · intro X hP hw hK hc i pins s σ H E I hf st hg
    subst hP hw hK
    obtain ⟨⟨old, he⟩, hit⟩ := st
    obtain ⟨xs, hq, hx⟩ := hg
    obtain ⟨its, rv, p, hz⟩ := I.tuple hq
    have p : s.heap.IsTuple a its.toArray := p
    have hai : a ≠ it := by
      obtain ⟨o, z, c, _⟩ := p
      obtain ⟨o', z', c', _⟩ := hit
      exact ne_cls z z' (by rw [c, c']; intro q; injection q with q; exact absurd q (by decide))
    obtain ⟨f0, f1, f2, f3, f4, f5⟩ := hf it (by simp)
    have hl := rv.length
    have hnone : its.toArray[i]? = none := by simp; omega
    have dr : Draws X.prog X.w X.A.in1 it [it, a] i (fun _ _ => True) (fun j h => j = i ∧ h.IsTupleIter it a i ∧ h.IsTuple a its.toArray) := by
      refine ⟨?_, ?_, ?_, ?_⟩
      · rintro j h ⟨_, ⟨o, ho, _⟩, _⟩
        exact ⟨o, ho⟩
      · rintro j h h' ⟨rfl, z1, z2⟩ k
        exact ⟨rfl, z1.at fun o z => k it (by simp) o z, z2.at fun o z => k a (by simp) o z⟩
      · rintro j s Q E hj ⟨rfl, _⟩
        exact absurd hj (Nat.lt_irrefl _)
      · rintro s Q E ⟨_, z1, z2⟩ hE
        exact wpAny_nextOf_tuple_end (show X.A.in1.handled = none from I.ok.hd hc) z1 z2 hnone hE
    exact wpAny_pyNext_enum_endD dr he ⟨rfl, hit, p⟩ fun h' eb => ⟨rfl, I.turned (t' := s.toks) (fun b o hb z => eb b o hb z) f0 f1 f3 f4 f5⟩
  · rintro A i s Q E ⟨⟨_, he⟩, _⟩ h
    exact wpAny_pyIter_enum he h
def iEnumA (K : PySem.W.Frag) (ta : TA) : TI := fun σ H R => ta σ H fun vs H1 => ∃ a xs, vs = [.ref a] ∧ ((SqT K H1 a xs ∧ R (IteT K a) H1) ∨ (SqL K H1 a xs ∧ R (Ite K a) H1))
theorem pi_enumA {X : Cx} {e : Expr} {ta : TA} {p pos tpos : Pos} {elts : List Expr} {kk : Nat} (hg : Gl X "enumerate") (hm : X.mg "enumerate" = none) (ha : PA X [e] ta) (hs : starEach [e] X.env = [(false, eval e X.env)]) :
    PI X (.Tuple elts kk tpos) (.Call (.Name "enumerate" p) [e] [] pos) (iEnumA X.K ta) := by
  constructor
  intro pins s σ H R I h
  refine Call_ (ld_blt I hg hm boot_enumerate (PyProof.Rows.callWith_type1 (thn (ha.run pos pins s σ H _ I h) ?_) hs rfl))
  rintro us s1 ⟨vs, H1, J, rr, a, xs, rfl, q⟩
  have two : ∀ b ∈ [s1.heap.objs.size + 1, s1.heap.objs.size], FpOk X pins H1 b := by
    intro b hb
    have hle : s1.heap.objs.size ≤ b := by
      have : b = s1.heap.objs.size + 1 ∨ b = s1.heap.objs.size := by simpa using hb
      rcases this with z | z
      · rw [z]; exact Nat.le_succ _
      · rw [z]; exact Nat.le_refl _
    exact J.fpOk hle (J.hok.fresh hle)
  cases rr with
  | cons r rest =>
    cases rest
    cases r
    rcases q with ⟨sq, q⟩ | ⟨sq, q⟩
    · obtain ⟨its, rv, pt, hz⟩ := J.tuple sq
      refine call_enumB (begins_tuple a its.toArray) pt fun h' he hit hk => wpAny_pyIter_enum he ?_
      have J2 : Inv X pins σ H1 { s1 with heap := h' } := J.kept (t' := s1.toks) hk
      exact ⟨_, _, _, _, H1, rfl, J2, turn_enumT a (s1.heap.objs.size + 1) s1.heap.objs.size, ⟨⟨.none, he⟩, ⟨_, hit, rfl, rfl⟩⟩, two, q⟩
    · obtain ⟨its, rv, pt, hz⟩ := J.list sq
      refine call_enumB (begins_list a its.toArray) pt.isList fun h' he hit hk => wpAny_pyIter_enum he ?_
      have J2 : Inv X pins σ H1 { s1 with heap := h' } := J.kept (t' := s1.toks) hk
      exact ⟨_, _, _, _, H1, rfl, J2, turn_enum a (s1.heap.objs.size + 1) s1.heap.objs.size, ⟨⟨.none, he⟩, ⟨_, hit, rfl, rfl⟩, Nat.succ_ne_self _⟩, two, q⟩
/-- .. as the core walks it -/
theorem iterET {K : PySem.W.Frag} {φ : Wd} {H : Hp} {p : Addr} {vs : List V} {xs : List D} {w : Watch} (h : SqT K H p vs) (r : RepVs K φ H vs xs) : IterOk K φ H (enumD 0 xs) w (IteT K p) := by
  have hl := r.length
  refine ⟨fun H => SqT K H p vs, (IteT K p).yld, ⟨?_, ?_, fun i H x H' _ _ y => y⟩, fun φ2 H2 st2 e s ow => e.tup p vs h, fun φ2 H2 st2 i x H3 hi e s ow y => ?_⟩
  · intro i H hi hq
    rw [enumD_len] at hi
    exact ⟨vs, vs[i]'(by omega), hq, List.getElem?_eq_getElem (by omega)⟩
  · intro H hq
    refine ⟨vs, hq, ?_⟩
    rw [enumD_len]; omega
  · obtain ⟨T, x', rfl, hn, rfl, y⟩ := y
    obtain ⟨d, hd, rd⟩ := (r.ext e).get' (y vs (e.tup p vs h))
    obtain ⟨q1, q2, q3⟩ := turnT (ds := [.int i, d]) s hn (.cons (.int _) (.cons rd .nil))
    refine ⟨_, ?_, q1, q2, q3⟩
    have := enumD_get 0 xs i d hd
    rw [Nat.zero_add] at this
    exact this
end PC
end
section
set_option Elab.async false
set_option linter.all false
set_option autoImplicit false
set_option maxRecDepth 100000
set_option maxHeartbeats 1000000
/-! PCZ: zip of a list beside a tuple (own rule: what is walked by an iterator is told by a record, whatever its kind) -/
namespace PC
open PySem L2 PyProof.Rows
open PySem.Sem (wp)
/-- an iterator at i over what stands at l, whatever its kind -/
structure Src (i l : Addr) (xs : Array Value) where
  at_ : Heap → Nat → Prop
  keep : ∀ {h h' : Heap} {k : Nat}, at_ h k → (∀ o, h.get? i = some o → h'.get? i = some o) → (∀ o, h.get? l = some o → h'.get? l = some o) → at_ h' k
  item : ∀ {prog : Program} {w : World} {A : Around} {E : Value → Shared → Prop} {s : Shared} {k : Nat} {x : Value} {Q : Value → Shared → Prop}, l ≠ i → at_ s.heap k → xs[k]? = some x →
    (∀ h', at_ h' (k + 1) → Heap.SameBut i s.heap h' → Q x { s with heap := h' }) → wpAny (model prog w) A (Builtin.SmallTypes.nextOf (.ref i)) Q E s
  fin : ∀ {prog : Program} {w : World} {A : Around} {E : Value → Shared → Prop} {s : Shared} {k : Nat} {Q : Value → Shared → Prop}, A.handled = none → at_ s.heap k → xs[k]? = none →
    (∀ h' e, Heap.ExtBut i s.heap h' → (∃ o, h'.get? e = some o ∧ o.cls = .type "StopIteration") → E (.ref e) { s with heap := h' }) → wpAny (model prog w) A (Builtin.SmallTypes.nextOf (.ref i)) Q E s
def srcL (i l : Addr) (xs : Array Value) : Src i l xs where
  at_ h k := h.IsListIter i l k ∧ h.IsList l xs
  keep := fun a h1 h2 => ⟨a.1.at h1, by obtain ⟨o, ho, r⟩ := a.2; exact ⟨o, h2 o ho, r⟩⟩
  item := fun hl a hx q => wpAny_nextOf_list_item a.1 a.2 hx fun h' b sb => q h' ⟨b, a.2.extBut sb.extBut hl⟩ sb
  fin := fun hh a hx q => wpAny_nextOf_list_end hh a.1 a.2 hx q
def srcT (i l : Addr) (xs : Array Value) : Src i l xs where
  at_ h k := h.IsTupleIter i l k ∧ h.IsTuple l xs
  keep := fun a h1 h2 => ⟨a.1.at h1, by obtain ⟨o, ho, r⟩ := a.2; exact ⟨o, h2 o ho, r⟩⟩
  item := fun hl a hx q => RZ.nextOf_tuple_item a.1 a.2 hx fun h' b sb => q h' ⟨b, a.2.extBut sb.extBut hl⟩ sb
  fin := fun hh a hx q => RZ.nextOf_tuple_end hh a.1 a.2 hx q
section
variable {prog : Program} {w : World} {A : Around} {E : Value → Shared → Prop} {s : Shared} {z TI TO i1 i2 l1 l2 : Addr} {xs ys : Array Value} {k1 k2 : Nat}
theorem Src.ext {i l b : Addr} {xs : Array Value} (S : Src i l xs) {h h' : Heap} {k : Nat} (a : S.at_ h k) (hs : Heap.ExtBut b h h') (h1 : i ≠ b) (h2 : l ≠ b) : S.at_ h' k :=
  S.keep a (fun o e => hs i o h1 e) fun o e => hs l o h2 e
/-- one step of a zip of two, both having an item -/
theorem zipS_item (S1 : Src i1 l1 xs) (S2 : Src i2 l2 ys) {x y a b : Value} {Q : Value → Shared → Prop} (D : ZipApart z TI TO i1 i2 l1 l2)
    (hz : IsZip s.heap z TI TO .none) (hTI : IsPair s.heap TI (.ref i1) (.ref i2)) (hTO : IsPair s.heap TO a b) (h1 : S1.at_ s.heap k1) (h2 : S2.at_ s.heap k2) (hi1 : ∃ o, s.heap.get? i1 = some o) (hi2 : ∃ o, s.heap.get? i2 = some o) (hx : xs[k1]? = some x) (hy : ys[k2]? = some y)
    (hQ : ∀ h', IsZip h' z TI TO (rawInt s.heap.objs.size) → IsPair h' TO x y → S1.at_ h' (k1 + 1) → S2.at_ h' (k2 + 1) → IsPair h' s.heap.objs.size x y → h'.objs.size = s.heap.objs.size + 1 →
      (∀ c o, c ≠ z → c ≠ TO → c ≠ i1 → c ≠ i2 → s.heap.get? c = some o → h'.get? c = some o) → Q (.ref s.heap.objs.size) { s with heap := h' }) :
    wpAny (model prog w) A (Builtin.«zip.__next__» ⟨[.ref z], []⟩) (fun fin s' => ∃ v, fin = .done (.ret v) ∧ Q v s') E s := by
  show wpAny _ _ (field (.ref z) 2 >>= _) _ _ _
  refine wpAny_bind (wpAny_field hz rfl (x := .bool false) rfl ?_)
  show wpAny _ _ (field (.ref z) 3 >>= _) _ _ _
  refine wpAny_bind (wpAny_field hz rfl (x := .ref TI) rfl (wpAny_bind (wpAny_seqItems hTI rfl ?_)))
  show wpAny _ _ (Builtin.SmallTypes.ownedTupleIsFree (.ref z) >>= _) _ _ _
  refine wpAny_bind ?_
  unfold Builtin.SmallTypes.ownedTupleIsFree
  refine wpAny_bind (wpAny_field hz rfl (x := .none) rfl (wpAny_pure ?_))
  simp only [if_true]
  refine wpAny_bind (wpAny_rule (wpAny_bind (wpAny_field hz rfl (x := .ref TO) rfl (wpAny_bind (wpAny_setField_rec hz (by simp) fun ha za sa => ?_)))))
  replace za : IsZip ha z TI TO .ellipsis := za
  refine wpAny_bind ?_
  simp only [List.zipIdx_cons, List.zipIdx_nil, List.forIn_cons, List.forIn_nil]
  refine wpAny_bind (wpAny_bind (wpAny_onRaise ?_))
  show wpAny _ _ (Builtin.SmallTypes.nextOf (.ref i1) >>= _) _ _ _
  have a1 := S1.ext h1 sa.extBut D.i1z D.l1z
  have a2 := S2.ext h2 sa.extBut D.i2z D.l2z
  have aTO : IsPair ha TO a b := sa.extBut _ _ D.TOz hTO
  refine wpAny_bind (S1.item D.l1i1 a1 hx fun hb b1 sb => wpAny_pure ?_)
  have b2 := S2.ext a2 sb.extBut D.i12.symm D.l2i1
  have bTO : IsPair hb TO a b := sb.extBut _ _ D.TOi1 aTO
  refine wpAny_bind (wpAny_seqItems bTO rfl (wpAny_bind (wpAny_updateSeq_pair bTO fun hc cTO sc => ?_)))
  replace cTO : IsPair hc TO x b := cTO
  have c1 := S1.ext b1 sc.extBut D.TOi1.symm D.l1TO
  have c2 := S2.ext b2 sc.extBut D.TOi2.symm D.l2TO
  refine wpAny_bind (wpAny_letGo (wpAny_pure (wpAny_bind (wpAny_bind (wpAny_onRaise ?_)))))
  show wpAny _ _ (Builtin.SmallTypes.nextOf (.ref i2) >>= _) _ _ _
  refine wpAny_bind (S2.item D.l2i2 c2 hy fun hd d2 sd => wpAny_pure ?_)
  have d1 := S1.ext c1 sd.extBut D.i12 D.l1i2
  have dTO : IsPair hd TO x b := sd.extBut _ _ D.TOi2 cTO
  refine wpAny_bind (wpAny_seqItems dTO rfl (wpAny_bind (wpAny_updateSeq_pair dTO fun he eTO se => ?_)))
  replace eTO : IsPair he TO x y := eTO
  have e1 := S1.ext d1 se.extBut D.TOi1.symm D.l1TO
  have e2 := S2.ext d2 se.extBut D.TOi2.symm D.l2TO
  have ez : IsZip he z TI TO .ellipsis := se.extBut _ _ D.TOz.symm (sd.extBut _ _ D.i2z.symm (sc.extBut _ _ D.TOz.symm (sb.extBut _ _ D.i1z.symm za)))
  have ek : ∀ c o, c ≠ z → c ≠ TO → c ≠ i1 → c ≠ i2 → s.heap.get? c = some o → he.get? c = some o := fun c o n1 n2 n3 n4 e =>
    se.extBut _ _ n2 (sd.extBut _ _ n4 (sc.extBut _ _ n2 (sb.extBut _ _ n3 (sa.extBut _ _ n1 e))))
  have hn : he.objs.size = s.heap.objs.size := by rw [se.1, sd.1, sc.1, sb.1, sa.1]
  refine wpAny_bind (wpAny_letGo (wpAny_pure (wpAny_pure (wpAny_bind (wpAny_seqItems eTO rfl (wpAny_bind (wpAny_newTuple ?_)))))))
  show wpAny _ _ (Builtin.SmallTypes.ownedTupleHandOut (.ref z) (.ref he.objs.size) >>= _) _ _ _
  refine wpAny_bind ?_
  unfold Builtin.SmallTypes.ownedTupleHandOut
  have hzl : z < he.objs.size := Heap.lt_size ez
  have fz : IsZip (he.push { cls := .type "tuple", data := .seq #[x, y] }) z TI TO .ellipsis := Heap.get?_push_of_some _ ez
  refine wpAny_bind (wpAny_setField_rec fz (by simp) fun hg gz sg => ?_)
  replace gz : IsZip hg z TI TO (rawInt he.objs.size) := gz
  refine wpAny_setField_rec gz (by simp) fun hm mz sm => ?_
  replace mz : IsZip hm z TI TO (rawInt he.objs.size) := mz
  have up : ∀ c o, c ≠ z → he.get? c = some o → hm.get? c = some o := fun c o n e => sm.extBut _ _ n (sg.extBut _ _ n (Heap.get?_push_of_some _ e))
  have mT : IsPair hm he.objs.size x y := sm.extBut _ _ (Nat.ne_of_gt hzl) (sg.extBut _ _ (Nat.ne_of_gt hzl) (Heap.get?_push_size _ rfl))
  have mn : hm.objs.size = he.objs.size + 1 := by rw [sm.1, sg.1, Heap.size_push]
  rw [hn] at mz mT mn
  refine wpAny_pure ⟨_, rfl, ?_⟩
  show Q (.ref he.objs.size) _
  rw [hn]
  exact hQ hm mz (up _ _ D.TOz eTO) (S1.keep e1 (fun o e => up _ o D.i1z e) fun o e => up _ o D.l1z e) (S2.keep e2 (fun o e => up _ o D.i2z e) fun o e => up _ o D.l2z e) mT mn fun c o n1 n2 n3 n4 e => up c o n1 (ek c o n1 n2 n3 n4 e)
/-- .. and at an end -/
theorem zipS_fin (S1 : Src i1 l1 xs) (S2 : Src i2 l2 ys) {a b : Value} {Q : Fin → Shared → Prop} (hh : A.handled = none) (D : ZipApart z TI TO i1 i2 l1 l2)
    (hz : IsZip s.heap z TI TO .none) (hTI : IsPair s.heap TI (.ref i1) (.ref i2)) (hTO : IsPair s.heap TO a b) (h1 : S1.at_ s.heap k1) (h2 : S2.at_ s.heap k2) (hend : xs[k1]? = none ∨ ys[k2]? = none)
    (hE : ∀ h' e, (∀ c o, c ≠ z → c ≠ TO → c ≠ i1 → c ≠ i2 → s.heap.get? c = some o → h'.get? c = some o) → (∃ o, h'.get? e = some o ∧ o.cls = .type "StopIteration") → E (.ref e) { s with heap := h' }) :
    wpAny (model prog w) A (Builtin.«zip.__next__» ⟨[.ref z], []⟩) Q E s := by
  show wpAny _ _ (field (.ref z) 2 >>= _) _ _ _
  refine wpAny_bind (wpAny_field hz rfl (x := .bool false) rfl ?_)
  show wpAny _ _ (field (.ref z) 3 >>= _) _ _ _
  refine wpAny_bind (wpAny_field hz rfl (x := .ref TI) rfl (wpAny_bind (wpAny_seqItems hTI rfl ?_)))
  show wpAny _ _ (Builtin.SmallTypes.ownedTupleIsFree (.ref z) >>= _) _ _ _
  refine wpAny_bind ?_
  unfold Builtin.SmallTypes.ownedTupleIsFree
  refine wpAny_bind (wpAny_field hz rfl (x := .none) rfl (wpAny_pure ?_))
  simp only [if_true]
  refine wpAny_bind (wpAny_rule (wpAny_bind (wpAny_field hz rfl (x := .ref TO) rfl (wpAny_bind (wpAny_setField_rec hz (by simp) fun ha za sa => ?_)))))
  replace za : IsZip ha z TI TO .ellipsis := za
  refine wpAny_bind ?_
  simp only [List.zipIdx_cons, List.zipIdx_nil, List.forIn_cons, List.forIn_nil]
  refine wpAny_bind (wpAny_bind (wpAny_onRaise ?_))
  show wpAny _ _ (Builtin.SmallTypes.nextOf (.ref i1) >>= _) _ _ _
  have a1 := S1.ext h1 sa.extBut D.i1z D.l1z
  have a2 := S2.ext h2 sa.extBut D.i2z D.l2z
  have aTO : IsPair ha TO a b := sa.extBut _ _ D.TOz hTO
  have stop : ∀ (h : Heap) (e : Addr), IsZip h z TI TO .ellipsis → (∃ o, h.get? e = some o ∧ o.cls = .type "StopIteration") → e ≠ z := fun h e q he x => by
    obtain ⟨o, ho, hc⟩ := he
    subst x
    rw [q] at ho
    cases ho
    simp at hc
  cases hx : xs[k1]? with
  | none =>
    refine wpAny_bind (S1.fin hh a1 hx fun hb e sb he => ?_)
    have bz : IsZip hb z TI TO .ellipsis := sb _ _ D.i1z.symm za
    have ne := stop hb e bz he
    obtain ⟨oe, hoe, hce⟩ := he
    exact wpAny_setField_rec bz (by simp) fun hc _ sc => hE hc e (fun c o n1 _ n3 _ x => sc.extBut _ _ n1 (sb _ _ n3 (sa.extBut _ _ n1 x))) ⟨oe, sc.extBut _ _ ne hoe, hce⟩
  | some x =>
    have hy : ys[k2]? = none := hend.resolve_left (by rw [hx]; exact fun h => nomatch h)
    refine wpAny_bind (S1.item D.l1i1 a1 hx fun hb b1 sb => wpAny_pure ?_)
    have b2 := S2.ext a2 sb.extBut D.i12.symm D.l2i1
    have bTO : IsPair hb TO a b := sb.extBut _ _ D.TOi1 aTO
    refine wpAny_bind (wpAny_seqItems bTO rfl (wpAny_bind (wpAny_updateSeq_pair bTO fun hc cTO sc => ?_)))
    have c2 := S2.ext b2 sc.extBut D.TOi2.symm D.l2TO
    refine wpAny_bind (wpAny_letGo (wpAny_pure (wpAny_bind (wpAny_bind (wpAny_onRaise ?_)))))
    show wpAny _ _ (Builtin.SmallTypes.nextOf (.ref i2) >>= _) _ _ _
    refine wpAny_bind (S2.fin hh c2 hy fun hd e sd he => ?_)
    have dz : IsZip hd z TI TO .ellipsis := sd _ _ D.i2z.symm (sc.extBut _ _ D.TOz.symm (sb.extBut _ _ D.i1z.symm za))
    have ne := stop hd e dz he
    obtain ⟨oe, hoe, hce⟩ := he
    exact wpAny_setField_rec dz (by simp) fun hm _ sm => hE hm e (fun c o n1 n2 n3 n4 x => sm.extBut _ _ n1 (sd _ _ n4 (sc.extBut _ _ n2 (sb.extBut _ _ n3 (sa.extBut _ _ n1 x))))) ⟨oe, sm.extBut _ _ ne hoe, hce⟩
theorem nextS_item (S1 : Src i1 l1 xs) (S2 : Src i2 l2 ys) {x y a b : Value} {Q : Option Value → Shared → Prop} (D : ZipApart z TI TO i1 i2 l1 l2)
    (hz : IsZip s.heap z TI TO .none) (hTI : IsPair s.heap TI (.ref i1) (.ref i2)) (hTO : IsPair s.heap TO a b) (h1 : S1.at_ s.heap k1) (h2 : S2.at_ s.heap k2) (hi1 : ∃ o, s.heap.get? i1 = some o) (hi2 : ∃ o, s.heap.get? i2 = some o) (hx : xs[k1]? = some x) (hy : ys[k2]? = some y)
    (hQ : ∀ h', IsZip h' z TI TO (rawInt s.heap.objs.size) → IsPair h' TO x y → S1.at_ h' (k1 + 1) → S2.at_ h' (k2 + 1) → IsPair h' s.heap.objs.size x y → h'.objs.size = s.heap.objs.size + 1 →
      (∀ c o, c ≠ z → c ≠ TO → c ≠ i1 → c ≠ i2 → s.heap.get? c = some o → h'.get? c = some o) → Q (some (.ref s.heap.objs.size)) { s with heap := h' }) :
    wpAny (model prog w) A (pyNext (.ref z)) Q E s := by
  have hT : s.TypeIs (.ref z) "zip" := ⟨_, hz, rfl⟩
  unfold pyNext
  exact wpAny_bind (wpAny_attempt (wpAny_callSpecial?_slot (name := Str.ofString "__next__") hT F.slot_zip_next
    (wpAny_call_entry F.slot_zip_next hT F.entry_zip_next
      (zipS_item S1 S2 D hz hTI hTO h1 h2 hi1 hi2 hx hy fun h' p1 p2 p3 p4 p5 p6 p7 => wpAny_pure (hQ h' p1 p2 p3 p4 p5 p6 p7)) (F.args_zip_next_1 _))))
theorem nextS_fin (S1 : Src i1 l1 xs) (S2 : Src i2 l2 ys) {a b : Value} {Q : Option Value → Shared → Prop} (hh : A.handled = none) (D : ZipApart z TI TO i1 i2 l1 l2)
    (hz : IsZip s.heap z TI TO .none) (hTI : IsPair s.heap TI (.ref i1) (.ref i2)) (hTO : IsPair s.heap TO a b) (h1 : S1.at_ s.heap k1) (h2 : S2.at_ s.heap k2) (hend : xs[k1]? = none ∨ ys[k2]? = none)
    (hQ : ∀ h', (∀ c o, c ≠ z → c ≠ TO → c ≠ i1 → c ≠ i2 → s.heap.get? c = some o → h'.get? c = some o) → Q none { s with heap := h' }) : wpAny (model prog w) A (pyNext (.ref z)) Q E s := by
  have hT : s.TypeIs (.ref z) "zip" := ⟨_, hz, rfl⟩
  unfold pyNext
  refine wpAny_bind (wpAny_attempt (wpAny_callSpecial?_slot (name := Str.ofString "__next__") hT F.slot_zip_next
    (wpAny_call_entry F.slot_zip_next hT F.entry_zip_next (zipS_fin S1 S2 hh D hz hTI hTO h1 h2 hend fun h' e hk he => ?_) (F.args_zip_next_1 _))))
  obtain ⟨o, ho, hc⟩ := he
  exact wpAny_bind (wpAny_isInstance (T := "StopIteration") (b := true) ⟨o, ho, hc⟩ isSubtype_stop (wpAny_pure (hQ _ hk)))
end
/-! ### a zip made of a list and a tuple -/
abbrev zMa (h : Heap) (l1 : Addr) : Heap := h.push { cls := .type "list_iterator", data := .fields #[.ref l1, .int 0 0] }
abbrev zMb (h : Heap) (l1 l2 : Addr) : Heap := (zMa h l1).push { cls := .type "tuple_iterator", data := .fields #[.ref l2, .int 0 0] }
abbrev zMc (h : Heap) (l1 l2 : Addr) : Heap := (zMb h l1 l2).push { cls := .type "tuple", data := .seq #[.ref h.objs.size, .ref (zMa h l1).objs.size] }
abbrev zMd (h : Heap) (l1 l2 : Addr) : Heap := (zMc h l1 l2).push { cls := .type "tuple", data := .seq #[.none, .none] }
abbrev zMe (h : Heap) (l1 l2 : Addr) : Heap := (zMd h l1 l2).push { cls := .type "zip", data := .fields #[.none, .bool false, .bool false, .ref (zMb h l1 l2).objs.size, .ref (zMc h l1 l2).objs.size] }
theorem meets_zipM (l1 l2 : Addr) (xs ys : Array Value) :
    Meets (Builtin.«zip.__new__» ⟨[.type "zip", .ref l1, .ref l2], []⟩) (fun _ R s => s.heap.IsList l1 xs ∧ s.heap.IsTuple l2 ys ∧
      R (.ok (.ret (.ref (zMd s.heap l1 l2).objs.size))) { s with heap := zMe s.heap l1 l2 }) :=
  .of_wp fun prog w A R s h => by
    obtain ⟨hp, g, d, tk, os⟩ := s; obtain ⟨hl1, hl2, h⟩ := h
    have hsub := sub_zip
    have hL1 : Heap.IsList (Shared.heap ⟨hp, g, d, tk, os⟩) l1 xs := hl1
    have hL2 : Heap.IsTuple (Shared.heap ⟨hp.push { cls := .type "list_iterator", data := .fields #[.ref l1, .int 0 0] }, g, d, tk, os⟩) l2 ys := Heap.IsTuple.push hl2 _
    wp_walk using wpAny_pyIter_list hL1, wpAny_pyIter_tuple hL2
    exact ⟨_, rfl, h⟩
theorem call_zipM {prog : Program} {w : World} {A : Around} {E : Value → Shared → Prop} {s : Shared} {l1 l2 : Addr} {xs ys : Array Value} {Q : Value → Shared → Prop} (hl1 : s.heap.IsList l1 xs) (hl2 : s.heap.IsTuple l2 ys)
    (h : ∀ h', IsZip h' (s.heap.objs.size + 4) (s.heap.objs.size + 2) (s.heap.objs.size + 3) .none → IsPair h' (s.heap.objs.size + 2) (.ref s.heap.objs.size) (.ref (s.heap.objs.size + 1)) →
      IsPair h' (s.heap.objs.size + 3) .none .none → h'.IsListIter s.heap.objs.size l1 0 → h'.IsTupleIter (s.heap.objs.size + 1) l2 0 → h'.objs.size = s.heap.objs.size + 5 →
      (∀ c o, s.heap.get? c = some o → h'.get? c = some o) → Q (.ref (s.heap.objs.size + 4)) { s with heap := h' }) :
    wpAny (model prog w) A (PySem.call (.type "zip") [.ref l1, .ref l2]) Q E s := by
  refine callType_new F.called_zip (by decide) (F.typeCall_zip_2 _ _) (F.newCall_zip_2 _ _) (fun obj => F.args_object_init_3 obj _ _) F.entry_zip_new
    (meets_zipM l1 l2 xs ys) ⟨hl1, hl2, ?_⟩
  have n1 : (zMa s.heap l1).objs.size = s.heap.objs.size + 1 := Heap.size_push ..
  have n2 : (zMb s.heap l1 l2).objs.size = s.heap.objs.size + 2 := by rw [Heap.size_push, n1]
  have n3 : (zMc s.heap l1 l2).objs.size = s.heap.objs.size + 3 := by rw [Heap.size_push, n2]
  have n4 : (zMd s.heap l1 l2).objs.size = s.heap.objs.size + 4 := by rw [Heap.size_push, n3]
  have n5 : (zMe s.heap l1 l2).objs.size = s.heap.objs.size + 5 := by rw [Heap.size_push, n4]
  have g5 : (zMe s.heap l1 l2).get? (zMd s.heap l1 l2).objs.size = some _ := Heap.get?_push_size _ rfl
  have g4 : (zMe s.heap l1 l2).get? (zMc s.heap l1 l2).objs.size = some _ := Heap.get?_push_of_some _ (Heap.get?_push_size _ rfl)
  have g3 : (zMe s.heap l1 l2).get? (zMb s.heap l1 l2).objs.size = some _ := Heap.get?_push_of_some _ (Heap.get?_push_of_some _ (Heap.get?_push_size _ rfl))
  have g2 : (zMe s.heap l1 l2).get? (zMa s.heap l1).objs.size = some _ := Heap.get?_push_of_some _ (Heap.get?_push_of_some _ (Heap.get?_push_of_some _ (Heap.get?_push_size _ rfl)))
  have g1 : (zMe s.heap l1 l2).get? s.heap.objs.size = some _ := Heap.get?_push_of_some _ (Heap.get?_push_of_some _ (Heap.get?_push_of_some _ (Heap.get?_push_of_some _ (Heap.get?_push_size _ rfl))))
  show _ ∧ _
  rw [n2, n3, n4] at g5
  rw [n1, n2] at g3
  rw [n3] at g4
  rw [n1] at g2
  rw [n4]
  exact ⟨⟨_, g5, rfl⟩, h _ g5 g3 g4 ⟨_, g1, rfl, rfl⟩ ⟨_, g2, rfl, rfl⟩ n5 fun c o x =>
    Heap.get?_push_of_some _ (Heap.get?_push_of_some _ (Heap.get?_push_of_some _ (Heap.get?_push_of_some _ (Heap.get?_push_of_some _ x))))⟩
/-- the list at a beside the tuple at b, the items in new pairs -/
def ItzM (K : PySem.W.Frag) (a b : Addr) : It :=
  ⟨fun i H => ∃ (xs ys : List V) (x y : V), SqL K H a xs ∧ SqT K H b ys ∧ xs[i]? = some x ∧ ys[i]? = some y,
    fun i H v H' => ∃ T x y, v = .ref T ∧ H T = none ∧ H' = upd H T (.tup [x, y]) ∧ (∀ xs, SqL K H a xs → xs[i]? = some x) ∧ ∀ ys, SqT K H b ys → ys[i]? = some y,
    fun i H => ∃ xs ys : List V, SqL K H a xs ∧ SqT K H b ys ∧ (xs.length ≤ i ∨ ys.length ≤ i)⟩
theorem turn_zipM {P : Program} {w : World} {K : PySem.W.Frag} {elts : List Expr} {kk : Nat} {tpos : Pos} {a b z TI TO i1 i2 : Addr} (D : ZipApart z TI TO i1 i2 a b) :
    Turn P w K (.Tuple elts kk tpos) (ItzM K a b) [z, TI, TO, i1, i2] z (fun i h => IsZip h z TI TO .none ∧ IsPair h TI (.ref i1) (.ref i2) ∧ (∃ x y, IsPair h TO x y) ∧ h.IsListIter i1 a i ∧ h.IsTupleIter i2 b i) where
  mem := by simp
  obj := fun i h st c hc => by
    obtain ⟨hz, hTI, ⟨x, y, hTO⟩, ⟨o1, e1, _, d1⟩, ⟨o2, e2, _, d2⟩⟩ := st
    have e' : c = z ∨ c = TI ∨ c = TO ∨ c = i1 ∨ c = i2 := by simpa using hc
    rcases e' with q | q | q | q | q
    · rw [q]; exact ⟨_, hz, fun v q => nomatch q⟩
    · rw [q]; exact ⟨_, hTI, fun v q => nomatch q⟩
    · rw [q]; exact ⟨_, hTO, fun v q => nomatch q⟩
    · rw [q]; exact ⟨o1, e1, fun v q => by rw [d1] at q; cases q⟩
    · rw [q]; exact ⟨o2, e2, fun v q => by rw [d2] at q; cases q⟩
  keep := fun i h h' st k => by
    obtain ⟨hz, hTI, ⟨x, y, hTO⟩, h1, h2⟩ := st
    exact ⟨k z (by simp) _ hz, k TI (by simp) _ hTI, ⟨x, y, k TO (by simp) _ hTO⟩, h1.at fun o q => k i1 (by simp) o q, h2.at fun o q => k i2 (by simp) o q⟩
  item := by
    intro X hP hw hK hc i pins s σ H E I hf st hg
    subst hP hw hK
    obtain ⟨hz, hTI, ⟨x0, y0, hTO⟩, h1, h2⟩ := st
    obtain ⟨xs, ys, x, y, hqx, hqy, hx, hy⟩ := hg
    obtain ⟨its, rv, p, _⟩ := I.list hqx
    obtain ⟨its2, rv2, p2, _⟩ := I.tuple hqy
    obtain ⟨u, hu, ru⟩ := rv.get hx
    obtain ⟨u2, hu2, ru2⟩ := rv2.get hy
    have hzl : z < s.heap.objs.size := Heap.lt_size hz
    have l1 : i1 < s.heap.objs.size := by obtain ⟨_, e1, _⟩ := h1; exact Heap.lt_size e1
    have l2 : i2 < s.heap.objs.size := by obtain ⟨_, e2, _⟩ := h2; exact Heap.lt_size e2
    refine nextS_item (srcL i1 a its.toArray) (srcT i2 b its2.toArray) D hz hTI hTO ⟨h1, p.isList⟩ ⟨h2, p2⟩ (let ⟨o, e, _⟩ := h1; ⟨o, e⟩) (let ⟨o, e, _⟩ := h2; ⟨o, e⟩) (x := u) (y := u2) (by simpa using hu) (by simpa using hu2) fun h' z' TO' h1' h2' hT hsz hk => ?_
    refine ⟨_, rfl, wpAny_letOwnedTupleGo_zip (s := { s with heap := h' }) z' fun h'' z'' sb => ?_⟩
    have hT2 : h''.get? s.heap.objs.size = some { cls := .type "tuple", data := .seq #[u, u2] } := (sb.2 _ (Nat.ne_of_gt hzl)).trans hT
    have new : ObjOk X.prog X.w (upd H s.heap.objs.size (.tup [x, y])) h'' s.heap.objs.size (.tup [x, y]) :=
      ⟨by show 2 ≤ sizeLine; decide, [u, u2], .cons ru (.cons ru2 .nil), ⟨_, hT2, rfl, _, rfl⟩⟩
    have I1 : Inv X pins σ (upd H s.heap.objs.size (.tup [x, y])) { s with heap := h'' } :=
      I.turnedNew (t' := s.toks) (ch := [z, TI, TO, i1, i2]) (fun c o hb q => (sb.2 c (fun q' => hb (by simp [q']))).trans (hk c o (fun q' => hb (by simp [q'])) (fun q' => hb (by simp [q'])) (fun q' => hb (by simp [q'])) (fun q' => hb (by simp [q'])) q)) hf (Nat.le_refl _) new
    refine ⟨.ref s.heap.objs.size, _, I1, rfl, ⟨_, x, y, rfl, I.hok.fresh (Nat.le_refl _), rfl, fun l hl => by rw [I.list_inj hl hqx]; exact hx, fun l hl => by rw [I.tuple_inj hl hqy]; exact hy⟩, ⟨z'', ?_, ⟨u, u2, ?_⟩, ?_, ?_⟩, fun c hcm => ?_⟩
    · exact (sb.2 _ D.TIz).trans (hk _ _ D.TIz D.TITO D.TIi1 D.TIi2 hTI)
    · exact (sb.2 _ D.TOz).trans TO'
    · exact h1'.1.at fun o q => (sb.2 _ D.i1z).trans q
    · exact h2'.1.at fun o q => (sb.2 _ D.i2z).trans q
    · have hlt : c < s.heap.objs.size := by
        have e' : c = z ∨ c = TI ∨ c = TO ∨ c = i1 ∨ c = i2 := by simpa using hcm
        rcases e' with q | q | q | q | q <;> rw [q]
        · exact hzl
        · exact Heap.lt_size hTI
        · exact Heap.lt_size hTO
        · exact l1
        · exact l2
      rw [upd_ne (Nat.ne_of_lt hlt)]
      exact (hf c hcm).1
  done := by
    intro X hP hw hK hc i pins s σ H E I hf st hg
    subst hP hw hK
    obtain ⟨hz, hTI, ⟨x0, y0, hTO⟩, h1, h2⟩ := st
    obtain ⟨xs, ys, hqx, hqy, hend⟩ := hg
    obtain ⟨its, rv, p, _⟩ := I.list hqx
    obtain ⟨its2, rv2, p2, _⟩ := I.tuple hqy
    have l1 := rv.length
    have l2 := rv2.length
    have he : its.toArray[i]? = none ∨ its2.toArray[i]? = none := by
      rcases hend with q | q
      · exact .inl (by simp; omega)
      · exact .inr (by simp; omega)
    exact nextS_fin (srcL i1 a its.toArray) (srcT i2 b its2.toArray) (I.ok.hd hc) D hz hTI hTO ⟨h1, p.isList⟩ ⟨h2, p2⟩ he fun h' hk => ⟨rfl, I.turnedL (t' := s.toks) (ch := [z, TI, TO, i1, i2]) (fun c o hb q =>
      hk c o (fun q' => hb (by simp [q'])) (fun q' => hb (by simp [q'])) (fun q' => hb (by simp [q'])) (fun q' => hb (by simp [q'])) q) hf⟩
  self := fun A i s Q E st h => wpAny_pyIter_zip st.1 h
def iZipM (K : PySem.W.Frag) (ta : TA) : TI := fun σ H R => ta σ H fun vs H1 => ∃ a b xs ys, vs = [.ref a, .ref b] ∧ ((SqL K H1 a xs ∧ SqL K H1 b ys ∧ R (Itz K a b) H1) ∨ (SqL K H1 a xs ∧ SqT K H1 b ys ∧ R (ItzM K a b) H1))
theorem pi_zipM {X : Cx} {e e2 : Expr} {ta : TA} {p pos tpos : Pos} {elts : List Expr} {kk : Nat} (hg : Gl X "zip") (hm : X.mg "zip" = none) (ha : PA X [e, e2] ta)
    (hs : starEach [e, e2] X.env = (false, eval e X.env) :: starEach [e2] X.env := by rfl) (hpl : (backTo pos (starEach [e2] X.env)).any (·.1) = false := by rfl) :
    PI X (.Tuple elts kk tpos) (.Call (.Name "zip" p) [e, e2] [] pos) (iZipM X.K ta) := by
  refine ⟨fun pins s σ H R I h => ?_⟩
  refine Call_ (ld_blt I hg hm PyProof.Rows.boot_zip (PyProof.Rows.callWith_type1 (thn (ha.run pos pins s σ H _ I h) fun us s1 ⟨vs, H1, I1, r1, q1⟩ => ?_) hs hpl))
  obtain ⟨a, b, xs, ys, ex, q1⟩ := q1
  subst ex
  cases r1 with
  | cons r rr =>
    cases rr with
    | cons r' rr =>
      cases rr
      cases r
      cases r'
      have fresh5 : ∀ c, c ∈ [s1.heap.objs.size + 4, s1.heap.objs.size + 2, s1.heap.objs.size + 3, s1.heap.objs.size, s1.heap.objs.size + 1] → FpOk X pins H1 c := fun c hcm => by
        have hle : s1.heap.objs.size ≤ c := by
          simp only [List.mem_cons, List.not_mem_nil, or_false] at hcm
          rcases hcm with z | z | z | z | z <;> rw [z] <;> first | exact Nat.le_add_right _ _ | exact Nat.le_refl _
        exact I1.fpOk hle (I1.hok.fresh hle)
      rcases q1 with ⟨hqx, hqy, q⟩ | ⟨hqx, hqy, q⟩
      · obtain ⟨its, rv, p1, _⟩ := I1.list hqx
        obtain ⟨its2, rv2, p2, _⟩ := I1.list hqy
        refine call_zip_2 p1.isList p2.isList fun h' hz hTI hTO h1 h2 hsz hk => wpAny_pyIter_zip hz ?_
        have I2 : Inv X pins σ H1 { s1 with heap := h' } := I1.kept (t' := s1.toks) hk
        exact ⟨s1.heap.objs.size + 4, [s1.heap.objs.size + 4, s1.heap.objs.size + 2, s1.heap.objs.size + 3, s1.heap.objs.size, s1.heap.objs.size + 1], _, _, H1, rfl, I2, turn_zip (PySem.W.ktu_apart s1.heap.objs.size a b p1.lt p2.lt), ⟨hz, hTI, ⟨_, _, hTO⟩, h1, h2⟩, fresh5, q⟩
      · obtain ⟨its, rv, p1, _⟩ := I1.list hqx
        obtain ⟨its2, rv2, p2, _⟩ := I1.tuple hqy
        obtain ⟨o2, ho2, _⟩ := id p2
        refine call_zipM p1.isList (show s1.heap.IsTuple b its2.toArray from p2) fun h' hz hTI hTO h1 h2 hsz hk => wpAny_pyIter_zip hz ?_
        have I2 : Inv X pins σ H1 { s1 with heap := h' } := I1.kept (t' := s1.toks) hk
        exact ⟨s1.heap.objs.size + 4, [s1.heap.objs.size + 4, s1.heap.objs.size + 2, s1.heap.objs.size + 3, s1.heap.objs.size, s1.heap.objs.size + 1], _, _, H1, rfl, I2, turn_zipM (PySem.W.ktu_apart s1.heap.objs.size a b p1.lt (Heap.lt_size ho2)), ⟨hz, hTI, ⟨_, _, hTO⟩, h1, h2⟩, fresh5, q⟩
/-! ### .. of data -/
theorem iterZM {K : PySem.W.Frag} {φ : Wd} {H : Hp} {p q : Addr} {vt : List V} {xs ys : List D} {w : Watch} (h : ∀ φ2 H2 st2, Ext K φ H φ2 H2 → Sim K φ2 H2 st2 → okW w st2 → ∃ vs, SqL K H2 p vs ∧ RepVs K φ2 H2 vs xs)
    (ht : SqT K H q vt) (rt : RepVs K φ H vt ys) : IterOk K φ H (zipD xs ys) w (ItzM K p q) := by
  have hl := rt.length
  refine ⟨fun H => GL K p xs.length H ∧ SqT K H q vt, (ItzM K p q).yld, ⟨?_, ?_, fun i H x H' _ _ y => y⟩, fun φ2 H2 st2 e s ow => ?_, fun φ2 H2 st2 i x H3 hi e s ow y => ?_⟩
  · rintro i H hi ⟨⟨vs, h, e⟩, h'⟩
    rw [zipD_len] at hi
    exact ⟨vs, vt, vs[i]'(by omega), vt[i]'(by omega), h, h', List.getElem?_eq_getElem (by omega), List.getElem?_eq_getElem (by omega)⟩
  · rintro H ⟨⟨vs, h, e⟩, h'⟩
    refine ⟨vs, vt, h, h', ?_⟩
    rw [zipD_len]; omega
  · obtain ⟨vs, h1, h2⟩ := h φ2 H2 st2 e s ow
    exact ⟨⟨vs, h1, h2.length⟩, e.tup q vt ht⟩
  · obtain ⟨vs, h1, h2⟩ := h φ2 H2 st2 e s ow
    obtain ⟨T, x1, x2, rfl, hn, rfl, y, y'⟩ := y
    obtain ⟨d, hd, rd⟩ := h2.get' (y vs h1)
    obtain ⟨d', hd', rd'⟩ := (rt.ext e).get' (y' vt (e.tup q vt ht))
    obtain ⟨q1, q2, q3⟩ := turnT (ds := [d, d']) s hn (.cons rd (.cons rd' .nil))
    exact ⟨_, zipD_get xs ys i d d' hd hd', q1, q2, q3⟩
/-! ### len(set(t)), t a tuple of ints -/
theorem mem_uniqI {k : Int} : ∀ {is : List Int}, k ∈ uniqI is ↔ k ∈ is
  | [] => Iff.rfl
  | a :: r => by
    have ih := @mem_uniqI k r
    unfold uniqI
    split
    · rename_i h
      rw [ih]
      exact ⟨fun z => List.mem_cons_of_mem _ z, fun z => (List.mem_cons.mp z).elim (fun e => e ▸ h) id⟩
    · rw [List.mem_cons, List.mem_cons, ih]
theorem nodup_uniqI : ∀ (is : List Int), (uniqI is).Nodup
  | [] => List.nodup_nil
  | a :: r => by
    have ih := nodup_uniqI r
    unfold uniqI
    split
    · exact ih
    · rename_i h
      exact List.nodup_cons.mpr ⟨fun z => h (mem_uniqI.mp z), ih⟩
theorem nodupI_le : ∀ (l m : List Int), l.Nodup → (∀ x ∈ l, x ∈ m) → l.length ≤ m.length
  | [], _, _, _ => Nat.zero_le _
  | x :: l, m, hn, hs => by
    obtain ⟨h1, h2⟩ := List.nodup_cons.mp hn
    have hx : x ∈ m := hs x List.mem_cons_self
    have ih := nodupI_le l (m.erase x) h2 fun y hy => by
      have hne : y ≠ x := fun e => h1 (e ▸ hy)
      exact (List.mem_erase_of_ne hne).2 (hs y (List.mem_cons_of_mem _ hy))
    have e := List.length_erase_of_mem hx
    have hp : 0 < m.length := List.length_pos_of_mem hx
    rw [List.length_cons]
    omega
theorem uniqI_len {l is : List Int} (hn : l.Nodup) (hm : ∀ k, k ∈ l ↔ k ∈ is) : l.length = (uniqI is).length :=
  Nat.le_antisymm (nodupI_le _ _ hn fun x hx => mem_uniqI.mpr ((hm x).mp hx)) (nodupI_le _ _ (nodup_uniqI is) fun x hx => (hm x).mpr (mem_uniqI.mp hx))
def tLenSetT (K : PySem.W.Frag) (ta : TE) : TE := fun σ H Q => ta σ H fun x H1 => ∃ (l : Addr) (ns : List Int), x = V.ref l ∧ SqT K H1 l (ns.map V.int) ∧ ns.length ≤ 1000 ∧ Q (.int ((uniqI ns).length : Nat)) H1
section
variable {X : Cx}
theorem pe_lenSetT {a : Expr} {ta : TE} {p p2 q pos : Pos} (hc : X.calm = true) (hg : Gl X "len") (hm : X.mg "len" = none) (hg2 : Gl X "set") (hm2 : X.mg "set" = none) (ha : PE X a ta)
    (na : starEach [a] X.env = (false, eval a X.env) :: starEach [] X.env) : PE X (.Call (.Name "len" p) [.Call (.Name "set" p2) [a] [] q] [] pos) (tLenSetT X.K ta) := by
  refine ⟨fun pins s σ H Q I h => ?_⟩
  refine Call_ (ld_blt I hg hm PySem.boot_len ?_)
  refine PyProof.Rows.callWith_builtin1 (PyProof.Rows.args_cons ?_ rfl) rfl rfl
  refine Call_ (ld_blt I hg2 hm2 PyProof.Rows.boot_set ?_)
  refine PyProof.Rows.callWith_type1 (PyProof.Rows.args_cons (thn (ha.run pins s σ H _ I h) fun v s1 ⟨x, H1, I1, r1, q1⟩ => PyProof.Rows.args_nil ?_) na) na rfl
  obtain ⟨l, ns, rfl, hq, h1, q1⟩ := q1
  cases r1
  obtain ⟨its, rv, pt, hz⟩ := I1.tuple hq
  have hi : IntsAre its.toArray.toList ns := ints_of_vals rv
  refine call_set_tupI ns (I1.ok.hd hc) (show s1.heap.IsTuple l its.toArray from pt) hi (by unfold scanBound; omega) fun h' tk c R1 hcn hk => ?_
  refine PyProof.Rows.args_nil ?_
  obtain ⟨o, es, ep, t, ho, hex, hd, _, nd, hm, hb, hf, hn, _, _⟩ := R1
  have hl : es.size = (uniqI ns).length := by
    rw [← uniqI_len nd fun k => by rw [← hm k, decide_eq_true_eq], List.length_map, Array.length_toList]
  have I2 : Inv X pins σ H1 { s1 with heap := h', toks := tk } := I1.kept fun b o e => hk b o e
  refine call_len_set ho hex hd hf (by unfold scanBound at hb; omega) ⟨.int ((uniqI ns).length : Nat), H1, I2.tok _, ⟨_, by rw [hl]⟩, q1⟩
end
end PC
end
section
set_option Elab.async false
set_option linter.all false
set_option autoImplicit false
set_option maxRecDepth 100000
set_option maxHeartbeats 1000000
namespace PC
open PySem L2 PyProof.Rows

/-! ### names that are bound -/
def setAllV (σ : L2.St) : List Nat → List V → L2.St
  | i :: is, v :: vs => setAllV (σ.set i (some v)) is vs
  | _, _ => σ
def gNs : List Nat → TGs
  | [] => gNil
  | i :: is => gCons (gName i) (gNs is)
theorem setAllV_len : ∀ (is : List Nat) (vs : List V) (σ : L2.St), (setAllV σ is vs).length = σ.length
  | [], _, _ => by rw [setAllV]; exact fun _ _ _ _ h => nomatch h
  | i :: is, [], _ => by rw [setAllV]; exact fun _ _ _ _ _ h => nomatch h
  | i :: is, v :: vs, σ => by rw [setAllV, setAllV_len is vs, List.length_set]
theorem setAllV_out : ∀ (is : List Nat) (vs : List V) (σ : L2.St) (j : Nat), j ∉ is → (setAllV σ is vs)[j]? = σ[j]?
  | [], _, _, _, _ => by rw [setAllV]; exact fun _ _ _ _ h => nomatch h
  | i :: is, [], _, _, _ => by rw [setAllV]; exact fun _ _ _ _ _ h => nomatch h
  | i :: is, v :: vs, σ, j, h => by
    rw [setAllV, setAllV_out is vs _ j (fun z => h (List.mem_cons_of_mem _ z)), List.getElem?_set_ne (fun (e : i = j) => h (e ▸ List.mem_cons_self))]
theorem wipe_in : ∀ (t : List Nat) (σ : L2.St) (j : Nat), j ∈ t → j < σ.length → (L2.wipe σ t)[j]? = some none
  | v :: vs, σ, j, h, hl => by
    unfold L2.wipe
    by_cases e : v = j
    · subst e
      rw [List.getElem?_set_self (by rw [wipe_length]; exact hl)]
    · rw [List.getElem?_set_ne e]
      exact wipe_in vs σ j ((List.mem_cons.mp h).resolve_left fun z => e z.symm) hl
theorem wipe_out : ∀ (t : List Nat) (σ : L2.St) (j : Nat), j ∉ t → (L2.wipe σ t)[j]? = σ[j]?
  | [], _, _, _ => rfl
  | v :: vs, σ, j, h => by
    unfold L2.wipe
    rw [List.getElem?_set_ne (fun (e : v = j) => h (e ▸ List.mem_cons_self))]
    exact wipe_out vs σ j fun z => h (List.mem_cons_of_mem _ z)
theorem wipe_same {σ σ' : L2.St} {t : List Nat} (hl : σ'.length = σ.length) (h : ∀ j, j ∉ t → σ'[j]? = σ[j]?) : L2.wipe σ' t = L2.wipe σ t := by
  apply List.ext_getElem?
  intro j
  by_cases hj : j ∈ t
  · by_cases hlt : j < σ.length
    · rw [wipe_in t σ j hj hlt, wipe_in t σ' j hj (by omega)]
    · rw [List.getElem?_eq_none (by rw [wipe_length]; omega), List.getElem?_eq_none (by rw [wipe_length]; omega)]
  · rw [wipe_out t σ j hj, wipe_out t σ' j hj, h j hj]
theorem gNs_ok : ∀ {is : List Nat} {vs : List V} {σ : L2.St} {H : Hp} {Q : L2.St → Hp → Prop}, vs.length = is.length → Q (setAllV σ is vs) H → gNs is vs σ H Q
  | [], [], _, _, _, _, h => ⟨rfl, h⟩
  | [], _ :: _, _, _, _, e, _ => nomatch e
  | _ :: _, [], _, _, _, e, _ => nomatch e
  | i :: is, v :: vs, σ, H, Q, e, h => ⟨v, vs, rfl, gNs_ok (σ := σ.set i (some v)) (by simpa using e) h⟩
section
variable {K : PySem.W.Frag} {φ : Wd} {H : Hp}
theorem RepS.setAll : ∀ {is : List Nat} {vs : List V} {ds : List D} {σ : L2.St} {τ : Slots}, RepS K φ H σ τ → RepVs K φ H vs ds → RepS K φ H (setAllV σ is vs) (PC.setAll τ is ds)
  | [], _, _, _, _, r, _ => by
    rw [setAllV, PC.setAll]
    · exact r
    · exact fun _ _ _ _ h => nomatch h
    · exact fun _ _ _ _ h => nomatch h
  | i :: is, _, _, _, _, r, .nil => by
    rw [setAllV, PC.setAll]
    · exact r
    · exact fun _ _ _ _ _ h => nomatch h
    · exact fun _ _ _ _ _ h => nomatch h
  | i :: is, v :: vs, d :: ds, _, _, r, .cons a b => RepS.setAll (is := is) (r.set a i) b
end
/-- the names of a loop or a comprehension, by the core -/
def gT (K : PySem.W.Frag) (t : List Nat) (one : Bool) : TG := fun v σ H Q => ∃ φ τ st d, RepS K φ H σ τ ∧ Sim K φ H st ∧ RepV K φ H v d ∧
  match bindT t one d τ st with
  | some τ' => ∀ σ', RepS K φ H σ' τ' → L2.wipe σ' t = L2.wipe σ t → Q σ' H
  | none => False
section
variable {Y : Cx}
theorem PG.weak {e : Expr} {t t' : TG} (h : PG Y e t) (k : ∀ v σ H Q, t' v σ H Q → t v σ H Q) : PG Y e t' := ⟨fun pins s σ H v u Q I r q => h.run pins s σ H v u Q I r (k v σ H Q q)⟩
/-- which names may be stored -/
def Sto (Y : Cx) (x : Str) : Prop := Loc Y.env.scope x ∧ (Y.fn x = true ∨ Y.env.scope.names.lookup x = some .local)
theorem pgNames {scope' : Scope} (nd : Y.N.Nodup) (hs : ∀ x, locB scope' x = true → Sto Y x) : ∀ {is : List Nat} {es : List Expr}, chkNames Y.N scope' is es = true → PGs Y es (gNs is)
  | [], [], _ => pgs_nil
  | [], _ :: _, h => by cases h
  | _ :: _, [], h => by cases h
  | i :: is, e :: es, h => by
    cases e with
    | Name x p =>
      simp only [chkNames, Bool.and_eq_true, decide_eq_true_eq] at h
      obtain ⟨h1, h2⟩ := hs x h.1.2
      exact pgs_cons (pg_name nd h.1.1 h1 h2) (pgNames nd hs h.2)
    | _ => cases h
theorem each_len {env : Env} {sc : Scope} {N : List Str} : ∀ {is : List Nat} {es : List Expr}, chkNames N sc is es = true → (assignEach es env).length = is.length ∧ (assignEach es env).findIdx? (·.1) = none
  | [], [], _ => ⟨rfl, rfl⟩
  | [], _ :: _, h => by cases h
  | _ :: _, [], h => by cases h
  | i :: is, e :: es, h => by
    cases e with
    | Name x p =>
      simp only [chkNames, Bool.and_eq_true] at h
      obtain ⟨h1, h2⟩ := each_len (env := env) h.2
      have e1 : assignEach (.Name x p :: es) env = (false, assign (.Name x p) env) :: assignEach es env := rfl
      rw [e1]
      refine ⟨by rw [List.length_cons, List.length_cons, h1], ?_⟩
      rw [List.findIdx?_cons, h2]
      rfl
    | _ => cases h
theorem pgT (calm : Y.calm = true) (nd : Y.N.Nodup) {scope' : Scope} (hs : ∀ x, locB scope' x = true → Sto Y x) {t : List Nat} {one : Bool} {tg : Expr} (h : chkT Y.N scope' t one tg = true) : PG Y tg (gT Y.K t one) := by
  unfold chkT at h
  cases one with
  | true =>
    simp only at h
    split at h
    · rename_i i x p
      simp only [Bool.and_eq_true, decide_eq_true_eq] at h
      obtain ⟨h1, h2⟩ := hs x h.2
      refine PG.weak (pg_name nd h.1 h1 h2) fun v σ H Q ⟨φ, τ, st, d, rs, sim, rv, q⟩ => ?_
      simp only [bindT] at q
      exact q _ (rs.set rv i) (wipe_same (by rw [List.length_set]) fun j hj => List.getElem?_set_ne (fun e => hj (by rw [← e]; exact List.mem_singleton.mpr rfl)))
    · cases h
  | false =>
    simp only at h
    split at h
    · rename_i es k p
      obtain ⟨e1, e2⟩ := each_len (env := Y.env) h
      refine PG.weak (pg_tup calm (pgNames nd hs h) e1 e2) fun v σ H Q ⟨φ, τ, st, d, rs, sim, rv, q⟩ => ?_
      simp only [bindT] at q
      cases ed : deref st d with
      | tup ds =>
        rw [ed] at q
        by_cases hl : ds.length = t.length
        · simp only [if_pos hl] at q
          obtain ⟨a, vs, rfl, h1, h2⟩ := tup_at rv ed
          exact ⟨a, vs, rfl, h1, by rw [h2.length]; exact hl, gNs_ok (by rw [h2.length]; exact hl) (q _ (rs.setAll h2) (wipe_same (setAllV_len _ _ _) (setAllV_out _ _ _)))⟩
        · simp only [if_neg hl] at q
      | _ => rw [ed] at q; exact q.elim
    · cases h
end
theorem ownOf_snd (N : List Str) : ∀ t : List Nat, (ownOf N t).map (·.2) = t
  | [] => rfl
  | i :: is => by rw [ownOf, List.map_cons, ownOf_snd N is]
section
variable {X : Cx}
/-- a list of one's own is put otherwise, seen from where it was not there -/
theorem Ext.ownput {K : PySem.W.Frag} {φ φ' : Wd} {H H' : Hp} {p : Addr} {xs : List V} {o : HO} (e : Ext K φ H φ' H') (hn : H p = none) (hH : H' p = some (.lst xs)) (hf : ¬ φ'.F p) : Ext K φ H φ' (upd H' p o) := by
  have e0 : Ext0 K φ' H' φ' (upd H' p o) := Ext0.own hH hf
  refine ⟨⟨e.pre, fun q vs h => e0.tup q vs (e.tup q vs h), fun q vs h h' => let z := e.lst q vs h h'; e0.lst q vs z.1 z.2⟩, fun q u h hc => ?_, e.new, e.newF, fun q h => e.dom q (dom_upd h)⟩
  · rw [upd_ne (ne_of_none h hn)]
    exact e.keep q u h hc
theorem sto_blk {s : Shared} {H : Hp} {scope : Scope} {C : Addr} {cl : List (Str × Addr)} {fp : List Addr} (x : Str) (h : locB scope x = true) : Sto (X.blk s H scope (compEnvC scope cl C X.env) fp) x := by
  have hk : ∀ k, k ≠ NameKind.free → scope.names.lookup x = some k → (relS scope X.env.scope).names.lookup x = some k := fun k hk e => lookup_relS_keep hk e
  rcases locB_ok h with e | e
  · exact ⟨.inl (hk _ (by decide) e), .inr (hk _ (by decide) e)⟩
  · refine ⟨.inr (hk _ (by decide) e), .inl ?_⟩
    show (scope.names.lookup x == some NameKind.cell) = true
    rw [e]; rfl
theorem lcO {W : WT} (calm : X.calm = true) (nd : X.N.Nodup) {t : List Nat} {one : Bool} {tg iter elt : Expr} {ifs : List Expr} {scope : Scope} {pos : Pos} {fI : Slots → Store → Res (List D × Watch)} {fC : Slots → Store → Res Bool} {fE : Slots → Store → Res D}
    (hblk : blkC X.N X.env.scope scope (ownOf X.N t) = true) (hT : chkT X.N scope t one tg = true) (hi : PI X tg iter (tI X.K W fI))
    (hc : ∀ (s : Shared) (H : Hp) (C : Addr) (cl : List (Str × Addr)) (fp : List Addr), PTs (X.blk s H scope (compEnvC scope cl C X.env) fp) ifs (tR X.K noWT (fun _ _ (v : Bool) b => v = b) fC))
    (he : ∀ (s : Shared) (H : Hp) (C : Addr) (cl : List (Str × Addr)) (fp : List Addr), PE (X.blk s H scope (compEnvC scope cl C X.env) fp) elt (tD X.K noWT fE)) :
    ∃ g tt te, (PI X tg iter (tI X.K W fI)) ∧ (∀ (s : Shared) (H : Hp) (C : Addr) (cl : List (Str × Addr)) (fp : List Addr), PG (X.blk s H scope (compEnvC scope cl C X.env) fp) tg g) ∧
      (∀ (s : Shared) (H : Hp) (C : Addr) (cl : List (Str × Addr)) (fp : List Addr), PTs (X.blk s H scope (compEnvC scope cl C X.env) fp) ifs tt) ∧
      (∀ (s : Shared) (H : Hp) (C : Addr) (cl : List (Str × Addr)) (fp : List Addr), PE (X.blk s H scope (compEnvC scope cl C X.env) fp) elt te) ∧
      ∀ σ H Q, tO X.K W (fun τ st => (fI τ st).bind fun w st => gd (w.1.length ≤ lineN) (lcL (fun x st => match bindT t one x (PC.wipe τ t) st with
        | some τ' => (fC τ' st).bind fun b st => match b with
          | true => (fE τ' st).bind fun y st => .ok (some y) st
          | false => .ok none st
        | none => .err) w.2 w.1 st)) σ H Q → tLc (tI X.K W fI) g tt te ((ownOf X.N t).map (·.2)) σ H Q := by
  refine ⟨gT X.K t one, _, _, hi, fun s H C cl fp => pgT (Y := X.blk s H scope (compEnvC scope cl C X.env) fp) calm nd (fun x hx => sto_blk x hx) hT, hc, he, fun σ H Q h => ?_⟩
  rw [ownOf_snd]
  obtain ⟨φ0, τ, st0, rs0, sim0, post0⟩ := h
  refine ⟨φ0, τ, st0, rs0, sim0, post0.bind fun w st1 φ1 H1 J e1 s1 hJ post1 => ?_⟩
  obtain ⟨hlen, post⟩ := gdO post1
  generalize hst : (fun (x : D) (st : Store) => match bindT t one x (PC.wipe τ t) st with
        | some τ' => (fC τ' st).bind fun b st => match b with
          | true => (fE τ' st).bind fun y st => .ok (some y) st
          | false => .ok none st
        | none => .err) = step at post
  obtain ⟨ds, w⟩ := w
  have hJ : IterOk X.K φ1 H1 ds w J := hJ
  have hlen : ds.length ≤ lineN := hlen
  have post : PostO X.K (W σ) φ1 H1 (lcL step w ds st1) Q := post
  have rs1 := rs0.ext e1
  obtain ⟨G, Y, walk, hG, hY⟩ := hJ
  intro A hA
  refine lc_it walk (fun i H2 => ∃ φ st ys acc, Ext X.K φ1 H1 φ H2 ∧ Sim X.K φ H2 st ∧ RepS X.K φ H2 σ τ ∧ H2 A = some (.lst acc) ∧ ¬ φ.F A ∧ A ∉ φ.c ∧ RepVs X.K φ H2 acc ys ∧ acc.length ≤ i ∧
    PostO X.K (W σ) φ1 H1 ((lcL step w (ds.drop i) st).bind fun zs st => .ok (ys ++ zs) st) Q) ?_ ?_ ?_ ?_
  · refine ⟨φ1, st1, [], [], Ext.fresh hA, s1.new hA, rs1.ext (Ext.fresh hA), upd_same, s1.freshF hA, s1.fresh hA, .nil, Nat.le_refl _, ?_⟩
    rw [List.drop_zero]
    cases e : lcL step w ds st1 with
    | ok zs st => rw [e] at post; exact post
    | exc d st => rw [e] at post; exact post
    | err => rw [e] at post; exact post
  · rintro i H2 hi ⟨φ, st, ys, acc, e2, s2, _, _, _, _, _, _, p2⟩
    refine hG φ H2 st e2 s2 ?_
    apply Classical.byContradiction
    intro hn
    cases ed : ds.drop i with
    | nil => rw [ed] at p2; simp only [lcL, gw, if_neg hn] at p2; exact p2
    | cons d r => rw [ed] at p2; simp only [lcL, gw, if_neg hn] at p2; exact p2
  · rintro i x H2 H3 hi ⟨φ, st, ys, acc, e2, s2, rs2, hA2, hF2, hc2, ra2, hl2, p2⟩ y
    have how : okW w st := by
      apply Classical.byContradiction
      intro hn
      cases ed : ds.drop i with
      | nil => rw [ed] at p2; simp only [lcL, gw, if_neg hn] at p2; exact p2
      | cons d r => rw [ed] at p2; simp only [lcL, gw, if_neg hn] at p2; exact p2
    obtain ⟨d, hd, e3, s3, rx⟩ := hY φ H2 st i x H3 hi e2 s2 how y
    have ed : ds.drop i = d :: ds.drop (i + 1) := by
      obtain ⟨h1, h2⟩ := List.getElem?_eq_some_iff.mp hd
      rw [List.drop_eq_getElem_cons h1, h2]
    rw [ed] at p2
    simp only [lcL, gw, if_pos how] at p2
    have hsz : acc.length < sizeLine := by rw [← line_eq]; omega
    have hA3 : H3 A = some (.lst acc) := e3.keep A _ hA2 hc2
    refine ⟨φ, PC.wipe τ t, st, d, (rs2.ext e3).wipe t, s3, rx, ?_⟩
    have hstep : step d st = match bindT t one d (PC.wipe τ t) st with
        | some τ' => (fC τ' st).bind fun b st => match b with
          | true => (fE τ' st).bind fun y st => .ok (some y) st
          | false => .ok none st
        | none => .err := by rw [← hst]
    cases eb : bindT t one d (PC.wipe τ t) st with
    | none => rw [hstep, eb] at p2; exact p2
    | some τ' =>
      rw [hstep, eb] at p2
      intro σ' rs' hw
      refine ⟨hw.trans (wipe_same (wipe_length _ _) fun j hj => wipe_out t σ j hj), ?_⟩
      -- the test
      refine ⟨φ, τ', st, rs', s3, ?_⟩
      have p3 : PostO X.K (W σ) φ1 H1 ((nox (fC τ' st)).bind fun b st => (match b with
          | true => (nox (fE τ' st)).bind fun y st => .ok (some y) st
          | false => .ok none st : Res (Option D)).bind fun o st => (lcL step w (ds.drop (i + 1)) st).bind fun zs st => .ok (ys ++ (o.toList ++ zs)) st) Q := by
        have : ∀ r : Res Bool, ((nox (r.bind fun b st => (match b with
          | true => (fE τ' st).bind fun y st => .ok (some y) st
          | false => .ok none st : Res (Option D)))).bind fun o st => (lcL step w (ds.drop (i + 1)) st).bind fun zs st => .ok (o.toList ++ zs) st).bind (fun zs st => Res.ok (ys ++ zs) st) =
            (nox r).bind fun b st => (match b with
          | true => (nox (fE τ' st)).bind fun y st => .ok (some y) st
          | false => .ok none st : Res (Option D)).bind fun o st => (lcL step w (ds.drop (i + 1)) st).bind fun zs st => .ok (ys ++ (o.toList ++ zs)) st := by
          intro r
          cases r with
          | ok b st =>
            simp only [Res.bind_ok, nox_ok]
            cases b with
            | false =>
              simp only [nox_ok, Res.bind_ok]
              cases lcL step w (ds.drop (i + 1)) st <;> rfl
            | true =>
              cases fE τ' st with
              | ok y st =>
                simp only [nox_ok, Res.bind_ok]
                cases lcL step w (ds.drop (i + 1)) st <;> rfl
              | exc d st => rfl
              | err => rfl
          | exc d st => rfl
          | err => rfl
        rw [this] at p2
        exact p2
      have e13 := e2.trans e3
      have b1 : ∀ {φ' H' stq}, Ext X.K φ H3 φ' H' → Sim X.K φ' H' stq → H' A = some (.lst acc) ∧ ¬ φ'.F A ∧ A ∉ φ'.c := by
        intro φ' H' stq ex sx
        have h1 : H' A = some (.lst acc) := ex.keep A _ hA3 hc2
        have h2 : A ∉ φ'.c := fun hm => by
          have := ex.new A hm hc2
          rw [hA3] at this; cases this
        refine ⟨h1, fun hf => ?_, h2⟩
        have := ex.newF A hf hF2
        rw [hA3] at this; cases this
      cases ec : fC τ' st with
      | exc d2 st2 => rw [ec] at p3; exact p3.elim
      | err => rw [ec] at p3; exact p3
      | ok b st2 =>
        rw [ec] at p3
        simp only [Res.bind_ok, nox_ok] at p3
        intro φ4 H4 b' e4 s4 hb
        cases hb
        have e14 := e13.trans e4
        have rs4 := rs'.ext e4
        have rs4' := (rs2.ext e3).ext e4
        obtain ⟨hA4, hF4, hc4⟩ := b1 e4 s4
        have ra4 := (ra2.ext e3).ext e4
        cases b with
        | false =>
          rw [if_neg Bool.false_ne_true]
          simp only [Res.bind_ok, Option.toList, List.nil_append] at p3
          exact ⟨φ4, st2, ys, acc, e14, s4, rs4', hA4, hF4, hc4, ra4, Nat.le_succ_of_le hl2, p3⟩
        | true =>
          rw [if_pos rfl]
          simp only at p3
          refine ⟨φ4, τ', st2, rs4, s4, ?_⟩
          cases ee : fE τ' st2 with
          | exc d2 st3 => rw [ee] at p3; exact p3.elim
          | err => rw [ee] at p3; exact p3
          | ok y st3 =>
            rw [ee] at p3
            simp only [Res.bind_ok, nox_ok, Option.toList] at p3
            intro φ5 H5 v5 e5 s5 rv5
            have hA5 : H5 A = some (.lst acc) := e5.keep A _ hA4 hc4
            have hc5 : A ∉ φ5.c := fun hm => by
              have := e5.new A hm hc4
              rw [hA4] at this; cases this
            have hF5 : ¬ φ5.F A := fun hf => by
              have := e5.newF A hf hF4
              rw [hA4] at this; cases this
            have e15 := e14.trans e5
            have x0 : Ext0 X.K φ5 H5 φ5 (upd H5 A (.lst (acc ++ [v5]))) := Ext0.own hA5 hF5
            refine ⟨acc, hA5, hsz, φ5, st3, ys ++ [y], acc ++ [v5], e15.ownput hA hA5 hF5, s5.own hA5 hF5 hc5, (rs4'.ext e5).ext0 x0, upd_same, hF5, hc5, ((ra4.ext e5).append (.cons rv5 .nil)).ext0 x0, by rw [List.length_append]; exact Nat.succ_le_succ hl2, ?_⟩
            have : (fun (zs : List D) (st : Store) => Res.ok (ys ++ ([y] ++ zs)) st) = fun zs st => Res.ok (ys ++ [y] ++ zs) st := by
              funext zs st
              rw [List.append_assoc]
            rw [this] at p3
            exact p3
  · rintro H2 ⟨φ, st, ys, acc, e2, s2, _, hA2, hF2, hc2, ra2, _, p2⟩
    rw [List.drop_length] at p2
    have how : okW w st := by
      apply Classical.byContradiction
      intro hn
      simp only [lcL, gw, if_neg hn] at p2
      exact p2
    simp only [lcL, gw, if_pos how, Res.bind_ok, List.append_nil] at p2
    exact p2 φ H2 A acc e2 s2 hA hA2 hF2 hc2 ra2
end
end PC
end
section
set_option Elab.async false
set_option linter.all false
set_option autoImplicit false
set_option maxRecDepth 100000
namespace PC
open PySem L2 PyProof.Rows
/-! which text a core has -/
section
variable {N : List Str} {sc : Scope} {e tg : Expr}
theorem iv_name1 {i : Nat} (h : chkE N sc (.var i) e = true) : ∃ x p, e = .Name x p := by
  cases e <;> first | exact ⟨_, _, rfl⟩ | cases h
theorem iv_non (h : chkE N sc .non e = true) : ∃ k p, e = .Constant .none k p := by
  cases e <;> first | cases h | skip
  rename_i c k p
  cases c <;> first | exact ⟨_, _, rfl⟩ | cases h
theorem iv_bl {b : Bool} (h : chkE N sc (.bl b) e = true) : ∃ c k p, e = .Constant (.bool c) k p := by
  cases e <;> first | cases h | skip
  rename_i c k p
  cases c <;> first | exact ⟨_, _, _, rfl⟩ | cases h
theorem iv_int {b : Int} (h : chkE N sc (.int b) e = true) : ∃ c k p, e = .Constant (.int c) k p := by
  cases e <;> first | cases h | skip
  rename_i c k p
  cases c <;> first | exact ⟨_, _, _, rfl⟩ | cases h
theorem iv_str {b : List Nat} (h : chkE N sc (.str b) e = true) : ∃ c k p, e = .Constant (.str c) k p := by
  cases e <;> first | cases h | skip
  rename_i c k p
  cases c <;> first | exact ⟨_, _, _, rfl⟩ | cases h
theorem iv_glob {i : String} (h : chkE N sc (.glob i) e = true) : ∃ x p, e = .Name x p := by
  cases e <;> first | exact ⟨_, _, rfl⟩ | cases h
theorem iv_bin {op : Operator} {a b : CE} (h : chkE N sc (.bin op a b) e = true) : ∃ l o r p, e = .BinOp l o r p := by
  cases e <;> first | exact ⟨_, _, _, _, rfl⟩ | cases h
theorem iv_neg {a : CE} (h : chkE N sc (.neg a) e = true) : ∃ x p, e = .UnaryOp .USub x p := by
  cases e <;> first | cases h | skip
  rename_i o x p
  cases o <;> first | exact ⟨_, _, rfl⟩ | cases h
theorem iv_inv {a : CE} (h : chkE N sc (.inv a) e = true) : ∃ x p, e = .UnaryOp .Invert x p := by
  cases e <;> first | cases h | skip
  rename_i o x p
  cases o <;> first | exact ⟨_, _, rfl⟩ | cases h
theorem iv_not {a : CE} (h : chkE N sc (.not a) e = true) : ∃ x p, e = .UnaryOp .Not x p := by
  cases e <;> first | cases h | skip
  rename_i o x p
  cases o <;> first | exact ⟨_, _, rfl⟩ | cases h
theorem iv_and {a b : CE} (h : chkE N sc (.and a b) e = true) : ∃ x y r p, e = .BoolOp .And (x :: y :: r) p := by
  cases e <;> first | cases h | skip
  rename_i o vs p
  cases o <;> first | cases h | skip
  cases vs with
  | nil => cases h
  | cons x vs =>
    cases vs with
    | nil => cases h
    | cons y r => exact ⟨_, _, _, _, rfl⟩
theorem iv_or {a b : CE} (h : chkE N sc (.or a b) e = true) : ∃ x y r p, e = .BoolOp .Or (x :: y :: r) p := by
  cases e <;> first | cases h | skip
  rename_i o vs p
  cases o <;> first | cases h | skip
  cases vs with
  | nil => cases h
  | cons x vs =>
    cases vs with
    | nil => cases h
    | cons y r => exact ⟨_, _, _, _, rfl⟩
theorem iv_ite {c a b : CE} (h : chkE N sc (.ite c a b) e = true) : ∃ x y z p, e = .IfExp x y z p := by
  cases e <;> first | exact ⟨_, _, _, _, rfl⟩ | cases h
theorem iv_cmp {op : CmpOp} {a b : CE} (h : chkE N sc (.cmp op a b) e = true) : ∃ l o r p, e = .Compare l [o] [r] p := by
  cases e <;> first | cases h | skip
  rename_i l os rs p
  match os, rs, h with
  | [o], [r], h => exact ⟨_, _, _, _, rfl⟩
  | [], _, h => cases h
  | [o], [], h => cases h
  | [o], _ :: _ :: _, h => cases h
  | _ :: _ :: _, _, h => cases h
theorem iv_chain {op op' : CmpOp} {a b c : CE} (h : chkE N sc (.chain op op' a b c) e = true) : ∃ l o o' m r p, e = .Compare l [o, o'] [m, r] p := by
  cases e <;> first | cases h | skip
  rename_i l os rs p
  match os, rs, h with
  | [o, o'], [m, r], h => exact ⟨_, _, _, _, _, _, rfl⟩
  | [], _, h => cases h
  | [o], _, h => cases h
  | [o, o'], [], h => cases h
  | [o, o'], [_], h => cases h
  | [o, o'], _ :: _ :: _ :: _, h => cases h
  | _ :: _ :: _ :: _, _, h => cases h
theorem iv_tup {es : CEs} (h : chkE N sc (.tup es) e = true) : ∃ xs k p, e = .Tuple xs k p := by
  cases e <;> first | exact ⟨_, _, _, rfl⟩ | cases h
theorem iv_dict0 {t : Bool} (h : chkE N sc (.dict0 t) e = true) : ∃ p, e = .Dict [] [] p := by
  cases e <;> first | cases h | skip
  rename_i ks vs p
  match ks, vs, h with
  | [], [], h => exact ⟨_, rfl⟩
  | _ :: _, _, h => cases h
  | [], _ :: _, h => cases h
theorem iv_idx {a i : CE} (h : chkE N sc (.idx a i) e = true) : ∃ x y p, e = .Subscript x y p := by
  cases e <;> first | exact ⟨_, _, _, rfl⟩ | cases h
theorem iv_slice {a : CE} {lo hi : CO} (h : chkE N sc (.slice a lo hi) e = true) : ∃ x l u q p, e = .Subscript x (.Slice l u none q) p := by
  cases e <;> first | cases h | skip
  rename_i x y p
  cases y <;> first | cases h | skip
  rename_i l u s q
  cases s with
  | none => exact ⟨_, _, _, _, _, rfl⟩
  | some _ => cases h
theorem iv_call {f : String} {es : CEs} (h : chkE N sc (.call f es) e = true) : ∃ x p ys pos, e = .Call (.Name x p) ys [] pos := by
  cases e <;> first | cases h | skip
  rename_i g as ks pos
  cases g <;> first | cases h | skip
  match ks, h with
  | [], h => exact ⟨_, _, _, _, rfl⟩
  | _ :: _, h => cases h
theorem iv_blt {f : Blt} {es : CEs} (h : chkE N sc (.blt f es) e = true) : ∃ x p y ys pos, e = .Call (.Name x p) (y :: ys) [] pos := by
  cases e <;> first | cases h | skip
  rename_i g as ks pos
  cases g <;> first | cases h | skip
  match as, ks, h with
  | y :: ys, [], h => exact ⟨_, _, _, _, _, rfl⟩
  | [], _, h => cases h
  | _ :: _, _ :: _, h => cases h
theorem iv_mth {f : Mth} {o : CE} {es : CEs} (h : chkE N sc (.mth f o es) e = true) : ∃ x a ap ys cp, e = .Call (.Attribute x a ap) ys [] cp := by
  cases e <;> first | cases h | skip
  rename_i g as ks pos
  cases g <;> first | cases h | skip
  match ks, h with
  | [], h => exact ⟨_, _, _, _, _, rfl⟩
  | _ :: _, h => cases h
theorem iv_isI {a : CE} {t : Ty} (h : chkE N sc (.isI a t) e = true) : ∃ x p y z q pos, e = .Call (.Name x p) [y, .Name z q] [] pos := by
  cases e <;> first | cases h | skip
  rename_i g as ks pos
  cases g <;> first | cases h | skip
  match as, ks, h with
  | [y, z], [], h =>
    cases z <;> first | exact ⟨_, _, _, _, _, _, rfl⟩ | cases h
  | [], _, h => cases h
  | [_], _, h => cases h
  | [y, z], _ :: _, h =>
    cases z <;> cases h
  | _ :: z :: _ :: _, _, h => cases z <;> cases h
theorem iv_isX {a : CE} {one : Bool} {cs : List String} (h : chkE N sc (.isX a one cs) e = true) : ∃ x p y z pos, e = .Call (.Name x p) [y, z] [] pos := by
  cases e <;> first | cases h | skip
  rename_i g as ks pos
  cases g <;> first | cases h | skip
  match as, ks, h with
  | [y, z], [], h => exact ⟨_, _, _, _, _, rfl⟩
  | [], _, h => cases h
  | [_], _, h => cases h
  | [y, z], _ :: _, h => cases h
  | _ :: z :: _ :: _, _, h => cases h
theorem iv_dgetK {o k : CE} (h : chkE N sc (.dgetK o k) e = true) : ∃ x y p, e = .Subscript x y p := by
  cases e <;> first | exact ⟨_, _, _, rfl⟩ | cases h
theorem iv_dgetT {o : CE} {es : CEs} (h : chkE N sc (.dgetT o es) e = true) : ∃ x ys k q p, e = .Subscript x (.Tuple ys k q) p := by
  cases e <;> first | cases h | skip
  rename_i x y p
  cases y <;> first | exact ⟨_, _, _, _, _, rfl⟩ | cases h
theorem iv_dinK {n : Bool} {o k : CE} (h : chkE N sc (.dinK n k o) e = true) : ∃ l o r p, e = .Compare l [o] [r] p := by
  cases e <;> first | cases h | skip
  rename_i l os rs p
  match os, rs, h with
  | [o], [r], h => exact ⟨_, _, _, _, rfl⟩
  | [], _, h => cases h
  | [o], [], h => cases h
  | [o], _ :: _ :: _, h => cases h
  | _ :: _ :: _, _, h => cases h
theorem iv_dinT {n : Bool} {o : CE} {es : CEs} (h : chkE N sc (.dinT n es o) e = true) : ∃ ys k q o r p, e = .Compare (.Tuple ys k q) [o] [r] p := by
  cases e <;> first | cases h | skip
  rename_i l os rs p
  match os, rs, h with
  | [o], [r], h => cases l <;> first | exact ⟨_, _, _, _, _, _, rfl⟩ | cases h
  | [], _, h => cases l <;> cases h
  | [o], [], h => cases l <;> cases h
  | [o], _ :: _ :: _, h => cases l <;> cases h
  | _ :: _ :: _, _, h => cases l <;> cases h
theorem iv_make {f : String} {es : CEs} (h : chkE N sc (.make f es) e = true) : ∃ x p ys pos, e = .Call (.Name x p) ys [] pos := by
  cases e <;> first | cases h | skip
  rename_i g as ks pos
  cases g <;> first | cases h | skip
  match ks, h with
  | [], h => exact ⟨_, _, _, _, rfl⟩
  | _ :: _, h => cases h
theorem iv_meth {c m : String} {o : CE} {es : CEs} (h : chkE N sc (.meth c m o es) e = true) : ∃ x a ap ys cp, e = .Call (.Attribute x a ap) ys [] cp := by
  cases e <;> first | cases h | skip
  rename_i g as ks pos
  cases g <;> first | cases h | skip
  match ks, h with
  | [], h => exact ⟨_, _, _, _, _, rfl⟩
  | _ :: _, h => cases h
theorem iv_fld {c f : String} {o : CE} (h : chkE N sc (.fld c o f) e = true) : ∃ x a p, e = .Attribute x a p := by
  cases e <;> first | exact ⟨_, _, _, rfl⟩ | cases h
theorem iv_disp {es : CEs} (h : chkL N sc (.disp es) e = true) : ∃ xs p, e = .List xs p := by
  cases e <;> first | exact ⟨_, _, rfl⟩ | cases h
theorem iv_comp {t : List Nat} {one : Bool} {it : CI} {c : CO} {b : CE} (h : chkL N sc (.comp t one it c b) e = true) : ∃ elt tg iter ifs k scope pos, e = .ListComp elt [⟨tg, iter, ifs, k⟩] scope pos := by
  cases e <;> first | cases h | skip
  rename_i elt gs scope pos
  match gs, h with
  | [⟨tg, iter, ifs, k⟩], h => exact ⟨_, _, _, _, _, _, _, rfl⟩
  | [], h => cases h
  | g :: _ :: _, h => cases g; cases h
theorem iv_listOf {c : CE} (h : chkL N sc (.listOf c) e = true) : ∃ x p y pos, e = .Call (.Name x p) [y] [] pos := by
  cases e <;> first | cases h | skip
  rename_i g as ks pos
  cases g <;> first | cases h | skip
  match as, ks, h with
  | [y], [], h => exact ⟨_, _, _, _, rfl⟩
  | [], _, h => cases h
  | [_], _ :: _, h => cases h
  | _ :: _ :: _, _, h => cases h
theorem iv_rep {es : CEs} {n : CE} (h : chkL N sc (.rep es n) e = true) : ∃ xs lp r p, e = .BinOp (.List xs lp) .Mult r p := by
  cases e <;> first | cases h | skip
  rename_i l o r p
  cases l <;> first | cases h | skip
  cases o <;> first | exact ⟨_, _, _, _, rfl⟩ | cases h
theorem iv_cat {a b : CE} (h : chkL N sc (.cat a b) e = true) : ∃ l o r p, e = .BinOp l o r p := by
  cases e <;> first | cases h | skip
  exact ⟨_, _, _, _, rfl⟩
theorem iv_lr1 {a : CE} (h : chkL N sc (.range1 a) e = true) : ∃ x p y p2 z p3 pos, e = .Call (.Name x p) [.Call (.Name y p2) [z] [] p3] [] pos := by
  cases e <;> first | cases h | skip
  rename_i g as ks pos
  cases g <;> first | cases h | skip
  match as, ks, h with
  | [y], [], h =>
    cases y <;> first | cases h | skip
    rename_i g as ks pos
    cases g <;> first | cases h | skip
    match as, ks, h with
    | [z], [], h => exact ⟨_, _, _, _, _, _, _, rfl⟩
    | [], _, h => cases h
    | [_], _ :: _, h => cases h
    | _ :: _ :: _, _, h => cases h
  | [], _, h => cases h
  | [y], _ :: _, h =>
    cases y <;> first | cases h | skip
    rename_i g as ks pos
    cases g <;> first | cases h | skip
    match as, ks, h with
    | [z], [], h => cases h
    | [], _, h => cases h
    | [_], _ :: _, h => cases h
    | _ :: _ :: _, _, h => cases h
  | y :: _ :: _, _, h =>
    cases y <;> first | cases h | skip
    rename_i g as ks pos
    cases g <;> first | cases h | skip
    match as, ks, h with
    | [z], [], h => cases h
    | [], _, h => cases h
    | [_], _ :: _, h => cases h
    | _ :: _ :: _, _, h => cases h
theorem iv_lenSet {a : CE} (h : chkE N sc (.lenSet a) e = true) : ∃ x p y p2 z p3 pos, e = .Call (.Name x p) [.Call (.Name y p2) [z] [] p3] [] pos := by
  cases e <;> first | cases h | skip
  rename_i g as ks pos
  cases g <;> first | cases h | skip
  match as, ks, h with
  | [y], [], h =>
    cases y <;> first | cases h | skip
    rename_i g as ks pos
    cases g <;> first | cases h | skip
    match as, ks, h with
    | [z], [], h => exact ⟨_, _, _, _, _, _, _, rfl⟩
    | [], _, h => cases h
    | [_], _ :: _, h => cases h
    | _ :: _ :: _, _, h => cases h
  | [], _, h => cases h
  | [y], _ :: _, h =>
    cases y <;> first | cases h | skip
    rename_i g as ks pos
    cases g <;> first | cases h | skip
    match as, ks, h with
    | [z], [], h => cases h
    | [], _, h => cases h
    | [_], _ :: _, h => cases h
    | _ :: _ :: _, _, h => cases h
  | y :: _ :: _, _, h =>
    cases y <;> first | cases h | skip
    rename_i g as ks pos
    cases g <;> first | cases h | skip
    match as, ks, h with
    | [z], [], h => cases h
    | [], _, h => cases h
    | [_], _ :: _, h => cases h
    | _ :: _ :: _, _, h => cases h
theorem iv_tupR {a : CE} (h : chkE N sc (.tupR a) e = true) : ∃ x p y p2 z p3 pos, e = .Call (.Name x p) [.Call (.Name y p2) [z] [] p3] [] pos := by
  cases e <;> first | cases h | skip
  rename_i g as ks pos
  cases g <;> first | cases h | skip
  match as, ks, h with
  | [y], [], h =>
    cases y <;> first | cases h | skip
    rename_i g as ks pos
    cases g <;> first | cases h | skip
    match as, ks, h with
    | [z], [], h => exact ⟨_, _, _, _, _, _, _, rfl⟩
    | [], _, h => cases h
    | [_], _ :: _, h => cases h
    | _ :: _ :: _, _, h => cases h
  | [], _, h => cases h
  | [y], _ :: _, h =>
    cases y <;> first | cases h | skip
    rename_i g as ks pos
    cases g <;> first | cases h | skip
    match as, ks, h with
    | [z], [], h => cases h
    | [], _, h => cases h
    | [_], _ :: _, h => cases h
    | _ :: _ :: _, _, h => cases h
  | y :: _ :: _, _, h =>
    cases y <;> first | cases h | skip
    rename_i g as ks pos
    cases g <;> first | cases h | skip
    match as, ks, h with
    | [z], [], h => cases h
    | [], _, h => cases h
    | [_], _ :: _, h => cases h
    | _ :: _ :: _, _, h => cases h
theorem iv_fcall {fs : List String} {i : CE} {es : CEs} (h : chkE N sc (.fcall fs i es) e = true) : ∃ ls q z r y ys pos, e = .Call (.Subscript (.List ls q) z r) (y :: ys) [] pos := by
  cases e <;> first | cases h | skip
  rename_i g as ks pos
  cases g <;> first | cases h | skip
  rename_i a0 b0 p0
  cases a0 <;> first | cases h | skip
  match as, ks, h with
  | y :: ys, [], h => exact ⟨_, _, _, _, _, _, _, rfl⟩
  | [], _, h => cases h
  | _ :: _, _ :: _, h => cases h
theorem iv_lr2 {a b : CE} (h : chkL N sc (.range2 a b) e = true) : ∃ x p y p2 z w p3 pos, e = .Call (.Name x p) [.Call (.Name y p2) [z, w] [] p3] [] pos := by
  cases e <;> first | cases h | skip
  rename_i g as ks pos
  cases g <;> first | cases h | skip
  match as, ks, h with
  | [y], [], h =>
    cases y <;> first | cases h | skip
    rename_i g as ks pos
    cases g <;> first | cases h | skip
    match as, ks, h with
    | [z, w], [], h => exact ⟨_, _, _, _, _, _, _, _, rfl⟩
    | [], _, h => cases h
    | [_], _, h => cases h
    | [_, _], _ :: _, h => cases h
    | _ :: _ :: _ :: _, _, h => cases h
  | [], _, h => cases h
  | [y], _ :: _, h =>
    cases y <;> first | cases h | skip
    rename_i g as ks pos
    cases g <;> first | cases h | skip
    match as, ks, h with
    | [z, w], [], h => cases h
    | [], _, h => cases h
    | [_], _, h => cases h
    | [_, _], _ :: _, h => cases h
    | _ :: _ :: _ :: _, _, h => cases h
  | y :: _ :: _, _, h =>
    cases y <;> first | cases h | skip
    rename_i g as ks pos
    cases g <;> first | cases h | skip
    match as, ks, h with
    | [z, w], [], h => cases h
    | [], _, h => cases h
    | [_], _, h => cases h
    | [_, _], _ :: _, h => cases h
    | _ :: _ :: _ :: _, _, h => cases h
theorem iv_r1 {a : CE} (h : chkI N sc (.range1 a) tg e = true) : ∃ x p y pos, e = .Call (.Name x p) [y] [] pos := by
  cases e <;> first | cases h | skip
  rename_i g as ks pos
  cases g <;> first | cases h | skip
  match as, ks, h with
  | [y], [], h => exact ⟨_, _, _, _, rfl⟩
  | [], _, h => cases h
  | [_], _ :: _, h => cases h
  | _ :: _ :: _, _, h => cases h
theorem iv_r2 {a b : CE} (h : chkI N sc (.range2 a b) tg e = true) : ∃ x p y z pos, e = .Call (.Name x p) [y, z] [] pos := by
  cases e <;> first | cases h | skip
  rename_i g as ks pos
  cases g <;> first | cases h | skip
  match as, ks, h with
  | [y, z], [], h => exact ⟨_, _, _, _, _, rfl⟩
  | [], _, h => cases h
  | [_], _, h => cases h
  | [_, _], _ :: _, h => cases h
  | _ :: _ :: _ :: _, _, h => cases h
theorem iv_enum {a : CE} (h : chkI N sc (.enum a) tg e = true) : ∃ es kk tp x p y pos, tg = .Tuple es kk tp ∧ e = .Call (.Name x p) [y] [] pos := by
  cases tg <;> first | cases h | skip
  cases e <;> first | cases h | skip
  rename_i g as ks pos
  cases g <;> first | cases h | skip
  match as, ks, h with
  | [y], [], h => exact ⟨_, _, _, _, _, _, _, rfl, rfl⟩
  | [], _, h => cases h
  | [_], _ :: _, h => cases h
  | _ :: _ :: _, _, h => cases h
theorem iv_zip {a b : CE} (h : chkI N sc (.zip a b) tg e = true) : ∃ es kk tp x p y z pos, tg = .Tuple es kk tp ∧ e = .Call (.Name x p) [y, z] [] pos := by
  cases tg <;> first | cases h | skip
  cases e <;> first | cases h | skip
  rename_i g as ks pos
  cases g <;> first | cases h | skip
  match as, ks, h with
  | [y, z], [], h => exact ⟨_, _, _, _, _, _, _, _, rfl, rfl⟩
  | [], _, h => cases h
  | [_], _, h => cases h
  | [_, _], _ :: _, h => cases h
  | _ :: _ :: _ :: _, _, h => cases h
theorem iv_range3 {a b c : CE} (h : chkI N sc (.range3 a b c) tg e = true) : ∃ x p y z w pos, e = .Call (.Name x p) [y, z, w] [] pos := by
  cases e <;> first | cases h | skip
  rename_i g as ks pos
  cases g <;> first | cases h | skip
  match as, ks, h with
  | [y, z, w], [], h => exact ⟨_, _, _, _, _, _, rfl⟩
  | [], _, h => cases h
  | [_], _, h => cases h
  | [_, _], _, h => cases h
  | [_, _, _], _ :: _, h => cases h
  | _ :: _ :: _ :: _ :: _, _, h => cases h
theorem iv_rr2 {a b : CE} (h : chkI N sc (.rrange2 a b) tg e = true) : ∃ x p y p2 z w p3 pos, e = .Call (.Name x p) [.Call (.Name y p2) [z, w] [] p3] [] pos := by
  cases e <;> first | cases h | skip
  rename_i g as ks pos
  cases g <;> first | cases h | skip
  match as, ks, h with
  | [y], [], h =>
    cases y <;> first | cases h | skip
    rename_i g as ks pos
    cases g <;> first | cases h | skip
    match as, ks, h with
    | [z, w], [], h => exact ⟨_, _, _, _, _, _, _, _, rfl⟩
    | [], _, h => cases h
    | [_], _, h => cases h
    | [_, _], _ :: _, h => cases h
    | _ :: _ :: _ :: _, _, h => cases h
  | [], _, h => cases h
  | [y], _ :: _, h =>
    cases y <;> first | cases h | skip
    rename_i g as ks pos
    cases g <;> first | cases h | skip
    match as, ks, h with
    | [z, w], [], h => cases h
    | [], _, h => cases h
    | [_], _, h => cases h
    | [_, _], _ :: _, h => cases h
    | _ :: _ :: _ :: _, _, h => cases h
  | y :: _ :: _, _, h =>
    cases y <;> first | cases h | skip
    rename_i g as ks pos
    cases g <;> first | cases h | skip
    match as, ks, h with
    | [z, w], [], h => cases h
    | [], _, h => cases h
    | [_], _, h => cases h
    | [_, _], _ :: _, h => cases h
    | _ :: _ :: _ :: _, _, h => cases h
end
end PC
end
section
set_option Elab.async false
set_option linter.all false
set_option autoImplicit false
set_option maxRecDepth 100000
set_option maxHeartbeats 2000000
namespace PC
open PySem L2 PyProof.Rows

/-- the same module, the same room -/
structure SameM (X Y : Cx) : Prop where
  prog : Y.prog = X.prog
  w : Y.w = X.w
  K : Y.K = X.K
  mg : Y.mg = X.mg
  base : Y.base = X.base
  A : Y.A = X.A
  N : Y.N = X.N
  calm : Y.calm = X.calm
structure CallsM (ge : GE) (cf : CF) (X : Cx) (W : WT) : Prop where
  here : Calls ge cf X W
  here0 : Calls0 ge cf X W
  obj : CallsO ge cf X W
  mkI : CallsI ge cf X W
  val : CallsV ge cf X W
  nam : ∀ f, ge.fs f = true → ∃ a, X.mg (Str.ofString f) = some (.ref a)
  inn : ∀ Y, SameM X Y → ∀ Wx, Takes Y Wx → Calls ge cf Y (wOf Y.K Wx) ∧ Calls0 ge cf Y (wOf Y.K Wx) ∧ CallsO ge cf Y (wOf Y.K Wx) ∧ CallsI ge cf Y (wOf Y.K Wx) ∧ CallsV ge cf Y (wOf Y.K Wx)
theorem SameM.refl (X : Cx) : SameM X X := ⟨rfl, rfl, rfl, rfl, rfl, rfl, rfl, rfl⟩
theorem SameM.trans {X Y Z : Cx} (a : SameM X Y) (b : SameM Y Z) : SameM X Z := ⟨b.prog.trans a.prog, b.w.trans a.w, b.K.trans a.K, b.mg.trans a.mg, b.base.trans a.base, b.A.trans a.A, b.N.trans a.N, b.calm.trans a.calm⟩
section
variable {X : Cx} {ge : GE} {cf : CF}
theorem Ok.blk (ok : Ok ge X) (s : Shared) (H : Hp) (scope : Scope) (ce : Env) (fp : List Addr) : Ok ge (X.blk s H scope ce fp) := ⟨ok.calm, ok.nd, ok.room, ok.grd, ok.free, ok.glob, ok.cls, ok.noat, ok.x⟩
theorem PA.up {Y : Cx} {es : List Expr} {t : TA} (h : PA Y es t) : PA Y es (fun σ H Q' => ∃ Q : List V → Hp → Prop, t σ H Q ∧ ∀ v H', Q v H' → Q' v H') :=
  ⟨fun pos pins s σ H Q' I ⟨Q, z, k⟩ => wpAny_mono (h.run pos pins s σ H Q I z) (fun _ _ ⟨x, H', I', r, q⟩ => ⟨x, H', I', r, k _ _ q⟩) fun _ _ z => z⟩
theorem PE.up {Y : Cx} {e : Expr} {t : TE} (h : PE Y e t) : PE Y e (fun σ H Q' => ∃ Q : VK, t σ H Q ∧ ∀ v H', Q v H' → Q' v H') :=
  ⟨fun pins s σ H Q' I ⟨Q, z, k⟩ => wpAny_mono (h.run pins s σ H Q I z) (fun _ _ ⟨x, H', I', r, q⟩ => ⟨x, H', I', r, k _ _ q⟩) fun _ _ z => z⟩
theorem Calls.weak {Y : Cx} {W W' : WT} (h : Calls ge cf Y W') (k : ∀ σ φ H st d, W σ φ H st d → W' σ φ H st d) : Calls ge cf Y W := by
  intro f e es t p pos hf hg hn he hes ha
  refine PE.weak (h f e es _ p pos hf hg hn he hes (PA.up ha)) fun σ H Q q => ⟨_, q, fun vs H1 ⟨φ, st, as, a, b, c⟩ => ⟨φ, st, as, a, b, c.monoW (k σ)⟩⟩
theorem Calls0.weak {Y : Cx} {W W' : WT} (h : Calls0 ge cf Y W') (k : ∀ σ φ H st d, W σ φ H st d → W' σ φ H st d) : Calls0 ge cf Y W := by
  intro f p pos hf hg hn
  exact PE.weak (h f p pos hf hg hn) fun σ H Q ⟨φ, st, a, b⟩ => ⟨φ, st, a, b.monoW (k σ)⟩
theorem ArgsOk.up {Y : Cx} {es : List Expr} {t : TA} (h : ArgsOk Y es t) : ArgsOk Y es (fun σ H Q' => ∃ Q : List V → Hp → Prop, t σ H Q ∧ ∀ v H', Q v H' → Q' v H') :=
  ⟨h.1, PA.up h.2.1, fun e σ H Q ⟨Q1, z, k⟩ => k _ _ (h.2.2 e σ H Q1 z)⟩
theorem CallsO.weak {Y : Cx} {W W' : WT} (h : CallsO ge cf Y W') (k : ∀ σ φ H st d, W σ φ H st d → W' σ φ H st d) : CallsO ge cf Y W := by
  intro c m o es to t ap pos hc hms ho ho' hl hn hto ha
  refine PE.weak (h c m o es _ _ ap pos hc hms ho ho' hl hn (PE.up hto) (ArgsOk.up ha)) fun σ H Q q => ⟨_, q, fun x H1 ⟨a, dx, fs, h1, h2, h3, h4⟩ => ⟨a, dx, fs, h1, h2, h3, _, h4, fun vs H2 ⟨φ, st, as, a, b, c⟩ => ⟨φ, st, as, a, b, c.monoW (k σ)⟩⟩⟩
theorem CallsI.weak {Y : Cx} {W W' : WT} (h : CallsI ge cf Y W') (k : ∀ σ φ H st d, W σ φ H st d → W' σ φ H st d) : CallsI ge cf Y W := by
  intro c es t p pos hc hms hg hn ha
  refine PE.weak (h c es _ p pos hc hms hg hn (ArgsOk.up ha)) fun σ H Q q => ⟨_, q, fun vs H1 z x dx h1 h2 h3 => ?_⟩
  obtain ⟨φ, st, as, a, b, c⟩ := z x dx h1 h2 h3
  exact ⟨φ, st, as, a, b, c.monoW (k σ)⟩
theorem CallsV.weak {Y : Cx} {W W' : WT} (h : CallsV ge cf Y W') (k : ∀ σ φ H st d, W σ φ H st d → W' σ φ H st d) : CallsV ge cf Y W := by
  intro a0 b0 p0 fe e es t pos he hes hfe ha
  refine PE.weak (h a0 b0 p0 _ e es _ pos he hes (PE.up hfe) (PA.up ha)) fun σ H Q q => ⟨_, q, fun x H1 ⟨f, a, h1, h2, h3, h4⟩ => ⟨f, a, h1, h2, h3, _, h4, fun vs H2 ⟨φ, st, as, a, b, c⟩ => ⟨φ, st, as, a, b, c.monoW (k σ)⟩⟩⟩
theorem takes_none {Y : Cx} : Takes Y (fun _ _ _ _ => False) := fun u s' ⟨a, B, sI, pins, σ, H, cls, d, e, I, nb, up, sky, na, os, ag, w⟩ => w.elim
theorem CallsM.blk {W : WT} (h : CallsM ge cf X W) (s : Shared) (H : Hp) (scope : Scope) (ce : Env) (fp : List Addr) : CallsM ge cf (X.blk s H scope ce fp) noWT := by
  have key : ∀ Y, SameM (X.blk s H scope ce fp) Y → SameM X Y := fun Y hY => ⟨hY.prog, hY.w, hY.K, hY.mg, hY.base, hY.A, hY.N, hY.calm⟩
  have h0 := h.inn _ (key _ (SameM.refl _)) _ takes_none
  exact ⟨h0.1.weak fun _ _ _ _ _ z => z.elim, h0.2.1.weak fun _ _ _ _ _ z => z.elim, h0.2.2.1.weak fun _ _ _ _ _ z => z.elim, h0.2.2.2.1.weak fun _ _ _ _ _ z => z.elim, h0.2.2.2.2.weak fun _ _ _ _ _ z => z.elim, h.nam, fun Y hY => h.inn Y (key Y hY)⟩
/-- a truth as a value, as a test -/
theorem asTest {W : WT} {e : Expr} {f : Slots → Store → Res D} (h : PE X e (tD X.K W f)) (hp : ∀ whole, isTrue e X.env whole = (do let v ← whole; standAt e.pos; holding [v] (truthy v))) : PT X e (tB' X.K W f) := by
  refine PT.weak (pt_val h hp) fun σ H Q q => ?_
  refine tR.bind q fun φ τ x st v H1 rs s rv post => ?_
  cases rv with
  | bl b => exact ⟨b, rfl, post φ H1 b Ext.refl s rfl⟩
  | _ => exact False.elim post
theorem okB {K : PySem.W.Frag} {W : Wd → Hp → Store → D → Prop} {φ : Wd} {H : Hp} {b : Bool} {st : Store} {Q : Bool → Hp → Prop} (h : Post K (fun _ _ (v : Bool) b => v = b) W φ H (.ok b st) Q) (s : Sim K φ H st) : Q b H := h φ H b Ext.refl s rfl
theorem boolOf {K : PySem.W.Frag} {W : Wd → Hp → Store → D → Prop} {φ : Wd} {H : Hp} {x : V} {d : D} {st : Store} {α β : Type} {R : Wd → Hp → β → α → Prop} {g : Bool → Store → Res α} {Q : β → Hp → Prop} (r : RepV K φ H x d)
    (h : Post K R W φ H (match (generalizing := false) d with | .bl b => g b st | _ => .err) Q) : ∃ b, x = .bl b ∧ Post K R W φ H (g b st) Q := by
  cases r with
  | bl b => exact ⟨b, rfl, h⟩
  | _ => exact False.elim h
theorem intOf {K : PySem.W.Frag} {W : Wd → Hp → Store → D → Prop} {φ : Wd} {H : Hp} {x : V} {d : D} {st : Store} {α β : Type} {R : Wd → Hp → β → α → Prop} {g : Int → Store → Res α} {Q : β → Hp → Prop} (r : RepV K φ H x d)
    (h : Post K R W φ H (match (generalizing := false) d with | .int b => g b st | _ => .err) Q) : ∃ b, x = .int b ∧ d = .int b ∧ Post K R W φ H (g b st) Q := by
  cases r with
  | int b => exact ⟨b, rfl, rfl, h⟩
  | _ => exact False.elim h
/-- a comparison, then its truth -/
theorem cmpPost {K : PySem.W.Frag} {W : Wd → Hp → Store → D → Prop} {φ : Wd} {H : Hp} {r : Res Bool} {Q : VK} (hn : NoX r) (h : Post K (RV K) W φ H (r.bind fun b st => .ok (.bl b) st) Q) : PostB K φ H r Q := by
  cases r with
  | ok b st => exact fun φ1 H1 v e s rv => by subst rv; exact h φ1 H1 _ e s (.bl b)
  | exc d st => exact absurd rfl (hn d st)
  | err => exact h

theorem fun_cmp {K : PySem.W.Frag} {W : Wd → Hp → Store → D → Prop} {φ : Wd} {H : Hp} {r : Res Bool} {Q : Bool → Hp → Prop} (hn : NoX r) (h : Post K (fun _ _ (v : Bool) b => v = b) W φ H r Q) : PostB K φ H r (fun x H' => ∃ k, x = .bl k ∧ Q k H') := by
  cases r with
  | ok b st => exact fun φ' H' v e s hv => ⟨b, hv, h φ' H' b e s rfl⟩
  | exc d st => exact absurd rfl (hn d st)
  | err => exact h
theorem test_val {K : PySem.W.Frag} {W : Wd → Hp → Store → D → Prop} {φ : Wd} {H : Hp} {r : Res D} {Q : Bool → Hp → Prop} (h : Post K (fun _ _ (v : Bool) b => v = b) W φ H (asB r) Q) : Post K (RV K) W φ H r (fun x H' => ∃ k, x = .bl k ∧ Q k H') := by
  cases r with
  | ok d st =>
    cases d with
    | bl b => exact fun φ' H' v e s hv => ⟨b, hv.bl_inv, h φ' H' b e s rfl⟩
    | _ => exact False.elim h
  | exc d st => exact h
  | err => exact h
theorem list_test {l : CL} {e : Expr} (h : chkL X.N X.env.scope l e = true) : ∀ whole, isTrue e X.env whole = (do let v ← whole; standAt e.pos; holding [v] (truthy v)) := by
  cases l with
  | disp es => obtain ⟨xs, p, rfl⟩ := iv_disp h; exact test_plain rfl
  | comp t one it c e => obtain ⟨elt, tg, iter, ifs, k, scope, pos, rfl⟩ := iv_comp h; exact test_plain rfl
  | listOf c => obtain ⟨x, p, y, pos, rfl⟩ := iv_listOf h; exact test_plain rfl
  | rep es n => obtain ⟨xs, lp, r, p, rfl⟩ := iv_rep h; exact test_plain rfl
  | cat a b => obtain ⟨l, o, r, p, rfl⟩ := iv_cat h; exact test_plain rfl
  | range1 a => obtain ⟨x, p, y, p2, z, p3, pos, rfl⟩ := iv_lr1 h; exact test_plain rfl
  | range2 a b => obtain ⟨x, p, y, p2, z, w, p3, pos, rfl⟩ := iv_lr2 h; exact test_plain rfl
/-- a text of and, or -/
def isBO : Expr → Bool
  | .BoolOp _ _ _ => true
  | _ => false

structure IHE (ge : GE) (cf : CF) (c : CE) : Prop where
  e : ∀ (X : Cx) (W : WT) (e : Expr), Ok ge X → CallsM ge cf X W → chkE X.N X.env.scope c e = true → PE X e (tD X.K W (ev ge cf c))
  t : ∀ (X : Cx) (W : WT) (e : Expr), Ok ge X → CallsM ge cf X W → chkE X.N X.env.scope c e = true → PT X e (tB' X.K W (ev ge cf c))
  w : ∀ (X : Cx) (W : WT) (e : Expr), Ok ge X → CallsM ge cf X W → chkE X.N X.env.scope c e = true → isBO e = true → PW X e (tB' X.K W (ev ge cf c))
structure IHL (ge : GE) (cf : CF) (c : CL) : Prop where
  l : ∀ (X : Cx) (W : WT) (e : Expr), Ok ge X → CallsM ge cf X W → chkL X.N X.env.scope c e = true → PE X e (tO X.K W (evl ge cf c))
structure IHEs (ge : GE) (cf : CF) (c : CEs) : Prop where
  e : ∀ (X : Cx) (W : WT) (es : List Expr), Ok ge X → CallsM ge cf X W → chkEs X.N X.env.scope c es = true → PA X es (tDs X.K W (evs ge cf c))
structure IHO (ge : GE) (cf : CF) (c : CO) : Prop where
  o : ∀ (X : Cx) (W : WT) (e : Option Expr), Ok ge X → CallsM ge cf X W → chkO X.N X.env.scope c e = true → PO X e (tR X.K W (fun _ _ (v : Option Int) b => v = b) (evo ge cf c))
  f : ∀ (X : Cx) (W : WT) (es : List Expr), Ok ge X → CallsM ge cf X W → chkIf X.N X.env.scope c es = true → PTs X es (tR X.K W (fun _ _ (v : Bool) b => v = b) (evc ge cf c))
structure IHI (ge : GE) (cf : CF) (c : CI) : Prop where
  i : ∀ (X : Cx) (W : WT) (tg e : Expr), Ok ge X → CallsM ge cf X W → chkI X.N X.env.scope c tg e = true → PI X tg e (tI X.K W (evi ge cf c)) ∧ ∀ x, foldedSetIterable e X.env x = pure x

theorem e_var {i : Nat}  : ∀ (X : Cx) (W : WT) (e : Expr), Ok ge X → CallsM ge cf X W → chkE X.N X.env.scope (.var i) e = true → PE X e (tD X.K W (ev ge cf (.var i))) := by
  intro X W e0 ok cl h
  obtain ⟨x, p, rfl⟩ := iv_name1 h
  simp only [chkE, Bool.and_eq_true, decide_eq_true_eq] at h
  obtain ⟨n1, n2, n3⟩ := nmB_ok h.2
  refine PE.weak (pe_var h.1.1 (visB_ok h.1.2) n1 n2) fun σ H Q ⟨φ, τ, st, rs, sim, post⟩ => ?_
  have post : Post X.K (RV X.K) (W σ) φ H (lookS τ i st) Q := post
  unfold lookS at post
  split at post
  · rename_i d e
    obtain ⟨v, hv, rv⟩ := rs.at_ i d e
    exact ⟨v, hv, ok_here post sim rv⟩
  · exact False.elim post

theorem e_non   : ∀ (X : Cx) (W : WT) (e : Expr), Ok ge X → CallsM ge cf X W → chkE X.N X.env.scope (.non) e = true → PE X e (tD X.K W (ev ge cf (.non))) := by
  intro X W e0 ok cl h
  obtain ⟨k, p, rfl⟩ := iv_non h
  exact PE.weak pe_non fun σ H Q ⟨φ, τ, st, rs, sim, post⟩ => ok_here post sim .non

theorem e_bl {b : Bool}  : ∀ (X : Cx) (W : WT) (e : Expr), Ok ge X → CallsM ge cf X W → chkE X.N X.env.scope (.bl b) e = true → PE X e (tD X.K W (ev ge cf (.bl b))) := by
  intro X W e0 ok cl h
  obtain ⟨c, k, p, rfl⟩ := iv_bl h
  simp only [chkE, decide_eq_true_eq] at h
  subst h
  exact PE.weak pe_bl fun σ H Q ⟨φ, τ, st, rs, sim, post⟩ => ok_here post sim (.bl _)

theorem e_int {i : Int}  : ∀ (X : Cx) (W : WT) (e : Expr), Ok ge X → CallsM ge cf X W → chkE X.N X.env.scope (.int i) e = true → PE X e (tD X.K W (ev ge cf (.int i))) := by
  intro X W e0 ok cl h
  obtain ⟨c, k, p, rfl⟩ := iv_int h
  simp only [chkE, decide_eq_true_eq] at h
  subst h
  exact PE.weak pe_int fun σ H Q ⟨φ, τ, st, rs, sim, post⟩ => ok_here post sim (.int _)

theorem e_str {z : List Nat}  : ∀ (X : Cx) (W : WT) (e : Expr), Ok ge X → CallsM ge cf X W → chkE X.N X.env.scope (.str z) e = true → PE X e (tD X.K W (ev ge cf (.str z))) := by
  intro X W e0 ok cl h
  obtain ⟨c, k, p, rfl⟩ := iv_str h
  simp only [chkE, decide_eq_true_eq] at h
  subst h
  exact PE.weak pe_str fun σ H Q ⟨φ, τ, st, rs, sim, post⟩ => ok_here post sim (.str _)

theorem e_glob {x : String}  : ∀ (X : Cx) (W : WT) (e : Expr), Ok ge X → CallsM ge cf X W → chkE X.N X.env.scope (.glob x) e = true → PE X e (tD X.K W (ev ge cf (.glob x))) := by
  intro X W e0 ok cl h
  obtain ⟨y, p, rfl⟩ := iv_glob h
  simp only [chkE, Bool.and_eq_true, decide_eq_true_eq] at h
  obtain ⟨n1, n2, n3⟩ := nmB_ok h.2
  obtain ⟨⟨rfl, h1⟩, h2⟩ := h
  cases e : ge.gl x with
  | none =>
    refine PE.weak (t := fun _ _ _ => False) ⟨fun _ _ _ _ _ _ z => z.elim⟩ fun σ H Q ⟨φ, τ, st, rs, sim, post⟩ => ?_
    have post : Post X.K (RV X.K) (W σ) φ H (match ge.gl x with | some d => .ok d st | none => .err) Q := post
    rw [e] at post
    exact post
  | some d =>
    obtain ⟨v, u, g1, g2, g3⟩ := ok.glob x d e
    refine PE.weak (pe_glob (glB_ok h1) g1 g2 n1) fun σ H Q ⟨φ, τ, st, rs, sim, post⟩ => ?_
    have post : Post X.K (RV X.K) (W σ) φ H (match ge.gl x with | some d => .ok d st | none => .err) Q := post
    rw [e] at post
    exact ok_here post sim (g3 φ H)

theorem e_bin {op : Operator} {a : CE} {b : CE} (I_a : IHE ge cf a) (I_b : IHE ge cf b) : ∀ (X : Cx) (W : WT) (e : Expr), Ok ge X → CallsM ge cf X W → chkE X.N X.env.scope (.bin op a b) e = true → PE X e (tD X.K W (ev ge cf (.bin op a b))) := by
  intro X W e0 ok cl h
  obtain ⟨l, o, r, p, rfl⟩ := iv_bin h
  simp only [chkE, Bool.and_eq_true, decide_eq_true_eq] at h
  obtain ⟨⟨rfl, h1⟩, h2⟩ := h
  refine PE.weak (pe_op opAny (I_a.e X W l ok cl h1) (I_b.e X W r ok cl h2)) fun σ H Q q => ?_
  refine tR.bind (f := ev ge cf a) (g := fun τ x st => (ev ge cf b τ st).bind fun y st => binop o x y st) q fun φ τ x st v H1 rs s rv post => ?_
  exact ⟨φ, τ, st, rs, s, post.bind fun y st2 φ2 H2 w e s2 rw' p => ⟨φ2, st2, x, y, s2, rv.ext e, rw', p.nox binop_nox⟩⟩

theorem e_neg {a : CE} (I_a : IHE ge cf a) : ∀ (X : Cx) (W : WT) (e : Expr), Ok ge X → CallsM ge cf X W → chkE X.N X.env.scope (.neg a) e = true → PE X e (tD X.K W (ev ge cf (.neg a))) := by
  intro X W e0 ok cl h
  obtain ⟨x, p, rfl⟩ := iv_neg h
  refine PE.weak (pe_un un_neg (I_a.e X W x ok cl h)) fun σ H Q q => ?_
  refine tR.bind (f := ev ge cf a) (g := fun τ (x : D) st => match x with | .int i => .ok (D.int (-i)) st | _ => .err) q fun φ τ x st v H1 rs s rv post => ?_
  obtain ⟨i, rfl, rfl, post⟩ := intOf (g := fun i st => .ok (D.int (-i)) st) rv post
  exact ⟨i, rfl, ok_here post s (.int _)⟩

theorem e_inv {a : CE} (I_a : IHE ge cf a) : ∀ (X : Cx) (W : WT) (e : Expr), Ok ge X → CallsM ge cf X W → chkE X.N X.env.scope (.inv a) e = true → PE X e (tD X.K W (ev ge cf (.inv a))) := by
  intro X W e0 ok cl h
  obtain ⟨x, p, rfl⟩ := iv_inv h
  refine PE.weak (pe_un un_inv (I_a.e X W x ok cl h)) fun σ H Q q => ?_
  refine tR.bind (f := ev ge cf a) (g := fun τ (x : D) st => match x with | .int i => .ok (D.int (-i - 1)) st | _ => .err) q fun φ τ x st v H1 rs s rv post => ?_
  obtain ⟨i, rfl, rfl, post⟩ := intOf (g := fun i st => .ok (D.int (-i - 1)) st) rv post
  exact ⟨i, rfl, ok_here post s (.int _)⟩

theorem e_not {a : CE} (I_a : IHE ge cf a) : ∀ (X : Cx) (W : WT) (e : Expr), Ok ge X → CallsM ge cf X W → chkE X.N X.env.scope (.not a) e = true → PE X e (tD X.K W (ev ge cf (.not a))) := by
  intro X W e0 ok cl h
  obtain ⟨x, p, rfl⟩ := iv_not h
  refine PE.weak (pe_not (I_a.e X W x ok cl h)) fun σ H Q q => ?_
  refine tR.bind (f := ev ge cf a) (g := fun τ (x : D) st => match x with | .bl b => .ok (D.bl (!b)) st | _ => .err) q fun φ τ x st v H1 rs s rv post => ?_
  obtain ⟨b, rfl, post⟩ := boolOf (g := fun b st => .ok (D.bl (!b)) st) rv post
  exact ⟨b, rfl, ok_here post s (.bl _)⟩

theorem e_and {a : CE} {b : CE} (I_a : IHE ge cf a) (I_b : IHE ge cf b) : ∀ (X : Cx) (W : WT) (e : Expr), Ok ge X → CallsM ge cf X W → chkE X.N X.env.scope (.and a b) e = true → PE X e (tD X.K W (ev ge cf (.and a b))) := by
  intro X W e0 ok cl h
  obtain ⟨x, y, rest, pos, rfl⟩ := iv_and h
  have hb : chkE X.N X.env.scope a x = true ∧ PE X (.BoolOp .And (y :: rest) pos) (tD X.K W (ev ge cf b)) := by
    cases rest with
    | nil =>
      have h : (chkE X.N X.env.scope a x && chkE X.N X.env.scope b y) = true := h
      rw [Bool.and_eq_true] at h
      exact ⟨h.1, pe_one (I_b.e X W y ok cl h.2)⟩
    | cons z zs =>
      have h : (chkE X.N X.env.scope a x && chkE X.N X.env.scope b (.BoolOp .And (y :: z :: zs) pos)) = true := h
      rw [Bool.and_eq_true] at h
      exact ⟨h.1, I_b.e X W _ ok cl h.2⟩
  refine PE.weak (pe_and (I_a.e X W x ok cl hb.1) hb.2) fun σ H Q q => ?_
  refine tR.bind (f := ev ge cf a) (g := fun τ (x : D) st => match x with | .bl true => ev ge cf b τ st | .bl false => .ok (D.bl false) st | _ => .err) q fun φ τ x st v H1 rs s rv post => ?_
  cases rv with
  | bl c =>
    refine ⟨c, rfl, ?_⟩
    cases c with
    | true => rw [if_pos rfl]; exact ⟨φ, τ, st, rs, s, post⟩
    | false => rw [if_neg Bool.false_ne_true]; exact ok_here post s (.bl _)
  | _ => exact False.elim post

theorem e_or {a : CE} {b : CE} (I_a : IHE ge cf a) (I_b : IHE ge cf b) : ∀ (X : Cx) (W : WT) (e : Expr), Ok ge X → CallsM ge cf X W → chkE X.N X.env.scope (.or a b) e = true → PE X e (tD X.K W (ev ge cf (.or a b))) := by
  intro X W e0 ok cl h
  obtain ⟨x, y, rest, pos, rfl⟩ := iv_or h
  have hb : chkE X.N X.env.scope a x = true ∧ PE X (.BoolOp .Or (y :: rest) pos) (tD X.K W (ev ge cf b)) := by
    cases rest with
    | nil =>
      have h : (chkE X.N X.env.scope a x && chkE X.N X.env.scope b y) = true := h
      rw [Bool.and_eq_true] at h
      exact ⟨h.1, pe_one (I_b.e X W y ok cl h.2)⟩
    | cons z zs =>
      have h : (chkE X.N X.env.scope a x && chkE X.N X.env.scope b (.BoolOp .Or (y :: z :: zs) pos)) = true := h
      rw [Bool.and_eq_true] at h
      exact ⟨h.1, I_b.e X W _ ok cl h.2⟩
  refine PE.weak (pe_or (I_a.e X W x ok cl hb.1) hb.2) fun σ H Q q => ?_
  refine tR.bind (f := ev ge cf a) (g := fun τ (x : D) st => match x with | .bl true => .ok (D.bl true) st | .bl false => ev ge cf b τ st | _ => .err) q fun φ τ x st v H1 rs s rv post => ?_
  cases rv with
  | bl c =>
    refine ⟨c, rfl, ?_⟩
    cases c with
    | true => rw [if_pos rfl]; exact ok_here post s (.bl _)
    | false => rw [if_neg Bool.false_ne_true]; exact ⟨φ, τ, st, rs, s, post⟩
  | _ => exact False.elim post

theorem e_ite {c : CE} {a : CE} {b : CE} (I_c : IHE ge cf c) (I_a : IHE ge cf a) (I_b : IHE ge cf b) : ∀ (X : Cx) (W : WT) (e : Expr), Ok ge X → CallsM ge cf X W → chkE X.N X.env.scope (.ite c a b) e = true → PE X e (tD X.K W (ev ge cf (.ite c a b))) := by
  intro X W e0 ok cl h
  obtain ⟨t, x, y, p, rfl⟩ := iv_ite h
  simp only [chkE, Bool.and_eq_true] at h
  refine PE.weak (pe_ifExp (I_c.t X W t ok cl h.1.1) (I_a.e X W x ok cl h.1.2) (I_b.e X W y ok cl h.2)) fun σ H Q q => ?_
  have q : tD X.K W (fun τ st => (asB (ev ge cf c τ st)).bind fun k st => match k with | true => ev ge cf a τ st | false => ev ge cf b τ st) σ H Q := by
    obtain ⟨φ, τ, st, rs, s, post⟩ := q
    refine ⟨φ, τ, st, rs, s, ?_⟩
    have post : Post X.K (RV X.K) (W σ) φ H ((ev ge cf c τ st).bind fun x st => match x with | .bl true => ev ge cf a τ st | .bl false => ev ge cf b τ st | _ => .err) Q := post
    show Post X.K (RV X.K) (W σ) φ H ((asB (ev ge cf c τ st)).bind _) Q
    cases e : ev ge cf c τ st with
    | ok d st => rw [e] at post; cases d with
      | bl k => cases k <;> exact post
      | _ => exact post
    | exc d st => rw [e] at post; exact post
    | err => rw [e] at post; exact post
  refine tR.bind (f := fun τ st => asB (ev ge cf c τ st)) q fun φ τ x st v H1 rs s rv post => ?_
  subst rv
  cases v with
  | true => rw [if_pos rfl]; exact ⟨φ, τ, st, rs, s, post⟩
  | false => rw [if_neg Bool.false_ne_true]; exact ⟨φ, τ, st, rs, s, post⟩

theorem e_cmp {op : CmpOp} {a : CE} {b : CE} (I_a : IHE ge cf a) (I_b : IHE ge cf b) : ∀ (X : Cx) (W : WT) (e : Expr), Ok ge X → CallsM ge cf X W → chkE X.N X.env.scope (.cmp op a b) e = true → PE X e (tD X.K W (ev ge cf (.cmp op a b))) := by
  intro X W e0 ok cl h
  obtain ⟨l, o, r, p, rfl⟩ := iv_cmp h
  simp only [chkE, Bool.and_eq_true, decide_eq_true_eq] at h
  obtain ⟨⟨rfl, h1⟩, h2⟩ := h
  refine PE.weak (pe_cmpR (cmpAny ok.room) (I_a.e X W l ok cl h1) (I_b.e X W r ok cl h2) (mark_good (good_of h2))) fun σ H Q q => ?_
  refine tR.bind (f := ev ge cf a) (g := fun τ x st => (ev ge cf b τ st).bind fun y st => (cmpB o x y st).bind fun b st => .ok (D.bl b) st) q fun φ τ x st v H1 rs s rv post => ?_
  exact ⟨φ, τ, st, rs, s, post.bind fun y st2 φ2 H2 w e s2 rw' p => ⟨φ2, st2, x, y, s2, rv.ext e, rw', cmpPost cmpB_nox p⟩⟩

theorem e_chain {op : CmpOp} {op' : CmpOp} {a : CE} {b : CE} {c : CE} (I_a : IHE ge cf a) (I_b : IHE ge cf b) (I_c : IHE ge cf c) : ∀ (X : Cx) (W : WT) (e : Expr), Ok ge X → CallsM ge cf X W → chkE X.N X.env.scope (.chain op op' a b c) e = true → PE X e (tD X.K W (ev ge cf (.chain op op' a b c))) := by
  intro X W e0 ok cl h
  obtain ⟨l, o, o', m, r, p, rfl⟩ := iv_chain h
  simp only [chkE, Bool.and_eq_true, decide_eq_true_eq] at h
  obtain ⟨⟨⟨⟨rfl, rfl⟩, h1⟩, h2⟩, h3⟩ := h
  refine PE.weak (pe_chain (cmpAny ok.room) (cmpAny ok.room) (I_a.e X W l ok cl h1) (I_b.e X W m ok cl h2) (I_c.e X W r ok cl h3) (last_good (good_of h3))) fun σ H Q q => ?_
  refine tR.bind (f := ev ge cf a) (g := fun τ x st => (ev ge cf b τ st).bind fun y st => (cmpB o x y st).bind fun k st => match k with
    | true => (ev ge cf c τ st).bind fun z st => (cmpB o' y z st).bind fun b st => .ok (D.bl b) st
    | false => .ok (D.bl false) st) q fun φ τ x st v H1 rs s rv post => ?_
  refine ⟨φ, τ, st, rs, s, post.bind fun y st2 φ2 H2 w e s2 rw' p => ⟨φ2, st2, x, y, s2, rv.ext e, rw', ?_⟩⟩
  refine Post.nox (W := W σ) (p.bind fun k st3 φ3 H3 z e3 s3 rz p3 => ⟨k, rz, ?_⟩) cmpB_nox
  cases k with
  | true => rw [if_pos rfl]; exact ⟨φ3, τ, st3, (rs.ext e).ext e3, s3, p3.bind fun z st4 φ4 H4 w4 e4 s4 rw4 p4 => ⟨φ4, st4, y, z, s4, (rw'.ext e3).ext e4, rw4, cmpPost cmpB_nox p4⟩⟩
  | false => rw [if_neg Bool.false_ne_true]; exact ok_here p3 s3 (.bl _)

theorem e_tup {es : CEs} (I_es : IHEs ge cf es) : ∀ (X : Cx) (W : WT) (e : Expr), Ok ge X → CallsM ge cf X W → chkE X.N X.env.scope (.tup es) e = true → PE X e (tD X.K W (ev ge cf (.tup es))) := by
  intro X W e0 ok cl h
  obtain ⟨xs, k, p, rfl⟩ := iv_tup h
  refine PE.weak (pe_tup (I_es.e X W xs ok cl h)) fun σ H Q q => ?_
  refine tR.bind (f := evs ge cf es) (g := fun τ xs st => gd (xs.length ≤ lineN) (.ok (D.tup xs) st)) q fun φ τ x st v H1 rs s rv post => ?_
  obtain ⟨hz, post⟩ := gd_ok post
  exact ⟨by rw [rv.length, ← line_eq]; exact hz, ok_tup post s rv⟩

theorem e_new {l : CL} (I_l : IHL ge cf l) : ∀ (X : Cx) (W : WT) (e : Expr), Ok ge X → CallsM ge cf X W → chkE X.N X.env.scope (.new l) e = true → PE X e (tD X.K W (ev ge cf (.new l))) := by
  intro X W e0 ok cl h
  exact PE.weak (I_l.l X W e0 ok cl h) fun σ H Q q => own_frz (f := evl ge cf l) q

theorem e_cell {l : CL} (I_l : IHL ge cf l) : ∀ (X : Cx) (W : WT) (e : Expr), Ok ge X → CallsM ge cf X W → chkE X.N X.env.scope (.cell l) e = true → PE X e (tD X.K W (ev ge cf (.cell l))) := by
  intro X W e0 ok cl h
  exact PE.weak (I_l.l X W e0 ok cl h) fun σ H Q q => own_cell (f := evl ge cf l) q

theorem cellAt {K : PySem.W.Frag} {φ : Wd} {H : Hp} {st : Store} {p : Addr} (sim : Sim K φ H st) : (φ.add p).c[st.length]? = some p := by
  show (φ.c ++ [p])[st.length]? = some p
  rw [← sim.len, List.getElem?_append_right (Nat.le_refl _)]
  simp
theorem e_dict0 {t : Bool} : ∀ (X : Cx) (W : WT) (e : Expr), Ok ge X → CallsM ge cf X W → chkE X.N X.env.scope (.dict0 t) e = true → PE X e (tD X.K W (ev ge cf (.dict0 t))) := by
  intro X W e0 ok cl h
  obtain ⟨p, rfl⟩ := iv_dict0 h
  cases t with
  | false =>
    refine PE.weak pe_dnewK fun σ H Q ⟨φ, τ, st, rs, sim, post⟩ => ?_
    intro p hp
    exact post (φ.add p) _ _ (Ext.cell hp) (sim.cellNew (c := .dict false []) hp ⟨[], upd_same, .nil⟩) (.ref (cellAt sim))
  | true =>
    refine PE.weak pe_dnewT fun σ H Q ⟨φ, τ, st, rs, sim, post⟩ => ?_
    intro p hp
    exact post (φ.add p) _ _ (Ext.cell hp) (sim.cellNew (c := .dict true []) hp ⟨[], upd_same, .nil⟩) (.ref (cellAt sim))
theorem dictR_inv {α β : Type} {K : PySem.W.Frag} {R : Wd → Hp → β → α → Prop} {W : Wd → Hp → Store → D → Prop} {φ : Wd} {H : Hp} {Q : β → Hp → Prop} {st : Store} {x : D} {t : Bool} {k : Option (List KY)} {f : Nat → List (List KY × D) → List KY → Res α}
    (h : Post K R W φ H (dictR st x t k .err f) Q) : ∃ j kvs k', x = .ref j ∧ st[j]? = some (.dict t kvs) ∧ k = some k' ∧ Post K R W φ H (f j kvs k') Q := by
  unfold dictR at h
  split at h
  · rename_i j
    split at h
    · rename_i t' kvs e
      split at h
      · rename_i k'
        split at h
        · rename_i et
          subst et
          exact ⟨j, kvs, k', rfl, e, rfl, h⟩
        · exact h.elim
      · exact h.elim
    · exact h.elim
  · exact h.elim
theorem insR_inv {α β : Type} {K : PySem.W.Frag} {R : Wd → Hp → β → α → Prop} {W : Wd → Hp → Store → D → Prop} {φ : Wd} {H : Hp} {Q : β → Hp → Prop} {st : Store} {x : D} {c : String} {f : Nat → List (String × D) → Res α}
    (h : Post K R W φ H (insR st x c .err f) Q) : ∃ j fs, x = .ref j ∧ st[j]? = some (.ins c fs) ∧ Post K R W φ H (f j fs) Q := by
  unfold insR at h
  split at h
  · rename_i j
    split at h
    · rename_i c' fs e
      split at h
      · rename_i ec
        subst ec
        exact ⟨j, fs, rfl, e, h⟩
      · exact h.elim
    · exact h.elim
  · exact h.elim
theorem optR_inv {K : PySem.W.Frag} {W : Wd → Hp → Store → D → Prop} {φ : Wd} {H : Hp} {Q : VK} {st : Store} {o : Option D} (h : Post K (RV K) W φ H (optR o st) Q) : ∃ d, o = some d ∧ Post K (RV K) W φ H (.ok d st) Q := by
  unfold optR at h
  split at h
  · exact ⟨_, rfl, h⟩
  · exact h.elim
theorem dK_at {K : PySem.W.Frag} {φ : Wd} {H : Hp} {st : Store} {v : V} {j : Nat} {kvs : List (List KY × D)} (s : Sim K φ H st) (r : RepV K φ H v (.ref j)) (e : st[j]? = some (.dict false kvs)) : ∃ a vs, v = .ref a ∧ φ.c[j]? = some a ∧ H a = some (.dK vs) ∧ RepK K φ H vs kvs := by
  cases r with
  | ref hk =>
    obtain ⟨c, hc, rc⟩ := s.at_ hk
    rw [e] at hc
    cases hc
    obtain ⟨vs, h1, h2⟩ := rc
    exact ⟨_, vs, rfl, hk, h1, h2⟩
theorem dT_at {K : PySem.W.Frag} {φ : Wd} {H : Hp} {st : Store} {v : V} {j : Nat} {kvs : List (List KY × D)} (s : Sim K φ H st) (r : RepV K φ H v (.ref j)) (e : st[j]? = some (.dict true kvs)) : ∃ a vs, v = .ref a ∧ φ.c[j]? = some a ∧ H a = some (.dT vs) ∧ RepT K φ H vs kvs := by
  cases r with
  | ref hk =>
    obtain ⟨c, hc, rc⟩ := s.at_ hk
    rw [e] at hc
    cases hc
    obtain ⟨vs, h1, h2⟩ := rc
    exact ⟨_, vs, rfl, hk, h1, h2⟩
theorem ins_at {K : PySem.W.Frag} {φ : Wd} {H : Hp} {st : Store} {v : V} {j : Nat} {c : String} {fs : List (String × D)} (s : Sim K φ H st) (r : RepV K φ H v (.ref j)) (e : st[j]? = some (.ins c fs)) : ∃ a dx vs, v = .ref a ∧ φ.c[j]? = some a ∧ H a = some (.ins (He.ga K (Str.ofString c)) dx vs) ∧ RepF K φ H vs fs := by
  cases r with
  | ref hk =>
    obtain ⟨c, hc, rc⟩ := s.at_ hk
    rw [e] at hc
    cases hc
    obtain ⟨dx, vs, h1, h2⟩ := rc
    exact ⟨_, dx, vs, rfl, hk, h1, h2⟩
theorem key_at {K : PySem.W.Frag} {φ : Wd} {H : Hp} {v : V} {d : D} {k : List KY} (r : RepV K φ H v d) (e : keyD1 d = some k) : ∃ y, k = [y] ∧ v = kV (kyV y) := by
  cases d with
  | int i => cases e; exact ⟨.inl i, rfl, r.int_inv⟩
  | str i => cases e; exact ⟨.inr i, rfl, r.str_inv⟩
  | _ => cases e
theorem keys_at' {K : PySem.W.Frag} {φ : Wd} {H : Hp} : ∀ {vs : List V} {ds : List D} {k : List KY}, RepVs K φ H vs ds → keysA ds = some k → vs = (k.map kyV).map kV
  | _, _, k, .nil, e => by cases e; rfl
  | _, _, k, .cons (d := d) (ds := ds) a b, e => by
    unfold keysA at e
    cases h1 : keyD d with
    | none => rw [h1] at e; cases e
    | some y =>
      rw [h1] at e
      cases h2 : keysA ds with
      | none => rw [h2] at e; cases e
      | some ys =>
        rw [h2] at e
        cases e
        rw [keys_at' b h2]
        obtain ⟨z, e1, e2⟩ := key_at (k := [y]) a (by unfold keyD1; rw [h1]; rfl)
        cases e1
        rw [e2]; rfl
theorem e_dgetK {o k : CE} (I_o : IHE ge cf o) (I_k : IHE ge cf k) : ∀ (X : Cx) (W : WT) (e : Expr), Ok ge X → CallsM ge cf X W → chkE X.N X.env.scope (.dgetK o k) e = true → PE X e (tD X.K W (ev ge cf (.dgetK o k))) := by
  intro X W e0 ok cl h
  obtain ⟨x, y, p, rfl⟩ := iv_dgetK h
  simp only [chkE, Bool.and_eq_true] at h
  have room := ok.room
  refine PE.weak (pe_dget (by omega) (I_o.e X W x ok cl h.1) (I_k.e X W y ok cl h.2) (ix_good (good_of h.2))) fun σ H Q q => ?_
  refine tR.bind (f := ev ge cf o) (g := fun τ x st => (ev ge cf k τ st).bind fun y st => dictR st x false (keyD1 y) .err fun _ kvs k => optR (valD kvs k) st) q fun φ τ x st v H1 rs s rv post => ?_
  refine ⟨φ, τ, st, rs, s, post.bind fun y st2 φ2 H2 w e s2 rw' p => ?_⟩
  obtain ⟨j, kvs, k', rfl, hj, hk', p4⟩ := dictR_inv p
  obtain ⟨d, hd, p5⟩ := optR_inv p4
  obtain ⟨a, vs, rfl, _, h1, h2⟩ := dK_at s2 (rv.ext e) hj
  obtain ⟨z, rfl, rfl⟩ := key_at rw' hk'
  have := h2.val (k := z)
  rw [hd] at this
  obtain ⟨u, hu, ru⟩ := this.some
  exact ⟨a, u, rfl, by rw [← hu]; exact DGet.k h1, ok_here p5 s2 ru⟩
theorem e_dgetT {o : CE} {es : CEs} (I_o : IHE ge cf o) (I_es : IHEs ge cf es) : ∀ (X : Cx) (W : WT) (e : Expr), Ok ge X → CallsM ge cf X W → chkE X.N X.env.scope (.dgetT o es) e = true → PE X e (tD X.K W (ev ge cf (.dgetT o es))) := by
  intro X W e0 ok cl h
  obtain ⟨x, ys, k, q, p, rfl⟩ := iv_dgetT h
  simp only [chkE, Bool.and_eq_true] at h
  have room := ok.room
  refine PE.weak (pe_dget (by omega) (I_o.e X W x ok cl h.1) (pe_tup (I_es.e X W ys ok cl h.2)) (fun _ _ => rfl)) fun σ H Q q => ?_
  refine tR.bind (f := ev ge cf o) (g := fun τ x st => (evs ge cf es τ st).bind fun ks st => gd (ks.length ≤ lineN) (dictR st x true (keysA ks) .err fun _ kvs k => optR (valD kvs k) st)) q fun φ τ x st v H1 rs s rv post => ?_
  refine ⟨φ, τ, st, rs, s, post.bind fun ks st2 φ2 H2 ws e s2 rws p => ?_⟩
  obtain ⟨hz, p⟩ := gd_ok p
  refine ⟨by rw [rws.length, ← line_eq]; exact hz, fun b hb => ?_⟩
  obtain ⟨j, kvs, k', rfl, hj, hk', p4⟩ := dictR_inv p
  obtain ⟨d, hd, p5⟩ := optR_inv p4
  obtain ⟨a, vs, rfl, _, h1, h2⟩ := dT_at s2 (rv.ext e) hj
  have ek := keys_at' rws hk'
  have := h2.val (k := k')
  rw [hd] at this
  obtain ⟨u, hu, ru⟩ := this.some
  refine ⟨a, u, rfl, ?_, p5 φ2 _ u (Ext.fresh hb) (s2.new hb) (ru.ext (Ext.fresh hb))⟩
  rw [← hu]
  exact DGet.t (by rw [upd_ne (ne_of_none h1 hb)]; exact h1) (by rw [upd_same, ek])
theorem c_dinK {o k : CE} (I_o : IHE ge cf o) (I_k : IHE ge cf k) {neg : Bool} {l r : Expr} {X : Cx} {W : WT} (ok : Ok ge X) (cl : CallsM ge cf X W) (h1 : chkE X.N X.env.scope k l = true) (h2 : chkE X.N X.env.scope o r = true) :
    PC X (if neg then .NotIn else .In) l r (tD X.K W (ev ge cf (.dinK neg k o))) := by
  have room := ok.room
  have key : ∀ σ H (Q : VK), tD X.K W (ev ge cf (.dinK neg k o)) σ H Q → tD X.K W (ev ge cf k) σ H fun y H1 => tD X.K W (ev ge cf o) σ H1 fun x H2 => ∃ a ov, x = .ref a ∧ DGet H2 a y ov ∧ Q (.bl (neg ^^ ov.isSome)) H2 := fun σ H Q q => by
    refine tR.bind (f := ev ge cf k) (g := fun τ y st => (ev ge cf o τ st).bind fun x st => dictR st x false (keyD1 y) .err fun _ kvs k => .ok (D.bl (neg ^^ (valD kvs k).isSome)) st) q fun φ τ y st v H1 rs s rv post => ?_
    refine ⟨φ, τ, st, rs, s, post.bind fun x st2 φ2 H2 w e s2 rw' p => ?_⟩
    obtain ⟨j, kvs, k', rfl, hj, hk', p5⟩ := dictR_inv p
    obtain ⟨a, vs, rfl, _, h1, h2⟩ := dK_at s2 rw' hj
    obtain ⟨z, rfl, rfl⟩ := key_at rv hk'
    refine ⟨a, _, rfl, DGet.k h1, ?_⟩
    rw [(h2.val (k := z)).isSome]
    exact ok_here p5 s2 (.bl _)
  cases neg with
  | false => exact ⟨fun pins s σ H Q I q => (pc_din (by omega) (I_k.e X W l ok cl h1) (I_o.e X W r ok cl h2)).run pins s σ H Q I (by
      have := key σ H Q q
      simp only [Bool.false_xor] at this
      exact this)⟩
  | true => exact ⟨fun pins s σ H Q I q => (pc_dnotin (by omega) (I_k.e X W l ok cl h1) (I_o.e X W r ok cl h2)).run pins s σ H Q I (by
      have := key σ H Q q
      simp only [Bool.true_xor] at this
      exact this)⟩
theorem c_dinT {o : CE} {es : CEs} (I_o : IHE ge cf o) (I_es : IHEs ge cf es) {neg : Bool} {ys : List Expr} {kk : Nat} {lp : Pos} {r : Expr} {X : Cx} {W : WT} (ok : Ok ge X) (cl : CallsM ge cf X W) (h1 : chkEs X.N X.env.scope es ys = true) (h2 : chkE X.N X.env.scope o r = true) :
    PC X (if neg then .NotIn else .In) (.Tuple ys kk lp) r (tD X.K W (ev ge cf (.dinT neg es o))) := by
  have room := ok.room
  have key : ∀ σ H (Q : VK), tD X.K W (ev ge cf (.dinT neg es o)) σ H Q → tTup (tDs X.K W (evs ge cf es)) σ H fun y H1 => tD X.K W (ev ge cf o) σ H1 fun x H2 => ∃ a ov, x = .ref a ∧ DGet H2 a y ov ∧ Q (.bl (neg ^^ ov.isSome)) H2 := fun σ H Q q => by
    refine tR.bind (f := evs ge cf es) (g := fun τ ks st => gd (ks.length ≤ lineN) ((ev ge cf o τ st).bind fun x st => dictR st x true (keysA ks) .err fun _ kvs k => .ok (D.bl (neg ^^ (valD kvs k).isSome)) st)) q fun φ τ ks st vs H1 rs s rvs post => ?_
    obtain ⟨hz, post⟩ := gd_ok post
    refine ⟨by rw [RepVs.length rvs, ← line_eq]; exact hz, fun b hb => ?_⟩
    have ef : Ext X.K φ H1 φ (upd H1 b (.tup vs)) := Ext.fresh hb
    refine ⟨φ, τ, st, rs.ext ef, s.new hb, (post.ext ef).bind fun x st2 φ2 H2 w e s2 rw' p => ?_⟩
    obtain ⟨j, kvs, k', rfl, hj, hk', p5⟩ := dictR_inv p
    obtain ⟨a, us, rfl, _, h1, h2⟩ := dT_at s2 rw' hj
    have ek := keys_at' rvs hk'
    refine ⟨a, _, rfl, DGet.t h1 (by rw [← ek]; exact e.keep b _ upd_same (s.fresh hb)), ?_⟩
    rw [(h2.val (k := k')).isSome]
    exact ok_here p5 s2 (.bl _)
  cases neg with
  | false => exact ⟨fun pins s σ H Q I q => (pc_din (by omega) (pe_tup (I_es.e X W ys ok cl h1)) (I_o.e X W r ok cl h2)).run pins s σ H Q I (by
      have := key σ H Q q
      simp only [Bool.false_xor] at this
      exact this)⟩
  | true => exact ⟨fun pins s σ H Q I q => (pc_dnotin (by omega) (pe_tup (I_es.e X W ys ok cl h1)) (I_o.e X W r ok cl h2)).run pins s σ H Q I (by
      have := key σ H Q q
      simp only [Bool.true_xor] at this
      exact this)⟩
/-- a test by a comparison -/
theorem test_of {X : Cx} {W : WT} {op : CmpOp} {a b : Expr} {pos : Pos} {f : Slots → Store → Res D} (h : PC X op a b (tD X.K W f)) (hm : behindInMarks op b = false) : PT X (.Compare a [op] [b] pos) (tB' X.K W f) := by
  refine PT.weak (pt_cmp h hm) fun σ H Q ⟨φ, τ, st, rs, s, post⟩ => ?_
  refine ⟨φ, τ, st, rs, s, ?_⟩
  exact test_val post
theorem e_fld {c f : String} {o : CE} (I_o : IHE ge cf o) : ∀ (X : Cx) (W : WT) (e : Expr), Ok ge X → CallsM ge cf X W → chkE X.N X.env.scope (.fld c o f) e = true → PE X e (tD X.K W (ev ge cf (.fld c o f))) := by
  intro X W e0 ok cl h
  obtain ⟨x, a, p, rfl⟩ := iv_fld h
  simp only [chkE, Bool.and_eq_true, decide_eq_true_eq] at h
  obtain ⟨⟨rfl, h1⟩, h2⟩ := h
  refine PE.weak (pe_fld (I_o.e X W x ok cl h2) (base_good (good_of h2) h1)) fun σ H Q ⟨φ, τ, st, rs, s, post⟩ => ?_
  obtain ⟨⟨c1, c2⟩, post⟩ := gd_ok (show Post X.K (RV X.K) (W σ) φ H (gd (ge.cl c = true ∧ ge.fd c f = true) _) Q from post)
  refine ⟨φ, τ, st, rs, s, post.bind fun y st2 φ2 H2 w e s2 rw' p => ?_⟩
  obtain ⟨j, fs, rfl, hj, p⟩ := insR_inv p
  obtain ⟨a, dx, vs, rfl, _, h3, h4⟩ := ins_at s2 rw' hj
  cases hl : fs.lookup f with
  | none => rw [hl] at p; exact p.elim
  | some d =>
    rw [hl] at p
    have := h4.look (f := f)
    rw [hl] at this
    obtain ⟨u, hu, ru⟩ := this.some
    exact ⟨a, _, dx, vs, u, rfl, h3, ok.cls c c1, ok.noat c f c2, hu, ok_here p s2 ru⟩
theorem args_nil {N : List Str} {sc : Scope} {es : CEs} {ys : List Expr} {K : PySem.W.Frag} {W : WT} (h : chkEs N sc es ys = true) : ys = [] → ∀ σ H Q, tDs K W (evs ge cf es) σ H Q → Q [] H := by
  rintro rfl σ H Q ⟨φ, τ, st, rs, s, post⟩
  cases es with
  | nil => exact post φ H [] Ext.refl s .nil
  | cons _ _ => cases h
theorem e_meth {c m : String} {o : CE} {es : CEs} (I_o : IHE ge cf o) (I_es : IHEs ge cf es) : ∀ (X : Cx) (W : WT) (e : Expr), Ok ge X → CallsM ge cf X W → chkE X.N X.env.scope (.meth c m o es) e = true → PE X e (tD X.K W (ev ge cf (.meth c m o es))) := by
  intro X W e0 ok cl h
  obtain ⟨x, a, ap, ys, cp, rfl⟩ := iv_meth h
  simp only [chkE, Bool.and_eq_true, decide_eq_true_eq] at h
  obtain ⟨⟨⟨⟨⟨rfl, h1⟩, hl1⟩, hl2⟩, h2⟩, h3⟩ := h
  by_cases hk : ge.cl c = true ∧ ge.ms c m = true
  case neg =>
    refine ⟨fun pins s σ H Q I q => ?_⟩
    obtain ⟨φ, τ, st, rs, sim, post⟩ := q
    exact absurd (gd_ok (show Post X.K (RV X.K) (W σ) φ H (gd (ge.cl c = true ∧ ge.ms c m = true) _) Q from post)).1 hk
  refine PE.weak (cl.obj c m x ys _ _ ap cp hk.1 hk.2 (good_of h2) h1 (by rw [hl1]; exact beq_self_eq_true _) hl2 (I_o.e X W x ok cl h2) ⟨goods h3, I_es.e X W ys ok cl h3, args_nil h3⟩) fun σ H Q ⟨φ, τ, st, rs, s, post⟩ => ?_
  obtain ⟨_, post⟩ := gd_ok (show Post X.K (RV X.K) (W σ) φ H (gd (ge.cl c = true ∧ ge.ms c m = true) _) Q from post)
  refine ⟨φ, τ, st, rs, s, post.bind fun y st2 φ2 H2 w e s2 rw' p => ?_⟩
  obtain ⟨j, fs, rfl, hj, p⟩ := insR_inv p
  obtain ⟨hl, p⟩ := gd_ok p
  obtain ⟨a, dx, vs, rfl, _, h4, h5⟩ := ins_at s2 rw' hj
  have hn : vs.lookup (Str.ofString m) = none := by
    have := (h5.look (f := m)).isSome
    rw [hl] at this
    cases hv : vs.lookup (Str.ofString m) with
    | none => rfl
    | some _ => rw [hv] at this; cases this
  refine ⟨a, dx, vs, rfl, h4, hn, φ2, τ, st2, rs.ext e, s2, p.bind fun xs st3 φ3 H3 us e3 s3 rus p3 => ?_⟩
  exact ⟨φ3, st3, _, s3, .cons (rw'.ext e3) rus, p3⟩
theorem e_make {c : String} {es : CEs} (I_es : IHEs ge cf es) : ∀ (X : Cx) (W : WT) (e : Expr), Ok ge X → CallsM ge cf X W → chkE X.N X.env.scope (.make c es) e = true → PE X e (tD X.K W (ev ge cf (.make c es))) := by
  intro X W e0 ok cl h
  obtain ⟨x, p, ys, pos, rfl⟩ := iv_make h
  simp only [chkE, Bool.and_eq_true, decide_eq_true_eq] at h
  obtain ⟨⟨⟨rfl, h1⟩, h2⟩, h3⟩ := h
  by_cases hk : ge.cl c = true ∧ ge.ms c "__init__" = true
  case neg =>
    refine ⟨fun pins s σ H Q I q => ?_⟩
    obtain ⟨φ, τ, st, rs, sim, post⟩ := q
    exact absurd (gd_ok (show Post X.K (RV X.K) (W σ) φ H (gd (ge.cl c = true ∧ ge.ms c "__init__" = true) _) Q from post)).1 hk
  refine PE.weak (cl.mkI c ys _ p pos hk.1 hk.2 h1 h2 ⟨goods h3, I_es.e X W ys ok cl h3, args_nil h3⟩) fun σ H Q ⟨φ, τ, st, rs, s, post⟩ => ?_
  obtain ⟨_, post⟩ := gd_ok (show Post X.K (RV X.K) (W σ) φ H (gd (ge.cl c = true ∧ ge.ms c "__init__" = true) _) Q from post)
  refine ⟨φ, τ, st, rs, s, post.bind fun xs st2 φ2 H2 us e s2 rus p => ?_⟩
  intro x dx hx hdx hne
  have hx2 : upd H2 dx (.own x) x = none := by rw [upd_ne (Ne.symm hne)]; exact hx
  have e1 : Ext X.K φ2 H2 (φ2.add x) (upd (upd H2 dx (.own x)) x (.ins (He.ga X.K (Str.ofString c)) dx [])) := (Ext.fresh hdx).trans (Ext.cell hx2)
  have hc : (φ2.add x).c[st2.length]? = some x := cellAt s2
  refine ⟨φ2.add x, st2 ++ [.ins c []], .ref st2.length :: xs, (s2.new hdx).cellNew (c := .ins c []) hx2 ⟨dx, [], upd_same, .nil⟩, .cons (.ref hc) (rus.ext e1), ?_⟩
  refine (p.ext e1).bind fun r st3 φ3 H3 v e3 s3 rv p3 => ?_
  cases r with
  | non => exact ⟨rv.non_inv, ok_here p3 s3 (.ref (e3.pre _ _ hc))⟩
  | _ => exact p3.elim

theorem e_idx {a : CE} {i : CE} (I_a : IHE ge cf a) (I_i : IHE ge cf i) : ∀ (X : Cx) (W : WT) (e : Expr), Ok ge X → CallsM ge cf X W → chkE X.N X.env.scope (.idx a i) e = true → PE X e (tD X.K W (ev ge cf (.idx a i))) := by
  intro X W e0 ok cl h
  obtain ⟨x, y, p, rfl⟩ := iv_idx h
  simp only [chkE, Bool.and_eq_true] at h
  refine PE.weak (pe_ix ixAny (I_a.e X W x ok cl h.1) (I_i.e X W y ok cl h.2) (ix_good (good_of h.2))) fun σ H Q q => ?_
  refine tR.bind (f := ev ge cf a) (g := fun τ x st => (ev ge cf i τ st).bind fun y st => idxD st x y) q fun φ τ x st v H1 rs s rv post => ?_
  exact ⟨φ, τ, st, rs, s, post.bind fun y st2 φ2 H2 w e s2 rw' p => ⟨φ2, st2, x, y, s2, rv.ext e, rw', p.nox idxD_nox⟩⟩

theorem e_slice {a : CE} {lo : CO} {hi : CO} (I_a : IHE ge cf a) (I_lo : IHO ge cf lo) (I_hi : IHO ge cf hi) : ∀ (X : Cx) (W : WT) (e : Expr), Ok ge X → CallsM ge cf X W → chkE X.N X.env.scope (.slice a lo hi) e = true → PE X e (tD X.K W (ev ge cf (.slice a lo hi))) := by
  intro X W e0 ok cl h
  obtain ⟨x, l, u, q, p, rfl⟩ := iv_slice h
  simp only [chkE, Bool.and_eq_true] at h
  refine PE.weak (pe_slice slAny (I_a.e X W x ok cl h.1.1) (I_lo.o X W l ok cl h.1.2) (I_hi.o X W u ok cl h.2)) fun σ H Q q => ?_
  refine tR.bind (f := ev ge cf a) (g := fun τ x st => (evo ge cf lo τ st).bind fun l st => (evo ge cf hi τ st).bind fun h st => sliceD st x l h) q fun φ τ x st v H1 rs s rv post => ?_
  refine ⟨φ, τ, st, rs, s, post.bind fun y st2 φ2 H2 w e s2 rw' p => ?_⟩
  refine ⟨φ2, τ, st2, rs.ext e, s2, p.bind fun z st3 φ3 H3 w3 e3 s3 rw3 p3 => ?_⟩
  cases rw'
  cases rw3
  exact ⟨φ3, st3, x, s3, (rv.ext e).ext e3, p3.nox sliceD_nox⟩

theorem e_call {f : String} {es : CEs} (I_es : IHEs ge cf es) : ∀ (X : Cx) (W : WT) (e : Expr), Ok ge X → CallsM ge cf X W → chkE X.N X.env.scope (.call f es) e = true → PE X e (tD X.K W (ev ge cf (.call f es))) := by
  intro X W e0 ok cl h
  obtain ⟨x, p, ys, pos, rfl⟩ := iv_call h
  simp only [chkE, Bool.and_eq_true, decide_eq_true_eq] at h
  obtain ⟨⟨⟨rfl, h1⟩, h2⟩, h3⟩ := h
  have hg := goods h3
  by_cases hk : ge.fs f = true
  case neg =>
    refine ⟨fun pins s σ H Q I q => ?_⟩
    obtain ⟨φ, τ, st, rs, sim, post⟩ := q
    have post : Post X.K (RV X.K) (W σ) φ H (gd (ge.fs f = true) ((evs ge cf es τ st).bind fun xs st => cf f xs st)) Q := post
    unfold gd at post
    rw [if_neg hk] at post
    exact post.elim
  have eq : ∀ τ st, ev ge cf (.call f es) τ st = (evs ge cf es τ st).bind fun xs st => cf f xs st := fun τ st => gd_pos hk
  cases ys with
  | nil =>
    cases es with
    | cons _ _ => cases h3
    | nil =>
      refine PE.weak (cl.here0 f p pos hk h1 h2) fun σ H Q ⟨φ, τ, st, rs, sim, post⟩ => ⟨φ, st, sim, ?_⟩
      rw [eq] at post
      exact post
  | cons y ys =>
    refine PE.weak (cl.here f y ys _ p pos hk h1 h2 (hg y List.mem_cons_self) (fun x hx => hg x (List.mem_cons_of_mem _ hx)) (I_es.e X W (y :: ys) ok cl h3)) fun σ H Q q => ?_
    have q : tR X.K W (RV X.K) (fun τ st => (evs ge cf es τ st).bind fun xs st => cf f xs st) σ H Q := by
      obtain ⟨φ, τ, st, rs, sim, post⟩ := q
      exact ⟨φ, τ, st, rs, sim, by show Post X.K (RV X.K) (W σ) φ H ((evs ge cf es τ st).bind fun xs st => cf f xs st) Q; rw [← eq]; exact post⟩
    refine tR.bind (f := evs ge cf es) (g := fun τ xs st => cf f xs st) q fun φ τ x st v H1 rs s rv post => ?_
    exact ⟨φ, st, x, s, rv, post⟩

theorem e_lenSet {a : CE} (I_a : IHE ge cf a) : ∀ (X : Cx) (W : WT) (e : Expr), Ok ge X → CallsM ge cf X W → chkE X.N X.env.scope (.lenSet a) e = true → PE X e (tD X.K W (ev ge cf (.lenSet a))) := by
  intro X W e0 ok cl h
  obtain ⟨x, p, y, p2, z, p3, pos, rfl⟩ := iv_lenSet h
  simp only [chkE, Bool.and_eq_true, decide_eq_true_eq] at h
  obtain ⟨⟨⟨⟨rfl, h1⟩, rfl⟩, h2⟩, h3⟩ := h
  refine PE.weak (pe_lenSetT ok.calm (glB_ok h1) (ok.free _ (by decide +kernel)) (glB_ok h2) (ok.free _ (by decide +kernel)) (I_a.e X W z ok cl h3) (star_good (good_of h3))) fun σ H Q q => ?_
  refine tR.bind (f := ev ge cf a) (g := fun τ x st => lenSetR x st) q fun φ τ x st v H1 rs s rv post => ?_
  cases rv with
  | @tup p vs ds sq r =>
    replace post : Post X.K (RV X.K) (W σ) φ H1 (match toInts ds with
      | some is => gd (is.length ≤ 1000) (.ok (.int ((uniqI is).length : Nat)) st)
      | none => .err) Q := post
    cases e : toInts ds with
    | none => rw [e] at post; exact post.elim
    | some is =>
      rw [e] at post
      obtain ⟨hz, post2⟩ := gd_ok post
      clear post
      obtain rfl := toInts_eq e
      obtain rfl := r.ofInts
      exact ⟨p, is, rfl, sq, hz, ok_here post2 s (.int _)⟩
  | _ => exact post.elim

theorem e_tupR {a : CE} (I_a : IHE ge cf a) : ∀ (X : Cx) (W : WT) (e : Expr), Ok ge X → CallsM ge cf X W → chkE X.N X.env.scope (.tupR a) e = true → PE X e (tD X.K W (ev ge cf (.tupR a))) := by
  intro X W e0 ok cl h
  obtain ⟨x, p, y, p2, z, p3, pos, rfl⟩ := iv_tupR h
  simp only [chkE, Bool.and_eq_true, decide_eq_true_eq] at h
  obtain ⟨⟨⟨⟨rfl, h1⟩, rfl⟩, h2⟩, h3⟩ := h
  refine PE.weak (pe_tupRg ok.calm (glB_ok h1) (ok.free _ (by decide +kernel)) (prg_1 (glB_ok h2) (ok.free _ (by decide +kernel)) (I_a.e X W z ok cl h3) (star_good (good_of h3)))) fun σ H Q q => ?_
  refine tR.bind (f := ev ge cf a) (g := fun τ x st => tupRR x st) q fun φ τ x st v H1 rs s rv post => ?_
  cases rv with
  | int i =>
    obtain ⟨⟨c1, c2⟩, post⟩ := gd_ok post
    have hl : lineN = 16777216 := rfl
    refine ⟨i, rfl, ⟨by omega, by omega, by omega, by omega, by omega⟩, ?_⟩
    have r : RepVs X.K φ H1 (rgV 0 i) (rng 0 i) := by
      have := RepVs.ints (K := X.K) (φ := φ) (H := H1) ((List.range (i - 0).toNat).map fun (j : Nat) => (0 : Int) + (j : Int))
      rw [List.map_map, List.map_map] at this
      exact this
    exact ok_tup post s r
  | _ => exact post.elim

/-- names of defs, in a row -/
theorem pa_defs {X : Cx} : ∀ {fs : List String} {ls : List Expr}, chkCs X.env.scope fs ls = true → (∀ f ∈ fs, ∃ a, X.mg (Str.ofString f) = some (.ref a)) → ∃ as : List Addr, as.length = fs.length ∧ (∀ (i : Nat) (f : String), fs[i]? = some f → ∃ a, as[i]? = some a ∧ X.mg (Str.ofString f) = some (.ref a)) ∧
    PA X ls (fun σ H Q => Q (as.map V.ref) H) := by
  intro fs
  induction fs with
  | nil =>
    intro ls h _
    cases ls with
    | cons _ _ => cases h
    | nil => exact ⟨[], rfl, fun i f e => by simp at e, pa_nil⟩
  | cons f fs ih =>
    intro ls h hm
    cases ls with
    | nil => cases h
    | cons e es =>
      cases e <;> first | cases h | skip
      rename_i x p
      simp only [chkCs, Bool.and_eq_true, decide_eq_true_eq] at h
      obtain ⟨⟨⟨rfl, h1⟩, h2⟩, h3⟩ := h
      obtain ⟨as, hl, ha, pa⟩ := ih h3 fun f hf => hm f (List.mem_cons_of_mem _ hf)
      obtain ⟨a, ea⟩ := hm f List.mem_cons_self
      refine ⟨a :: as, by rw [List.length_cons, List.length_cons, hl], fun i g e => ?_, PA.weak (pa_cons (pe_glob (v := .ref a) (glB_ok h1) ea rfl (nmB_ok h2).1) pa) fun σ H Q q => q⟩
      cases i with
      | zero => cases e; exact ⟨a, rfl, ea⟩
      | succ i => exact ha i g e

theorem e_fcall {fs : List String} {i : CE} {es : CEs} (I_i : IHE ge cf i) (I_es : IHEs ge cf es) : ∀ (X : Cx) (W : WT) (e : Expr), Ok ge X → CallsM ge cf X W → chkE X.N X.env.scope (.fcall fs i es) e = true → PE X e (tD X.K W (ev ge cf (.fcall fs i es))) := by
  intro X W e0 ok cl h
  obtain ⟨ls, q0, z, r0, y, ys, pos, rfl⟩ := iv_fcall h
  simp only [chkE, Bool.and_eq_true, decide_eq_true_eq] at h
  obtain ⟨⟨h1, h2⟩, h3⟩ := h
  have hg := goods h3
  by_cases hk : fs.all ge.fs = true ∧ fs.length ≤ 100
  case neg =>
    refine ⟨fun pins s σ H Q I q => ?_⟩
    obtain ⟨φ, τ, st, rs, sim, post⟩ := q
    have post : Post X.K (RV X.K) (W σ) φ H (gd (fs.all ge.fs = true ∧ fs.length ≤ 100) _) Q := post
    unfold gd at post
    rw [if_neg hk] at post
    exact post.elim
  have hall : ∀ f ∈ fs, ge.fs f = true := List.all_eq_true.mp hk.1
  obtain ⟨as, hl, ha, pa⟩ := pa_defs h1 fun f hf => cl.nam f (hall f hf)
  refine PE.weak (cl.val (.List ls q0) z r0 _ y ys _ pos (hg y List.mem_cons_self) (fun x hx => hg x (List.mem_cons_of_mem _ hx)) (pe_ix ix_list (pe_lst pa) (I_i.e X W z ok cl h2) (ix_good (good_of h2))) (I_es.e X W (y :: ys) ok cl h3)) fun σ H Q q => ?_
  obtain ⟨φ, τ, st, rs, sim, post⟩ := q
  have post : Post X.K (RV X.K) (W σ) φ H (gd (fs.all ge.fs = true ∧ fs.length ≤ 100) ((ev ge cf i τ st).bind fun x st => match x with
       | .int j => (match L2.atI fs j with
         | some f => (evs ge cf es τ st).bind fun xs st => cf f xs st
         | none => .err)
       | _ => .err)) Q := post
  rw [gd_pos hk] at post
  refine ⟨by rw [List.length_map, hl, ← line_eq]; have hl2 : lineN = 16777216 := rfl; omega, fun p hp => ?_⟩
  have post := post.ext (Ext.fresh (o := .lst (as.map V.ref)) hp)
  refine ⟨φ, τ, st, rs.ext (Ext.fresh hp), sim.new hp, post.bind fun x st1 φ1 H1 v e1 s1 rv post => ?_⟩
  cases rv with
  | int j =>
    have post : Post X.K (RV X.K) (W σ) φ1 H1 (match L2.atI fs j with
         | some f => (evs ge cf es τ st1).bind fun xs st => cf f xs st
         | none => .err) Q := post
    cases ej : L2.atI fs j with
    | none => rw [ej] at post; exact post.elim
    | some f =>
      rw [ej] at post
      have hj := ej
      unfold L2.atI at hj
      obtain ⟨n, hn, hf⟩ := Option.bind_eq_some_iff.mp hj
      obtain ⟨a, ha1, ha2⟩ := ha n f hf
      refine ⟨p, as.map V.ref, j, .ref a, rfl, rfl, .of (e1.keep p _ upd_same fun hc => sim.fresh hp hc), ?_, f, a, hall f (List.mem_of_getElem? hf), rfl, ha2, ?_⟩
      · unfold L2.atI
        rw [List.length_map, hl]
        exact Option.bind_eq_some_iff.mpr ⟨n, hn, by rw [List.getElem?_map, ha1]; rfl⟩
      · have q : tR X.K W (RV X.K) (fun τ st => (evs ge cf es τ st).bind fun xs st => cf f xs st) σ H1 Q := ⟨φ1, τ, st1, (rs.ext (Ext.fresh hp)).ext e1, s1, post⟩
        refine tR.bind (f := evs ge cf es) (g := fun τ xs st => cf f xs st) q fun φ τ x st v H1 rs s rv post => ?_
        exact ⟨φ, st, x, s, rv, post⟩
  | _ => exact post.elim

theorem e_blt {b : Blt} {es : CEs} (I_es : IHEs ge cf es) : ∀ (X : Cx) (W : WT) (e : Expr), Ok ge X → CallsM ge cf X W → chkE X.N X.env.scope (.blt b es) e = true → PE X e (tD X.K W (ev ge cf (.blt b es))) := by
  intro X W e0 ok cl h
  obtain ⟨x, p, y, ys, pos, rfl⟩ := iv_blt h
  simp only [chkE, Bool.and_eq_true, decide_eq_true_eq] at h
  obtain ⟨⟨rfl, h1⟩, h3⟩ := h
  have hg := goods h3
  refine PE.weak (callBlt ok.calm ok.grd ok.room ok.free (glB_ok h1) (hg y List.mem_cons_self) (fun x hx => hg x (List.mem_cons_of_mem _ hx)) (I_es.e X W (y :: ys) ok cl h3)) fun σ H Q q => ?_
  refine tR.bind (f := evs ge cf es) (g := fun τ xs st => blt b xs st) q fun φ τ x st v H1 rs s rv post => ?_
  exact ⟨φ, st, x, s, rv, post.nox blt_nox⟩

theorem e_mth {m : Mth} {o : CE} {es : CEs} (I_o : IHE ge cf o) (I_es : IHEs ge cf es) : ∀ (X : Cx) (W : WT) (e : Expr), Ok ge X → CallsM ge cf X W → chkE X.N X.env.scope (.mth m o es) e = true → PE X e (tD X.K W (ev ge cf (.mth m o es))) := by
  intro X W e0 ok cl h
  obtain ⟨x, a, ap, ys, cp, rfl⟩ := iv_mth h
  simp only [chkE, Bool.and_eq_true, decide_eq_true_eq] at h
  obtain ⟨⟨⟨⟨⟨⟨rfl, h1⟩, h2⟩, h3⟩, h4⟩, h5⟩, h6⟩ := h
  have hg := goods h6
  have F := mFacts m h1
  have ho := I_o.e X W x ok cl h5
  have hbase := base_good (f := mName m) (env := X.env) (w := eval x X.env) (good_of h5) h2
  have hline : (ap.endLine == cp.line) = true := by rw [h3]; exact beq_self_eq_true _
  have fin : ∀ σ H Q, tD X.K W (ev ge cf (.mth m o es)) σ H Q → tBM X.K (mType m) (rM X.K m) (tD X.K W (ev ge cf o)) (tDs X.K W (evs ge cf es)) σ H Q := fun σ H Q q => by
    refine tR.bind (f := ev ge cf o) (g := fun τ x st => gd (mOk m x st = true) ((evs ge cf es τ st).bind fun xs st => mth m x xs st)) q fun φ τ x st v H1 rs s rv post => ?_
    obtain ⟨hk, post⟩ := gd_ok post
    refine ⟨mOk_ty s rv hk, φ, τ, st, rs, s, post.bind fun y st2 φ2 H2 w e s2 rw' p => ⟨φ2, st2, x, y, s2, rv.ext e, rw', p.nox mth_nox⟩⟩
  cases ys with
  | nil =>
    refine PE.weak (pe_bm0 F.pa F.slot F.ty (mAny ok.room m h1) ho hbase hline) fun σ H Q q => ?_
    cases es with
    | nil =>
      refine tR.bind (f := ev ge cf o) (g := fun τ x st => gd (mOk m x st = true) ((evs ge cf .nil τ st).bind fun xs st => mth m x xs st)) q fun φ τ x st v H1 rs s rv post => ?_
      obtain ⟨hk, post⟩ := gd_ok post
      exact ⟨mOk_ty s rv hk, φ, st, x, [], s, rv, .nil, Post.nox (r := mth m x [] st) post mth_nox⟩
    | cons _ _ => cases h6
  | cons y ys =>
    have g1 := hg y List.mem_cons_self
    have g2 : ∀ x ∈ ys, good x = true := fun x hx => hg x (List.mem_cons_of_mem _ hx)
    refine PE.weak (pe_bm F.pa F.slot F.ty (mAny ok.room m h1) ho (I_es.e X W (y :: ys) ok cl h6) hbase ?_ hline (star_good g1) (star_all g2)) fin
    have e1 := star_none (env := X.env) (pos := cp) hg
    rw [e1]
    have e2 : decide ((y :: ys).length + ([] : List Keyword).length + (if ([] : List Keyword).isEmpty then 0 else 1) < 30) = true := by
      apply decide_eq_true
      show (y :: ys).length + 0 + 0 < 30
      omega
    rw [e2]; rfl

theorem e_isI {a : CE} {t : Ty} (I_a : IHE ge cf a) : ∀ (X : Cx) (W : WT) (e : Expr), Ok ge X → CallsM ge cf X W → chkE X.N X.env.scope (.isI a t) e = true → PE X e (tD X.K W (ev ge cf (.isI a t))) := by
  intro X W e0 ok cl h
  obtain ⟨x, p, y, z, q, pos, rfl⟩ := iv_isI h
  simp only [chkE, Bool.and_eq_true, decide_eq_true_eq] at h
  obtain ⟨⟨⟨⟨⟨rfl, h1⟩, rfl⟩, h3⟩, h4⟩, h5⟩ := h
  have hy := I_a.e X W y ok cl h5
  have hT : ∃ T : String, PE X (.Name (tName t) q) (tC (.ty T)) ∧ T = (match (generalizing := false) t with | .int => "int" | .bool => "bool" | .str => "str" | .tuple => "tuple" | .list => "list" | .dict => "dict" | .own _ => "") := by
    cases t with
    | int => exact ⟨"int", pe_bltn (glB_ok h4) (ok.free _ (by decide +kernel)) (by decide +kernel) rfl (by decide +kernel) (by decide +kernel), rfl⟩
    | bool => exact ⟨"bool", pe_bltn (glB_ok h4) (ok.free _ (by decide +kernel)) (by decide +kernel) rfl (by decide +kernel) (by decide +kernel), rfl⟩
    | str => exact ⟨"str", pe_bltn (glB_ok h4) (ok.free _ (by decide +kernel)) (by decide +kernel) rfl (by decide +kernel) (by decide +kernel), rfl⟩
    | tuple => exact ⟨"tuple", pe_bltn (glB_ok h4) (ok.free _ (by decide +kernel)) (by decide +kernel) rfl (by decide +kernel) (by decide +kernel), rfl⟩
    | list => exact ⟨"list", pe_bltn (glB_ok h4) (ok.free _ (by decide +kernel)) (by decide +kernel) rfl (by decide +kernel) (by decide +kernel), rfl⟩
    | dict => exact ⟨"dict", pe_bltn (glB_ok h4) (ok.free _ (by decide +kernel)) (by decide +kernel) rfl (by decide +kernel) (by decide +kernel), rfl⟩
    | own _ => cases h3
  obtain ⟨T, hT, eT⟩ := hT
  have hm := ok.free "isinstance" (by decide +kernel)
  have gy := good_of h5
  refine PE.weak (pe_callB call_isi (glB_ok h1) hm (by decide +kernel) (pa_cons hy (pa_cons hT pa_nil) (star_good gy)) (by decide +kernel) (by decide +kernel) (star_good gy) rfl) fun σ H Q q => ?_
  refine tR.bind (f := ev ge cf a) (g := fun τ x st => gd (notIns st x = true) (.ok (D.bl (isTy ge.bs st x t)) st)) q fun φ τ x st v H1 rs s rv post => ?_
  obtain ⟨hni, post⟩ := gd_ok post
  obtain ⟨tn, h6, h7⟩ := ty_of s rv hni
  refine ⟨v, .ty T, .type tn, .type T, isTy ge.bs st x t, rfl, ?_, h6, ?_, ok_here post s (.bl _)⟩
  · exact .ty T
  · rw [eT]; exact kit_ty (h7 ge.bs t h3)

/-! isinstance of a caught exception -/
inductive TyE (K : PySem.W.Frag) (H : Hp) : V → Value → Prop where
  | base {x : V} {t : Value} (h : TyX K H x t) : TyE K H x t
  | exc {a C : Addr} (e : H a = some (CaO (.ref C) none a)) (c : ExcC K C) : TyE K H (.ref a) (.ref C)
theorem kit_ofE {X : Cx} {pins : List (Addr × Obj)} {σ : L2.St} {H : Hp} {s : Shared} {x : V} {u t : Value} (I : Inv X pins σ H s) (rx : RelV x u) (ty : TyE X.K H x t) : ∃ P : Heap → Prop, PySem.W.KitX X.K u t P ∧ P s.heap ∧ u ≠ .builtin "__main__.__loader__#opaque" := by
  cases ty with
  | base h => exact kit_of I rx h
  | @exc a C e c =>
    cases (show u = Value.ref a from rx)
    obtain ⟨⟨oe, vs, hget, hz, hv⟩, _⟩ := (show ObjOk X.prog X.w H s.heap a (CaO (.ref C) none a) from I.hok a _ e)
    have J : PySem.W.InstAt s.heap a oe C none := by
      obtain ⟨oc, od, oda, osl⟩ := oe
      obtain ⟨h1, h2⟩ := hz
      dsimp only at h1 h2 hv
      subst h1 h2 hv
      exact ⟨hget, rfl, rfl, trivial⟩
    exact ⟨_, PySem.W.handS_kitx_exc c.hg c.hk c.hs c.hd c.ha c.hn c.ht c.hm, J, fun z => nomatch z⟩
def rIsiE (K : PySem.W.Frag) : List V → Hp → VK → Prop := fun xs H Q => ∃ (x c : V) (t u : Value) (b : Bool), xs = [x, c] ∧ ClsV c u ∧ TyE K H x t ∧ PySem.W.kitOne K t u = some b ∧ Q (.bl b) H
def rIsiTE (K : PySem.W.Frag) : List V → Hp → VK → Prop := fun xs H Q => ∃ (x : V) (tp : Addr) (cs : List V) (t : Value) (us : List Value) (b : Bool), xs = [x, .ref tp] ∧ H tp = some (.tup cs) ∧ Paired ClsV cs us ∧ TyE K H x t ∧ PySem.W.kitAny K t us = some b ∧ Q (.bl b) H
theorem call_isiE {X : Cx} : CallR X (.builtin "isinstance") (rIsiE X.K) := by
  intro pins s σ H xs us Q I r h
  obtain ⟨x, c, t, u, b, rfl, k, ty, e, q⟩ := h
  obtain ⟨u1, u2, rfl, r1, r2⟩ := vals2 r
  have e2 := k.eq r2
  subst e2
  obtain ⟨P, Z, p, hx⟩ := kit_ofE I r1 ty
  exact PySem.W.kia_one Z I.kIn p e hx fun tk => ⟨.bl b, H, I.tok tk, rfl, q⟩
theorem call_isiTE {X : Cx} : CallR X (.builtin "isinstance") (rIsiTE X.K) := by
  intro pins s σ H xs us Q I r h
  obtain ⟨x, tp, cs, t, ws, b, rfl, hT, k, ty, e, q⟩ := h
  obtain ⟨u1, u2, rfl, r1, r2⟩ := vals2 r
  cases (show u2 = Value.ref tp from r2)
  obtain ⟨P, Z, p, hx⟩ := kit_ofE I r1 ty
  obtain ⟨_, its, rv, o, h1, h2, n, h3⟩ := (show ObjOk X.prog X.w H s.heap tp (.tup cs) from I.hok tp _ hT)
  have e3 := ClsV.all k rv
  subst e3
  obtain ⟨oc, od, dt, sl⟩ := o
  simp only at h2 h3
  subst h2 h3
  exact PySem.W.kia_tup Z I.kIn p h1 e hx fun tk => ⟨.bl b, H, I.tok tk, rfl, q⟩
/-- the class that a name stands for, as a value -/
def vvOf (K : PySem.W.Frag) (k : String) : V := if k = "ValueError" then .ty "ValueError" else .ref (He.ga K (Str.ofString k))
theorem vv_cls {K : PySem.W.Frag} (k : String) : ClsV (vvOf K k) (cvOf K k) := by
  unfold vvOf cvOf
  split
  · exact .ty _
  · exact .own _
theorem pe_cls {X : Cx} (ok : Ok ge X) {k : String} {p : Pos} (hk : ge.xk k = true) (hg : glB X.env.scope (Str.ofString k) = true) (hn : nmB (Str.ofString k) = true) : PE X (.Name (Str.ofString k) p) (tC (vvOf X.K k)) := by
  obtain ⟨n1, n2, n3⟩ := nmB_ok hn
  rcases ok.x.xk k hk with rfl | ⟨hne, hm⟩
  · exact pe_bltn (glB_ok hg) (ok.free "ValueError" (by decide +kernel)) (u := .type "ValueError") (by decide +kernel) rfl (by decide +kernel) (by decide +kernel)
  · have e : vvOf X.K k = .ref (He.ga X.K (Str.ofString k)) := if_neg hne
    rw [e]
    exact pe_glob (glB_ok hg) hm rfl n1
theorem pa_cls {X : Cx} (ok : Ok ge X) : ∀ {cs : List String} {es : List Expr}, cs.all ge.xk = true → chkCs X.env.scope cs es = true → PA X es (fun σ H Q => Q (cs.map (vvOf X.K)) H)
  | [], [], _, _ => PA.weak pa_nil fun σ H Q q => q
  | c :: cs, .Name x p :: es, hk, h => by
    simp only [List.all_cons, Bool.and_eq_true] at hk
    simp only [chkCs, Bool.and_eq_true, decide_eq_true_eq] at h
    obtain ⟨⟨⟨rfl, h1⟩, h2⟩, h3⟩ := h
    exact PA.weak (pa_cons (pe_cls ok hk.1 h1 h2) (pa_cls ok hk.2 h3) (star_good rfl)) fun σ H Q q => q
  | [], _ :: _, _, h => by cases h
  | _ :: _, [], _, h => by cases h
  | _ :: _, .Constant _ _ _ :: _, _, h => by cases h
  | c :: cs, e :: es, hk, h => by
    cases e with
    | Name x p =>
      simp only [List.all_cons, Bool.and_eq_true] at hk
      simp only [chkCs, Bool.and_eq_true, decide_eq_true_eq] at h
      obtain ⟨⟨⟨rfl, h1⟩, h2⟩, h3⟩ := h
      exact PA.weak (pa_cons (pe_cls ok hk.1 h1 h2) (pa_cls ok hk.2 h3) (star_good rfl)) fun σ H Q q => q
    | _ => cases h
theorem pair_cls {K : PySem.W.Frag} : ∀ cs : List String, Paired ClsV (cs.map (vvOf K)) (cs.map (cvOf K))
  | [] => .nil
  | c :: cs => .cons (vv_cls c) (pair_cls cs)
theorem kit_any {K : PySem.W.Frag} {t : Value} {f : String → Bool} : ∀ {cs : List String}, (∀ c ∈ cs, PySem.W.kitOne K t (cvOf K c) = some (f c)) → PySem.W.kitAny K t (cs.map (cvOf K)) = some (cs.any f)
  | [], _ => kitAny_nil
  | c :: cs, h => by
    have h1 := h c List.mem_cons_self
    have h2 := kit_any (cs := cs) fun x hx => h x (List.mem_cons_of_mem _ hx)
    refine kitAny_cons h1 (fun e => ?_) (fun e => ?_)
    · rw [h2, List.any_cons, e, Bool.false_or]
    · rw [List.any_cons, e, Bool.true_or]
theorem e_isX {a : CE} {one : Bool} {cs : List String} (I_a : IHE ge cf a) : ∀ (X : Cx) (W : WT) (e : Expr), Ok ge X → CallsM ge cf X W → chkE X.N X.env.scope (.isX a one cs) e = true → PE X e (tD X.K W (ev ge cf (.isX a one cs))) := by
  intro X W e0 ok cl h
  obtain ⟨x, p, y, z, pos, rfl⟩ := iv_isX h
  simp only [chkE, Bool.and_eq_true, decide_eq_true_eq] at h
  obtain ⟨⟨⟨rfl, h1⟩, h5⟩, h6⟩ := h
  have hy := I_a.e X W y ok cl h5
  have hm := ok.free "isinstance" (by decide +kernel)
  have gy := good_of h5
  have gz : good z = true := by
    unfold chkC at h6
    cases one with
    | true =>
      simp only at h6
      split at h6
      · rfl
      · cases h6
    | false =>
      simp only at h6
      split at h6
      · rfl
      · cases h6
  by_cases hk : cs.all ge.xk = true
  case neg =>
    refine PE.weak (t := fun _ _ _ => False) ⟨fun _ _ _ _ _ _ z => z.elim⟩ fun σ H Q ⟨φ, τ, st, rs, sim, post⟩ => ?_
    have post : Post X.K (RV X.K) (W σ) φ H (gd (cs.all ge.xk = true) ((ev ge cf a τ st).bind fun x st => isXR ge x cs st)) Q := post
    unfold gd at post
    rw [if_neg hk] at post
    exact post
  have eq : ∀ τ st, ev ge cf (.isX a one cs) τ st = (ev ge cf a τ st).bind fun x st => isXR ge x cs st := fun τ st => gd_pos hk
  have hks := List.all_eq_true.mp hk
  -- the value
  have val : ∀ {φ : Wd} {H : Hp} {st : Store} {v : V} {x : D} {Wq : Wd → Hp → Store → D → Prop} {Q : VK}, Sim X.K φ H st → RepV X.K φ H v x → Post X.K (RV X.K) Wq φ H (isXR ge x cs st) Q → ∃ (t : Value) (f : String → Bool), (∀ H' : Hp, (∀ p o, H p = some o → H' p = some o) → TyE X.K H' v t) ∧ (∀ c ∈ cs, PySem.W.kitOne X.K t (cvOf X.K c) = some (f c)) ∧ (∀ φ' H', Ext X.K φ H φ' H' → Sim X.K φ' H' st → Q (.bl (cs.any f)) H') := by
    intro φ H st v x Wq Q s rv post
    cases rv with
    | non =>
      refine ⟨.type "NoneType", fun _ => false, fun _ _ => .base (.base .non), fun c hc => ok.x.non c (hks c hc), fun φ' H' e s' => ?_⟩
      have e0 : cs.any (fun _ => false) = false := by
        rw [List.any_eq_false]; intro _ _; exact Bool.false_ne_true
      rw [e0]
      exact post φ' H' _ e s' (.bl _)
    | @exc p c h1 h2 =>
      obtain ⟨hx, post⟩ := gd_ok (show Post X.K (RV X.K) Wq φ H (gd (ge.xc c = true) (.ok (.bl (cs.any fun k => ge.sub c k)) st)) Q from post)
      exact ⟨_, fun k => ge.sub c k, fun H' hH => .exc (hH _ _ h1) (ok.x.xc c hx).is, fun k hk => ok.x.kit c k hx (hks k hk), fun φ' H' e s' => post φ' H' _ e s' (.bl _)⟩
    | _ => exact False.elim post
  cases one with
  | true =>
    simp only [chkC] at h6
    split at h6
    · rename_i c x' p'
      simp only [Bool.and_eq_true, decide_eq_true_eq] at h6
      obtain ⟨⟨rfl, h7⟩, h8⟩ := h6
      refine PE.weak (pe_callB call_isiE (glB_ok h1) hm (by decide +kernel) (pa_cons hy (pa_cons (pe_cls ok (hks c List.mem_cons_self) h7 h8) pa_nil) (star_good gy)) (by decide +kernel) (by decide +kernel) (star_good gy) rfl) fun σ H Q ⟨φ, τ, st, rs, sim, post⟩ => ?_
      rw [eq] at post
      refine tR.bind (f := ev ge cf a) (g := fun τ x st => isXR ge x [c] st) ⟨φ, τ, st, rs, sim, post⟩ fun φ τ x st v H1 rs s rv post => ?_
      obtain ⟨t, f, t1, t2, t3⟩ := val s rv post
      refine ⟨v, _, t, _, f c, rfl, vv_cls c, t1 _ (fun _ _ z => z), t2 c List.mem_cons_self, ?_⟩
      have := t3 φ H1 Ext.refl s
      simpa using this
    · cases h6
  | false =>
    simp only [chkC] at h6
    split at h6
    · rename_i es k' p'
      simp only [Bool.and_eq_true, decide_eq_true_eq] at h6
      obtain ⟨hl, h6⟩ := h6
      refine PE.weak (pe_callB call_isiTE (glB_ok h1) hm (by decide +kernel) (pa_cons hy (pa_cons (pe_tup (pa_cls ok hk h6)) pa_nil) (star_good gy)) (by decide +kernel) (by decide +kernel) (star_good gy) rfl) fun σ H Q ⟨φ, τ, st, rs, sim, post⟩ => ?_
      rw [eq] at post
      refine tR.bind (f := ev ge cf a) (g := fun τ x st => isXR ge x cs st) ⟨φ, τ, st, rs, sim, post⟩ fun φ τ x st v H1 rs s rv post => ?_
      obtain ⟨t, f, t1, t2, t3⟩ := val s rv post
      refine ⟨?_, fun tp hn => ?_⟩
      · rw [List.length_map, sizeLine_eq]; omega
      exact ⟨v, tp, _, t, _, cs.any f, rfl, upd_same, pair_cls cs, t1 _ (fun p o z => kept_new hn z), kit_any t2, t3 φ _ (Ext.fresh hn) (s.new hn)⟩
    · cases h6
theorem l_disp {es : CEs} (I_es : IHEs ge cf es) : ∀ (X : Cx) (W : WT) (e : Expr), Ok ge X → CallsM ge cf X W → chkL X.N X.env.scope (.disp es) e = true → PE X e (tO X.K W (evl ge cf (.disp es))) := by
  intro X W e0 ok cl h
  obtain ⟨xs, p, rfl⟩ := iv_disp h
  refine PE.weak (pe_lst (I_es.e X W xs ok cl h)) fun σ H Q ⟨φ, τ, st, rs, sim, post⟩ => ?_
  have post : PostO X.K (W σ) φ H ((evs ge cf es τ st).bind fun xs st => gd (xs.length ≤ lineN) (.ok xs st)) Q := post
  refine ⟨φ, τ, st, rs, sim, post.bind fun x st2 φ2 H2 w e s2 rw' p => ?_⟩
  obtain ⟨hz, p⟩ := gdO p
  exact ⟨by rw [rw'.length, ← line_eq]; exact hz, okO p s2 rw'⟩

theorem l_comp {t : List Nat} {one : Bool} {it : CI} {c : CO} {b : CE} (I_it : IHI ge cf it) (I_c : IHO ge cf c) (I_b : IHE ge cf b) : ∀ (X : Cx) (W : WT) (e : Expr), Ok ge X → CallsM ge cf X W → chkL X.N X.env.scope (.comp t one it c b) e = true → PE X e (tO X.K W (evl ge cf (.comp t one it c b))) := by
  intro X W e0 ok cl h
  obtain ⟨elt, tg, iter, ifs, k, scope, pos, rfl⟩ := iv_comp h
  simp only [chkL, Bool.and_eq_true, decide_eq_true_eq] at h
  obtain ⟨⟨⟨⟨⟨rfl, h1⟩, h2⟩, h3⟩, h4⟩, h5⟩ := h
  obtain ⟨g, tt, te, p1, p2, p3, p4, rd⟩ := lcO ok.calm ok.nd (pos := pos) h1 h2 (I_it.i X W tg iter ok cl h3).1 (fun s H C cs fp => I_c.f (X.blk s H scope (compEnvC scope cs C X.env) fp) noWT ifs (ok.blk _ _ _ _ _) (cl.blk _ _ _ _ _) h4)
    (fun s H C cs fp => I_b.e (X.blk s H scope (compEnvC scope cs C X.env) fp) noWT elt (ok.blk _ _ _ _ _) (cl.blk _ _ _ _ _) h5)
  exact PE.weak (pe_lc ok.calm ok.nd p1 (blkOk_by h1) p2 p3 p4 (I_it.i X W tg iter ok cl h3).2) rd

theorem l_listOf {c : CE} (I_c : IHE ge cf c) : ∀ (X : Cx) (W : WT) (e : Expr), Ok ge X → CallsM ge cf X W → chkL X.N X.env.scope (.listOf c) e = true → PE X e (tO X.K W (evl ge cf (.listOf c))) := by
  intro X W e0 ok cl h
  obtain ⟨x, p, y, pos, rfl⟩ := iv_listOf h
  simp only [chkL, Bool.and_eq_true, decide_eq_true_eq] at h
  obtain ⟨⟨rfl, h1⟩, h2⟩ := h
  have gy := good_of h2
  refine PE.weak (pe_callTy call_list_of (glB_ok h1) (ok.free _ (by decide +kernel)) (by decide +kernel) (pa_cons (I_c.e X W y ok cl h2) pa_nil (star_good gy)) (by decide +kernel) (by decide +kernel) (star_good gy) rfl) fun σ H Q ⟨φ, τ, st, rs, sim, post⟩ => ?_
  have post : PostO X.K (W σ) φ H ((ev ge cf c τ st).bind fun x st => match items st x with | some xs => .ok xs st | none => .err) Q := post
  refine ⟨φ, τ, st, rs, sim, post.bind fun x st2 φ2 H2 w e s2 rw' p => ?_⟩
  cases ei : items st2 x with
  | none => rw [ei] at p; exact p.elim
  | some xs =>
    rw [ei] at p
    obtain ⟨q, vs, rfl, hq, rq⟩ := items_at s2 rw' ei
    refine ⟨q, vs, rfl, ?_, okO p s2 rq⟩
    rcases hq with hq | hq
    · exact .inl hq
    · exact .inr hq

theorem l_rep {es : CEs} {n : CE} (I_es : IHEs ge cf es) (I_n : IHE ge cf n) : ∀ (X : Cx) (W : WT) (e : Expr), Ok ge X → CallsM ge cf X W → chkL X.N X.env.scope (.rep es n) e = true → PE X e (tO X.K W (evl ge cf (.rep es n))) := by
  intro X W e0 ok cl h
  obtain ⟨xs, lp, r, p, rfl⟩ := iv_rep h
  simp only [chkL, Bool.and_eq_true] at h
  refine PE.weak (pe_op rep_lists (pe_lst (pos := lp) (I_es.e X W xs ok cl h.1)) (I_n.e X W r ok cl h.2)) fun σ H Q ⟨φ, τ, st, rs, sim, post⟩ => ?_
  have post : PostO X.K (W σ) φ H ((evs ge cf es τ st).bind fun xs st => gd (xs.length ≤ lineN) ((ev ge cf n τ st).bind fun y st => match y with
    | .int k => gd (xs.length * k.toNat ≤ lineN ∧ 0 ≤ k ∧ k ≤ lineN) (.ok (reps xs k) st)
    | _ => .err)) Q := post
  refine ⟨φ, τ, st, rs, sim, post.bind fun x st2 φ2 H2 w e s2 rw' p => ?_⟩
  obtain ⟨hz, p⟩ := gdO p
  refine ⟨by rw [rw'.length, ← line_eq]; exact hz, fun q hq => ?_⟩
  have e3 : Ext X.K φ2 H2 φ2 (upd H2 q (.lst w)) := Ext.fresh hq
  refine ⟨φ2, τ, st2, (rs.ext e).ext e3, s2.new hq, (p.ext e3).bind fun y st4 φ4 H4 w4 e4 s4 rw4 p4 => ?_⟩
  cases rw4 with
  | int k =>
    obtain ⟨⟨c1, c2, c3⟩, p4⟩ := gdO p4
    have hq4 : H4 q = some (.lst w) := e4.keep q _ upd_same (s2.fresh hq)
    rw [line_eq] at c1 c3
    exact ⟨q, k, w, rfl, rfl, .inl hq4, c2, c3, by rw [rw'.length]; exact c1, okO p4 s4 (((rw'.ext e3).ext e4).replicate _)⟩
  | _ => exact p4.elim

theorem l_cat {a b : CE} (I_a : IHE ge cf a) (I_b : IHE ge cf b) : ∀ (X : Cx) (W : WT) (e : Expr), Ok ge X → CallsM ge cf X W → chkL X.N X.env.scope (.cat a b) e = true → PE X e (tO X.K W (evl ge cf (.cat a b))) := by
  intro X W e0 ok cl h
  obtain ⟨l, o, r, p, rfl⟩ := iv_cat h
  simp only [chkL, Bool.and_eq_true, decide_eq_true_eq] at h
  obtain ⟨⟨rfl, h1⟩, h2⟩ := h
  refine PE.weak (pe_op cat_lists (I_a.e X W l ok cl h1) (I_b.e X W r ok cl h2)) fun σ H Q ⟨φ, τ, st, rs, sim, post⟩ => ?_
  have post : PostO X.K (W σ) φ H ((ev ge cf a τ st).bind fun x st => (ev ge cf b τ st).bind fun y st => catR st x y) Q := post
  refine ⟨φ, τ, st, rs, sim, post.bind fun x st2 φ2 H2 w e s2 rw' p => ?_⟩
  refine ⟨φ2, τ, st2, rs.ext e, s2, p.bind fun y st4 φ4 H4 w4 e4 s4 rw4 p4 => ?_⟩
  unfold catR at p4
  cases ea : derefB st4 x with
  | lst xs =>
    cases eb : derefB st4 y with
    | lst ys =>
      rw [ea, eb] at p4
      obtain ⟨hz, p4⟩ := gdO p4
      obtain ⟨q1, vs, rfl, g1, r1⟩ := list_atB s4 (rw'.ext e4) ea
      obtain ⟨q2, vs2, rfl, g2, r2⟩ := list_atB s4 rw4 eb
      exact ⟨q1, q2, vs, vs2, rfl, rfl, g1, g2, by rw [r1.length, r2.length, ← line_eq]; exact hz, okO p4 s4 (r1.append r2)⟩
    | _ => rw [ea, eb] at p4; exact p4.elim
  | _ => rw [ea] at p4; exact p4.elim

theorem l_range1 {a : CE} (I_a : IHE ge cf a) : ∀ (X : Cx) (W : WT) (e : Expr), Ok ge X → CallsM ge cf X W → chkL X.N X.env.scope (.range1 a) e = true → PE X e (tO X.K W (evl ge cf (.range1 a))) := by
  intro X W e0 ok cl h
  obtain ⟨x, p, y, p2, z, p3, pos, rfl⟩ := iv_lr1 h
  simp only [chkL, Bool.and_eq_true, decide_eq_true_eq] at h
  obtain ⟨⟨⟨⟨rfl, h1⟩, rfl⟩, h2⟩, h3⟩ := h
  refine PE.weak (pe_listRg ok.calm (glB_ok h1) (ok.free _ (by decide +kernel)) (prg_1 (glB_ok h2) (ok.free _ (by decide +kernel)) (I_a.e X W z ok cl h3) (star_good (good_of h3)))) fun σ H Q ⟨φ, τ, st, rs, sim, post⟩ => ?_
  have post : PostO X.K (W σ) φ H ((ev ge cf a τ st).bind fun x st => match x with | .int i => gd (i ≤ lineN ∧ -(lineN : Int) ≤ i) (.ok (rng 0 i) st) | _ => .err) Q := post
  refine ⟨φ, τ, st, rs, sim, post.bind fun x st2 φ2 H2 w e s2 rw' p => ?_⟩
  cases rw' with
  | int i =>
    obtain ⟨⟨c1, c2⟩, p⟩ := gdO p
    have hl : lineN = 16777216 := rfl
    refine ⟨i, rfl, ⟨by omega, by omega, by omega, by omega, by omega⟩, ?_⟩
    have r : RepVs X.K φ2 H2 (rgV 0 i) (rng 0 i) := by
      have := RepVs.ints (K := X.K) (φ := φ2) (H := H2) ((List.range (i - 0).toNat).map fun (j : Nat) => (0 : Int) + (j : Int))
      rw [List.map_map, List.map_map] at this
      exact this
    exact okO p s2 r
  | _ => exact p.elim

theorem l_range2 {a : CE} {b : CE} (I_a : IHE ge cf a) (I_b : IHE ge cf b) : ∀ (X : Cx) (W : WT) (e : Expr), Ok ge X → CallsM ge cf X W → chkL X.N X.env.scope (.range2 a b) e = true → PE X e (tO X.K W (evl ge cf (.range2 a b))) := by
  intro X W e0 ok cl h
  obtain ⟨x, p, y, p2, z, w, p3, pos, rfl⟩ := iv_lr2 h
  simp only [chkL, Bool.and_eq_true, decide_eq_true_eq] at h
  obtain ⟨⟨⟨⟨⟨rfl, h1⟩, rfl⟩, h2⟩, h3⟩, h4⟩ := h
  have gz := good_of h3
  have gw := good_of h4
  refine PE.weak (pe_listRg ok.calm (glB_ok h1) (ok.free _ (by decide +kernel)) (prg_2 (glB_ok h2) (ok.free _ (by decide +kernel)) (I_a.e X W z ok cl h3) (I_b.e X W w ok cl h4) (star_good gz) (star_good gw)
    (star_all fun x hx => by rw [List.mem_singleton.mp hx]; exact gw))) fun σ H Q ⟨φ, τ, st, rs, sim, post⟩ => ?_
  have post : PostO X.K (W σ) φ H ((ev ge cf a τ st).bind fun x st => (ev ge cf b τ st).bind fun y st => match x, y with
    | .int i, .int j => gd (i ≤ lineN ∧ -(lineN : Int) ≤ i ∧ j ≤ lineN ∧ -(lineN : Int) ≤ j ∧ j - i ≤ lineN) (.ok (rng i j) st)
    | _, _ => .err) Q := post
  refine ⟨φ, τ, st, rs, sim, post.bind fun x st2 φ2 H2 w e s2 rw' p => ?_⟩
  refine ⟨φ2, τ, st2, rs.ext e, s2, p.bind fun y st3 φ3 H3 w3 e3 s3 rw3 p3 => ?_⟩
  cases rw' with
  | int i =>
    cases rw3 with
    | int j =>
      obtain ⟨⟨c1, c2, c3, c4, c5⟩, p3⟩ := gdO p3
      have hl : lineN = 16777216 := rfl
      refine ⟨i, j, rfl, rfl, ⟨by omega, by omega, by omega, by omega, by omega⟩, ?_⟩
      have r : RepVs X.K φ3 H3 (rgV i j) (rng i j) := by
        have := RepVs.ints (K := X.K) (φ := φ3) (H := H3) ((List.range (j - i).toNat).map fun (k : Nat) => i + (k : Int))
        rw [List.map_map, List.map_map] at this
        exact this
      exact okO p3 s3 r
    | _ => exact p3.elim
  | _ => cases rw3 <;> exact p3.elim

theorem w_and {a : CE} {b : CE} (I_a : IHE ge cf a) (I_b : IHE ge cf b) : ∀ (X : Cx) (W : WT) (e : Expr), Ok ge X → CallsM ge cf X W → chkE X.N X.env.scope (.and a b) e = true → isBO e = true → PW X e (tB' X.K W (ev ge cf (.and a b))) := by
  intro X W e0 ok cl h _
  obtain ⟨x, y, rest, pos, rfl⟩ := iv_and h
  have hb : chkE X.N X.env.scope a x = true ∧ PW X (.BoolOp .And (y :: rest) pos) (tB' X.K W (ev ge cf b)) := by
    cases rest with
    | nil =>
      have h : (chkE X.N X.env.scope a x && chkE X.N X.env.scope b y) = true := h
      rw [Bool.and_eq_true] at h
      exact ⟨h.1, pw_and1 (I_b.t X W y ok cl h.2)⟩
    | cons z zs =>
      have h : (chkE X.N X.env.scope a x && chkE X.N X.env.scope b (.BoolOp .And (y :: z :: zs) pos)) = true := h
      rw [Bool.and_eq_true] at h
      exact ⟨h.1, I_b.w X W _ ok cl h.2 rfl⟩
  refine PW.weak (pw_and (I_a.t X W x ok cl hb.1) hb.2) fun σ H Q ⟨φ, τ, st, rs, s, post⟩ => ?_
  have post : Post X.K (fun _ _ (v : Bool) b => v = b) (W σ) φ H (asB ((ev ge cf a τ st).bind fun x st => match x with | .bl true => ev ge cf b τ st | .bl false => .ok (.bl false) st | _ => .err)) Q := post
  have post : Post X.K (fun _ _ (v : Bool) b => v = b) (W σ) φ H ((asB (ev ge cf a τ st)).bind fun k st => match k with | true => asB (ev ge cf b τ st) | false => .ok false st) Q := by
    cases e : ev ge cf a τ st with
    | ok d st1 =>
      rw [e] at post
      cases d with
      | bl k => cases k <;> exact post
      | _ => exact post
    | exc d st1 => rw [e] at post; exact post
    | err => rw [e] at post; exact post
  refine ⟨φ, τ, st, rs, s, post.bind fun k st1 φ1 H1 v e1 s1 rv p1 => ?_⟩
  subst rv
  cases v with
  | true => rw [if_pos rfl]; exact ⟨φ1, τ, st1, rs.ext e1, s1, p1⟩
  | false => rw [if_neg Bool.false_ne_true]; exact okB p1 s1

theorem w_or {a : CE} {b : CE} (I_a : IHE ge cf a) (I_b : IHE ge cf b) : ∀ (X : Cx) (W : WT) (e : Expr), Ok ge X → CallsM ge cf X W → chkE X.N X.env.scope (.or a b) e = true → isBO e = true → PW X e (tB' X.K W (ev ge cf (.or a b))) := by
  intro X W e0 ok cl h _
  obtain ⟨x, y, rest, pos, rfl⟩ := iv_or h
  have hb : chkE X.N X.env.scope a x = true ∧ PW X (.BoolOp .Or (y :: rest) pos) (tB' X.K W (ev ge cf b)) := by
    cases rest with
    | nil =>
      have h : (chkE X.N X.env.scope a x && chkE X.N X.env.scope b y) = true := h
      rw [Bool.and_eq_true] at h
      exact ⟨h.1, pw_or1 (I_b.t X W y ok cl h.2)⟩
    | cons z zs =>
      have h : (chkE X.N X.env.scope a x && chkE X.N X.env.scope b (.BoolOp .Or (y :: z :: zs) pos)) = true := h
      rw [Bool.and_eq_true] at h
      exact ⟨h.1, I_b.w X W _ ok cl h.2 rfl⟩
  refine PW.weak (pw_or (I_a.t X W x ok cl hb.1) hb.2) fun σ H Q ⟨φ, τ, st, rs, s, post⟩ => ?_
  have post : Post X.K (fun _ _ (v : Bool) b => v = b) (W σ) φ H (asB ((ev ge cf a τ st).bind fun x st => match x with | .bl true => .ok (.bl true) st | .bl false => ev ge cf b τ st | _ => .err)) Q := post
  have post : Post X.K (fun _ _ (v : Bool) b => v = b) (W σ) φ H ((asB (ev ge cf a τ st)).bind fun k st => match k with | true => .ok true st | false => asB (ev ge cf b τ st)) Q := by
    cases e : ev ge cf a τ st with
    | ok d st1 =>
      rw [e] at post
      cases d with
      | bl k => cases k <;> exact post
      | _ => exact post
    | exc d st1 => rw [e] at post; exact post
    | err => rw [e] at post; exact post
  refine ⟨φ, τ, st, rs, s, post.bind fun k st1 φ1 H1 v e1 s1 rv p1 => ?_⟩
  subst rv
  cases v with
  | true => rw [if_pos rfl]; exact okB p1 s1
  | false => rw [if_neg Bool.false_ne_true]; exact ⟨φ1, τ, st1, rs.ext e1, s1, p1⟩

theorem t_not {a : CE} (I_a : IHE ge cf a) : ∀ (X : Cx) (W : WT) (e : Expr), Ok ge X → CallsM ge cf X W → chkE X.N X.env.scope (.not a) e = true → PT X e (tB' X.K W (ev ge cf (.not a))) := by
  intro X W e0 ok cl h
  obtain ⟨x, p, rfl⟩ := iv_not h
  refine PT.weak (pt_not (I_a.t X W x ok cl h)) fun σ H Q ⟨φ, τ, st, rs, s, post⟩ => ?_
  refine ⟨φ, τ, st, rs, s, ?_⟩
  have post : Post X.K (fun _ _ (v : Bool) b => v = b) (W σ) φ H (asB ((ev ge cf a τ st).bind fun x st => match x with | .bl b => .ok (.bl (!b)) st | _ => .err)) Q := post
  show Post X.K _ (W σ) φ H (asB (ev ge cf a τ st)) _
  cases e : ev ge cf a τ st with
  | ok d st1 =>
    rw [e] at post
    cases d with
    | bl b => exact fun φ' H' v e' s' hv => by cases hv; exact post φ' H' _ e' s' rfl
    | _ => exact post
  | exc d st1 => rw [e] at post; exact post
  | err => rw [e] at post; exact post

theorem t_cmp {op : CmpOp} {a : CE} {b : CE} (I_a : IHE ge cf a) (I_b : IHE ge cf b) : ∀ (X : Cx) (W : WT) (e : Expr), Ok ge X → CallsM ge cf X W → chkE X.N X.env.scope (.cmp op a b) e = true → PT X e (tB' X.K W (ev ge cf (.cmp op a b))) := by
  intro X W e0 ok cl h
  obtain ⟨l, o, r, p, rfl⟩ := iv_cmp h
  simp only [chkE, Bool.and_eq_true, decide_eq_true_eq] at h
  obtain ⟨⟨rfl, h1⟩, h2⟩ := h
  refine PT.weak (pt_cmpR (cmpAny ok.room) (I_a.e X W l ok cl h1) (I_b.e X W r ok cl h2) (mark_good (good_of h2))) fun σ H Q ⟨φ, τ, st, rs, s, post⟩ => ?_
  have post : Post X.K (fun _ _ (v : Bool) b => v = b) (W σ) φ H (asB ((ev ge cf a τ st).bind fun x st => (ev ge cf b τ st).bind fun y st => (cmpB o x y st).bind fun b st => .ok (.bl b) st)) Q := post
  have post : Post X.K (fun _ _ (v : Bool) b => v = b) (W σ) φ H ((ev ge cf a τ st).bind fun x st => (ev ge cf b τ st).bind fun y st => cmpB o x y st) Q := by
    cases e1 : ev ge cf a τ st with
    | ok x st1 =>
      rw [e1] at post
      simp only [Res.bind_ok] at post ⊢
      cases e2 : ev ge cf b τ st1 with
      | ok y st2 =>
        rw [e2] at post
        simp only [Res.bind_ok] at post ⊢
        cases e3 : cmpB o x y st2 with
        | ok z st3 => rw [e3] at post; exact post
        | exc d st3 => rw [e3] at post; exact post
        | err => rw [e3] at post; exact post
      | exc d st2 => rw [e2] at post; exact post
      | err => rw [e2] at post; exact post
    | exc d st1 => rw [e1] at post; exact post
    | err => rw [e1] at post; exact post
  refine ⟨φ, τ, st, rs, s, post.bind fun x st1 φ1 H1 v e1 s1 rv p1 => ?_⟩
  exact ⟨φ1, τ, st1, rs.ext e1, s1, p1.bind fun y st2 φ2 H2 w e s2 rw' p => ⟨φ2, st2, x, y, s2, rv.ext e, rw', fun_cmp cmpB_nox p⟩⟩

theorem t_chain {op : CmpOp} {op' : CmpOp} {a : CE} {b : CE} {c : CE} (I_a : IHE ge cf a) (I_b : IHE ge cf b) (I_c : IHE ge cf c) : ∀ (X : Cx) (W : WT) (e : Expr), Ok ge X → CallsM ge cf X W → chkE X.N X.env.scope (.chain op op' a b c) e = true → PT X e (tB' X.K W (ev ge cf (.chain op op' a b c))) := by
  intro X W e0 ok cl h
  obtain ⟨l, o, o', m, r, p, rfl⟩ := iv_chain h
  simp only [chkE, Bool.and_eq_true, decide_eq_true_eq] at h
  obtain ⟨⟨⟨⟨rfl, rfl⟩, h1⟩, h2⟩, h3⟩ := h
  refine PT.weak (pt_chain (cmpAny ok.room) (cmpAny ok.room) (I_a.e X W l ok cl h1) (I_b.e X W m ok cl h2) (I_c.e X W r ok cl h3) (last_good (good_of h3))) fun σ H Q ⟨φ, τ, st, rs, s, post⟩ => ?_
  have post : Post X.K (fun _ _ (v : Bool) b => v = b) (W σ) φ H (asB ((ev ge cf a τ st).bind fun x st => (ev ge cf b τ st).bind fun y st => (cmpB o x y st).bind fun k st => match k with
    | true => (ev ge cf c τ st).bind fun z st => (cmpB o' y z st).bind fun b st => .ok (.bl b) st
    | false => .ok (.bl false) st)) Q := post
  have post : Post X.K (RV X.K) (W σ) φ H ((ev ge cf a τ st).bind fun x st => (ev ge cf b τ st).bind fun y st => (cmpB o x y st).bind fun k st => match k with
    | true => (ev ge cf c τ st).bind fun z st => (cmpB o' y z st).bind fun b st => .ok (.bl b) st
    | false => .ok (.bl false) st) (fun x H' => ∃ k, x = .bl k ∧ Q k H') := test_val post
  refine ⟨φ, τ, st, rs, s, post.bind fun x st1 φ1 H1 v e1 s1 rv p1 => ?_⟩
  refine ⟨φ1, τ, st1, rs.ext e1, s1, p1.bind fun y st2 φ2 H2 w e s2 rw' p => ⟨φ2, st2, x, y, s2, rv.ext e, rw', ?_⟩⟩
  refine Post.nox (W := W σ) (p.bind fun k st3 φ3 H3 z e3 s3 rz p3 => ⟨k, rz, ?_⟩) cmpB_nox
  cases k with
  | true => rw [if_pos rfl]; exact ⟨φ3, τ, st3, ((rs.ext e1).ext e).ext e3, s3, p3.bind fun z st4 φ4 H4 w4 e4 s4 rw4 p4 => ⟨φ4, st4, y, z, s4, (rw'.ext e3).ext e4, rw4, cmpPost cmpB_nox p4⟩⟩
  | false => rw [if_neg Bool.false_ne_true]; exact ok_here p3 s3 (.bl _)

theorem t_ite {c : CE} {a : CE} {b : CE} (I_c : IHE ge cf c) (I_a : IHE ge cf a) (I_b : IHE ge cf b) : ∀ (X : Cx) (W : WT) (e : Expr), Ok ge X → CallsM ge cf X W → chkE X.N X.env.scope (.ite c a b) e = true → PT X e (tB' X.K W (ev ge cf (.ite c a b))) := by
  intro X W e0 ok cl h
  obtain ⟨t, x, y, p, rfl⟩ := iv_ite h
  simp only [chkE, Bool.and_eq_true] at h
  have h1 := I_c.t X W t ok cl h.1.1
  have h2 := I_a.t X W x ok cl h.1.2
  have h3 := I_b.t X W y ok cl h.2
  refine ⟨fun pins s σ H Q I ⟨φ, τ, st, rs, sim, post⟩ => ?_⟩
  have post : Post X.K (fun _ _ (v : Bool) b => v = b) (W σ) φ H ((asB (ev ge cf c τ st)).bind fun k st => match k with | true => asB (ev ge cf a τ st) | false => asB (ev ge cf b τ st)) Q := by
    have post : Post X.K (fun _ _ (v : Bool) b => v = b) (W σ) φ H (asB ((ev ge cf c τ st).bind fun x st => match x with | .bl true => ev ge cf a τ st | .bl false => ev ge cf b τ st | _ => .err)) Q := post
    cases e : ev ge cf c τ st with
    | ok d st1 =>
      rw [e] at post
      cases d with
      | bl k => cases k <;> exact post
      | _ => exact post
    | exc d st1 => rw [e] at post; exact post
    | err => rw [e] at post; exact post
  refine isTrue_IfExp (thn (h1.run pins s σ H (fun k H1 => if k = true then tB' X.K W (ev ge cf a) σ H1 Q else tB' X.K W (ev ge cf b) σ H1 Q) I ⟨φ, τ, st, rs, sim, post.bind fun k st1 φ1 H1 v e1 s1 rv p1 => ?_⟩) fun d s1 ⟨H1, I1, q1⟩ => ?_)
  · subst rv
    cases v with
    | true => rw [if_pos rfl]; exact ⟨φ1, τ, st1, rs.ext e1, s1, p1⟩
    | false => rw [if_neg Bool.false_ne_true]; exact ⟨φ1, τ, st1, rs.ext e1, s1, p1⟩
  · cases d with
    | true => rw [if_pos rfl] at q1; exact h2.run pins s1 σ H1 Q I1 q1
    | false => rw [if_neg Bool.false_ne_true] at q1; exact h3.run pins s1 σ H1 Q I1 q1

theorem t_neg {a : CE} (I_a : IHE ge cf a) : ∀ (X : Cx) (W : WT) (e : Expr), Ok ge X → CallsM ge cf X W → chkE X.N X.env.scope (.neg a) e = true → PT X e (tB' X.K W (ev ge cf (.neg a))) := by
  intro X W e0 ok cl h
  refine ⟨fun pins s σ H Q I ⟨φ, τ, st, rs, sim, post⟩ => ?_⟩
  have post : Post X.K (fun _ _ (v : Bool) b => v = b) (W σ) φ H (asB ((ev ge cf a τ st).bind fun x st => match x with | .int i => .ok (.int (-i)) st | _ => .err)) Q := post
  obtain ⟨x, p, rfl⟩ := iv_neg h
  have key : ∀ r : Res D, Post X.K (fun _ _ (v : Bool) b => v = b) (W σ) φ H (asB (r.bind fun x st => match x with | .int i => .ok (.int (-i)) st | _ => .err)) Q → (∃ d st1, r = .exc d st1) := by
    intro r
    cases r with
    | ok d st1 => cases d <;> exact False.elim
    | exc d st1 => exact fun _ => ⟨d, st1, rfl⟩
    | err => exact False.elim
  have hx := I_a.e X W x ok cl h
  obtain ⟨d, st1, e⟩ := key _ post
  rw [e] at post
  have hh : tD X.K W (ev ge cf a) σ H (fun _ _ => False) := ⟨φ, τ, st, rs, sim, by rw [e]; exact post⟩
  refine isTrue_plain (UnaryOp_ (thn (hx.run pins s σ H _ I hh) fun u s1 ⟨_, _, _, _, z⟩ => z.elim)) rfl

theorem t_inv {a : CE} (I_a : IHE ge cf a) : ∀ (X : Cx) (W : WT) (e : Expr), Ok ge X → CallsM ge cf X W → chkE X.N X.env.scope (.inv a) e = true → PT X e (tB' X.K W (ev ge cf (.inv a))) := by
  intro X W e0 ok cl h
  refine ⟨fun pins s σ H Q I ⟨φ, τ, st, rs, sim, post⟩ => ?_⟩
  have post : Post X.K (fun _ _ (v : Bool) b => v = b) (W σ) φ H (asB ((ev ge cf a τ st).bind fun x st => match x with | .int i => .ok (.int (-i - 1)) st | _ => .err)) Q := post
  obtain ⟨x, p, rfl⟩ := iv_inv h
  have key : ∀ r : Res D, Post X.K (fun _ _ (v : Bool) b => v = b) (W σ) φ H (asB (r.bind fun x st => match x with | .int i => .ok (.int (-i - 1)) st | _ => .err)) Q → (∃ d st1, r = .exc d st1) := by
    intro r
    cases r with
    | ok d st1 => cases d <;> exact False.elim
    | exc d st1 => exact fun _ => ⟨d, st1, rfl⟩
    | err => exact False.elim
  have hx := I_a.e X W x ok cl h
  obtain ⟨d, st1, e⟩ := key _ post
  rw [e] at post
  have hh : tD X.K W (ev ge cf a) σ H (fun _ _ => False) := ⟨φ, τ, st, rs, sim, by rw [e]; exact post⟩
  refine isTrue_plain (UnaryOp_ (thn (hx.run pins s σ H _ I hh) fun u s1 ⟨_, _, _, _, z⟩ => z.elim)) rfl

theorem ih_var {i : Nat}  : IHE ge cf (.var i) :=
  ⟨e_var , fun X W e0 ok cl h => asTest (e_var X W e0 ok cl h) (by obtain ⟨x, p, rfl⟩ := iv_name1 h; exact test_plain rfl), fun X W e0 ok cl h hb => by obtain ⟨x, p, rfl⟩ := iv_name1 h; cases hb⟩

theorem ih_non   : IHE ge cf (.non) :=
  ⟨e_non , fun X W e0 ok cl h => asTest (e_non X W e0 ok cl h) (by obtain ⟨k, p, rfl⟩ := iv_non h; exact test_plain rfl), fun X W e0 ok cl h hb => by obtain ⟨k, p, rfl⟩ := iv_non h; cases hb⟩

theorem ih_bl {b : Bool}  : IHE ge cf (.bl b) :=
  ⟨e_bl , fun X W e0 ok cl h => asTest (e_bl X W e0 ok cl h) (by obtain ⟨c, k, p, rfl⟩ := iv_bl h; exact test_plain rfl), fun X W e0 ok cl h hb => by obtain ⟨c, k, p, rfl⟩ := iv_bl h; cases hb⟩

theorem ih_int {i : Int}  : IHE ge cf (.int i) :=
  ⟨e_int , fun X W e0 ok cl h => asTest (e_int X W e0 ok cl h) (by obtain ⟨c, k, p, rfl⟩ := iv_int h; exact test_plain rfl), fun X W e0 ok cl h hb => by obtain ⟨c, k, p, rfl⟩ := iv_int h; cases hb⟩

theorem ih_str {z : List Nat}  : IHE ge cf (.str z) :=
  ⟨e_str , fun X W e0 ok cl h => asTest (e_str X W e0 ok cl h) (by obtain ⟨c, k, p, rfl⟩ := iv_str h; exact test_plain rfl), fun X W e0 ok cl h hb => by obtain ⟨c, k, p, rfl⟩ := iv_str h; cases hb⟩

theorem ih_glob {x : String}  : IHE ge cf (.glob x) :=
  ⟨e_glob , fun X W e0 ok cl h => asTest (e_glob X W e0 ok cl h) (by obtain ⟨x, p, rfl⟩ := iv_glob h; exact test_plain rfl), fun X W e0 ok cl h hb => by obtain ⟨x, p, rfl⟩ := iv_glob h; cases hb⟩

theorem ih_bin {op : Operator} {a : CE} {b : CE} (I_a : IHE ge cf a) (I_b : IHE ge cf b) : IHE ge cf (.bin op a b) :=
  ⟨e_bin I_a I_b, fun X W e0 ok cl h => asTest (e_bin I_a I_b X W e0 ok cl h) (by obtain ⟨l, o, r, p, rfl⟩ := iv_bin h; exact test_plain rfl), fun X W e0 ok cl h hb => by obtain ⟨l, o, r, p, rfl⟩ := iv_bin h; cases hb⟩

theorem ih_neg {a : CE} (I_a : IHE ge cf a) : IHE ge cf (.neg a) :=
  ⟨e_neg I_a, t_neg I_a, fun X W e0 ok cl h hb => by obtain ⟨x, p, rfl⟩ := iv_neg h; cases hb⟩

theorem ih_inv {a : CE} (I_a : IHE ge cf a) : IHE ge cf (.inv a) :=
  ⟨e_inv I_a, t_inv I_a, fun X W e0 ok cl h hb => by obtain ⟨x, p, rfl⟩ := iv_inv h; cases hb⟩

theorem ih_not {a : CE} (I_a : IHE ge cf a) : IHE ge cf (.not a) :=
  ⟨e_not I_a, t_not I_a, fun X W e0 ok cl h hb => by obtain ⟨x, p, rfl⟩ := iv_not h; cases hb⟩

theorem ih_and {a : CE} {b : CE} (I_a : IHE ge cf a) (I_b : IHE ge cf b) : IHE ge cf (.and a b) :=
  ⟨e_and I_a I_b, fun X W e0 ok cl h => (w_and I_a I_b X W e0 ok cl h (by obtain ⟨x, y, rest, pos, rfl⟩ := iv_and h; rfl)).pt, w_and I_a I_b⟩

theorem ih_or {a : CE} {b : CE} (I_a : IHE ge cf a) (I_b : IHE ge cf b) : IHE ge cf (.or a b) :=
  ⟨e_or I_a I_b, fun X W e0 ok cl h => (w_or I_a I_b X W e0 ok cl h (by obtain ⟨x, y, rest, pos, rfl⟩ := iv_or h; rfl)).pt, w_or I_a I_b⟩

theorem ih_ite {c : CE} {a : CE} {b : CE} (I_c : IHE ge cf c) (I_a : IHE ge cf a) (I_b : IHE ge cf b) : IHE ge cf (.ite c a b) :=
  ⟨e_ite I_c I_a I_b, t_ite I_c I_a I_b, fun X W e0 ok cl h hb => by obtain ⟨t, x, y, p, rfl⟩ := iv_ite h; cases hb⟩

theorem ih_cmp {op : CmpOp} {a : CE} {b : CE} (I_a : IHE ge cf a) (I_b : IHE ge cf b) : IHE ge cf (.cmp op a b) :=
  ⟨e_cmp I_a I_b, t_cmp I_a I_b, fun X W e0 ok cl h hb => by obtain ⟨l, o, r, p, rfl⟩ := iv_cmp h; cases hb⟩

theorem ih_chain {op : CmpOp} {op' : CmpOp} {a : CE} {b : CE} {c : CE} (I_a : IHE ge cf a) (I_b : IHE ge cf b) (I_c : IHE ge cf c) : IHE ge cf (.chain op op' a b c) :=
  ⟨e_chain I_a I_b I_c, t_chain I_a I_b I_c, fun X W e0 ok cl h hb => by obtain ⟨l, o, o', m, r, p, rfl⟩ := iv_chain h; cases hb⟩

theorem ih_tup {es : CEs} (I_es : IHEs ge cf es) : IHE ge cf (.tup es) :=
  ⟨e_tup I_es, fun X W e0 ok cl h => asTest (e_tup I_es X W e0 ok cl h) (by obtain ⟨xs, k, p, rfl⟩ := iv_tup h; exact test_plain rfl), fun X W e0 ok cl h hb => by obtain ⟨xs, k, p, rfl⟩ := iv_tup h; cases hb⟩

theorem ih_new {l : CL} (I_l : IHL ge cf l) : IHE ge cf (.new l) :=
  ⟨e_new I_l, fun X W e0 ok cl h => asTest (e_new I_l X W e0 ok cl h) (list_test h), fun X W e0 ok cl h hb => by
    have h : chkL X.N X.env.scope l e0 = true := h
    cases e0 <;> first | (cases l <;> cases h; done) | (cases hb; done)⟩

theorem ih_cell {l : CL} (I_l : IHL ge cf l) : IHE ge cf (.cell l) :=
  ⟨e_cell I_l, fun X W e0 ok cl h => asTest (e_cell I_l X W e0 ok cl h) (list_test h), fun X W e0 ok cl h hb => by
    have h : chkL X.N X.env.scope l e0 = true := h
    cases e0 <;> first | (cases l <;> cases h; done) | (cases hb; done)⟩

theorem ih_dict0 {t : Bool} : IHE ge cf (.dict0 t) :=
  ⟨e_dict0 , fun X W e0 ok cl h => asTest (e_dict0 X W e0 ok cl h) (by obtain ⟨p, rfl⟩ := iv_dict0 h; exact test_plain rfl), fun X W e0 ok cl h hb => by obtain ⟨p, rfl⟩ := iv_dict0 h; cases hb⟩

theorem ih_idx {a : CE} {i : CE} (I_a : IHE ge cf a) (I_i : IHE ge cf i) : IHE ge cf (.idx a i) :=
  ⟨e_idx I_a I_i, fun X W e0 ok cl h => asTest (e_idx I_a I_i X W e0 ok cl h) (by obtain ⟨x, y, p, rfl⟩ := iv_idx h; exact test_plain rfl), fun X W e0 ok cl h hb => by obtain ⟨x, y, p, rfl⟩ := iv_idx h; cases hb⟩

theorem ih_slice {a : CE} {lo : CO} {hi : CO} (I_a : IHE ge cf a) (I_lo : IHO ge cf lo) (I_hi : IHO ge cf hi) : IHE ge cf (.slice a lo hi) :=
  ⟨e_slice I_a I_lo I_hi, fun X W e0 ok cl h => asTest (e_slice I_a I_lo I_hi X W e0 ok cl h) (by obtain ⟨x, l, u, q, p, rfl⟩ := iv_slice h; exact test_plain rfl), fun X W e0 ok cl h hb => by obtain ⟨x, l, u, q, p, rfl⟩ := iv_slice h; cases hb⟩

theorem ih_call {f : String} {es : CEs} (I_es : IHEs ge cf es) : IHE ge cf (.call f es) :=
  ⟨e_call I_es, fun X W e0 ok cl h => asTest (e_call I_es X W e0 ok cl h) (by obtain ⟨x, p, y, ys, pos, rfl⟩ := iv_call h; exact test_plain rfl), fun X W e0 ok cl h hb => by obtain ⟨x, p, y, ys, pos, rfl⟩ := iv_call h; cases hb⟩

theorem ih_lenSet {a : CE} (I_a : IHE ge cf a) : IHE ge cf (.lenSet a) :=
  ⟨e_lenSet I_a, fun X W e0 ok cl h => asTest (e_lenSet I_a X W e0 ok cl h) (by obtain ⟨x, p, y, p2, z, p3, pos, rfl⟩ := iv_lenSet h; exact test_plain rfl), fun X W e0 ok cl h hb => by obtain ⟨x, p, y, p2, z, p3, pos, rfl⟩ := iv_lenSet h; cases hb⟩
theorem ih_tupR {a : CE} (I_a : IHE ge cf a) : IHE ge cf (.tupR a) :=
  ⟨e_tupR I_a, fun X W e0 ok cl h => asTest (e_tupR I_a X W e0 ok cl h) (by obtain ⟨x, p, y, p2, z, p3, pos, rfl⟩ := iv_tupR h; exact test_plain rfl), fun X W e0 ok cl h hb => by obtain ⟨x, p, y, p2, z, p3, pos, rfl⟩ := iv_tupR h; cases hb⟩
theorem ih_fcall {fs : List String} {i : CE} {es : CEs} (I_i : IHE ge cf i) (I_es : IHEs ge cf es) : IHE ge cf (.fcall fs i es) :=
  ⟨e_fcall I_i I_es, fun X W e0 ok cl h => asTest (e_fcall I_i I_es X W e0 ok cl h) (by obtain ⟨ls, q0, z, r0, y, ys, pos, rfl⟩ := iv_fcall h; exact test_plain rfl), fun X W e0 ok cl h hb => by obtain ⟨ls, q0, z, r0, y, ys, pos, rfl⟩ := iv_fcall h; cases hb⟩
theorem ih_blt {b : Blt} {es : CEs} (I_es : IHEs ge cf es) : IHE ge cf (.blt b es) :=
  ⟨e_blt I_es, fun X W e0 ok cl h => asTest (e_blt I_es X W e0 ok cl h) (by obtain ⟨x, p, y, ys, pos, rfl⟩ := iv_blt h; exact test_plain rfl), fun X W e0 ok cl h hb => by obtain ⟨x, p, y, ys, pos, rfl⟩ := iv_blt h; cases hb⟩

theorem ih_mth {m : Mth} {o : CE} {es : CEs} (I_o : IHE ge cf o) (I_es : IHEs ge cf es) : IHE ge cf (.mth m o es) :=
  ⟨e_mth I_o I_es, fun X W e0 ok cl h => asTest (e_mth I_o I_es X W e0 ok cl h) (by obtain ⟨x, a, ap, ys, cp, rfl⟩ := iv_mth h; exact test_plain rfl), fun X W e0 ok cl h hb => by obtain ⟨x, a, ap, ys, cp, rfl⟩ := iv_mth h; cases hb⟩

theorem ih_isX {a : CE} {one : Bool} {cs : List String} (I_a : IHE ge cf a) : IHE ge cf (.isX a one cs) :=
  ⟨e_isX I_a, fun X W e0 ok cl h => asTest (e_isX I_a X W e0 ok cl h) (by obtain ⟨x, p, y, z, pos, rfl⟩ := iv_isX h; exact test_plain rfl), fun X W e0 ok cl h hb => by obtain ⟨x, p, y, z, pos, rfl⟩ := iv_isX h; cases hb⟩
theorem ih_isI {a : CE} {t : Ty} (I_a : IHE ge cf a) : IHE ge cf (.isI a t) :=
  ⟨e_isI I_a, fun X W e0 ok cl h => asTest (e_isI I_a X W e0 ok cl h) (by obtain ⟨x, p, y, z, q, pos, rfl⟩ := iv_isI h; exact test_plain rfl), fun X W e0 ok cl h hb => by obtain ⟨x, p, y, z, q, pos, rfl⟩ := iv_isI h; cases hb⟩

theorem ih_dgetK {o k : CE} (I_o : IHE ge cf o) (I_k : IHE ge cf k) : IHE ge cf (.dgetK o k) :=
  ⟨e_dgetK I_o I_k, fun X W e0 ok cl h => asTest (e_dgetK I_o I_k X W e0 ok cl h) (by obtain ⟨x, y, p, rfl⟩ := iv_dgetK h; exact test_plain rfl), fun X W e0 ok cl h hb => by obtain ⟨x, y, p, rfl⟩ := iv_dgetK h; cases hb⟩
theorem ih_dgetT {o : CE} {es : CEs} (I_o : IHE ge cf o) (I_es : IHEs ge cf es) : IHE ge cf (.dgetT o es) :=
  ⟨e_dgetT I_o I_es, fun X W e0 ok cl h => asTest (e_dgetT I_o I_es X W e0 ok cl h) (by obtain ⟨x, y, k, q, p, rfl⟩ := iv_dgetT h; exact test_plain rfl), fun X W e0 ok cl h hb => by obtain ⟨x, y, k, q, p, rfl⟩ := iv_dgetT h; cases hb⟩
theorem ih_dinK {neg : Bool} {o k : CE} (I_o : IHE ge cf o) (I_k : IHE ge cf k) : IHE ge cf (.dinK neg k o) := by
  refine ⟨fun X W e0 ok cl h => ?_, fun X W e0 ok cl h => ?_, fun X W e0 ok cl h hb => by obtain ⟨l, o, r, p, rfl⟩ := iv_dinK h; cases hb⟩
  · obtain ⟨l, op, r, p, rfl⟩ := iv_dinK h
    simp only [chkE, Bool.and_eq_true, decide_eq_true_eq] at h
    obtain ⟨⟨rfl, h1⟩, h2⟩ := h
    exact pe_cmp (c_dinK I_o I_k ok cl h1 h2) (mark_good (good_of h2))
  · obtain ⟨l, op, r, p, rfl⟩ := iv_dinK h
    simp only [chkE, Bool.and_eq_true, decide_eq_true_eq] at h
    obtain ⟨⟨rfl, h1⟩, h2⟩ := h
    exact test_of (c_dinK I_o I_k ok cl h1 h2) (mark_good (good_of h2))
theorem ih_dinT {neg : Bool} {o : CE} {es : CEs} (I_o : IHE ge cf o) (I_es : IHEs ge cf es) : IHE ge cf (.dinT neg es o) := by
  refine ⟨fun X W e0 ok cl h => ?_, fun X W e0 ok cl h => ?_, fun X W e0 ok cl h hb => by obtain ⟨l, k, q, o, r, p, rfl⟩ := iv_dinT h; cases hb⟩
  · obtain ⟨l, k, q, op, r, p, rfl⟩ := iv_dinT h
    simp only [chkE, Bool.and_eq_true, decide_eq_true_eq] at h
    obtain ⟨⟨rfl, h1⟩, h2⟩ := h
    exact pe_cmp (c_dinT I_o I_es ok cl h1 h2) (mark_good (good_of h2))
  · obtain ⟨l, k, q, op, r, p, rfl⟩ := iv_dinT h
    simp only [chkE, Bool.and_eq_true, decide_eq_true_eq] at h
    obtain ⟨⟨rfl, h1⟩, h2⟩ := h
    exact test_of (c_dinT I_o I_es ok cl h1 h2) (mark_good (good_of h2))
theorem ih_fld {c f : String} {o : CE} (I_o : IHE ge cf o) : IHE ge cf (.fld c o f) :=
  ⟨e_fld I_o, fun X W e0 ok cl h => asTest (e_fld I_o X W e0 ok cl h) (by obtain ⟨x, y, p, rfl⟩ := iv_fld h; exact test_plain rfl), fun X W e0 ok cl h hb => by obtain ⟨x, y, p, rfl⟩ := iv_fld h; cases hb⟩
theorem ih_meth {c m : String} {o : CE} {es : CEs} (I_o : IHE ge cf o) (I_es : IHEs ge cf es) : IHE ge cf (.meth c m o es) :=
  ⟨e_meth I_o I_es, fun X W e0 ok cl h => asTest (e_meth I_o I_es X W e0 ok cl h) (by obtain ⟨x, y, k, q, p, rfl⟩ := iv_meth h; exact test_plain rfl), fun X W e0 ok cl h hb => by obtain ⟨x, y, k, q, p, rfl⟩ := iv_meth h; cases hb⟩
theorem ih_make {c : String} {es : CEs} (I_es : IHEs ge cf es) : IHE ge cf (.make c es) :=
  ⟨e_make I_es, fun X W e0 ok cl h => asTest (e_make I_es X W e0 ok cl h) (by obtain ⟨x, p, y, pos, rfl⟩ := iv_make h; exact test_plain rfl), fun X W e0 ok cl h hb => by obtain ⟨x, p, y, pos, rfl⟩ := iv_make h; cases hb⟩
theorem es_nil : IHEs ge cf .nil := ⟨fun X W es0 ok cl h => by
  cases es0 with
  | cons _ _ => cases h
  | nil => exact PA.weak pa_nil fun σ H Q ⟨φ, τ, st, rs, sim, post⟩ => post φ H [] Ext.refl sim .nil⟩
theorem es_cons {c : CE} {cs : CEs} (I_c : IHE ge cf c) (I_cs : IHEs ge cf cs) : IHEs ge cf (.cons c cs) := ⟨fun X W es0 ok cl h => by
  cases es0 with
  | nil => cases h
  | cons e es =>
    simp only [chkEs, Bool.and_eq_true] at h
    refine PA.weak (pa_cons (I_c.e X W e ok cl h.1) (I_cs.e X W es ok cl h.2) (star_good (good_of h.1))) fun σ H Q q => ?_
    refine tR.bind (f := ev ge cf c) (g := fun τ x st => (evs ge cf cs τ st).bind fun xs st => .ok (x :: xs) st) q fun φ τ x st v H1 rs s rv post => ?_
    exact ⟨φ, τ, st, rs, s, post.bind fun xs st2 φ2 H2 vs e2 s2 rvs p => p φ2 H2 _ Ext.refl s2 (.cons (rv.ext e2) rvs)⟩⟩
theorem o_none : IHO ge cf .none := ⟨fun X W e0 ok cl h => by
    cases e0 with
    | some _ => cases h
    | none => exact ⟨fun pins s σ H Q I ⟨φ, τ, st, rs, sim, post⟩ => (po_none (X := X)).run pins s σ H Q I (post φ H _ Ext.refl sim rfl)⟩, fun X W e0 ok cl h => by
    cases e0 with
    | cons _ _ => cases h
    | nil => exact ⟨fun pins s σ H Q I ⟨φ, τ, st, rs, sim, post⟩ => (pts_nil (X := X)).run pins s σ H Q I (okB post sim)⟩⟩
theorem o_some {c : CE} (I_c : IHE ge cf c) : IHO ge cf (.some c) := ⟨fun X W e0 ok cl h => by
    cases e0 with
    | none => cases h
    | some e => exact ⟨fun pins s σ H Q I q => (po_some (I_c.e X W e ok cl h)).run pins s σ H Q I (by
      refine tR.bind (f := ev ge cf c) (g := fun τ (x : D) st => match x with | .int i => .ok (some i) st | _ => .err) q fun φ τ x st v H1 rs s rv post => ?_
      obtain ⟨i, rfl, rfl, post⟩ := intOf (g := fun i st => .ok (some i) st) rv post
      exact ⟨i, rfl, post φ H1 _ Ext.refl s rfl⟩)⟩, fun X W e0 ok cl h => by
    match e0, h with
    | [e], h => exact pts_one (I_c.t X W e ok cl h)
    | [], h => cases h
    | _ :: _ :: _, h => cases h⟩
theorem i_of {c : CE} (I_c : IHE ge cf c) : IHI ge cf (.of c) := ⟨fun X W tg e ok cl h => ⟨piOf (I_c.e X W e ok cl h), fold_good (good_of h)⟩⟩
theorem i_range1 {a : CE} (I_a : IHE ge cf a) : IHI ge cf (.range1 a) := ⟨fun X W tg e0 ok cl h => by
  obtain ⟨x, p, y, pos, rfl⟩ := iv_r1 h
  simp only [chkI, Bool.and_eq_true, decide_eq_true_eq] at h
  obtain ⟨⟨rfl, h1⟩, h2⟩ := h
  have gy := good_of h2
  refine ⟨⟨fun pins s σ H R I q => (pi_range1 (tg := tg) (glB_ok h1) (ok.free _ (by decide +kernel)) (pa_cons (I_a.e X W y ok cl h2) pa_nil (star_good gy)) (star_good gy)).run pins s σ H R I ?_⟩, fun _ => rfl⟩
  refine tR.bind (f := ev ge cf a) (g := fun τ (x : D) st => match x with | .int i => gd (small62 i) (.ok (rng 0 i, []) st) | _ => .err) q fun φ τ x st v H1 rs s rv post => ?_
  obtain ⟨i, rfl, rfl, post⟩ := intOf (g := fun i st => gd (small62 i) (.ok (rng 0 i, []) st)) rv post
  obtain ⟨hs, post⟩ := gd_ok post
  refine ⟨i, rfl, hs.1, hs.2, ?_⟩
  have := post φ H1 _ Ext.refl s (iterR (a := 0) (b := i))
  rw [Int.sub_zero] at this
  exact this⟩
theorem i_range2 {a b : CE} (I_a : IHE ge cf a) (I_b : IHE ge cf b) : IHI ge cf (.range2 a b) := ⟨fun X W tg e0 ok cl h => by
  obtain ⟨x, p, y, z, pos, rfl⟩ := iv_r2 h
  simp only [chkI, Bool.and_eq_true, decide_eq_true_eq] at h
  obtain ⟨⟨⟨rfl, h1⟩, h2⟩, h3⟩ := h
  have gy := good_of h2
  have gz := good_of h3
  refine ⟨⟨fun pins s σ H R I q => (pi_range2 (tg := tg) (glB_ok h1) (ok.free _ (by decide +kernel)) (pa_cons (I_a.e X W y ok cl h2) (pa_cons (I_b.e X W z ok cl h3) pa_nil (star_good gz)) (star_good gy)) (by rw [star_good gy, star_good gz]; rfl) (by rw [star_good gz]; rfl)).run pins s σ H R I ?_⟩, fun _ => rfl⟩
  refine tR.bind (f := ev ge cf a) (g := fun τ (x : D) st => (ev ge cf b τ st).bind fun y st => match x, y with
      | .int i, .int j => gd (small62 i ∧ small62 j) (.ok (rng i j, []) st)
      | _, _ => .err) q fun φ τ x st v H1 rs s rv post => ?_
  refine ⟨φ, τ, st, rs, s, post.bind fun y st2 φ2 H2 w e s2 rw' p => ?_⟩
  cases rv with
  | int i =>
    cases rw' with
    | int j =>
      obtain ⟨⟨c1, c2⟩, p⟩ := gd_ok p
      exact ⟨i, j, rfl, ⟨c1.1, c1.2, c2.1, c2.2⟩, p φ2 H2 _ Ext.refl s2 (iterR (a := i) (b := j))⟩
    | _ => exact p.elim
  | _ => cases rw' <;> exact p.elim⟩
theorem i_enum {a : CE} (I_a : IHE ge cf a) : IHI ge cf (.enum a) := ⟨fun X W tg e0 ok cl h => by
  obtain ⟨es, kk, tp, x, p, y, pos, rfl, rfl⟩ := iv_enum h
  simp only [chkI, Bool.and_eq_true, decide_eq_true_eq] at h
  obtain ⟨⟨rfl, h1⟩, h2⟩ := h
  have gy := good_of h2
  refine ⟨⟨fun pins s σ H R I q => (pi_enumA (glB_ok h1) (ok.free _ (by decide +kernel)) (pa_cons (I_a.e X W y ok cl h2) pa_nil (star_good gy)) (star_good gy)).run pins s σ H R I ?_⟩, fun _ => rfl⟩
  refine tR.bind (f := ev ge cf a) (g := fun τ (x : D) st => match deref st x with | .lst xs => .ok (enumD 0 xs, watch x xs) st | .tup xs => .ok (enumD 0 xs, []) st | _ => .err) q fun φ τ x st v H1 rs s rv post => ?_
  cases e : deref st x with
  | lst xs =>
    rw [e] at post
    obtain ⟨q, vs, rfl, h3, h4⟩ := later_list s rv e
    exact ⟨q, vs, rfl, .inr ⟨h3, post φ H1 _ Ext.refl s (iterE h4)⟩⟩
  | tup xs =>
    rw [e] at post
    obtain ⟨q, vs, rfl, h3, h4⟩ := tup_at rv e
    exact ⟨q, vs, rfl, .inl ⟨h3, post φ H1 _ Ext.refl s (iterET h3 h4)⟩⟩
  | _ => rw [e] at post; exact post.elim⟩
theorem i_zip {a b : CE} (I_a : IHE ge cf a) (I_b : IHE ge cf b) : IHI ge cf (.zip a b) := ⟨fun X W tg e0 ok cl h => by
  obtain ⟨es, kk, tp, x, p, y, z, pos, rfl, rfl⟩ := iv_zip h
  simp only [chkI, Bool.and_eq_true, decide_eq_true_eq] at h
  obtain ⟨⟨⟨rfl, h1⟩, h2⟩, h3⟩ := h
  have gy := good_of h2
  have gz := good_of h3
  refine ⟨⟨fun pins s σ H R I q => (pi_zipM (glB_ok h1) (ok.free _ (by decide +kernel)) (pa_cons (I_a.e X W y ok cl h2) (pa_cons (I_b.e X W z ok cl h3) pa_nil (star_good gz)) (star_good gy)) (by rw [star_good gy, star_good gz]) (by rw [star_good gz]; rfl)).run pins s σ H R I ?_⟩, fun _ => rfl⟩
  refine tR.bind (f := ev ge cf a) (g := fun τ (x : D) st => (ev ge cf b τ st).bind fun y st => match deref st x, deref st y with
      | .lst xs, .lst ys => .ok (zipD xs ys, watch x xs ++ watch y ys) st
      | .lst xs, .tup ys => .ok (zipD xs ys, watch x xs) st
      | _, _ => .err) q fun φ τ x st v H1 rs s rv post => ?_
  refine ⟨φ, τ, st, rs, s, post.bind fun y st2 φ2 H2 w e s2 rw' p => ?_⟩
  cases ex : deref st2 x with
  | lst xs =>
    cases ey : deref st2 y with
    | lst ys =>
      rw [ex, ey] at p
      obtain ⟨q1, vs1, rfl, h4, h5⟩ := later_list s2 (rv.ext e) ex
      obtain ⟨q2, vs2, rfl, h6, h7⟩ := later_list s2 rw' ey
      refine ⟨q1, q2, vs1, vs2, rfl, .inl ⟨h4, h6, p φ2 H2 _ Ext.refl s2 (iterZ (fun φ3 H3 st3 e3 s3 o3 => h5 φ3 H3 st3 e3 s3 fun q hq => o3 q (List.mem_append_left _ hq)) (fun φ3 H3 st3 e3 s3 o3 => h7 φ3 H3 st3 e3 s3 fun q hq => o3 q (List.mem_append_right _ hq)))⟩⟩
    | tup ys =>
      rw [ex, ey] at p
      obtain ⟨q1, vs1, rfl, h4, h5⟩ := later_list s2 (rv.ext e) ex
      obtain ⟨q2, vs2, rfl, h6, h7⟩ := tup_at rw' ey
      exact ⟨q1, q2, vs1, vs2, rfl, .inr ⟨h4, h6, p φ2 H2 _ Ext.refl s2 (iterZM h5 h6 h7)⟩⟩
    | _ => rw [ex, ey] at p; exact p.elim
  | _ => rw [ex] at p; exact p.elim⟩
theorem iterC {K : PySem.W.Frag} {φ : Wd} {H : Hp} {a b c : Int} {n : Nat} {w : Watch} (hn : PySem.Builtin.Range.rangeSize a b c = n) : IterOk K φ H (rngC a b c) w (Itc a c n) := by
  have wk := walk_rangeC (lo := a) (c := c) (n := n)
  have hl : (rngC a b c).length = n := by unfold rngC; rw [List.length_map, List.length_range, hn]; rfl
  refine ⟨_, _, by rw [hl]; exact wk, fun φ2 H2 st2 e s ow => trivial, fun φ2 H2 st2 i x H3 hi e s ow y => ?_⟩
  obtain ⟨rfl, rfl⟩ := y
  rw [hl] at hi
  refine ⟨_, ?_, Ext.refl, s, .int _⟩
  unfold rngC
  rw [List.getElem?_map, List.getElem?_range (by rw [hn]; exact hi)]; rfl
theorem i_range3 {a b c : CE} (I_a : IHE ge cf a) (I_b : IHE ge cf b) (I_c : IHE ge cf c) : IHI ge cf (.range3 a b c) := ⟨fun X W tg e0 ok cl h => by
  obtain ⟨x, p, y, z, w, pos, rfl⟩ := iv_range3 h
  simp only [chkI, Bool.and_eq_true, decide_eq_true_eq] at h
  obtain ⟨⟨⟨⟨rfl, h1⟩, h2⟩, h3⟩, h4⟩ := h
  have gy := good_of h2
  have gz := good_of h3
  have gw := good_of h4
  refine ⟨⟨fun pins s σ H R I q => (pi_range3 (tg := tg) (glB_ok h1) (ok.free _ (by decide +kernel)) (pa_cons (I_a.e X W y ok cl h2) (pa_cons (I_b.e X W z ok cl h3) (pa_cons (I_c.e X W w ok cl h4) pa_nil (star_good gw)) (star_good gz)) (star_good gy)) (star_good gy) (star_all fun x hx => by
      rcases List.mem_cons.mp hx with rfl | hx
      · exact gz
      · rw [List.mem_singleton.mp hx]; exact gw)).run pins s σ H R I ?_⟩, fun _ => rfl⟩
  refine tR.bind (f := ev ge cf a) (g := fun τ (x : D) st => (ev ge cf b τ st).bind fun y st => (ev ge cf c τ st).bind fun z st => match x, y, z with
      | .int i, .int j, .int k => gd (okC i j k) (.ok (rngC i j k, []) st)
      | _, _, _ => .err) q fun φ τ x st v H1 rs s rv post => ?_
  refine ⟨φ, τ, st, rs, s, post.bind fun y st2 φ2 H2 w e s2 rw' p => ?_⟩
  refine ⟨φ2, τ, st2, rs.ext e, s2, p.bind fun z st3 φ3 H3 w3 e3 s3 rw3 p3 => ?_⟩
  cases rv with
  | int i =>
    cases rw' with
    | int j =>
      cases rw3 with
      | int k =>
        obtain ⟨⟨c0, c1, c2, c3⟩, p3⟩ := gd_ok p3
        obtain ⟨n, hn⟩ := Int.eq_ofNat_of_zero_le c3
        exact ⟨i, j, k, n, rfl, ⟨c0, c1, c2, hn⟩, p3 φ3 H3 _ Ext.refl s3 (iterC hn)⟩
      | _ => exact p3.elim
    | _ => cases rw3 <;> exact p3.elim
  | _ => cases rw' <;> cases rw3 <;> exact p3.elim⟩
theorem i_rrange2 {a b : CE} (I_a : IHE ge cf a) (I_b : IHE ge cf b) : IHI ge cf (.rrange2 a b) := ⟨fun X W tg e0 ok cl h => by
  obtain ⟨x, p, y, p2, z, w, p3, pos, rfl⟩ := iv_rr2 h
  simp only [chkI, Bool.and_eq_true, decide_eq_true_eq] at h
  obtain ⟨⟨⟨⟨⟨rfl, h1⟩, rfl⟩, h2⟩, h3⟩, h4⟩ := h
  have gz := good_of h3
  have gw := good_of h4
  refine ⟨⟨fun pins s σ H R I q => (pi_revR (tg := tg) (glB_ok h1) (ok.free _ (by decide +kernel)) (prg_2 (glB_ok h2) (ok.free _ (by decide +kernel)) (I_a.e X W z ok cl h3) (I_b.e X W w ok cl h4) (star_good gz) (star_good gw)
      (star_all fun x hx => by rw [List.mem_singleton.mp hx]; exact gw))).run pins s σ H R I ?_⟩, fun _ => rfl⟩
  refine tR.bind (f := ev ge cf a) (g := fun τ (x : D) st => (ev ge cf b τ st).bind fun y st => match x, y with
      | .int i, .int j => gd (small62 i ∧ small62 j) (.ok ((rng i j).reverse, []) st)
      | _, _ => .err) q fun φ τ x st v H1 rs s rv post => ?_
  refine ⟨φ, τ, st, rs, s, post.bind fun y st2 φ2 H2 w e s2 rw' p => ?_⟩
  cases rv with
  | int i =>
    cases rw' with
    | int j =>
      obtain ⟨⟨c1, c2⟩, p⟩ := gd_ok p
      exact ⟨i, j, rfl, rfl, c1.1, c1.2, c2.1, c2.2, p φ2 H2 _ Ext.refl s2 (iterRR (a := i) (b := j))⟩
    | _ => exact p.elim
  | _ => cases rw' <;> exact p.elim⟩

mutual
theorem ihE (ge : GE) (cf : CF) : ∀ c : CE, IHE ge cf c
  | .var i => ih_var
  | .non => ih_non
  | .bl b => ih_bl
  | .int i => ih_int
  | .str z => ih_str
  | .glob x => ih_glob
  | .bin op a b => ih_bin (ihE ge cf a) (ihE ge cf b)
  | .neg a => ih_neg (ihE ge cf a)
  | .inv a => ih_inv (ihE ge cf a)
  | .not a => ih_not (ihE ge cf a)
  | .and a b => ih_and (ihE ge cf a) (ihE ge cf b)
  | .or a b => ih_or (ihE ge cf a) (ihE ge cf b)
  | .ite c a b => ih_ite (ihE ge cf c) (ihE ge cf a) (ihE ge cf b)
  | .cmp op a b => ih_cmp (ihE ge cf a) (ihE ge cf b)
  | .chain op op' a b c => ih_chain (ihE ge cf a) (ihE ge cf b) (ihE ge cf c)
  | .tup es => ih_tup (ihEs ge cf es)
  | .new l => ih_new (ihL ge cf l)
  | .cell l => ih_cell (ihL ge cf l)
  | .dict0 t => ih_dict0
  | .dgetK o k => ih_dgetK (ihE ge cf o) (ihE ge cf k)
  | .dgetT o es => ih_dgetT (ihE ge cf o) (ihEs ge cf es)
  | .dinK n k o => ih_dinK (ihE ge cf o) (ihE ge cf k)
  | .dinT n es o => ih_dinT (ihE ge cf o) (ihEs ge cf es)
  | .make c es => ih_make (ihEs ge cf es)
  | .meth c m o es => ih_meth (ihE ge cf o) (ihEs ge cf es)
  | .fld c o f => ih_fld (ihE ge cf o)
  | .idx a i => ih_idx (ihE ge cf a) (ihE ge cf i)
  | .slice a lo hi => ih_slice (ihE ge cf a) (ihO ge cf lo) (ihO ge cf hi)
  | .call f es => ih_call (ihEs ge cf es)
  | .blt b es => ih_blt (ihEs ge cf es)
  | .lenSet a => ih_lenSet (ihE ge cf a)
  | .tupR a => ih_tupR (ihE ge cf a)
  | .fcall _ i es => ih_fcall (ihE ge cf i) (ihEs ge cf es)
  | .mth m o es => ih_mth (ihE ge cf o) (ihEs ge cf es)
  | .isI a t => ih_isI (ihE ge cf a)
  | .isX a _ _ => ih_isX (ihE ge cf a)
termination_by structural c => c
theorem ihL (ge : GE) (cf : CF) : ∀ c : CL, IHL ge cf c
  | .disp es => ⟨l_disp (ihEs ge cf es)⟩
  | .comp t one it c e => ⟨l_comp (ihI ge cf it) (ihO ge cf c) (ihE ge cf e)⟩
  | .listOf c => ⟨l_listOf (ihE ge cf c)⟩
  | .rep es n => ⟨l_rep (ihEs ge cf es) (ihE ge cf n)⟩
  | .cat a b => ⟨l_cat (ihE ge cf a) (ihE ge cf b)⟩
  | .range1 a => ⟨l_range1 (ihE ge cf a)⟩
  | .range2 a b => ⟨l_range2 (ihE ge cf a) (ihE ge cf b)⟩
termination_by structural c => c
theorem ihEs (ge : GE) (cf : CF) : ∀ c : CEs, IHEs ge cf c
  | .nil => es_nil
  | .cons c cs => es_cons (ihE ge cf c) (ihEs ge cf cs)
termination_by structural c => c
theorem ihO (ge : GE) (cf : CF) : ∀ c : CO, IHO ge cf c
  | .none => o_none
  | .some c => o_some (ihE ge cf c)
termination_by structural c => c
theorem ihI (ge : GE) (cf : CF) : ∀ c : CI, IHI ge cf c
  | .of c => i_of (ihE ge cf c)
  | .range1 a => i_range1 (ihE ge cf a)
  | .range2 a b => i_range2 (ihE ge cf a) (ihE ge cf b)
  | .enum a => i_enum (ihE ge cf a)
  | .zip a b => i_zip (ihE ge cf a) (ihE ge cf b)
  | .rrange2 a b => i_rrange2 (ihE ge cf a) (ihE ge cf b)
  | .range3 a b c => i_range3 (ihE ge cf a) (ihE ge cf b) (ihE ge cf c)
termination_by structural c => c
end
end
end PC
end
section
set_option Elab.async false
set_option linter.all false
set_option autoImplicit false
set_option maxRecDepth 100000
set_option maxHeartbeats 1000000
namespace PC
open PySem L2 PyProof.Rows

/-! ### statements: the checker -/
def isTup : Expr → Bool
  | .Tuple _ _ _ => true
  | _ => false
def isLc : Expr → Bool
  | .ListComp _ _ _ _ => true
  | _ => false
/-- names that are stored from the right: plain locals on one line, unlike -/
def parB (sc : Scope) : List Expr → List Expr → Bool
  | [.Name x px, .Name y py], [a, b] => decide (sc.names.lookup x = some .local) && decide (sc.names.lookup y = some .local) && decide (py.line = px.line) && !(x == y) &&
      !([a, b].all (foldedForSure 8)) && !([a, b].all (constantsAlone 8))
  | [.Name x px, .Name y py, .Name z pz], [a, b, c] => decide (sc.names.lookup x = some .local) && decide (sc.names.lookup y = some .local) && decide (sc.names.lookup z = some .local) && decide (py.line = px.line) && decide (pz.line = px.line) &&
      !(x == y) && !(x == z) && !(y == z) && !([a, b, c].all (foldedForSure 8)) && !([a, b, c].all (constantsAlone 8))
  | _, _ => false
/-- names that are no plain locals: stored from the left -/
def celB (sc : Scope) : List Expr → List Expr → Bool
  | [.Name x _, .Name y _], [_, _] => !(sc.names.lookup x == some .local) || !(sc.names.lookup y == some .local)
  | _, _ => false
def chkTg (N : List Str) (sc : Scope) : CT → Expr → Bool
  | .name i, .Name x _ => decide (N[i]? = some x) && locB sc x
  | .names is, .Tuple es _ _ => chkNames N sc is es
  | .sub o i, .Subscript x y _ => chkE N sc o x && chkE N sc i y
  | .nest i js, .Tuple [.Name x _, .Tuple es _ _] _ _ => decide (N[i]? = some x) && locB sc x && chkNames N sc js es
  | _, _ => false
/-- d[k] = .., o.f = .. -/
def chkTd (N : List Str) (sc : Scope) : CT → Expr → Bool
  | .dputK o k, .Subscript x y _ => chkE N sc o x && chkE N sc k y
  | .dputT o es, .Subscript x (.Tuple ys _ _) _ => chkE N sc o x && chkEs N sc es ys
  | .fld _ o f, .Attribute x a _ => decide (a = Str.ofString f) && goodO x && chkE N sc o x
  | _, _ => false
/-- a, b = x, y -/
def isPar : CT → CE → Bool
  | .names _, .tup _ => true
  | _, _ => false
/-- which values go to which targets -/
def asgB (sc : Scope) (tg v : Expr) : Bool :=
  match tg with
  | .Tuple es _ _ => (match v with
    | .Tuple vs _ _ => parB sc es vs || (vs.all (foldedForSure 8) || celB sc es vs)
    | _ => !isLc v)
  | .Name _ p => true
  | .Attribute _ _ _ => true
  | _ => !isLc v
mutual
def chkS (N : List Str) (sc : Scope) : CS → Stmt → Bool
  | .asg t e, .Assign [tg] v pos => (chkTg N sc t tg || chkTd N sc t tg) && chkE N sc e v && asgB sc tg v
  | .expr e, .Expr v _ => chkE N sc e v && !isLc v
  | .ret e, .Return (some v) _ => chkE N sc e v
  | .retN, .Return none _ => true
  | .pass, .Pass _ => true
  | .brk, .Break _ => true
  | .cont, .Continue _ => true
  | .ifs c a b, .If t x y _ => chkE N sc c t && chkSs N sc a x && chkSs N sc b y
  | .for_ t it b, .For tg iter body [] _ => chkTg N sc t tg && chkI N sc it tg iter && chkSs N sc b body
  | .while_ c b, .While t body [] _ => chkE N sc c t && chkSs N sc b body
  | .forG t it b _, .For tg iter body [] _ => chkTg N sc t tg && chkI N sc it tg iter && chkSs N sc b body
  | .whG c b _, .While t body [] _ => chkE N sc c t && chkSs N sc b body
  | .stop, _ => true
  | .raise_ c, .Raise (some (.Call (.Name x _) [.Constant (.str _) _ _] [] _)) none _ => decide (x = Str.ofString c) && glB sc x && nmB x
  | .tryK b k i j, .Try body [.ExceptHandler (some (.Name x _)) (some n) [.Assign [.Name y _] (.Name z _) _] _] [] [] _ => decide (x = Str.ofString k) && decide (k ≠ "ValueError") && glB sc x && nmB x && decide (N[i]? = some n) && decide (sc.names.lookup n = some .local) && decide (N[j]? = some y) && decide (sc.names.lookup y = some .local) && decide (z = n) && nmB n && chkSs N sc b body
  | _, _ => false
termination_by structural c => c
def chkSs (N : List Str) (sc : Scope) : CSs → List Stmt → Bool
  | .nil, [] => true
  | .cons c cs, s :: ss => chkS N sc c s && chkSs N sc cs ss
  | .drp _ cs, ss => chkSs N sc cs ss
  | _, _ => false
termination_by structural c => c
end

/-! ### what is wanted of a statement's end -/
def PostS (K : PySem.W.Frag) (W : WT) (φ : Wd) (H : Hp) (r : RS) (D : Ends) : Prop :=
  match r with
  | .nx τ st => ∀ φ' H' σ', Ext K φ H φ' H' → Sim K φ' H' st → RepS K φ' H' σ' τ → D.nx σ' H'
  | .bk τ st => ∀ φ' H' σ', Ext K φ H φ' H' → Sim K φ' H' st → RepS K φ' H' σ' τ → D.bk σ' H'
  | .ct τ st => ∀ φ' H' σ', Ext K φ H φ' H' → Sim K φ' H' st → RepS K φ' H' σ' τ → D.ct σ' H'
  | .rt d st => ∀ φ' H' v, Ext K φ H φ' H' → Sim K φ' H' st → RepV K φ' H' v d → D.rt v H'
  | .exc d τ st => ∀ φ' H' σ', Ext K φ H φ' H' → Sim K φ' H' st → RepS K φ' H' σ' τ → W σ' φ' H' st d
  | .err => False
theorem PostS.ext {K : PySem.W.Frag} {W : WT} {φ φ' : Wd} {H H' : Hp} {r : RS} {D : Ends} (h : PostS K W φ H r D) (e : Ext K φ H φ' H') : PostS K W φ' H' r D := by
  cases r with
  | nx τ st => exact fun φ2 H2 σ2 e2 => h φ2 H2 σ2 (e.trans e2)
  | bk τ st => exact fun φ2 H2 σ2 e2 => h φ2 H2 σ2 (e.trans e2)
  | ct τ st => exact fun φ2 H2 σ2 e2 => h φ2 H2 σ2 (e.trans e2)
  | rt d st => exact fun φ2 H2 v e2 => h φ2 H2 v (e.trans e2)
  | exc d τ st => exact fun φ2 H2 σ2 e2 => h φ2 H2 σ2 (e.trans e2)
  | err => exact h
theorem PostS.toS {α β : Type} {K : PySem.W.Frag} {W : WT} {R : Wd → Hp → β → α → Prop} {φ : Wd} {H : Hp} {r : Res α} {τ : Slots} {σ : L2.St} {f : α → Store → RS} {D : Ends} {Q1 : β → Hp → Prop} (h : PostS K W φ H (r.toS τ f) D) (rs : RepS K φ H σ τ)
    (k : ∀ x st φ1 H1 v, Ext K φ H φ1 H1 → Sim K φ1 H1 st → R φ1 H1 v x → PostS K W φ1 H1 (f x st) D → Q1 v H1) : Post K R (W σ) φ H r Q1 := by
  cases r with
  | ok d st => exact fun φ1 H1 v e s rv => k d st φ1 H1 v e s rv (PostS.ext h e)
  | exc d st => exact fun φ1 H1 e s => h φ1 H1 σ e s (rs.ext e)
  | err => exact h
def tSt (K : PySem.W.Frag) (W : WT) (f : Slots → Store → RS) : TS := fun D σ H => ∃ φ τ st, RepS K φ H σ τ ∧ Sim K φ H st ∧ PostS K W φ H (f τ st) D
/-- a target's reading: what follows with the names bound -/
def gA (K : PySem.W.Frag) (W : WT) (f : D → Slots → Store → RS) : TG := fun v σ H Q => ∃ φ τ st d, RepS K φ H σ τ ∧ Sim K φ H st ∧ RepV K φ H v d ∧ PostS K W φ H (f d τ st) { nx := Q, rt := fun _ _ => False }
structure OkS (ge : GE) (cf : CF) (X : Cx) (W : WT) : Prop where
  ok : Ok ge X
  cl : CallsM ge cf X W
  fn : ∀ x, X.fn x = true
  pass : PassesOwn (model X.prog X.w) X.A X.env X.xe
  kind : X.env.scope.kind = .function
  tk : ∃ Wx, Takes X Wx ∧ ∀ σ φ H st d, W σ φ H st d → wX X.K (fun cls d H => Wx cls d σ H) φ H st d
  stk : X.stack = X.env :: X.outer
  frm : X.env.frame = some X.env.locals
  ex0 : X.ex = []
section
variable {X : Cx} {ge : GE} {cf : CF} {W : WT}
theorem PS.weak {e : Stmt} {t t' : TS} (h : PS X e t) (k : ∀ D σ H, t' D σ H → t D σ H) : PS X e t' := ⟨fun pins s σ H D I q => h.run pins s σ H D I (k D σ H q)⟩
theorem PSs.weak {e : List Stmt} {t t' : TS} (h : PSs X e t) (k : ∀ D σ H, t' D σ H → t D σ H) : PSs X e t' := ⟨fun pins s σ H D I q => h.run pins s σ H D I (k D σ H q)⟩
theorem pgOr {tg : Expr} {t t' : TG} (h : PG X tg t) (h' : PG X tg t') : PG X tg (fun v σ H Q => t v σ H Q ∨ t' v σ H Q) := ⟨fun pins s σ H v u Q I r q => q.elim (fun z => h.run pins s σ H v u Q I r z) (fun z => h'.run pins s σ H v u Q I r z)⟩
theorem pgA (o : OkS ge cf X W) {t : CT} {tg : Expr} (h : chkTg X.N X.env.scope t tg = true) : PG X tg (gA X.K W fun d τ st => asgT ge cf t d τ st) := by
  have sto : ∀ x, locB X.env.scope x = true → Sto X x := fun x hx => ⟨locB_ok hx, .inl (o.fn x)⟩
  cases t with
  | name i =>
    cases tg <;> first | cases h | skip
    rename_i x p
    simp only [chkTg, Bool.and_eq_true, decide_eq_true_eq] at h
    refine PG.weak (pg_name o.ok.nd h.1 (locB_ok h.2) (.inl (o.fn x))) fun v σ H Q ⟨φ, τ, st, d, rs, sim, rv, q⟩ => ?_
    exact q φ H _ Ext.refl sim (rs.set rv i)
  | names is =>
    cases tg <;> first | cases h | skip
    rename_i es k p
    have h : chkNames X.N X.env.scope is es = true := h
    obtain ⟨e1, e2⟩ := each_len (env := X.env) h
    have hp := pgNames o.ok.nd sto h
    refine PG.weak (pgOr (pg_tup o.ok.calm hp e1 e2) (pg_unl o.ok.calm hp e1 e2)) fun v σ H Q ⟨φ, τ, st, d, rs, sim, rv, q⟩ => ?_
    have q : PostS X.K W φ H (match items st d with | some ds => if ds.length = is.length then .nx (PC.setAll τ is ds) st else .err | none => .err) { nx := Q, rt := fun _ _ => False } := q
    cases ei : items st d with
    | none => rw [ei] at q; exact q.elim
    | some ds =>
      rw [ei] at q
      by_cases hl : ds.length = is.length
      · simp only [if_pos hl] at q
        obtain ⟨a, vs, rfl, h1, h2⟩ := items_at sim rv ei
        have hl2 : vs.length = is.length := by rw [h2.length]; exact hl
        have fin : gNs is vs σ H Q := gNs_ok hl2 (q φ H _ Ext.refl sim (rs.setAll h2))
        rcases h1 with h1 | h1
        · exact .inr ⟨a, vs, rfl, h1, hl2, fin⟩
        · exact .inl ⟨a, vs, rfl, h1, hl2, fin⟩
      · simp only [if_neg hl] at q; exact q.elim
  | nest i js =>
    cases tg <;> first | cases h | skip
    rename_i es k p
    match es, h with
    | [], h => cases h
    | [_], h => simp [chkTg] at h
    | _ :: _ :: _ :: _, h => simp [chkTg] at h
    | [a, b], h =>
      cases a <;> first | (cases h; done) | skip
      rename_i x px
      cases b <;> first | (cases h; done) | skip
      rename_i es k2 p2
      simp only [chkTg, Bool.and_eq_true, decide_eq_true_eq] at h
      obtain ⟨⟨h1, h2⟩, h3⟩ := h
      obtain ⟨e1, e2⟩ := each_len (env := X.env) h3
      have hp := pgNames o.ok.nd sto h3
      refine PG.weak (pg_tup (n := 2) o.ok.calm (pgs_cons (pg_name o.ok.nd h1 (locB_ok h2) (.inl (o.fn x))) (pgs_cons (pg_tup o.ok.calm hp e1 e2) pgs_nil)) rfl rfl) fun v σ H Q ⟨φ, τ, st, d, rs, sim, rv, q⟩ => ?_
      have q : PostS X.K W φ H (match deref st d with
        | .tup [a, b] => match deref st b with
          | .tup ds => if ds.length = js.length then .nx (PC.setAll (τ.set i (some a)) js ds) st else .err
          | _ => .err
        | _ => .err) { nx := Q, rt := fun _ _ => False } := q
      split at q
      · rename_i a b ed
        split at q
        · rename_i ds ed2
          by_cases hl : ds.length = js.length
          · simp only [if_pos hl] at q
            obtain ⟨a1, vs, rfl, hs1, hs2⟩ := tup_at rv ed
            cases hs2 with
            | cons ra hs2 =>
              cases hs2 with
              | cons rb hs2 =>
                cases hs2
                obtain ⟨a2, vs2, rfl, hs3, hs4⟩ := tup_at rb ed2
                have hl2 : vs2.length = js.length := by rw [hs4.length]; exact hl
                refine ⟨a1, _, rfl, hs1, rfl, _, _, rfl, _, _, rfl, ⟨a2, vs2, rfl, hs3, hl2, ?_⟩⟩
                exact gNs_ok hl2 ⟨rfl, q φ H _ Ext.refl sim ((rs.set ra i).setAll hs4)⟩
          · simp only [if_neg hl] at q; exact q.elim
        · exact q.elim
      · exact q.elim
  | dputK o k => cases tg <;> cases h
  | dputT o es => cases tg <;> cases h
  | fld c o f => cases tg <;> cases h
  | sub c i =>
    cases tg <;> first | cases h | skip
    rename_i x y p
    simp only [chkTg, Bool.and_eq_true] at h
    have hx := (ihE ge cf c).e X W x o.ok o.cl h.1
    have hy := (ihE ge cf i).e X W y o.ok o.cl h.2
    have gy := good_of h.2
    refine PG.weak (pg_sub hx hy set_list (by intro v; cases y <;> first | rfl | cases gy)) fun v σ H Q ⟨φ, τ, st, d, rs, sim, rv, q⟩ => ?_
    have q : PostS X.K W φ H ((ev ge cf c τ st).toS τ fun ov st => (ev ge cf i τ st).toS τ fun iv st => match setIx ov iv d st with | some st => .nx τ st | none => .err) { nx := Q, rt := fun _ _ => False } := q
    refine ⟨φ, τ, st, rs, sim, q.toS rs fun ov st1 φ1 H1 w e1 s1 rw1 q1 => ?_⟩
    refine ⟨φ1, τ, st1, rs.ext e1, s1, q1.toS (rs.ext e1) fun iv st2 φ2 H2 w2 e2 s2 rw2 q2 => ?_⟩
    have rw1 := rw1.ext e2
    cases ov with
    | ref k =>
      cases iv with
      | int j =>
        simp only [setIx] at q2
        split at q2
        · rename_i st3 e3
          split at e3
          · rename_i xs ec
            split at e3
            · rename_i hj
              cases e3
              obtain ⟨p1, vs, rfl, hk, h1, h2⟩ := cell_lst s2 rw1 ec
              rw [rw2.int_inv]
              refine ⟨p1, vs, j, j.toNat, rfl, rfl, h1, ?_, ?_⟩
              · unfold ixN
                rw [if_pos hj.1, if_pos (by rw [h2.length]; omega)]
              · have e4 := Ext.put s2 (o := .lst (vs.set j.toNat v)) hk
                have rd := (rv.ext e1).ext e2
                exact q2 φ2 _ σ e4 (s2.put hk ⟨_, upd_same, (h2.set rd j.toNat).ext e4⟩) (((rs.ext e1).ext e2).ext e4)
            · cases e3
          · cases e3
        · exact q2.elim
      | _ => exact q2.elim
    | _ => exact q2.elim
theorem pssNil : PSs X [] (tSt X.K W (exs ge cf .nil)) := PSs.weak pss_nil fun D σ H ⟨φ, τ, st, rs, sim, post⟩ => post φ H σ Ext.refl sim rs
theorem seqS {K : PySem.W.Frag} {W : WT} {D : Ends} {σ : L2.St} {H : Hp} {f : Slots → Store → RS} {g : Slots → Store → RS} (h : tSt K W (fun τ st => match f τ st with | .nx τ st => g τ st | r => r) D σ H) : tSt K W f { D with nx := tSt K W g D } σ H := by
  obtain ⟨φ, τ, st, rs, sim, post⟩ := h
  refine ⟨φ, τ, st, rs, sim, ?_⟩
  cases e : f τ st with
  | nx τ1 st1 =>
    simp only [e] at post
    exact fun φ1 H1 σ1 e1 s1 rs1 => ⟨φ1, τ1, st1, rs1, s1, post.ext e1⟩
  | rt d st1 => simp only [e] at post; exact post
  | bk τ1 st1 => simp only [e] at post; exact post
  | ct τ1 st1 => simp only [e] at post; exact post
  | exc d τ1 st1 => simp only [e] at post; exact post
  | err => simp only [e] at post; exact post
theorem pssCons {s : Stmt} {ss : List Stmt} {c : CS} {cs : CSs} (h1 : PS X s (tSt X.K W (ex ge cf c))) (h2 : PSs X ss (tSt X.K W (exs ge cf cs))) : PSs X (s :: ss) (tSt X.K W (exs ge cf (.cons c cs))) :=
  PSs.weak (pss_cons h1 h2) fun D σ H q => seqS (f := ex ge cf c) (g := exs ge cf cs) q
end
end PC
end
section
set_option Elab.async false
set_option linter.all false
set_option autoImplicit false
set_option maxRecDepth 100000
set_option maxHeartbeats 1000000
namespace PC
open PySem L2 PyProof.Rows
section
variable {X : Cx} {ge : GE} {cf : CF} {W : WT}
theorem Post.bind' {α β : Type} {K : PySem.W.Frag} {R : Wd → Hp → β → α → Prop} {W : Wd → Hp → Store → D → Prop} {φ : Wd} {H : Hp} {r : Res α} {Q Q1 : β → Hp → Prop} (h : Post K R W φ H r Q) (k : ∀ v H1, Q v H1 → Q1 v H1) : Post K R W φ H r Q1 := by
  cases r with
  | ok d st => exact fun φ1 H1 v e s rv => k v H1 (h φ1 H1 v e s rv)
  | exc d st => exact h
  | err => exact h
theorem asgT_form (t : CT) (d : D) (τ : Slots) (st : Store) : (∃ τ' st', asgT ge cf t d τ st = .nx τ' st') ∨ (∃ x τ' st', asgT ge cf t d τ st = .exc x τ' st') ∨ asgT ge cf t d τ st = .err := by
  cases t with
  | name i => exact .inl ⟨_, _, rfl⟩
  | names is =>
    simp only [asgT]
    split
    · split
      · exact .inl ⟨_, _, rfl⟩
      · exact .inr (.inr rfl)
    · exact .inr (.inr rfl)
  | nest i js =>
    simp only [asgT]
    (repeat' split) <;> first | exact .inl ⟨_, _, rfl⟩ | exact .inr (.inr rfl)
  | dputK o k =>
    simp only [asgT]
    cases ev ge cf o τ st with
    | ok x st1 =>
      simp only [Res.toS_ok]
      cases ev ge cf k τ st1 with
      | ok y st2 =>
        simp only [Res.toS_ok]
        unfold dictR
        (repeat' split) <;> first | exact .inl ⟨_, _, rfl⟩ | exact .inr (.inr rfl) | (dsimp only; split <;> first | exact .inl ⟨_, _, rfl⟩ | exact .inr (.inr rfl))
      | exc y st2 => exact .inr (.inl ⟨_, _, _, rfl⟩)
      | err => exact .inr (.inr rfl)
    | exc x st1 => exact .inr (.inl ⟨_, _, _, rfl⟩)
    | err => exact .inr (.inr rfl)
  | dputT o es =>
    simp only [asgT]
    cases ev ge cf o τ st with
    | ok x st1 =>
      simp only [Res.toS_ok]
      cases evs ge cf es τ st1 with
      | ok y st2 =>
        simp only [Res.toS_ok]
        unfold dictR
        (repeat' split) <;> first | exact .inl ⟨_, _, rfl⟩ | exact .inr (.inr rfl) | (dsimp only; split <;> first | exact .inl ⟨_, _, rfl⟩ | exact .inr (.inr rfl))
      | exc y st2 => exact .inr (.inl ⟨_, _, _, rfl⟩)
      | err => exact .inr (.inr rfl)
    | exc x st1 => exact .inr (.inl ⟨_, _, _, rfl⟩)
    | err => exact .inr (.inr rfl)
  | fld c o f =>
    simp only [asgT]
    cases ev ge cf o τ st with
    | ok x st1 =>
      simp only [Res.toS_ok]
      unfold insR
      (repeat' split) <;> first | exact .inl ⟨_, _, rfl⟩ | exact .inr (.inr rfl) | (dsimp only; split <;> first | exact .inl ⟨_, _, rfl⟩ | exact .inr (.inr rfl))
    | exc x st1 => exact .inr (.inl ⟨_, _, _, rfl⟩)
    | err => exact .inr (.inr rfl)
  | sub o i =>
    simp only [asgT]
    cases ev ge cf o τ st with
    | ok x st1 =>
      simp only [Res.toS_ok]
      cases ev ge cf i τ st1 with
      | ok y st2 =>
        simp only [Res.toS_ok]
        split
        · exact .inl ⟨_, _, rfl⟩
        · exact .inr (.inr rfl)
      | exc y st2 => exact .inr (.inl ⟨_, _, _, rfl⟩)
      | err => exact .inr (.inr rfl)
    | exc x st1 => exact .inr (.inl ⟨_, _, _, rfl⟩)
    | err => exact .inr (.inr rfl)
theorem asg_nx {K : PySem.W.Frag} {W : WT} {φ : Wd} {H : Hp} {t : CT} {d : D} {τ : Slots} {st : Store} {E : Ends} (h : PostS K W φ H (asgT ge cf t d τ st) E) : PostS K W φ H (asgT ge cf t d τ st) { nx := E.nx, rt := fun _ _ => False } := by
  rcases asgT_form (ge := ge) (cf := cf) t d τ st with ⟨τ', st', e⟩ | ⟨x, τ', st', e⟩ | e <;> rw [e] at h ⊢ <;> exact h
theorem asg_read {t : CT} {e : CE} {E : Ends} {σ : L2.St} {H : Hp} (h : tSt X.K W (ex ge cf (.asg t e)) E σ H) : tAsg (tD X.K W (ev ge cf e)) (gA X.K W fun d τ st => asgT ge cf t d τ st) E σ H := by
  obtain ⟨φ, τ, st, rs, sim, post⟩ := h
  have post : PostS X.K W φ H ((ev ge cf e τ st).toS τ fun d st => asgT ge cf t d τ st) E := post
  exact ⟨φ, τ, st, rs, sim, post.toS rs fun d st1 φ1 H1 v e1 s1 rv p1 => ⟨φ1, τ, st1, d, rs.ext e1, s1, rv, asg_nx p1⟩⟩
theorem asg_name {i : Nat} {e : CE} {E : Ends} {σ : L2.St} {H : Hp} (h : tSt X.K W (ex ge cf (.asg (.name i) e)) E σ H) : tD X.K W (ev ge cf e) σ H (fun x H1 => gName i x σ H1 E.nx) := by
  obtain ⟨φ, τ, st, rs, sim, post⟩ := h
  have post : PostS X.K W φ H ((ev ge cf e τ st).toS τ fun d st => .nx (τ.set i (some d)) st) E := post
  exact ⟨φ, τ, st, rs, sim, post.toS rs fun d st1 φ1 H1 v e1 s1 rv p1 => p1 φ1 H1 _ Ext.refl s1 ((rs.ext e1).set rv i)⟩
theorem block_fn {env : Env} (h : env.scope.kind = .function) : env.blockKind = .function := by unfold Env.blockKind; rw [h]; rfl
theorem sw_other {v : Expr} {t : Option Expr} {l : Nat} {env : Env} (g : good v = true) (h : isLc v = false) : swapsWith v t l env = pure false := by
  cases v <;> first | rfl | (cases g; done) | (cases h; done)
theorem chk_tup {N : List Str} {sc : Scope} {c : CE} {vs : List Expr} {k : Nat} {p : Pos} (h : chkE N sc c (.Tuple vs k p) = true) : ∃ es, c = .tup es ∧ chkEs N sc es vs = true := by
  cases c <;> first | exact ⟨_, rfl, h⟩ | cases h | skip
  · rename_i l; cases l <;> cases h
  · rename_i l; cases l <;> cases h
theorem chk_lc {N : List Str} {sc : Scope} {c : CE} {elt : Expr} {gs : List Comprehension} {scope : Scope} {p : Pos} (h : chkE N sc c (.ListComp elt gs scope p) = true) :
    (∃ t one it q b, c = .new (.comp t one it q b) ∧ chkL N sc (.comp t one it q b) (.ListComp elt gs scope p) = true) ∨ ∃ t one it q b, c = .cell (.comp t one it q b) ∧ chkL N sc (.comp t one it q b) (.ListComp elt gs scope p) = true := by
  cases c <;> first | cases h | skip
  · rename_i l
    cases l <;> first | exact .inl ⟨_, _, _, _, _, rfl, h⟩ | cases h
  · rename_i l
    cases l <;> first | exact .inr ⟨_, _, _, _, _, rfl, h⟩ | cases h
def isStarred (e : Expr) : Bool := match e with | .Starred .. => true | _ => false
theorem star1 {e : Expr} (g : good e = true) : isStarred e = false := by
  cases e <;> first | rfl | (cases g; done)
theorem par_sw2 {env : Env} {x y : Str} {px py pt pt2 : Pos} {kt k2 : Nat} {a b : Expr} (hk : env.scope.kind = .function) (ga : good a = true) (gb : good b = true) (h : parB env.scope [.Name x px, .Name y py] [a, b] = true) :
    swappedStores [.Tuple [.Name x px, .Name y py] kt pt] (.Tuple [a, b] k2 pt2) env = pure (some [x, y]) := by
  simp only [parB, Bool.and_eq_true, decide_eq_true_eq, Bool.not_eq_true', beq_eq_false_iff_ne] at h
  obtain ⟨⟨⟨⟨⟨h1, h2⟩, h3⟩, h4⟩, h5⟩, h6⟩ := h
  have kx : (env.kindOf x == some .local) = true := by show (env.scope.names.lookup x == some .local) = true; rw [h1]; rfl
  have ky : (env.kindOf y == some .local) = true := by show (env.scope.names.lookup y == some .local) = true; rw [h2]; rfl
  have st : ([a, b].any fun | .Starred .. => true | _ => false) = false := by
    show (isStarred a || (isStarred b || false)) = false
    rw [star1 ga, star1 gb]; rfl
  have hb : (env.blockKind != .function) = false := by rw [block_fn hk]; rfl
  have hyx : (y == x) = false := beq_eq_false_iff_ne.mpr (Ne.symm h4)
  have lines : (px.line == px.line) = true := beq_self_eq_true _
  have line2 : (py.line == px.line) = true := by rw [h3]; exact lines
  unfold swappedStores
  simp only [List.length_cons, List.length_nil, st, hb, h5, h6, List.filterMap_cons, List.filterMap_nil, kx, ky, List.head?_cons, Option.map_some, Option.getD_some, Expr.pos, lines, line2, Bool.and_self, if_true]
  simp [List.eraseDups_cons, hyx, List.eraseDups_nil]
  intro hst
  exfalso
  rcases hst with hst | hst
  · exact Bool.false_ne_true ((star1 ga).symm.trans hst)
  · exact Bool.false_ne_true ((star1 gb).symm.trans hst)
theorem par_sw3 {env : Env} {x y z : Str} {px py pz pt pt2 : Pos} {kt k2 : Nat} {a b c : Expr} (hk : env.scope.kind = .function) (ga : good a = true) (gb : good b = true) (gc : good c = true) (h : parB env.scope [.Name x px, .Name y py, .Name z pz] [a, b, c] = true) :
    swappedStores [.Tuple [.Name x px, .Name y py, .Name z pz] kt pt] (.Tuple [a, b, c] k2 pt2) env = pure (some [x, y, z]) := by
  simp only [parB, Bool.and_eq_true, decide_eq_true_eq, Bool.not_eq_true', beq_eq_false_iff_ne] at h
  obtain ⟨⟨⟨⟨⟨⟨⟨⟨⟨h1, h2⟩, h3⟩, h4⟩, h5⟩, h6⟩, h7⟩, h8⟩, h9⟩, h10⟩ := h
  have kx : (env.kindOf x == some .local) = true := by show (env.scope.names.lookup x == some .local) = true; rw [h1]; rfl
  have ky : (env.kindOf y == some .local) = true := by show (env.scope.names.lookup y == some .local) = true; rw [h2]; rfl
  have kz : (env.kindOf z == some .local) = true := by show (env.scope.names.lookup z == some .local) = true; rw [h3]; rfl
  have st : ([a, b, c].any fun | .Starred .. => true | _ => false) = false := by
    show (isStarred a || (isStarred b || (isStarred c || false))) = false
    rw [star1 ga, star1 gb, star1 gc]; rfl
  have hb : (env.blockKind != .function) = false := by rw [block_fn hk]; rfl
  have hyx : (y == x) = false := beq_eq_false_iff_ne.mpr (Ne.symm h6)
  have hzx : (z == x) = false := beq_eq_false_iff_ne.mpr (Ne.symm h7)
  have hzy : (z == y) = false := beq_eq_false_iff_ne.mpr (Ne.symm h8)
  have lines : (px.line == px.line) = true := beq_self_eq_true _
  have line2 : (py.line == px.line) = true := by rw [h4]; exact lines
  have line3 : (pz.line == px.line) = true := by rw [h5]; exact lines
  unfold swappedStores
  simp only [List.length_cons, List.length_nil, st, hb, h9, h10, List.filterMap_cons, List.filterMap_nil, kx, ky, kz, List.head?_cons, Option.map_some, Option.getD_some, Expr.pos, lines, line2, line3, Bool.and_self, if_true]
  simp [List.eraseDups_cons, hyx, hzx, hzy, List.eraseDups_nil]
  intro hst
  exfalso
  rcases hst with hst | hst | hst
  · exact Bool.false_ne_true ((star1 ga).symm.trans hst)
  · exact Bool.false_ne_true ((star1 gb).symm.trans hst)
  · exact Bool.false_ne_true ((star1 gc).symm.trans hst)
theorem sw_folded {env : Env} {ts vs : List Expr} {kt k2 : Nat} {pt pt2 : Pos} (h : vs.all (foldedForSure 8) = true) : swappedStores [.Tuple ts kt pt] (.Tuple vs k2 pt2) env = pure none := by
  unfold swappedStores
  simp only [h, if_true]
  (repeat' split) <;> rfl
theorem sw_cell {env : Env} {ts vs : List Expr} {kt k2 : Nat} {pt pt2 : Pos} (h : celB env.scope ts vs = true) : swappedStores [.Tuple ts kt pt] (.Tuple vs k2 pt2) env = pure none := by
  unfold celB at h
  split at h
  · rename_i x px y py a b
    rw [Bool.or_eq_true, Bool.not_eq_true', Bool.not_eq_true'] at h
    have kk : (env.kindOf x == some .local) = false ∨ (env.kindOf y == some .local) = false := h
    unfold swappedStores
    rcases kk with kx | ky
    · simp only [List.filterMap_cons, List.filterMap_nil, kx, Bool.false_and, Bool.false_eq_true, if_false, List.length_nil, List.length_cons]
      (repeat' split) <;> first | rfl | simp_all
    · simp only [List.filterMap_cons, List.filterMap_nil, ky, Bool.false_and, Bool.false_eq_true, if_false, List.length_nil, List.length_cons]
      (repeat' split) <;> first | rfl | simp_all
  · cases h
/-- name = [..] -/
theorem asgLc (o : OkS ge cf X W) {i : Nat} {x : Str} {px pos lp : Pos} {elt : Expr} {gs : List Comprehension} {scope : Scope} {c : CE} (hN : X.N[i]? = some x) (hl : locB X.env.scope x = true) (h : chkE X.N X.env.scope c (.ListComp elt gs scope lp) = true) :
    PS X (.Assign [.Name x px] (.ListComp elt gs scope lp) pos) (tSt X.K W (ex ge cf (.asg (.name i) c))) := by
  have he := (ihE ge cf c).e X W _ o.ok o.cl h
  have hsw : swapsWith (.ListComp elt gs scope lp) (some (.Name x px)) pos.line X.env = pure (X.env.blockKind == .function && X.env.kindOf x == some .local && px.line == lp.line && !(scope.names.any fun (n, k) => n == x && (k == .local || k == .cell))) := rfl
  cases hb : (X.env.blockKind == .function && X.env.kindOf x == some .local && px.line == lp.line && !(scope.names.any fun (n, k) => n == x && (k == .local || k == .cell))) with
  | false =>
    rw [hb] at hsw
    refine PS.weak (ps_set o.ok.nd hN (locB_ok hl) he hsw (.inl (o.fn x))) fun E σ H q => ?_
    exact asg_name q
  | true =>
    rw [hb] at hsw
    simp only [Bool.and_eq_true] at hb
    have hloc : X.env.scope.names.lookup x = some .local := by
      have := hb.1.1.2
      exact eq_of_beq this
    have key : ∀ t one it q b, chkL X.N X.env.scope (.comp t one it q b) (.ListComp elt gs scope lp) = true → (∀ σ H Q, tD X.K W (ev ge cf c) σ H Q → tO X.K W (evl ge cf (.comp t one it q b)) σ H Q) → PS X (.Assign [.Name x px] (.ListComp elt gs scope lp) pos) (tSt X.K W (ex ge cf (.asg (.name i) c))) := by
      intro t one it q b hL hO
      obtain ⟨elt', tg, iter, ifs, k, scope', pos', e⟩ := iv_comp hL
      cases e
      simp only [chkL, Bool.and_eq_true, decide_eq_true_eq] at hL
      obtain ⟨⟨⟨⟨⟨rfl, h1⟩, h2⟩, h3⟩, h4⟩, h5⟩ := hL
      have hI := (ihI ge cf it).i X W tg iter o.ok o.cl h3
      obtain ⟨g, tt, te, p1, p2, p3, p4, rd⟩ := lcO o.ok.calm o.ok.nd (pos := lp) h1 h2 hI.1 (fun s H C cs fp => (ihO ge cf q).f (X.blk s H scope (compEnvC scope cs C X.env) fp) noWT ifs (o.ok.blk _ _ _ _ _) (o.cl.blk _ _ _ _ _) h4)
        (fun s H C cs fp => (ihE ge cf b).e (X.blk s H scope (compEnvC scope cs C X.env) fp) noWT elt (o.ok.blk _ _ _ _ _) (o.cl.blk _ _ _ _ _) h5)
      refine PS.weak (ps_setLc o.ok.calm o.ok.nd hN hloc hsw p1 (blkOk_by h1) p2 p3 p4 hI.2) fun E σ H q => ?_
      exact rd σ H _ (hO σ H _ (asg_name q))
    rcases chk_lc h with ⟨t, one, it, q, b, rfl, hL⟩ | ⟨t, one, it, q, b, rfl, hL⟩
    · exact key t one it q b hL fun σ H Q z => own_frz (f := evl ge cf (.comp t one it q b)) z
    · exact key t one it q b hL fun σ H Q z => own_cell (f := evl ge cf (.comp t one it q b)) z
theorem parRead {is : List Nat} {es : CEs} {E : Ends} {σ : L2.St} {H : Hp} (h : tSt X.K W (ex ge cf (.asg (.names is) (.tup es))) E σ H) : tDs X.K W (evs ge cf es) σ H (fun vs H1 => vs.length = is.length ∧ E.nx (setAllV σ is vs) H1) := by
  obtain ⟨φ, τ, st, rs, sim, post⟩ := h
  have post : PostS X.K W φ H (((evs ge cf es τ st).bind fun xs st => gd (xs.length ≤ lineN) (.ok (.tup xs) st)).toS τ fun d st => asgT ge cf (.names is) d τ st) E := post
  refine ⟨φ, τ, st, rs, sim, ?_⟩
  cases e : evs ge cf es τ st with
  | exc d st1 => rw [e] at post; exact fun φ1 H1 e1 s1 => post φ1 H1 σ e1 s1 (rs.ext e1)
  | err => rw [e] at post; exact post
  | ok xs st1 =>
    rw [e] at post
    simp only [Res.bind_ok, gd] at post
    intro φ1 H1 vs e1 s1 rv
    split at post
    · simp only [Res.toS_ok, asgT, items, deref] at post
      by_cases hl : xs.length = is.length
      · simp only [if_pos hl] at post
        exact ⟨by rw [RepVs.length rv]; exact hl, post φ1 H1 _ e1 s1 ((rs.ext e1).setAll rv)⟩
      · simp only [if_neg hl] at post; exact post.elim
    · exact post.elim
theorem iv_par {sc : Scope} {es vs : List Expr} (h : parB sc es vs = true) : (∃ x px y py a b, es = [.Name x px, .Name y py] ∧ vs = [a, b]) ∨ ∃ x px y py z pz a b c, es = [.Name x px, .Name y py, .Name z pz] ∧ vs = [a, b, c] := by
  unfold parB at h
  split at h
  · exact .inl ⟨_, _, _, _, _, _, rfl, rfl⟩
  · exact .inr ⟨_, _, _, _, _, _, _, _, _, rfl, rfl⟩
  · cases h
theorem iv_asg {N : List Str} {sc : Scope} {t : CT} {e : CE} {s : Stmt} (h : chkS N sc (.asg t e) s = true) : ∃ tg v pos, s = .Assign [tg] v pos ∧ (chkTg N sc t tg = true ∨ chkTd N sc t tg = true) ∧ chkE N sc e v = true ∧ asgB sc tg v = true := by
  cases s <;> first | (cases h; done) | skip
  rename_i tgs v pos
  match tgs, h with
  | [], h => cases h
  | _ :: _ :: _, h => cases h
  | [tg], h =>
    have h : ((chkTg N sc t tg || chkTd N sc t tg) && chkE N sc e v && asgB sc tg v) = true := h
    simp only [Bool.and_eq_true, Bool.or_eq_true] at h
    exact ⟨tg, v, pos, rfl, h.1.1, h.1.2, h.2⟩
theorem PostS.dictR_inv {K : PySem.W.Frag} {W : WT} {φ : Wd} {H : Hp} {E : Ends} {st : Store} {x : D} {t : Bool} {k : Option (List KY)} {f : Nat → List (List KY × D) → List KY → RS}
    (h : PostS K W φ H (dictR st x t k .err f) E) : ∃ j kvs k', x = .ref j ∧ st[j]? = some (.dict t kvs) ∧ k = some k' ∧ PostS K W φ H (f j kvs k') E := by
  unfold dictR at h
  split at h
  · rename_i j
    split at h
    · rename_i t' kvs e
      split at h
      · rename_i k'
        split at h
        · rename_i et
          subst et
          exact ⟨j, kvs, k', rfl, e, rfl, h⟩
        · exact h.elim
      · exact h.elim
    · exact h.elim
  · exact h.elim
theorem PostS.insR_inv {K : PySem.W.Frag} {W : WT} {φ : Wd} {H : Hp} {E : Ends} {st : Store} {x : D} {c : String} {f : Nat → List (String × D) → RS}
    (h : PostS K W φ H (insR st x c .err f) E) : ∃ j fs, x = .ref j ∧ st[j]? = some (.ins c fs) ∧ PostS K W φ H (f j fs) E := by
  unfold insR at h
  split at h
  · rename_i j
    split at h
    · rename_i c' fs e
      split at h
      · rename_i ec
        subst ec
        exact ⟨j, fs, rfl, e, h⟩
      · exact h.elim
    · exact h.elim
  · exact h.elim
/-- d[k] = .., o.f = .. -/
def isAt : Expr → Bool
  | .Attribute _ _ _ => true
  | _ => false
theorem sw_att {v x : Expr} {a : Str} {p : Pos} {l : Nat} {env : Env} (g : good v = true) : swapsWith v (some (.Attribute x a p)) l env = pure false := by
  cases v <;> first | rfl | (cases g; done)
theorem asgTd (o : OkS ge cf X W) {t : CT} {e : CE} {tg v : Expr} {pos : Pos} (h1 : chkTd X.N X.env.scope t tg = true) (h2 : chkE X.N X.env.scope e v = true) (hlc : isLc v = false ∨ isAt tg = true) : PS X (.Assign [tg] v pos) (tSt X.K W (ex ge cf (.asg t e))) := by
  have room := o.ok.room
  have hv := (ihE ge cf e).e X W v o.ok o.cl h2
  cases t with
  | dputK c k =>
    cases tg <;> first | (cases h1; done) | skip
    rename_i x y p
    simp only [chkTd, Bool.and_eq_true] at h1
    refine PS.weak (ps_dput (by omega) ((ihE ge cf c).e X W x o.ok o.cl h1.1) ((ihE ge cf k).e X W y o.ok o.cl h1.2) hv (sw_other (good_of h2) (hlc.resolve_right (fun z => by cases z)))) fun E σ H ⟨φ, τ, st, rs, sim, post⟩ => ?_
    have post : PostS X.K W φ H ((ev ge cf e τ st).toS τ fun d st => (ev ge cf c τ st).toS τ fun ov st => (ev ge cf k τ st).toS τ fun y st => dictR st ov false (keyD1 y) .err fun j kvs k => if kvs.length < lineN then .nx τ (st.set j (.dict false (putD kvs k d))) else .err) E := post
    refine ⟨φ, τ, st, rs, sim, post.toS rs fun d st1 φ1 H1 w e1 s1 rw1 p1 => ?_⟩
    refine ⟨φ1, τ, st1, rs.ext e1, s1, p1.toS (rs.ext e1) fun ov st2 φ2 H2 u e2 s2 ru p2 => ?_⟩
    refine ⟨φ2, τ, st2, (rs.ext e1).ext e2, s2, p2.toS ((rs.ext e1).ext e2) fun y st3 φ3 H3 z e3 s3 rz p3 => ?_⟩
    obtain ⟨j, kvs, k', rfl, hj, hk', p4⟩ := p3.dictR_inv
    obtain ⟨a, vs, rfl, hc, g1, g2⟩ := dK_at s3 (ru.ext e3) hj
    obtain ⟨q, rfl, rfl⟩ := key_at rz hk'
    by_cases hl : kvs.length < lineN
    · rw [if_pos hl] at p4
      have rw3 := (rw1.ext e2).ext e3
      have hl2 : vs.length < sizeLine := by rw [g2.len, ← line_eq]; exact hl
      refine ⟨a, _, rfl, DPut.k g1 hl2, ?_⟩
      have e4 := Ext.put s3 (o := .dK (putK vs (kyV q) w)) hc
      exact p4 φ3 _ σ e4 (s3.put (c := .dict false (putD kvs [q] d)) hc ⟨_, upd_same, (g2.put rw3).ext0 e4.toExt0⟩) ((((rs.ext e1).ext e2).ext e3).ext e4)
    · rw [if_neg hl] at p4; exact p4.elim
  | dputT c es =>
    cases tg <;> first | (cases h1; done) | skip
    rename_i x y p
    cases y <;> first | (cases h1; done) | skip
    rename_i ys kk yp
    simp only [chkTd, Bool.and_eq_true] at h1
    refine PS.weak (ps_dput (by omega) ((ihE ge cf c).e X W x o.ok o.cl h1.1) (pe_tup ((ihEs ge cf es).e X W ys o.ok o.cl h1.2)) hv (sw_other (good_of h2) (hlc.resolve_right (fun z => by cases z)))) fun E σ H ⟨φ, τ, st, rs, sim, post⟩ => ?_
    have post : PostS X.K W φ H ((ev ge cf e τ st).toS τ fun d st => (ev ge cf c τ st).toS τ fun ov st => (evs ge cf es τ st).toS τ fun ks st => dictR st ov true (keysA ks) .err fun j kvs k => if kvs.length < lineN ∧ ks.length ≤ lineN then .nx τ (st.set j (.dict true (putD kvs k d))) else .err) E := post
    refine ⟨φ, τ, st, rs, sim, post.toS rs fun d st1 φ1 H1 w e1 s1 rw1 p1 => ?_⟩
    refine ⟨φ1, τ, st1, rs.ext e1, s1, p1.toS (rs.ext e1) fun ov st2 φ2 H2 u e2 s2 ru p2 => ?_⟩
    refine ⟨φ2, τ, st2, (rs.ext e1).ext e2, s2, p2.toS ((rs.ext e1).ext e2) fun ks st3 φ3 H3 zs e3 s3 rzs p3 => ?_⟩
    obtain ⟨j, kvs, k', rfl, hj, hk', p4⟩ := p3.dictR_inv
    by_cases hl : kvs.length < lineN ∧ ks.length ≤ lineN
    · rw [if_pos hl] at p4
      refine ⟨by rw [RepVs.length rzs, ← line_eq]; exact hl.2, fun b hb => ?_⟩
      obtain ⟨a, vs, rfl, hc, g1, g2⟩ := dT_at s3 (ru.ext e3) hj
      have ek := keys_at' rzs hk'
      have rw3 := (rw1.ext e2).ext e3
      have hl2 : vs.length < sizeLine := by rw [g2.len, ← line_eq]; exact hl.1
      have ef : Ext X.K φ3 H3 φ3 (upd H3 b (.tup zs)) := Ext.fresh hb
      have s4 := s3.new (o := .tup zs) hb
      have g3 : upd H3 b (.tup zs) a = some (.dT vs) := by rw [upd_ne (ne_of_none g1 hb)]; exact g1
      refine ⟨a, _, rfl, DPut.t (k := k'.map kyV) g3 (by rw [upd_same, ek]) hl2, ?_⟩
      have e4 := Ext.put s4 (o := .dT (putK vs (k'.map kyV) w)) hc
      exact p4 φ3 _ σ (ef.trans e4) (s4.put (c := .dict true (putD kvs k' d)) hc ⟨_, upd_same, ((g2.ext0 ef.toExt0).put (rw3.ext ef)).ext0 e4.toExt0⟩) (((((rs.ext e1).ext e2).ext e3).ext ef).ext e4)
    · rw [if_neg hl] at p4; exact p4.elim
  | fld c q f =>
    cases tg <;> first | (cases h1; done) | skip
    rename_i x a p
    simp only [chkTd, Bool.and_eq_true, decide_eq_true_eq] at h1
    obtain ⟨⟨rfl, g0⟩, g1⟩ := h1
    refine PS.weak (ps_fld ((ihE ge cf q).e X W x o.ok o.cl g1) hv (sw_att (good_of h2))) fun E σ H ⟨φ, τ, st, rs, sim, post⟩ => ?_
    have post : PostS X.K W φ H ((ev ge cf e τ st).toS τ fun d st => (ev ge cf q τ st).toS τ fun ov st => insR st ov c .err fun j fs => if fs.length < 1000 ∧ ge.cl c = true ∧ ge.fd c f = true then .nx τ (st.set j (.ins c (putFD f d fs))) else .err) E := post
    refine ⟨φ, τ, st, rs, sim, post.toS rs fun d st1 φ1 H1 w e1 s1 rw1 p1 => ?_⟩
    refine ⟨φ1, τ, st1, rs.ext e1, s1, p1.toS (rs.ext e1) fun ov st2 φ2 H2 u e2 s2 ru p2 => ?_⟩
    obtain ⟨j, fs, rfl, hj, p4⟩ := p2.insR_inv
    obtain ⟨a, dx, vs, rfl, hc, g3, g4⟩ := ins_at s2 ru hj
    by_cases hl : fs.length < 1000 ∧ ge.cl c = true ∧ ge.fd c f = true
    · rw [if_pos hl] at p4
      refine ⟨a, _, dx, vs, rfl, g3, o.ok.cls c hl.2.1, o.ok.noat c f hl.2.2, by rw [g4.len]; exact hl.1, ?_⟩
      have e4 := Ext.put s2 (o := .ins (He.ga X.K (Str.ofString c)) dx (putF (Str.ofString f) w vs)) hc
      exact p4 φ2 _ σ e4 (s2.put (c := .ins c (putFD f d fs)) hc ⟨dx, _, upd_same, (g4.put (rw1.ext e2)).ext0 e4.toExt0⟩) (((rs.ext e1).ext e2).ext e4)
    · rw [if_neg hl] at p4; exact p4.elim
  | _ => cases tg <;> cases h1
theorem asgOk (o : OkS ge cf X W) {t : CT} {e : CE} {s : Stmt} (h : chkS X.N X.env.scope (.asg t e) s = true) : PS X s (tSt X.K W (ex ge cf (.asg t e))) := by
  obtain ⟨tg, v, pos, rfl, h1, h2, h3⟩ := iv_asg h
  clear h
  have gv := good_of h2
  rcases h1 with h1 | h1
  case inr =>
    refine asgTd o h1 h2 ?_
    cases tg with
    | Subscript => exact .inl (by simpa [asgB] using h3)
    | Attribute => exact .inr rfl
    | _ => cases t <;> cases h1
  have plain : isLc v = false → (swappedStores [tg] v X.env = pure none) → ((assignEach [tg] X.env).map (·.2) = [assign tg X.env]) → PS X (.Assign [tg] v pos) (tSt X.K W (ex ge cf (.asg t e))) := fun hlc hsw hea =>
    PS.weak (ps_asg ((ihE ge cf e).e X W v o.ok o.cl h2) (pgA o h1) (sw_other gv hlc) hsw hea) fun E σ H q => asg_read q
  cases tg with
  | Name x p =>
    cases hlc : isLc v with
    | false => exact plain hlc rfl rfl
    | true =>
      cases v <;> first | (cases hlc; done) | skip
      cases t <;> first | (cases h1; done) | skip
      simp only [chkTg, Bool.and_eq_true, decide_eq_true_eq] at h1
      exact asgLc o h1.1 h1.2 h2
  | Tuple es k p =>
    cases ht : isTup v with
    | false =>
      have hlc : isLc v = false := by
        cases v <;> first | rfl | (cases ht; done) | (cases h3; done)
      refine plain hlc ?_ rfl
      cases v <;> first | rfl | (cases ht; done)
    | true =>
      cases v <;> first | (cases ht; done) | skip
      rename_i vs k2 p2
      have h3 : (parB X.env.scope es vs || (vs.all (foldedForSure 8) || celB X.env.scope es vs)) = true := h3
      rw [Bool.or_eq_true] at h3
      rcases h3 with h3 | h3
      case inr =>
        rw [Bool.or_eq_true] at h3
        rcases h3 with h3 | h3
        · exact plain rfl (sw_folded h3) rfl
        · exact plain rfl (sw_cell h3) rfl
      obtain ⟨ces, rfl, hes⟩ := chk_tup h2
      have hg := goods hes
      have hA := (ihEs ge cf ces).e X W vs o.ok o.cl hes
      have nn : ∀ i js, t ≠ .nest i js := by
        rintro i js rfl
        rcases iv_par h3 with ⟨x, px, y, py, a, b, rfl, rfl⟩ | ⟨x, px, y, py, z, pz, a, b, c, rfl, rfl⟩ <;> simp [chkTg] at h1
      cases t <;> first | (cases h1; done) | (exact absurd rfl (nn _ _)) | skip
      rename_i is
      have h1 : chkNames X.N X.env.scope is es = true := h1
      rcases iv_par h3 with ⟨x, px, y, py, a, b, rfl, rfl⟩ | ⟨x, px, y, py, z, pz, a, b, c, rfl, rfl⟩
      · have hsw := par_sw2 (kt := k) (k2 := k2) (pt := p) (pt2 := p2) o.kind (hg a (by simp)) (hg b (by simp)) (show parB X.env.scope [.Name x px, .Name y py] [a, b] = true from h3)
        simp only [parB, Bool.and_eq_true, decide_eq_true_eq] at h3
        match is, h1 with
        | [i, j], h1 =>
          simp only [chkNames, Bool.and_eq_true, decide_eq_true_eq] at h1
          have hij : i ≠ j := fun e => by
            subst e
            have := h1.1.1.symm.trans h1.2.1.1
            cases this
            simp at h3
          refine PS.weak (ps_par o.ok.calm o.ok.nd h1.1.1 h1.2.1.1 hij h3.1.1.1.1.1 h3.1.1.1.1.2 hA hsw rfl) fun E σ H q => ?_
          obtain ⟨φ, τ, st, rs, sim, post⟩ := parRead q
          refine ⟨φ, τ, st, rs, sim, post.bind' fun vs H1 ⟨hl, hq⟩ => ?_⟩
          match vs, hl, hq with
          | [v, w], _, hq => exact ⟨v, w, rfl, hq⟩
        | [], h1 => cases h1
        | [_], h1 => simp [chkNames] at h1
        | _ :: _ :: _ :: _, h1 => simp [chkNames] at h1
      · have hsw := par_sw3 (kt := k) (k2 := k2) (pt := p) (pt2 := p2) o.kind (hg a (by simp)) (hg b (by simp)) (hg c (by simp)) (show parB X.env.scope [.Name x px, .Name y py, .Name z pz] [a, b, c] = true from h3)
        simp only [parB, Bool.and_eq_true, decide_eq_true_eq] at h3
        match is, h1 with
        | [i, j, l], h1 =>
          simp only [chkNames, Bool.and_eq_true, decide_eq_true_eq] at h1
          have hij : i ≠ j := fun e => by
            subst e
            have := h1.1.1.symm.trans h1.2.1.1
            cases this
            simp at h3
          have hil : i ≠ l := fun e => by
            subst e
            have := h1.1.1.symm.trans h1.2.2.1.1
            cases this
            simp at h3
          have hjl : j ≠ l := fun e => by
            subst e
            have := h1.2.1.1.symm.trans h1.2.2.1.1
            cases this
            simp at h3
          refine PS.weak (ps_par3 o.ok.calm o.ok.nd h1.1.1 h1.2.1.1 h1.2.2.1.1 hij hil hjl h3.1.1.1.1.1.1.1.1.1 h3.1.1.1.1.1.1.1.1.2 h3.1.1.1.1.1.1.1.2 hA hsw rfl) fun E σ H q => ?_
          obtain ⟨φ, τ, st, rs, sim, post⟩ := parRead q
          refine ⟨φ, τ, st, rs, sim, post.bind' fun vs H1 ⟨hl, hq⟩ => ?_⟩
          match vs, hl, hq with
          | [v, w, u], _, hq => exact ⟨v, w, u, rfl, hq⟩
        | [], h1 => cases h1
        | [_], h1 => simp [chkNames] at h1
        | [_, _], h1 => simp [chkNames] at h1
        | _ :: _ :: _ :: _ :: _, h1 => simp [chkNames] at h1
  | Subscript a b p =>
    have h3 : (!isLc v) = true := h3
    simp only [Bool.not_eq_true'] at h3
    refine plain h3 ?_ rfl
    cases v <;> rfl
  | _ => cases t <;> cases h1
end
end PC
end
section
set_option Elab.async false
set_option linter.all false
set_option autoImplicit false
set_option maxRecDepth 100000
set_option maxHeartbeats 1000000
/-! What stays when cells go. -/
namespace PC
open PySem L2 PyProof.Rows
section
variable {K : PySem.W.Frag} {φ φ2 : Wd} {H : Hp} {st : Store}
/-- what a value names lies among the cells -/
theorem RepV.cl {n : Nat} (hn : φ.c.length = n) : ∀ {v : V} {d : D}, RepV K φ H v d → closed n d = true := by
  intro v d h
  refine RepV.rec (motive_1 := fun v d _ => closed n d = true) (motive_2 := fun vs ds _ => closeds n ds = true) ?_ ?_ ?_ ?_ ?_ ?_ ?_ ?_ ?_ ?_ ?_ ?_ h
  · rfl
  · intro b; rfl
  · intro i; rfl
  · intro s; rfl
  · intro p vs ds _ _ ih; exact ih
  · intro p vs ds _ _ ih; exact ih
  · intro p k h
    obtain ⟨h1, _⟩ := List.getElem?_eq_some_iff.mp h
    exact decide_eq_true (hn ▸ h1)
  · intro p vs ds _ _ ih; exact ih
  · intros; rfl
  · intros; rfl
  · rfl
  · intro v d vs ds _ _ a b
    show (closed n d && closeds n ds) = true
    rw [a, b]; rfl
theorem RepVs.cl {n : Nat} (hn : φ.c.length = n) : ∀ {vs : List V} {ds : List D}, RepVs K φ H vs ds → closeds n ds = true
  | _, _, .nil => rfl
  | _, _, .cons a b => by
    show (closed n _ && closeds n _) = true
    rw [a.cl hn, RepVs.cl hn b]; rfl
mutual
theorem RepV.less {n : Nat} (hc : φ2.c = φ.c.take n) (hF : ∀ p, φ.F p → φ2.F p) : ∀ {v : V} {d : D}, RepV K φ H v d → closed n d = true → RepV K φ2 H v d
  | _, _, .non, _ => .non
  | _, _, .bl b, _ => .bl b
  | _, _, .int i, _ => .int i
  | _, _, .str s, _ => .str s
  | _, _, .tup a b, h => .tup a (RepVs.less hc hF b h)
  | _, _, .lst a b, h => .lst ⟨a.1, hF _ a.2⟩ (RepVs.less hc hF b h)
  | _, _, .scr a b, h => .scr (a.elim (fun z => .inl ⟨z.1, hF _ z.2⟩) .inr) (RepVs.less hc hF b h)
  | _, _, .kset a b c, _ => .kset a (hF _ b) c
  | _, _, .exc a b, _ => .exc a (hF _ b)
  | _, _, .ref (k := k) e, h => .ref (by
    have hk : k < n := of_decide_eq_true h
    rw [hc, List.getElem?_take_of_lt hk]; exact e)
theorem RepVs.less {n : Nat} (hc : φ2.c = φ.c.take n) (hF : ∀ p, φ.F p → φ2.F p) : ∀ {v : List V} {d : List D}, RepVs K φ H v d → closeds n d = true → RepVs K φ2 H v d
  | _, _, .nil, _ => .nil
  | _, _, .cons (d := d) (ds := ds) a b, h => by
    have h : (closed n d && closeds n ds) = true := h
    rw [Bool.and_eq_true] at h
    exact .cons (RepV.less hc hF a h.1) (RepVs.less hc hF b h.2)
end
theorem RepK.less {n : Nat} (hc : φ2.c = φ.c.take n) (hF : ∀ p, φ.F p → φ2.F p) : ∀ {v : List (Key × V)} {d : List (List KY × D)}, RepK K φ H v d → (d.all fun p => closed n p.2) = true → RepK K φ2 H v d
  | _, _, .nil, _ => .nil
  | _, _, .cons a b, h => by
    rw [List.all_cons, Bool.and_eq_true] at h
    exact .cons (a.less hc hF h.1) (RepK.less hc hF b h.2)
theorem RepT.less {n : Nat} (hc : φ2.c = φ.c.take n) (hF : ∀ p, φ.F p → φ2.F p) : ∀ {v : List (List Key × V)} {d : List (List KY × D)}, RepT K φ H v d → (d.all fun p => closed n p.2) = true → RepT K φ2 H v d
  | _, _, .nil, _ => .nil
  | _, _, .cons a b, h => by
    rw [List.all_cons, Bool.and_eq_true] at h
    exact .cons (a.less hc hF h.1) (RepT.less hc hF b h.2)
theorem RepF.less {n : Nat} (hc : φ2.c = φ.c.take n) (hF : ∀ p, φ.F p → φ2.F p) : ∀ {v : List (Str × V)} {d : List (String × D)}, RepF K φ H v d → (d.all fun p => closed n p.2) = true → RepF K φ2 H v d
  | _, _, .nil, _ => .nil
  | _, _, .cons a b, h => by
    rw [List.all_cons, Bool.and_eq_true] at h
    exact .cons (a.less hc hF h.1) (RepF.less hc hF b h.2)
theorem RepK.cl {n : Nat} (hn : φ.c.length = n) : ∀ {v : List (Key × V)} {d : List (List KY × D)}, RepK K φ H v d → (d.all fun p => closed n p.2) = true
  | _, _, .nil => rfl
  | _, _, .cons a b => by rw [List.all_cons, a.cl hn, RepK.cl hn b]; rfl
theorem RepT.cl {n : Nat} (hn : φ.c.length = n) : ∀ {v : List (List Key × V)} {d : List (List KY × D)}, RepT K φ H v d → (d.all fun p => closed n p.2) = true
  | _, _, .nil => rfl
  | _, _, .cons a b => by rw [List.all_cons, a.cl hn, RepT.cl hn b]; rfl
theorem RepF.cl {n : Nat} (hn : φ.c.length = n) : ∀ {v : List (Str × V)} {d : List (String × D)}, RepF K φ H v d → (d.all fun p => closed n p.2) = true
  | _, _, .nil => rfl
  | _, _, .cons a b => by rw [List.all_cons, a.cl hn, RepF.cl hn b]; rfl
theorem RepC.less {n : Nat} (hc : φ2.c = φ.c.take n) (hF : ∀ p, φ.F p → φ2.F p) {p : Addr} {c : Cell} (h : RepC K φ H p c) (hcl : c.closed n = true) : RepC K φ2 H p c := by
  cases c with
  | lst ds =>
    obtain ⟨vs, e, r⟩ := h
    exact ⟨vs, e, r.less hc hF hcl⟩
  | dict t kvs =>
    cases t with
    | false => obtain ⟨vs, e, r⟩ := h; exact ⟨vs, e, r.less hc hF hcl⟩
    | true => obtain ⟨vs, e, r⟩ := h; exact ⟨vs, e, r.less hc hF hcl⟩
  | ins _ _ => obtain ⟨dx, vs, e, r⟩ := h; exact ⟨dx, vs, e, r.less hc hF hcl⟩
theorem RepC.cl {n : Nat} (hn : φ.c.length = n) {p : Addr} {c : Cell} (h : RepC K φ H p c) : c.closed n = true := by
  cases c with
  | lst ds =>
    obtain ⟨vs, e, r⟩ := h
    exact r.cl hn
  | dict t kvs =>
    cases t with
    | false => obtain ⟨vs, e, r⟩ := h; exact r.cl hn
    | true => obtain ⟨vs, e, r⟩ := h; exact r.cl hn
  | ins _ _ => obtain ⟨dx, vs, e, r⟩ := h; exact r.cl hn
theorem Sim.cl {n : Nat} (s : Sim K φ H st) (hn : st.length = n) : st.all (Cell.closed n) = true := by
  rw [List.all_eq_true]
  intro c hc
  obtain ⟨k, hk, e⟩ := List.getElem_of_mem hc
  have hk' : k < φ.c.length := by rw [s.len]; exact hk
  exact (s.cell k φ.c[k] c (List.getElem?_eq_getElem hk') (by rw [List.getElem?_eq_getElem hk, e])).cl (s.len.trans hn)
theorem Sim.less (s : Sim K φ H st) {n : Nat} (hc : φ2.c = φ.c.take n) (hF : ∀ p, φ.F p → φ2.F p) (hF2 : ∀ p, φ2.F p → p ∉ φ2.c ∧ ∃ u, H p = some u) (hcl : (st.take n).all (Cell.closed n) = true) : Sim K φ2 H (st.take n) := by
  refine ⟨by rw [hc, List.length_take, List.length_take, s.len], by rw [hc]; exact s.nd.sublist (List.take_sublist _ _), fun k p c hk hst => ?_, hF2⟩
  have hlt : k < n := by
    obtain ⟨h1, _⟩ := List.getElem?_eq_some_iff.mp hst
    rw [List.length_take] at h1
    omega
  rw [hc, List.getElem?_take_of_lt hlt] at hk
  have hm : c ∈ st.take n := List.mem_of_getElem? hst
  rw [List.getElem?_take_of_lt hlt] at hst
  exact (s.cell k p c hk hst).less hc hF (List.all_eq_true.mp hcl c hm)
theorem nd_take {α : Type} {xs : List α} (h : xs.Nodup) {k n : Nat} {x : α} (hx : xs[k]? = some x) (hk : n ≤ k) : x ∉ xs.take n := by
  intro hm
  obtain ⟨j, hj, e⟩ := List.getElem_of_mem hm
  rw [List.length_take] at hj
  obtain ⟨h1, h2⟩ := List.getElem?_eq_some_iff.mp hx
  rw [List.getElem_take] at e
  have hj' : j < xs.length := by omega
  have : j = k := (List.getElem?_inj hj' h).mp (by rw [hx, List.getElem?_eq_getElem hj', e])
  omega
end
theorem RepS.gone {K : PySem.W.Frag} {φ : Wd} {H : Hp} {σ : L2.St} {τ : Slots} (r : RepS K φ H σ τ) : ∀ vs : List Nat, RepS K φ H σ (PC.wipe τ vs)
  | [] => r
  | v :: vs => by
    have r := RepS.gone r vs
    show RepS K φ H σ ((PC.wipe τ vs).set v none)
    refine ⟨by rw [List.length_set]; exact r.len, fun j d' hj => ?_⟩
    by_cases e : v = j
    · subst e
      have hlt : v < (PC.wipe τ vs).length := by
        have := (List.getElem?_eq_some_iff.mp hj).1
        rwa [List.length_set] at this
      rw [List.getElem?_set_self hlt] at hj
      cases hj
    · rw [List.getElem?_set_ne e] at hj
      exact r.at_ j d' hj
theorem scpOk {K : PySem.W.Frag} {φ φ1 : Wd} {H H1 : Hp} {st st1 : Store} {σ : L2.St} {τ : Slots} (s0 : Sim K φ H st) (e : Ext K φ H φ1 H1) (s1 : Sim K φ1 H1 st1) (rs : RepS K φ1 H1 σ τ) :
    ∃ φ', Ext K φ H φ' H1 ∧ Sim K φ' H1 (scp st τ st1).2 ∧ RepS K φ' H1 σ (scp st τ st1).1 := by
  unfold scp
  split
  · exact ⟨φ1, e, s1, rs⟩
  split
  · rename_i hcl
    have hcl : (st1.take st.length).all (Cell.closed st.length) = true := hcl.elim (fun z => by rw [z]; exact s0.cl rfl) id
    have pre : ∀ (k : Nat) (p : Addr), φ.c[k]? = some p → (φ1.c.take st.length)[k]? = some p := fun k p hk => by
      have hk' : k < st.length := by
        obtain ⟨h1, _⟩ := List.getElem?_eq_some_iff.mp hk
        rw [← s0.len]; exact h1
      rw [List.getElem?_take_of_lt hk']; exact e.pre k p hk
    have out : ∀ q, q ∉ φ1.c.take st.length → q ∉ φ.c := fun q h hm => by
      obtain ⟨j, hj, ej⟩ := List.getElem_of_mem hm
      exact h (List.mem_of_getElem? (pre j q (by rw [List.getElem?_eq_getElem hj, ej])))
    let φ' : Wd := ⟨φ1.c.take st.length, fun q => φ1.F q ∨ (q ∉ φ1.c.take st.length ∧ q ∈ φ1.c ∧ ∃ vs, H1 q = some (.lst vs))⟩
    have hF : ∀ q, φ1.F q → φ'.F q := fun q z => .inl z
    refine ⟨φ', ⟨⟨pre, e.tup, fun q us a b => ⟨(e.lst q us a b).1, .inl (e.lst q us a b).2⟩⟩, e.keep, fun q hq => e.new q (List.mem_of_mem_take hq), fun q hq hq' => ?_, e.dom⟩, s1.less rfl hF (fun q hq => ?_) hcl, ⟨by rw [List.length_map]; exact rs.len, fun i d h => ?_⟩⟩
    · rcases hq with hq | ⟨h1, h2, _⟩
      · exact e.newF q hq hq'
      · exact e.new q h2 (out q h1)
    · rcases hq with hq | ⟨h1, h2, vs, hv⟩
      · obtain ⟨h1, h2⟩ := s1.frz q hq
        exact ⟨fun hm => h1 (List.mem_of_mem_take hm), h2⟩
      · exact ⟨h1, _, hv⟩
    · rw [List.getElem?_map] at h
      cases ht : τ[i]? with
      | none => rw [ht] at h; cases h
      | some o =>
        rw [ht] at h
        cases o with
        | none => simp at h
        | some d0 =>
          obtain ⟨v, hv, rv⟩ := rs.at_ i d0 ht
          refine ⟨v, hv, ?_⟩
          have h : slFrz st.length st1 d0 = some d := by simpa using h
          unfold slFrz at h
          split at h
          · rename_i hc
            cases h
            exact RepV.less rfl hF rv hc
          · rename_i hnc
            cases d0 with
            | ref k =>
              simp only at h
              split at h
              · rename_i xs hx
                split at h
                · rename_i hxs
                  cases h
                  cases rv with
                  | ref hp =>
                    rename_i p
                    obtain ⟨c, hc, rc⟩ := s1.at_ hp
                    rw [hx] at hc
                    cases hc
                    obtain ⟨vs, hv2, rvs⟩ := rc
                    have hk : st.length ≤ k := by
                      apply Nat.le_of_not_lt
                      intro hlt
                      exact hnc (decide_eq_true hlt)
                    exact .lst ⟨.inl hv2, .inr ⟨nd_take s1.nd hp hk, List.mem_of_getElem? hp, vs, hv2⟩⟩ (rvs.less rfl hF hxs)
                · cases h
              · cases h
            | _ => cases h
  · exact ⟨φ1, e, s1, rs⟩
end PC
end
section
set_option Elab.async false
set_option linter.all false
set_option autoImplicit false
set_option maxRecDepth 100000
set_option maxHeartbeats 1000000
namespace PC
open PySem L2 PyProof.Rows
section
variable {X : Cx} {ge : GE} {cf : CF} {W : WT}
theorem okW_of {K : PySem.W.Frag} {W : WT} {φ : Wd} {H : Hp} {step : D → Slots → Store → RS} {w : Watch} {ds : List D} {τ : Slots} {st : Store} {E : Ends} (h : PostS K W φ H (forL step w ds τ st) E) : okW w st := by
  apply Classical.byContradiction
  intro hn
  cases ds with
  | nil => simp only [forL, gw, if_neg hn] at h; exact h
  | cons d r => simp only [forL, gw, if_neg hn] at h; exact h
theorem forRead {t : CT} {it : CI} {b : CSs} {E : Ends} {σ : L2.St} {H : Hp} (h : tSt X.K W (ex ge cf (.for_ t it b)) E σ H) : tFor (tI X.K W (evi ge cf it)) (gA X.K W fun d τ st => asgT ge cf t d τ st) (tSt X.K W (exs ge cf b)) E σ H := by
  obtain ⟨φ, τ, st, rs, sim, post⟩ := h
  generalize hst : (fun (x : D) (τ : Slots) (st : Store) => match asgT ge cf t x τ st with
        | .nx τ st => exs ge cf b τ st
        | _ => .err) = step
  have post : PostS X.K W φ H ((evi ge cf it τ st).toS τ fun w st => forL step w.2 w.1 τ st) E := by rw [← hst]; exact post
  refine ⟨φ, τ, st, rs, sim, post.toS rs fun w st1 φ1 H1 J e1 s1 hJ p1 => ?_⟩
  obtain ⟨ds, w⟩ := w
  have hJ : IterOk X.K φ1 H1 ds w J := hJ
  have p1 : PostS X.K W φ1 H1 (forL step w ds τ st1) E := p1
  obtain ⟨G, Y, walk, hG, hY⟩ := hJ
  refine for_it walk (fun i σ2 H2 => ∃ φ τ st, Ext X.K φ1 H1 φ H2 ∧ RepS X.K φ H2 σ2 τ ∧ Sim X.K φ H2 st ∧ PostS X.K W φ H2 (forL step w (ds.drop i) τ st) E) ?_ ?_ ?_ ?_
  · exact ⟨φ1, τ, st1, Ext.refl, rs.ext e1, s1, by rw [List.drop_zero]; exact p1⟩
  · rintro i σ2 H2 hi ⟨φ2, τ2, st2, e2, rs2, s2, p2⟩
    exact hG φ2 H2 st2 e2 s2 (okW_of p2)
  · rintro i x σ2 H2 H3 hi ⟨φ2, τ2, st2, e2, rs2, s2, p2⟩ y
    have how := okW_of p2
    obtain ⟨d, hd, e3, s3, rx⟩ := hY φ2 H2 st2 i x H3 hi e2 s2 how y
    have ed : ds.drop i = d :: ds.drop (i + 1) := by
      obtain ⟨h1, h2⟩ := List.getElem?_eq_some_iff.mp hd
      rw [List.drop_eq_getElem_cons h1, h2]
    rw [ed] at p2
    simp only [forL, gw, if_pos how] at p2
    have hs : step d τ2 st2 = match asgT ge cf t d τ2 st2 with
        | .nx τ st => exs ge cf b τ st
        | _ => .err := by rw [← hst]
    refine ⟨φ2, τ2, st2, d, rs2.ext e3, s3, rx, ?_⟩
    rw [hs] at p2
    rcases asgT_form (ge := ge) (cf := cf) t d τ2 st2 with ⟨τ', st', e⟩ | ⟨x, τ', st', e⟩ | e
    · show PostS X.K W φ2 H3 (asgT ge cf t d τ2 st2) _
      rw [e] at p2 ⊢
      intro φ4 H4 σ4 e4 s4 rs4
      refine ⟨φ4, τ', st', rs4, s4, ?_⟩
      have e14 := (e2.trans e3).trans e4
      have e24 := e3.trans e4
      simp only at p2
      cases eb : exs ge cf b τ' st' with
      | nx τ5 st5 =>
        rw [eb] at p2
        exact fun φ5 H5 σ5 e5 s5 rs5 => ⟨φ5, τ5, st5, e14.trans e5, rs5, s5, p2.ext (e24.trans e5)⟩
      | ct τ5 st5 =>
        rw [eb] at p2
        exact fun φ5 H5 σ5 e5 s5 rs5 => ⟨φ5, τ5, st5, e14.trans e5, rs5, s5, p2.ext (e24.trans e5)⟩
      | bk τ5 st5 =>
        rw [eb] at p2
        exact fun φ5 H5 σ5 e5 s5 rs5 => p2 φ5 H5 σ5 (e24.trans e5) s5 rs5
      | rt d5 st5 =>
        rw [eb] at p2
        exact fun φ5 H5 v5 e5 s5 rv5 => p2 φ5 H5 v5 (e24.trans e5) s5 rv5
      | exc d5 τ5 st5 =>
        rw [eb] at p2
        exact fun φ5 H5 σ5 e5 s5 rs5 => p2 φ5 H5 σ5 (e24.trans e5) s5 rs5
      | err => rw [eb] at p2; exact p2
    · rw [e] at p2; exact p2.elim
    · rw [e] at p2; exact p2.elim
  · rintro σ2 H2 ⟨φ2, τ2, st2, e2, rs2, s2, p2⟩
    have how := okW_of p2
    rw [List.drop_length] at p2
    simp only [forL, gw, if_pos how] at p2
    exact p2 φ2 H2 σ2 Ext.refl s2 rs2
theorem whileRead {c : CE} {b : CSs} {E : Ends} {σ : L2.St} {H : Hp} (h : tSt X.K W (ex ge cf (.while_ c b)) E σ H) : tWhile (tB' X.K W (ev ge cf c)) (tSt X.K W (exs ge cf b)) E σ H := by
  obtain ⟨φ, τ, st, rs, sim, post⟩ := h
  have post : PostS X.K W φ H (wh (fun τ st => ev ge cf c τ st) (fun τ st => exs ge cf b τ st) τ st) E := post
  unfold wh at post
  split at post
  · rename_i hn
    refine ⟨fun m σ2 H2 => ∃ φ τ st, RepS X.K φ H2 σ2 τ ∧ Sim X.K φ H2 st ∧ PostS X.K W φ H2 (whN (fun τ st => ev ge cf c τ st) (fun τ st => exs ge cf b τ st) m τ st) E, ⟨_, φ, τ, st, rs, sim, post⟩, ?_⟩
    rintro m σ2 H2 ⟨φ2, τ2, st2, rs2, s2, p2⟩
    cases m with
    | zero => exact p2.elim
    | succ m =>
      simp only [whN] at p2
      refine ⟨φ2, τ2, st2, rs2, s2, ?_⟩
      cases ec : ev ge cf c τ2 st2 with
      | exc d st3 => rw [ec] at p2; show Post X.K _ (W σ2) φ2 H2 (asB (ev ge cf c τ2 st2)) _; rw [ec]; exact fun φ3 H3 e3 s3 => p2 φ3 H3 σ2 e3 s3 (rs2.ext e3)
      | err => rw [ec] at p2; exact p2.elim
      | ok d st3 =>
        rw [ec] at p2
        simp only [Res.toS_ok] at p2
        show Post X.K _ (W σ2) φ2 H2 (asB (ev ge cf c τ2 st2)) _
        rw [ec]
        cases d with
        | bl k =>
          intro φ3 H3 k' e3 s3 hk
          cases hk
          cases k with
          | false =>
            rw [if_neg Bool.false_ne_true]
            exact p2 φ3 H3 σ2 e3 s3 (rs2.ext e3)
          | true =>
            rw [if_pos rfl]
            simp only at p2
            refine ⟨fun σ4 H4 => ∃ φ τ st, RepS X.K φ H4 σ4 τ ∧ Sim X.K φ H4 st ∧ PostS X.K W φ H4 (whN (fun τ st => ev ge cf c τ st) (fun τ st => exs ge cf b τ st) m τ st) E, fun σ4 H4 q => ⟨m, Nat.lt_succ_self m, q⟩, φ3, τ2, st3, rs2.ext e3, s3, ?_⟩
            cases eb : exs ge cf b τ2 st3 with
            | nx τ5 st5 =>
              rw [eb] at p2
              exact fun φ5 H5 σ5 e5 s5 rs5 => ⟨φ5, τ5, st5, rs5, s5, p2.ext (e3.trans e5)⟩
            | ct τ5 st5 =>
              rw [eb] at p2
              exact fun φ5 H5 σ5 e5 s5 rs5 => ⟨φ5, τ5, st5, rs5, s5, p2.ext (e3.trans e5)⟩
            | bk τ5 st5 =>
              rw [eb] at p2
              exact fun φ5 H5 σ5 e5 s5 rs5 => p2 φ5 H5 σ5 (e3.trans e5) s5 rs5
            | rt d5 st5 =>
              rw [eb] at p2
              exact fun φ5 H5 v5 e5 s5 rv5 => p2 φ5 H5 v5 (e3.trans e5) s5 rv5
            | exc d5 τ5 st5 =>
              rw [eb] at p2
              exact fun φ5 H5 σ5 e5 s5 rs5 => p2 φ5 H5 σ5 (e3.trans e5) s5 rs5
            | err => rw [eb] at p2; exact p2
        | _ => exact p2
  · exact post.elim
theorem forReadG {t : CT} {it : CI} {b : CSs} {dr : List Nat} {E : Ends} {σ : L2.St} {H : Hp} (h : tSt X.K W (ex ge cf (.forG t it b dr)) E σ H) : tFor (tI X.K W (evi ge cf it)) (gA X.K W fun d τ st => asgT ge cf t d τ st) (tSt X.K W (exs ge cf b)) E σ H := by
  obtain ⟨φ, τ, st, rs, sim, post⟩ := h
  generalize hst : (fun (x : D) (τ : Slots) (st : Store) => endT dr st (match asgT ge cf t x τ st with
        | .nx τ st => exs ge cf b τ st
        | _ => .err)) = step
  have post : PostS X.K W φ H ((evi ge cf it τ st).toS τ fun w st => forL step w.2 w.1 (PC.wipe τ dr) st) E := by rw [← hst]; exact post
  refine ⟨φ, τ, st, rs, sim, post.toS rs fun w st1 φ1 H1 J e1 s1 hJ p1 => ?_⟩
  obtain ⟨ds, w⟩ := w
  have hJ : IterOk X.K φ1 H1 ds w J := hJ
  have p1 : PostS X.K W φ1 H1 (forL step w ds (PC.wipe τ dr) st1) E := p1
  obtain ⟨G, Y, walk, hG, hY⟩ := hJ
  refine for_it walk (fun i σ2 H2 => ∃ φ τ st, Ext X.K φ1 H1 φ H2 ∧ RepS X.K φ H2 σ2 τ ∧ Sim X.K φ H2 st ∧ PostS X.K W φ H2 (forL step w (ds.drop i) τ st) E) ?_ ?_ ?_ ?_
  · exact ⟨φ1, PC.wipe τ dr, st1, Ext.refl, (rs.ext e1).gone dr, s1, by rw [List.drop_zero]; exact p1⟩
  · rintro i σ2 H2 hi ⟨φ2, τ2, st2, e2, rs2, s2, p2⟩
    exact hG φ2 H2 st2 e2 s2 (okW_of p2)
  · rintro i x σ2 H2 H3 hi ⟨φ2, τ2, st2, e2, rs2, s2, p2⟩ y
    have how := okW_of p2
    obtain ⟨d, hd, e3, s3, rx⟩ := hY φ2 H2 st2 i x H3 hi e2 s2 how y
    have ed : ds.drop i = d :: ds.drop (i + 1) := by
      obtain ⟨h1, h2⟩ := List.getElem?_eq_some_iff.mp hd
      rw [List.drop_eq_getElem_cons h1, h2]
    rw [ed] at p2
    simp only [forL, gw, if_pos how] at p2
    have hs : step d τ2 st2 = endT dr st2 (match asgT ge cf t d τ2 st2 with
        | .nx τ st => exs ge cf b τ st
        | _ => .err) := by rw [← hst]
    refine ⟨φ2, τ2, st2, d, rs2.ext e3, s3, rx, ?_⟩
    rw [hs] at p2
    rcases asgT_form (ge := ge) (cf := cf) t d τ2 st2 with ⟨τ', st', e⟩ | ⟨x, τ', st', e⟩ | e
    · show PostS X.K W φ2 H3 (asgT ge cf t d τ2 st2) _
      rw [e] at p2 ⊢
      intro φ4 H4 σ4 e4 s4 rs4
      refine ⟨φ4, τ', st', rs4, s4, ?_⟩
      have e14 := (e2.trans e3).trans e4
      have e24 := e3.trans e4
      simp only at p2
      cases eb : exs ge cf b τ' st' with
      | nx τ5 st5 =>
        rw [eb] at p2
        intro φ5 H5 σ5 e5 s5 rs5
        obtain ⟨φ6, e6, s6, rs6⟩ := scpOk s3 (e4.trans e5) s5 (rs5.gone dr)
        exact ⟨φ6, _, _, (e2.trans e3).trans e6, rs6, s6, p2.ext (e3.trans e6)⟩
      | ct τ5 st5 =>
        rw [eb] at p2
        intro φ5 H5 σ5 e5 s5 rs5
        obtain ⟨φ6, e6, s6, rs6⟩ := scpOk s3 (e4.trans e5) s5 (rs5.gone dr)
        exact ⟨φ6, _, _, (e2.trans e3).trans e6, rs6, s6, p2.ext (e3.trans e6)⟩
      | bk τ5 st5 =>
        rw [eb] at p2
        intro φ5 H5 σ5 e5 s5 rs5
        obtain ⟨φ6, e6, s6, rs6⟩ := scpOk s3 (e4.trans e5) s5 (rs5.gone dr)
        exact p2 φ6 H5 σ5 (e3.trans e6) s6 rs6
      | rt d5 st5 =>
        rw [eb] at p2
        exact fun φ5 H5 v5 e5 s5 rv5 => p2 φ5 H5 v5 (e24.trans e5) s5 rv5
      | exc d5 τ5 st5 =>
        rw [eb] at p2
        exact fun φ5 H5 σ5 e5 s5 rs5 => p2 φ5 H5 σ5 (e24.trans e5) s5 rs5
      | err => rw [eb] at p2; exact p2
    · rw [e] at p2; exact p2.elim
    · rw [e] at p2; exact p2.elim
  · rintro σ2 H2 ⟨φ2, τ2, st2, e2, rs2, s2, p2⟩
    have how := okW_of p2
    rw [List.drop_length] at p2
    simp only [forL, gw, if_pos how] at p2
    exact p2 φ2 H2 σ2 Ext.refl s2 rs2
theorem whileReadG {c : CE} {b : CSs} {dr : List Nat} {E : Ends} {σ : L2.St} {H : Hp} (h : tSt X.K W (ex ge cf (.whG c b dr)) E σ H) : tWhile (tB' X.K W (ev ge cf c)) (tSt X.K W (exs ge cf b)) E σ H := by
  obtain ⟨φ, τ, st, rs, sim, post⟩ := h
  have post : PostS X.K W φ H (wh (fun τ st => ev ge cf c τ st) (fun τ st => endT dr st (exs ge cf b τ st)) (PC.wipe τ dr) st) E := post
  unfold wh at post
  split at post
  · rename_i hn
    refine ⟨fun m σ2 H2 => ∃ φ τ st, RepS X.K φ H2 σ2 τ ∧ Sim X.K φ H2 st ∧ PostS X.K W φ H2 (whN (fun τ st => ev ge cf c τ st) (fun τ st => endT dr st (exs ge cf b τ st)) m τ st) E, ⟨_, φ, PC.wipe τ dr, st, rs.gone dr, sim, post⟩, ?_⟩
    rintro m σ2 H2 ⟨φ2, τ2, st2, rs2, s2, p2⟩
    cases m with
    | zero => exact p2.elim
    | succ m =>
      simp only [whN] at p2
      refine ⟨φ2, τ2, st2, rs2, s2, ?_⟩
      cases ec : ev ge cf c τ2 st2 with
      | exc d st3 => rw [ec] at p2; show Post X.K _ (W σ2) φ2 H2 (asB (ev ge cf c τ2 st2)) _; rw [ec]; exact fun φ3 H3 e3 s3 => p2 φ3 H3 σ2 e3 s3 (rs2.ext e3)
      | err => rw [ec] at p2; exact p2.elim
      | ok d st3 =>
        rw [ec] at p2
        simp only [Res.toS_ok] at p2
        show Post X.K _ (W σ2) φ2 H2 (asB (ev ge cf c τ2 st2)) _
        rw [ec]
        cases d with
        | bl k =>
          intro φ3 H3 k' e3 s3 hk
          cases hk
          cases k with
          | false =>
            rw [if_neg Bool.false_ne_true]
            exact p2 φ3 H3 σ2 e3 s3 (rs2.ext e3)
          | true =>
            rw [if_pos rfl]
            simp only at p2
            refine ⟨fun σ4 H4 => ∃ φ τ st, RepS X.K φ H4 σ4 τ ∧ Sim X.K φ H4 st ∧ PostS X.K W φ H4 (whN (fun τ st => ev ge cf c τ st) (fun τ st => endT dr st (exs ge cf b τ st)) m τ st) E, fun σ4 H4 q => ⟨m, Nat.lt_succ_self m, q⟩, φ3, τ2, st3, rs2.ext e3, s3, ?_⟩
            cases eb : exs ge cf b τ2 st3 with
            | nx τ5 st5 =>
              rw [eb] at p2
              intro φ5 H5 σ5 e5 s5 rs5
              obtain ⟨φ6, e6, s6, rs6⟩ := scpOk s3 e5 s5 (rs5.gone dr)
              exact ⟨φ6, _, _, rs6, s6, p2.ext (e3.trans e6)⟩
            | ct τ5 st5 =>
              rw [eb] at p2
              intro φ5 H5 σ5 e5 s5 rs5
              obtain ⟨φ6, e6, s6, rs6⟩ := scpOk s3 e5 s5 (rs5.gone dr)
              exact ⟨φ6, _, _, rs6, s6, p2.ext (e3.trans e6)⟩
            | bk τ5 st5 =>
              rw [eb] at p2
              intro φ5 H5 σ5 e5 s5 rs5
              obtain ⟨φ6, e6, s6, rs6⟩ := scpOk s3 e5 s5 (rs5.gone dr)
              exact p2 φ6 H5 σ5 (e3.trans e6) s6 rs6
            | rt d5 st5 =>
              rw [eb] at p2
              exact fun φ5 H5 v5 e5 s5 rv5 => p2 φ5 H5 v5 (e3.trans e5) s5 rv5
            | exc d5 τ5 st5 =>
              rw [eb] at p2
              exact fun φ5 H5 σ5 e5 s5 rs5 => p2 φ5 H5 σ5 (e3.trans e5) s5 rs5
            | err => rw [eb] at p2; exact p2
        | _ => exact p2
  · exact post.elim
theorem iv_for {N : List Str} {sc : Scope} {t : CT} {it : CI} {b : CSs} {s : Stmt} (h : chkS N sc (.for_ t it b) s = true) : ∃ tg iter body pos, s = .For tg iter body [] pos ∧ chkTg N sc t tg = true ∧ chkI N sc it tg iter = true ∧ chkSs N sc b body = true := by
  cases s <;> first | (cases h; done) | skip
  rename_i tg iter body orelse pos
  cases orelse with
  | cons _ _ => cases h
  | nil =>
    have h : (chkTg N sc t tg && chkI N sc it tg iter && chkSs N sc b body) = true := h
    simp only [Bool.and_eq_true] at h
    exact ⟨_, _, _, _, rfl, h.1.1, h.1.2, h.2⟩
theorem iv_while {N : List Str} {sc : Scope} {c : CE} {b : CSs} {s : Stmt} (h : chkS N sc (.while_ c b) s = true) : ∃ t body pos, s = .While t body [] pos ∧ chkE N sc c t = true ∧ chkSs N sc b body = true := by
  cases s <;> first | (cases h; done) | skip
  rename_i t body orelse pos
  cases orelse with
  | cons _ _ => cases h
  | nil =>
    have h : (chkE N sc c t && chkSs N sc b body) = true := h
    simp only [Bool.and_eq_true] at h
    exact ⟨_, _, _, rfl, h.1, h.2⟩
theorem iv_forG {N : List Str} {sc : Scope} {t : CT} {it : CI} {b : CSs} {dr : List Nat} {s : Stmt} (h : chkS N sc (.forG t it b dr) s = true) : ∃ tg iter body pos, s = .For tg iter body [] pos ∧ chkTg N sc t tg = true ∧ chkI N sc it tg iter = true ∧ chkSs N sc b body = true := by
  cases s <;> first | (cases h; done) | skip
  rename_i tg iter body orelse pos
  cases orelse with
  | cons _ _ => cases h
  | nil =>
    have h : (chkTg N sc t tg && chkI N sc it tg iter && chkSs N sc b body) = true := h
    simp only [Bool.and_eq_true] at h
    exact ⟨_, _, _, _, rfl, h.1.1, h.1.2, h.2⟩
theorem iv_whG {N : List Str} {sc : Scope} {c : CE} {b : CSs} {dr : List Nat} {s : Stmt} (h : chkS N sc (.whG c b dr) s = true) : ∃ t body pos, s = .While t body [] pos ∧ chkE N sc c t = true ∧ chkSs N sc b body = true := by
  cases s <;> first | (cases h; done) | skip
  rename_i t body orelse pos
  cases orelse with
  | cons _ _ => cases h
  | nil =>
    have h : (chkE N sc c t && chkSs N sc b body) = true := h
    simp only [Bool.and_eq_true] at h
    exact ⟨_, _, _, rfl, h.1, h.2⟩
theorem iv_if {N : List Str} {sc : Scope} {c : CE} {a b : CSs} {s : Stmt} (h : chkS N sc (.ifs c a b) s = true) : ∃ t x y pos, s = .If t x y pos ∧ chkE N sc c t = true ∧ chkSs N sc a x = true ∧ chkSs N sc b y = true := by
  cases s <;> first | (cases h; done) | skip
  rename_i t x y pos
  have h : (chkE N sc c t && chkSs N sc a x && chkSs N sc b y) = true := h
  simp only [Bool.and_eq_true] at h
  exact ⟨_, _, _, _, rfl, h.1.1, h.1.2, h.2⟩
theorem ifOk (o : OkS ge cf X W) {c : CE} {a b : CSs} {t : Expr} {x y : List Stmt} {pos : Pos} (h : chkE X.N X.env.scope c t = true) (ha : PSs X x (tSt X.K W (exs ge cf a))) (hb : PSs X y (tSt X.K W (exs ge cf b))) : PS X (.If t x y pos) (tSt X.K W (ex ge cf (.ifs c a b))) := by
  refine PS.weak (ps_if ((ihE ge cf c).t X W t o.ok o.cl h) ha hb) fun E σ H ⟨φ, τ, st, rs, sim, post⟩ => ?_
  have post : PostS X.K W φ H ((ev ge cf c τ st).toS τ fun x st => match x with
      | .bl true => exs ge cf a τ st
      | .bl false => exs ge cf b τ st
      | _ => .err) E := post
  refine ⟨φ, τ, st, rs, sim, ?_⟩
  cases ec : ev ge cf c τ st with
  | exc d st3 => rw [ec] at post; show Post X.K _ (W σ) φ H (asB (ev ge cf c τ st)) _; rw [ec]; exact fun φ3 H3 e3 s3 => post φ3 H3 σ e3 s3 (rs.ext e3)
  | err => rw [ec] at post; exact post.elim
  | ok d st3 =>
    rw [ec] at post
    show Post X.K _ (W σ) φ H (asB (ev ge cf c τ st)) _
    rw [ec]
    cases d with
    | bl k =>
      intro φ3 H3 k' e3 s3 hk
      cases hk
      cases k with
      | false => rw [if_neg Bool.false_ne_true]; exact ⟨φ3, τ, st3, rs.ext e3, s3, post.ext e3⟩
      | true => rw [if_pos rfl]; exact ⟨φ3, τ, st3, rs.ext e3, s3, post.ext e3⟩
    | _ => exact post
theorem exprOk (o : OkS ge cf X W) {c : CE} {s : Stmt} (h : chkS X.N X.env.scope (.expr c) s = true) : PS X s (tSt X.K W (ex ge cf (.expr c))) := by
  cases s <;> first | (cases h; done) | skip
  rename_i v pos
  have h : (chkE X.N X.env.scope c v && !isLc v) = true := h
  simp only [Bool.and_eq_true, Bool.not_eq_true'] at h
  refine PS.weak (ps_expr ((ihE ge cf c).e X W v o.ok o.cl h.1) (sw_other (good_of h.1) h.2)) fun E σ H ⟨φ, τ, st, rs, sim, post⟩ => ?_
  have post : PostS X.K W φ H ((ev ge cf c τ st).toS τ fun _ st => .nx τ st) E := post
  exact ⟨φ, τ, st, rs, sim, post.toS rs fun d st1 φ1 H1 v e1 s1 rv p1 => p1 φ1 H1 σ Ext.refl s1 (rs.ext e1)⟩
theorem retOk (o : OkS ge cf X W) {c : CE} {s : Stmt} (h : chkS X.N X.env.scope (.ret c) s = true) : PS X s (tSt X.K W (ex ge cf (.ret c))) := by
  cases s <;> first | (cases h; done) | skip
  rename_i v pos
  cases v with
  | none => cases h
  | some v =>
    have h : chkE X.N X.env.scope c v = true := h
    refine PS.weak (ps_ret ((ihE ge cf c).e X W v o.ok o.cl h)) fun E σ H ⟨φ, τ, st, rs, sim, post⟩ => ?_
    have post : PostS X.K W φ H ((ev ge cf c τ st).toS τ fun d st => .rt d st) E := post
    exact ⟨φ, τ, st, rs, sim, post.toS rs fun d st1 φ1 H1 v e1 s1 rv p1 => p1 φ1 H1 v Ext.refl s1 rv⟩
theorem raiseOk (o : OkS ge cf X W) {c : String} {s : Stmt} (h : chkS X.N X.env.scope (.raise_ c) s = true) : PS X s (tSt X.K W (ex ge cf (.raise_ c))) := by
  unfold chkS at h
  split at h <;> first | (cases h; done) | skip
  all_goals first | (rename_i heq; cases heq; done) | skip
  rename_i x p m j p2 pos pos2 heq
  cases heq
  simp only [Bool.and_eq_true, decide_eq_true_eq] at h
  obtain ⟨⟨rfl, h1⟩, h2⟩ := h
  obtain ⟨Wx, tk, hw⟩ := o.tk
  by_cases hx : ge.xc c = true
  · have M := o.ok.x.xc c hx
    refine PS.weak (ps_raise o.ok.calm tk (pmk_own PySem.F.excBase_ValueError M.ein M.mg M.kp (raises_own M.is.hs M.ty) (glB_ok h1) (nmB_ok h2).1)) fun E σ H ⟨φ, τ, st, rs, sim, post⟩ => ?_
    have post : PostS X.K W φ H (if ge.xc c = true then .exc (.exc c []) τ st else .err) E := post
    rw [if_pos hx] at post
    obtain ⟨c', e, z⟩ := hw _ _ _ _ _ (post φ H σ Ext.refl sim rs)
    cases e
    exact z
  · refine ⟨fun pins s σ H D I ⟨φ, τ, st, rs, sim, post⟩ => ?_⟩
    have post : PostS X.K W φ H (if ge.xc c = true then .exc (.exc c []) τ st else .err) D := post
    rw [if_neg hx] at post
    exact post.elim
theorem iv_try {N : List Str} {sc : Scope} {b : CSs} {k : String} {i j : Nat} {s : Stmt} (h : chkS N sc (.tryK b k i j) s = true) : ∃ body np n y yp zp ap hp pos, s = .Try body [.ExceptHandler (some (.Name (Str.ofString k) np)) (some n) [.Assign [.Name y yp] (.Name n zp) ap] hp] [] [] pos ∧
    k ≠ "ValueError" ∧ glB sc (Str.ofString k) = true ∧ nmB (Str.ofString k) = true ∧ N[i]? = some n ∧ sc.names.lookup n = some .local ∧ N[j]? = some y ∧ sc.names.lookup y = some .local ∧ nmB n = true ∧ chkSs N sc b body = true := by
  unfold chkS at h
  split at h <;> first | (cases h; done) | skip
  all_goals first | (rename_i heq; cases heq; done) | skip
  rename_i b' k' i' j' body x np n y yp z zp ap hp pos heq
  cases heq
  simp only [Bool.and_eq_true, decide_eq_true_eq] at h
  obtain ⟨⟨⟨⟨⟨⟨⟨⟨⟨⟨rfl, h1⟩, h2⟩, h3⟩, h4⟩, h5⟩, h6⟩, h7⟩, rfl⟩, h9⟩, h10⟩ := h
  exact ⟨_, _, _, _, _, _, _, _, _, rfl, h1, h2, h3, h4, h5, h6, h7, h9, h10⟩
theorem tryOk (o : OkS ge cf X W) {b : CSs} {k : String} {i j : Nat} {body : List Stmt} {np yp zp ap hp pos : Pos} {n y : Str} (h0 : k ≠ "ValueError") (h1 : glB X.env.scope (Str.ofString k) = true) (h2 : nmB (Str.ofString k) = true) (h3 : X.N[i]? = some n) (h4 : X.env.scope.names.lookup n = some .local)
    (h5 : X.N[j]? = some y) (h6 : X.env.scope.names.lookup y = some .local) (h7 : nmB n = true) (hb : ∀ (Y : Cx) (W' : WT), OkS ge cf Y W' → Y.N = X.N → Y.env.scope = X.env.scope → PSs Y body (tSt Y.K W' (exs ge cf b))) :
    PS X (.Try body [.ExceptHandler (some (.Name (Str.ofString k) np)) (some n) [.Assign [.Name y yp] (.Name n zp) ap] hp] [] [] pos) (tSt X.K W (ex ge cf (.tryK b k i j))) := by
  by_cases hk : ge.xk k = true
  case neg =>
    refine ⟨fun pins s σ H D I ⟨φ, τ, st, rs, sim, post⟩ => ?_⟩
    have post : PostS X.K W φ H (if ge.xk k = true then tryR ge k i j (exs ge cf b τ st) else .err) D := post
    rw [if_neg hk] at post
    exact post.elim
  have hm : X.mg (Str.ofString k) = some (.ref (He.ga X.K (Str.ofString k))) := (o.ok.x.xk k hk).elim (fun e => absurd e h0) (·.2)
  obtain ⟨n1, n2, n3⟩ := nmB_ok h7
  have hbody : ∀ (Wq : WX) (pn : List (Addr × Obj)) (xe : Value → Shared → Prop), Takes (X.tr pn xe) Wq → PassesOwn (model X.prog X.w) X.A X.env xe → PSs (X.tr pn xe) body (tSt X.K (wOf X.K Wq) (exs ge cf b)) := by
    intro Wq pn xe tk ps
    have sm : SameM X (X.tr pn xe) := ⟨rfl, rfl, rfl, rfl, rfl, rfl, rfl, rfl⟩
    have hc := o.cl.inn (X.tr pn xe) sm Wq tk
    exact hb (X.tr pn xe) (wOf X.K Wq) ⟨⟨o.ok.calm, o.ok.nd, o.ok.room, o.ok.grd, o.ok.free, o.ok.glob, o.ok.cls, o.ok.noat, o.ok.x⟩, ⟨hc.1, hc.2.1, hc.2.2.1, hc.2.2.2.1, hc.2.2.2.2, o.cl.nam, fun Y hY => o.cl.inn Y (sm.trans hY)⟩, o.fn, ps, o.kind, ⟨Wq, tk, fun _ _ _ _ _ z => z⟩, o.stk, o.frm, o.ex0⟩ rfl rfl
  have hsu : ∀ (a : Addr) (oe : Obj) (cls : Value) (d : Option Addr) (pn : List (Addr × Obj)), Zc cls d oe → (∃ vs, oe.data = .fields vs) →
      PSs (X.suite a ((a, oe) :: pn)) [.Assign [.Name y yp] (.Name n zp) ap] (fun D σ H => i < σ.length → σ[i]? = some (some (V.ref a)) ∧ D.nx (σ.set j (some (.ref a))) H) := by
    intro a oe cls d pn hz hv
    have hp : PSs (X.suite a ((a, oe) :: pn)) [.Assign [.Name y yp] (.Name n zp) ap] _ := pss_cons (ps_asg (pe_var (X := X.suite a ((a, oe) :: pn)) (i := i) h3 (.inl h4) n1 n2) (pg_name (X := X.suite a ((a, oe) :: pn)) o.ok.nd h5 (.inl h6) (.inl (o.fn y)))) pss_nil
    refine ⟨fun pins s σ H D I q => hp.run pins s σ H D I ?_⟩
    have hl : i < σ.length := by
      rw [I.len]
      exact (List.getElem?_eq_some_iff.mp h3).1
    obtain ⟨q1, q2⟩ := q hl
    exact ⟨_, q1, q2⟩
  refine PS.weak (ps_try_keep (c := .ref (He.ga X.K (Str.ofString k))) (tb := fun Wq => tSt X.K (wOf X.K Wq) (exs ge cf b)) o.stk o.frm o.ok.nd h3 h4 ⟨glB_ok h1, (nmB_ok h2).1, .inl hm⟩ o.ex0 hbody hsu) fun E σ H ⟨φ, τ, st, rs, sim, post⟩ => ?_
  have post : PostS X.K W φ H (if ge.xk k = true then tryR ge k i j (exs ge cf b τ st) else .err) E := post
  rw [if_pos hk] at post
  refine ⟨φ, τ, st, rs, sim, ?_⟩
  cases er : exs ge cf b τ st with
  | nx τ1 st1 => rw [er] at post; exact post
  | bk τ1 st1 => rw [er] at post; exact post
  | ct τ1 st1 => rw [er] at post; exact post
  | rt d st1 => rw [er] at post; exact post
  | err => rw [er] at post; exact post
  | exc d τ1 st1 =>
    rw [er] at post
    simp only [tryR] at post
    split at post
    · rename_i c
      split at post
      · rename_i hc
        obtain ⟨hs, hij, hxc⟩ := hc
        intro φ1 H1 σ1 e1 s1 rs1
        refine ⟨c, rfl, ?_, fun a hn hl => ⟨?_, fun hn' => ?_⟩⟩
        · rw [o.ok.x.exm c k hxc hk h0, hs]
        · rw [List.length_set] at hl
          rw [List.getElem?_set_self hl]
        · have hn : H1 a = none := hn
          have ex1 : Ext X.K φ1 H1 φ1 (upd H1 a (CaO (.ref (He.ga X.K (Str.ofString c))) none a)) := Ext.fresh hn
          have ex2 := (e1.trans ex1).frz (p := a) (e1.dom a hn)
          have es : (((σ1.set i (some (V.ref a))).set j (some (.ref a))).set i none) = (σ1.set i none).set j (some (.ref a)) := by
            rw [List.set_comm _ _ (Ne.symm hij), List.set_set]
          show E.nx (((σ1.set i (some (V.ref a))).set j (some (.ref a))).set i none) _
          rw [es]
          refine post (φ1.frz a) _ _ ex2 ((s1.new hn).freeze (s1.fresh hn) (.inl upd_same)) ?_
          exact (((rs1.ext ex1).ext0 Ext0.freeze).setNone i).set (.exc upd_same (.inr rfl)) j
      · exact post.elim
    · exact post.elim
mutual
theorem sS {X : Cx} {W : WT} (o : OkS ge cf X W) : ∀ (c : CS) (s : Stmt), chkS X.N X.env.scope c s = true → PS X s (tSt X.K W (ex ge cf c))
  | .asg t e, s, h => asgOk o h
  | .expr c, s, h => exprOk o h
  | .ret c, s, h => retOk o h
  | .retN, s, h => by
    cases s <;> first | (cases h; done) | skip
    rename_i v pos
    cases v with
    | some _ => cases h
    | none => exact PS.weak ps_retN fun E σ H ⟨φ, τ, st, rs, sim, post⟩ => post φ H _ Ext.refl sim .non
  | .pass, s, h => by
    cases s <;> first | (cases h; done) | skip
    exact PS.weak ps_pass fun E σ H ⟨φ, τ, st, rs, sim, post⟩ => post φ H σ Ext.refl sim rs
  | .brk, s, h => by
    cases s <;> first | (cases h; done) | skip
    exact PS.weak ps_break fun E σ H ⟨φ, τ, st, rs, sim, post⟩ => post φ H σ Ext.refl sim rs
  | .cont, s, h => by
    cases s <;> first | (cases h; done) | skip
    exact PS.weak ps_continue fun E σ H ⟨φ, τ, st, rs, sim, post⟩ => post φ H σ Ext.refl sim rs
  | .stop, s, h => ⟨fun pins s σ H D I ⟨φ, τ, st, rs, sim, post⟩ => post.elim⟩
  | .ifs c a b, s, h => by
    obtain ⟨t, x, y, pos, rfl, h1, h2, h3⟩ := iv_if h
    exact ifOk o h1 (sSs o a x h2) (sSs o b y h3)
  | .for_ t it b, s, h => by
    obtain ⟨tg, iter, body, pos, rfl, h1, h2, h3⟩ := iv_for h
    have hI := (ihI ge cf it).i X W tg iter o.ok o.cl h2
    exact PS.weak (ps_for o.pass o.ok.calm hI.1 (pgA o h1) (sSs o b body h3) hI.2) fun E σ H q => forRead q
  | .while_ c b, s, h => by
    obtain ⟨t, body, pos, rfl, h1, h2⟩ := iv_while h
    exact PS.weak (ps_while o.pass ((ihE ge cf c).t X W t o.ok o.cl h1) (sSs o b body h2)) fun E σ H q => whileRead q
  | .forG t it b dr, s, h => by
    obtain ⟨tg, iter, body, pos, rfl, h1, h2, h3⟩ := iv_forG h
    have hI := (ihI ge cf it).i X W tg iter o.ok o.cl h2
    exact PS.weak (ps_for o.pass o.ok.calm hI.1 (pgA o h1) (sSs o b body h3) hI.2) fun E σ H q => forReadG q
  | .whG c b dr, s, h => by
    obtain ⟨t, body, pos, rfl, h1, h2⟩ := iv_whG h
    exact PS.weak (ps_while o.pass ((ihE ge cf c).t X W t o.ok o.cl h1) (sSs o b body h2)) fun E σ H q => whileReadG q
  | .raise_ c, s, h => raiseOk o h
  | .tryK b k i j, s, h => by
    obtain ⟨body, np, n, y, yp, zp, ap, hp, pos, rfl, h0, h1, h2, h3, h4, h5, h6, h7, h8⟩ := iv_try h
    exact tryOk o h0 h1 h2 h3 h4 h5 h6 h7 fun Y W' o' e1 e2 => sSs o' b body (by rw [e1, e2]; exact h8)
termination_by structural c => c
theorem sSs {X : Cx} {W : WT} (o : OkS ge cf X W) : ∀ (c : CSs) (s : List Stmt), chkSs X.N X.env.scope c s = true → PSs X s (tSt X.K W (exs ge cf c))
  | .nil, s, h => by
    cases s with
    | cons _ _ => cases h
    | nil => exact pssNil
  | .cons c cs, s, h => by
    cases s with
    | nil => cases h
    | cons x xs =>
      have h : (chkS X.N X.env.scope c x && chkSs X.N X.env.scope cs xs) = true := h
      rw [Bool.and_eq_true] at h
      exact pssCons (sS o c x h.1) (sSs o cs xs h.2)
  | .drp is cs, s, h => by
    have h : chkSs X.N X.env.scope cs s = true := by cases s <;> exact h
    exact PSs.weak (sSs o cs s h) fun E σ H ⟨φ, τ, st, rs, sim, post⟩ => ⟨φ, PC.wipe τ is, st, rs.gone is, sim, post⟩
termination_by structural c => c
end
end
end PC
end
section
set_option Elab.async false
set_option linter.all false
set_option autoImplicit false
set_option maxRecDepth 100000
set_option maxHeartbeats 1000000
/-! Defs of the text that are called where no built-in guard (repr) stands around: own forms of the def's rule, of a call, of a law's end. -/
namespace PC
open PySem L2 PyProof.Rows PySem.Spec
/-- a def keeps its promise, wherever no guard stands around -/
structure FnG (P : Program) (w : World) (K : PySem.W.Frag) (mg : Str → Option Value) (base : Heap) (CX : CXT) (k : Nat) (f : Addr) (fd : FuncData) (ps : List Str) (sp : Sp) : Prop where
  len : ∀ vs H Q E, sp vs H Q E → vs.length = ps.length
  run : ∀ (A : Around) (outer : List Env) (s : Shared) (H : Hp) (args : Args) (us : List Value) (vs : List V) (Q : VK) (E : XK), Room k A → A.guards = some [] →
    Env0 P w K mg base A outer s H → BindsTo s fd args (ps.zip us) → Vals vs us → sp vs H Q E → codeAny (model P w) A (.call (.ref f) args) (CR CX outer P w H s Q E) s
section
variable {P : Program} {w : World} {K : PySem.W.Frag} {mg : Str → Option Value} {base : Heap} {CX : CXT} {k : Nat} {f : Addr} {fd : FuncData} {ps N : List Str} {sp : Sp} {x q : Str} {params : Arguments} {body : List Stmt} {scope : Scope} {dvs : List V} {kws : List (Str × V)}
/-- .. by its body -/
theorem fnG_of (F : FunD K x q params body scope dvs kws f fd) (S : FnScope N ps scope) (hlen : ∀ vs H Q E, sp vs H Q E → vs.length = ps.length)
    (walk : ∀ (cdv : Value) (A : Around) (outer : List Env) (s : Shared) (H : Hp) (vs : List V) (Q : VK) (E : XK), A.guards = some [] → Room k (A.deeper (envOfC q scope s.heap.objs.size f cdv)) → sp vs H Q E →
      ∃ t, PSs (cxOf CX P w K mg base N q scope f cdv A outer s H E) body t ∧ t { nx := fun _ H' => Q .non H', rt := Q } (start N vs) H) : FnG P w K mg base CX (k + 1) f fd ps sp := by
  constructor
  · exact hlen
  intro A outer s H args us vs Q E room hg env bind vals promise
  obtain ⟨_, _, _, _, _, _, _, cdv, _, _, rfl, look, code, _⟩ := F.ex
  have keepB : ∀ b o, base.get? b = some o → s.heap.get? b = some o := fun b o e => (env.bs b o e).1
  have inH : K.In s.heap := env.mod.kin.keeps keepB
  apply codeAny_call_function room.depth (inH _ _ look) rfl S.co S.gen rfl (PySem.W.codeRec_of inH code)
  apply bind
  apply wpAny_newFunctionEnv_cells S.kind
  · rintro ⟨n, v⟩ hy
    exact (S.par n (List.of_mem_zip hy).1).imp id fun e => ⟨e, PySem.W.cellsFrom_some _ _ _ (.inl e)⟩
  rintro _ rfl s1 inCall
  refine ⟨(env.mod.nolimit.keeps keepB).keeps inCall.toInCall.keep, codeAny_func ?_⟩
  obtain ⟨t, pss, start⟩ := walk cdv A outer s H vs Q E hg (room.deeper _) promise
  have inv := inv_start (CX := CX) (E := E) S room.hd env (hlen _ _ _ _ promise) vals inCall
  refine wpAny_mono (pss.run [] s1 _ H _ inv start) ?_ (fun _ _ z => z)
  intro flow s' z
  cases flow with
  | next =>
    obtain ⟨_, H', J, z⟩ := z
    exact ⟨.non, H', J.os, J.bare, J.base, J.hok, rfl, z⟩
  | ret u =>
    obtain ⟨v, _, H', J, r, z⟩ := z
    exact ⟨v, H', J.os, J.bare, J.base, J.hok, r, z⟩
  | brk => obtain ⟨_, _, _, z⟩ := z; exact z.elim
  | cont => obtain ⟨_, _, _, z⟩ := z; exact z.elim
end
section
variable {X : Cx} {CX : CXT} {k : Nat} {f : Addr} {fd : FuncData} {ps : List Str} {sp : Sp} {E : L2.St → XK} {x : Str} {p pos : Pos} {e : Expr} {es : List Expr} {t : TA}
theorem run_fnG {pins : List (Addr × Obj)} {σ : L2.St} {H : Hp} {s : Shared} {Q : VK} {us : List Value} {vs : List V} (F : FnG X.prog X.w X.K X.mg X.base CX k f fd ps sp) (room : Room k X.A) (hg : X.A.guards = some []) (bd : Binds X.K fd ps [])
    (out : PassesAt CX X σ (E σ)) (I : Inv X pins σ H s) (vals : Vals vs us) (h : sp vs H Q (E σ)) : wpAny (model X.prog X.w) X.A (PySem.call (.ref f) us) (EP X pins σ Q) X.xe s := by
  have hl : us.length = ps.length := vals.length.symm.trans (F.len _ _ _ _ h)
  have bt : BindsTo s fd ⟨us, []⟩ (ps.zip us) := by simpa using bd s us I.kIn (by simpa using hl)
  refine wpAny_call (codeAny_mono (F.run X.A X.stack s H ⟨us, []⟩ us vs Q (E σ) room hg I.env0 bt vals h) ?_)
  intro r s' z
  match r, z with
  | .error e, z => exact out pins H s e s' I z
  | .ok (.ret u), z => exact I.after z
  | .ok .next, z => exact False.elim z
  | .ok .brk, z => exact False.elim z
  | .ok .cont, z => exact False.elim z
theorem pe_callG (F : FnG X.prog X.w X.K X.mg X.base CX k f fd ps sp) (room : Room k X.A) (gd : X.A.guards = some []) (hg : Gl X x) (hm : X.mg x = some (.ref f)) (hk : PySem.W.keepIn X.K (.ref f) = true) (bd : Binds X.K fd ps [])
    (out : ∀ σ, PassesAt CX X σ (E σ)) (ha : PA X (e :: es) t) (hdb : (x == ("__debug__" : Str)) = false) (he : starEach (e :: es) X.env = (false, eval e X.env) :: starEach es X.env) (hpl : (backTo pos (starEach es X.env)).any (·.1) = false) :
    PE X (.Call (.Name x p) (e :: es) [] pos) (tCallS sp E t) := by
  constructor
  intro pins s σ H Q I h
  apply wpAny_Call_Name_kw
  refine ld_glob I hg hm (PySem.W.callWith_K (h₀ := X.base) I.ok.mod.kin hk ?_ he hpl) hdb
  exact thn (ha.run pos pins s σ H _ I h) fun us s1 ⟨vs, H1, J, r, z⟩ => ⟨J.kIn, run_fnG F room gd bd (out σ) J r z⟩
theorem pe_callG0 (F : FnG X.prog X.w X.K X.mg X.base CX k f fd ps sp) (room : Room k X.A) (gd : X.A.guards = some []) (hg : Gl X x) (hm : X.mg x = some (.ref f)) (hk : PySem.W.keepIn X.K (.ref f) = true) (bd : Binds X.K fd ps [])
    (out : ∀ σ, PassesAt CX X σ (E σ)) (hdb : (x == ("__debug__" : Str)) = false) : PE X (.Call (.Name x p) [] [] pos) (tCallS sp E tNil) := by
  constructor
  intro pins s σ H Q I h
  apply wpAny_Call_Name_kw
  exact ld_glob I hg hm (PySem.W.callWith_K0 I.kIn hk (run_fnG (us := []) F room gd bd (out σ) I .nil h)) hdb
end
section
variable {X : Cx} {CX : CXT} {k : Nat} {f C : Addr} {fd : FuncData} {ps : List Str} {sp : Sp} {E : L2.St → XK} {x m : Str} {p pos apos : Pos} {e o : Expr} {es : List Expr} {ta : TE} {t : TA}
theorem run_makeG {pins : List (Addr × Obj)} {σ : L2.St} {H : Hp} {s : Shared} {Q : VK} {us : List Value} {vs : List V} (M : Mk X.K C f) (F : FnG X.prog X.w X.K X.mg X.base CX k f fd ps sp) (hr : Room (k + 1) X.A) (hg : X.A.guards = some []) (hb : Binds X.K fd ps [])
    (out : PassesAt CX X σ (E σ)) (I : Inv X pins σ H s) (r : Vals vs us)
    (h : ∀ x dx, H x = none → H dx = none → dx ≠ x → sp (.ref x :: vs) (upd (upd H dx (.own x)) x (.ins C dx [])) (fun v H2 => v = .non ∧ Q (.ref x) H2) (E σ)) :
    wpAny (model X.prog X.w) X.A (PySem.call (.ref C) us) (EP X pins σ Q) X.xe s := by
  have hq := h (s.heap.objs.size + 1) s.heap.objs.size (I.hok.fresh (Nat.le_succ _)) (I.hok.fresh (Nat.le_refl _)) (Nat.ne_of_lt (Nat.lt_succ_self _))
  have I2 := Inv.made (C := C) I
  have r2 : Vals (V.ref (s.heap.objs.size + 1) :: vs) (Value.ref (s.heap.objs.size + 1) :: us) := .cons rfl r
  have hl : (Value.ref (s.heap.objs.size + 1) :: us).length = ps.length := r2.length.symm.trans (F.len _ _ _ _ hq)
  have hgu : (X.A.under (.builtin "type.__call__" ⟨.ref C :: us, []⟩)).guards = some [] := by
    show pushGuards (Code.guards (.builtin "type.__call__" ⟨.ref C :: us, []⟩)) X.A.guards = some []
    rw [hg]; rfl
  have bt := hb _ (Value.ref (s.heap.objs.size + 1) :: us) I2.kIn (by simpa using hl)
  rw [List.append_nil] at bt
  refine wpAny_call (make_map (f := f) I.kIn M.makes M.init (beq_iff_eq.mp M.fn) (codeAny_mono (F.run _ X.stack _ _ ⟨Value.ref (s.heap.objs.size + 1) :: us, []⟩ (Value.ref (s.heap.objs.size + 1) :: us) _ _ (E σ) (hr.make C us []) hgu
    (I2.env0.make C us []) bt r2 hq) fun r s' hq' => ?_))
  cases r with
  | error e => exact out pins _ _ e s' I2 hq'
  | ok fl =>
    cases fl with
    | ret u =>
      obtain ⟨v, H', I3, rv, ev, q3⟩ := I2.after hq'
      subst ev
      exact ⟨rv, ⟨V.ref (s.heap.objs.size + 1), H', I3, rfl, q3⟩⟩
    | next => exact False.elim hq'
    | brk => exact False.elim hq'
    | cont => exact False.elim hq'
/-- C(..) -/
def tMakeS (C : Addr) (sp : Sp) (E : L2.St → XK) (t : TA) : TE := fun σ H Q => t σ H fun vs H1 => ∀ x dx, H1 x = none → H1 dx = none → dx ≠ x →
  sp (.ref x :: vs) (upd (upd H1 dx (.own x)) x (.ins C dx [])) (fun v H2 => v = .non ∧ Q (.ref x) H2) (E σ)
def tMethS (C : Addr) (m : Str) (sp : Sp) (E : L2.St → XK) (ta : TE) (t : TA) : TE := fun σ H Q => ta σ H fun x H1 => ∃ a dx fs, x = .ref a ∧ H1 a = some (.ins C dx fs) ∧ fs.lookup m = none ∧
  t σ H1 fun vs H2 => sp (x :: vs) H2 Q (E σ)
theorem pe_makeG (M : Mk X.K C f) (F : FnG X.prog X.w X.K X.mg X.base CX k f fd ps sp) (hr : Room (k + 1) X.A) (hgd : X.A.guards = some []) (hg : Gl X x) (hm : X.mg x = some (.ref C)) (hb : Binds X.K fd ps []) (out : ∀ σ, PassesAt CX X σ (E σ))
    (ha : PA X (e :: es) t) (hdb : (x == ("__debug__" : Str)) = false) (he : starEach (e :: es) X.env = (false, eval e X.env) :: starEach es X.env) (hpl : (backTo pos (starEach es X.env)).any (·.1) = false) :
    PE X (.Call (.Name x p) (e :: es) [] pos) (tMakeS C sp E t) := by
  refine ⟨fun pins s σ H Q I h => ?_⟩
  refine wpAny_Call_Name_kw (ld_glob I hg hm ?_ hdb)
  refine PySem.W.callWith_K (h₀ := X.base) I.ok.mod.kin M.kp (thn (ha.run pos pins s σ H _ I h) fun us s1 ⟨vs, H1, I1, r, q⟩ => ⟨I1.kIn, ?_⟩) he hpl
  exact run_makeG M F hr hgd hb (out σ) I1 r q
theorem pe_makeG0 (M : Mk X.K C f) (F : FnG X.prog X.w X.K X.mg X.base CX k f fd ps sp) (hr : Room (k + 1) X.A) (hgd : X.A.guards = some []) (hg : Gl X x) (hm : X.mg x = some (.ref C)) (hb : Binds X.K fd ps []) (out : ∀ σ, PassesAt CX X σ (E σ))
    (hdb : (x == ("__debug__" : Str)) = false) : PE X (.Call (.Name x p) [] [] pos) (tMakeS C sp E tNil) := by
  refine ⟨fun pins s σ H Q I h => ?_⟩
  refine wpAny_Call_Name_kw (ld_glob I hg hm ?_ hdb)
  exact PySem.W.callWith_K0 I.kIn M.kp (run_makeG (us := []) M F hr hgd hb (out σ) I .nil h)
theorem pe_methG {pl : Sem Bool} (he : PE X o ta) (c : Cls X.K C) (hm : Meth X.K C m f) (F : FnG X.prog X.w X.K X.mg X.base CX k f fd ps sp) (hr : Room k X.A) (hgd : X.A.guards = some []) (hb : Binds X.K fd ps []) (out : ∀ σ, PassesAt CX X σ (E σ)) (ha : PA X (e :: es) t)
    (hst : starEach (e :: es) X.env = (false, eval e X.env) :: starEach es X.env) (hpl : (backTo pos (starEach es X.env)).any (·.1) = false)
    (ht : eval (.Call (.Attribute o m apos) (e :: es) [] pos) X.env = (do
      let ov ← eval o X.env
      standAt apos.atName
      let (f, first) ← holding [ov] (getMethod ov m pl)
      callWith pos f first (backTo pos (starEach (e :: es) X.env)) (backToKw pos (keywordEach [] X.env)))) :
    PE X (.Call (.Attribute o m apos) (e :: es) [] pos) (tMethS C m sp E ta t) := by
  refine ⟨fun pins s σ H Q I h => ?_⟩
  refine PySem.W.methodCall_KW (pl := pl) (thn (he.run pins s σ H _ I h) fun u s1 ⟨x, H1, I1, rx, a, dx, fs, ex, ea, l, q⟩ => ?_) ht
  subst ex
  obtain rfl : u = Value.ref a := rx
  refine getmeth_ok I1 ea c hm l ?_
  refine PySem.W.callWith_K (first := [.ref a]) (h₀ := X.base) I.ok.mod.kin hm.kp (thn (ha.run pos pins s1 σ H1 _ I1 q) fun us s2 ⟨vs, H2, I2, r, q2⟩ => ⟨I2.kIn, ?_⟩) hst hpl
  exact run_fnG (us := .ref a :: us) (vs := .ref a :: vs) F hr hgd hb (out σ) I2 (.cons rfl r) q2
theorem pe_methG0 {pl : Sem Bool} (he : PE X o ta) (c : Cls X.K C) (hm : Meth X.K C m f) (F : FnG X.prog X.w X.K X.mg X.base CX k f fd ps sp) (hr : Room k X.A) (hgd : X.A.guards = some []) (hb : Binds X.K fd ps []) (out : ∀ σ, PassesAt CX X σ (E σ))
    (ht : eval (.Call (.Attribute o m apos) [] [] pos) X.env = (do
      let ov ← eval o X.env
      standAt apos.atName
      let (f, first) ← holding [ov] (getMethod ov m pl)
      callWith pos f first (backTo pos (starEach [] X.env)) (backToKw pos (keywordEach [] X.env)))) :
    PE X (.Call (.Attribute o m apos) [] [] pos) (tMethS C m sp E ta tNil) := by
  refine ⟨fun pins s σ H Q I h => ?_⟩
  refine PySem.W.methodCall_KW (pl := pl) (thn (he.run pins s σ H _ I h) fun u s1 ⟨x, H1, I1, rx, a, dx, fs, ex, ea, l, q⟩ => ?_) ht
  subst ex
  obtain rfl : u = Value.ref a := rx
  refine getmeth_ok I1 ea c hm l ?_
  exact PySem.W.callWith_K0 (first := [.ref a]) I1.kIn hm.kp (run_fnG (us := [.ref a]) (vs := [.ref a]) F hr hgd hb (out σ) I1 (.cons rfl .nil) q)
/-- how a method's call is read -/
theorem meth_form {env : Env} {o : Expr} {m : Str} {es : List Expr} {ap pos : Pos} (h : good o = true) (h' : goodO o = true) (hl : (ap.endLine == pos.line) = true) (hn : es.length < 20) (hg : ∀ x ∈ es, good x = true) : eval (.Call (.Attribute o m ap) es [] pos) env = (do
      let ov ← eval o env
      standAt ap.atName
      let (f, first) ← holding [ov] (getMethod ov m (plainOf o env))
      callWith pos f first (backTo pos (starEach es env)) (backToKw pos (keywordEach [] env))) := by
  have hf : methodCallForm (es.length + ([] : List Keyword).length) (backTo pos (starEach es env)) (backToKw pos (keywordEach [] env)) = true := by
    unfold methodCallForm
    rw [star_none hg]
    have e2 : decide (es.length + ([] : List Keyword).length + (if (backToKw pos (keywordEach ([] : List Keyword) env)).isEmpty then 0 else 1) < 30) = true := by
      apply decide_eq_true
      show es.length + 0 + 0 < 30
      omega
    rw [e2]; rfl
  have e0 : eval (.Call (.Attribute o m ap) es [] pos) env = (do
      let ov ← attributeBase o m env (eval o env)
      standAt ap.atName
      methodCall o m ap pos env ov (es.length + ([] : List Keyword).length) (backTo pos (starEach es env)) (backToKw pos (keywordEach [] env))) := rfl
  rw [e0, base_good h h']
  congr 1
  funext ov
  congr 1
  funext _
  exact mcall_line hf hl
end
/-- a law's end -/
theorem law_callG {P : Program} {w : World} {K : PySem.W.Frag} {mg mb : Str → Option Value} {CX : CXT} {k : Nat} {fa a : Addr} {fd : FuncData} {x : Str} {sp : Sp} {s₁ : Shared} {vs : List Value} {ns : List Int}
    (KX : K.In s₁.heap) (hns : s₁.heap.Ns mainGlobals mg) (hb : s₁.heap.Ns builtinsNs mb) (hbb : ∀ x : Str, x ≠ "__name__" → mb x = bootBuiltins x) (hlim : s₁.heap.NoLimit) (hg : s₁.gens = #[])
    (ha : s₁.heap.get? a = some { cls := .type "list", data := .seq vs.toArray }) (hi : IntsAre vs ns) (hl : ns.length ≤ sizeLine) (hr : Room k callerA)
    (F : ∀ base : Heap, FnG P w K mg base CX k fa fd [x] sp) (hbind : ∀ (s : Shared) (u : Value), BindsTo s fd ⟨[u], []⟩ [(x, u)])
    (hsp : ∀ H : Hp, SqL K H a (ns.map V.int) → sp [.ref a] H (fun v _ => v = .bl true) fun _ _ _ => False)
    (hCX : ∀ H e s', CX [] H s₁ (fun _ _ _ => False) e s' → False) :
    codeAny (model P w) callerA (.call (.ref fa) ⟨[.ref a], []⟩) (fun r s' => r = .ok (.ret (.bool true)) ∧ OldK s₁.heap s'.heap ∧ s'.os = s₁.os ∧ AllBare s'.gens) s₁ := by
  -- at a heap that tracks the script at most
  have key : ∀ H : Hp, (∀ b u, H b = some u → b = a ∧ K.lookup a = none ∧ ∃ o ys, u = .frz o (.lst ys)) → SqL K H a (ns.map V.int) → HOk P w H s₁.heap →
      codeAny (model P w) callerA (.call (.ref fa) ⟨[.ref a], []⟩) (fun r s' => r = .ok (.ret (.bool true)) ∧ OldK s₁.heap s'.heap ∧ s'.os = s₁.os ∧ AllBare s'.gens) s₁ := by
    intro H only sq ok
    have free : ∀ {b : Addr}, (b = a → K.lookup a = none → False) → H b = none := fun {b} no => by
      cases hb : H b with
      | none => rfl
      | some u => exact (no (only b u hb).1 (only b u hb).2.1).elim
    have nsOk : ∀ {b : Addr} {m : Str → Option Value}, s₁.heap.Ns b m → (hidT s₁.heap H).Ns b m := by
      rintro b m ⟨o, es, ep, e, d, r⟩
      refine ⟨o, es, ep, hidT_get e (free ?_), d, r⟩
      rintro rfl _
      rw [ha] at e
      cases e
      cases (show Data.seq vs.toArray _ = Data.dict es ep from d)
    have inB : K.In (hidT s₁.heap H) := fun b o e => hidT_get (KX b o e) (free fun q n => by subst q; rw [n] at e; cases e)
    obtain ⟨mc, c1, c2⟩ := hlim
    have md : Mod K mg (hidT s₁.heap H) := ⟨inB, nsOk hns, ⟨mb, nsOk hb, hbb⟩, ⟨mc, nsOk c1, c2⟩⟩
    have env : Env0 P w K mg (hidT s₁.heap H) callerA [] s₁ H := by
      refine ⟨rfl, md, fun b o e => of_hidT e, Nat.le_of_eq (hidT_size _ _), trivial, ?_, ok, .of_eq hg⟩
      intro b hb
      exact absurd hb List.not_mem_nil
    refine codeAny_mono ((F _).run callerA [] s₁ H ⟨[.ref a], []⟩ [.ref a] [.ref a] _ _ hr rfl env (hbind s₁ (.ref a)) (.cons rfl .nil) (hsp H sq)) ?_
    intro r s' z
    match r, z with
    | .error e, z => exact (hCX H e s' z).elim
    | .ok .next, z => exact False.elim z
    | .ok .brk, z => exact False.elim z
    | .ok .cont, z => exact False.elim z
    | .ok (.ret u), z =>
      obtain ⟨v, H', os, bare, un, ok', rv, rfl⟩ := z
      cases (show u = Value.bool true from rv)
      refine ⟨rfl, OldK.of_keep fun b o e => ?_, os, bare⟩
      cases hb : H b with
      | none => exact un.keep b o e hb List.not_mem_nil List.not_mem_nil
      | some u =>
        obtain ⟨rfl, _, ob, ys, rfl⟩ := only b u hb
        have h1 := (ok b _ hb).1
        have h2 := (ok' b _ (un.frzs b ob _ hb)).1
        rw [e] at h1
        cases h1
        exact h2
  have rv := vals_ints hi
  cases hk : K.lookup a with
  | some o =>
    have e := KX a o hk
    rw [ha] at e
    cases e
    refine key (fun _ => none) (fun b u z => nomatch (show (none : Option HO) = some u from z)) (.inr ⟨_, _, _, hk, rfl, rfl, rfl, ?_, by simpa using rv⟩) fun b u z => nomatch (show (none : Option HO) = some u from z)
    simpa [hi.length] using hl
  | none =>
    refine key (fun b => if b = a then some (.frz { cls := .type "list", data := .seq vs.toArray } (.lst (ns.map V.int))) else none) ?_ (.inl (.inr ⟨_, if_pos rfl⟩)) ?_
    · intro b u z
      by_cases hba : b = a
      · rw [if_pos hba] at z
        cases z
        exact ⟨hba, hk, _, _, rfl⟩
      · rw [if_neg hba] at z
        cases z
    · intro b u z
      by_cases hba : b = a
      · have z : (if b = a then some (HO.frz { cls := .type "list", data := .seq vs.toArray } (.lst (ns.map V.int))) else none) = some u := z
        rw [if_pos hba] at z
        cases z
        subst hba
        exact ⟨ha, by simpa using hl, vs, _, rv, ha⟩
      · have z : (if b = a then some (HO.frz { cls := .type "list", data := .seq vs.toArray } (.lst (ns.map V.int))) else none) = some u := z
        rw [if_neg hba] at z
        cases z
theorem walk_ofG {l : PySem.W.OpenLaw} {n k : Nat} {q : Program} {loose : List Str} {XP : (Str → Option Value) → Heap → Prop} {YP : World → Heap → Prop} {d : DefRec} {CX : World → CXT} {x : Str}
    (hn : l.most = some n) (hn2 : n ≤ sizeLine) (hdf : d.params.defaults = []) (hr : Room k callerA)
    (F : ∀ (w : World) (mg : Str → Option Value) (fa : Addr) (h : Heap), YP w h → h.Ns mainGlobals mg → mg d.name = some (.ref fa) →
      ∃ (K : PySem.W.Frag) (fd : FuncData) (sp : Sp), K.In h ∧ (∀ (s : Shared) (u : Value), BindsTo s fd ⟨[u], []⟩ [(x, u)]) ∧
        (∀ (H : Hp) (a : Addr) (ns : List Int), ns.length ≤ n → SqL K H a (ns.map V.int) → sp [.ref a] H (fun v _ => v = .bl true) fun _ _ _ => False) ∧ ∀ base : Heap, FnG l.prog w K mg base (CX w) k fa fd [x] sp)
    (hCX : ∀ (w : World) (H : Hp) (s : Shared) (e : Value) (s' : Shared), CX w [] H s (fun _ _ _ => False) e s' → False) : PySem.W.WalkO q loose XP YP l.row.toRowW d [] (fun f vs => PySem.call f vs) := by
  apply Att.attach_call hn hdf
  intro w s₀ s₁ mg mb fa o pm cd doc a vs ns G Y ho hd hcd hmg hobj hints hlen hg
  obtain ⟨K, fd, sp, KX, b, promise, fn⟩ := F w mg fa _ Y G.T.g hmg
  exact law_callG KX G.T.g G.T.b G.T.builtins G.T.nolimit hg hobj hints (Nat.le_trans hlen hn2) hr fn b (fun H => promise H a ns hlen) fun H e s' => hCX w H s₁ e s'
end PC
end
section
set_option Elab.async false
set_option linter.all false
set_option autoImplicit false
set_option maxRecDepth 100000
set_option maxHeartbeats 1000000
/-! A def's end, and all defs of a table at once. -/
namespace PC
open PySem L2 PyProof.Rows
/-- THE END of a def -/
theorem finOk {K : PySem.W.Frag} {Wq : Wd → Hp → Store → D → Prop} {φ φ1 : Wd} {H H1 : Hp} {st st1 : Store} {d : D} {v : V} {Q : VK} (s0 : Sim K φ H st) (e : Ext K φ H φ1 H1) (s1 : Sim K φ1 H1 st1) (rv : RepV K φ1 H1 v d) (h : Post K (RV K) Wq φ H (fin st.length st d st1) Q) : Q v H1 := by
  have stay : Post K (RV K) Wq φ H (.ok d st1) Q → Q v H1 := fun h => h φ1 H1 v e s1 rv
  unfold fin at h
  split at h
  · rename_i hcl
    have hcl : (st1.take st.length).all (Cell.closed st.length) = true := hcl.elim (fun z => by rw [z]; exact s0.cl rfl) id
    have pre : ∀ (k : Nat) (p : Addr), φ.c[k]? = some p → (φ1.c.take st.length)[k]? = some p := fun k p hk => by
      have hk' : k < st.length := by
        obtain ⟨h1, _⟩ := List.getElem?_eq_some_iff.mp hk
        rw [← s0.len]; exact h1
      rw [List.getElem?_take_of_lt hk']; exact e.pre k p hk
    -- the cells that go
    have drop : ∀ d2, RepV K φ1 H1 v d2 → closed st.length d2 = true → Post K (RV K) Wq φ H (.ok d2 (st1.take st.length)) Q → Q v H1 := fun d2 r2 c2 h2 => by
      refine h2 ⟨φ1.c.take st.length, φ1.F⟩ H1 v ⟨⟨pre, e.tup, e.lst⟩, e.keep, fun p hp => e.new p (List.mem_of_mem_take hp), e.newF, e.dom⟩ (s1.less rfl (fun _ z => z) (fun p hp => ?_) hcl) (RepV.less (φ2 := ⟨φ1.c.take st.length, φ1.F⟩) rfl (fun _ z => z) r2 c2)
      obtain ⟨h1, h2⟩ := s1.frz p hp
      exact ⟨fun hm => h1 (List.mem_of_mem_take hm), h2⟩
    cases d with
    | ref k =>
      simp only at h
      split at h
      · rename_i hk
        exact drop _ rv (decide_eq_true hk) h
      · rename_i hk
        split at h
        · rename_i xs hx
          split at h
          · rename_i hxs
            cases rv with
            | ref hp =>
              rename_i p
              obtain ⟨c, hc, rc⟩ := s1.at_ hp
              rw [hx] at hc
              cases hc
              obtain ⟨vs, hv, rvs⟩ := rc
              have hp' : p ∉ φ1.c.take st.length := nd_take s1.nd hp (Nat.le_of_not_lt hk)
              have hp0 : p ∉ φ.c := fun hm => by
                obtain ⟨j, hj, ej⟩ := List.getElem_of_mem hm
                exact hp' (List.mem_of_getElem? (pre j p (by rw [List.getElem?_eq_getElem hj, ej])))
              have hn := e.new p (List.mem_of_getElem? hp) hp0
              have hF : ∀ q, φ1.F q → (Wd.F ⟨φ1.c.take st.length, fun q => φ1.F q ∨ q = p⟩) q := fun q z => .inl z
              refine h ⟨φ1.c.take st.length, fun q => φ1.F q ∨ q = p⟩ H1 (.ref p) ⟨⟨pre, e.tup, fun q us a b => ⟨(e.lst q us a b).1, .inl (e.lst q us a b).2⟩⟩, e.keep, fun q hq => e.new q (List.mem_of_mem_take hq), fun q hq hq' => ?_, e.dom⟩
                (s1.less rfl hF (fun q hq => ?_) hcl) (.lst ⟨.inl hv, .inr rfl⟩ (rvs.less rfl hF hxs))
              · rcases hq with hq | rfl
                · exact e.newF q hq hq'
                · exact hn
              · rcases hq with hq | rfl
                · obtain ⟨h1, h2⟩ := s1.frz q hq
                  exact ⟨fun hm => h1 (List.mem_of_mem_take hm), h2⟩
                · exact ⟨hp', _, hv⟩
          · exact stay h
        · exact stay h
    | non | bl | int | str | tup | lst | exc | scr | kset =>
      simp only at h
      split at h
      · rename_i hcd
        exact drop _ rv hcd h
      · exact stay h
  · exact stay h

/-- .. that an exception leaves -/
theorem finXOk {K : PySem.W.Frag} {E : XK} {φ φ1 : Wd} {H H1 : Hp} {st st1 : Store} {d : D} {Q : VK} (s0 : Sim K φ H st) (e : Ext K φ H φ1 H1) (s1 : Sim K φ1 H1 st1) (h : Post K (RV K) (wX K E) φ H (finX st.length st d st1) Q) : wX K E φ1 H1 st1 d := by
  unfold finX at h
  split at h
  · rename_i hcl
    have hcl : (st1.take st.length).all (Cell.closed st.length) = true := hcl.elim (fun z => by rw [z]; exact s0.cl rfl) id
    have pre : ∀ (k : Nat) (p : Addr), φ.c[k]? = some p → (φ1.c.take st.length)[k]? = some p := fun k p hk => by
      have hk' : k < st.length := by
        obtain ⟨h1, _⟩ := List.getElem?_eq_some_iff.mp hk
        rw [← s0.len]; exact h1
      rw [List.getElem?_take_of_lt hk']; exact e.pre k p hk
    refine h ⟨φ1.c.take st.length, φ1.F⟩ H1 ⟨⟨pre, e.tup, e.lst⟩, e.keep, fun p hp => e.new p (List.mem_of_mem_take hp), e.newF, e.dom⟩ (s1.less rfl (fun _ z => z) (fun p hp => ?_) hcl)
    obtain ⟨h1, h2⟩ := s1.frz p hp
    exact ⟨fun hm => h1 (List.mem_of_mem_take hm), h2⟩
  · exact h φ1 H1 e s1
/-- the start -/
theorem repS_start {K : PySem.W.Frag} {φ : Wd} {H : Hp} {vs : List V} {as : List D} {N : List Str} (r : RepVs K φ H vs as) : RepS K φ H (start N vs) (as.map some ++ List.replicate (N.length - as.length) none) := by
  refine ⟨?_, fun i d h => ?_⟩
  · unfold L2.start
    simp only [List.length_append, List.length_map, List.length_replicate, r.length]
  · by_cases hi : i < as.length
    · rw [List.getElem?_append_left (by rw [List.length_map]; exact hi), List.getElem?_map] at h
      cases e : as[i]? with
      | none => rw [e] at h; cases h
      | some a =>
        rw [e] at h
        cases h
        obtain ⟨v, hv, rv⟩ := r.get e
        refine ⟨v, ?_, rv⟩
        unfold L2.start
        rw [List.getElem?_append_left (by rw [List.length_map, r.length]; exact hi), List.getElem?_map, hv]; rfl
    · rw [List.getElem?_append_right (by rw [List.length_map]; omega), List.getElem?_replicate] at h
      split at h <;> cases h
/-- a def's promise: what the core's run gives -/
def spF (K : PySem.W.Frag) (cf : CF) (f : String) : Sp := fun vs H Q E => ∃ φ st as, Sim K φ H st ∧ RepVs K φ H vs as ∧ Post K (RV K) (wX K E) φ H (cf f as st) Q
/-- a def of the module, as its core says -/
structure Def1 (K : PySem.W.Frag) (f : String) (fn : Fn) (a : Addr) (fd : FuncData) (ps : List Str) : Prop where
  ex : ∃ (nm q : Str) (params : Arguments) (body : List Stmt) (scope : Scope) (N : List Str), FunD K nm q params body scope [] [] a fd ∧ FnScope N ps scope ∧ chkSs N scope fn.body body = true ∧ N.length = fn.ns
  kp : PySem.W.keepIn K (.ref a) = true
  bd : Binds K fd ps []
  np : ps.length = fn.np
/-- what the calls of a def lean on -/
structure Mods (P : Program) (w : World) (K : PySem.W.Frag) (mg : Str → Option Value) (base : Heap) (ge : GE) (cf : CF) (k : Nat) : Prop where
  fn : ∀ f, ge.fs f = true → ∃ a fd ps, FnG P w K mg base (L2.CX P w) k a fd ps (spF K cf f) ∧ mg (Str.ofString f) = some (.ref a) ∧ PySem.W.keepIn K (.ref a) = true ∧ Binds K fd ps []
  me : ∀ c m, ge.cl c = true → ge.ms c m = true → ∃ a fd ps, FnG P w K mg base (L2.CX P w) k a fd ps (spF K cf (mN c m)) ∧ Meth K (He.ga K (Str.ofString c)) (Str.ofString m) a ∧ Binds K fd ps []
  mi : ∀ c, ge.cl c = true → ge.ms c "__init__" = true → ∃ a fd ps, FnG P w K mg base (L2.CX P w) k a fd ps (spF K cf (mN c "__init__")) ∧ Mk K (He.ga K (Str.ofString c)) a ∧ mg (Str.ofString c) = some (.ref (He.ga K (Str.ofString c))) ∧ Binds K fd ps []
  cls : ∀ c, ge.cl c = true → Cls K (He.ga K (Str.ofString c))
section
variable {P : Program} {w : World} {K : PySem.W.Frag} {mg : Str → Option Value} {base : Heap} {ge : GE} {T : Tab}
theorem callsOf {cf : CF} {k : Nat} (hfs : Mods P w K mg base ge cf k)
    (X : Cx) (h1 : X.prog = P) (h2 : X.w = w) (h3 : X.K = K) (h4 : X.mg = mg) (h5 : X.base = base) (hr : Room (k + 1) X.A) (hgd : X.A.guards = some []) : ∀ Wx, Takes X Wx → CallsM ge cf X (wOf X.K Wx) := by
  have key : ∀ Y, SameM X Y → ∀ Wx, Takes Y Wx → Calls ge cf Y (wOf Y.K Wx) ∧ Calls0 ge cf Y (wOf Y.K Wx) ∧ CallsO ge cf Y (wOf Y.K Wx) ∧ CallsI ge cf Y (wOf Y.K Wx) ∧ CallsV ge cf Y (wOf Y.K Wx) := by
    intro Y hY Wx tk
    have hM : Mods Y.prog Y.w Y.K Y.mg Y.base ge cf k := by
      rw [hY.prog, hY.w, hY.K, hY.mg, hY.base, h1, h2, h3, h4, h5]; exact hfs
    have hrY : Room (k + 1) Y.A := by rw [hY.A]; exact hr
    have hr0 : Room k Y.A := hrY.mono (Nat.le_succ k)
    have hgY : Y.A.guards = some [] := by rw [hY.A]; exact hgd
    have dbg : ∀ f, nmB (Str.ofString f) = true → (Str.ofString f == ("__debug__" : Str)) = false := fun f hn => (nmB_ok hn).1
    refine ⟨?_, ?_, ?_, ?_, ?_⟩
    · intro f e es t p pos hf hg hn he hes ha
      obtain ⟨a, fd, ps, F, hm, kp, bd⟩ := hM.fn f hf
      exact PE.weak (pe_callG (E := WE Wx) F hr0 hgY (glB_ok hg) hm kp bd (passAt tk) ha (dbg f hn) (star_good he) (star_all hes)) fun σ H Q q => q
    · intro f p pos hf hg hn
      obtain ⟨a, fd, ps, F, hm, kp, bd⟩ := hM.fn f hf
      refine PE.weak (pe_callG0 (E := WE Wx) F hr0 hgY (glB_ok hg) hm kp bd (passAt tk) (dbg f hn)) fun σ H Q ⟨φ, st, sim, post⟩ => ?_
      exact ⟨φ, st, [], sim, .nil, post⟩
    · intro c m o es to t ap pos hc hms ho ho' hl hn hto ha
      obtain ⟨a, fd, ps, F, hm, bd⟩ := hM.me c m hc hms
      have hf := meth_form (env := Y.env) (m := Str.ofString m) ho ho' hl hn ha.1
      cases es with
      | nil =>
        refine PE.weak (pe_methG0 (E := WE Wx) (PE.up hto) (hM.cls c hc) hm F hr0 hgY bd (passAt tk) hf) fun σ H Q q => ?_
        exact ⟨_, q, fun v H' ⟨a, dx, fs, h1, h2, h3, h4⟩ => ⟨a, dx, fs, h1, h2, h3, ha.2.2 rfl _ _ _ h4⟩⟩
      | cons e es =>
        exact PE.weak (pe_methG (E := WE Wx) hto (hM.cls c hc) hm F hr0 hgY bd (passAt tk) ha.2.1 (star_good (ha.1 e List.mem_cons_self)) (star_all fun x hx => ha.1 x (List.mem_cons_of_mem _ hx)) hf) fun σ H Q q => q
    · intro c es t p pos hc hms hg hn ha
      obtain ⟨a, fd, ps, F, M, hm, bd⟩ := hM.mi c hc hms
      cases es with
      | nil =>
        exact PE.weak (pe_makeG0 (E := WE Wx) M F hrY hgY (glB_ok hg) hm bd (passAt tk) (dbg c hn)) fun σ H Q q => ha.2.2 rfl _ _ _ q
      | cons e es =>
        exact PE.weak (pe_makeG (E := WE Wx) M F hrY hgY (glB_ok hg) hm bd (passAt tk) ha.2.1 (dbg c hn) (star_good (ha.1 e List.mem_cons_self)) (star_all fun x hx => ha.1 x (List.mem_cons_of_mem _ hx))) fun σ H Q q => q
    · intro a0 b0 p0 fe e es t pos he hes hfe ha
      refine ⟨fun pins s σ H Q I h => ?_⟩
      refine Call_ (thn (hfe.run pins s σ H _ I h) fun u s1 ⟨x, H1, I1, rx, f, a, hf, ex, hm, q⟩ => ?_)
      subst ex
      cases rx
      obtain ⟨a', fd, ps, F, hm', kp, bd⟩ := hM.fn f hf
      have ea : a' = a := by
        rw [hm'] at hm
        injection hm with hm
        injection hm
      subst ea
      refine PySem.W.callWith_K (h₀ := Y.base) I1.ok.mod.kin kp ?_ (star_good he) (star_all hes)
      exact thn (ha.run pos pins s1 σ H1 _ I1 q) fun us s2 ⟨vs, H2, J, r, z⟩ => ⟨J.kIn, run_fnG (E := WE Wx) F hr0 hgY bd (passAt tk σ) J r z⟩
  intro Wx tk
  have k0 := key X (SameM.refl X) Wx tk
  refine ⟨k0.1, k0.2.1, k0.2.2.1, k0.2.2.2.1, k0.2.2.2.2, fun f hf => ?_, key⟩
  obtain ⟨a, fd, ps, _, hm, _⟩ := hfs.fn f hf
  exact ⟨a, by rw [h4]; exact hm⟩
/-- the defs and classes of a module -/
structure Mod0 (K : PySem.W.Frag) (mg : Str → Option Value) (ge : GE) (T : Tab) : Prop where
  def_ : ∀ f fn, T f = some fn → ∃ a fd ps, Def1 K f fn a fd ps
  fn : ∀ f, ge.fs f = true → ∃ fn a fd ps, T f = some fn ∧ Def1 K f fn a fd ps ∧ mg (Str.ofString f) = some (.ref a)
  me : ∀ c m, ge.cl c = true → ge.ms c m = true → ∃ fn a fd ps, T (mN c m) = some fn ∧ Def1 K (mN c m) fn a fd ps ∧ Meth K (He.ga K (Str.ofString c)) (Str.ofString m) a
  mi : ∀ c, ge.cl c = true → ge.ms c "__init__" = true → ∃ fn a fd ps, T (mN c "__init__") = some fn ∧ Def1 K (mN c "__init__") fn a fd ps ∧ Mk K (He.ga K (Str.ofString c)) a ∧ mg (Str.ofString c) = some (.ref (He.ga K (Str.ofString c)))
  cls : ∀ c, ge.cl c = true → Cls K (He.ga K (Str.ofString c))
  noat : ∀ c f, ge.fd c f = true → NoAttr K (He.ga K (Str.ofString c)) (Str.ofString f)
  free : ∀ x ∈ bltNames, mg x = none
  x : XOk ge K mg
  glob : ∀ x d, ge.gl x = some d → ∃ v u, mg (Str.ofString x) = some u ∧ RelV v u ∧ ∀ φ H, RepV K φ H v d
/-- ALL DEFS -/
theorem defsOk (M : Mod0 K mg ge T) :
    ∀ (k : Nat) (f : String) (fn : Fn) (a : Addr) (fd : FuncData) (ps : List Str), T f = some fn → Def1 K f fn a fd ps → FnG P w K mg base (L2.CX P w) (2 * k) a fd ps (spF K (call ge T k) f)
  | 0, f, fn, a, fd, ps, hf, d => ⟨fun vs H Q E ⟨φ, st, as, s, r, p⟩ => p.elim, fun A outer s H args us vs Q E hr hgd he hb hv ⟨φ, st, as, s, r, p⟩ => p.elim⟩
  | k + 1, f, fn, a, fd, ps, hf, d => by
    have ih := defsOk M k
    obtain ⟨nm, qn, params, body, scope, N, F, S, hc, hN⟩ := d.ex
    have eq : ∀ as st, call ge T (k + 1) f as st = run ge (call ge T k) fn as st := fun as st => by
      show (match T f with | some fn => run ge (call ge T k) fn as st | none => .err) = _
      rw [hf]
    have hM : Mods P w K mg base ge (call ge T k) (2 * k) := by
      refine ⟨fun f hf => ?_, fun c m hc hm => ?_, fun c hc hm => ?_, M.cls⟩
      · obtain ⟨fn, a, fd, ps, h1, d, h2⟩ := M.fn f hf
        exact ⟨a, fd, ps, ih f fn a fd ps h1 d, h2, d.kp, d.bd⟩
      · obtain ⟨fn, a, fd, ps, h1, d, h2⟩ := M.me c m hc hm
        exact ⟨a, fd, ps, ih _ fn a fd ps h1 d, h2, d.bd⟩
      · obtain ⟨fn, a, fd, ps, h1, d, h2, h3⟩ := M.mi c hc hm
        exact ⟨a, fd, ps, ih _ fn a fd ps h1 d, h2, h3, d.bd⟩
    refine fnG_of (k := 2 * k + 1) F S (fun vs H Q E ⟨φ, st, as, s, r, p⟩ => ?_) fun cdv A outer s H vs Q E hgd hr ⟨φ, st, as, sim, r, p⟩ => ?_
    · rw [eq] at p
      unfold run gd at p
      split at p
      · rename_i h
        rw [r.length, h.1, d.np]
      · exact p.elim
    · generalize hX : cxOf (L2.CX P w) P w K mg base N qn scope a cdv A outer s H E = X
      have oS : OkS ge (call ge T k) X (wOf K fun cls d _ H => E cls d H) := by
        subst hX
        have tk : Takes (cxOf (L2.CX P w) P w K mg base N qn scope a cdv A outer s H E) (fun cls d _ H => E cls d H) := takes_of rfl rfl rfl rfl
        refine ⟨⟨rfl, S.nd, ?_, hgd, M.free, M.glob, M.cls, M.noat, M.x⟩, callsOf hM _ rfl rfl rfl rfl rfl hr hgd _ tk, fun _ => rfl, ?_, S.kind, ⟨_, tk, fun _ _ _ _ _ z => z⟩, rfl, rfl, rfl⟩
        · have := hr.un
          show (A.deeper (envOfC qn scope s.heap.objs.size a cdv)).units + 65 < cLine
          omega
        · exact passes_of rfl
      refine ⟨tSt K (wOf K fun cls d _ H => E cls d H) (exs ge (call ge T k) fn.body), ?_, ?_⟩
      · have q := sSs oS fn.body body (by subst hX; exact hc)
        subst hX
        exact q
      · rw [eq] at p
        unfold run gd at p
        split at p
        · rename_i h
          refine ⟨φ, _, st, repS_start (N := N) r, sim, ?_⟩
          rw [hN]
          cases er : exs ge (call ge T k) fn.body (as.map some ++ List.replicate (fn.ns - as.length) none) st with
          | rt d st1 =>
            rw [er] at p
            simp only at p
            intro φ1 H1 v e1 s1 rv
            split at p
            · exact p φ1 H1 v e1 s1 rv
            · exact finOk sim e1 s1 rv p
          | nx τ st1 =>
            rw [er] at p
            simp only at p
            intro φ1 H1 v e1 s1 rv
            split at p
            · exact p φ1 H1 .non e1 s1 .non
            · exact finOk sim e1 s1 .non p
          | exc d τ st1 =>
            rw [er] at p
            simp only at p
            intro φ1 H1 σ1 e1 s1 _
            split at p
            · exact p φ1 H1 e1 s1
            · exact finXOk sim e1 s1 p
          | bk τ st1 => rw [er] at p; exact p.elim
          | ct τ st1 => rw [er] at p; exact p.elim
          | err => rw [er] at p; exact p.elim
        · exact p.elim
end
end PC
end
section
set_option Elab.async false
set_option linter.all false
set_option autoImplicit false
set_option maxRecDepth 100000
set_option maxHeartbeats 1000000
/-! The end: the head's facts for a list of defs with their cores. -/
namespace PC
open PySem L2 PyProof.Rows
/-- a def of the text, with its core; a method: its class -/
structure DR where
  nm : String
  st : Stmt
  ps : List Str
  N : List Str
  fn : Fn
  cl : Option (String × String) := none
/-- the module's constants -/
inductive KC where
  | int (i : Int) | str (s : List Nat) | dat (d : D)
def KC.d : KC → D
  | .int i => .int i
  | .str s => .str s
  | .dat d => d
mutual
/-- data that stand among the module's own things -/
def kD (K : PySem.W.Frag) : D → Value → Bool
  | .non, .none => true
  | .bl b, .bool c => decide (c = b)
  | .int i, .int j _ => decide (j = i)
  | .str s, .str z _ => decide (z = sv s)
  | .tup ds, .ref p => (match K.lookup p with
    | some o => decide (o.cls = .type "tuple") && (match o.data with
      | .seq its _ => decide (its.size ≤ sizeLine) && kDs K ds its.toList
      | _ => false)
    | none => false)
  | _, _ => false
termination_by structural d => d
def kDs (K : PySem.W.Frag) : List D → List Value → Bool
  | [], [] => true
  | d :: ds, v :: vs => kD K d v && kDs K ds vs
  | _, _ => false
termination_by structural d => d
end
mutual
theorem kD_ok {K : PySem.W.Frag} : ∀ (d : D) (u : Value), kD K d u = true → ∃ v, RelV v u ∧ ∀ φ H, RepV K φ H v d
  | .non, u, h => by
    cases u <;> first | exact ⟨.non, rfl, fun _ _ => .non⟩ | cases h
  | .bl b, u, h => by
    cases u <;> first | (cases h; done) | skip
    rename_i c
    have e : c = b := of_decide_eq_true h
    subst e
    exact ⟨.bl c, rfl, fun _ _ => .bl c⟩
  | .int b, u, h => by
    cases u <;> first | (cases h; done) | skip
    rename_i c t
    have e : c = b := of_decide_eq_true h
    subst e
    exact ⟨.int c, ⟨t, rfl⟩, fun _ _ => .int c⟩
  | .str b, u, h => by
    cases u <;> first | (cases h; done) | skip
    rename_i c t
    have e : c = sv b := of_decide_eq_true h
    subst e
    exact ⟨.str (sv b), ⟨t, rfl⟩, fun _ _ => .str b⟩
  | .tup ds, u, h => by
    cases u <;> first | (cases h; done) | skip
    rename_i p
    have h : (match K.lookup p with
      | some o => decide (o.cls = .type "tuple") && (match o.data with
        | .seq its _ => decide (its.size ≤ sizeLine) && kDs K ds its.toList
        | _ => false)
      | none => false) = true := h
    split at h
    · rename_i o ho
      rw [Bool.and_eq_true, decide_eq_true_eq] at h
      obtain ⟨h1, h2⟩ := h
      split at h2
      · rename_i its n hd
        rw [Bool.and_eq_true, decide_eq_true_eq] at h2
        obtain ⟨vs, h3, h4⟩ := kDs_ok ds its.toList h2.2
        exact ⟨.ref p, rfl, fun φ H => .tup (.inr ⟨o, its, n, ho, h1, hd, h2.1, h3⟩) (h4 φ H)⟩
      · cases h2
    · cases h
  | .lst _, u, h => by cases u <;> cases h
  | .ref _, u, h => by cases u <;> cases h
  | .exc _ _, u, h => by cases u <;> cases h
  | .scr _, u, h => by cases u <;> cases h
  | .kset _, u, h => by cases u <;> cases h
theorem kDs_ok {K : PySem.W.Frag} : ∀ (ds : List D) (us : List Value), kDs K ds us = true → ∃ vs, Vals vs us ∧ ∀ φ H, RepVs K φ H vs ds
  | [], us, h => by
    cases us with
    | nil => exact ⟨[], .nil, fun _ _ => .nil⟩
    | cons _ _ => cases h
  | d :: ds, us, h => by
    cases us with
    | nil => cases h
    | cons u us =>
      have h : (kD K d u && kDs K ds us) = true := h
      rw [Bool.and_eq_true] at h
      obtain ⟨v, h1, h2⟩ := kD_ok d u h.1
      obtain ⟨vs, h3, h4⟩ := kDs_ok ds us h.2
      exact ⟨v :: vs, .cons h1 h3, fun φ H => .cons (h2 φ H) (h4 φ H)⟩
end
/-- a class of the text: its fields, its methods but __init__ -/
structure CR where
  nm : String
  fs : List String
  ms : List String
/-- own exception classes that are raised, with all that they are; the names that are asked for -/
structure XS where
  xs : List (String × List String)
  ks : List String
def excB (K : PySem.W.Frag) (c : String) : Bool := (c != "ValueError") && PySem.W.keepIn K (.ref (He.ga K (Str.ofString c))) && PySem.W.excIn K (He.ga K (Str.ofString c)) [.type "ValueError", .type "Exception", .type "BaseException", .type "object"] "ValueError.__new__" &&
  (PySem.W.findIn K (.ref (He.ga K (Str.ofString c))) "__getattribute__" == some (some (.builtin "BaseException.__getattribute__"))) && (PySem.W.findIn K (.ref (He.ga K (Str.ofString c))) "__getattr__" == some none) &&
  (PySem.W.subIn K (.ref (He.ga K (Str.ofString c))) (.type "BaseException") == some true) && PySem.W.hasDictIn K (He.ga K (Str.ofString c)) && (PySem.W.findIn K (.ref (He.ga K (Str.ofString c))) "__class__" == some (some (.builtin "object.__class__"))) &&
  (PySem.W.specialIn K (.builtin "object.__class__") "__get__" == some (some (.builtin "getset_descriptor.__get__"))) && (PySem.W.takesIn K (.builtin "object.__class__") == some true) && (PySem.W.mroIn K (He.ga K (Str.ofString c)) (.type "object") == some true) &&
  (PySem.W.typeIn K (.ref (He.ga K (Str.ofString c))) == some (.type "type"))
def askB (K : PySem.W.Frag) (p : String × List String) (k : String) : Bool := (PySem.W.kitOne K (.ref (He.ga K (Str.ofString p.1))) (cvOf K k) == some (p.2.contains k)) &&
  (k == "ValueError" || PySem.W.exmOne K (.ref (He.ga K (Str.ofString p.1))) (.ref (He.ga K (Str.ofString k))) == some (p.2.contains k))
def xB (x : XS) (K : PySem.W.Frag) : Bool := (x.xs.all fun p => excB K p.1 && x.ks.all (askB K p)) && x.ks.all fun k => PySem.W.kitOne K (.type "NoneType") (cvOf K k) == some false
/-- what is asked of the module's own things, beyond the kit's facts -/
def extraB (cs : List (String × KC)) (x : XS) (K : PySem.W.Frag) : Bool := xB x K && cs.all fun c => match c.2 with
  | .dat d => (match PySem.W.nsIn K mainGlobals (Str.ofString c.1) with
    | some (some u) => kD K d u
    | _ => false)
  | _ => true
def hookX (n : Nat) (fa : List He.Fa) (fn : List He.DefD) (ex : PySem.W.Frag → Bool) : PySem.W.Hook where
  α := He.AlD × Bool
  obs := fun s => (He.obsDG n fa fn s.heap.get?, ex (He.frG s.heap.get? (He.asD s.heap.get? n)))
  val := fun _ => (He.valD fn, true)
  says := fun _ h => ∃ K : PySem.W.Frag, K.In h ∧ He.SaysD fa fn K ∧ ex K = true
  of := fun _ _ e => ⟨_, He.frG_in, (Prod.mk.inj e).1, (Prod.mk.inj e).2⟩
  keeps := fun _ _ _ ⟨K, hK, c⟩ k => ⟨K, PySem.W.Frag.In.keeps hK k, c⟩
def obsX (n : Nat) (fa : List He.Fa) (fn : List He.DefD) (ex : PySem.W.Frag → Bool) (g : Addr → Option Obj) : He.AlD × Bool := (He.obsDG n fa fn g, ex (He.frG g (He.asD g n)))
theorem obsX_eq {n : Nat} {fa : List He.Fa} {fn : List He.DefD} {ex : PySem.W.Frag → Bool} {g : Addr → Option Obj} {s : Shared} (h : ∀ a, g a = s.heap.get? a) : obsX n fa fn ex g = (hookX n fa fn ex).obs s := by
  have e : g = s.heap.get? := funext h
  rw [e] <;> rfl
def KC.fa (x : String) : KC → List He.Fa
  | .int i => [.int (Str.ofString x) i]
  | .str s => [.str (Str.ofString x) (sv s)]
  | .dat _ => []
def DR.dd (d : DR) : He.DefD := match d.cl with
  | none => ⟨(Str.ofString d.nm, none), Str.ofString d.nm, Str.ofString d.nm, defArgs d.st, defBody d.st, defScope d.st, [], []⟩
  | some (c, m) => ⟨(Str.ofString c, some (Str.ofString m)), Str.ofString m, Str.ofString d.nm, defArgs d.st, defBody d.st, defScope d.st, [], []⟩
def DR.ok (d : DR) : Bool := C8.scC d.N d.ps (defScope d.st) && (chkSs d.N (defScope d.st) d.fn.body (defBody d.st) && (decide (d.N.length = d.fn.ns) && decide (d.ps.length = d.fn.np)))
def BindOk (d : DR) : Prop := ∀ (x q : Str) (kV doc pm : Value) (an : Option Addr) (cdv ct : Value) (us : List Value), us.length = d.ps.length → bindArgs (PySem.W.fnOf x q (defArgs d.st) (defBody d.st) (defScope d.st) .none kV doc pm an cdv ct) ⟨us, []⟩ = pure (d.ps.zip us)
def DR.fa (d : DR) : List He.Fa := match d.cl with
  | none => [.glo (Str.ofString d.nm)]
  | some _ => []
def CR.fa (c : CR) : List He.Fa := [.glo (Str.ofString c.nm), .cls (Str.ofString c.nm), .mkr (Str.ofString c.nm)] ++ c.fs.map (fun f => .noat (Str.ofString c.nm) (Str.ofString f)) ++ c.ms.map (fun m => .meth (Str.ofString c.nm) (Str.ofString m))
def XS.fa (x : XS) : List He.Fa := ((x.xs.map (·.1) ++ x.ks).filter fun k => k != "ValueError").map fun k => .glo (Str.ofString k)
def faOf (ds : List DR) (cr : List CR) (cs : List (String × KC)) (x : XS) : List He.Fa := ds.flatMap DR.fa ++ (bltNames.map .free ++ (cs.flatMap (fun c => c.2.fa c.1) ++ (cr.flatMap CR.fa ++ x.fa)))
def tab (ds : List DR) : Tab := fun f => (ds.find? fun d => d.nm == f).map (·.fn)
def isFn (ds : List DR) (f : String) : Bool := ds.any fun d => d.nm == f && d.cl.isNone
def isMe (cr : List CR) (c m : String) : Bool := cr.any fun r => r.nm == c && ("__init__" :: r.ms).contains m
def geOf (ds : List DR) (cr : List CR) (cs : List (String × KC)) (x : XS) : GE := ⟨fun c => (x.xs.lookup c).getD [], fun x => (cs.lookup x).map KC.d, isFn ds, fun c => cr.any fun r => r.nm == c, fun c f => cr.any fun r => r.nm == c && r.fs.contains f, isMe cr, fun c => (x.xs.lookup c).isSome, fun k => x.ks.contains k⟩
/-- names stand for one def each; classes have their methods -/
def nmOk (ds : List DR) (cr : List CR) : Bool := (ds.all fun d => match ds.find? (fun e => e.nm == d.nm) with
    | some e => decide (e.cl = d.cl)
    | none => false) && cr.all fun r => ("__init__" :: r.ms).all fun m => match ds.find? (fun e => e.nm == mN r.nm m) with
    | some e => decide (e.cl = some (r.nm, m))
    | none => false
section
variable {ds : List DR} {cr : List CR} {cs : List (String × KC)} {x : XS} {P : Program} {w : World} {K : PySem.W.Frag} {h : Heap} {mg : Str → Option Value}
theorem says {f : He.Fa} (c : He.SaysD (faOf ds cr cs x) (ds.map DR.dd) K) (m : f ∈ faOf ds cr cs x) : f.ok K = true := by
  obtain ⟨i, hi, e⟩ := List.getElem_of_mem m
  exact c.fact i (by rw [List.getElem?_eq_getElem hi, e])
theorem defOf1 (hok : ds.all DR.ok = true) (hb : ∀ d ∈ ds, BindOk d) (c : He.SaysD (faOf ds cr cs x) (ds.map DR.dd) K) (d : DR) (m : d ∈ ds) :
    ∃ fd, Def1 K d.nm d.fn (He.fAd K d.dd.at_) fd d.ps ∧ ∀ (s : Shared) (us : List Value), us.length = d.ps.length → BindsTo s fd ⟨us, []⟩ (d.ps.zip us) := by
  obtain ⟨i, hi, e⟩ := List.getElem_of_mem m
  have hget : (ds.map DR.dd)[i]? = some d.dd := by rw [List.getElem?_map, List.getElem?_eq_getElem hi, e]; rfl
  obtain ⟨fd, F⟩ := c.def_ i hget
  have F : FunD K d.dd.name d.dd.qual (defArgs d.st) (defBody d.st) (defScope d.st) [] [] (He.fAd K d.dd.at_) fd := by
    have e1 : d.dd.params = defArgs d.st := by unfold DR.dd; cases d.cl <;> rfl
    have e2 : d.dd.body = defBody d.st := by unfold DR.dd; cases d.cl <;> rfl
    have e3 : d.dd.scope = defScope d.st := by unfold DR.dd; cases d.cl <;> rfl
    have e4 : d.dd.dvs K = [] := by unfold DR.dd; cases d.cl <;> rfl
    have e5 : d.dd.kws K = [] := by unfold DR.dd; cases d.cl <;> rfl
    rw [e1, e2, e3, e4, e5] at F
    exact F
  have hd := List.all_eq_true.mp hok d m
  unfold DR.ok at hd
  simp only [Bool.and_eq_true, decide_eq_true_eq] at hd
  obtain ⟨h1, h2, h3, h4⟩ := hd
  exact ⟨fd, ⟨⟨_, _, _, _, _, d.N, F, C8.fnScope_by h1, h2, h3⟩, F.kp, F.bindsN (hb d m _ _), h4⟩, fun s us hl => F.bindsA (ps := d.ps) (hb d m _ _) s us hl⟩
theorem tab_mem {f : String} {fn : Fn} (h : tab ds f = some fn) : ∃ d ∈ ds, d.nm = f ∧ d.fn = fn := by
  unfold tab at h
  cases e : ds.find? fun d => d.nm == f with
  | none => rw [e] at h; cases h
  | some d =>
    rw [e] at h
    cases h
    have := List.find?_some e
    exact ⟨d, List.mem_of_find?_eq_some e, by simpa using this, rfl⟩
theorem mem_of_look {x : String} {k : KC} : ∀ {cs : List (String × KC)}, cs.lookup x = some k → (x, k) ∈ cs
  | [], h => by cases h
  | (y, j) :: cs, h => by
    rw [List.lookup_cons] at h
    split at h
    · rename_i e
      cases h
      rw [show x = y by simpa using e]
      exact List.mem_cons_self
    · exact List.mem_cons_of_mem _ (mem_of_look h)
theorem fa_glo (r : CR) : He.Fa.glo (Str.ofString r.nm) ∈ r.fa := List.mem_append_left _ (List.mem_append_left _ List.mem_cons_self)
theorem fa_cls (r : CR) : He.Fa.cls (Str.ofString r.nm) ∈ r.fa := List.mem_append_left _ (List.mem_append_left _ (List.mem_cons_of_mem _ List.mem_cons_self))
theorem fa_mkr (r : CR) : He.Fa.mkr (Str.ofString r.nm) ∈ r.fa := List.mem_append_left _ (List.mem_append_left _ (List.mem_cons_of_mem _ (List.mem_cons_of_mem _ List.mem_cons_self)))
theorem fa_noat {r : CR} {f : String} (h : f ∈ r.fs) : He.Fa.noat (Str.ofString r.nm) (Str.ofString f) ∈ r.fa := List.mem_append_left _ (List.mem_append_right _ (List.mem_map.mpr ⟨f, h, rfl⟩))
theorem fa_meth {r : CR} {f : String} (h : f ∈ r.ms) : He.Fa.meth (Str.ofString r.nm) (Str.ofString f) ∈ r.fa := List.mem_append_right _ (List.mem_map.mpr ⟨f, h, rfl⟩)
theorem look_mem {α : Type} {c : String} {l : α} : ∀ {xs : List (String × α)}, xs.lookup c = some l → (c, l) ∈ xs
  | [], h => by cases h
  | (d, m) :: xs, h => by
    rw [List.lookup_cons] at h
    split at h
    · rename_i e
      cases h
      rw [show c = d by simpa using e]
      exact List.mem_cons_self
    · exact List.mem_cons_of_mem _ (look_mem h)
theorem xOk (X : K.In h) (G : h.Ns mainGlobals mg) (c : He.SaysD (faOf ds cr cs x) (ds.map DR.dd) K) (cx : xB x K = true) : XOk (geOf ds cr cs x) K mg := by
  unfold xB at cx
  rw [Bool.and_eq_true] at cx
  obtain ⟨c1, c2⟩ := cx
  have glo : ∀ k, k ≠ "ValueError" → k ∈ x.xs.map (·.1) ++ x.ks → mg (Str.ofString k) = some (.ref (He.ga K (Str.ofString k))) := fun k hne hk => by
    refine He.glo_ok X G (says c (List.mem_append_right _ (List.mem_append_right _ (List.mem_append_right _ (List.mem_append_right _ ?_)))))
    exact List.mem_map.mpr ⟨k, List.mem_filter.mpr ⟨hk, by simpa using hne⟩, rfl⟩
  have at_ : ∀ k, (geOf ds cr cs x).xc k = true → ∃ l, (k, l) ∈ x.xs ∧ (geOf ds cr cs x).bs k = l ∧ excB K k = true ∧ x.ks.all (askB K (k, l)) = true := fun k hk => by
    obtain ⟨l, hl⟩ := Option.isSome_iff_exists.mp (show (x.xs.lookup k).isSome = true from hk)
    have hm := look_mem hl
    have h1 := List.all_eq_true.mp c1 _ hm
    rw [Bool.and_eq_true] at h1
    exact ⟨l, hm, by show (x.xs.lookup k).getD [] = l; rw [hl]; rfl, h1.1, h1.2⟩
  have ks : ∀ k, (geOf ds cr cs x).xk k = true → k ∈ x.ks := fun k hk => by simpa using (show x.ks.contains k = true from hk)
  refine ⟨fun k hk => ?_, fun k hk => ?_, fun k j hk hj => ?_, fun k hk => ?_, fun k j hk hj hne => ?_⟩
  · obtain ⟨l, hm, _, h1, _⟩ := at_ k hk
    unfold excB at h1
    simp only [Bool.and_eq_true, beq_iff_eq] at h1
    obtain ⟨⟨⟨⟨⟨⟨⟨⟨⟨⟨⟨e12, e1⟩, e2⟩, e3⟩, e4⟩, e5⟩, e6⟩, e7⟩, e8⟩, e9⟩, e10⟩, e11⟩ := h1
    refine ⟨glo k (fun e => ?_) (List.mem_append_left _ (List.mem_map.mpr ⟨_, hm, rfl⟩)), e1, e2, ⟨e3, e4, e5, e6, e7, e8, e9, e10⟩, e11⟩
    exact absurd e (by simpa using e12)
  · by_cases e : k = "ValueError"
    · exact .inl e
    · exact .inr ⟨e, glo k e (List.mem_append_right _ (ks k hk))⟩
  · obtain ⟨l, hm, hb, _, h1⟩ := at_ k hk
    have h2 := List.all_eq_true.mp h1 j (ks j hj)
    unfold askB at h2
    simp only [Bool.and_eq_true, beq_iff_eq] at h2
    show _ = some (((geOf ds cr cs x).bs k).contains j)
    rw [hb]; exact h2.1
  · have h2 := List.all_eq_true.mp c2 k (ks k hk)
    simpa using h2
  · obtain ⟨l, hm, hb, _, h1⟩ := at_ k hk
    have h2 := List.all_eq_true.mp h1 j (ks j hj)
    unfold askB at h2
    simp only [Bool.and_eq_true, Bool.or_eq_true, beq_iff_eq] at h2
    show _ = some (((geOf ds cr cs x).bs k).contains j)
    rw [hb]; exact h2.2.resolve_left hne
theorem mod0 (hok : ds.all DR.ok = true) (hb : ∀ d ∈ ds, BindOk d) (hnm : nmOk ds cr = true) (X : K.In h) (G : h.Ns mainGlobals mg) (c : He.SaysD (faOf ds cr cs x) (ds.map DR.dd) K) (cx : extraB cs x K = true) : Mod0 K mg (geOf ds cr cs x) (tab ds) := by
  unfold nmOk at hnm
  rw [Bool.and_eq_true, List.all_eq_true, List.all_eq_true] at hnm
  obtain ⟨n1, n2⟩ := hnm
  have inC : ∀ r ∈ cr, ∀ f ∈ r.fa, f ∈ faOf ds cr cs x := fun r hr f hf => List.mem_append_right _ (List.mem_append_right _ (List.mem_append_right _ (List.mem_append_left _ (List.mem_flatMap.mpr ⟨r, hr, hf⟩))))
  have gC : ∀ r ∈ cr, mg (Str.ofString r.nm) = some (.ref (He.ga K (Str.ofString r.nm))) := fun r hr => He.glo_ok X G (says c (inC r hr _ (fa_glo r)))
  have me : ∀ r ∈ cr, ∀ m ∈ "__init__" :: r.ms, ∃ fn fd ps, tab ds (mN r.nm m) = some fn ∧ Def1 K (mN r.nm m) fn (He.ma K (He.ga K (Str.ofString r.nm)) (Str.ofString m)) fd ps := by
    intro r hr m hm
    have h1 := List.all_eq_true.mp (n2 r hr) m hm
    split at h1
    · rename_i e he
      have hcl : e.cl = some (r.nm, m) := of_decide_eq_true h1
      have hme := List.mem_of_find?_eq_some he
      have hn : e.nm = mN r.nm m := by have := List.find?_some he; simpa using this
      obtain ⟨fd, D, _⟩ := defOf1 hok hb c e hme
      have ea : He.fAd K e.dd.at_ = He.ma K (He.ga K (Str.ofString r.nm)) (Str.ofString m) := by unfold DR.dd; rw [hcl]; rfl
      rw [ea, hn] at D
      exact ⟨e.fn, fd, e.ps, by unfold tab; rw [he]; rfl, D⟩
    · cases h1
  unfold extraB at cx
  rw [Bool.and_eq_true] at cx
  obtain ⟨cxx, cx⟩ := cx
  refine ⟨fun f fn hf => ?_, fun f hf => ?_, fun k m hc hm => ?_, fun k hc hm => ?_, fun k hc => ?_, fun k f hf => ?_, fun x hx => ?_, xOk X G c cxx, fun y e he => ?_⟩
  · obtain ⟨d, m, rfl, rfl⟩ := tab_mem hf
    obtain ⟨fd, D, _⟩ := defOf1 hok hb c d m
    exact ⟨_, fd, _, D⟩
  · obtain ⟨d, hd, hf⟩ := List.any_eq_true.mp (show (ds.any fun d => d.nm == f && d.cl.isNone) = true from hf)
    rw [Bool.and_eq_true] at hf
    have en : d.nm = f := by simpa using hf.1
    have ec : d.cl = none := by simpa using hf.2
    have h1 := n1 d hd
    split at h1
    · rename_i e he
      have hcl : e.cl = none := (of_decide_eq_true h1).trans ec
      have hme := List.mem_of_find?_eq_some he
      have hn : e.nm = d.nm := by have := List.find?_some he; simpa using this
      obtain ⟨fd, D, _⟩ := defOf1 hok hb c e hme
      have ea : He.fAd K e.dd.at_ = He.ga K (Str.ofString f) := by unfold DR.dd; rw [hcl, hn, en]; rfl
      rw [ea, hn, en] at D
      refine ⟨e.fn, _, fd, e.ps, by unfold tab; rw [← en, he]; rfl, D, ?_⟩
      refine He.glo_ok X G (says c (List.mem_append_left _ (List.mem_flatMap.mpr ⟨e, hme, ?_⟩)))
      unfold DR.fa
      rw [hcl, hn, en]
      simp
    · cases h1
  · obtain ⟨r, hr, hrm⟩ := List.any_eq_true.mp (show isMe cr k m = true from hm)
    rw [Bool.and_eq_true] at hrm
    have en : r.nm = k := by simpa using hrm.1
    have hmm : m ∈ "__init__" :: r.ms := by simpa using hrm.2
    subst en
    obtain ⟨fn, fd, ps, h1, h2⟩ := me r hr m hmm
    refine ⟨fn, _, fd, ps, h1, h2, ?_⟩
    rcases List.mem_cons.mp hmm with rfl | hmm
    · have M := He.mkr_ok (says c (inC r hr _ (fa_mkr r)))
      exact ⟨M.init, M.fn, h2.kp⟩
    · exact He.meth_ok (says c (inC r hr _ (fa_meth hmm)))
  · obtain ⟨r, hr, hrm⟩ := List.any_eq_true.mp (show isMe cr k "__init__" = true from hm)
    rw [Bool.and_eq_true] at hrm
    have en : r.nm = k := by simpa using hrm.1
    subst en
    obtain ⟨fn, fd, ps, h1, h2⟩ := me r hr "__init__" List.mem_cons_self
    exact ⟨fn, _, fd, ps, h1, h2, He.mkr_ok (says c (inC r hr _ (fa_mkr r))), gC r hr⟩
  · obtain ⟨r, hr, hrm⟩ := List.any_eq_true.mp (show (cr.any fun r => r.nm == k) = true from hc)
    have en : r.nm = k := by simpa using hrm
    subst en
    exact He.cls_ok (says c (inC r hr _ (fa_cls r)))
  · obtain ⟨r, hr, hrm⟩ := List.any_eq_true.mp (show (cr.any fun r => r.nm == k && r.fs.contains f) = true from hf)
    rw [Bool.and_eq_true] at hrm
    have en : r.nm = k := by simpa using hrm.1
    have hff : f ∈ r.fs := by simpa using hrm.2
    subst en
    exact He.noat_ok (says c (inC r hr _ (fa_noat hff)))
  · exact He.free_ok X G (says c (List.mem_append_right _ (List.mem_append_left _ (List.mem_map.mpr ⟨x, hx, rfl⟩))))
  · have he : (cs.lookup y).map KC.d = some e := he
    cases el : cs.lookup y with
    | none => rw [el] at he; cases he
    | some q =>
      rw [el] at he
      cases he
      have mq := mem_of_look el
      have mm : ∀ f ∈ q.fa y, f ∈ faOf ds cr cs x := fun f hf => List.mem_append_right _ (List.mem_append_right _ (List.mem_append_left _ (List.mem_flatMap.mpr ⟨(y, q), mq, hf⟩)))
      cases q with
      | int i =>
        obtain ⟨t, e⟩ := He.int_ok X G (says c (mm (.int (Str.ofString y) i) List.mem_cons_self))
        exact ⟨.int i, _, e, ⟨t, rfl⟩, fun _ _ => .int i⟩
      | str z =>
        obtain ⟨t, e⟩ := He.str_ok X G (says c (mm (.str (Str.ofString y) (sv z)) List.mem_cons_self))
        exact ⟨.str (sv z), _, e, ⟨t, rfl⟩, fun _ _ => .str z⟩
      | dat d =>
        have h1 := List.all_eq_true.mp (show (cs.all fun c => match c.2 with
          | .dat d => (match PySem.W.nsIn K mainGlobals (Str.ofString c.1) with
            | some (some u) => kD K d u
            | _ => false)
          | _ => true) = true from cx) _ mq
        have h1 : (match PySem.W.nsIn K mainGlobals (Str.ofString y) with
            | some (some u) => kD K d u
            | _ => false) = true := h1
        split at h1
        · rename_i u eu
          obtain ⟨v, h2, h3⟩ := kD_ok d u h1
          exact ⟨v, u, PySem.W.mg_of X G eu, h2, h3⟩
        · cases h1
/-- all that the walk wants of the module -/
theorem facts (hok : ds.all DR.ok = true) (hb : ∀ d ∈ ds, BindOk d) (hnm : nmOk ds cr = true) (X : K.In h) (G : h.Ns mainGlobals mg) (c : He.SaysD (faOf ds cr cs x) (ds.map DR.dd) K) (cx : extraB cs x K = true) (d : DR) (m : d ∈ ds) (hd : tab ds d.nm = some d.fn) (hcl : d.cl = none) (k : Nat) :
    ∃ fd, (∀ (s : Shared) (us : List Value), us.length = d.ps.length → BindsTo s fd ⟨us, []⟩ (d.ps.zip us)) ∧ mg (Str.ofString d.nm) = some (.ref (He.ga K (Str.ofString d.nm))) ∧
      ∀ base : Heap, FnG P w K mg base (L2.CX P w) (2 * k) (He.ga K (Str.ofString d.nm)) fd d.ps (spF K (call (geOf ds cr cs x) (tab ds) k) d.nm) := by
  obtain ⟨fd, D, b⟩ := defOf1 hok hb c d m
  have ea : He.fAd K d.dd.at_ = He.ga K (Str.ofString d.nm) := by unfold DR.dd; rw [hcl]; rfl
  rw [ea] at D
  refine ⟨fd, b, ?_, fun base => defsOk (mod0 hok hb hnm X G c cx) k d.nm d.fn _ fd d.ps hd D⟩
  refine He.glo_ok X G (says c (List.mem_append_left _ (List.mem_flatMap.mpr ⟨d, m, ?_⟩)))
  unfold DR.fa
  rw [hcl]
  simp
end
/-- the script -/
theorem spLaw {K : PySem.W.Frag} {cf : CF} {f : String} {H : Hp} {a : Addr} {ns : List Int} {E : XK} (hS : SqL K H a (ns.map V.int)) (h : ∃ st, cf f [.scr (ns.map .int)] [] = .ok (.bl true) st) : spF K cf f [.ref a] H (fun v _ => v = .bl true) E := by
  obtain ⟨st, h⟩ := h
  have fin : ∀ φ : Wd, Sim K φ H [] → LsK K φ H a (ns.map V.int) → spF K cf f [.ref a] H (fun v _ => v = .bl true) E := fun φ s l =>
    ⟨φ, [], _, s, .cons (.scr l (RepVs.ints ns)) .nil, by rw [h]; exact fun φ' H' v _ _ r => r.bl_inv⟩
  rcases hS with hS | hS
  · exact fin ⟨[], fun p => p = a⟩ ⟨rfl, List.nodup_nil, fun k p c hk => by simp at hk, fun p hp => ⟨List.not_mem_nil, hp ▸ hS.elim (fun z => ⟨_, z⟩) fun ⟨_, z⟩ => ⟨_, z⟩⟩⟩ (.inl ⟨hS, rfl⟩)
  · exact fin ⟨[], fun _ => False⟩ ⟨rfl, List.nodup_nil, fun k p c hk => by simp at hk, fun p hp => hp.elim⟩ (.inr hS)
end PC
end
section
set_option Elab.async false
set_option linter.all false
set_option autoImplicit false
set_option maxRecDepth 100000
set_option maxHeartbeats 1000000
/-! Words for pure proofs about the interpreter. -/
namespace PC
open PySem
theorem whN_mono {c : Slots → Store → Res D} {b : Slots → Store → RS} : ∀ (n : Nat) (σ : Slots) (st : Store), whN c b n σ st ≠ .err → whN c b (n + 1) σ st = whN c b n σ st
  | 0, σ, st, h => absurd rfl h
  | n + 1, σ, st, h => by
    rw [whN] at h
    rw [whN, whN]
    cases e : c σ st with
    | err => rfl
    | exc d s => rfl
    | ok d s =>
      rw [e] at h
      simp only [Res.toS_ok] at h ⊢
      cases d with
      | bl k =>
        cases k with
        | false => rfl
        | true =>
          simp only at h ⊢
          cases e2 : b σ s with
          | nx σ' st' => rw [e2] at h; exact whN_mono n σ' st' h
          | ct σ' st' => rw [e2] at h; exact whN_mono n σ' st' h
          | _ => rfl
      | _ => rfl
theorem whN_le {c : Slots → Store → Res D} {b : Slots → Store → RS} {n m : Nat} {σ : Slots} {st : Store} (hn : whN c b n σ st ≠ .err) (h : n ≤ m) : whN c b m σ st = whN c b n σ st := by
  induction h with
  | refl => rfl
  | step h ih => rw [whN_mono _ _ _ (by rw [ih]; exact hn), ih]
theorem wh_eq {c : Slots → Store → Res D} {b : Slots → Store → RS} {n : Nat} {σ : Slots} {st : Store} (hn : whN c b n σ st ≠ .err) : wh c b σ st = whN c b n σ st := by
  unfold wh
  have hx : ∃ n, whN c b n σ st ≠ .err := ⟨n, hn⟩
  rw [dif_pos hx]
  rcases Nat.le_total n hx.choose with h | h
  · exact whN_le hn h
  · exact (whN_le hx.choose_spec h).symm
/-- a while by an invariant with a measure -/
theorem wh_inv {c : Slots → Store → Res D} {b : Slots → Store → RS} {α : Type} (P : α → Slots × Store) (m : α → Nat) (R : RS) (hR : R ≠ .err)
    (step : ∀ a, (c (P a).1 (P a).2 = .ok (.bl false) (P a).2 ∧ RS.nx (P a).1 (P a).2 = R) ∨ (c (P a).1 (P a).2 = .ok (.bl true) (P a).2 ∧ ∃ a', m a' < m a ∧ b (P a).1 (P a).2 = .nx (P a').1 (P a').2)) (a : α) : wh c b (P a).1 (P a).2 = R := by
  have key : ∀ n a, m a < n → whN c b n (P a).1 (P a).2 = R := by
    intro n
    induction n with
    | zero => intro a h; omega
    | succ n ih =>
      intro a h
      rw [whN]
      rcases step a with ⟨h1, h2⟩ | ⟨h1, a', h2, h3⟩
      · rw [h1]; exact h2
      · rw [h1]
        simp only [Res.toS_ok]
        rw [h3]
        exact ih a' (by omega)
  rw [wh_eq (n := m a + 1) (by rw [key _ a (by omega)]; exact hR)]
  exact key _ a (by omega)
/-! ### a def's end -/
theorem fin_same {st : Store} {d : D} (h : closed st.length d = true) : fin st.length st d st = .ok d st := by
  unfold fin
  rw [if_pos (.inl (List.take_length ..))]
  cases d with
  | ref k =>
    have : k < st.length := of_decide_eq_true h
    simp only [if_pos this, List.take_length]
  | _ => simp only [if_pos h, List.take_length]
theorem fin_more {st ex : Store} {d : D} (h : closed st.length d = true) : fin st.length st d (st ++ ex) = .ok d st := by
  unfold fin
  rw [if_pos (.inl (List.take_left ..))]
  cases d with
  | ref k =>
    have : k < st.length := of_decide_eq_true h
    simp only [if_pos this, List.take_left]
  | _ => simp only [if_pos h, List.take_left]
theorem fin_list {st ex : Store} {xs : List D} {k : Nat} (hk : st.length ≤ k) (hx : (st ++ ex)[k]? = some (.lst xs)) (h : closeds st.length xs = true) : fin st.length st (.ref k) (st ++ ex) = .ok (.lst xs) st := by
  unfold fin
  rw [if_pos (.inl (List.take_left ..))]
  have : ¬ k < st.length := by omega
  simp only [if_neg this, hx, if_pos h, List.take_left]
theorem finX_same {st : Store} {d : D} : finX st.length st d st = .exc d st := by
  unfold finX
  rw [if_pos (.inl (List.take_length ..)), List.take_length]
theorem finX_more {st ex : Store} {d : D} : finX st.length st d (st ++ ex) = .exc d st := by
  unfold finX
  rw [if_pos (.inl (List.take_left ..)), List.take_left]
theorem finX_sameM {m : Nat} {st : Store} {d : D} (hm : m = st.length) : finX m st d st = .exc d st := by subst hm; exact finX_same
theorem finX_moreM {m : Nat} {st ex : Store} {d : D} (hm : m = st.length) : finX m st d (st ++ ex) = .exc d st := by subst hm; exact finX_more
@[simp] theorem isXR_non (ge : GE) (cs : List String) (st : Store) : isXR ge .non cs st = .ok (.bl false) st := Eq.trans rfl rfl
@[simp] theorem isXR_exc (ge : GE) (c : String) (cs : List String) (st : Store) : isXR ge (.exc c []) cs st = gd (ge.xc c = true) (.ok (.bl (cs.any fun k => ge.sub c k)) st) := Eq.trans rfl rfl
@[simp] theorem tryR_nx (ge : GE) (k : String) (i j : Nat) (σ : Slots) (st : Store) : tryR ge k i j (.nx σ st) = .nx σ st := Eq.trans rfl rfl
@[simp] theorem tryR_rt (ge : GE) (k : String) (i j : Nat) (d : D) (st : Store) : tryR ge k i j (.rt d st) = .rt d st := Eq.trans rfl rfl
@[simp] theorem tryR_exc (ge : GE) (k : String) (i j : Nat) (c : String) (σ : Slots) (st : Store) : tryR ge k i j (.exc (.exc c []) σ st) = if ge.sub c k = true ∧ i ≠ j ∧ ge.xc c = true then .nx ((σ.set i none).set j (some (.exc c []))) st else .err := Eq.trans rfl rfl
/-! ### the interpreter by named steps -/
def onB {α : Type} (e : α) (x : D) (t f : α) : α := match x with
  | .bl true => t
  | .bl false => f
  | _ => e
@[simp] theorem onB_t {α : Type} (e t f : α) : onB e (.bl true) t f = t := Eq.trans rfl rfl
@[simp] theorem onB_f {α : Type} (e t f : α) : onB e (.bl false) t f = f := Eq.trans rfl rfl
theorem onB_bl {α : Type} (e t f : α) (b : Bool) : onB e (.bl b) t f = if b = true then t else f := by cases b <;> rfl
theorem onB_dec {α : Type} (e t f : α) (P : Prop) [Decidable P] : onB e (.bl (decide P)) t f = if P then t else f := by
  by_cases h : P
  · rw [decide_eq_true h, if_pos h]; rfl
  · rw [decide_eq_false h, if_neg h]; rfl
def onI {α : Type} (e : α) (x : D) (t : Int → α) : α := match x with
  | .int i => t i
  | _ => e
@[simp] theorem onI_i {α : Type} (e : α) (t : Int → α) (i : Int) : onI e (.int i) t = t i := Eq.trans rfl rfl
def notD (x : D) (st : Store) : Res D := match x with | .bl b => .ok (.bl (!b)) st | _ => .err
@[simp] theorem notD_b (b : Bool) (st : Store) : notD (.bl b) st = .ok (.bl (!b)) st := Eq.trans rfl rfl
def boolR (x : D) (st : Store) : Res Bool := match x with | .bl b => .ok b st | _ => .err
@[simp] theorem boolR_b (b : Bool) (st : Store) : boolR (.bl b) st = .ok b st := Eq.trans rfl rfl
def seqR (r : RS) (k : Slots → Store → RS) : RS := match r with
  | .nx σ st => k σ st
  | r => r
@[simp] theorem seqR_nx (σ : Slots) (st : Store) (k : Slots → Store → RS) : seqR (.nx σ st) k = k σ st := Eq.trans rfl rfl
@[simp] theorem seqR_rt (d : D) (st : Store) (k : Slots → Store → RS) : seqR (.rt d st) k = .rt d st := Eq.trans rfl rfl
@[simp] theorem seqR_bk (σ : Slots) (st : Store) (k : Slots → Store → RS) : seqR (.bk σ st) k = .bk σ st := Eq.trans rfl rfl
@[simp] theorem seqR_ct (σ : Slots) (st : Store) (k : Slots → Store → RS) : seqR (.ct σ st) k = .ct σ st := Eq.trans rfl rfl
@[simp] theorem seqR_exc (d : D) (σ : Slots) (st : Store) (k : Slots → Store → RS) : seqR (.exc d σ st) k = .exc d σ st := Eq.trans rfl rfl
@[simp] theorem seqR_err (k : Slots → Store → RS) : seqR .err k = .err := Eq.trans rfl rfl
theorem seqR_ite {P : Prop} [Decidable P] (a b : RS) (k : Slots → Store → RS) : seqR (if P then a else b) k = if P then seqR a k else seqR b k := by split <;> rfl
noncomputable def fnEnd (keep : Bool) (st : Store) (r : RS) : Res D := match r with
  | .rt d st' => if keep = true then .ok d st' else fin st.length st d st'
  | .nx _ st' => if keep = true then .ok .non st' else fin st.length st .non st'
  | .exc d _ st' => if keep = true then .exc d st' else finX st.length st d st'
  | _ => .err
@[simp] theorem fnEnd_exc (st : Store) (σ : Slots) (d : D) (st' : Store) : fnEnd false st (.exc d σ st') = finX st.length st d st' := Eq.trans rfl rfl
@[simp] theorem fnEnd_excT (st : Store) (σ : Slots) (d : D) (st' : Store) : fnEnd true st (.exc d σ st') = .exc d st' := Eq.trans rfl rfl
@[simp] theorem fnEnd_rt (st : Store) (d : D) (st' : Store) : fnEnd false st (.rt d st') = fin st.length st d st' := Eq.trans rfl rfl
@[simp] theorem fnEnd_nx (st : Store) (σ : Slots) (st' : Store) : fnEnd false st (.nx σ st') = fin st.length st .non st' := Eq.trans rfl rfl
@[simp] theorem fnEnd_rtT (st : Store) (d : D) (st' : Store) : fnEnd true st (.rt d st') = .ok d st' := Eq.trans rfl rfl
@[simp] theorem fnEnd_nxT (st : Store) (σ : Slots) (st' : Store) : fnEnd true st (.nx σ st') = .ok .non st' := Eq.trans rfl rfl
theorem fnEnd_ite {keep : Bool} {st : Store} {P : Prop} [Decidable P] (a b : RS) : fnEnd keep st (if P then a else b) = if P then fnEnd keep st a else fnEnd keep st b := by split <;> rfl
theorem run_eq {ge : GE} {cf : CF} {np ns : Nat} {keep : Bool} {b : CSs} {as : List D} {st : Store} (h : as.length = np ∧ np ≤ ns) : run ge cf ⟨np, ns, keep, b⟩ as st = fnEnd keep st (exs ge cf b (as.map some ++ List.replicate (ns - as.length) none) st) := by
  unfold run
  rw [gd_pos h]
  cases exs ge cf b (as.map some ++ List.replicate (ns - as.length) none) st <;> rfl
def asgN (is : List Nat) (o : Option (List D)) (σ : Slots) (st : Store) : RS := match o with
  | some ds => if ds.length = is.length then .nx (setAll σ is ds) st else .err
  | none => .err
@[simp] theorem asgN_some (is : List Nat) (ds : List D) (σ : Slots) (st : Store) : asgN is (some ds) σ st = if ds.length = is.length then .nx (setAll σ is ds) st else .err := Eq.trans rfl rfl
def putR (o : Option Store) (σ : Slots) : RS := match o with
  | some st => .nx σ st
  | none => .err
@[simp] theorem putR_some (st : Store) (σ : Slots) : putR (some st) σ = .nx σ st := Eq.trans rfl rfl
def listR (o : Option (List D)) (st : Store) : Res (List D) := match o with
  | some xs => .ok xs st
  | none => .err
@[simp] theorem listR_some (xs : List D) (st : Store) : listR (some xs) st = .ok xs st := Eq.trans rfl rfl
def globR (o : Option D) (st : Store) : Res D := match o with
  | some d => .ok d st
  | none => .err
@[simp] theorem globR_some (d : D) (st : Store) : globR (some d) st = .ok d st := Eq.trans rfl rfl
section
variable {ge : GE} {cf : CF} {σ : Slots} {st : Store}
@[simp] theorem ev_var (i : Nat) : ev ge cf (.var i) σ st = lookS σ i st := Eq.trans rfl rfl
@[simp] theorem ev_non : ev ge cf .non σ st = .ok .non st := Eq.trans rfl rfl
@[simp] theorem ev_bl (b : Bool) : ev ge cf (.bl b) σ st = .ok (.bl b) st := Eq.trans rfl rfl
@[simp] theorem ev_int (i : Int) : ev ge cf (.int i) σ st = .ok (.int i) st := Eq.trans rfl rfl
@[simp] theorem ev_str (s : List Nat) : ev ge cf (.str s) σ st = .ok (.str s) st := Eq.trans rfl rfl
@[simp] theorem ev_glob (x : String) : ev ge cf (.glob x) σ st = globR (ge.gl x) st := Eq.trans rfl rfl
@[simp] theorem ev_bin (op : Operator) (a b : CE) : ev ge cf (.bin op a b) σ st = (ev ge cf a σ st).bind fun x st => (ev ge cf b σ st).bind fun y st => binop op x y st := Eq.trans rfl rfl
@[simp] theorem ev_neg (a : CE) : ev ge cf (.neg a) σ st = (ev ge cf a σ st).bind fun x st => onI .err x fun i => .ok (.int (-i)) st := Eq.trans rfl rfl
@[simp] theorem ev_not (a : CE) : ev ge cf (.not a) σ st = (ev ge cf a σ st).bind fun x st => notD x st := Eq.trans rfl rfl
@[simp] theorem ev_and (a b : CE) : ev ge cf (.and a b) σ st = (ev ge cf a σ st).bind fun x st => onB .err x (ev ge cf b σ st) (.ok (.bl false) st) := Eq.trans rfl rfl
@[simp] theorem ev_or (a b : CE) : ev ge cf (.or a b) σ st = (ev ge cf a σ st).bind fun x st => onB .err x (.ok (.bl true) st) (ev ge cf b σ st) := Eq.trans rfl rfl
@[simp] theorem ev_ite (c a b : CE) : ev ge cf (.ite c a b) σ st = (ev ge cf c σ st).bind fun x st => onB .err x (ev ge cf a σ st) (ev ge cf b σ st) := Eq.trans rfl rfl
@[simp] theorem ev_cmp (op : CmpOp) (a b : CE) : ev ge cf (.cmp op a b) σ st = (ev ge cf a σ st).bind fun x st => (ev ge cf b σ st).bind fun y st => (cmpB op x y st).bind fun b st => .ok (.bl b) st := Eq.trans rfl rfl
@[simp] theorem ev_chain (op op' : CmpOp) (a b c : CE) : ev ge cf (.chain op op' a b c) σ st = (ev ge cf a σ st).bind fun x st => (ev ge cf b σ st).bind fun y st => (cmpB op x y st).bind fun k st =>
    onB .err (.bl k) ((ev ge cf c σ st).bind fun z st => (cmpB op' y z st).bind fun b st => .ok (.bl b) st) (.ok (.bl false) st) := by
  show ((ev ge cf a σ st).bind fun x st => (ev ge cf b σ st).bind fun y st => (cmpB op x y st).bind fun k st => _) = _
  congr 1; funext x st; congr 1; funext y st; congr 1; funext k st
  cases k <;> rfl
@[simp] theorem ev_tup (es : CEs) : ev ge cf (.tup es) σ st = (evs ge cf es σ st).bind fun xs st => gd (xs.length ≤ lineN) (.ok (.tup xs) st) := Eq.trans rfl rfl
@[simp] theorem ev_new (l : CL) : ev ge cf (.new l) σ st = (evl ge cf l σ st).bind fun xs st => .ok (.lst xs) st := Eq.trans rfl rfl
@[simp] theorem ev_cell (l : CL) : ev ge cf (.cell l) σ st = (evl ge cf l σ st).bind fun xs st => .ok (.ref st.length) (st ++ [.lst xs]) := Eq.trans rfl rfl
@[simp] theorem ev_dict0 (t : Bool) : ev ge cf (.dict0 t) σ st = .ok (.ref st.length) (st ++ [.dict t []]) := Eq.trans rfl rfl
@[simp] theorem ev_dgetK (o k : CE) : ev ge cf (.dgetK o k) σ st = (ev ge cf o σ st).bind fun x st => (ev ge cf k σ st).bind fun y st => dictR st x false (keyD1 y) .err fun _ kvs k => optR (valD kvs k) st := Eq.trans rfl rfl
@[simp] theorem ev_dgetT (o : CE) (es : CEs) : ev ge cf (.dgetT o es) σ st = (ev ge cf o σ st).bind fun x st => (evs ge cf es σ st).bind fun ks st => gd (ks.length ≤ lineN) (dictR st x true (keysA ks) .err fun _ kvs k => optR (valD kvs k) st) := Eq.trans rfl rfl
@[simp] theorem ev_dinK (n : Bool) (k o : CE) : ev ge cf (.dinK n k o) σ st = (ev ge cf k σ st).bind fun y st => (ev ge cf o σ st).bind fun x st => dictR st x false (keyD1 y) .err fun _ kvs k => .ok (.bl (n ^^ (valD kvs k).isSome)) st := Eq.trans rfl rfl
@[simp] theorem ev_dinT (n : Bool) (es : CEs) (o : CE) : ev ge cf (.dinT n es o) σ st = (evs ge cf es σ st).bind fun ks st => gd (ks.length ≤ lineN) ((ev ge cf o σ st).bind fun x st => dictR st x true (keysA ks) .err fun _ kvs k => .ok (.bl (n ^^ (valD kvs k).isSome)) st) := Eq.trans rfl rfl
def makeR (r : D) (k : Nat) (st : Store) : Res D := match r with
  | .non => .ok (.ref k) st
  | _ => .err
@[simp] theorem makeR_non (k : Nat) (st : Store) : makeR .non k st = .ok (.ref k) st := Eq.trans rfl rfl
@[simp] theorem ev_make (c : String) (es : CEs) : ev ge cf (.make c es) σ st = gd (ge.cl c = true ∧ ge.ms c "__init__" = true) ((evs ge cf es σ st).bind fun xs st => (cf (mN c "__init__") (.ref st.length :: xs) (st ++ [.ins c []])).bind fun r st' => makeR r st.length st') := Eq.trans rfl rfl
@[simp] theorem ev_meth (c m : String) (o : CE) (es : CEs) : ev ge cf (.meth c m o es) σ st = gd (ge.cl c = true ∧ ge.ms c m = true) ((ev ge cf o σ st).bind fun x st => insR st x c .err fun _ fs => gd (fs.lookup m = none) ((evs ge cf es σ st).bind fun xs st => cf (mN c m) (x :: xs) st)) := Eq.trans rfl rfl
@[simp] theorem ev_fld (c : String) (o : CE) (f : String) : ev ge cf (.fld c o f) σ st = gd (ge.cl c = true ∧ ge.fd c f = true) ((ev ge cf o σ st).bind fun x st => insR st x c .err fun _ fs => optR (fs.lookup f) st) := Eq.trans rfl rfl
@[simp] theorem ev_idx (a i : CE) : ev ge cf (.idx a i) σ st = (ev ge cf a σ st).bind fun x st => (ev ge cf i σ st).bind fun y st => idxD st x y := Eq.trans rfl rfl
@[simp] theorem ev_slice (a : CE) (lo hi : CO) : ev ge cf (.slice a lo hi) σ st = (ev ge cf a σ st).bind fun x st => (evo ge cf lo σ st).bind fun l st => (evo ge cf hi σ st).bind fun h st => sliceD st x l h := Eq.trans rfl rfl
@[simp] theorem ev_call (f : String) (es : CEs) : ev ge cf (.call f es) σ st = gd (ge.fs f = true) ((evs ge cf es σ st).bind fun xs st => cf f xs st) := Eq.trans rfl rfl
@[simp] theorem ev_lenSet (a : CE) : ev ge cf (.lenSet a) σ st = (ev ge cf a σ st).bind fun x st => lenSetR x st := Eq.trans rfl rfl
@[simp] theorem ev_tupR (a : CE) : ev ge cf (.tupR a) σ st = (ev ge cf a σ st).bind fun x st => tupRR x st := Eq.trans rfl rfl
/-- the def that a number names -/
def fnR (x : D) (fs : List String) (k : String → Res D) : Res D := match x with
  | .int j => (match L2.atI fs j with
    | some f => k f
    | none => .err)
  | _ => .err
theorem fnR_nat {n : Nat} {fs : List String} {f : String} {k : String → Res D} (h : fs[n]? = some f) : fnR (.int (n : Int)) fs k = k f := by
  have e : L2.atI fs (n : Int) = some f := L2.atI_nat h
  show (match L2.atI fs (n : Int) with
    | some f => k f
    | none => .err) = _
  rw [e]
@[simp] theorem ev_fcall (fs : List String) (i : CE) (es : CEs) : ev ge cf (.fcall fs i es) σ st = gd (fs.all ge.fs = true ∧ fs.length ≤ 100) ((ev ge cf i σ st).bind fun x st => fnR x fs fun f => (evs ge cf es σ st).bind fun xs st => cf f xs st) := Eq.trans rfl rfl
@[simp] theorem tupRR_nat (n : Nat) (st : Store) (h : n ≤ lineN) : tupRR (.int n) st = .ok (.tup (rng 0 n)) st := gd_pos ⟨by omega, by omega⟩
theorem toInts_map : ∀ is : List Int, toInts (is.map .int) = some is
  | [] => rfl
  | a :: r => by
    show (toInts (r.map .int)).map (a :: ·) = _
    rw [toInts_map r]; rfl
theorem lenSetR_ints {xs : List D} {is : List Int} {st : Store} (e : xs = is.map .int) (h : is.length ≤ 1000) : lenSetR (.tup xs) st = .ok (.int ((uniqI is).length : Nat)) st := by
  subst e
  show (match toInts (is.map D.int) with
    | some is => gd (is.length ≤ 1000) (Res.ok (D.int ((uniqI is).length : Nat)) st)
    | none => .err) = _
  rw [toInts_map]
  exact gd_pos h
theorem cmp_eq0 (xs : List D) (st : Store) : cmpB .Eq (.tup xs) (.tup []) st = .ok (decide (xs.length = 0)) st := by
  refine (gd_pos (.inr (.inr (.inl ⟨rfl, rfl⟩)))).trans ?_
  cases xs <;> rfl
theorem cmp_ne0 (xs : List D) (st : Store) : cmpB .NotEq (.tup xs) (.tup []) st = .ok (!decide (xs.length = 0)) st := by
  show (eqD st _ _).bind _ = _
  have : eqD st (.tup xs) (.tup []) = .ok (decide (xs.length = 0)) st := (gd_pos (.inr (.inr (.inl ⟨rfl, rfl⟩)))).trans (by cases xs <;> rfl)
  rw [this]; rfl
theorem cmp_neL {x y : D} {st : Store} {xs : List D} (h1 : deref st x = .lst xs) (h2 : deref st y = .lst []) : cmpB .NotEq x y st = .ok (!decide (xs.length = 0)) st := by
  show (eqD st x y).bind _ = _
  have : eqD st x y = .ok (decide (xs.length = 0)) st := by
    refine (gd_pos (.inr (.inr (.inr ⟨by rw [h1]; rfl, by rw [h2]; rfl⟩)))).trans ?_
    rw [h1, h2]
    cases xs <;> rfl
  rw [this]; rfl
@[simp] theorem ev_blt (b : Blt) (es : CEs) : ev ge cf (.blt b es) σ st = (evs ge cf es σ st).bind fun xs st => blt b xs st := Eq.trans rfl rfl
@[simp] theorem ev_mth (m : Mth) (o : CE) (es : CEs) : ev ge cf (.mth m o es) σ st = (ev ge cf o σ st).bind fun x st => gd (mOk m x st = true) ((evs ge cf es σ st).bind fun xs st => mth m x xs st) := Eq.trans rfl rfl
def tyR (bs : Bases) (st : Store) (x : D) (t : Ty) : Res D := gd (notIns st x = true) (.ok (.bl (isTy bs st x t)) st)
@[simp] theorem ev_isX (a : CE) (one : Bool) (cs : List String) : ev ge cf (.isX a one cs) σ st = gd (cs.all ge.xk = true) ((ev ge cf a σ st).bind fun x st => isXR ge x cs st) := Eq.trans rfl rfl
@[simp] theorem ev_isI (a : CE) (t : Ty) : ev ge cf (.isI a t) σ st = (ev ge cf a σ st).bind fun x st => tyR ge.bs st x t := Eq.trans rfl rfl
@[simp] theorem evl_disp (es : CEs) : evl ge cf (.disp es) σ st = (evs ge cf es σ st).bind fun xs st => gd (xs.length ≤ lineN) (.ok xs st) := Eq.trans rfl rfl
/-- one turn of a comprehension -/
noncomputable def lcStep (ge : GE) (cf : CF) (t : List Nat) (one : Bool) (c : CO) (e : CE) (σ : Slots) (x : D) (st : Store) : Res (Option D) :=
  match bindT t one x (wipe σ t) st with
  | some σ' => (evc ge cf c σ' st).bind fun b st => match b with
    | true => (ev ge cf e σ' st).bind fun y st => .ok (some y) st
    | false => .ok none st
  | none => .err
theorem lcStep_eq {t : List Nat} {one : Bool} {c : CO} {e : CE} {x : D} {σ' : Slots} (h : bindT t one x (wipe σ t) st = some σ') : lcStep ge cf t one c e σ x st = (evc ge cf c σ' st).bind fun b st => onB .err (.bl b) ((ev ge cf e σ' st).bind fun y st => .ok (some y) st) (.ok none st) := by
  unfold lcStep
  rw [h]
  show (evc ge cf c σ' st).bind _ = _
  congr 1; funext b st
  cases b <;> rfl
@[simp] theorem evl_comp (t : List Nat) (one : Bool) (it : CI) (c : CO) (e : CE) : evl ge cf (.comp t one it c e) σ st = (evi ge cf it σ st).bind fun w st => gd (w.1.length ≤ lineN) (lcL (lcStep ge cf t one c e σ) w.2 w.1 st) := Eq.trans rfl rfl
@[simp] theorem evl_listOf (e : CE) : evl ge cf (.listOf e) σ st = (ev ge cf e σ st).bind fun x st => listR (items st x) st := Eq.trans rfl rfl
@[simp] theorem evl_rep (es : CEs) (n : CE) : evl ge cf (.rep es n) σ st = (evs ge cf es σ st).bind fun xs st => gd (xs.length ≤ lineN) ((ev ge cf n σ st).bind fun y st => onI .err y fun k => gd (xs.length * k.toNat ≤ lineN ∧ 0 ≤ k ∧ k ≤ lineN) (.ok (reps xs k) st)) := Eq.trans rfl rfl
@[simp] theorem evl_cat (a b : CE) : evl ge cf (.cat a b) σ st = (ev ge cf a σ st).bind fun x st => (ev ge cf b σ st).bind fun y st => catR st x y := Eq.trans rfl rfl
def rgL (x : D) (st : Store) : Res (List D) := match x with | .int i => gd (i ≤ lineN ∧ -(lineN : Int) ≤ i) (.ok (rng 0 i) st) | _ => .err
@[simp] theorem evl_range1 (a : CE) : evl ge cf (.range1 a) σ st = (ev ge cf a σ st).bind fun x st => rgL x st := Eq.trans rfl rfl
@[simp] theorem evl_range2 (a b : CE) : evl ge cf (.range2 a b) σ st = (ev ge cf a σ st).bind fun x st => (ev ge cf b σ st).bind fun y st => onI .err x fun i => onI .err y fun j => gd (i ≤ lineN ∧ -(lineN : Int) ≤ i ∧ j ≤ lineN ∧ -(lineN : Int) ≤ j ∧ j - i ≤ lineN) (.ok (rng i j) st) := by
  show ((ev ge cf a σ st).bind fun x st => (ev ge cf b σ st).bind fun y st => _) = _
  congr 1; funext x st; congr 1; funext y st
  cases x <;> cases y <;> rfl
@[simp] theorem evs_nil : evs ge cf .nil σ st = .ok [] st := Eq.trans rfl rfl
@[simp] theorem evs_cons (e : CE) (es : CEs) : evs ge cf (.cons e es) σ st = (ev ge cf e σ st).bind fun x st => (evs ge cf es σ st).bind fun xs st => .ok (x :: xs) st := Eq.trans rfl rfl
@[simp] theorem evo_none : evo ge cf .none σ st = .ok none st := Eq.trans rfl rfl
@[simp] theorem evo_some (e : CE) : evo ge cf (.some e) σ st = (ev ge cf e σ st).bind fun x st => onI .err x fun i => .ok (some i) st := Eq.trans rfl rfl
@[simp] theorem evc_none : evc ge cf .none σ st = .ok true st := Eq.trans rfl rfl
@[simp] theorem evc_some (e : CE) : evc ge cf (.some e) σ st = (ev ge cf e σ st).bind fun x st => boolR x st := Eq.trans rfl rfl
@[simp] theorem evi_of (e : CE) : evi ge cf (.of e) σ st = (ev ge cf e σ st).bind fun x st => walkD st x := Eq.trans rfl rfl
/-- the walk of a range -/
def rgR (x : D) (st : Store) : Res (List D × Watch) := match x with | .int i => gd (small62 i) (.ok (rng 0 i, []) st) | _ => .err
def rg2R (x y : D) (st : Store) : Res (List D × Watch) := match x, y with | .int i, .int j => gd (small62 i ∧ small62 j) (.ok (rng i j, []) st) | _, _ => .err
def rr2R (x y : D) (st : Store) : Res (List D × Watch) := match x, y with | .int i, .int j => gd (small62 i ∧ small62 j) (.ok ((rng i j).reverse, []) st) | _, _ => .err
@[simp] theorem evi_range1 (a : CE) : evi ge cf (.range1 a) σ st = (ev ge cf a σ st).bind fun x st => rgR x st := Eq.trans rfl rfl
@[simp] theorem evi_range2 (a b : CE) : evi ge cf (.range2 a b) σ st = (ev ge cf a σ st).bind fun x st => (ev ge cf b σ st).bind fun y st => rg2R x y st := Eq.trans rfl rfl
@[simp] theorem evi_rrange2 (a b : CE) : evi ge cf (.rrange2 a b) σ st = (ev ge cf a σ st).bind fun x st => (ev ge cf b σ st).bind fun y st => rr2R x y st := Eq.trans rfl rfl
def rg3R (x y z : D) (st : Store) : Res (List D × Watch) := match x, y, z with | .int i, .int j, .int k => gd (okC i j k) (.ok (rngC i j k, []) st) | _, _, _ => .err
@[simp] theorem evi_range3 (a b c : CE) : evi ge cf (.range3 a b c) σ st = (ev ge cf a σ st).bind fun x st => (ev ge cf b σ st).bind fun y st => (ev ge cf c σ st).bind fun z st => rg3R x y z st := Eq.trans rfl rfl
/-- what enumerate and zip walk -/
def enumR (st : Store) (x : D) : Res (List D × Watch) := match deref st x with
  | .lst xs => .ok (enumD 0 xs, watch x xs) st
  | .tup xs => .ok (enumD 0 xs, []) st
  | _ => .err
@[simp] theorem evi_enum (e : CE) : evi ge cf (.enum e) σ st = (ev ge cf e σ st).bind fun x st => enumR st x := Eq.trans rfl rfl
def zipR (st : Store) (x y : D) : Res (List D × Watch) := match deref st x, deref st y with
  | .lst xs, .lst ys => .ok (zipD xs ys, watch x xs ++ watch y ys) st
  | .lst xs, .tup ys => .ok (zipD xs ys, watch x xs) st
  | _, _ => .err
@[simp] theorem evi_zip (a b : CE) : evi ge cf (.zip a b) σ st = (ev ge cf a σ st).bind fun x st => (ev ge cf b σ st).bind fun y st => zipR st x y := Eq.trans rfl rfl
@[simp] theorem asgT_name (i : Nat) (d : D) : asgT ge cf (.name i) d σ st = .nx (σ.set i (some d)) st := Eq.trans rfl rfl
@[simp] theorem asgT_names (is : List Nat) (d : D) : asgT ge cf (.names is) d σ st = asgN is (items st d) σ st := Eq.trans rfl rfl
@[simp] theorem asgT_sub (o i : CE) (d : D) : asgT ge cf (.sub o i) d σ st = (ev ge cf o σ st).toS σ fun ov st => (ev ge cf i σ st).toS σ fun iv st => putR (setIx ov iv d st) σ := Eq.trans rfl rfl
@[simp] theorem asgT_dputK (o k : CE) (d : D) : asgT ge cf (.dputK o k) d σ st = (ev ge cf o σ st).toS σ fun ov st => (ev ge cf k σ st).toS σ fun y st => dictR st ov false (keyD1 y) .err fun j kvs k => if kvs.length < lineN then .nx σ (st.set j (.dict false (putD kvs k d))) else .err := Eq.trans rfl rfl
@[simp] theorem asgT_dputT (o : CE) (es : CEs) (d : D) : asgT ge cf (.dputT o es) d σ st = (ev ge cf o σ st).toS σ fun ov st => (evs ge cf es σ st).toS σ fun ks st => dictR st ov true (keysA ks) .err fun j kvs k => if kvs.length < lineN ∧ ks.length ≤ lineN then .nx σ (st.set j (.dict true (putD kvs k d))) else .err := Eq.trans rfl rfl
@[simp] theorem asgT_fld (c : String) (o : CE) (f : String) (d : D) : asgT ge cf (.fld c o f) d σ st = (ev ge cf o σ st).toS σ fun ov st => insR st ov c .err fun j fs => if fs.length < 1000 ∧ ge.cl c = true ∧ ge.fd c f = true then .nx σ (st.set j (.ins c (putFD f d fs))) else .err := Eq.trans rfl rfl
@[simp] theorem ex_asg (t : CT) (e : CE) : ex ge cf (.asg t e) σ st = (ev ge cf e σ st).toS σ fun d st => asgT ge cf t d σ st := Eq.trans rfl rfl
@[simp] theorem ex_expr (e : CE) : ex ge cf (.expr e) σ st = (ev ge cf e σ st).toS σ fun _ st => .nx σ st := Eq.trans rfl rfl
@[simp] theorem ex_ret (e : CE) : ex ge cf (.ret e) σ st = (ev ge cf e σ st).toS σ fun d st => .rt d st := Eq.trans rfl rfl
@[simp] theorem ex_retN : ex ge cf .retN σ st = .rt .non st := Eq.trans rfl rfl
@[simp] theorem ex_pass : ex ge cf .pass σ st = .nx σ st := Eq.trans rfl rfl
@[simp] theorem ex_brk : ex ge cf .brk σ st = .bk σ st := Eq.trans rfl rfl
@[simp] theorem ex_cont : ex ge cf .cont σ st = .ct σ st := Eq.trans rfl rfl
@[simp] theorem ex_raise (c : String) : ex ge cf (.raise_ c) σ st = if ge.xc c = true then .exc (.exc c []) σ st else .err := Eq.trans rfl rfl
@[simp] theorem ex_tryK (b : CSs) (k : String) (i j : Nat) : ex ge cf (.tryK b k i j) σ st = if ge.xk k = true then tryR ge k i j (exs ge cf b σ st) else .err := Eq.trans rfl rfl
@[simp] theorem ex_ifs (c : CE) (a b : CSs) : ex ge cf (.ifs c a b) σ st = (ev ge cf c σ st).toS σ fun x st => onB .err x (exs ge cf a σ st) (exs ge cf b σ st) := Eq.trans rfl rfl
/-- one turn of a for -/
noncomputable def forStep (ge : GE) (cf : CF) (t : CT) (b : CSs) (x : D) (σ : Slots) (st : Store) : RS := match asgT ge cf t x σ st with
  | .nx σ st => exs ge cf b σ st
  | _ => .err
theorem forStep_eq {t : CT} {b : CSs} {x : D} {σ' : Slots} {st' : Store} (h : asgT ge cf t x σ st = .nx σ' st') : forStep ge cf t b x σ st = exs ge cf b σ' st' := by unfold forStep; rw [h]
@[simp] theorem ex_for (t : CT) (it : CI) (b : CSs) : ex ge cf (.for_ t it b) σ st = (evi ge cf it σ st).toS σ fun w st => forL (forStep ge cf t b) w.2 w.1 σ st := Eq.trans rfl rfl
noncomputable def whR (ge : GE) (cf : CF) (c : CE) (b : CSs) (σ : Slots) (st : Store) : RS := wh (fun σ st => ev ge cf c σ st) (fun σ st => exs ge cf b σ st) σ st
@[simp] theorem ex_while (c : CE) (b : CSs) : ex ge cf (.while_ c b) σ st = whR ge cf c b σ st := Eq.trans rfl rfl
/-- a while by an invariant with a measure -/
theorem whR_inv {c : CE} {b : CSs} {α : Type} (P : α → Slots × Store) (m : α → Nat) (R : RS) (hR : R ≠ .err)
    (step : ∀ a, (ev ge cf c (P a).1 (P a).2 = .ok (.bl false) (P a).2 ∧ RS.nx (P a).1 (P a).2 = R) ∨ (ev ge cf c (P a).1 (P a).2 = .ok (.bl true) (P a).2 ∧ ∃ a', m a' < m a ∧ exs ge cf b (P a).1 (P a).2 = .nx (P a').1 (P a').2)) (a : α) (h : P a = (σ, st)) : whR ge cf c b σ st = R := by
  have := wh_inv P m R hR step a
  rw [h] at this
  exact this
@[simp] theorem exs_nil : exs ge cf .nil σ st = .nx σ st := Eq.trans rfl rfl
@[simp] theorem exs_drp (is : List Nat) (r : CSs) : exs ge cf (.drp is r) σ st = exs ge cf r (wipe σ is) st := Eq.trans rfl rfl
/-- one turn of a for, with its end -/
noncomputable def forStepG (ge : GE) (cf : CF) (t : CT) (b : CSs) (dr : List Nat) (x : D) (σ : Slots) (st : Store) : RS := endT dr st (forStep ge cf t b x σ st)
@[simp] theorem ex_forG (t : CT) (it : CI) (b : CSs) (dr : List Nat) : ex ge cf (.forG t it b dr) σ st = (evi ge cf it σ st).toS σ fun w st => forL (forStepG ge cf t b dr) w.2 w.1 (wipe σ dr) st := Eq.trans rfl rfl
noncomputable def whRG (ge : GE) (cf : CF) (c : CE) (b : CSs) (dr : List Nat) (σ : Slots) (st : Store) : RS := wh (fun σ st => ev ge cf c σ st) (fun σ st => endT dr st (exs ge cf b σ st)) σ st
@[simp] theorem ex_whG (c : CE) (b : CSs) (dr : List Nat) : ex ge cf (.whG c b dr) σ st = whRG ge cf c b dr (wipe σ dr) st := Eq.trans rfl rfl
@[simp] theorem exs_cons (s : CS) (r : CSs) : exs ge cf (.cons s r) σ st = seqR (ex ge cf s σ st) fun σ st => exs ge cf r σ st := by
  show (match ex ge cf s σ st with | .nx σ st => exs ge cf r σ st | r => r) = _
  cases ex ge cf s σ st <;> rfl
end
/-! ### loops -/
/-- a for whose turns keep I -/
theorem forL_keep {step : D → Slots → Store → RS} (I : Slots → Store → Prop) : ∀ {xs : List D} {σ : Slots} {st : Store}, (∀ x ∈ xs, ∀ σ st, I σ st → ∃ σ' st', step x σ st = .nx σ' st' ∧ I σ' st') → I σ st → ∃ σ' st', forL step [] xs σ st = .nx σ' st' ∧ I σ' st'
  | [], σ, st, _, h => ⟨σ, st, by rw [forL, gw_nil], h⟩
  | x :: xs, σ, st, hs, h => by
    obtain ⟨σ1, st1, e1, h1⟩ := hs x List.mem_cons_self σ st h
    obtain ⟨σ2, st2, e2, h2⟩ := forL_keep (xs := xs) I (fun y hy => hs y (List.mem_cons_of_mem _ hy)) h1
    exact ⟨σ2, st2, by rw [forL, gw_nil, e1]; exact e2, h2⟩
/-- a for as a fold -/
theorem forL_fold {α : Type} {step : D → Slots → Store → RS} (S : α → Slots × Store) (g : α → D → α) : ∀ (xs : List D) (a : α), (∀ x ∈ xs, ∀ a, step x (S a).1 (S a).2 = .nx (S (g a x)).1 (S (g a x)).2) → forL step [] xs (S a).1 (S a).2 = .nx (S (xs.foldl g a)).1 (S (xs.foldl g a)).2
  | [], a, _ => by rw [forL, gw_nil]; rfl
  | x :: xs, a, h => by
    rw [forL, gw_nil, h x List.mem_cons_self]
    exact forL_fold S g xs (g a x) fun y hy => h y (List.mem_cons_of_mem _ hy)
theorem lcL_map {step : D → Store → Res (Option D)} {g : D → D} {st : Store} : ∀ {xs : List D}, (∀ x ∈ xs, step x st = .ok (some (g x)) st) → lcL step [] xs st = .ok (xs.map g) st
  | [], _ => by rw [lcL, gw_nil]; rfl
  | x :: xs, h => by
    rw [lcL, gw_nil, h x List.mem_cons_self, nox_ok, Res.bind_ok, lcL_map fun y hy => h y (List.mem_cons_of_mem _ hy)]; rfl
theorem lcL_filter {step : D → Store → Res (Option D)} {p : D → Bool} {g : D → D} {st : Store} : ∀ {xs : List D}, (∀ x ∈ xs, step x st = .ok (if p x = true then some (g x) else none) st) → lcL step [] xs st = .ok ((xs.filter p).map g) st
  | [], _ => by rw [lcL, gw_nil]; rfl
  | x :: xs, h => by
    rw [lcL, gw_nil, h x List.mem_cons_self, nox_ok, Res.bind_ok, lcL_filter (p := p) (g := g) fun y hy => h y (List.mem_cons_of_mem _ hy)]
    cases hp : p x
    · rw [List.filter_cons_of_neg (by rw [hp]; exact Bool.false_ne_true)]; rfl
    · rw [List.filter_cons_of_pos hp]; rfl
/-! ### small data -/
@[simp] theorem look0 (d : Option D) (σ : Slots) (st : Store) : lookS (d :: σ) 0 st = globR d st := by cases d <;> rfl
@[simp] theorem lookN (d : Option D) (σ : Slots) (i : Nat) (st : Store) : lookS (d :: σ) (i + 1) st = lookS σ i st := Eq.trans rfl rfl
theorem shp_str {s : List Nat} (h : s.all (· < 128) = true) : shp (.str s) = true := by
  have h2 : s.toArray.all (fun c => decide (c < 0x110000)) = true := by
    rw [List.all_toArray, List.all_eq_true]
    intro c hc
    have := List.all_eq_true.mp h c hc
    simp only [decide_eq_true_eq] at this ⊢
    omega
  have h3 : (PyData.str ⟨s.toArray⟩).canLay0 = true := by unfold PyData.canLay0; exact h2
  show (true && ((PyData.str ⟨s.toArray⟩).canLay0 && decide ((PyData.str ⟨s.toArray⟩).depth ≤ 64))) = true
  rw [h3]
  simp [PyData.depth]
theorem absI_eq (i : Int) : absI i = (i.natAbs : Int) := by unfold absI; split <;> omega
theorem imod_nat (a b : Nat) : imod a b = ((a % b : Nat) : Int) := by
  unfold imod
  split
  · exact (Int.natCast_emod a b).symm
  · have : b = 0 := by omega
    subst this
    simp
theorem idiv_nat (a b : Nat) : idiv a b = ((a / b : Nat) : Int) := by
  unfold idiv
  split
  · exact (Int.natCast_ediv a b).symm
  · have : b = 0 := by omega
    subst this
    simp
@[simp] theorem shp_int (i : Int) : shp (.int i) = true := Eq.trans rfl rfl
@[simp] theorem shp_bl (i : Bool) : shp (.bl i) = true := Eq.trans rfl rfl
@[simp] theorem shp_non : shp .non = true := Eq.trans rfl rfl
theorem smB {i : Int} (n : Nat) (h : i.natAbs < 2 ^ n) (hn : n ≤ 8000 := by decide) : Sm i := Nat.lt_of_lt_of_le h (Nat.pow_le_pow_right (by decide) hn)
theorem sm64 {i : Int} (h1 : -9223372036854775808 < i) (h2 : i < 9223372036854775808) : Sm i := smB 63 (by omega)
theorem imod_r {i j : Int} (h : 0 < j) : 0 ≤ imod i j ∧ imod i j < j := by
  rw [imod_pos h]
  exact ⟨Int.emod_nonneg _ (by omega), Int.emod_lt_of_pos _ h⟩
@[simp] theorem addD_ii (st : Store) (i j : Int) : addD st (.int i) (.int j) = .ok (.int (i + j)) st := Eq.trans rfl rfl
@[simp] theorem derefB_int (st : Store) (i : Int) : derefB st (.int i) = .int i := Eq.trans rfl rfl
@[simp] theorem derefB_str (st : Store) (i : List Nat) : derefB st (.str i) = .str i := Eq.trans rfl rfl
@[simp] theorem derefB_tup (st : Store) (i : List D) : derefB st (.tup i) = .tup i := Eq.trans rfl rfl
@[simp] theorem derefB_lst (st : Store) (i : List D) : derefB st (.lst i) = .lst i := Eq.trans rfl rfl
@[simp] theorem deref_int (st : Store) (i : Int) : deref st (.int i) = .int i := Eq.trans rfl rfl
@[simp] theorem deref_str (st : Store) (i : List Nat) : deref st (.str i) = .str i := Eq.trans rfl rfl
@[simp] theorem deref_tup (st : Store) (i : List D) : deref st (.tup i) = .tup i := Eq.trans rfl rfl
@[simp] theorem deref_lst (st : Store) (i : List D) : deref st (.lst i) = .lst i := Eq.trans rfl rfl
@[simp] theorem deref_scr (st : Store) (i : List D) : deref st (.scr i) = .lst i := Eq.trans rfl rfl
@[simp] theorem deref_non (st : Store) : deref st .non = .non := Eq.trans rfl rfl
@[simp] theorem deref_bl (st : Store) (i : Bool) : deref st (.bl i) = .bl i := Eq.trans rfl rfl
@[simp] theorem bin_add (x y : D) (st : Store) : binop .Add x y st = addD st (derefB st x) (derefB st y) := Eq.trans rfl rfl
@[simp] theorem bin_sub (i j : Int) (st : Store) : binop .Sub (.int i) (.int j) st = .ok (.int (i - j)) st := Eq.trans rfl rfl
theorem bin_mul {i j : Int} {st : Store} (h1 : Sm i) (h2 : Sm j) : binop .Mult (.int i) (.int j) st = .ok (.int (i * j)) st := gd_pos ⟨h1, h2⟩
theorem bin_div {i j : Int} {st : Store} (h1 : j ≠ 0) (h2 : Sm j) : binop .FloorDiv (.int i) (.int j) st = .ok (.int (idiv i j)) st := gd_pos ⟨h1, h2⟩
theorem bin_mod {i j : Int} {st : Store} (h1 : j ≠ 0) : binop .Mod (.int i) (.int j) st = .ok (.int (imod i j)) st := gd_pos h1
theorem bin_pow {i j : Int} {st : Store} (h : 0 ≤ j ∧ j ≤ 1000 ∧ i.natAbs < 2 ^ 64) : binop .Pow (.int i) (.int j) st = .ok (.int (i ^ j.toNat)) st := gd_pos h
@[simp] theorem cmp_lt (i j : Int) (st : Store) : cmpB .Lt (.int i) (.int j) st = .ok (decide (i < j)) st := Eq.trans rfl rfl
@[simp] theorem cmp_le (i j : Int) (st : Store) : cmpB .LtE (.int i) (.int j) st = .ok (decide (i ≤ j)) st := Eq.trans rfl rfl
@[simp] theorem cmp_gt (i j : Int) (st : Store) : cmpB .Gt (.int i) (.int j) st = .ok (decide (j < i)) st := Eq.trans rfl rfl
@[simp] theorem cmp_ge (i j : Int) (st : Store) : cmpB .GtE (.int i) (.int j) st = .ok (decide (j ≤ i)) st := Eq.trans rfl rfl
theorem cmp_eq {x y : D} {st : Store} (h1 : shp (deref st x) = true) (h2 : shp (deref st y) = true) : cmpB .Eq x y st = .ok (pyEq (deref st x) (deref st y)) st := gd_pos (.inr (.inl ⟨h1, h2⟩))
theorem cmp_ne {x y : D} {st : Store} (h1 : shp (deref st x) = true) (h2 : shp (deref st y) = true) : cmpB .NotEq x y st = .ok (!pyEq (deref st x) (deref st y)) st := by
  show (eqD st x y).bind _ = _
  have : eqD st x y = .ok (pyEq (deref st x) (deref st y)) st := gd_pos (.inr (.inl ⟨h1, h2⟩))
  rw [this]; rfl
@[simp] theorem cmp_eqI (i j : Int) (st : Store) : cmpB .Eq (.int i) (.int j) st = .ok (decide (i = j)) st := by
  rw [cmp_eq rfl rfl]
  show Res.ok (i == j) st = _
  rw [show (i == j) = decide (i = j) by rw [Bool.eq_iff_iff]; simp]
@[simp] theorem cmp_neI (i j : Int) (st : Store) : cmpB .NotEq (.int i) (.int j) st = .ok (!decide (i = j)) st := by
  rw [cmp_ne rfl rfl]
  show Res.ok (!(i == j)) st = _
  rw [show (i == j) = decide (i = j) by rw [Bool.eq_iff_iff]; simp]
@[simp] theorem pyEq_ii (i j : Int) : pyEq (.int i) (.int j) = decide (i = j) := by
  show (i == j) = _
  rw [Bool.eq_iff_iff]; simp
@[simp] theorem cmp_isN (x : D) (st : Store) : cmpB .Is x .non st = .ok (match x with | .non => true | _ => false) st := Eq.trans rfl rfl
@[simp] theorem cmp_isnN (x : D) (st : Store) : cmpB .IsNot x .non st = .ok (!(match x with | .non => true | _ => false)) st := Eq.trans rfl rfl
@[simp] theorem cmp_isB (c b : Bool) (st : Store) : cmpB .Is (.bl c) (.bl b) st = .ok (c == b) st := Eq.trans rfl rfl
@[simp] theorem cmp_isnB (c b : Bool) (st : Store) : cmpB .IsNot (.bl c) (.bl b) st = .ok (!(c == b)) st := Eq.trans rfl rfl
@[simp] theorem idx_lst (xs : List D) (i : Int) (st : Store) : idxD st (.lst xs) (.int i) = globR (L2.atI xs i) st := by
  show (match L2.atI xs i with | some d => Res.ok d st | none => .err) = _
  cases L2.atI xs i <;> rfl
@[simp] theorem idx_scr (xs : List D) (i : Int) (st : Store) : idxD st (.scr xs) (.int i) = globR (L2.atI xs i) st := by
  show (match L2.atI xs i with | some d => Res.ok d st | none => .err) = _
  cases L2.atI xs i <;> rfl
@[simp] theorem idx_tup (xs : List D) (i : Int) (st : Store) : idxD st (.tup xs) (.int i) = globR (L2.atI xs i) st := by
  show (match L2.atI xs i with | some d => Res.ok d st | none => .err) = _
  cases L2.atI xs i <;> rfl
theorem atI_nat {α : Type} {xs : List α} {n : Nat} (h : n < xs.length) : L2.atI xs (n : Int) = xs[n]? := by
  unfold L2.atI L2.ixN
  rw [if_pos (by omega), if_pos (by omega)]
  simp
theorem atI_0 {α : Type} {x : α} {xs : List α} : L2.atI (x :: xs) 0 = some x := atI_nat (n := 0) (by simp)
theorem atI_1 {α : Type} {x y : α} {xs : List α} : L2.atI (x :: y :: xs) 1 = some y := atI_nat (n := 1) (by simp)
theorem atI_2 {α : Type} {x y z : α} {xs : List α} : L2.atI (x :: y :: z :: xs) 2 = some z := atI_nat (n := 2) (by simp)
@[simp] theorem blt_1 (b : Blt) (d : D) (st : Store) : blt b [d] st = blt1 b d st := Eq.trans rfl rfl
@[simp] theorem blt_2 (b : Blt) (d e : D) (st : Store) : blt b [d, e] st = blt2 b d e st := Eq.trans rfl rfl
@[simp] theorem len_lst (xs : List D) (st : Store) : blt1 .len (.lst xs) st = .ok (nD xs.length) st := Eq.trans rfl rfl
@[simp] theorem len_scr (xs : List D) (st : Store) : blt1 .len (.scr xs) st = .ok (nD xs.length) st := Eq.trans rfl rfl
@[simp] theorem len_tup (xs : List D) (st : Store) : blt1 .len (.tup xs) st = .ok (nD xs.length) st := Eq.trans rfl rfl
theorem len_str {xs : List Nat} {st : Store} (h : xs.length ≤ lineN) : blt1 .len (.str xs) st = .ok (nD xs.length) st := gd_pos h
@[simp] theorem abs_i (i : Int) (st : Store) : blt1 .abs (.int i) st = .ok (.int (i.natAbs : Int)) st := by
  show Res.ok (D.int (absI i)) st = _
  rw [absI_eq]
@[simp] theorem cmp_eqB (a b : Bool) (st : Store) : cmpB .Eq (.bl a) (.bl b) st = .ok (a == b) st := by
  rw [cmp_eq (x := .bl a) (y := .bl b) rfl rfl]; rfl
@[simp] theorem walk_str (s : List Nat) (st : Store) : walkD st (.str s) = .ok (s.map fun c => .str [c], []) st := Eq.trans rfl rfl
@[simp] theorem walk_lst (s : List D) (st : Store) : walkD st (.lst s) = .ok (s, []) st := Eq.trans rfl rfl
@[simp] theorem walk_tup (s : List D) (st : Store) : walkD st (.tup s) = .ok (s, []) st := Eq.trans rfl rfl
@[simp] theorem walk_scr (s : List D) (st : Store) : walkD st (.scr s) = .ok (s, []) st := Eq.trans rfl rfl
@[simp] theorem enum_lst (s : List D) (st : Store) : enumR st (.lst s) = .ok (enumD 0 s, []) st := Eq.trans rfl rfl
@[simp] theorem zip_lst (s t : List D) (st : Store) : zipR st (.lst s) (.lst t) = .ok (zipD s t, []) st := Eq.trans rfl rfl
@[simp] theorem zip_lt (s t : List D) (st : Store) : zipR st (.lst s) (.tup t) = .ok (zipD s t, []) st := Eq.trans rfl rfl
theorem cmp_eqS {a b : List Nat} {st : Store} (ha : a.all (· < 128) = true) (hb : b.all (· < 128) = true) : cmpB .Eq (.str a) (.str b) st = .ok (decide (a = b)) st := by
  rw [cmp_eq (x := .str a) (y := .str b) (shp_str ha) (shp_str hb)]
  show Res.ok (a == b) st = _
  rw [show (a == b) = decide (a = b) by rw [Bool.eq_iff_iff]; simp]
theorem cmp_neS {a b : List Nat} {st : Store} (ha : a.all (· < 128) = true) (hb : b.all (· < 128) = true) : cmpB .NotEq (.str a) (.str b) st = .ok (!decide (a = b)) st := by
  rw [cmp_ne (x := .str a) (y := .str b) (shp_str ha) (shp_str hb)]
  show Res.ok (!(a == b)) st = _
  rw [show (a == b) = decide (a = b) by rw [Bool.eq_iff_iff]; simp]
theorem toBools_map {α : Type} (g : α → Bool) : ∀ xs : List α, toBools (xs.map fun c => D.bl (g c)) = some (xs.map g)
  | [] => rfl
  | x :: xs => by
    rw [List.map_cons, toBools, toBools_map g xs]; rfl
theorem idx_str {s : List Nat} {c : Nat} {st : Store} (h : s[0]? = some c) (hl : s.length ≤ lineN) : idxD st (.str s) (.int 0) = .ok (.str [c]) st := by
  show gd (s.length ≤ lineN ∧ (0 : Int) ≤ 0) (match s[(0 : Int).toNat]? with | some c => Res.ok (D.str [c]) st | none => .err) = _
  rw [gd_pos ⟨hl, Int.le_refl _⟩]
  show (match s[0]? with | some c => Res.ok (D.str [c]) st | none => .err) = _
  rw [h]
theorem pyEq_ss (a b : List Nat) : pyEq (.str a) (.str b) = decide (a = b) := by
  show (a == b) = _
  rw [Bool.eq_iff_iff]; simp
theorem sub_dig (c : Nat) : subS [c] [48, 49, 50, 51, 52, 53, 54, 55, 56, 57] = isDig c := by
  have h := SX.in_one [48, 49, 50, 51, 52, 53, 54, 55, 56, 57] c
  have e : subS [c] [48, 49, 50, 51, 52, 53, 54, 55, 56, 57] = decide (c ∈ [48, 49, 50, 51, 52, 53, 54, 55, 56, 57]) := h
  rw [e]
  unfold isDig
  rw [Bool.eq_iff_iff]
  simp
  omega
@[simp] theorem inS (a b : List Nat) (st : Store) : cmpB .In (.str a) (.str b) st = .ok (subS a b) st := Eq.trans rfl rfl
@[simp] theorem ninS (a b : List Nat) (st : Store) : cmpB .NotIn (.str a) (.str b) st = .ok (!subS a b) st := Eq.trans rfl rfl
theorem all_bools {bs : List Bool} {xs : List D} {st : Store} (h : toBools xs = some bs) : blt1 .all (.lst xs) st = .ok (.bl (bs.all id)) st := by
  show (match toBools xs with | some bs => Res.ok (D.bl (bs.all id)) st | none => .err) = _
  rw [h]
theorem int_str {s : List Nat} {st : Store} (h : s.length ≠ 0 ∧ s.length ≤ 640 ∧ s.all isDig = true) : blt1 .int (.str s) st = .ok (.int (digV s)) st := gd_pos h
@[simp] theorem gd_true {α : Type} {i : Decidable True} {r : Res α} : @gd α True i r = r := by
  unfold gd
  rw [if_pos trivial]
theorem atI_ints {is : List Int} {i : Int} (h0 : 0 ≤ i) (h1 : i < is.length) : ∃ a ∈ is, L2.atI (is.map D.int) i = some (.int a) := by
  obtain ⟨n, rfl⟩ := Int.eq_ofNat_of_zero_le h0
  have hn : n < is.length := by omega
  refine ⟨is[n], List.getElem_mem hn, ?_⟩
  rw [atI_nat (by rw [List.length_map]; exact hn), List.getElem?_map, List.getElem?_eq_getElem hn]; rfl
theorem atI_strs {is : List (List Nat)} {i : Int} (h0 : 0 ≤ i) (h1 : i < is.length) : ∃ a ∈ is, L2.atI (is.map D.str) i = some (.str a) := by
  obtain ⟨n, rfl⟩ := Int.eq_ofNat_of_zero_le h0
  have hn : n < is.length := by omega
  refine ⟨is[n], List.getElem_mem hn, ?_⟩
  rw [atI_nat (by rw [List.length_map]; exact hn), List.getElem?_map, List.getElem?_eq_getElem hn]; rfl
theorem gd_if {α : Type} {p : Prop} [Decidable p] {r : Res α} : gd p r = if p then r else .err := rfl
end PC
end
section
set_option Elab.async false
set_option linter.all false
set_option autoImplicit false
set_option maxRecDepth 100000
set_option maxHeartbeats 1000000
/-! More words for pure proofs: what may be compared; texts. -/
namespace PC
open PySem
abbrev asc (s : List Nat) : Prop := s.all (· < 128) = true
/-- plain data of depth n at most -/
def shN (n : Nat) (d : D) : Prop := plain d = true ∧ (toPy d).canLay0 = true ∧ (toPy d).depth ≤ n
theorem shN.shp {n : Nat} {d : D} (h : shN n d) (hn : n ≤ 64 := by decide) : shp d = true := by
  obtain ⟨h1, h2, h3⟩ := h
  show (plain d && ((toPy d).canLay0 && decide ((toPy d).depth ≤ 64))) = true
  rw [h1, h2, decide_eq_true (Nat.le_trans h3 hn)]; rfl
theorem shN.mono {m n : Nat} {d : D} (h : shN m d) (hm : m ≤ n) : shN n d := ⟨h.1, h.2.1, Nat.le_trans h.2.2 hm⟩
theorem shN_int {n : Nat} (i : Int) : shN n (.int i) := ⟨rfl, by simp [toPy, PyData.canLay0], by simp [toPy, PyData.depth]⟩
theorem shN_bl {n : Nat} (i : Bool) : shN n (.bl i) := ⟨rfl, by simp [toPy, PyData.canLay0], by simp [toPy, PyData.depth]⟩
theorem shN_non {n : Nat} : shN n .non := ⟨rfl, by simp [toPy, PyData.canLay0], by simp [toPy, PyData.depth]⟩
theorem shN_str {n : Nat} {s : List Nat} (h : asc s) : shN n (.str s) := by
  have q := shp_str h
  have q : (plain (.str s) && ((toPy (.str s)).canLay0 && decide ((toPy (.str s)).depth ≤ 64))) = true := q
  simp only [Bool.and_eq_true] at q
  exact ⟨q.1, q.2.1, by simp [toPy, PyData.depth]⟩
theorem shN_all {n : Nat} : ∀ {ds : List D}, (∀ d ∈ ds, shN n d) → plains ds = true ∧ PyData.canLayAll0 (toPys ds) = true ∧ PyData.depthAll (toPys ds) ≤ n
  | [], _ => ⟨rfl, by simp [toPys, PyData.canLayAll0], by simp [toPys, PyData.depthAll]⟩
  | d :: ds, h => by
    obtain ⟨a1, a2, a3⟩ := h d List.mem_cons_self
    obtain ⟨b1, b2, b3⟩ := shN_all (ds := ds) fun x hx => h x (List.mem_cons_of_mem _ hx)
    refine ⟨by show (plain d && plains ds) = true; rw [a1, b1]; rfl, ?_, ?_⟩
    · rw [toPys, PyData.canLayAll0, a2, b2]; rfl
    · rw [toPys, PyData.depthAll]; omega
theorem shN_lst {n : Nat} {ds : List D} (h : ∀ d ∈ ds, shN n d) : shN (n + 1) (.lst ds) := by
  obtain ⟨h1, h2, h3⟩ := shN_all h
  refine ⟨h1, ?_, ?_⟩
  · rw [toPy, PyData.canLay0]; exact h2
  · rw [toPy, PyData.depth]; omega
theorem shN_tup {n : Nat} {ds : List D} (h : ∀ d ∈ ds, shN n d) : shN (n + 1) (.tup ds) := by
  obtain ⟨h1, h2, h3⟩ := shN_all h
  refine ⟨h1, ?_, ?_⟩
  · rw [toPy, PyData.canLay0]; exact h2
  · rw [toPy, PyData.depth]; omega
theorem asc_append {a b : List Nat} (ha : asc a) (hb : asc b) : asc (a ++ b) := by
  unfold asc at *
  rw [List.all_append, ha, hb]; rfl
theorem asc_sub {a b : List Nat} (hb : asc b) (h : ∀ c ∈ a, c ∈ b) : asc a := by
  unfold asc at *
  rw [List.all_eq_true] at *
  exact fun c hc => hb c (h c hc)
theorem strI_nat (n : Nat) : strI (n : Int) = TL.numL n := TL.tl_num n
theorem numL_dig (n : Nat) : (TL.numL n).all isDig = true := by
  rw [List.all_eq_true]
  intro c hc
  have h := TL.numL_digits n c hc
  unfold isDig
  simp
  exact h
theorem dig_asc {s : List Nat} (h : s.all isDig = true) : asc s := by
  unfold asc
  rw [List.all_eq_true] at *
  intro c hc
  have := h c hc
  unfold isDig at this
  simp at this ⊢
  omega
theorem str_int {i : Int} {st : Store} (h : i.natAbs < 2 ^ 1900) : blt1 .str (.int i) st = .ok (.str (strI i)) st := gd_pos h
theorem str_small {i : Int} {st : Store} (h0 : 0 ≤ i) (h : i < 9223372036854775808) : blt1 .str (.int i) st = .ok (.str (TL.numL i.toNat)) st := by
  rw [str_int (Nat.lt_of_lt_of_le (show i.natAbs < 2 ^ 63 by omega) (Nat.pow_le_pow_right (by decide) (by decide)))]
  obtain ⟨n, rfl⟩ := Int.eq_ofNat_of_zero_le h0
  rw [strI_nat]; rfl
theorem add_str {a b : List Nat} {st : Store} (h : a.length + b.length ≤ lineN) : addD st (.str a) (.str b) = .ok (.str (a ++ b)) st := gd_pos h
theorem cut_sub {α : Type} (xs : List α) (lo hi : Option Int) : ∀ c ∈ cut xs lo hi, c ∈ xs := fun c hc => List.mem_of_mem_drop (List.mem_of_mem_take hc)
theorem cut_len {α : Type} (xs : List α) (lo hi : Option Int) : (cut xs lo hi).length ≤ xs.length := by
  unfold cut
  rw [List.length_take, List.length_drop]
  omega
theorem slice_str {s : List Nat} {lo hi : Option Int} {st : Store} (h : s.length ≤ lineN) : sliceD st (.str s) lo hi = .ok (.str (cut s lo hi)) st := gd_pos h
@[simp] theorem slice_lst (s : List D) (lo hi : Option Int) (st : Store) : sliceD st (.lst s) lo hi = .ok (.lst (cut s lo hi)) st := Eq.trans rfl rfl
@[simp] theorem slice_scr (s : List D) (lo hi : Option Int) (st : Store) : sliceD st (.scr s) lo hi = .ok (.lst (cut s lo hi)) st := Eq.trans rfl rfl
@[simp] theorem slice_tup (s : List D) (lo hi : Option Int) (st : Store) : sliceD st (.tup s) lo hi = .ok (.tup (cut s lo hi)) st := Eq.trans rfl rfl
theorem mul_str {a : List Nat} {n : Int} {st : Store} (h : a.length * n.toNat ≤ lineN ∧ 0 ≤ n ∧ n ≤ lineN) : binop .Mult (.str a) (.int n) st = .ok (.str (reps a n)) st := gd_pos h
theorem reps_len {α : Type} (xs : List α) (n : Int) : (reps xs n).length = xs.length * n.toNat := by
  unfold reps
  generalize n.toNat = m
  induction m with
  | zero => simp
  | succ m ih => rw [List.replicate_succ, List.flatten_cons, List.length_append, ih, Nat.mul_succ]; omega
theorem reps_sub {α : Type} (xs : List α) (n : Int) : ∀ c ∈ reps xs n, c ∈ xs := fun c hc => by
  unfold reps at hc
  obtain ⟨l, h1, h2⟩ := List.mem_flatten.mp hc
  rw [List.eq_of_mem_replicate h1] at h2
  exact h2
theorem par_len : ∀ (S acc s : List Nat) (p : List Nat × List Nat), TL.par S acc s = some p → p.1.length + p.2.length ≤ acc.length + s.length ∧ (∀ c ∈ p.1, c ∈ acc ∨ c ∈ s) ∧ ∀ c ∈ p.2, c ∈ s
  | S, acc, [], p, h => by cases h
  | S, acc, c :: r, p, h => by
    rw [TL.par] at h
    split at h
    · cases h
      refine ⟨?_, fun c hc => .inl hc, fun c hc => List.mem_of_mem_drop hc⟩
      simp only [List.length_drop]
      omega
    · obtain ⟨h1, h2, h3⟩ := par_len S (acc ++ [c]) r p h
      refine ⟨by rw [List.length_append] at h1; simp at h1 ⊢; omega, fun d hd => ?_, fun d hd => List.mem_cons_of_mem _ (h3 d hd)⟩
      rcases h2 d hd with h | h
      · rcases List.mem_append.mp h with h | h
        · exact .inl h
        · rw [List.mem_singleton.mp h]; exact .inr List.mem_cons_self
      · exact .inr (List.mem_cons_of_mem _ h)
/-- a text's parts -/
def parts (sep s : List Nat) : List Nat × List Nat × List Nat := match TL.par sep [] s with
  | some p => (p.1, sep, p.2)
  | none => (s, [], [])
theorem part_str {s sep : List Nat} {st : Store} (h : s.length ≤ lineN ∧ sep.length ≠ 0) : mth .partition (.str s) [.str sep] st = .ok (.tup [.str (parts sep s).1, .str (parts sep s).2.1, .str (parts sep s).2.2]) st := by
  show gd (s.length ≤ lineN ∧ sep.length ≠ 0) (match TL.par sep [] s with
      | some p => Res.ok (D.tup [.str p.1, .str sep, .str p.2]) st
      | none => Res.ok (D.tup [.str s, .str [], .str []]) st) = _
  rw [gd_pos h]
  unfold parts
  cases TL.par sep [] s <;> rfl
theorem parts_ok {sep s : List Nat} : (parts sep s).1.length ≤ s.length ∧ (parts sep s).2.2.length ≤ s.length ∧ (∀ c ∈ (parts sep s).1, c ∈ s) ∧ (∀ c ∈ (parts sep s).2.2, c ∈ s) ∧ ((parts sep s).2.1 = sep ∨ (parts sep s).2.1 = []) := by
  unfold parts
  cases e : TL.par sep [] s with
  | none => exact ⟨Nat.le_refl _, Nat.zero_le _, fun _ h => h, fun _ h => (List.not_mem_nil h).elim, .inr rfl⟩
  | some p =>
    obtain ⟨h1, h2, h3⟩ := par_len sep [] s p e
    simp only [List.length_nil] at h1
    refine ⟨by simp only; omega, by simp only; omega, fun c hc => ?_, h3, .inl rfl⟩
    rcases h2 c hc with h | h
    · exact (List.not_mem_nil h).elim
    · exact h
@[simp] theorem mOk_str (s : List Nat) (st : Store) : mOk .partition (.str s) st = true := Eq.trans rfl rfl
end PC
end
section
set_option Elab.async false
set_option linter.all false
set_option autoImplicit false
set_option maxRecDepth 100000
set_option maxHeartbeats 1000000
/-! More words for pure proofs: bits, cells, loops that end early. -/
namespace PC
open PySem
theorem bNot (a : Nat) : PySem.Builtin.bitNot (a : Int) = Int.negSucc a := by
  unfold PySem.Builtin.bitNot; omega
theorem bNotN (a : Nat) : PySem.Builtin.bitNot (Int.negSucc a) = (a : Int) := by
  unfold PySem.Builtin.bitNot; omega
theorem bOr (a b : Nat) : PySem.Builtin.bitOr (a : Int) (b : Int) = ((a ||| b : Nat) : Int) := by
  unfold PySem.Builtin.bitOr
  rw [bNot, bNot]
  unfold PySem.Builtin.bitAnd
  have h : ∀ n : Nat, decide ((0 : Int) ≤ Int.negSucc n) = false := fun n => by simp
  rw [h a, h b]
  simp only [bNotN, bNot, Int.toNat_natCast]
theorem bAnd (a b : Nat) : PySem.Builtin.bitAnd (a : Int) (b : Int) = ((a &&& b : Nat) : Int) := rfl
theorem shr1 (a i : Nat) : (a / 2 ^ i) &&& 1 = (a.testBit i).toNat := by
  rw [Nat.testBit, Nat.shiftRight_eq_div_pow, Nat.and_comm 1, Nat.and_one_is_mod]
  rcases Nat.mod_two_eq_zero_or_one (a / 2 ^ i) with h | h <;> rw [h] <;> rfl
@[simp] theorem bin_and (i j : Int) (st : Store) : binop .BitAnd (.int i) (.int j) st = .ok (.int (PySem.Builtin.bitAnd i j)) st := Eq.trans rfl rfl
@[simp] theorem bin_or (i j : Int) (st : Store) : binop .BitOr (.int i) (.int j) st = .ok (.int (PySem.Builtin.bitOr i j)) st := Eq.trans rfl rfl
@[simp] theorem bin_xor (i j : Int) (st : Store) : binop .BitXor (.int i) (.int j) st = .ok (.int (PySem.Builtin.bitXor i j)) st := Eq.trans rfl rfl
theorem bin_shr {i j : Int} {st : Store} (h : 0 ≤ j) : binop .RShift (.int i) (.int j) st = .ok (.int (i / 2 ^ j.toNat)) st := gd_pos h
/-- x >> i -/
def shr (a i : Nat) : Nat := a / 2 ^ i
/-- x >> i, then & 1 -/
theorem bin_shrN (a i : Nat) (st : Store) : binop .RShift (.int (a : Int)) (.int (i : Int)) st = .ok (.int (shr a i : Int)) st := by
  rw [bin_shr (by omega)]
  simp [shr]
theorem and_bit (a i : Nat) : PySem.Builtin.bitAnd (shr a i : Int) 1 = ((a.testBit i).toNat : Int) := by
  rw [← shr1]; rfl
theorem bin_shl {i j : Int} {st : Store} (h : 0 ≤ j ∧ j ≤ 8000 ∧ Sm i) : binop .LShift (.int i) (.int j) st = .ok (.int (i * 2 ^ j.toNat)) st := gd_pos h
def p2 (j : Nat) : Nat := 2 ^ j
theorem bin_shlN {j : Nat} {st : Store} (h : j ≤ 8000) : binop .LShift (.int 1) (.int (j : Int)) st = .ok (.int (p2 j : Int)) st := by
  rw [bin_shl ⟨by omega, by omega, smB 1 (by decide)⟩]
  simp [p2]

theorem bit_eq1 (b : Bool) : decide (((b.toNat : Nat) : Int) = 1) = b := by cases b <;> rfl
theorem bit_eq0 (b : Bool) : decide (((b.toNat : Nat) : Int) = 0) = !b := by cases b <;> rfl
theorem fin_len {st st' : Store} {d : D} (hl : st'.length = st.length) (hd : closed st.length d = true) (hn : ∀ k, d ≠ .ref k) : fin st.length st d st' = .ok d st' := by
  unfold fin
  have e : st'.take st.length = st' := by rw [← hl]; exact List.take_length ..
  split
  · cases d with
    | ref k => exact absurd rfl (hn k)
    | _ => simp only [if_pos hd, e]
  · rfl
/-- the def's own cells go, changed cells stay -/
theorem fin_put {st a ex : Store} {d : D} (hl : a.length = st.length) (ha : a.all (Cell.closed st.length) = true) (hd : closed st.length d = true) (hn : ∀ k, d ≠ .ref k) : fin st.length st d (a ++ ex) = .ok d a := by
  unfold fin
  have e : (a ++ ex).take st.length = a := by rw [← hl]; exact List.take_left ..
  rw [e, if_pos (.inr ha)]
  cases d with
  | ref k => exact absurd rfl (hn k)
  | _ => simp only [if_pos hd]
theorem fin_putL {st a ex : Store} {k : Nat} {xs : List D} (hl : a.length = st.length) (ha : a.all (Cell.closed st.length) = true) (hk : st.length ≤ k) (hx : (a ++ ex)[k]? = some (.lst xs)) (hd : closeds st.length xs = true) : fin st.length st (.ref k) (a ++ ex) = .ok (.lst xs) a := by
  unfold fin
  have e : (a ++ ex).take st.length = a := by rw [← hl]; exact List.take_left ..
  rw [e, if_pos (.inr ha)]
  have : ¬ k < st.length := by omega
  simp only [if_neg this, hx, if_pos hd]
/-- a for with an end at some -/
theorem forL_any {step : D → Slots → Store → RS} (I : Slots → Store → Prop) (J : Store → Prop) (p : D → Bool) (d : D) : ∀ {xs : List D} {σ : Slots} {st : Store},
    (∀ x ∈ xs, ∀ σ st, I σ st → (p x = true → ∃ st', step x σ st = .rt d st' ∧ J st') ∧ (p x = false → ∃ σ' st', step x σ st = .nx σ' st' ∧ I σ' st')) → I σ st →
    (xs.any p = true → ∃ st', forL step [] xs σ st = .rt d st' ∧ J st') ∧ (xs.any p = false → ∃ σ' st', forL step [] xs σ st = .nx σ' st' ∧ I σ' st')
  | [], σ, st, _, h => ⟨fun e => (Bool.false_ne_true e).elim, fun _ => ⟨σ, st, by rw [forL, gw_nil], h⟩⟩
  | x :: xs, σ, st, hs, h => by
    obtain ⟨h1, h2⟩ := hs x List.mem_cons_self σ st h
    rw [List.any_cons]
    cases e : p x with
    | true =>
      obtain ⟨st', e1, e2⟩ := h1 e
      exact ⟨fun _ => ⟨st', by rw [forL, gw_nil, e1], e2⟩, fun q => by cases q⟩
    | false =>
      obtain ⟨σ', st', e1, e2⟩ := h2 e
      obtain ⟨q1, q2⟩ := forL_any (xs := xs) I J p d (fun y hy => hs y (List.mem_cons_of_mem _ hy)) e2
      rw [Bool.false_or, forL, gw_nil, e1]
      exact ⟨q1, q2⟩
/-- a for, turn by turn -/
theorem forL_ix {step : D → Slots → Store → RS} {ys : List D} (I : Nat → Slots → Store → Prop) : ∀ (n : Nat) {xs : List D} {σ : Slots} {st : Store}, ys.drop n = xs → n ≤ ys.length →
    (∀ i d, n ≤ i → ys[i]? = some d → ∀ σ st, I i σ st → ∃ σ' st', step d σ st = .nx σ' st' ∧ I (i + 1) σ' st') → I n σ st → ∃ σ' st', forL step [] xs σ st = .nx σ' st' ∧ I ys.length σ' st'
  | n, [], σ, st, e, hn, _, h => by
    have : ys.length ≤ n := List.drop_eq_nil_iff.mp e
    have : n = ys.length := by omega
    subst this
    exact ⟨σ, st, by rw [forL, gw_nil], h⟩
  | n, x :: xs, σ, st, e, hn, hs, h => by
    have hx : ys[n]? = some x := by
      have : (ys.drop n)[0]? = some x := by rw [e]; rfl
      rw [List.getElem?_drop] at this
      simpa using this
    have hl : n < ys.length := (List.getElem?_eq_some_iff.mp hx).1
    obtain ⟨σ1, st1, e1, h1⟩ := hs n x (Nat.le_refl _) hx σ st h
    have e' : ys.drop (n + 1) = xs := by
      rw [← List.drop_drop, e]
      rfl
    obtain ⟨σ2, st2, e2, h2⟩ := forL_ix I (n + 1) e' (by omega) (fun i d hi => hs i d (by omega)) h1
    exact ⟨σ2, st2, by rw [forL, gw_nil, e1]; exact e2, h2⟩
/-! ### cells -/
theorem at_end (st : Store) (c : Cell) (r : Store) : (st ++ c :: r)[st.length]? = some c := by simp
theorem set_end (st : Store) (c d : Cell) (r : Store) : (st ++ c :: r).set st.length d = st ++ d :: r := by simp
theorem idx_ref {st : Store} {k : Nat} {xs : List D} {i : Int} (h : st[k]? = some (.lst xs)) : idxD st (.ref k) (.int i) = globR (L2.atI xs i) st := by
  show (match st[k]? with
    | some (.lst xs) => (match L2.atI xs i with | some d => Res.ok d st | none => .err)
    | _ => .err) = _
  rw [h]
  show (match L2.atI xs i with | some d => Res.ok d st | none => .err) = _
  cases L2.atI xs i <;> rfl
theorem deref_ref {st : Store} {k : Nat} {xs : List D} (h : st[k]? = some (.lst xs)) : deref st (.ref k) = .lst xs := by
  show (match st[k]? with | some (.lst xs) => D.lst xs | _ => .ref k) = _
  rw [h]
theorem derefB_ref {st : Store} {k : Nat} {xs : List D} (h : st[k]? = some (.lst xs)) : derefB st (.ref k) = .lst xs := deref_ref h
theorem len_ref {st : Store} {k : Nat} {xs : List D} (h : st[k]? = some (.lst xs)) : blt1 .len (.ref k) st = .ok (nD xs.length) st := by
  show (match st[k]? with | some (.lst xs) => Res.ok (D.int xs.length) st | _ => .err) = _
  rw [h]; rfl
theorem mOk_ref {m : Mth} {st : Store} {k : Nat} {xs : List D} (hm : m.isL = true) (h : st[k]? = some (.lst xs)) : mOk m (.ref k) st = true := by
  unfold mOk
  rw [hm]
  simp only [deref_ref h]
theorem app_ref {st : Store} {k : Nat} {xs : List D} {d : D} (h : st[k]? = some (.lst xs)) (hl : xs.length < lineN) : mth .append (.ref k) [d] st = .ok .non (st.set k (.lst (xs ++ [d]))) := by
  show (match st[k]? with | some (.lst xs) => gd (xs.length < lineN) (Res.ok D.non (st.set k (.lst (xs ++ [d])))) | _ => .err) = _
  rw [h]
  exact gd_pos hl
theorem ext_ref {st : Store} {k : Nat} {xs ys : List D} {d : D} (h : st[k]? = some (.lst xs)) (hd : derefB st d = .lst ys) (hl : xs.length + ys.length ≤ lineN) : mth .extend (.ref k) [d] st = .ok .non (st.set k (.lst (xs ++ ys))) := by
  show (match st[k]?, derefB st d with | some (.lst xs), .lst ys => gd (xs.length + ys.length ≤ lineN) (Res.ok D.non (st.set k (.lst (xs ++ ys)))) | _, _ => .err) = _
  rw [h, hd]
  exact gd_pos hl
theorem pop_ref {st : Store} {k : Nat} {xs : List D} {d : D} (h : st[k]? = some (.lst (xs ++ [d]))) : mth .pop (.ref k) [] st = .ok d (st.set k (.lst xs)) := by
  show (match st[k]? with
      | some (.lst xs) => (match xs.getLast? with
        | some d => Res.ok d (st.set k (.lst xs.dropLast))
        | none => .err)
      | _ => .err) = _
  rw [h]
  simp
theorem popi_ref {st : Store} {k : Nat} {xs : List D} {d : D} {i : Nat} (h : st[k]? = some (.lst xs)) (hd : xs[i]? = some d) : mth .pop (.ref k) [.int (i : Int)] st = .ok d (st.set k (.lst (xs.eraseIdx i))) := by
  show (match st[k]? with
      | some (.lst xs) => gd (0 ≤ (i : Int)) (match xs[(i : Int).toNat]? with
        | some d => Res.ok d (st.set k (.lst (xs.eraseIdx (i : Int).toNat)))
        | none => .err)
      | _ => .err) = _
  rw [h]
  show gd (0 ≤ (i : Int)) _ = _
  rw [gd_pos (by omega)]
  show (match xs[i]? with | some d => Res.ok d (st.set k (.lst (xs.eraseIdx i))) | none => .err) = _
  rw [hd]
theorem tup_items {st : Store} {d : D} {xs : List D} (h : items st d = some xs) : blt1 .tuple d st = .ok (.tup xs) st := by
  show (match items st d with | some xs => Res.ok (D.tup xs) st | none => .err) = _
  rw [h]
theorem items_ref {st : Store} {k : Nat} {xs : List D} (h : st[k]? = some (.lst xs)) : items st (.ref k) = some xs := by
  unfold items
  rw [deref_ref h]
@[simp] theorem items_lst (st : Store) (xs : List D) : items st (.lst xs) = some xs := Eq.trans rfl rfl
@[simp] theorem items_tup (st : Store) (xs : List D) : items st (.tup xs) = some xs := Eq.trans rfl rfl
@[simp] theorem enum_tup (s : List D) (st : Store) : enumR st (.tup s) = .ok (enumD 0 s, []) st := Eq.trans rfl rfl
theorem setIx_ref {st : Store} {k : Nat} {xs : List D} {v : D} {j : Nat} (h : st[k]? = some (.lst xs)) (hj : j < xs.length) : setIx (.ref k) (.int (j : Int)) v st = some (st.set k (.lst (xs.set j v))) := by
  show (match st[k]? with
    | some (.lst xs) => if 0 ≤ (j : Int) ∧ (j : Int).toNat < xs.length then some (st.set k (.lst (xs.set (j : Int).toNat v))) else none
    | _ => none) = _
  rw [h]
  show (if 0 ≤ (j : Int) ∧ (j : Int).toNat < xs.length then _ else none) = _
  rw [if_pos ⟨by omega, by omega⟩]
  rfl
theorem in_ints {xs : List Nat} {x : Nat} : ((xs.map fun (n : Nat) => D.int n).any fun z => pyEq z (.int (x : Int))) = xs.contains x := by
  rw [List.any_map]
  induction xs with
  | nil => rfl
  | cons y ys ih =>
    rw [List.any_cons, ih, List.contains_cons]
    congr 1
    show ((y : Int) == (x : Int)) = (x == y)
    rw [Bool.eq_iff_iff]
    simp
    omega
theorem shp_ints (xs : List Nat) : shp (.lst (xs.map fun (n : Nat) => D.int n)) = true := by
  refine shN.shp (n := 2) (shN_lst fun d hd => ?_)
  obtain ⟨n, _, rfl⟩ := List.mem_map.mp hd
  exact shN_int _
theorem in_lst {xs : List Nat} {x : Nat} {st : Store} : cmpB .In (.int (x : Int)) (.lst (xs.map fun (n : Nat) => D.int n)) st = .ok (xs.contains x) st := by
  show gd (shp (.int (x : Int)) = true ∧ shp (.lst (xs.map fun (n : Nat) => D.int n)) = true) (Res.ok ((xs.map fun (n : Nat) => D.int n).any fun z => pyEq z (.int (x : Int))) st) = _
  rw [gd_pos ⟨rfl, shp_ints xs⟩, in_ints]
theorem nin_lst {xs : List Nat} {x : Nat} {st : Store} : cmpB .NotIn (.int (x : Int)) (.lst (xs.map fun (n : Nat) => D.int n)) st = .ok (!xs.contains x) st := by
  have := in_lst (xs := xs) (x := x) (st := st)
  show (inD st _ _).bind _ = _
  rw [show inD st (.int (x : Int)) (.lst (xs.map fun (n : Nat) => D.int n)) = .ok (xs.contains x) st from this]; rfl
theorem nin_ref {st : Store} {k : Nat} {xs : List Nat} {x : Nat} (h : st[k]? = some (.lst (xs.map fun (n : Nat) => D.int n))) : cmpB .NotIn (.int (x : Int)) (.ref k) st = .ok (!xs.contains x) st := by
  have : inD st (.int (x : Int)) (.ref k) = .ok (xs.contains x) st := by
    show (match st[k]? with
      | some (.lst ys) => gd (shp (.int (x : Int)) = true ∧ shp (.lst ys) = true) (Res.ok (ys.any fun z => pyEq z (.int (x : Int))) st)
      | _ => .err) = _
    rw [h]
    show gd (shp (.int (x : Int)) = true ∧ shp (.lst (xs.map fun (n : Nat) => D.int n)) = true) (Res.ok ((xs.map fun (n : Nat) => D.int n).any fun z => pyEq z (.int (x : Int))) st) = _
    rw [gd_pos ⟨rfl, shp_ints xs⟩, in_ints]
  show (inD st _ _).bind _ = _
  rw [this]; rfl
theorem pyEqs_nil (xs : List D) : pyEqs xs [] = xs.isEmpty := by cases xs <;> rfl
theorem ne_nil {st : Store} {d : D} {xs : List D} (hd : deref st d = .lst xs) (hs : shp (.lst xs) = true) : cmpB .NotEq d (.lst []) st = .ok (!xs.isEmpty) st := by
  rw [cmp_ne (by rw [hd]; exact hs) rfl, hd]
  show Res.ok (!pyEqs xs []) st = _
  rw [pyEqs_nil]
theorem range_at (n : Nat) (i : Nat) (h : i < n) : (rng 0 (n : Int))[i]? = some (.int (i : Int)) := by
  unfold rng
  rw [List.getElem?_map, List.getElem?_range (by omega)]
  simp
theorem rng_nat (n : Nat) : rng 0 (n : Int) = (List.range n).map fun (i : Nat) => D.int (i : Int) := by
  unfold rng
  simp
theorem small_nat {n : Nat} (h : n ≤ 1000000000) : small62 (n : Int) := by unfold small62; omega
theorem atI_map {α : Type} {xs : List α} {f : α → D} {i : Nat} {a : α} (h : xs[i]? = some a) : L2.atI (xs.map f) (i : Int) = some (f a) := by
  have hl := (List.getElem?_eq_some_iff.mp h).1
  rw [atI_nat (by rw [List.length_map]; exact hl), List.getElem?_map, h]; rfl
theorem enum_at : ∀ {xs : List D} {n i : Nat}, (enumD n xs)[i]? = (xs[i]?).map fun d => D.tup [.int ((n + i : Nat) : Int), d]
  | [], n, i => by simp [enumD]
  | x :: xs, n, 0 => by simp [enumD]
  | x :: xs, n, i + 1 => by
    rw [enumD, List.getElem?_cons_succ, List.getElem?_cons_succ, enum_at]
    congr 1
    funext d
    rw [show n + 1 + i = n + (i + 1) by omega]
theorem enum_len : ∀ {xs : List D} {n : Nat}, (enumD n xs).length = xs.length
  | [], n => rfl
  | x :: xs, n => by rw [enumD, List.length_cons, List.length_cons, enum_len]
end PC
namespace PC
theorem closeds_ints (n : Nat) : ∀ xs : List Nat, closeds n (xs.map fun (n : Nat) => D.int n) = true
  | [] => rfl
  | x :: xs => by
    show (true && closeds n (xs.map fun (n : Nat) => D.int n)) = true
    rw [closeds_ints n xs]; rfl
end PC
namespace PC
theorem forL_ix0 {step : D → Slots → Store → RS} {ys : List D} (I : Nat → Slots → Store → Prop) {σ : Slots} {st : Store} 
    (hs : ∀ i d, ys[i]? = some d → ∀ σ st, I i σ st → ∃ σ' st', step d σ st = .nx σ' st' ∧ I (i + 1) σ' st') (h : I 0 σ st) : ∃ σ' st', forL step [] ys σ st = .nx σ' st' ∧ I ys.length σ' st' :=
  forL_ix I 0 rfl (Nat.zero_le _) (fun i d _ => hs i d) h
end PC
namespace PC
theorem forL_anyM {α : Type} {step : D → Slots → Store → RS} (I : Slots → Store → Prop) (J : Store → Prop) (g : α → D) (p : α → Bool) (d : D) : ∀ {xs : List α} {σ : Slots} {st : Store},
    (∀ x ∈ xs, ∀ σ st, I σ st → (p x = true → ∃ st', step (g x) σ st = .rt d st' ∧ J st') ∧ (p x = false → ∃ σ' st', step (g x) σ st = .nx σ' st' ∧ I σ' st')) → I σ st →
    (xs.any p = true → ∃ st', forL step [] (xs.map g) σ st = .rt d st' ∧ J st') ∧ (xs.any p = false → ∃ σ' st', forL step [] (xs.map g) σ st = .nx σ' st' ∧ I σ' st')
  | [], σ, st, _, h => ⟨fun e => (Bool.false_ne_true e).elim, fun _ => ⟨σ, st, by rw [List.map_nil, forL, gw_nil], h⟩⟩
  | x :: xs, σ, st, hs, h => by
    obtain ⟨h1, h2⟩ := hs x List.mem_cons_self σ st h
    rw [List.any_cons, List.map_cons]
    cases e : p x with
    | true =>
      obtain ⟨st', e1, e2⟩ := h1 e
      exact ⟨fun _ => ⟨st', by rw [forL, gw_nil, e1], e2⟩, fun q => by cases q⟩
    | false =>
      obtain ⟨σ', st', e1, e2⟩ := h2 e
      obtain ⟨q1, q2⟩ := forL_anyM (xs := xs) I J g p d (fun y hy => hs y (List.mem_cons_of_mem _ hy)) e2
      rw [Bool.false_or, forL, gw_nil, e1]
      exact ⟨q1, q2⟩
theorem lcL_filterM {α : Type} {step : D → Store → Res (Option D)} {p : α → Bool} {g h : α → D} {st : Store} : ∀ {xs : List α}, (∀ x ∈ xs, step (g x) st = .ok (if p x = true then some (h x) else none) st) → lcL step [] (xs.map g) st = .ok ((xs.filter p).map h) st
  | [], _ => by rw [List.map_nil, lcL, gw_nil]; rfl
  | x :: xs, hs => by
    rw [List.map_cons, lcL, gw_nil, hs x List.mem_cons_self, nox_ok, Res.bind_ok, lcL_filterM (p := p) (g := g) (h := h) fun y hy => hs y (List.mem_cons_of_mem _ hy)]
    cases hp : p x
    · rw [List.filter_cons_of_neg (by rw [hp]; exact Bool.false_ne_true)]; rfl
    · rw [List.filter_cons_of_pos hp]; rfl
theorem lcL_mapM {α : Type} {step : D → Store → Res (Option D)} {g h : α → D} {st : Store} : ∀ {xs : List α}, (∀ x ∈ xs, step (g x) st = .ok (some (h x)) st) → lcL step [] (xs.map g) st = .ok (xs.map h) st
  | [], _ => by rw [List.map_nil, lcL, gw_nil]; rfl
  | x :: xs, hs => by
    rw [List.map_cons, lcL, gw_nil, hs x List.mem_cons_self, nox_ok, Res.bind_ok, lcL_mapM (g := g) (h := h) fun y hy => hs y (List.mem_cons_of_mem _ hy)]; rfl
def en {α : Type} : Nat → List α → List (Nat × α)
  | _, [] => []
  | n, x :: xs => (n, x) :: en (n + 1) xs
theorem enum_en {α : Type} (f : α → D) : ∀ (n : Nat) (xs : List α), enumD n (xs.map f) = (en n xs).map fun p => D.tup [.int (p.1 : Int), f p.2]
  | _, [] => rfl
  | n, x :: xs => by rw [List.map_cons, enumD, en, List.map_cons, enum_en f (n + 1) xs]
theorem en_mem {α : Type} : ∀ {n : Nat} {xs : List α} {p : Nat × α}, p ∈ en n xs → n ≤ p.1 ∧ xs[p.1 - n]? = some p.2
  | n, [], p, h => by cases h
  | n, x :: xs, p, h => by
    rw [en] at h
    rcases List.mem_cons.mp h with rfl | h
    · simp
    · obtain ⟨h1, h2⟩ := en_mem h
      refine ⟨by omega, ?_⟩
      rw [show p.1 - n = (p.1 - (n + 1)) + 1 by omega, List.getElem?_cons_succ]
      exact h2
theorem any_filter {α : Type} (p : α → Bool) : ∀ xs : List α, (!(xs.filter p).isEmpty) = xs.any p
  | [] => rfl
  | x :: xs => by
    cases h : p x
    · rw [List.filter_cons_of_neg (by rw [h]; exact Bool.false_ne_true), List.any_cons, h, any_filter p xs]; rfl
    · rw [List.filter_cons_of_pos h, List.any_cons, h]; rfl
theorem ne_nilM {α : Type} {g : α → D} {xs : List α} {st : Store} (hs : shp (.lst (xs.map g)) = true) : cmpB .NotEq (.lst (xs.map g)) (.lst []) st = .ok (!xs.isEmpty) st := by
  rw [ne_nil rfl hs]
  cases xs <;> rfl
end PC
namespace PC
/-- a for with an end at some; the store stays -/
theorem forL_anyS {α β : Type} {step : D → Slots → Store → RS} (S : β → Slots) (g : α → D) (p : α → Bool) (d : D) (st : Store) : ∀ {xs : List α}, (∀ x ∈ xs, ∀ b, ∃ b', step (g x) (S b) st = if p x = true then .rt d st else .nx (S b') st) →
    ∀ b, ∃ b', forL step [] (xs.map g) (S b) st = if xs.any p = true then .rt d st else .nx (S b') st
  | [], _, b => ⟨b, by rw [List.map_nil, forL, gw_nil]; rfl⟩
  | x :: xs, hs, b => by
    obtain ⟨b1, e⟩ := hs x List.mem_cons_self b
    obtain ⟨b2, e2⟩ := forL_anyS S g p d st (xs := xs) (fun y hy => hs y (List.mem_cons_of_mem _ hy)) b1
    refine ⟨b2, ?_⟩
    rw [List.map_cons, forL, gw_nil, e, List.any_cons]
    cases p x with
    | true => rfl
    | false =>
      rw [if_neg Bool.false_ne_true, Bool.false_or]
      exact e2
theorem toS_if {p : Prop} [Decidable p] (a b : RS) (k : Slots → Store → RS) : seqR (if p then a else b) k = if p then seqR a k else seqR b k := seqR_ite a b k
end PC
namespace PC
theorem evi_rangeN {ge : GE} {cf : CF} {a : CE} {σ : Slots} {st : Store} {n : Nat} (h : ev ge cf a σ st = .ok (.int (n : Int)) st) (hn : n ≤ 1000000000) : evi ge cf (.range1 a) σ st = .ok (rng 0 (n : Int), []) st := by
  rw [evi_range1, h, Res.bind_ok]
  exact gd_pos (small_nat hn)
end PC
namespace PC
/-- a while by an invariant with a measure; its end is one of many -/
theorem wh_ex {c : Slots → Store → Res D} {b : Slots → Store → RS} {α : Type} (P : α → Slots × Store) (m : α → Nat) (F : α → Prop)
    (step : ∀ a, (c (P a).1 (P a).2 = .ok (.bl false) (P a).2 ∧ F a) ∨ (c (P a).1 (P a).2 = .ok (.bl true) (P a).2 ∧ ∃ a', m a' < m a ∧ b (P a).1 (P a).2 = .nx (P a').1 (P a').2)) (a : α) : ∃ a', F a' ∧ wh c b (P a).1 (P a).2 = .nx (P a').1 (P a').2 := by
  have key : ∀ n a, m a < n → ∃ a', F a' ∧ whN c b n (P a).1 (P a).2 = .nx (P a').1 (P a').2 := by
    intro n
    induction n with
    | zero => intro a h; omega
    | succ n ih =>
      intro a h
      rcases step a with ⟨h1, h2⟩ | ⟨h1, a', h2, h3⟩
      · exact ⟨a, h2, by rw [whN, h1]; rfl⟩
      · obtain ⟨a2, f, e⟩ := ih a' (by omega)
        refine ⟨a2, f, ?_⟩
        rw [whN, h1]
        simp only [Res.toS_ok]
        rw [h3]
        exact e
  obtain ⟨a', f, e⟩ := key (m a + 1) a (by omega)
  exact ⟨a', f, by rw [wh_eq (n := m a + 1) (by rw [e]; intro z; cases z), e]⟩
theorem whR_ex {ge : GE} {cf : CF} {c : CE} {b : CSs} {α : Type} (P : α → Slots × Store) (m : α → Nat) (F : α → Prop)
    (step : ∀ a, (ev ge cf c (P a).1 (P a).2 = .ok (.bl false) (P a).2 ∧ F a) ∨ (ev ge cf c (P a).1 (P a).2 = .ok (.bl true) (P a).2 ∧ ∃ a', m a' < m a ∧ exs ge cf b (P a).1 (P a).2 = .nx (P a').1 (P a').2)) (a : α) : ∃ a', F a' ∧ whR ge cf c b (P a).1 (P a).2 = .nx (P a').1 (P a').2 :=
  wh_ex P m F step a
theorem nodup_len : ∀ (n : Nat) (l : List Nat), l.Nodup → (∀ x ∈ l, x < n) → l.length ≤ n
  | 0, l, _, h => by
    cases l with
    | nil => exact Nat.le_refl _
    | cons x _ => exact absurd (h x List.mem_cons_self) (by omega)
  | n + 1, l, nd, h => by
    have q := nodup_len n (l.erase n) (nd.erase n) (fun x hx => by
      have h1 := (List.Nodup.mem_erase_iff nd).mp hx
      have := h x h1.2
      have := h1.1
      omega)
    by_cases hm : n ∈ l
    · rw [List.length_erase_of_mem hm] at q; omega
    · rw [List.erase_of_not_mem hm] at q; omega
theorem at_end1 (st : Store) (c d : Cell) (r : Store) : (st ++ c :: d :: r)[st.length + 1]? = some d := by simp
theorem set_end1 (st : Store) (c d e : Cell) (r : Store) : (st ++ c :: d :: r).set (st.length + 1) e = st ++ c :: e :: r := by simp
end PC
end
section
set_option Elab.async false
set_option linter.all false
set_option autoImplicit false
set_option maxRecDepth 100000
set_option maxHeartbeats 1000000
/-! Words for whole numbers from 0 on, for cells, for loops that end clean. -/
namespace PC
open PySem
/-! ### numbers -/
section
variable {ge : GE} {cf : CF} {σ : Slots} {st : Store}
@[simp] theorem ev_cN (n : Nat) : ev ge cf (cN n) σ st = .ok (nD n) st := Eq.trans rfl rfl
end
@[simp] theorem deref_N (st : Store) (n : Nat) : deref st (nD n) = nD n := Eq.trans rfl rfl
@[simp] theorem derefB_N (st : Store) (n : Nat) : derefB st (nD n) = nD n := Eq.trans rfl rfl
@[simp] theorem closed_N (k n : Nat) : closed k (nD n) = true := Eq.trans rfl rfl
@[simp] theorem shp_N (n : Nat) : shp (nD n) = true := Eq.trans rfl rfl
@[simp] theorem plain_N (n : Nat) : plain (nD n) = true := Eq.trans rfl rfl
@[simp] theorem closed_bl (k : Nat) (b : Bool) : closed k (.bl b) = true := Eq.trans rfl rfl
@[simp] theorem closed_non (k : Nat) : closed k .non = true := Eq.trans rfl rfl
@[simp] theorem closed_str (k : Nat) (b : List Nat) : closed k (.str b) = true := Eq.trans rfl rfl
@[simp] theorem closed_kset (k : Nat) (b : List Int) : closed k (.kset b) = true := Eq.trans rfl rfl
@[simp] theorem closed_int (k : Nat) (b : Int) : closed k (.int b) = true := Eq.trans rfl rfl
@[simp] theorem closed_ref (k n : Nat) : closed k (.ref n) = decide (n < k) := Eq.trans rfl rfl
@[simp] theorem closed_tup (k : Nat) (b : List D) : closed k (.tup b) = closeds k b := Eq.trans rfl rfl
@[simp] theorem closed_lst (k : Nat) (b : List D) : closed k (.lst b) = closeds k b := Eq.trans rfl rfl
@[simp] theorem closed_scr (k : Nat) (b : List D) : closed k (.scr b) = closeds k b := Eq.trans rfl rfl
@[simp] theorem closeds_nil (k : Nat) : closeds k [] = true := Eq.trans rfl rfl
@[simp] theorem closeds_cons (k : Nat) (x : D) (b : List D) : closeds k (x :: b) = (closed k x && closeds k b) := Eq.trans rfl rfl
@[simp] theorem cell_lst_cl (k : Nat) (b : List D) : Cell.closed k (.lst b) = closeds k b := Eq.trans rfl rfl
theorem closeds_all (k : Nat) : ∀ b : List D, closeds k b = b.all (closed k)
  | [] => rfl
  | x :: b => by rw [closeds_cons, closeds_all k b]; rfl
theorem closeds_map {α : Type} {k : Nat} {f : α → D} (h : ∀ x, closed k (f x) = true) (xs : List α) : closeds k (xs.map f) = true := by
  rw [closeds_all, List.all_map, List.all_eq_true]
  exact fun x _ => h x
@[simp] theorem closeds_N (k : Nat) (xs : List Nat) : closeds k (xs.map nD) = true := closeds_map (fun _ => rfl) xs
@[simp] theorem closeds_B (k : Nat) (xs : List Bool) : closeds k (xs.map D.bl) = true := closeds_map (fun _ => rfl) xs
@[simp] theorem closeds_I (k : Nat) (xs : List Int) : closeds k (xs.map D.int) = true := closeds_map (fun _ => rfl) xs
@[simp] theorem closeds_app (k : Nat) (a b : List D) : closeds k (a ++ b) = (closeds k a && closeds k b) := by
  rw [closeds_all, closeds_all, closeds_all, List.all_append]
mutual
theorem plain_cl (k : Nat) : ∀ d : D, plain d = true → closed k d = true
  | .non, _ => rfl
  | .bl _, _ => rfl
  | .int _, _ => rfl
  | .str _, _ => rfl
  | .tup xs, h => plains_cl k xs h
  | .lst xs, h => plains_cl k xs h
  | .kset _, _ => rfl
theorem plains_cl (k : Nat) : ∀ d : List D, plains d = true → closeds k d = true
  | [], _ => rfl
  | x :: xs, h => by
    have h : (plain x && plains xs) = true := h
    rw [Bool.and_eq_true] at h
    rw [closeds_cons, plain_cl k x h.1, plains_cl k xs h.2]; rfl
end
@[simp] theorem addD_N (st : Store) (a b : Nat) : addD st (nD a) (nD b) = .ok (nD (a + b)) st := by
  show Res.ok (D.int ((a : Int) + (b : Int))) st = _
  rw [← Int.natCast_add]; rfl
theorem bin_subN {a b : Nat} {st : Store} (h : b ≤ a) : binop .Sub (nD a) (nD b) st = .ok (nD (a - b)) st := by
  show Res.ok (D.int ((a : Int) - (b : Int))) st = _
  rw [← Int.natCast_sub h]; rfl
theorem bin_subI {a b : Nat} {st : Store} : binop .Sub (nD a) (nD b) st = .ok (.int ((a : Int) - (b : Int))) st := rfl
theorem smN {a : Nat} (h : a < 9223372036854775808) : Sm (a : Int) := sm64 (by omega) (by omega)
theorem smP {a : Nat} (n : Nat) (h : a < 2 ^ n) (hn : n ≤ 8000) : Sm (a : Int) := by
  unfold Sm
  rw [Int.natAbs_natCast]
  exact Nat.lt_of_lt_of_le h (Nat.pow_le_pow_right (by decide) hn)
theorem bin_mulS {a b : Nat} {st : Store} (ha : Sm (a : Int)) (hb : Sm (b : Int)) : binop .Mult (nD a) (nD b) st = .ok (nD (a * b)) st := by
  show binop .Mult (.int (a : Int)) (.int (b : Int)) st = _
  rw [bin_mul ha hb, ← Int.natCast_mul]; rfl
theorem bin_mulN {a b : Nat} {st : Store} (ha : a < 9223372036854775808) (hb : b < 9223372036854775808) : binop .Mult (nD a) (nD b) st = .ok (nD (a * b)) st := bin_mulS (smN ha) (smN hb)
theorem bin_modN {a b : Nat} {st : Store} (h : 0 < b) : binop .Mod (nD a) (nD b) st = .ok (nD (a % b)) st := by
  show binop .Mod (.int (a : Int)) (.int (b : Int)) st = _
  rw [bin_mod (by omega), imod_nat]; rfl
theorem bin_divS {a b : Nat} {st : Store} (h : 0 < b) (hb : Sm (b : Int)) : binop .FloorDiv (nD a) (nD b) st = .ok (nD (a / b)) st := by
  show binop .FloorDiv (.int (a : Int)) (.int (b : Int)) st = _
  rw [bin_div (by omega) hb, idiv_nat]; rfl
theorem bin_divN {a b : Nat} {st : Store} (h : 0 < b) (hb : b < 9223372036854775808) : binop .FloorDiv (nD a) (nD b) st = .ok (nD (a / b)) st := bin_divS h (smN hb)
theorem bin_shlS {a j : Nat} {st : Store} (h : j ≤ 8000) (ha : Sm (a : Int)) : binop .LShift (nD a) (nD j) st = .ok (nD (a <<< j)) st := by
  show binop .LShift (.int (a : Int)) (.int (j : Int)) st = _
  rw [bin_shl ⟨by omega, by omega, ha⟩, Nat.shiftLeft_eq]
  show Res.ok (D.int ((a : Int) * 2 ^ j)) st = _
  rw [show ((a : Int) * 2 ^ j) = ((a * 2 ^ j : Nat) : Int) by push_cast; rfl]; rfl
theorem bin_shl1 {j : Nat} {st : Store} (h : j ≤ 8000) : binop .LShift (nD 1) (nD j) st = .ok (nD (2 ^ j)) st := by
  rw [bin_shlS h (smN (by decide)), Nat.shiftLeft_eq, Nat.one_mul]
@[simp] theorem bin_shrM (a j : Nat) (st : Store) : binop .RShift (nD a) (nD j) st = .ok (nD (a >>> j)) st := by
  show binop .RShift (.int (a : Int)) (.int (j : Int)) st = _
  rw [bin_shrN]
  unfold shr
  rw [Nat.shiftRight_eq_div_pow]; rfl
@[simp] theorem bin_andM (a b : Nat) (st : Store) : binop .BitAnd (nD a) (nD b) st = .ok (nD (a &&& b)) st := Eq.trans rfl rfl
@[simp] theorem bin_orM (a b : Nat) (st : Store) : binop .BitOr (nD a) (nD b) st = .ok (nD (a ||| b)) st := by
  show Res.ok (D.int (PySem.Builtin.bitOr (a : Int) (b : Int))) st = _
  rw [bOr]; rfl
@[simp] theorem cmp_ltN (i j : Nat) (st : Store) : cmpB .Lt (nD i) (nD j) st = .ok (decide (i < j)) st := by
  show Res.ok (decide ((i : Int) < (j : Int))) st = _
  rw [show decide ((i : Int) < (j : Int)) = decide (i < j) from decide_eq_decide.mpr (by omega)]
@[simp] theorem cmp_leN (i j : Nat) (st : Store) : cmpB .LtE (nD i) (nD j) st = .ok (decide (i ≤ j)) st := by
  show Res.ok (decide ((i : Int) ≤ (j : Int))) st = _
  rw [show decide ((i : Int) ≤ (j : Int)) = decide (i ≤ j) from decide_eq_decide.mpr (by omega)]
@[simp] theorem cmp_gtN (i j : Nat) (st : Store) : cmpB .Gt (nD i) (nD j) st = .ok (decide (j < i)) st := cmp_ltN j i st
@[simp] theorem cmp_geN (i j : Nat) (st : Store) : cmpB .GtE (nD i) (nD j) st = .ok (decide (j ≤ i)) st := cmp_leN j i st
@[simp] theorem pyEq_N (i j : Nat) : pyEq (nD i) (nD j) = decide (i = j) := by
  show ((i : Int) == (j : Int)) = _
  rw [Bool.eq_iff_iff]; simp; omega
@[simp] theorem cmp_eqN (i j : Nat) (st : Store) : cmpB .Eq (nD i) (nD j) st = .ok (decide (i = j)) st := by
  rw [cmp_eq rfl rfl, deref_N, deref_N, pyEq_N]
@[simp] theorem cmp_neN (i j : Nat) (st : Store) : cmpB .NotEq (nD i) (nD j) st = .ok (!decide (i = j)) st := by
  rw [cmp_ne rfl rfl, deref_N, deref_N, pyEq_N]
theorem cmp_neB' (a b : Bool) (st : Store) : cmpB .NotEq (.bl a) (.bl b) st = .ok (a != b) st := by
  rw [cmp_ne rfl rfl]; rfl
theorem shiftbit (a j : Nat) : (a >>> j) &&& 1 = (a.testBit j).toNat := by
  rw [Nat.shiftRight_eq_div_pow]; exact shr1 a j
@[simp] theorem bit1 (a j : Nat) : decide ((a >>> j) &&& 1 = 1) = a.testBit j := by
  rw [shiftbit]; cases a.testBit j <;> rfl
@[simp] theorem bit0 (a j : Nat) : decide ((a >>> j) &&& 1 = 0) = !a.testBit j := by
  rw [shiftbit]; cases a.testBit j <;> rfl
@[simp] theorem bit2 (a j : Nat) : decide (a / 2 ^ j % 2 = 1) = a.testBit j := by
  rw [Nat.testBit_eq_decide_div_mod_eq]
@[simp] theorem onI_N {α : Type} (e : α) (t : Int → α) (i : Nat) : onI e (nD i) t = t (i : Int) := Eq.trans rfl rfl
theorem atI_N {α : Type} (xs : List α) (i : Nat) : L2.atI xs (i : Int) = xs[i]? := by
  by_cases h : i < xs.length
  · exact atI_nat h
  · unfold L2.atI L2.ixN
    rw [if_pos (by omega), if_neg (by omega), List.getElem?_eq_none (by omega)]; rfl
@[simp] theorem idx_lstN (xs : List D) (i : Nat) (st : Store) : idxD st (.lst xs) (nD i) = globR xs[i]? st := by
  show idxD st (.lst xs) (.int (i : Int)) = _
  rw [idx_lst, atI_N]
@[simp] theorem idx_tupN (xs : List D) (i : Nat) (st : Store) : idxD st (.tup xs) (nD i) = globR xs[i]? st := by
  show idxD st (.tup xs) (.int (i : Int)) = _
  rw [idx_tup, atI_N]
@[simp] theorem idx_scrN (xs : List D) (i : Nat) (st : Store) : idxD st (.scr xs) (nD i) = globR xs[i]? st := by
  show idxD st (.scr xs) (.int (i : Int)) = _
  rw [idx_scr, atI_N]
theorem rgR_N {n : Nat} {st : Store} (h : n ≤ 1000000000) : rgR (nD n) st = .ok ((List.range n).map nD, []) st := by
  show gd (small62 (n : Int)) (Res.ok (rng 0 (n : Int), []) st) = _
  rw [gd_pos (small_nat h), rng_nat]; rfl
theorem rgL_N {n : Nat} {st : Store} (h : n ≤ 16777216) : rgL (nD n) st = .ok ((List.range n).map nD) st := by
  show gd ((n : Int) ≤ lineN ∧ -(lineN : Int) ≤ (n : Int)) (Res.ok (rng 0 (n : Int)) st) = _
  rw [gd_pos (by unfold lineN; omega), rng_nat]; rfl
theorem rng_two (a b : Nat) : rng (a : Int) (b : Int) = (List.range' a (b - a)).map nD := by
  unfold rng
  rw [List.range'_eq_map_range, List.map_map]
  rw [show ((b : Int) - (a : Int)).toNat = b - a by omega]
  apply List.map_congr_left
  intro i _
  show D.int ((a : Int) + (i : Int)) = D.int (((a + i : Nat)) : Int)
  rw [Int.natCast_add]
theorem rg2R_N {a b : Nat} {st : Store} (ha : a ≤ 1000000000) (hb : b ≤ 1000000000) : rg2R (nD a) (nD b) st = .ok ((List.range' a (b - a)).map nD, []) st := by
  show gd (small62 (a : Int) ∧ small62 (b : Int)) (Res.ok (rng (a : Int) (b : Int), []) st) = _
  rw [gd_pos ⟨small_nat ha, small_nat hb⟩, rng_two]
theorem rr2R_N {a b : Nat} {st : Store} (ha : a ≤ 1000000000) (hb : b ≤ 1000000000) : rr2R (nD a) (nD b) st = .ok ((List.range' a (b - a)).reverse.map nD, []) st := by
  show gd (small62 (a : Int) ∧ small62 (b : Int)) (Res.ok ((rng (a : Int) (b : Int)).reverse, []) st) = _
  rw [gd_pos ⟨small_nat ha, small_nat hb⟩, rng_two, List.map_reverse]
@[simp] theorem min_N (a b : Nat) (st : Store) : blt2 .min (nD a) (nD b) st = .ok (nD (min a b)) st := by
  show Res.ok (D.int (if (b : Int) < (a : Int) then (b : Int) else (a : Int))) st = _
  rw [show (if (b : Int) < (a : Int) then (b : Int) else (a : Int)) = ((min a b : Nat) : Int) by split <;> omega]; rfl
@[simp] theorem max_N (a b : Nat) (st : Store) : blt2 .max (nD a) (nD b) st = .ok (nD (max a b)) st := by
  show Res.ok (D.int (if (b : Int) > (a : Int) then (b : Int) else (a : Int))) st = _
  rw [show (if (b : Int) > (a : Int) then (b : Int) else (a : Int)) = ((max a b : Nat) : Int) by split <;> omega]; rfl
theorem ints_N : ∀ xs : List Nat, toInts (xs.map nD) = some (xs.map fun (n : Nat) => (n : Int))
  | [] => rfl
  | x :: xs => by
    show (toInts (xs.map nD)).map ((x : Int) :: ·) = _
    rw [ints_N xs]; rfl
theorem fold_maxN : ∀ (xs : List Nat) (x : Nat), (xs.map fun (n : Nat) => (n : Int)).foldl max (x : Int) = ((xs.foldl max x : Nat) : Int)
  | [], x => rfl
  | y :: xs, x => by
    rw [List.map_cons, List.foldl_cons, List.foldl_cons, ← fold_maxN xs (max x y)]
    congr 1
    omega
theorem max_lstN (x : Nat) (xs : List Nat) (st : Store) : blt1 .max (.lst ((x :: xs).map nD)) st = .ok (nD (xs.foldl max x)) st := by
  show (match toInts ((x :: xs).map nD) with | some (i :: is) => Res.ok (D.int (is.foldl max i)) st | _ => .err) = _
  rw [ints_N]
  show Res.ok (D.int ((xs.map fun (n : Nat) => (n : Int)).foldl max (x : Int))) st = _
  rw [fold_maxN]; rfl
@[simp] theorem intB (b : Bool) (st : Store) : blt1 .int (.bl b) st = .ok (nD b.toNat) st := by cases b <;> rfl
@[simp] theorem tup_lst (xs : List D) (st : Store) : blt1 .tuple (.lst xs) st = .ok (.tup xs) st := Eq.trans rfl rfl
@[simp] theorem tup_tup (xs : List D) (st : Store) : blt1 .tuple (.tup xs) st = .ok (.tup xs) st := Eq.trans rfl rfl
theorem gdL {α : Type} {n : Nat} {r : Res α} (h : n ≤ 16777216) : gd (n ≤ lineN) r = r := gd_pos h
theorem gdLt {α : Type} {n : Nat} {r : Res α} (h : n < 16777216) : gd (n < lineN) r = r := gd_pos h
/-! ### cells -/
def cellR {α : Type} (o : Option Cell) (e : α) (f : List D → α) : α := match o with
  | some (.lst xs) => f xs
  | _ => e
@[simp] theorem cellR_lst {α : Type} (xs : List D) (e : α) (f : List D → α) : cellR (some (.lst xs)) e f = f xs := Eq.trans rfl rfl
@[simp] theorem idx_refC (st : Store) (k : Nat) (i : Nat) : idxD st (.ref k) (nD i) = cellR st[k]? .err fun xs => globR xs[i]? st := by
  show idxD st (.ref k) (.int (i : Int)) = _
  cases h : st[k]? with
  | none => simp [idxD, h, cellR]
  | some c =>
    cases c with
    | lst xs => rw [idx_ref h, atI_N]; rfl
    | dict _ _ => simp [idxD, h, cellR]
    | ins _ _ => simp [idxD, h, cellR]
@[simp] theorem deref_refC (st : Store) (k : Nat) : deref st (.ref k) = cellR st[k]? (.ref k) fun xs => .lst xs := by
  show (match st[k]? with | some (.lst xs) => D.lst xs | _ => .ref k) = _
  unfold cellR
  rcases st[k]? with _ | ⟨⟨⟩⟩ <;> rfl
@[simp] theorem derefB_refC (st : Store) (k : Nat) : derefB st (.ref k) = cellR st[k]? (.ref k) fun xs => .lst xs := deref_refC st k
@[simp] theorem len_refC (st : Store) (k : Nat) : blt1 .len (.ref k) st = cellR st[k]? .err fun xs => .ok (nD xs.length) st := by
  show (match st[k]? with | some (.lst xs) => Res.ok (D.int xs.length) st | _ => .err) = _
  unfold cellR
  rcases st[k]? with _ | ⟨⟨⟩⟩ <;> rfl
@[simp] theorem items_refC (st : Store) (k : Nat) : items st (.ref k) = cellR st[k]? none some := by
  unfold items
  rw [deref_refC]
  unfold cellR
  rcases st[k]? with _ | ⟨⟨⟩⟩ <;> rfl
@[simp] theorem tup_refC (st : Store) (k : Nat) : blt1 .tuple (.ref k) st = cellR st[k]? .err fun xs => .ok (.tup xs) st := by
  show (match items st (.ref k) with | some xs => Res.ok (D.tup xs) st | none => .err) = _
  rw [items_refC]
  unfold cellR
  rcases st[k]? with _ | ⟨⟨⟩⟩ <;> rfl
@[simp] theorem sorted_refC (st : Store) (k : Nat) : blt1 .sorted (.ref k) st = cellR st[k]? .err fun xs => sortD st xs := by
  show (match derefB st (.ref k) with | .lst xs => sortD st xs | _ => .err) = _
  rw [derefB_refC]
  unfold cellR
  rcases st[k]? with _ | ⟨⟨⟩⟩ <;> rfl
@[simp] theorem sorted_lst (st : Store) (xs : List D) : blt1 .sorted (.lst xs) st = sortD st xs := Eq.trans rfl rfl
@[simp] theorem app_refC (st : Store) (k : Nat) (d : D) : mth .append (.ref k) [d] st = cellR st[k]? .err fun xs => gd (xs.length < lineN) (.ok .non (st.set k (.lst (xs ++ [d])))) := by
  show (match st[k]? with | some (.lst xs) => gd (xs.length < lineN) (Res.ok D.non (st.set k (.lst (xs ++ [d])))) | _ => .err) = _
  unfold cellR
  rcases st[k]? with _ | ⟨⟨⟩⟩ <;> rfl
@[simp] theorem mOk_refC {m : Mth} (st : Store) (k : Nat) (hm : m.isL = true) : mOk m (.ref k) st = cellR st[k]? false fun _ => true := by
  unfold mOk
  rw [hm]
  simp only [deref_refC]
  unfold cellR
  rcases st[k]? with _ | ⟨⟨⟩⟩ <;> rfl
@[simp] theorem isL_append : Mth.append.isL = true := Eq.trans rfl rfl
@[simp] theorem isL_pop : Mth.pop.isL = true := Eq.trans rfl rfl
@[simp] theorem isL_insert : Mth.insert.isL = true := Eq.trans rfl rfl
@[simp] theorem isL_extend : Mth.extend.isL = true := Eq.trans rfl rfl
@[simp] theorem isL_countL : Mth.countL.isL = true := Eq.trans rfl rfl
@[simp] theorem isL_indexL : Mth.indexL.isL = true := Eq.trans rfl rfl
@[simp] theorem mOk_lst {m : Mth} (st : Store) (xs : List D) (hm : m.isL = true) : mOk m (.lst xs) st = true := by unfold mOk; rw [hm]; rfl
def popR (xs : List D) (i : Nat) (k : Nat) (st : Store) : Res D := match xs[i]? with
  | some d => .ok d (st.set k (.lst (xs.eraseIdx i)))
  | none => .err
@[simp] theorem popi_refC (st : Store) (k i : Nat) : mth .pop (.ref k) [nD i] st = cellR st[k]? .err fun xs => popR xs i k st := by
  show (match st[k]? with
      | some (.lst xs) => gd (0 ≤ (i : Int)) (match xs[(i : Int).toNat]? with
        | some d => Res.ok d (st.set k (.lst (xs.eraseIdx (i : Int).toNat)))
        | none => .err)
      | _ => .err) = _
  unfold cellR popR
  rcases st[k]? with _ | ⟨⟨⟩⟩
  · rfl
  · simp only
    rw [gd_pos (by omega)]; rfl
  · rfl
  · rfl
theorem popR_some {xs : List D} {i k : Nat} {st : Store} {d : D} (h : xs[i]? = some d) : popR xs i k st = .ok d (st.set k (.lst (xs.eraseIdx i))) := by unfold popR; rw [h]
@[simp] theorem setIx_refC (st : Store) (k j : Nat) (v : D) : setIx (.ref k) (nD j) v st = cellR st[k]? none fun xs => if j < xs.length then some (st.set k (.lst (xs.set j v))) else none := by
  show (match st[k]? with
    | some (.lst xs) => if 0 ≤ (j : Int) ∧ (j : Int).toNat < xs.length then some (st.set k (.lst (xs.set (j : Int).toNat v))) else none
    | _ => none) = _
  unfold cellR
  rcases st[k]? with _ | ⟨⟨⟩⟩
  · rfl
  · simp
  · rfl
  · rfl
@[simp] theorem walk_refC (st : Store) (k : Nat) : walkD st (.ref k) = cellR st[k]? .err fun xs => .ok (xs, [(k, xs)]) st := by
  show (match items st (.ref k) with | some xs => Res.ok (xs, watch (.ref k) xs) st | none => .err) = _
  rw [items_refC]
  unfold cellR
  rcases st[k]? with _ | ⟨⟨⟩⟩ <;> rfl
@[simp] theorem endS0 (st : Store) (c : Cell) (r : Store) : (st ++ c :: r)[st.length]? = some c := by simp
@[simp] theorem endS1 (st : Store) (c d : Cell) (r : Store) : (st ++ c :: d :: r)[st.length + 1]? = some d := by simp
@[simp] theorem endS2 (st : Store) (c d e : Cell) (r : Store) : (st ++ c :: d :: e :: r)[st.length + 2]? = some e := by simp
@[simp] theorem setS0 (st : Store) (c d : Cell) (r : Store) : (st ++ c :: r).set st.length d = st ++ d :: r := by simp
@[simp] theorem setS1 (st : Store) (c d e : Cell) (r : Store) : (st ++ c :: d :: r).set (st.length + 1) e = st ++ c :: e :: r := by simp
@[simp] theorem setS2 (st : Store) (c d e g : Cell) (r : Store) : (st ++ c :: d :: e :: r).set (st.length + 2) g = st ++ c :: d :: g :: r := by simp
/-! ### dicts, instances -/
def dictC {α : Type} (o : Option Cell) (t : Bool) (k : Option (List KY)) (e : α) (f : List (List KY × D) → List KY → α) : α := match o with
  | some (.dict t' kvs) => match k with
    | some k => if t' = t then f kvs k else e
    | none => e
  | _ => e
@[simp] theorem dictC_some {α : Type} (t : Bool) (kvs : List (List KY × D)) (k : List KY) (e : α) (f : List (List KY × D) → List KY → α) : dictC (some (.dict t kvs)) t (some k) e f = f kvs k := if_pos rfl
@[simp] theorem dictR_ref {α : Type} (st : Store) (j : Nat) (t : Bool) (k : Option (List KY)) (e : α) (f : Nat → List (List KY × D) → List KY → α) : dictR st (.ref j) t k e f = dictC st[j]? t k e (f j) := by
  exact Eq.trans rfl rfl
def insC {α : Type} (o : Option Cell) (c : String) (e : α) (f : List (String × D) → α) : α := match o with
  | some (.ins c' fs) => if c' = c then f fs else e
  | _ => e
@[simp] theorem insC_some {α : Type} (c : String) (fs : List (String × D)) (e : α) (f : List (String × D) → α) : insC (some (.ins c fs)) c e f = f fs := if_pos rfl
@[simp] theorem insR_ref {α : Type} (st : Store) (j : Nat) (c : String) (e : α) (f : Nat → List (String × D) → α) : insR st (.ref j) c e f = insC st[j]? c e (f j) := by
  exact Eq.trans rfl rfl
@[simp] theorem optR_some (d : D) (st : Store) : optR (some d) st = .ok d st := Eq.trans rfl rfl
@[simp] theorem key1_N (n : Nat) : keyD1 (nD n) = some [.inl (n : Int)] := Eq.trans rfl rfl
@[simp] theorem key1_str (n : List Nat) : keyD1 (.str n) = some [.inr n] := Eq.trans rfl rfl
theorem keysA_NN (a b : Nat) : keysA [nD a, nD b] = some [.inl (a : Int), .inl (b : Int)] := Eq.trans rfl rfl
@[simp] theorem cell_ins_cl (k : Nat) (c : String) (fs : List (String × D)) : Cell.closed k (.ins c fs) = fs.all fun p => closed k p.2 := Eq.trans rfl rfl
@[simp] theorem cell_dict_cl (k : Nat) (t : Bool) (kvs : List (List KY × D)) : Cell.closed k (.dict t kvs) = kvs.all fun p => closed k p.2 := Eq.trans rfl rfl
@[simp] theorem tyR_N (bs : Bases) (st : Store) (n : Nat) (t : Ty) : tyR bs st (nD n) t = .ok (.bl (isTy bs st (nD n) t)) st := gd_pos rfl
@[simp] theorem tyR_int (bs : Bases) (st : Store) (n : Int) (t : Ty) : tyR bs st (.int n) t = .ok (.bl (isTy bs st (.int n) t)) st := gd_pos rfl
@[simp] theorem tyR_bl (bs : Bases) (st : Store) (n : Bool) (t : Ty) : tyR bs st (.bl n) t = .ok (.bl (isTy bs st (.bl n) t)) st := gd_pos rfl
@[simp] theorem tyR_str (bs : Bases) (st : Store) (n : List Nat) (t : Ty) : tyR bs st (.str n) t = .ok (.bl (isTy bs st (.str n) t)) st := gd_pos rfl
@[simp] theorem tyR_tup (bs : Bases) (st : Store) (n : List D) (t : Ty) : tyR bs st (.tup n) t = .ok (.bl (isTy bs st (.tup n) t)) st := gd_pos rfl
@[simp] theorem tyR_lst (bs : Bases) (st : Store) (n : List D) (t : Ty) : tyR bs st (.lst n) t = .ok (.bl (isTy bs st (.lst n) t)) st := gd_pos rfl
@[simp] theorem tyR_scr (bs : Bases) (st : Store) (n : List D) (t : Ty) : tyR bs st (.scr n) t = .ok (.bl (isTy bs st (.scr n) t)) st := gd_pos rfl
@[simp] theorem tyR_non (bs : Bases) (st : Store) (t : Ty) : tyR bs st .non t = .ok (.bl (isTy bs st .non t)) st := gd_pos rfl
/-! ### a def's end -/
def isRef : D → Bool
  | .ref _ => true
  | _ => false
@[simp] theorem isRef_N (n : Nat) : isRef (nD n) = false := Eq.trans rfl rfl
@[simp] theorem isRef_bl (n : Bool) : isRef (.bl n) = false := Eq.trans rfl rfl
@[simp] theorem isRef_tup (n : List D) : isRef (.tup n) = false := Eq.trans rfl rfl
@[simp] theorem isRef_lst (n : List D) : isRef (.lst n) = false := Eq.trans rfl rfl
@[simp] theorem isRef_str (n : List Nat) : isRef (.str n) = false := Eq.trans rfl rfl
@[simp] theorem isRef_non : isRef .non = false := Eq.trans rfl rfl
@[simp] theorem isRef_int (n : Int) : isRef (.int n) = false := Eq.trans rfl rfl
theorem fin_sameM {m : Nat} {st : Store} {d : D} (hm : m = st.length) (h : closed m d = true) : fin m st d st = .ok d st := by subst hm; exact fin_same h
theorem fin_moreM {m : Nat} {st ex : Store} {d : D} (hm : m = st.length) (h : closed m d = true) : fin m st d (st ++ ex) = .ok d st := by subst hm; exact fin_more h
theorem fin_lenM {m : Nat} {st st' : Store} {d : D} (hm : m = st.length) (hl : st'.length = st.length) (hd : closed m d = true) (hn : isRef d = false) : fin m st d st' = .ok d st' := by
  subst hm
  exact fin_len hl hd (fun k e => by rw [e] at hn; cases hn)
/-- the def's own cells go, changed cells stay -/
theorem fin_cut {m : Nat} {st st' : Store} {d : D} (hm : m = st.length) (hl : m ≤ st'.length) (hc : (st'.take m).all (Cell.closed m) = true) (hd : closed m d = true) (hn : isRef d = false) : fin m st d st' = .ok d (st'.take m) := by
  subst hm
  have e : st' = st'.take st.length ++ st'.drop st.length := (List.take_append_drop _ _).symm
  rw [e]
  rw [fin_put (by rw [List.length_take]; omega) hc hd (fun k e => by rw [e] at hn; cases hn)]
  rw [← e]
/-- .. and a list of its own is handed on -/
theorem fin_cutL {m k : Nat} {st st' : Store} {xs : List D} (hm : m = st.length) (hl : m ≤ st'.length) (hc : (st'.take m).all (Cell.closed m) = true) (hk : m ≤ k) (hx : st'[k]? = some (.lst xs)) (hd : closeds m xs = true) : fin m st (.ref k) st' = .ok (.lst xs) (st'.take m) := by
  subst hm
  have e : st' = st'.take st.length ++ st'.drop st.length := (List.take_append_drop _ _).symm
  rw [e] at hx ⊢
  rw [fin_putL (by rw [List.length_take]; omega) hc hk hx hd]
  rw [← e]
theorem fin_listM {m k : Nat} {st ex : Store} {xs : List D} (hm : m = st.length) (hk : m ≤ k) (hx : (st ++ ex)[k]? = some (.lst xs)) (hd : closeds m xs = true) : fin m st (.ref k) (st ++ ex) = .ok (.lst xs) st := by
  subst hm
  exact fin_list hk hx hd
/-! ### turns -/
@[simp] theorem wipe_nil (σ : Slots) : wipe σ [] = σ := Eq.trans rfl rfl
@[simp] theorem wipe_cons (σ : Slots) (v : Nat) (vs : List Nat) : wipe σ (v :: vs) = (wipe σ vs).set v none := Eq.trans rfl rfl
theorem endT_same {dr : List Nat} {st0 st : Store} {σ : Slots} (h : st.length ≤ st0.length) : endT dr st0 (.nx σ st) = .nx (wipe σ dr) st := by
  show RS.nx (scp st0 (wipe σ dr) st).1 (scp st0 (wipe σ dr) st).2 = _
  unfold scp
  rw [if_pos h]
theorem endT_cut {dr : List Nat} {st0 st : Store} {σ : Slots} (h : st0.length < st.length) (hc : st.take st0.length = st0 ∨ (st.take st0.length).all (Cell.closed st0.length) = true) :
    endT dr st0 (.nx σ st) = .nx ((wipe σ dr).map fun o => o.bind (slFrz st0.length st)) (st.take st0.length) := by
  show RS.nx (scp st0 (wipe σ dr) st).1 (scp st0 (wipe σ dr) st).2 = _
  unfold scp
  rw [if_neg (by omega), if_pos hc]
@[simp] theorem endT_rt (dr : List Nat) (st0 : Store) (d : D) (st : Store) : endT dr st0 (.rt d st) = .rt d st := Eq.trans rfl rfl
@[simp] theorem endT_err (dr : List Nat) (st0 : Store) : endT dr st0 .err = .err := Eq.trans rfl rfl
theorem endT_ct (dr : List Nat) (st0 : Store) (σ : Slots) (st : Store) : endT dr st0 (.ct σ st) = endT dr st0 (.nx σ st) := rfl
theorem slFrz_cl {n : Nat} {st : Store} {d : D} (h : closed n d = true) : slFrz n st d = some d := if_pos h
theorem stepG_eq {ge : GE} {cf : CF} {t : CT} {b : CSs} {dr : List Nat} {x : D} {σ σ' : Slots} {st st' : Store} (h : asgT ge cf t x σ st = .nx σ' st') : forStepG ge cf t b dr x σ st = endT dr st (exs ge cf b σ' st') := by
  unfold forStepG
  rw [forStep_eq h]
/-- a for as a fold -/
theorem forL_go {α β : Type} {step : D → Slots → Store → RS} (S : β → Slots) (M : β → Store) (g : α → D) (f : β → α → β) : ∀ (xs : List α) (b : β), (∀ x ∈ xs, ∀ b, step (g x) (S b) (M b) = .nx (S (f b x)) (M (f b x))) → forL step [] (xs.map g) (S b) (M b) = .nx (S (xs.foldl f b)) (M (xs.foldl f b))
  | [], b, _ => by rw [List.map_nil, forL, gw_nil]; rfl
  | x :: xs, b, h => by
    rw [List.map_cons, forL, gw_nil, h x List.mem_cons_self]
    exact forL_go S M g f xs (f b x) fun y hy => h y (List.mem_cons_of_mem _ hy)
/-- a for by what holds at each turn -/
theorem forL_inv {α β : Type} {step : D → Slots → Store → RS} (S : β → Slots) (M : β → Store) (g : α → D) (w : Watch) (ys : List α) (I : Nat → β → Prop) (hw : ∀ i b, I i b → okW w (M b))
    (hs : ∀ i x, ys[i]? = some x → ∀ b, I i b → ∃ b', I (i + 1) b' ∧ step (g x) (S b) (M b) = .nx (S b') (M b')) (b : β) (h0 : I 0 b) : ∃ b', I ys.length b' ∧ forL step w (ys.map g) (S b) (M b) = .nx (S b') (M b') := by
  have key : ∀ (xs : List α) (n : Nat) (b : β), ys.drop n = xs → n ≤ ys.length → I n b → ∃ b', I ys.length b' ∧ forL step w (xs.map g) (S b) (M b) = .nx (S b') (M b') := by
    intro xs
    induction xs with
    | nil =>
      intro n b e hn h
      have : ys.length ≤ n := List.drop_eq_nil_iff.mp e
      have : n = ys.length := by omega
      subst this
      exact ⟨b, h, by rw [List.map_nil, forL, gw, if_pos (hw _ b h)]⟩
    | cons x xs ih =>
      intro n b e hn h
      have hx : ys[n]? = some x := by
        have : (ys.drop n)[0]? = some x := by rw [e]; rfl
        rw [List.getElem?_drop] at this
        simpa using this
      have hl : n < ys.length := (List.getElem?_eq_some_iff.mp hx).1
      obtain ⟨b1, h1, e1⟩ := hs n x hx b h
      have e' : ys.drop (n + 1) = xs := by
        rw [← List.drop_drop, e]; rfl
      obtain ⟨b2, h2, e2⟩ := ih (n + 1) b1 e' (by omega) h1
      exact ⟨b2, h2, by rw [List.map_cons, forL, gw, if_pos (hw _ b h), e1]; exact e2⟩
  exact key ys 0 b rfl (Nat.zero_le _) h0
theorem okW_nil (st : Store) : okW [] st := fun p hp => by cases hp
/-- .. over a range -/
theorem forL_rng {β : Type} {step : D → Slots → Store → RS} (S : β → Slots) (M : β → Store) (n : Nat) (I : Nat → β → Prop)
    (hs : ∀ i, i < n → ∀ b, I i b → ∃ b', I (i + 1) b' ∧ step (nD i) (S b) (M b) = .nx (S b') (M b')) (b : β) (h0 : I 0 b) : ∃ b', I n b' ∧ forL step [] ((List.range n).map nD) (S b) (M b) = .nx (S b') (M b') := by
  have := forL_inv (step := step) S M nD [] (List.range n) I (fun _ _ _ => okW_nil _) (fun i x hx b hb => by
    have hi : i < n := by
      have := (List.getElem?_eq_some_iff.mp hx).1
      rwa [List.length_range] at this
    rw [List.getElem?_range hi] at hx
    cases hx
    exact hs i hi b hb) b h0
  rwa [List.length_range] at this
/-- a comprehension whose turns change the store -/
theorem lcL_inv {α β : Type} {step : D → Store → Res (Option D)} (M : β → Store) (g : α → D) (ys : List α) (I : Nat → β → List D → Prop)
    (hs : ∀ i x, ys[i]? = some x → ∀ b zs, I i b zs → ∃ b' z, I (i + 1) b' (zs ++ [z]) ∧ step (g x) (M b) = .ok (some z) (M b')) (b : β) (h0 : I 0 b []) : ∃ b' zs, I ys.length b' zs ∧ lcL step [] (ys.map g) (M b) = .ok zs (M b') := by
  have key : ∀ (xs : List α) (n : Nat) (b : β) (zs : List D), ys.drop n = xs → n ≤ ys.length → I n b zs → ∃ b' us, I ys.length b' (zs ++ us) ∧ lcL step [] (xs.map g) (M b) = .ok us (M b') := by
    intro xs
    induction xs with
    | nil =>
      intro n b zs e hn h
      have : ys.length ≤ n := List.drop_eq_nil_iff.mp e
      have : n = ys.length := by omega
      subst this
      exact ⟨b, [], by rw [List.append_nil]; exact h, by rw [List.map_nil, lcL, gw_nil]⟩
    | cons x xs ih =>
      intro n b zs e hn h
      have hx : ys[n]? = some x := by
        have : (ys.drop n)[0]? = some x := by rw [e]; rfl
        rw [List.getElem?_drop] at this
        simpa using this
      have hl : n < ys.length := (List.getElem?_eq_some_iff.mp hx).1
      obtain ⟨b1, z, h1, e1⟩ := hs n x hx b zs h
      have e' : ys.drop (n + 1) = xs := by
        rw [← List.drop_drop, e]; rfl
      obtain ⟨b2, us, h2, e2⟩ := ih (n + 1) b1 _ e' (by omega) h1
      refine ⟨b2, z :: us, by rw [List.append_assoc] at h2; exact h2, ?_⟩
      rw [List.map_cons, lcL, gw_nil, e1, nox_ok, Res.bind_ok, e2, Res.bind_ok]; rfl
  obtain ⟨b', us, h1, h2⟩ := key ys 0 b [] rfl (Nat.zero_le _) h0
  exact ⟨b', us, h1, h2⟩
/-- a while -/
theorem whRG_inv {ge : GE} {cf : CF} {c : CE} {b : CSs} {dr : List Nat} {β : Type} (S : β → Slots) (M : β → Store) (m : β → Nat) (I F : β → Prop)
    (hs : ∀ x, I x → (ev ge cf c (S x) (M x) = .ok (.bl false) (M x) ∧ F x) ∨ (ev ge cf c (S x) (M x) = .ok (.bl true) (M x) ∧ ∃ x', I x' ∧ m x' < m x ∧ endT dr (M x) (exs ge cf b (S x) (M x)) = .nx (S x') (M x'))) (x : β) (h0 : I x) :
    ∃ x', I x' ∧ F x' ∧ whRG ge cf c b dr (S x) (M x) = .nx (S x') (M x') := by
  have key : ∀ n x, I x → m x < n → ∃ x', I x' ∧ F x' ∧ whN (fun σ st => ev ge cf c σ st) (fun σ st => endT dr st (exs ge cf b σ st)) n (S x) (M x) = .nx (S x') (M x') := by
    intro n
    induction n with
    | zero => intro x _ h; omega
    | succ n ih =>
      intro x hx h
      rcases hs x hx with ⟨h1, h2⟩ | ⟨h1, x', i', h2, h3⟩
      · exact ⟨x, hx, h2, by rw [whN, h1]; rfl⟩
      · obtain ⟨x2, i2, f2, e2⟩ := ih x' i' (by omega)
        refine ⟨x2, i2, f2, ?_⟩
        rw [whN, h1]
        simp only [Res.toS_ok]
        rw [h3]
        exact e2
  obtain ⟨x', i', f', e⟩ := key (m x + 1) x h0 (by omega)
  exact ⟨x', i', f', by unfold whRG; rw [wh_eq (n := m x + 1) (by rw [e]; intro z; cases z), e]⟩
end PC
end
section
set_option Elab.async false
set_option linter.all false
set_option autoImplicit false
set_option maxRecDepth 100000
set_option maxHeartbeats 1000000
/-! One turn, by its target. -/
namespace PC
open PySem
section
variable {ge : GE} {cf : CF} {σ : Slots} {st : Store}
@[simp] theorem stepG_name (i : Nat) (b : CSs) (dr : List Nat) (x : D) : forStepG ge cf (.name i) b dr x σ st = endT dr st (exs ge cf b (σ.set i (some x)) st) := stepG_eq rfl
@[simp] theorem stepG_names2 (i j : Nat) (b : CSs) (dr : List Nat) (x y : D) : forStepG ge cf (.names [i, j]) b dr (.tup [x, y]) σ st = endT dr st (exs ge cf b ((σ.set i (some x)).set j (some y)) st) := stepG_eq rfl
@[simp] theorem stepG_names3 (i j k : Nat) (b : CSs) (dr : List Nat) (x y z : D) : forStepG ge cf (.names [i, j, k]) b dr (.tup [x, y, z]) σ st = endT dr st (exs ge cf b (((σ.set i (some x)).set j (some y)).set k (some z)) st) := stepG_eq rfl
@[simp] theorem stepG_nest2 (i j k : Nat) (b : CSs) (dr : List Nat) (x y z : D) : forStepG ge cf (.nest i [j, k]) b dr (.tup [x, .tup [y, z]]) σ st = endT dr st (exs ge cf b (((σ.set i (some x)).set j (some y)).set k (some z)) st) := stepG_eq rfl
@[simp] theorem lcStep1 (i : Nat) (c : CO) (e : CE) (x : D) : lcStep ge cf [i] true c e σ x st = (evc ge cf c (σ.set i (some x)) st).bind fun b st => onB .err (.bl b) ((ev ge cf e (σ.set i (some x)) st).bind fun y st => .ok (some y) st) (.ok none st) := by
  refine lcStep_eq ?_
  show some ((σ.set i none).set i (some x)) = _
  rw [List.set_set]
theorem lcStep2 {i j : Nat} (c : CO) (e : CE) (x y : D) (h : i ≠ j) : lcStep ge cf [i, j] false c e σ (.tup [x, y]) st = (evc ge cf c ((σ.set i (some x)).set j (some y)) st).bind fun b st => onB .err (.bl b) ((ev ge cf e ((σ.set i (some x)).set j (some y)) st).bind fun y st => .ok (some y) st) (.ok none st) := by
  refine lcStep_eq ?_
  show some ((((σ.set j none).set i none).set i (some x)).set j (some y)) = _
  rw [List.set_set, List.set_comm _ _ h, List.set_set, List.set_comm _ _ h.symm]
theorem lcStep3 {i j k : Nat} (c : CO) (e : CE) (x y z : D) (h1 : i ≠ j) (h2 : i ≠ k) (h3 : j ≠ k) : lcStep ge cf [i, j, k] false c e σ (.tup [x, y, z]) st = (evc ge cf c (((σ.set i (some x)).set j (some y)).set k (some z)) st).bind fun b st => onB .err (.bl b) ((ev ge cf e (((σ.set i (some x)).set j (some y)).set k (some z)) st).bind fun y st => .ok (some y) st) (.ok none st) := by
  refine lcStep_eq ?_
  show some ((((((σ.set k none).set j none).set i none).set i (some x)).set j (some y)).set k (some z)) = _
  congr 1
  rw [List.set_set, List.set_comm _ _ h1, List.set_set, List.set_comm _ _ h2, List.set_comm _ _ h3, List.set_set, List.set_comm _ _ h3.symm, List.set_comm _ _ h2.symm]
  rw [List.set_comm _ _ h1.symm]
end
/-- what a comprehension without a test tells -/
theorem lcL_mapN {α : Type} {step : D → Store → Res (Option D)} {g h : α → D} {st : Store} {xs : List α} (hs : ∀ x ∈ xs, step (g x) st = .ok (some (h x)) st) : lcL step [] (xs.map g) st = .ok (xs.map h) st := lcL_mapM hs
theorem lcL_filN {α : Type} {step : D → Store → Res (Option D)} {p : α → Bool} {g h : α → D} {st : Store} {xs : List α} (hs : ∀ x ∈ xs, step (g x) st = .ok (if p x = true then some (h x) else none) st) : lcL step [] (xs.map g) st = .ok ((xs.filter p).map h) st := lcL_filterM hs
theorem onB_opt (b : Bool) (d : D) (st : Store) : onB (Res.err : Res (Option D)) (.bl b) (.ok (some d) st) (.ok none st) = .ok (if b = true then some d else none) st := by cases b <;> rfl
theorem ifS {α : Type} {p : Prop} [Decidable p] {a : α} (h : p) : (if p then some a else none) = some a := if_pos h
end PC
end
section
set_option Elab.async false
set_option linter.all false
set_option autoImplicit false
set_option maxRecDepth 100000
set_option maxHeartbeats 1000000
/-! More words: texts, lists by a function, xor, tests of kinds. -/
namespace PC
open PySem
theorem or_split : ∀ n a b : Nat, a ≤ n → a ||| b = (a &&& b) + (a ^^^ b) := by
  intro n
  induction n with
  | zero =>
    intro a b h
    have : a = 0 := by omega
    subst this
    simp
  | succ n ih =>
    intro a b h
    by_cases h0 : a = 0
    · subst h0; simp
    · have e := ih (a / 2) (b / 2) (by omega)
      have bit : ∀ x : Nat, x % 2 = (x.testBit 0).toNat := fun x => by
        rw [Nat.testBit_zero]
        rcases Nat.mod_two_eq_zero_or_one x with h | h <;> rw [h] <;> rfl
      have d1 : (a ||| b) / 2 = a / 2 ||| b / 2 := Nat.or_div_two
      have d2 : (a &&& b) / 2 = a / 2 &&& b / 2 := Nat.and_div_two
      have d3 : (a ^^^ b) / 2 = a / 2 ^^^ b / 2 := Nat.xor_div_two
      have m1 := bit (a ||| b)
      have m2 := bit (a &&& b)
      have m3 := bit (a ^^^ b)
      rw [Nat.testBit_or] at m1
      rw [Nat.testBit_and] at m2
      rw [Nat.testBit_xor] at m3
      have mm : ((a.testBit 0 || b.testBit 0).toNat) = (a.testBit 0 && b.testBit 0).toNat + (a.testBit 0 ^^ b.testBit 0).toNat := by
        cases a.testBit 0 <;> cases b.testBit 0 <;> rfl
      omega
theorem bXor (a b : Nat) : PySem.Builtin.bitXor (a : Int) (b : Int) = ((a ^^^ b : Nat) : Int) := by
  unfold PySem.Builtin.bitXor
  simp only [bOr, bAnd]
  have := or_split a a b (Nat.le_refl _)
  omega
@[simp] theorem bin_xorM (a b : Nat) (st : Store) : binop .BitXor (nD a) (nD b) st = .ok (nD (a ^^^ b)) st := by
  show Res.ok (D.int (PySem.Builtin.bitXor (a : Int) (b : Int))) st = _
  rw [bXor]; rfl
theorem eqD_SS (a b : List Nat) (st : Store) : eqD st (.str a) (.str b) = .ok (decide (a = b)) st := by
  have : eqD st (.str a) (.str b) = .ok (a == b) st := gd_pos (.inl ⟨rfl, rfl⟩)
  rw [this, show (a == b) = decide (a = b) by rw [Bool.eq_iff_iff]; simp]
@[simp] theorem cmp_eqSS (a b : List Nat) (st : Store) : cmpB .Eq (.str a) (.str b) st = .ok (decide (a = b)) st := eqD_SS a b st
@[simp] theorem cmp_neSS (a b : List Nat) (st : Store) : cmpB .NotEq (.str a) (.str b) st = .ok (!decide (a = b)) st := by
  unfold cmpB
  simp only [eqD_SS, Res.bind_ok]
theorem rng_set {α : Type} (g : Nat → α) (n k : Nat) (v : α) : ((List.range n).map g).set k v = (List.range n).map fun i => if i = k then v else g i := by
  apply List.ext_getElem?
  intro i
  rw [List.getElem?_set, List.getElem?_map, List.getElem?_map, List.length_map, List.length_range]
  by_cases hi : i < n
  · rw [List.getElem?_range hi]
    by_cases e : k = i
    · subst e; simp [hi]
    · rw [if_neg e]; simp [Ne.symm e]
  · rw [List.getElem?_eq_none (by rw [List.length_range]; omega)]
    by_cases e : k = i
    · subst e; simp [hi]
    · rw [if_neg e]; rfl
theorem rng_at {α : Type} (g : Nat → α) {n k : Nat} (h : k < n) : ((List.range n).map g)[k]? = some (g k) := by
  rw [List.getElem?_map, List.getElem?_range h]; rfl
theorem reps_one (d : D) (n : Nat) : reps [d] (n : Int) = List.replicate n d := by
  unfold reps
  rw [Int.toNat_natCast]
  induction n with
  | zero => rfl
  | succ n ih => rw [List.replicate_succ, List.flatten_cons, ih]; rfl
theorem rep_rng (d : D) (n : Nat) : List.replicate n d = (List.range n).map fun _ => d := by
  rw [List.map_const', List.length_range]
@[simp] theorem idx_last (xs : List D) (st : Store) : idxD st (.lst xs) (.int (-1)) = globR xs.getLast? st := by
  rw [idx_lst]
  congr 1
  unfold L2.atI L2.ixN
  cases xs with
  | nil => rfl
  | cons x xs =>
    rw [List.getLast?_eq_getElem?, if_neg (by omega), if_pos (by simp only [List.length_cons]; omega)]
    show (x :: xs)[((-1 : Int) + ((xs.length + 1 : Nat) : Int)).toNat]? = (x :: xs)[xs.length + 1 - 1]?
    rw [show ((-1 : Int) + ((xs.length + 1 : Nat) : Int)).toNat = xs.length + 1 - 1 by omega]
@[simp] theorem atI_m1 (xs : List D) : L2.atI xs (-1) = xs.getLast? := by
  have h := idx_last xs []
  rw [idx_lst] at h
  cases h1 : L2.atI xs (-1) <;> cases h2 : xs.getLast? <;> rw [h1, h2] at h <;> simp [globR] at h ⊢
  exact h
@[simp] theorem idx_lastT (xs : List D) (st : Store) : idxD st (.tup xs) (.int (-1)) = globR xs.getLast? st := by
  rw [idx_tup, ← idx_lst, idx_last]
@[simp] theorem idx_lastC (st : Store) (k : Nat) : idxD st (.ref k) (.int (-1)) = cellR st[k]? .err fun xs => globR xs.getLast? st := by
  cases h : st[k]? with
  | none => simp [idxD, h, cellR]
  | some c =>
    cases c with
    | lst xs =>
      rw [idx_ref h]
      show _ = globR xs.getLast? st
      rw [← idx_last, idx_lst]
    | dict _ _ => simp [idxD, h, cellR]
    | ins _ _ => simp [idxD, h, cellR]
theorem rng_last {α : Type} (g : Nat → α) (n : Nat) (h : 0 < n) : ((List.range n).map g).getLast? = some (g (n - 1)) := by
  obtain ⟨m, rfl⟩ : ∃ m, n = m + 1 := ⟨n - 1, by omega⟩
  rw [List.range_succ, List.map_append]
  simp
@[simp] theorem ty_Ni (bs : Bases) (st : Store) (n : Nat) : isTy bs st (nD n) .int = true := Eq.trans rfl rfl
@[simp] theorem ty_Nb (bs : Bases) (st : Store) (n : Nat) : isTy bs st (nD n) .bool = false := Eq.trans rfl rfl
@[simp] theorem ty_Nt (bs : Bases) (st : Store) (n : Nat) : isTy bs st (nD n) .tuple = false := Eq.trans rfl rfl
@[simp] theorem ty_tt (bs : Bases) (st : Store) (n : List D) : isTy bs st (.tup n) .tuple = true := Eq.trans rfl rfl
theorem all_map {α : Type} (g : α → Bool) (xs : List α) (st : Store) : blt1 .all (.lst (xs.map fun x => .bl (g x))) st = .ok (.bl (xs.all g)) st := by
  rw [all_bools (toBools_map g xs), List.all_map]; rfl
def hasK (ks : List Int) (x : Nat) : Bool := ks.contains (x : Int)
@[simp] theorem in_kset (ks : List Int) (x : Nat) (st : Store) : cmpB .In (nD x) (.kset ks) st = .ok (hasK ks x) st := Eq.trans rfl rfl
@[simp] theorem nin_kset (ks : List Int) (x : Nat) (st : Store) : cmpB .NotIn (nD x) (.kset ks) st = .ok (!hasK ks x) st := Eq.trans rfl rfl
theorem keys_map (w : D) : ∀ xs : List Nat, toKeys (xs.map fun s => .tup [nD s, w]) = some (xs.map fun (s : Nat) => (s : Int))
  | [] => rfl
  | x :: xs => by
    show (toKeys (xs.map fun s => .tup [nD s, w])).map ((x : Int) :: ·) = _
    rw [keys_map w xs]; rfl
theorem dict_map (w : D) (xs : List Nat) (st : Store) : blt1 .dict (.lst (xs.map fun s => .tup [nD s, w])) st = .ok (.kset (xs.map fun (s : Nat) => (s : Int))) st := by
  show (match toKeys (xs.map fun s => .tup [nD s, w]) with | some ks => Res.ok (D.kset ks) st | none => .err) = _
  rw [keys_map]
theorem ints_has (xs : List Nat) (x : Nat) : (xs.map fun (s : Nat) => (s : Int)).contains (x : Int) = xs.contains x := by
  induction xs with
  | nil => rfl
  | cons y ys ih =>
    rw [List.map_cons, List.contains_cons, List.contains_cons, ih]
    congr 1
    rw [Bool.eq_iff_iff]; simp
    omega
theorem hasK_map (xs : List Nat) (x : Nat) : hasK (xs.map fun (s : Nat) => (s : Int)) x = xs.contains x := ints_has xs x
theorem pairs_map (p : Nat → Nat) : ∀ xs : List Nat, toPairs (xs.map fun s => .tup [nD (p s), nD s]) = some (xs.map fun s => ((p s : Int), (s : Int)))
  | [] => rfl
  | x :: xs => by
    show (toPairs (xs.map fun s => .tup [nD (p s), nD s])).map (((p x : Int), (x : Int)) :: ·) = _
    rw [pairs_map p xs]; rfl
end PC
end
section
set_option Elab.async false
set_option linter.all false
set_option autoImplicit false
set_option maxRecDepth 100000
set_option maxHeartbeats 1000000
/-! Words for dicts. -/
namespace PC
/-- a number as a key -/
def ky (n : Nat) : KY := .inl (n : Int)
theorem ky_inj {a b : Nat} (h : ky a = ky b) : a = b := by
  have : (a : Int) = (b : Int) := Sum.inl.inj h
  omega
theorem keysA_2 (a b : Nat) : keysA [nD a, nD b] = some [ky a, ky b] := Eq.trans rfl rfl
theorem keysA_3 (a b c : Nat) : keysA [nD a, nD b, nD c] = some [ky a, ky b, ky c] := Eq.trans rfl rfl
theorem key1_ky (a : Nat) : keyD1 (nD a) = some [ky a] := Eq.trans rfl rfl
@[simp] theorem valD_nil (k : List KY) : valD [] k = none := rfl
theorem valD_any (k : List KY) : ∀ kvs : List (List KY × D), (kvs.any fun p => decide (p.1 = k)) = (valD kvs k).isSome
  | [] => rfl
  | p :: r => by
    rw [List.any_cons, valD_cons, valD_any k r]
    by_cases h : p.1 = k
    · rw [decide_eq_true h, if_pos h]; rfl
    · rw [decide_eq_false h, if_neg h]; rfl
theorem valD_map (k j : List KY) (v : D) : ∀ kvs : List (List KY × D), valD (kvs.map fun p => if p.1 = k then (p.1, v) else p) j = if j = k then (valD kvs k).map fun _ => v else valD kvs j
  | [] => by simp
  | p :: r => by
    rw [List.map_cons, valD_cons, valD_cons, valD_cons, valD_map k j v r]
    by_cases h : p.1 = k
    · rw [if_pos h, if_pos h]
      by_cases e : j = k
      · subst e; rw [if_pos h, if_pos rfl]; rfl
      · rw [if_neg e, if_neg e, if_neg (fun z => e (z.symm.trans h)), if_neg (fun z => e (z.symm.trans h))]
    · rw [if_neg h, if_neg h]
      by_cases e : j = k
      · rw [if_pos e, if_neg (fun z => h (z.trans e))]
        rw [if_pos e]
      · rw [if_neg e, if_neg e]
theorem valD_snoc (k j : List KY) (v : D) : ∀ kvs : List (List KY × D), valD kvs k = none → valD (kvs ++ [(k, v)]) j = if j = k then some v else valD kvs j
  | [], _ => by
    rw [List.nil_append, valD_cons]
    by_cases e : j = k
    · rw [if_pos e, if_pos e.symm]
    · rw [if_neg e, if_neg (fun z => e z.symm)]
  | p :: r, h => by
    rw [valD_cons] at h
    by_cases hp : p.1 = k
    · rw [if_pos hp] at h; cases h
    · rw [if_neg hp] at h
      rw [List.cons_append, valD_cons, valD_snoc k j v r h, valD_cons]
      by_cases e : j = k
      · rw [if_pos e, if_pos e, if_neg (fun z => hp (z.trans e))]
      · rw [if_neg e, if_neg e]
theorem valD_put (kvs : List (List KY × D)) (k j : List KY) (v : D) : valD (putD kvs k v) j = if j = k then some v else valD kvs j := by
  unfold putD
  rw [valD_any]
  cases h : valD kvs k with
  | none => rw [if_neg (by simp)]; exact valD_snoc k j v kvs h
  | some d =>
    rw [if_pos (show (some d).isSome = true from rfl), valD_map, h]; rfl
theorem putD_len (kvs : List (List KY × D)) (k : List KY) (v : D) : (putD kvs k v).length ≤ kvs.length + 1 := by
  unfold putD
  split
  · rw [List.length_map]; omega
  · rw [List.length_append]; exact Nat.le_refl _
end PC
end
section
set_option Elab.async false
set_option linter.all false
set_option maxRecDepth 100000
set_option maxHeartbeats 1000000
/-! More words for pure proofs: slices, sums of sequences, texts. -/
namespace PC
open PySem
theorem cutT {α : Type} (xs : List α) (n : Nat) : cut xs none (some (n : Int)) = xs.take n := by
  unfold cut
  rw [HT.sIx_nat, HT.sIx_none, List.drop_zero, Nat.sub_zero]
  rcases Nat.le_total n xs.length with h | h
  · rw [Nat.min_eq_left h]
  · rw [Nat.min_eq_right h, List.take_length, List.take_of_length_le h]
theorem cutD {α : Type} (xs : List α) (n : Nat) : cut xs (some (n : Int)) none = xs.drop n := by
  unfold cut
  rw [HT.sIx_nat, HT.sIx_none]
  rcases Nat.le_total n xs.length with h | h
  · rw [Nat.min_eq_left h]
    exact List.take_of_length_le (by rw [List.length_drop]; omega)
  · rw [Nat.min_eq_right h, List.drop_length, List.drop_of_length_le h, List.take_nil]
theorem cutM {α : Type} (xs : List α) (a b : Nat) : cut xs (some (a : Int)) (some (b : Int)) = (xs.take b).drop a := by
  unfold cut
  rw [HT.sIx_nat, HT.sIx_nat, List.drop_take]
  rcases Nat.le_total a xs.length with h | h
  · rw [Nat.min_eq_left h]
    rcases Nat.le_total b xs.length with h2 | h2
    · rw [Nat.min_eq_left h2]
    · rw [Nat.min_eq_right h2, List.take_of_length_le (by rw [List.length_drop]; omega), List.take_of_length_le (by rw [List.length_drop]; omega)]
  · rw [Nat.min_eq_right h, List.drop_length, List.drop_of_length_le h, List.take_nil, List.take_nil]
theorem cutD1 {α : Type} (xs : List α) (n : Nat) : cut xs (some ((n : Int) + 1)) none = xs.drop (n + 1) := cutD xs (n + 1)
theorem cutM1 {α : Type} (xs : List α) (a b : Nat) : cut xs (some ((a : Int) + 1)) (some (b : Int)) = (xs.take b).drop (a + 1) := cutM xs (a + 1) b
theorem cutT1 {α : Type} (xs : List α) (n : Nat) : cut xs none (some ((n : Int) + 1)) = xs.take (n + 1) := cutT xs (n + 1)
theorem addD_T (st : Store) (a b : List D) : addD st (.tup a) (.tup b) = gd (a.length + b.length ≤ lineN) (.ok (.tup (a ++ b)) st) := Eq.trans rfl rfl
theorem addD_L (st : Store) (a b : List D) : addD st (.lst a) (.lst b) = gd (a.length + b.length ≤ lineN) (.ok (.lst (a ++ b)) st) := Eq.trans rfl rfl
theorem addD_S (st : Store) (a b : List Nat) : addD st (.str a) (.str b) = gd (a.length + b.length ≤ lineN) (.ok (.str (a ++ b)) st) := Eq.trans rfl rfl
theorem sl_str (s : List Nat) (lo hi : Option Int) (st : Store) : sliceD st (.str s) lo hi = gd (s.length ≤ lineN) (.ok (.str (cut s lo hi)) st) := Eq.trans rfl rfl
@[simp] theorem mOkS_join (s : List Nat) (st : Store) : mOk .join (.str s) st = true := Eq.trans rfl rfl
@[simp] theorem mOkS_split (s : List Nat) (st : Store) : mOk .split (.str s) st = true := Eq.trans rfl rfl
@[simp] theorem mOkS_part (s : List Nat) (st : Store) : mOk .partition (.str s) st = true := Eq.trans rfl rfl
@[simp] theorem mOkS_index (s : List Nat) (st : Store) : mOk .indexS (.str s) st = true := Eq.trans rfl rfl
@[simp] theorem mOkS_count (s : List Nat) (st : Store) : mOk .countS (.str s) st = true := Eq.trans rfl rfl
def strR (o : Option Nat) (st : Store) : Res D := match o with
  | some c => .ok (.str [c]) st
  | none => .err
@[simp] theorem strR_some (c : Nat) (st : Store) : strR (some c) st = .ok (.str [c]) st := Eq.trans rfl rfl
theorem idx_strN {s : List Nat} {i : Nat} {st : Store} (h : s.length ≤ lineN) : idxD st (.str s) (nD i) = strR s[i]? st := by
  show gd (s.length ≤ lineN ∧ 0 ≤ (i : Int)) (match s[(i : Int).toNat]? with | some c => Res.ok (D.str [c]) st | none => .err) = _
  rw [gd_pos ⟨h, by omega⟩, Int.toNat_natCast]; rfl
theorem catR_ll (st : Store) (a b : List D) : catR st (.lst a) (.lst b) = gd (a.length + b.length ≤ lineN) (.ok (a ++ b) st) := Eq.trans rfl rfl
theorem catR_rl {st : Store} {k : Nat} {a b : List D} (h : st[k]? = some (.lst a)) : catR st (.ref k) (.lst b) = gd (a.length + b.length ≤ lineN) (.ok (a ++ b) st) := by
  unfold catR
  rw [derefB_refC, h]; rfl
theorem join1 : ∀ xs : List Nat, TL.joinL [] (xs.map fun c => [c]) = xs
  | [] => rfl
  | [c] => rfl
  | c :: d :: r => by
    show [c] ++ ([] ++ TL.joinL [] ((d :: r).map fun c => [c])) = _
    rw [join1 (d :: r)]; rfl
theorem strs_map {α : Type} (g : α → List Nat) : ∀ xs : List α, toStrs (xs.map fun x => D.str (g x)) = some (xs.map g)
  | [] => rfl
  | x :: xs => by
    show (toStrs (xs.map fun x => D.str (g x))).map (g x :: ·) = _
    rw [strs_map g xs]; rfl
theorem sum_ones {α : Type} (xs : List α) (g : α → Nat) : ((xs.map fun x => [g x]).map (fun s : List Nat => s.length)).sum = xs.length := by
  induction xs with
  | nil => rfl
  | cons x xs ih => rw [List.map_cons, List.map_cons, List.sum_cons, ih, List.length_cons]; exact Nat.add_comm _ _
theorem join_chars (xs : List Nat) (st : Store) (h : xs.length ≤ lineN) : mth .join (.str []) [.lst (xs.map fun c => D.str [c])] st = .ok (.str xs) st := by
  show (match toStrs (xs.map fun c => D.str [c]) with
    | some ss => gd ((ss.map (fun s : List Nat => s.length)).sum + ss.length * ([] : List Nat).length ≤ lineN) (Res.ok (D.str (TL.joinL [] ss)) st)
    | none => .err) = _
  rw [strs_map (fun c => [c]) xs]
  show gd (((xs.map fun c => [c]).map (fun s : List Nat => s.length)).sum + (xs.map fun c => [c]).length * 0 ≤ lineN) (Res.ok (D.str (TL.joinL [] (xs.map fun c => [c]))) st) = _
  rw [gd_pos (by rw [sum_ones xs fun c => c, Nat.mul_zero]; exact h), join1]
/-- a text among texts -/
theorem shp_strs {xs : List (List Nat)} (h : ∀ x ∈ xs, asc x) : shp (.lst (xs.map D.str)) = true := shN.shp (n := 2) (shN_lst fun d hd => by
  obtain ⟨x, hx, rfl⟩ := List.mem_map.mp hd
  exact shN_str (h x hx))
theorem in_strs {xs : List (List Nat)} {x : List Nat} {st : Store} (h : ∀ x ∈ xs, asc x) (hx : asc x) : cmpB .In (.str x) (.lst (xs.map D.str)) st = .ok (xs.contains x) st := by
  show gd (shp (.str x) = true ∧ shp (.lst (xs.map D.str)) = true) (Res.ok ((xs.map D.str).any fun z => pyEq z (.str x)) st) = _
  rw [gd_pos ⟨shN.shp (n := 1) (shN_str hx), shp_strs h⟩, List.any_map]
  congr 1
  rw [Bool.eq_iff_iff, List.any_eq_true, List.contains_iff_mem]
  constructor
  · rintro ⟨y, hy, e⟩
    have e : (y == x) = true := e
    rw [← beq_iff_eq.mp e]; exact hy
  · intro hm
    exact ⟨x, hm, by show (x == x) = true; exact beq_self_eq_true _⟩
theorem nin_strs {xs : List (List Nat)} {x : List Nat} {st : Store} (h : ∀ x ∈ xs, asc x) (hx : asc x) : cmpB .NotIn (.str x) (.lst (xs.map D.str)) st = .ok (!xs.contains x) st := by
  show (cmpB .In (.str x) (.lst (xs.map D.str)) st).bind (fun b st => .ok (!b) st) = _
  rw [in_strs h hx]; rfl
/-- a drawn one of some -/
theorem pick {α : Type} {L : List α} {n : Nat} (h : n < L.length) {Q : α → Prop} (hQ : ∀ x ∈ L, Q x) : ∃ M, L[n]? = some M ∧ Q M := ⟨_, List.getElem?_eq_getElem h, hQ _ (List.getElem_mem h)⟩
theorem cut_mem {α : Type} {xs : List α} {lo hi : Option Int} {x : α} (h : x ∈ cut xs lo hi) : x ∈ xs := List.mem_of_mem_drop (List.mem_of_mem_take h)
theorem enum_get {α : Type} {f : α → D} {ys : List α} {i : Nat} {d : D} (h : (enumD 0 (ys.map f))[i]? = some d) : ∃ x, ys[i]? = some x ∧ d = .tup [nD i, f x] := by
  rw [enum_at, List.getElem?_map] at h
  cases e : ys[i]? with
  | none => rw [e] at h; cases h
  | some x =>
    rw [e] at h
    have h : D.tup [.int ((0 + i : Nat) : Int), f x] = d := by simpa using h
    rw [Nat.zero_add] at h
    exact ⟨x, rfl, h.symm⟩
/-- a for over enumerate -/
theorem forL_enum {α β : Type} {step : D → Slots → Store → RS} (S : β → Slots) (M : β → Store) (f : α → D) (w : Watch) (ys : List α) (I : Nat → β → Prop) (hw : ∀ i b, I i b → okW w (M b))
    (hs : ∀ i x, ys[i]? = some x → ∀ b, I i b → ∃ b', I (i + 1) b' ∧ step (.tup [nD i, f x]) (S b) (M b) = .nx (S b') (M b')) (b : β) (h0 : I 0 b) : ∃ b', I ys.length b' ∧ forL step w (enumD 0 (ys.map f)) (S b) (M b) = .nx (S b') (M b') := by
  have := forL_inv S M id w (enumD 0 (ys.map f)) I hw (fun i d hd b hb => by
    obtain ⟨x, hx, rfl⟩ := enum_get hd
    exact hs i x hx b hb) b h0
  rw [enum_len, List.length_map, List.map_id] at this
  exact this
theorem lcL_enum {α : Type} {step : D → Store → Res (Option D)} {f h : α → D} {g : Nat → α → D} {st : Store} {ys : List α} (hs : ∀ i x, ys[i]? = some x → step (.tup [nD i, f x]) st = .ok (some (g i x)) st) : lcL step [] (enumD 0 (ys.map f)) st = .ok (ys.zipIdx.map fun p => g p.2 p.1) st := by
  have key : ∀ (xs : List α) (n : Nat), ys.drop n = xs → lcL step [] (enumD n (xs.map f)) st = .ok ((xs.zipIdx n).map fun p => g p.2 p.1) st := by
    intro xs
    induction xs with
    | nil => intro n _; exact gw_nil _ _ _
    | cons x xs ih =>
      intro n e
      have hx : ys[n]? = some x := by
        have : (ys.drop n)[0]? = some x := by rw [e]; rfl
        rwa [List.getElem?_drop, Nat.add_zero] at this
      have e2 : ys.drop (n + 1) = xs := by
        have := congrArg (List.drop 1) e
        rwa [List.drop_drop] at this
      rw [List.map_cons, enumD, lcL, gw_nil]
      have h1 := hs n x hx
      have h1 : step (.tup [.int (n : Int), f x]) st = .ok (some (g n x)) st := h1
      rw [h1, nox_ok, Res.bind_ok, ih (n + 1) e2, Res.bind_ok, List.zipIdx_cons, List.map_cons]
      rfl
  exact key ys 0 rfl
theorem gw_ok {α : Type} {w : Watch} {st : Store} {r e : α} (h : okW w st) : gw w st r e = r := if_pos h
theorem lcL_mapW {α : Type} {step : D → Store → Res (Option D)} {g h : α → D} {st : Store} {w : Watch} (ok : okW w st) : ∀ {xs : List α}, (∀ x ∈ xs, step (g x) st = .ok (some (h x)) st) → lcL step w (xs.map g) st = .ok (xs.map h) st
  | [], _ => gw_ok ok
  | x :: xs, hs => by
    rw [List.map_cons, lcL, gw_ok ok, hs x List.mem_cons_self, nox_ok, Res.bind_ok, lcL_mapW ok fun y hy => hs y (List.mem_cons_of_mem _ hy)]
    rfl
theorem lcL_filW {α : Type} {step : D → Store → Res (Option D)} {p : α → Bool} {g h : α → D} {st : Store} {w : Watch} (ok : okW w st) : ∀ {xs : List α}, (∀ x ∈ xs, step (g x) st = .ok (if p x = true then some (h x) else none) st) → lcL step w (xs.map g) st = .ok ((xs.filter p).map h) st
  | [], _ => gw_ok ok
  | x :: xs, hs => by
    rw [List.map_cons, lcL, gw_ok ok, hs x List.mem_cons_self, nox_ok, Res.bind_ok, lcL_filW ok fun y hy => hs y (List.mem_cons_of_mem _ hy)]
    cases hp : p x <;> simp [hp]
@[simp] theorem stepG_names4 {ge : GE} {cf : CF} {σ : Slots} {st : Store} (i j k l : Nat) (b : CSs) (dr : List Nat) (x y z u : D) : forStepG ge cf (.names [i, j, k, l]) b dr (.tup [x, y, z, u]) σ st = endT dr st (exs ge cf b ((((σ.set i (some x)).set j (some y)).set k (some z)).set l (some u)) st) := stepG_eq rfl
theorem int_bl (b : Bool) (st : Store) : blt1 .int (.bl b) st = .ok (nD (if b = true then 1 else 0)) st := by cases b <;> rfl
/-- a for that an exception ends -/
theorem forL_exc {α β : Type} {step : D → Slots → Store → RS} (S : β → Slots) (M : β → Store) (g : α → D) (w : Watch) (ys : List α) (I : Nat → β → Prop) (n : Nat) (J : D → Slots → Store → Prop) (hw : ∀ i b, I i b → okW w (M b))
    (hs : ∀ i x, ys[i]? = some x → i < n → ∀ b, I i b → ∃ b', I (i + 1) b' ∧ step (g x) (S b) (M b) = .nx (S b') (M b'))
    (hn : ∀ x, ys[n]? = some x → ∀ b, I n b → ∃ d σ st, step (g x) (S b) (M b) = .exc d σ st ∧ J d σ st) (hlt : n < ys.length) (b : β) (h0 : I 0 b) : ∃ d σ st, forL step w (ys.map g) (S b) (M b) = .exc d σ st ∧ J d σ st := by
  have key : ∀ (xs : List α) (m : Nat) (b : β), ys.drop m = xs → m ≤ n → I m b → ∃ d σ st, forL step w (xs.map g) (S b) (M b) = .exc d σ st ∧ J d σ st := by
    intro xs
    induction xs with
    | nil =>
      intro m b e hm h
      have : ys.length ≤ m := List.drop_eq_nil_iff.mp e
      omega
    | cons x xs ih =>
      intro m b e hm h
      have hx : ys[m]? = some x := by
        have : (ys.drop m)[0]? = some x := by rw [e]; rfl
        rwa [List.getElem?_drop, Nat.add_zero] at this
      have e2 : ys.drop (m + 1) = xs := by
        have := congrArg (List.drop 1) e
        rwa [List.drop_drop] at this
      rw [List.map_cons, forL, gw_ok (hw m b h)]
      by_cases hmn : m = n
      · subst hmn
        obtain ⟨d, σ, st, e3, j⟩ := hn x hx b h
        exact ⟨d, σ, st, by rw [e3], j⟩
      · obtain ⟨b', h', e3⟩ := hs m x hx (by omega) b h
        rw [e3]
        exact ih (m + 1) b' e2 (by omega) h'
  exact key ys 0 b rfl (Nat.zero_le _) h0
theorem zip_rng {α β : Type} (d : α) (g : Nat → α → β) (xs : List α) : (xs.zipIdx.map fun p => g p.2 p.1) = (List.range xs.length).map fun i => g i (xs.getD i d) := by
  apply List.ext_getElem?
  intro i
  rw [List.getElem?_map, List.getElem?_map, List.getElem?_zipIdx]
  by_cases h : i < xs.length
  · rw [List.getElem?_range h, List.getElem?_eq_getElem h]; simp [h]
  · rw [List.getElem?_eq_none (by omega), List.getElem?_eq_none (by rw [List.length_range]; omega)]; rfl
theorem count_lst {xs : List D} {d : D} {st : Store} (h1 : shp (.lst xs) = true) (h2 : shp d = true) : mth .countL (.lst xs) [d] st = .ok (nD (xs.countP fun z => pyEq z d)) st := gd_pos ⟨h1, h2⟩
theorem count_ref {xs : List D} {d : D} {st : Store} {k : Nat} (h : st[k]? = some (.lst xs)) (h1 : shp (.lst xs) = true) (h2 : shp d = true) : mth .countL (.ref k) [d] st = .ok (nD (xs.countP fun z => pyEq z d)) st := by
  show (match deref st (.ref k) with | .lst xs => gd (shp (.lst xs) = true ∧ shp d = true) (Res.ok (D.int (xs.countP fun z => pyEq z d : Nat)) st) | _ => .err) = _
  rw [deref_refC, h]
  exact gd_pos ⟨h1, h2⟩
theorem index_ref {xs : List D} {d : D} {st : Store} {k j : Nat} (h : st[k]? = some (.lst xs)) (h1 : shp (.lst xs) = true) (h2 : shp d = true) (hj : xs.findIdx? (fun z => pyEq z d) = some j) : mth .indexL (.ref k) [d] st = .ok (nD j) st := by
  show (match deref st (.ref k) with | .lst xs => gd (shp (.lst xs) = true ∧ shp d = true) (match xs.findIdx? (fun z => pyEq z d) with | some j => Res.ok (D.int (j : Nat)) st | none => .err) | _ => .err) = _
  rw [deref_refC, h]
  show gd _ _ = _
  rw [gd_pos ⟨h1, h2⟩, hj]; rfl
theorem shp_bls {xs : List Bool} : shp (.lst (xs.map D.bl)) = true := shN.shp (n := 2) (shN_lst fun d hd => by
  obtain ⟨x, _, rfl⟩ := List.mem_map.mp hd
  exact shN_bl _)
theorem sum_N : ∀ (xs : List Nat) (st : Store), blt1 .sum (.lst (xs.map nD)) st = .ok (nD xs.sum) st := by
  intro xs st
  have h1 : ∀ xs : List Nat, toInts (xs.map nD) = some (xs.map fun (n : Nat) => (n : Int)) := by
    intro xs
    induction xs with
    | nil => rfl
    | cons x xs ih =>
      show (toInts (xs.map nD)).map ((x : Int) :: ·) = _
      rw [ih]; rfl
  have h2 : ∀ xs : List Nat, (xs.map fun (n : Nat) => (n : Int)).sum = ((xs.sum : Nat) : Int) := by
    intro xs
    induction xs with
    | nil => rfl
    | cons x xs ih => rw [List.map_cons, List.sum_cons, List.sum_cons, ih]; omega
  show (match toInts (xs.map nD) with | some is => Res.ok (D.int is.sum) st | none => .err) = _
  rw [h1]
  simp only [h2]
  rfl
@[simp] theorem endT_exc (dr : List Nat) (st0 : Store) (d : D) (σ : Slots) (st : Store) : endT dr st0 (.exc d σ st) = .exc d σ st := Eq.trans rfl rfl
/-! things of any kind -/
def isIb : D → Bool
  | .int _ => true
  | .bl _ => true
  | _ => false
def isBb : D → Bool
  | .bl _ => true
  | _ => false
def isWh : D → Bool
  | .int _ => true
  | _ => false
def isTb : D → Bool
  | .tup _ => true
  | _ => false
def isSb : D → Bool
  | .str _ => true
  | _ => false
theorem ty_int (bs : Bases) (st : Store) (x : D) : isTy bs st x .int = isIb x := by
  cases x <;> first | rfl | skip
  simp only [isTy, isIb]
  split <;> first | rfl | contradiction
theorem ty_bool (bs : Bases) (st : Store) (x : D) : isTy bs st x .bool = isBb x := by
  cases x <;> first | rfl | skip
  simp only [isTy, isBb]
  split <;> first | rfl | contradiction
theorem ty_tup (bs : Bases) (st : Store) (x : D) : isTy bs st x .tuple = isTb x := by
  cases x <;> first | rfl | skip
  simp only [isTy, isTb]
  split <;> first | rfl | contradiction
theorem ty_str (bs : Bases) (st : Store) (x : D) : isTy bs st x .str = isSb x := by
  cases x <;> first | rfl | skip
  simp only [isTy, isSb]
  split <;> first | rfl | contradiction
theorem tyA {bs : Bases} {st : Store} {x : D} {t : Ty} (h : notIns st x = true) : tyR bs st x t = .ok (.bl (isTy bs st x t)) st := gd_pos h
def amg (x : D) (a b : Int) : Bool := match x with
  | .int i => decide (a ≤ i) && decide (i ≤ b)
  | _ => false
end PC
end
section
set_option Elab.async false
set_option linter.all false
set_option maxRecDepth 100000
set_option maxHeartbeats 1000000
/-! Data that repr takes. -/
namespace PC
open PySem
theorem shw_nat {n m : Nat} (h : m < 2 ^ 1800) : shw (n + 1) (nD m) = true := by
  show decide (Sh (m : Int)) = true
  rw [decide_eq_true_eq]
  unfold Sh
  rw [Int.natAbs_natCast]
  exact Nat.lt_of_lt_of_le h (Nat.pow_le_pow_right (by decide) (by decide))
theorem lt1800 {m : Nat} (h : m < 9223372036854775808) : m < 2 ^ 1800 := Nat.lt_of_lt_of_le (show m < 2 ^ 63 by omega) (Nat.pow_le_pow_right (by decide) (by decide))
theorem rlens_le (b : Nat) : ∀ xs : List D, (∀ x ∈ xs, rlen x ≤ b) → rlens xs ≤ xs.length * (b + 2)
  | [], _ => by simp [rlens]
  | x :: xs, h => by
    have h1 := h x List.mem_cons_self
    have h2 := rlens_le b xs fun y hy => h y (List.mem_cons_of_mem _ hy)
    rw [rlens, List.length_cons, Nat.succ_mul]
    omega
/-- so deep, so long a text -/
structure SR (n b : Nat) (d : D) : Prop where
  s : shw n d = true
  r : rlen d ≤ b
theorem SR.mono {n b c : Nat} {d : D} (h : SR n b d) (hc : b ≤ c) : SR n c d := ⟨h.s, Nat.le_trans h.r hc⟩
theorem SR_nat {n m : Nat} (h : m < 2 ^ 1800) : SR (n + 1) 1921 (nD m) := ⟨shw_nat h, by
  show (if (0 : Int) ≤ (m : Int) ∧ (m : Int) < 1000 then 3 else 1921) ≤ 1921
  split <;> omega⟩
theorem SR_s {n m : Nat} (h : m < 1000) : SR (n + 1) 3 (nD m) := ⟨shw_nat (lt1800 (by omega)), by
  show (if (0 : Int) ≤ (m : Int) ∧ (m : Int) < 1000 then 3 else 1921) ≤ 3
  rw [if_pos ⟨by omega, by omega⟩]
  exact Nat.le_refl _⟩
theorem SR_n {n m : Nat} (h : m < 9223372036854775808) : SR (n + 1) 1921 (nD m) := SR_nat (lt1800 h)
theorem SR_bl {n : Nat} (b : Bool) : SR (n + 1) 5 (.bl b) := ⟨rfl, Nat.le_refl _⟩
theorem SR_non {n : Nat} : SR (n + 1) 4 .non := ⟨rfl, Nat.le_refl _⟩
theorem SR_str {n : Nat} {s : List Nat} (h : asc s) : SR (n + 1) (10 * s.length + 2) (.str s) := by
  refine ⟨?_, Nat.le_refl _⟩
  show (s.all fun c => decide (c < 1114112)) = true
  unfold asc at h
  rw [List.all_eq_true] at h ⊢
  intro x hx
  have := of_decide_eq_true (h x hx)
  exact decide_eq_true (by omega)
theorem SR_tup {n b m : Nat} {xs : List D} (h : ∀ x ∈ xs, SR n b x) (hm : xs.length ≤ m) : SR (n + 1) (m * (b + 2) + 3) (.tup xs) := by
  refine ⟨?_, ?_⟩
  · show xs.all (shw n) = true
    rw [List.all_eq_true]
    exact fun x hx => (h x hx).s
  · show rlens xs + 3 ≤ _
    have h1 := rlens_le b xs fun x hx => (h x hx).r
    have h2 : xs.length * (b + 2) ≤ m * (b + 2) := Nat.mul_le_mul_right _ hm
    omega
theorem SR_lst {n b m : Nat} {xs : List D} (h : ∀ x ∈ xs, SR n b x) (hm : xs.length ≤ m) : SR (n + 1) (m * (b + 2) + 3) (.lst xs) := by
  refine ⟨?_, ?_⟩
  · show xs.all (shw n) = true
    rw [List.all_eq_true]
    exact fun x hx => (h x hx).s
  · show rlens xs + 3 ≤ _
    have h1 := rlens_le b xs fun x hx => (h x hx).r
    have h2 : xs.length * (b + 2) ≤ m * (b + 2) := Nat.mul_le_mul_right _ hm
    omega
theorem deref_shw {n : Nat} {d : D} (h : shw n d = true) (st : Store) : deref st d = d := by
  cases n with
  | zero => cases h
  | succ n => cases d <;> first | rfl | cases h
theorem repr_sr {d : D} {b : Nat} (h : SR 60 b d) (hb : b ≤ lineN) (st : Store) : blt1 .repr d st = .ok (.str (reprD d)) st := by
  have e := deref_shw h.s st
  have e0 : isE0 st d = false := by
    have hs := h.s
    cases d <;> first | rfl | cases hs
  show (if isE0 st d = true then Res.ok (D.str [123, 125]) st else gd (shw 60 (deref st d) = true ∧ rlen (deref st d) ≤ lineN) (Res.ok (D.str (reprD (deref st d))) st)) = _
  rw [e0, if_neg Bool.false_ne_true, e]
  exact gd_pos ⟨h.s, Nat.le_trans h.r hb⟩
theorem repr_tup {xs : List D} {b : Nat} (h : SR 60 b (.tup xs)) (hb : b ≤ lineN) (st : Store) : blt1 .repr (.tup xs) st = .ok (.str (reprD (.tup xs))) st := repr_sr h hb st
theorem repr_e0 {st : Store} {k : Nat} (h : st[k]? = some (.dict false [])) : blt1 .repr (.ref k) st = .ok (.str [123, 125]) st := by
  have e0 : isE0 st (.ref k) = true := by
    show (match st[k]? with
      | some (.dict false []) => true
      | _ => false) = true
    rw [h]
  exact if_pos e0
end PC
end
section
set_option Elab.async false
set_option linter.all false
set_option maxRecDepth 100000
set_option maxHeartbeats 1000000
namespace PC
open PySem PyProof.Rows
@[simp] theorem fnR_N0 (f : String) (fs : List String) (k : String → Res D) : fnR (nD 0) (f :: fs) k = k f := fnR_nat (n := 0) rfl
@[simp] theorem fnR_N1 (f g : String) (fs : List String) (k : String → Res D) : fnR (nD 1) (f :: g :: fs) k = k g := fnR_nat (n := 1) rfl
@[simp] theorem fnR_N2 (f g h : String) (fs : List String) (k : String → Res D) : fnR (nD 2) (f :: g :: h :: fs) k = k h := fnR_nat (n := 2) rfl
/-! ### the signs of a text of data -/
def ac (d : PyData) : Prop := ∀ k, 128 ≤ k → k ∉ d.shown.cps.toList
theorem ac_int (i : Int) : ac (.int i) := fun k hk => shown_int_free' ⟨by omega, by omega⟩ i
theorem ac_none : ac .none := fun k hk => by
  rw [PyData.shown_none]
  have e : (("None" : String) : Str).cps.toList = [78, 111, 110, 101] := by decide
  rw [e]; intro hm; simp only [List.mem_cons, List.not_mem_nil, or_false] at hm
  rcases hm with h | h | h | h <;> omega
theorem ac_tuple {xs : List PyData} (h : ∀ x ∈ xs, ac x) : ac (.tuple xs) := fun k hk => by
  have hf := shownAll_free (k := k) (xs := xs) fun x hx => h x hx k hk
  rw [PyData.shown_tuple, mem_cps_append, mem_cps_append, signs_lparen, mem_join, signs_tuple_end]
  rintro ((hm | (⟨t, ht, hc⟩ | ⟨hl, hm⟩)) | hm)
  · rw [List.mem_singleton] at hm; omega
  · exact hf t ht hc
  · rw [signs_sep] at hm
    simp only [List.mem_cons, List.not_mem_nil, or_false] at hm
    omega
  · split at hm <;> simp only [List.mem_cons, List.not_mem_nil, or_false] at hm <;> omega
theorem ac_D {d : D} (h : ac (toPy d)) : asc (reprD d) := by
  unfold asc
  rw [List.all_eq_true]
  intro c hc
  rw [decide_eq_true_eq]
  exact Nat.lt_of_not_le fun hk => h c hk hc
theorem ac_N (n : Nat) : ac (toPy (nD n)) := ac_int n
theorem toPys_mem : ∀ {xs : List D} {x : PyData}, x ∈ toPys xs → ∃ d ∈ xs, x = toPy d
  | [], x, h => by cases h
  | d :: r, x, h => by
    rcases List.mem_cons.mp h with e | h
    · exact ⟨d, List.mem_cons_self, e⟩
    · obtain ⟨d', h1, h2⟩ := toPys_mem h
      exact ⟨d', List.mem_cons_of_mem _ h1, h2⟩
theorem ac_tup {xs : List D} (h : ∀ x ∈ xs, ac (toPy x)) : ac (toPy (.tup xs)) := by
  show ac (.tuple (toPys xs))
  refine ac_tuple fun x hx => ?_
  obtain ⟨d, hd, rfl⟩ := toPys_mem hx
  exact h d hd
end PC
end
section
set_option Elab.async false
set_option linter.all false
set_option autoImplicit false
set_option maxHeartbeats 1000000
/-! Numbers as tables of sets; plain. -/
namespace KT
def mk (f : Nat → Bool) : Nat → Nat
  | 0 => 0
  | n + 1 => mk f n + (if f n = true then 2 ^ n else 0)
theorem mk_lt (f : Nat → Bool) : ∀ n, mk f n < 2 ^ n
  | 0 => by simp [mk]
  | n + 1 => by
    have := mk_lt f n
    rw [mk, Nat.pow_succ]
    split <;> omega
theorem mk_bit (f : Nat → Bool) : ∀ n s, (mk f n).testBit s = (decide (s < n) && f s)
  | 0, s => by simp [mk]
  | n + 1, s => by
    have ih := mk_bit f n
    have hl := mk_lt f n
    rw [mk]
    by_cases hn : f n = true
    · rw [if_pos hn, Nat.add_comm]
      rcases Nat.lt_trichotomy s n with h | h | h
      · rw [Nat.testBit_two_pow_add_gt h, ih, decide_eq_true h, decide_eq_true (by omega : s < n + 1)]
      · subst h
        rw [Nat.testBit_two_pow_add_eq, ih, hn]
        simp
      · rw [Nat.testBit_lt_two_pow (Nat.lt_of_lt_of_le (show 2 ^ n + mk f n < 2 ^ (n + 1) by rw [Nat.pow_succ]; omega) (Nat.pow_le_pow_right (by decide) (by omega)))]
        rw [decide_eq_false (by omega)]; rfl
    · rw [if_neg hn, Nat.add_zero, ih]
      have hn : f n = false := by simpa using hn
      by_cases h : s < n
      · rw [decide_eq_true h, decide_eq_true (by omega : s < n + 1)]
      · rw [decide_eq_false h]
        by_cases e : s = n
        · subst e; rw [hn]; simp
        · rw [decide_eq_false (by omega : ¬ s < n + 1)]
theorem eq_mk {t n : Nat} {f : Nat → Bool} (h : ∀ s, t.testBit s = (decide (s < n) && f s)) : t = mk f n := Nat.eq_of_testBit_eq fun s => by rw [h, mk_bit]
theorem mk_cong {f g : Nat → Bool} {n : Nat} (h : ∀ s, s < n → f s = g s) : mk f n = mk g n := eq_mk fun s => by
  rw [mk_bit]
  by_cases hs : s < n
  · rw [h s hs]
  · rw [decide_eq_false hs]; rfl
theorem mk_or (f g : Nat → Bool) (n : Nat) : mk f n ||| mk g n = mk (fun s => f s || g s) n := eq_mk fun s => by
  rw [Nat.testBit_or, mk_bit, mk_bit]
  cases decide (s < n) <;> simp
theorem mk_and (f g : Nat → Bool) (n : Nat) : mk f n &&& mk g n = mk (fun s => f s && g s) n := eq_mk fun s => by
  rw [Nat.testBit_and, mk_bit, mk_bit]
  cases decide (s < n) <;> simp
theorem mk_xor (f g : Nat → Bool) (n : Nat) : mk f n ^^^ mk g n = mk (fun s => f s ^^ g s) n := eq_mk fun s => by
  rw [Nat.testBit_xor, mk_bit, mk_bit]
  cases decide (s < n) <;> simp
theorem mk_none (n : Nat) : mk (fun _ => false) n = 0 := (eq_mk fun s => by simp).symm
theorem mk_all (n : Nat) : mk (fun _ => true) n = 2 ^ n - 1 := (eq_mk fun s => by rw [Nat.testBit_two_pow_sub_one]; simp).symm
theorem bit_ge {s i : Nat} (h : s < 2 ^ (i + 1)) : s.testBit i = decide (2 ^ i ≤ s) := by
  rw [Nat.testBit_eq_decide_div_mod_eq]
  rw [Nat.pow_succ] at h
  have hp : 0 < 2 ^ i := Nat.pow_pos (by decide)
  by_cases hs : 2 ^ i ≤ s
  · have : s / 2 ^ i = 1 := by
      apply Nat.div_eq_of_lt_le <;> omega
    rw [this, decide_eq_true hs]; rfl
  · have : s / 2 ^ i = 0 := Nat.div_eq_of_lt (by omega)
    rw [this, decide_eq_false hs]; rfl
theorem part0 (i : Nat) : (2 ^ (2 ^ i) - 1) <<< (2 ^ i) = mk (fun s => s.testBit i) (2 ^ (i + 1)) := eq_mk fun s => by
  rw [Nat.testBit_shiftLeft, Nat.testBit_two_pow_sub_one]
  have hp : 2 ^ (i + 1) = 2 ^ i + 2 ^ i := by rw [Nat.pow_succ]; omega
  by_cases h : s < 2 ^ (i + 1)
  · rw [bit_ge h, decide_eq_true h]
    by_cases h2 : 2 ^ i ≤ s
    · rw [decide_eq_true h2, decide_eq_true (by omega : s - 2 ^ i < 2 ^ i)]
    · rw [decide_eq_false h2]; rfl
  · rw [decide_eq_false h, decide_eq_false (show ¬ s - 2 ^ i < 2 ^ i by omega)]; simp
theorem partS {i w : Nat} (h : i < w) : mk (fun s => s.testBit i) (2 ^ w) ||| mk (fun s => s.testBit i) (2 ^ w) <<< (2 ^ w) = mk (fun s => s.testBit i) (2 ^ (w + 1)) := eq_mk fun s => by
  rw [Nat.testBit_or, Nat.testBit_shiftLeft, mk_bit, mk_bit]
  have hp : 2 ^ (w + 1) = 2 ^ w + 2 ^ w := by rw [Nat.pow_succ]; omega
  by_cases h1 : s < 2 ^ w
  · rw [decide_eq_true h1, decide_eq_false (show ¬ s ≥ 2 ^ w by omega), decide_eq_true (by omega : s < 2 ^ (w + 1))]; simp
  · rw [decide_eq_false h1, decide_eq_true (show s ≥ 2 ^ w by omega)]
    have : (s - 2 ^ w).testBit i = s.testBit i := by
      obtain ⟨r, rfl⟩ : ∃ r, s = 2 ^ w + r := ⟨s - 2 ^ w, by omega⟩
      rw [Nat.add_sub_cancel_left, Nat.testBit_two_pow_add_gt h]
    rw [this]
    by_cases h2 : s < 2 ^ (w + 1)
    · rw [decide_eq_true h2, decide_eq_true (by omega : s - 2 ^ w < 2 ^ w)]; simp
    · rw [decide_eq_false h2, decide_eq_false (by omega : ¬ s - 2 ^ w < 2 ^ w)]; simp
/-! ### one part less -/
theorem sub_bit {s i : Nat} (h : s.testBit i = true) : 2 ^ i ≤ s := Nat.ge_two_pow_of_testBit h
theorem less_bit {s i : Nat} (h : s.testBit i = true) (j : Nat) : (s - 2 ^ i).testBit j = (s.testBit j && !decide (i = j)) := by
  have hp : 0 < 2 ^ i := Nat.pow_pos (by decide)
  have hr : s % 2 ^ i < 2 ^ i := Nat.mod_lt _ hp
  have e1 : s = 2 ^ i * (s / 2 ^ i) + s % 2 ^ i := (Nat.div_add_mod _ _).symm
  have hq : s / 2 ^ i % 2 = 1 := by
    rw [Nat.testBit_eq_decide_div_mod_eq] at h
    exact of_decide_eq_true h
  generalize s / 2 ^ i = q at *
  generalize s % 2 ^ i = r at *
  have e2 : s - 2 ^ i = 2 ^ i * (q - 1) + r := by
    have : 2 ^ i * (q - 1) = 2 ^ i * q - 2 ^ i := by rw [Nat.mul_sub_one]
    have h2 : 2 ^ i * 1 ≤ 2 ^ i * q := Nat.mul_le_mul_left _ (by omega)
    omega
  rw [e2, e1, Nat.testBit_two_pow_mul_add _ hr, Nat.testBit_two_pow_mul_add _ hr]
  by_cases hj : j < i
  · rw [if_pos hj, if_pos hj, decide_eq_false (by omega)]; simp
  · rw [if_neg hj, if_neg hj]
    by_cases e : i = j
    · subst e
      rw [Nat.sub_self, decide_eq_true rfl, Nat.testBit_zero]
      have : (q - 1) % 2 = 0 := by omega
      rw [this]; simp
    · rw [decide_eq_false e]
      obtain ⟨m, hm⟩ : ∃ m, j - i = m + 1 := ⟨j - i - 1, by omega⟩
      rw [hm, Nat.testBit_add_one, Nat.testBit_add_one, show (q - 1) / 2 = q / 2 by omega]; simp
theorem no_bit {s i : Nat} (h : s.testBit i = false) (hs : 2 ^ i ≤ s) : (s - 2 ^ i).testBit i = true := by
  have e := Nat.testBit_two_pow_add_eq (s - 2 ^ i) i
  rw [show 2 ^ i + (s - 2 ^ i) = s by omega, h] at e
  cases hb : (s - 2 ^ i).testBit i with
  | true => rfl
  | false => rw [hb] at e; cases e
/-- those without i, with i put in -/
theorem shift_in (S : Nat → Bool) (P i : Nat) (hi : i < P) : mk (fun s => S s && !s.testBit i) (2 ^ P) <<< (2 ^ i) = mk (fun s => s.testBit i && S (s - 2 ^ i)) (2 ^ P) := eq_mk fun s => by
  rw [Nat.testBit_shiftLeft, mk_bit]
  by_cases h : 2 ^ i ≤ s
  · rw [decide_eq_true (show s ≥ 2 ^ i from h)]
    cases hb : s.testBit i with
    | true =>
      have h2 := less_bit hb i
      simp at h2
      rw [h2]
      by_cases hs : s < 2 ^ P
      · rw [decide_eq_true hs, decide_eq_true (Nat.lt_of_le_of_lt (Nat.sub_le _ _) hs : s - 2 ^ i < 2 ^ P)]; simp
      · rw [decide_eq_false hs]
        have : ¬ s - 2 ^ i < 2 ^ P := by
          intro hlt
          have h3 : 2 ^ P ≤ s := by omega
          have hb2 : ∃ j, P ≤ j ∧ s.testBit j = true := Nat.exists_ge_and_testBit_of_ge_two_pow h3
          obtain ⟨j, hj, ej⟩ := hb2
          have := less_bit hb j
          rw [ej, decide_eq_false (by omega)] at this
          simp at this
          have h4 : 2 ^ j ≤ s - 2 ^ i := Nat.ge_two_pow_of_testBit this
          have h5 : 2 ^ P ≤ 2 ^ j := Nat.pow_le_pow_right (by decide) hj
          omega
        rw [decide_eq_false this]; simp
    | false =>
      rw [no_bit hb h]; simp
  · rw [decide_eq_false (show ¬ s ≥ 2 ^ i from h)]
    cases hb : s.testBit i with
    | true => exact absurd (sub_bit hb) h
    | false => simp
/-! ### sets -/
def sub (s t : Nat) : Prop := ∀ j, s.testBit j = true → t.testBit j = true
def Up (P : Nat) (S : Nat → Bool) : Prop := ∀ s t, t < 2 ^ P → sub s t → S s = true → S t = true
theorem sub_le {s t : Nat} (h : sub s t) : s ≤ t := by
  have e : s &&& t = s := Nat.eq_of_testBit_eq fun j => by
    rw [Nat.testBit_and]
    cases hs : s.testBit j with
    | true => rw [h j hs]; rfl
    | false => rfl
  rw [← e]
  exact Nat.and_le_right
theorem less_sub {s i : Nat} (h : s.testBit i = true) : sub (s - 2 ^ i) s := fun j hj => by
  rw [less_bit h] at hj
  simp at hj
  exact hj.1
/-- a least one -/
def mn (P : Nat) (S : Nat → Bool) (s : Nat) : Bool := S s && !(List.range P).any fun j => s.testBit j && S (s - 2 ^ j)
theorem mn_cong {P s : Nat} {S T : Nat → Bool} (h : ∀ s, s < 2 ^ P → S s = T s) (hs : s < 2 ^ P) : mn P S s = mn P T s := by
  unfold mn
  rw [h s hs]
  have : (fun j => s.testBit j && S (s - 2 ^ j)) = fun j => s.testBit j && T (s - 2 ^ j) := by
    funext j
    rw [h (s - 2 ^ j) (Nat.lt_of_le_of_lt (Nat.sub_le _ _) hs)]
  rw [this]
/-- what the program gathers -/
def M (S : Nat → Bool) : Nat → Nat → Bool
  | 0, _ => false
  | i + 1, s => M S i s || (s.testBit i && S (s - 2 ^ i)) || (s.testBit i && M S i (s - 2 ^ i))
theorem M_step (S : Nat → Bool) (P i : Nat) (hi : i < P) : mk (M S i) (2 ^ P) ||| (mk S (2 ^ P) &&& mk (fun s => s.testBit i) (2 ^ P) ^^^ mk S (2 ^ P)) <<< (2 ^ i) ||| (mk (M S i) (2 ^ P) &&& mk (fun s => s.testBit i) (2 ^ P) ^^^ mk (M S i) (2 ^ P)) <<< (2 ^ i) = mk (M S (i + 1)) (2 ^ P) := by
  have e : ∀ T : Nat → Bool, mk T (2 ^ P) &&& mk (fun s => s.testBit i) (2 ^ P) ^^^ mk T (2 ^ P) = mk (fun s => T s && !s.testBit i) (2 ^ P) := fun T => by
    rw [mk_and, mk_xor]
    exact mk_cong fun s _ => by cases T s <;> cases s.testBit i <;> rfl
  rw [e, e, shift_in S P i hi, shift_in _ P i hi, mk_or, mk_or]
  rfl
theorem M_iff {P : Nat} {S : Nat → Bool} (hS : Up P S) : ∀ i s, s < 2 ^ P → M S i s = (List.range i).any fun j => s.testBit j && S (s - 2 ^ j)
  | 0, s, _ => rfl
  | i + 1, s, hs => by
    have ih := M_iff hS i
    rw [M, List.range_succ, List.any_append, ← ih s hs, List.any_cons, List.any_nil, Bool.or_false]
    cases hb : s.testBit i with
    | false => simp
    | true =>
      have hl : s - 2 ^ i < 2 ^ P := Nat.lt_of_le_of_lt (Nat.sub_le _ _) hs
      rw [ih _ hl]
      cases h1 : S (s - 2 ^ i) with
      | true => simp
      | false =>
        have : ((List.range i).any fun j => (s - 2 ^ i).testBit j && S (s - 2 ^ i - 2 ^ j)) = false := by
          rw [List.any_eq_false]
          intro j _ hj
          rw [Bool.and_eq_true] at hj
          have := hS _ _ hl (less_sub hj.1) hj.2
          rw [h1] at this
          cases this
        rw [this]; simp
theorem least_tab {P : Nat} {S : Nat → Bool} (hS : Up P S) : mk S (2 ^ P) &&& mk (M S P) (2 ^ P) ^^^ mk S (2 ^ P) = mk (mn P S) (2 ^ P) := by
  rw [mk_and, mk_xor]
  refine mk_cong fun s hs => ?_
  unfold mn
  rw [M_iff hS P s hs]
  cases S s <;> cases (List.range P).any _ <;> rfl
/-- below each set there is a least one -/
theorem has_mn {P : Nat} {S : Nat → Bool} : ∀ n s, s ≤ n → s < 2 ^ P → S s = true → ∃ t, sub t s ∧ mn P S t = true
  | 0, s, hn, hs, h => by
    have : s = 0 := by omega
    subst this
    refine ⟨0, fun j h => h, ?_⟩
    unfold mn
    rw [h]
    simp
  | n + 1, s, hn, hs, h => by
    cases hm : mn P S s with
    | true => exact ⟨s, fun j h => h, hm⟩
    | false =>
      unfold mn at hm
      rw [h, Bool.true_and, Bool.not_eq_false', List.any_eq_true] at hm
      obtain ⟨j, hj, hb⟩ := hm
      rw [Bool.and_eq_true] at hb
      have := sub_bit hb.1
      have hp : 0 < 2 ^ j := Nat.pow_pos (by decide)
      obtain ⟨t, h1, h2⟩ := has_mn n (s - 2 ^ j) (by omega) (Nat.lt_of_le_of_lt (Nat.sub_le _ _) hs) hb.2
      exact ⟨t, fun i hi => less_sub hb.1 i (h1 i hi), h2⟩
theorem compl_bit {P s j : Nat} (hs : s < 2 ^ P) : (2 ^ P - 1 - s).testBit j = (decide (j < P) && !s.testBit j) := by
  rw [show 2 ^ P - 1 - s = 2 ^ P - (s + 1) by omega, Nat.testBit_two_pow_sub_succ hs]
theorem bit_lt {P s j : Nat} (hs : s < 2 ^ P) (h : s.testBit j = true) : j < P := by
  apply Classical.byContradiction
  intro hn
  rw [Nat.testBit_lt_two_pow (Nat.lt_of_lt_of_le hs (Nat.pow_le_pow_right (by decide) (by omega)))] at h
  cases h
/-- what meets all of some sets -/
def meets (P : Nat) (cs : List Nat) (s : Nat) : Bool := cs.all fun c => (List.range P).any fun i => c.testBit i && s.testBit i
theorem meets_iff {P s : Nat} {cs : List Nat} {S : Nat → Bool} (hS : Up P S) (hc : ∀ c, c ∈ cs ↔ c < 2 ^ P ∧ mn P S c = true) (hs : s < 2 ^ P) : meets P cs s = !S (2 ^ P - 1 - s) := by
  have hcl : 2 ^ P - 1 - s < 2 ^ P := by omega
  cases h : S (2 ^ P - 1 - s) with
  | true =>
    obtain ⟨t, h1, h2⟩ := has_mn _ _ (Nat.le_refl _) hcl h
    have ht : t < 2 ^ P := Nat.lt_of_le_of_lt (sub_le h1) hcl
    show meets P cs s = false
    unfold meets
    rw [List.all_eq_false]
    refine ⟨t, (hc t).mpr ⟨ht, h2⟩, ?_⟩
    intro hh
    rw [List.any_eq_true] at hh
    obtain ⟨i, hi, hb⟩ := hh
    rw [Bool.and_eq_true] at hb
    have := h1 i hb.1
    rw [compl_bit hs, hb.2] at this
    simp at this
  | false =>
    show meets P cs s = true
    unfold meets
    rw [List.all_eq_true]
    intro c hcc
    obtain ⟨c1, c2⟩ := (hc c).mp hcc
    apply Classical.byContradiction
    intro hn
    have hn : ((List.range P).any fun i => c.testBit i && s.testBit i) = false := by simpa using hn
    have hsub : sub c (2 ^ P - 1 - s) := fun j hj => by
      rw [compl_bit hs, decide_eq_true (bit_lt c1 hj)]
      rw [List.any_eq_false] at hn
      have := hn j (List.mem_range.mpr (bit_lt c1 hj))
      rw [hj] at this
      simpa using this
    unfold mn at c2
    rw [Bool.and_eq_true] at c2
    have := hS _ _ hcl hsub c2.1
    rw [h] at this
    cases this
theorem meets_up (P : Nat) (cs : List Nat) : Up P (meets P cs) := fun s t _ hst h => by
  unfold meets at h ⊢
  rw [List.all_eq_true] at h ⊢
  intro c hc
  have := h c hc
  rw [List.any_eq_true] at this ⊢
  obtain ⟨i, hi, hb⟩ := this
  rw [Bool.and_eq_true] at hb
  exact ⟨i, hi, by rw [hb.1, hst i hb.2]; rfl⟩
theorem compl_up {P : Nat} {S : Nat → Bool} (hS : Up P S) : Up P fun s => !S (2 ^ P - 1 - s) := fun s t ht hst h => by
  have hs : s < 2 ^ P := Nat.lt_of_le_of_lt (sub_le hst) ht
  cases h2 : S (2 ^ P - 1 - t) with
  | false => show (!S (2 ^ P - 1 - t)) = true; rw [h2]; rfl
  | true =>
    have : S (2 ^ P - 1 - s) = true := hS _ _ (by omega) (fun j hj => by
      rw [compl_bit ht] at hj
      rw [compl_bit hs]
      rw [Bool.and_eq_true] at hj ⊢
      refine ⟨hj.1, ?_⟩
      cases hb : s.testBit j with
      | false => rfl
      | true => rw [hst j hb] at hj; simp at hj) h2
    have h : (!S (2 ^ P - 1 - s)) = true := h
    rw [this] at h
    cases h
/-! ### counts, order -/
def pc : Nat → Nat → Nat
  | 0, _ => 0
  | m + 1, s => s % 2 + pc m (s / 2)
theorem pc_eq : ∀ m s, pc m s = ((List.range m).filter fun i => s.testBit i).length
  | 0, s => rfl
  | m + 1, s => by
    rw [pc, pc_eq m, List.range_succ_eq_map, List.filter_cons, List.filter_map, Nat.testBit_zero]
    have e : ((fun i => s.testBit i) ∘ Nat.succ) = fun i => (s / 2).testBit i := by
      funext i
      exact Nat.testBit_add_one s i
    rw [e]
    rcases Nat.mod_two_eq_zero_or_one s with h | h <;> rw [h] <;> simp <;> omega
open PC in
def pp (p : Nat → Nat) (s : Nat) : Int × Int := ((p s : Int), (s : Int))
open PC in
def insS (p : Nat → Nat) (x : Nat) : List Nat → List Nat
  | [] => [x]
  | y :: r => if ltP (pp p y) (pp p x) = true then y :: insS p x r else x :: y :: r
def srt (p : Nat → Nat) (xs : List Nat) : List Nat := xs.foldr (insS p) []
open PC in
theorem insP_map (p : Nat → Nat) (x : Nat) : ∀ ys : List Nat, insP (pp p x) (ys.map (pp p)) = (insS p x ys).map (pp p)
  | [] => rfl
  | y :: r => by
    rw [List.map_cons, insP, insS, insP_map p x r]
    split <;> rfl
open PC in
theorem sortP_map (p : Nat → Nat) : ∀ xs : List Nat, sortP (xs.map (pp p)) = (srt p xs).map (pp p)
  | [] => rfl
  | x :: xs => by
    show insP (pp p x) (sortP (xs.map (pp p))) = (insS p x (srt p xs)).map (pp p)
    rw [sortP_map p xs, insP_map]
theorem insS_mem (p : Nat → Nat) (x z : Nat) : ∀ ys : List Nat, z ∈ insS p x ys ↔ z = x ∨ z ∈ ys
  | [] => by simp [insS]
  | y :: r => by
    rw [insS]
    split
    · rw [List.mem_cons, insS_mem p x z r, List.mem_cons]
      constructor
      · rintro (h | h | h) <;> simp [h]
      · rintro (h | h | h) <;> simp [h]
    · rw [List.mem_cons]
theorem srt_mem (p : Nat → Nat) (z : Nat) : ∀ xs : List Nat, z ∈ srt p xs ↔ z ∈ xs
  | [] => Iff.rfl
  | x :: xs => by
    show z ∈ insS p x (srt p xs) ↔ _
    rw [insS_mem, srt_mem p z xs, List.mem_cons]
theorem insS_len (p : Nat → Nat) (x : Nat) : ∀ ys : List Nat, (insS p x ys).length = ys.length + 1
  | [] => rfl
  | y :: r => by
    rw [insS]
    split
    · rw [List.length_cons, insS_len p x r]; rfl
    · rfl
theorem srt_len (p : Nat → Nat) : ∀ xs : List Nat, (srt p xs).length = xs.length
  | [] => rfl
  | x :: xs => by
    show (insS p x (srt p xs)).length = _
    rw [insS_len, srt_len p xs]; rfl
theorem insS_cong {p q : Nat → Nat} {x : Nat} (hx : p x = q x) : ∀ {ys : List Nat}, (∀ y ∈ ys, p y = q y) → insS p x ys = insS q x ys
  | [], _ => rfl
  | y :: r, h => by
    have hy := h y List.mem_cons_self
    rw [insS, insS, insS_cong hx fun z hz => h z (List.mem_cons_of_mem _ hz)]
    unfold pp
    rw [hx, hy]
theorem srt_cong {p q : Nat → Nat} : ∀ {xs : List Nat}, (∀ x ∈ xs, p x = q x) → srt p xs = srt q xs
  | [], _ => rfl
  | x :: xs, h => by
    show insS p x (srt p xs) = insS q x (srt q xs)
    rw [srt_cong fun z hz => h z (List.mem_cons_of_mem _ hz)]
    exact insS_cong (h x List.mem_cons_self) fun y hy => h y (List.mem_cons_of_mem _ ((srt_mem q y xs).mp hy))
/-- the least sets, in order -/
def ls (P : Nat) (S : Nat → Bool) : List Nat := srt (pc 12) ((List.range (2 ^ P)).filter (mn P S))
theorem ls_mem {P : Nat} {S : Nat → Bool} (c : Nat) : c ∈ ls P S ↔ c < 2 ^ P ∧ mn P S c = true := by
  unfold ls
  rw [srt_mem, List.mem_filter, List.mem_range]
theorem ls_cong {P : Nat} {S T : Nat → Bool} (h : ∀ s, s < 2 ^ P → S s = T s) : ls P S = ls P T := by
  unfold ls
  congr 1
  apply List.filter_congr
  intro s hs
  exact mn_cong h (List.mem_range.mp hs)
theorem ls_len (P : Nat) (S : Nat → Bool) : (ls P S).length ≤ 2 ^ P := by
  unfold ls
  rw [srt_len]
  exact Nat.le_trans (List.length_filter_le _ _) (by rw [List.length_range]; exact Nat.le_refl _)
end KT
end
section
set_option Elab.async false
set_option linter.all false
set_option autoImplicit false
set_option maxHeartbeats 1000000
/-! Shares in lowest terms; sums over states; plain. -/
namespace KT
open PC
/-- a share in lowest terms -/
def rd (n d : Nat) : D := .tup [nD (n / Nat.gcd n d), nD (d / Nat.gcd n d)]
theorem gcd_pos {n d : Nat} (hd : 0 < d) : 0 < Nat.gcd n d := Nat.gcd_pos_of_pos_right n hd
theorem cross_eq {n d n' d' : Nat} (hd : 0 < d) (hd' : 0 < d') (h : n * d' = n' * d) : n / Nat.gcd n d = n' / Nat.gcd n' d' ∧ d / Nat.gcd n d = d' / Nat.gcd n' d' := by
  have g1 := gcd_pos (n := n) hd
  have g2 := gcd_pos (n := n') hd'
  obtain ⟨a, ha⟩ := Nat.gcd_dvd_left n d
  obtain ⟨b, hb⟩ := Nat.gcd_dvd_right n d
  obtain ⟨a', ha'⟩ := Nat.gcd_dvd_left n' d'
  obtain ⟨b', hb'⟩ := Nat.gcd_dvd_right n' d'
  have c1 : Nat.gcd (n / Nat.gcd n d) (d / Nat.gcd n d) = 1 := Nat.gcd_div_gcd_div_gcd_of_pos_right hd
  have c2 : Nat.gcd (n' / Nat.gcd n' d') (d' / Nat.gcd n' d') = 1 := Nat.gcd_div_gcd_div_gcd_of_pos_right hd'
  have ea : n / Nat.gcd n d = a := by
    have := Nat.mul_div_cancel_left a g1
    rwa [← ha] at this
  have eb : d / Nat.gcd n d = b := by
    have := Nat.mul_div_cancel_left b g1
    rwa [← hb] at this
  have ea' : n' / Nat.gcd n' d' = a' := by
    have := Nat.mul_div_cancel_left a' g2
    rwa [← ha'] at this
  have eb' : d' / Nat.gcd n' d' = b' := by
    have := Nat.mul_div_cancel_left b' g2
    rwa [← hb'] at this
  rw [ea, eb] at c1
  rw [ea', eb'] at c2
  rw [ea, eb, ea', eb']
  generalize Nat.gcd n d = g at *
  generalize Nat.gcd n' d' = g' at *
  subst ha hb ha' hb'
  have hx : a * b' = a' * b := by
    have h2 : (g * g') * (a * b') = (g * g') * (a' * b) := by
      calc (g * g') * (a * b') = g * a * (g' * b') := by ac_rfl
        _ = g' * a' * (g * b) := h
        _ = (g * g') * (a' * b) := by ac_rfl
    exact Nat.eq_of_mul_eq_mul_left (Nat.mul_pos g1 g2) h2
  have hb0 : 0 < b := by
    rcases Nat.eq_zero_or_pos b with h0 | h0
    · subst h0; simp at hd
    · exact h0
  have e : a = a' := by
    apply Nat.dvd_antisymm
    · exact Nat.Coprime.dvd_of_dvd_mul_right c1 ⟨b', hx.symm⟩
    · exact Nat.Coprime.dvd_of_dvd_mul_right c2 ⟨b, hx⟩
  refine ⟨e, ?_⟩
  have d1 : b ∣ b' := (Nat.Coprime.symm c1).dvd_of_dvd_mul_left ⟨a', by rw [hx]; exact Nat.mul_comm _ _⟩
  have d2 : b' ∣ b := (Nat.Coprime.symm c2).dvd_of_dvd_mul_left ⟨a, by rw [← hx]; exact Nat.mul_comm _ _⟩
  exact Nat.dvd_antisymm d1 d2
theorem rd_eq {n d n' d' : Nat} (hd : 0 < d) (hd' : 0 < d') (h : n * d' = n' * d) : rd n d = rd n' d' := by
  obtain ⟨h1, h2⟩ := cross_eq hd hd' h
  unfold rd
  rw [h1, h2]
theorem rd_low {n d : Nat} (h : Nat.gcd n d = 1) : rd n d = .tup [nD n, nD d] := by
  unfold rd
  rw [h, Nat.div_one, Nat.div_one]
theorem rd_zero {d : Nat} (hd : 0 < d) : rd 0 d = .tup [nD 0, nD 1] := by
  unfold rd
  rw [Nat.gcd_zero_left, Nat.zero_div, Nat.div_self hd]
theorem rd_one {d : Nat} (hd : 0 < d) : rd d d = .tup [nD 1, nD 1] := by
  unfold rd
  rw [Nat.gcd_self, Nat.div_self hd]
theorem div_mul_gcd {n d : Nat} : n / Nat.gcd n d * Nat.gcd n d = n := Nat.div_mul_cancel (Nat.gcd_dvd_left n d)
theorem div_mul_gcd' {n d : Nat} : d / Nat.gcd n d * Nat.gcd n d = d := Nat.div_mul_cancel (Nat.gcd_dvd_right n d)
theorem low_pos {n d : Nat} (hd : 0 < d) : 0 < d / Nat.gcd n d := Nat.div_pos (Nat.le_of_dvd hd (Nat.gcd_dvd_right n d)) (gcd_pos hd)
theorem low_gcd {n d : Nat} (hd : 0 < d) : Nat.gcd (n / Nat.gcd n d) (d / Nat.gcd n d) = 1 := Nat.gcd_div_gcd_div_gcd_of_pos_right hd
theorem low_le {n d : Nat} (h : n ≤ d) : n / Nat.gcd n d ≤ d / Nat.gcd n d := Nat.div_le_div_right h
theorem rd_times {n d n' d' : Nat} (hd : 0 < d) (hd' : 0 < d') : rd (n / Nat.gcd n d * (n' / Nat.gcd n' d')) (d / Nat.gcd n d * (d' / Nat.gcd n' d')) = rd (n * n') (d * d') := by
  refine rd_eq (Nat.mul_pos (low_pos hd) (low_pos hd')) (Nat.mul_pos hd hd') ?_
  have e1 := div_mul_gcd (n := n) (d := d)
  have e2 := div_mul_gcd' (n := n) (d := d)
  have e3 := div_mul_gcd (n := n') (d := d')
  have e4 := div_mul_gcd' (n := n') (d := d')
  generalize n / Nat.gcd n d = x at *
  generalize d / Nat.gcd n d = y at *
  generalize n' / Nat.gcd n' d' = x' at *
  generalize d' / Nat.gcd n' d' = y' at *
  generalize Nat.gcd n d = g at *
  generalize Nat.gcd n' d' = g' at *
  subst e1 e2 e3 e4
  ac_rfl
theorem rd_plus {n d n' d' : Nat} (hd : 0 < d) (hd' : 0 < d') : rd (n / Nat.gcd n d * (d' / Nat.gcd n' d') + n' / Nat.gcd n' d' * (d / Nat.gcd n d)) (d / Nat.gcd n d * (d' / Nat.gcd n' d')) = rd (n * d' + n' * d) (d * d') := by
  refine rd_eq (Nat.mul_pos (low_pos hd) (low_pos hd')) (Nat.mul_pos hd hd') ?_
  have e1 := div_mul_gcd (n := n) (d := d)
  have e2 := div_mul_gcd' (n := n) (d := d)
  have e3 := div_mul_gcd (n := n') (d := d')
  have e4 := div_mul_gcd' (n := n') (d := d')
  generalize n / Nat.gcd n d = x at *
  generalize d / Nat.gcd n d = y at *
  generalize n' / Nat.gcd n' d' = x' at *
  generalize d' / Nat.gcd n' d' = y' at *
  generalize Nat.gcd n d = g at *
  generalize Nat.gcd n' d' = g' at *
  subst e1 e2 e3 e4
  rw [Nat.add_mul, Nat.add_mul]
  congr 1 <;> ac_rfl
/-! ### sums -/
def sm (f : Nat → Nat) : Nat → Nat
  | 0 => 0
  | n + 1 => sm f n + f n
theorem sm_cong {f g : Nat → Nat} : ∀ {n : Nat}, (∀ t, t < n → f t = g t) → sm f n = sm g n
  | 0, _ => rfl
  | n + 1, h => by rw [sm, sm, sm_cong fun t ht => h t (by omega), h n (by omega)]
theorem sm_add (f : Nat → Nat) (m : Nat) : ∀ n, sm f (m + n) = sm f m + sm (fun t => f (m + t)) n
  | 0 => rfl
  | n + 1 => by rw [← Nat.add_assoc, sm, sm_add f m n, sm, Nat.add_assoc]
theorem sm_dbl (f : Nat → Nat) : ∀ n, sm f (2 * n) = sm (fun u => f (2 * u) + f (2 * u + 1)) n
  | 0 => rfl
  | n + 1 => by rw [Nat.mul_succ, sm, sm, sm_dbl f n, sm, Nat.add_assoc]
theorem sm_mul (c : Nat) (f : Nat → Nat) : ∀ n, sm (fun t => c * f t) n = c * sm f n
  | 0 => by simp [sm]
  | n + 1 => by rw [sm, sm_mul c f n, sm, Nat.mul_add]
theorem sm_plus (f g : Nat → Nat) : ∀ n, sm (fun t => f t + g t) n = sm f n + sm g n
  | 0 => rfl
  | n + 1 => by rw [sm, sm_plus f g n, sm, sm]; omega
theorem sm_le {f g : Nat → Nat} : ∀ {n : Nat}, (∀ t, t < n → f t ≤ g t) → sm f n ≤ sm g n
  | 0, _ => Nat.le_refl _
  | n + 1, h => Nat.add_le_add (sm_le fun t ht => h t (by omega)) (h n (by omega))
/-! ### states and their odds -/
/-- a part's weight: above of b -/
def wt (o : List (Nat × Nat)) (i : Nat) (b : Bool) : Nat := if b = true then (o.getD i (0, 1)).1 else (o.getD i (0, 1)).2 - (o.getD i (0, 1)).1
/-- the weight of a state, from part i on -/
def w (o : List (Nat × Nat)) : Nat → Nat → Nat → Nat
  | _, 0, _ => 1
  | i, m + 1, t => wt o i (t.testBit 0) * w o (i + 1) m (t / 2)
theorem w_last (o : List (Nat × Nat)) : ∀ m i t, w o i (m + 1) t = w o i m t * wt o (i + m) (t.testBit m)
  | 0, i, t => by simp [w]
  | m + 1, i, t => by
    rw [w, w_last o m (i + 1) (t / 2), w]
    have : (t / 2).testBit m = t.testBit (m + 1) := (Nat.testBit_add_one t m).symm
    rw [this, show i + 1 + m = i + (m + 1) by omega, Nat.mul_assoc]
theorem w_cong (o : List (Nat × Nat)) : ∀ m i t t', (∀ j, j < m → t.testBit j = t'.testBit j) → w o i m t = w o i m t'
  | 0, i, t, t', _ => rfl
  | m + 1, i, t, t', h => by
    rw [w_last, w_last, w_cong o m i t t' fun j hj => h j (by omega), h m (by omega)]
def B (o : List (Nat × Nat)) : Nat → Nat → Nat
  | _, 0 => 1
  | i, m + 1 => (o.getD i (0, 1)).2 * B o (i + 1) m
theorem B_last (o : List (Nat × Nat)) : ∀ m i, B o i (m + 1) = B o i m * (o.getD (i + m) (0, 1)).2
  | 0, i => by simp [B]
  | m + 1, i => by
    rw [B, B_last o m (i + 1), B, show i + 1 + m = i + (m + 1) by omega, Nat.mul_assoc]
/-- odds of parts: each in lowest terms, from 0 to 1 -/
def OdN (N : Nat) (o : List (Nat × Nat)) : Prop := ∀ p ∈ o, p.1 ≤ p.2 ∧ 0 < p.2 ∧ p.2 ≤ N ∧ Nat.gcd p.1 p.2 = 1
abbrev Od (o : List (Nat × Nat)) : Prop := OdN 1000 o
theorem OdN.at_ {N : Nat} {o : List (Nat × Nat)} (h : OdN N o) (i : Nat) : (o.getD i (0, 1)).1 ≤ (o.getD i (0, 1)).2 ∧ 0 < (o.getD i (0, 1)).2 ∧ (o.getD i (0, 1)).2 ≤ max N 1 ∧ Nat.gcd (o.getD i (0, 1)).1 (o.getD i (0, 1)).2 = 1 := by
  rw [List.getD_eq_getElem?_getD]
  cases e : o[i]? with
  | none => exact ⟨by show 0 ≤ 1; omega, Nat.one_pos, Nat.le_max_right _ _, rfl⟩
  | some p =>
    obtain ⟨h1, h2, h3, h4⟩ := h p (List.mem_of_getElem? e)
    exact ⟨h1, h2, Nat.le_trans h3 (Nat.le_max_left _ _), h4⟩
theorem B_pos {N : Nat} {o : List (Nat × Nat)} (h : OdN N o) : ∀ m i, 0 < B o i m
  | 0, i => Nat.one_pos
  | m + 1, i => Nat.mul_pos (h.at_ i).2.1 (B_pos h m (i + 1))
theorem B_le {o : List (Nat × Nat)} (h : Od o) : ∀ m i, B o i m ≤ 1024 ^ m
  | 0, i => Nat.le_refl _
  | m + 1, i => by
    rw [B, Nat.pow_succ, Nat.mul_comm]
    exact Nat.mul_le_mul (B_le h m (i + 1)) (by have : (o.getD i (0, 1)).2 ≤ 1000 := (h.at_ i).2.2.1; omega)
theorem wt_sum {N : Nat} {o : List (Nat × Nat)} (h : OdN N o) (i : Nat) : wt o i false + wt o i true = (o.getD i (0, 1)).2 := by
  have := (h.at_ i).1
  unfold wt
  rw [if_neg Bool.false_ne_true, if_pos rfl]
  omega
/-- over all states of parts i .. i + m - 1: those of S, weighted -/
def Q (o : List (Nat × Nat)) (S : Nat → Bool) (i m : Nat) : Nat := sm (fun t => if S (t * 2 ^ i) = true then w o i m t else 0) (2 ^ m)
/-- the lowest part parted -/
theorem Q_low (o : List (Nat × Nat)) (S : Nat → Bool) (i m : Nat) : Q o S i (m + 1) = wt o i false * Q o S (i + 1) m + wt o i true * Q o (fun s => S (s + 2 ^ i)) (i + 1) m := by
  unfold Q
  rw [Nat.pow_succ, Nat.mul_comm, sm_dbl, ← sm_mul, ← sm_mul, ← sm_plus]
  apply sm_cong
  intro u _
  have e1 : 2 * u * 2 ^ i = u * 2 ^ (i + 1) := by rw [Nat.pow_succ]; ac_rfl
  have e2 : (2 * u + 1) * 2 ^ i = u * 2 ^ (i + 1) + 2 ^ i := by rw [Nat.add_mul, e1, Nat.one_mul]
  have b1 : (2 * u).testBit 0 = false := by simp
  have b2 : (2 * u + 1).testBit 0 = true := by simp
  rw [e1, e2, w, w, b1, b2, show 2 * u / 2 = u by omega, show (2 * u + 1) / 2 = u by omega]
  congr 1
  · split <;> simp
  · split <;> simp
theorem Q_zero (o : List (Nat × Nat)) (S : Nat → Bool) (i : Nat) : Q o S i 0 = if S 0 = true then 1 else 0 := by
  unfold Q
  show 0 + (if S (0 * 2 ^ i) = true then 1 else 0) = _
  rw [Nat.zero_mul, Nat.zero_add]
theorem Q_all {N : Nat} {o : List (Nat × Nat)} (h : OdN N o) : ∀ m i (S : Nat → Bool), (∀ s, S s = true) → Q o S i m = B o i m
  | 0, i, S, hS => by rw [Q_zero, if_pos (hS 0)]; rfl
  | m + 1, i, S, hS => by
    rw [Q_low, Q_all h m (i + 1) S hS, Q_all h m (i + 1) _ (fun s => hS _), B, ← wt_sum h i, Nat.add_mul]
theorem Q_none (o : List (Nat × Nat)) (S : Nat → Bool) (i m : Nat) (hS : ∀ t, t < 2 ^ m → S (t * 2 ^ i) = false) : Q o S i m = 0 := by
  unfold Q
  have : sm (fun t => if S (t * 2 ^ i) = true then w o i m t else 0) (2 ^ m) = sm (fun _ => 0) (2 ^ m) := sm_cong fun t ht => by rw [hS t ht]; rfl
  rw [this]
  generalize 2 ^ m = n
  induction n with
  | zero => rfl
  | succ n ih => rw [sm, ih]
theorem Q_le {N : Nat} {o : List (Nat × Nat)} (h : OdN N o) (S : Nat → Bool) (i m : Nat) : Q o S i m ≤ B o i m := by
  rw [← Q_all h m i (fun _ => true) fun _ => rfl]
  unfold Q
  exact sm_le fun t _ => by split <;> simp
theorem Q_cong {o : List (Nat × Nat)} {S T : Nat → Bool} {i m : Nat} (h : ∀ t, t < 2 ^ m → S (t * 2 ^ i) = T (t * 2 ^ i)) : Q o S i m = Q o T i m := sm_cong fun t ht => by rw [h t ht]
/-- the sum over all sets of m parts -/
def Sg (o : List (Nat × Nat)) (S : Nat → Bool) (m : Nat) : Nat := Q o S 0 m
theorem Sg_eq (o : List (Nat × Nat)) (S : Nat → Bool) (m : Nat) : Sg o S m = sm (fun t => if S t = true then w o 0 m t else 0) (2 ^ m) := by
  unfold Sg Q
  simp
/-- the last part parted -/
theorem Sg_high (o : List (Nat × Nat)) (S : Nat → Bool) (m : Nat) : Sg o S (m + 1) = wt o m false * Sg o S m + wt o m true * Sg o (fun s => S (s + 2 ^ m)) m := by
  rw [Sg_eq, Sg_eq, Sg_eq, show 2 ^ (m + 1) = 2 ^ m + 2 ^ m by rw [Nat.pow_succ]; omega, sm_add, ← sm_mul, ← sm_mul]
  congr 1
  · apply sm_cong
    intro t ht
    rw [w_last, Nat.zero_add, Nat.testBit_lt_two_pow ht]
    split <;> simp [Nat.mul_comm]
  · apply sm_cong
    intro t ht
    have e1 : (2 ^ m + t).testBit m = true := by rw [Nat.testBit_two_pow_add_eq, Nat.testBit_lt_two_pow ht]; rfl
    rw [w_last, Nat.zero_add, e1, w_cong o m 0 (2 ^ m + t) t fun j hj => Nat.testBit_two_pow_add_gt hj t, Nat.add_comm (2 ^ m) t]
    split <;> simp [Nat.mul_comm]
end KT
end
section
set_option Elab.async false
set_option linter.all false
set_option maxRecDepth 100000
set_option maxHeartbeats 1000000
namespace KT
open PC PySem
/-! ### one part's odds changed -/
theorem getD_set {o : List (Nat × Nat)} {i j : Nat} {p : Nat × Nat} (h : i < o.length) : (o.set i p).getD j (0, 1) = if i = j then p else o.getD j (0, 1) := by
  rw [List.getD_eq_getElem?_getD, List.getD_eq_getElem?_getD, List.getElem?_set]
  by_cases e : i = j
  · subst e
    rw [if_pos rfl, if_pos rfl, if_pos h]; rfl
  · rw [if_neg e, if_neg e]
theorem wt_set {o : List (Nat × Nat)} {i j : Nat} {p : Nat × Nat} (h : i < o.length) (hj : i ≠ j) (b : Bool) : wt (o.set i p) j b = wt o j b := by
  unfold wt
  rw [getD_set h, if_neg hj]
theorem wt_at {o : List (Nat × Nat)} {i : Nat} {p : Nat × Nat} (h : i < o.length) (b : Bool) : wt (o.set i p) i b = if b = true then p.1 else p.2 - p.1 := by
  unfold wt
  rw [getD_set h, if_pos rfl]
theorem w_off {o : List (Nat × Nat)} {i : Nat} {p : Nat × Nat} (h : i < o.length) : ∀ m s t, i < s → w (o.set i p) s m t = w o s m t
  | 0, s, t, _ => rfl
  | m + 1, s, t, hs => by rw [w, w, wt_set h (by omega), w_off h m (s + 1) (t / 2) (by omega)]
theorem B_off {o : List (Nat × Nat)} {i : Nat} {p : Nat × Nat} (h : i < o.length) : ∀ m s, i < s → B (o.set i p) s m = B o s m
  | 0, s, _ => rfl
  | m + 1, s, hs => by rw [B, B, getD_set h, if_neg (by omega), B_off h m (s + 1) (by omega)]
theorem B_set {o : List (Nat × Nat)} {i : Nat} (p : Nat × Nat) (a : Nat) (h : i < o.length) : ∀ m s, s ≤ i → i < s + m → B (o.set i p) s m = p.2 * B (o.set i (a, 1)) s m
  | 0, s, h1, h2 => by omega
  | m + 1, s, h1, h2 => by
    rw [B, B, getD_set h, getD_set h]
    by_cases e : i = s
    · rw [if_pos e, if_pos e, B_off h _ _ (by omega), B_off h _ _ (by omega), Nat.one_mul]
    · rw [if_neg e, if_neg e, B_set p a h m (s + 1) (by omega) (by omega)]
      ac_rfl
theorem w_set {o : List (Nat × Nat)} {i : Nat} (p : Nat × Nat) (h : i < o.length) : ∀ m s t, s ≤ i → i < s + m → w (o.set i p) s m t = p.1 * w (o.set i (1, 1)) s m t + (p.2 - p.1) * w (o.set i (0, 1)) s m t
  | 0, s, t, h1, h2 => by omega
  | m + 1, s, t, h1, h2 => by
    rw [w, w, w]
    by_cases e : i = s
    · subst e
      rw [w_off h _ _ _ (by omega), w_off h _ _ _ (by omega), w_off h _ _ _ (by omega), wt_at h, wt_at h, wt_at h]
      cases t.testBit 0 <;> simp
    · rw [wt_set h e, wt_set h e, wt_set h e, w_set p h m (s + 1) (t / 2) (by omega) (by omega), Nat.mul_add]
      congr 1 <;> ac_rfl
theorem Q_set {o : List (Nat × Nat)} {i : Nat} (p : Nat × Nat) (h : i < o.length) (S : Nat → Bool) {m s : Nat} (h1 : s ≤ i) (h2 : i < s + m) : Q (o.set i p) S s m = p.1 * Q (o.set i (1, 1)) S s m + (p.2 - p.1) * Q (o.set i (0, 1)) S s m := by
  unfold Q
  rw [← sm_mul, ← sm_mul, ← sm_plus]
  apply sm_cong
  intro t _
  rw [w_set p h m s t h1 h2]
  split <;> simp
theorem Q_off {o : List (Nat × Nat)} {i : Nat} {p : Nat × Nat} (h : i < o.length) (S : Nat → Bool) {m s : Nat} (hs : i < s) : Q (o.set i p) S s m = Q o S s m := by
  unfold Q
  apply sm_cong
  intro t _
  rw [w_off h m s t hs]
theorem Q_mono {o : List (Nat × Nat)} {S T : Nat → Bool} {i m : Nat} (h : ∀ t, t < 2 ^ m → S (t * 2 ^ i) = true → T (t * 2 ^ i) = true) : Q o S i m ≤ Q o T i m := by
  unfold Q
  apply sm_le
  intro t ht
  cases hS : S (t * 2 ^ i) with
  | false => simp
  | true => rw [if_pos rfl, if_pos (h t ht hS)]; exact Nat.le_refl _
theorem bit_plus {u s : Nat} {j : Nat} (hj : j ≠ s) : (u * 2 ^ (s + 1) + 2 ^ s).testBit j = (u * 2 ^ (s + 1)).testBit j := by
  have hp : 2 ^ s < 2 ^ (s + 1) := Nat.pow_lt_pow_right (by decide) (by omega)
  have e0 : u * 2 ^ (s + 1) = 2 ^ (s + 1) * u + 0 := (Nat.mul_comm _ _).trans (Nat.add_zero _).symm
  have e1 : u * 2 ^ (s + 1) + 2 ^ s = 2 ^ (s + 1) * u + 2 ^ s := by rw [Nat.mul_comm]
  rw [e1, e0, Nat.testBit_two_pow_mul_add _ hp, Nat.testBit_two_pow_mul_add _ (Nat.pow_pos (by decide))]
  by_cases h : j < s + 1
  · rw [if_pos h, if_pos h, Nat.testBit_two_pow, Nat.zero_testBit, decide_eq_false (by omega)]
  · rw [if_neg h, if_neg h]
theorem Q_rise {o : List (Nat × Nat)} {i : Nat} (h : i < o.length) : ∀ m s (S : Nat → Bool), s ≤ i → i < s + m → (∀ t, t < 2 ^ m → (t * 2 ^ s).testBit i = false → S (t * 2 ^ s) = true → S (t * 2 ^ s + 2 ^ i) = true) → Q (o.set i (0, 1)) S s m ≤ Q (o.set i (1, 1)) S s m
  | 0, s, S, h1, h2, _ => by omega
  | m + 1, s, S, h1, h2, hS => by
    have e1 : ∀ u, u * 2 ^ (s + 1) = (2 * u) * 2 ^ s := fun u => by rw [Nat.pow_succ]; ac_rfl
    have e2 : ∀ u, u * 2 ^ (s + 1) + 2 ^ s = (2 * u + 1) * 2 ^ s := fun u => by rw [e1, Nat.add_mul, Nat.one_mul]
    have hp : 2 ^ (m + 1) = 2 * 2 ^ m := by rw [Nat.pow_succ, Nat.mul_comm]
    rw [Q_low, Q_low]
    by_cases e : i = s
    · subst e
      rw [wt_at h, wt_at h, wt_at h, wt_at h, Q_off h _ (by omega), Q_off h _ (by omega), Q_off h _ (by omega), Q_off h _ (by omega)]
      simp only [Bool.false_eq_true, if_false, if_true, Nat.sub_zero, Nat.sub_self, Nat.one_mul, Nat.zero_mul, Nat.add_zero, Nat.zero_add]
      apply Q_mono
      intro t ht hs
      have hb : (t * 2 ^ (i + 1)).testBit i = false := by
        have e0 : t * 2 ^ (i + 1) = 2 ^ (i + 1) * t + 0 := (Nat.mul_comm _ _).trans (Nat.add_zero _).symm
        rw [e0, Nat.testBit_two_pow_mul_add _ (Nat.pow_pos (by decide)), if_pos (by omega), Nat.zero_testBit]
      have := hS (2 * t) (by omega)
      rw [← e1] at this
      exact this hb hs
    · rw [wt_set h e, wt_set h e, wt_set h e, wt_set h e]
      refine Nat.add_le_add (Nat.mul_le_mul_left _ (Q_rise h m (s + 1) S (by omega) (by omega) fun t ht hb hs => ?_)) (Nat.mul_le_mul_left _ (Q_rise h m (s + 1) _ (by omega) (by omega) fun t ht hb hs => ?_))
      · have := hS (2 * t) (by omega)
        rw [← e1] at this
        exact this hb hs
      · have := hS (2 * t + 1) (by omega)
        rw [← e2] at this
        show S (t * 2 ^ (s + 1) + 2 ^ i + 2 ^ s) = true
        rw [Nat.add_right_comm]
        exact this (by rw [bit_plus e]; exact hb) hs
/-- sure to stand, sure to fall -/
def X (o : List (Nat × Nat)) (S : Nat → Bool) (i a : Nat) : Nat := Sg (o.set i (a, 1)) S o.length
def Bo (o : List (Nat × Nat)) (i : Nat) : Nat := B (o.set i (0, 1)) 0 o.length
theorem Sg_set {o : List (Nat × Nat)} {i : Nat} (p : Nat × Nat) (h : i < o.length) (S : Nat → Bool) : Sg (o.set i p) S o.length = p.1 * X o S i 1 + (p.2 - p.1) * X o S i 0 := Q_set p h S (Nat.zero_le _) (by omega)
theorem Bo_set {o : List (Nat × Nat)} {i : Nat} (p : Nat × Nat) (h : i < o.length) : B (o.set i p) 0 o.length = p.2 * Bo o i := B_set p 0 h _ _ (Nat.zero_le _) (by omega)
theorem X_rise {o : List (Nat × Nat)} {i : Nat} (h : i < o.length) {S : Nat → Bool} (hS : Up o.length S) : X o S i 0 ≤ X o S i 1 := by
  refine Q_rise h _ _ S (Nat.zero_le _) (by omega) fun t ht hb hs => ?_
  rw [Nat.pow_zero, Nat.mul_one] at *
  have hor : t + 2 ^ i = t ||| 2 ^ i := by
    have hr : t % 2 ^ (i + 1) < 2 ^ i := by
      apply Nat.lt_pow_two_of_testBit
      intro j hj
      rw [Nat.testBit_mod_two_pow]
      by_cases e : i = j
      · subst e; rw [hb, Bool.and_false]
      · rw [decide_eq_false (by omega)]; rfl
    have ht2 := Nat.div_add_mod t (2 ^ (i + 1))
    generalize t / 2 ^ (i + 1) = q at *
    generalize t % 2 ^ (i + 1) = r at *
    have hp : 2 ^ (i + 1) = 2 * 2 ^ i := by rw [Nat.pow_succ, Nat.mul_comm]
    rw [← ht2, Nat.add_assoc]
    apply Nat.eq_of_testBit_eq
    intro j
    rw [Nat.testBit_two_pow_mul_add _ (by omega), Nat.testBit_or, Nat.testBit_two_pow_mul_add _ (by omega), Nat.testBit_two_pow]
    by_cases hj : j < i + 1
    · rw [if_pos hj, if_pos hj, Nat.add_comm r]
      by_cases e : i = j
      · subst e
        rw [Nat.testBit_two_pow_add_eq, Nat.testBit_lt_two_pow hr, decide_eq_true rfl]; rfl
      · rw [Nat.testBit_two_pow_add_gt (by omega), decide_eq_false e, Bool.or_false]
    · rw [if_neg hj, if_neg hj, decide_eq_false (by omega), Bool.or_false]
  refine hS t _ ?_ ?_ hs
  · rw [hor]
    exact Nat.or_lt_two_pow ht (Nat.pow_lt_pow_right (by decide) h)
  · intro j hj
    rw [hor, Nat.testBit_or, hj]; rfl
theorem od_set {N : Nat} {o : List (Nat × Nat)} (ho : OdN N o) (i : Nat) {p : Nat × Nat} (h1 : p.1 ≤ p.2) (h2 : 0 < p.2) (h3 : p.2 ≤ N) (h4 : Nat.gcd p.1 p.2 = 1) : OdN N (o.set i p) := by
  intro q hq
  rcases List.mem_or_eq_of_mem_set hq with h | h
  · exact ho q h
  · rw [h]; exact ⟨h1, h2, h3, h4⟩
theorem OdN.le {N M : Nat} {o : List (Nat × Nat)} (ho : OdN N o) (h : N ≤ M) : OdN M o := fun p hp => by
  obtain ⟨h1, h2, h3, h4⟩ := ho p hp
  exact ⟨h1, h2, Nat.le_trans h3 h, h4⟩
theorem X_le {N : Nat} {o : List (Nat × Nat)} (ho : OdN N o) (hN : 1 ≤ N) (i : Nat) (h : i < o.length) (S : Nat → Bool) : X o S i 1 ≤ Bo o i := by
  have := Q_le (od_set ho i (p := (1, 1)) (Nat.le_refl _) Nat.one_pos hN rfl) S 0 o.length
  rw [Bo_set (1, 1) h, Nat.one_mul] at this
  exact this
theorem Bo_pos {N : Nat} {o : List (Nat × Nat)} (ho : OdN N o) (hN : 1 ≤ N) (i : Nat) : 0 < Bo o i := B_pos (od_set ho i (p := (0, 1)) (Nat.zero_le _) Nat.one_pos hN rfl) _ _
/-! ### shares against each other -/
theorem lt_iff {a b c d : Nat} (hb : 0 < b) (hd : 0 < d) : a / Nat.gcd a b * (d / Nat.gcd c d) < c / Nat.gcd c d * (b / Nat.gcd a b) ↔ a * d < c * b := by
  have e1 := div_mul_gcd (n := a) (d := b)
  have e2 := div_mul_gcd' (n := a) (d := b)
  have e3 := div_mul_gcd (n := c) (d := d)
  have e4 := div_mul_gcd' (n := c) (d := d)
  have g1 := gcd_pos (n := a) hb
  have g2 := gcd_pos (n := c) hd
  generalize a / Nat.gcd a b = x at *
  generalize b / Nat.gcd a b = y at *
  generalize c / Nat.gcd c d = x' at *
  generalize d / Nat.gcd c d = y' at *
  generalize Nat.gcd a b = g at *
  generalize Nat.gcd c d = g' at *
  subst e1 e2 e3 e4
  have q1 : x * g * (y' * g') = x * y' * (g * g') := by ac_rfl
  have q2 : x' * g' * (y * g) = x' * y * (g * g') := by ac_rfl
  rw [q1, q2]
  exact (Nat.mul_lt_mul_right (Nat.mul_pos g1 g2)).symm
theorem rd_minus {n d n' d' : Nat} (hd : 0 < d) (hd' : 0 < d') : rd (n / Nat.gcd n d * (d' / Nat.gcd n' d') - n' / Nat.gcd n' d' * (d / Nat.gcd n d)) (d / Nat.gcd n d * (d' / Nat.gcd n' d')) = rd (n * d' - n' * d) (d * d') := by
  refine rd_eq (Nat.mul_pos (low_pos hd) (low_pos hd')) (Nat.mul_pos hd hd') ?_
  have e1 := div_mul_gcd (n := n) (d := d)
  have e2 := div_mul_gcd' (n := n) (d := d)
  have e3 := div_mul_gcd (n := n') (d := d')
  have e4 := div_mul_gcd' (n := n') (d := d')
  generalize n / Nat.gcd n d = x at *
  generalize d / Nat.gcd n d = y at *
  generalize n' / Nat.gcd n' d' = x' at *
  generalize d' / Nat.gcd n' d' = y' at *
  generalize Nat.gcd n d = g at *
  generalize Nat.gcd n' d' = g' at *
  subst e1 e2 e3 e4
  rw [Nat.sub_mul, Nat.sub_mul]
  congr 1 <;> ac_rfl
end KT
end
section
set_option Elab.async false
set_option linter.all false
set_option maxRecDepth 100000
set_option maxHeartbeats 1000000
namespace KT
open PC PySem
/-! ### heaviest first -/
def rb (key : Nat → Nat) (a b : Nat) : Bool := decide (key b < key a) || (decide (key a = key b) && decide (a < b))
theorem rb_iff {key : Nat → Nat} {a b : Nat} : rb key a b = true ↔ key b < key a ∨ (key a = key b ∧ a < b) := by
  unfold rb
  rw [Bool.or_eq_true, Bool.and_eq_true, decide_eq_true_eq, decide_eq_true_eq, decide_eq_true_eq]
theorem rb_irr {key : Nat → Nat} {a : Nat} : rb key a a = false := by
  cases h : rb key a a with
  | false => rfl
  | true => rw [rb_iff] at h; omega
theorem rb_asym {key : Nat → Nat} {a b : Nat} (h : rb key a b = true) : rb key b a = false := by
  cases h' : rb key b a with
  | false => rfl
  | true => rw [rb_iff] at h h'; omega
theorem rb_trans {key : Nat → Nat} {a b c : Nat} (h : rb key a b = true) (h' : rb key b c = true) : rb key a c = true := by
  rw [rb_iff] at *; omega
structure Srt (key : Nat → Nat) (n : Nat) (F : List Nat) : Prop where
  pw : F.Pairwise fun a b => rb key a b = true
  pm : F.Perm (List.range n)
theorem Srt.nil (key : Nat → Nat) : Srt key 0 [] := ⟨.nil, .nil⟩
theorem Srt.len {key : Nat → Nat} {n : Nat} {F : List Nat} (h : Srt key n F) : F.length = n := by rw [h.pm.length_eq, List.length_range]
theorem Srt.lt {key : Nat → Nat} {n : Nat} {F : List Nat} (h : Srt key n F) {x : Nat} (hx : x ∈ F) : x < n := List.mem_range.mp (h.pm.mem_iff.mp hx)
theorem Srt.at_ {key : Nat → Nat} {n : Nat} {F : List Nat} (h : Srt key n F) {p q x y : Nat} (hp : F[p]? = some x) (hq : F[q]? = some y) (hpq : p < q) : rb key x y = true := by
  obtain ⟨h1, h2⟩ := List.getElem?_eq_some_iff.mp hp
  obtain ⟨h3, h4⟩ := List.getElem?_eq_some_iff.mp hq
  have := List.pairwise_iff_getElem.mp h.pw p q h1 h3 hpq
  rwa [h2, h4] at this
theorem Srt.ins {key : Nat → Nat} {n a : Nat} {F : List Nat} (h : Srt key n F) (ha : a ≤ n) (h1 : ∀ p x, p < a → F[p]? = some x → key n ≤ key x) (h2 : ∀ p x, a ≤ p → F[p]? = some x → key x < key n) : Srt key (n + 1) (F.take a ++ n :: F.drop a) := by
  have hx : ∀ x, x ∈ F.take a → x < n ∧ key n ≤ key x := fun x hx => by
    refine ⟨h.lt (List.mem_of_mem_take hx), ?_⟩
    obtain ⟨p, hp, e⟩ := List.getElem_of_mem hx
    rw [List.length_take] at hp
    exact h1 p x (by omega) (by rw [← e, List.getElem_take, List.getElem?_eq_getElem])
  have hy : ∀ y, y ∈ F.drop a → y < n ∧ key y < key n := fun y hy => by
    refine ⟨h.lt (List.mem_of_mem_drop hy), ?_⟩
    obtain ⟨p, hp, e⟩ := List.getElem_of_mem hy
    rw [List.length_drop] at hp
    exact h2 (a + p) y (by omega) (by rw [← e, List.getElem_drop, List.getElem?_eq_getElem])
  have pw := h.pw
  rw [← List.take_append_drop a F, List.pairwise_append] at pw
  constructor
  · rw [List.pairwise_append, List.pairwise_cons]
    refine ⟨pw.1, ⟨fun y hy' => ?_, pw.2.1⟩, fun x hx' y hy' => ?_⟩
    · rw [rb_iff]; exact .inl (hy y hy').2
    · rcases List.mem_cons.mp hy' with rfl | hy'
      · have := hx x hx'
        rw [rb_iff]; omega
      · exact pw.2.2 x hx' y hy'
  · refine (List.perm_middle).trans ?_
    rw [List.take_append_drop, List.range_succ]
    exact (h.pm.cons n).trans (List.perm_append_comm (l₁ := [n]) (l₂ := List.range n))
theorem before {key : Nat → Nat} {i : Nat} : ∀ {F : List Nat}, F.Pairwise (fun a b => rb key a b = true) → ∀ {p : Nat}, F[p]? = some i → (F.filter fun x => rb key x i).length = p
  | [], _, p, h => by simp at h
  | x :: F, pw, 0, h => by
    rw [List.pairwise_cons] at pw
    have e : x = i := by simpa using h
    subst e
    rw [List.filter_cons, rb_irr, if_neg Bool.false_ne_true]
    have : F.filter (fun y => rb key y x) = [] := by
      rw [List.filter_eq_nil_iff]
      intro y hy hh
      rw [rb_asym (pw.1 y hy)] at hh
      cases hh
    rw [this]; rfl
  | x :: F, pw, p + 1, h => by
    rw [List.pairwise_cons] at pw
    rw [List.getElem?_cons_succ] at h
    rw [List.filter_cons, if_pos (pw.1 i (List.mem_of_getElem? h)), List.length_cons, before pw.2 h]
abbrev cnt (key : Nat → Nat) (n i : Nat) : Nat := ((List.range n).filter fun x => rb key x i).length
theorem Srt.place {key : Nat → Nat} {n i : Nat} {F : List Nat} (h : Srt key n F) (hi : i < n) : F[cnt key n i]? = some i := by
  obtain ⟨p, hp, e⟩ := List.getElem_of_mem (h.pm.mem_iff.mpr (List.mem_range.mpr hi))
  have hp' : F[p]? = some i := by rw [← e, List.getElem?_eq_getElem]
  have := before h.pw hp'
  unfold cnt
  rw [← (h.pm.filter _).length_eq, this]
  exact hp'
theorem Srt.fill {key : Nat → Nat} {n : Nat} {F E : List Nat} (h : Srt key n F) (hE : E.length = n) (hp : ∀ i, i < n → E[cnt key n i]? = some i) : E = F := by
  apply List.ext_getElem?
  intro p
  by_cases hn : p < n
  · have hl := h.len
    have hpF : F[p]? = some (F[p]'(by omega)) := List.getElem?_eq_getElem (by omega)
    have hi := h.lt (List.mem_of_getElem? hpF)
    have hc := before h.pw hpF
    have e : cnt key n (F[p]'(by omega)) = p := by
      unfold cnt
      rw [← (h.pm.filter _).length_eq, hc]
    have := hp _ hi
    rw [e] at this
    rw [this, hpF]
  · rw [List.getElem?_eq_none (by omega), List.getElem?_eq_none (by have := h.len; omega)]
theorem Srt.cnt_lt {key : Nat → Nat} {n i : Nat} {F : List Nat} (h : Srt key n F) (hi : i < n) : cnt key n i < n := by
  have := (List.getElem?_eq_some_iff.mp (h.place hi)).1
  rw [h.len] at this
  exact this
theorem Srt.cnt_inj {key : Nat → Nat} {n i j : Nat} {F : List Nat} (h : Srt key n F) (hi : i < n) (hj : j < n) (e : cnt key n i = cnt key n j) : i = j := by
  have h1 := h.place hi
  rw [e, h.place hj] at h1
  exact (Option.some.inj h1).symm
/-! ### weights of parts as whole numbers -/
def wkey (o : List (Nat × Nat)) (S : Nat → Bool) (i : Nat) : Nat := (X o S i 1 - X o S i 0) * (o.getD i (0, 1)).2
theorem Bo_mul {o : List (Nat × Nat)} {i : Nat} (h : i < o.length) : (o.getD i (0, 1)).2 * Bo o i = B o 0 o.length := by
  have := Bo_set (o.getD i (0, 1)) h
  rw [← this]
  congr 1
  have e : o.getD i (0, 1) = o[i] := by rw [List.getD_eq_getElem?_getD, List.getElem?_eq_getElem h]; rfl
  rw [e, List.set_getElem_self]
theorem wkey_lt {N : Nat} {o : List (Nat × Nat)} (ho : OdN N o) {S : Nat → Bool} {i j : Nat} (hi : i < o.length) (hj : j < o.length) : (X o S i 1 - X o S i 0) * Bo o j < (X o S j 1 - X o S j 0) * Bo o i ↔ wkey o S i < wkey o S j := by
  unfold wkey
  have e1 := Bo_mul hi
  have e2 := Bo_mul hj
  have p1 := (ho.at_ i).2.1
  have p2 := (ho.at_ j).2.1
  have p3 := B_pos ho o.length 0
  generalize X o S i 1 - X o S i 0 = a at *
  generalize X o S j 1 - X o S j 0 = b at *
  generalize (o.getD i (0, 1)).2 = d at *
  generalize (o.getD j (0, 1)).2 = e at *
  have q1 : a * Bo o j * (d * e) = a * d * B o 0 o.length := by rw [← e2]; ac_rfl
  have q2 : b * Bo o i * (d * e) = b * e * B o 0 o.length := by rw [← e1]; ac_rfl
  rw [← Nat.mul_lt_mul_right (a := d * e) (Nat.mul_pos p1 p2), q1, q2]
  exact Nat.mul_lt_mul_right p3
end KT
end
section
set_option Elab.async false
set_option linter.all false
set_option maxRecDepth 100000
set_option maxHeartbeats 4000000
namespace K07
open PC PySem L2 PyProof.Rows
def top (i : Nat) : Stmt := PySem.Challenge.pw_faultwood_k07_trees_known.main.body.getD i (.Pass ⟨0, 0, 0, 0⟩)
def cm (i j : Nat) : Stmt := match top i with
  | .ClassDef _ _ _ b _ _ _ _ _ _ _ => b.getD j (.Pass ⟨0, 0, 0, 0⟩)
  | s => s
def f_is_whole : Fn := ⟨1, 1, false, (.cons (.ret (.and (.isI (.var 0) .int) (.not (.isI (.var 0) .bool)))) .nil)⟩
def d_is_whole : DR := ⟨"is_whole", top 13, ["thing"], ["thing"], f_is_whole, none⟩
def f_is_among : Fn := ⟨3, 3, false, (.cons (.ret (.and (.call "is_whole" (.cons (.var 0) .nil)) (.chain .LtE .LtE (.var 1) (.var 0) (.var 2)))) .nil)⟩
def d_is_among : DR := ⟨"is_among", top 18, ["thing", "least", "most"], ["thing", "least", "most"], f_is_among, none⟩
def E_is_row_1 : CE := (.call "is_among" (.cons (.var 3) (.cons (cN 0) (.cons (.bin .Sub (.var 1) (cN 1)) .nil))))
def f_is_row : Fn := ⟨3, 4, false, (.cons (.ifs (.or (.not (.isI (.var 0) .tuple)) (.or (.cmp .Lt (.blt .len (.cons (.var 0) .nil)) (cN 2)) (.not (.isI (.idx (.var 0) (cN 0)) .str)))) (.cons (.ret (.bl false)) .nil) .nil) (.cons (.ifs (.cmp .Lt (.var 1) (.var 2)) (.cons (.ret (.and (.cmp .Eq (.idx (.var 0) (cN 0)) (.str [112, 97, 114, 116])) (.and (.cmp .Eq (.blt .len (.cons (.var 0) .nil)) (cN 2)) (.and (.call "is_whole" (.cons (.idx (.var 0) (cN 1)) .nil)) (.cmp .Eq (.idx (.var 0) (cN 1)) (.var 1)))))) .nil) .nil) (.cons (.ifs (.or (.cmp .NotEq (.idx (.var 0) (cN 0)) (.str [108, 101, 97, 115, 116])) (.or (.cmp .NotEq (.blt .len (.cons (.var 0) .nil)) (cN 3)) (.not (.isI (.idx (.var 0) (cN 2)) .tuple)))) (.cons (.ret (.bl false)) .nil) .nil) (.cons (.ifs (.or (.not (.blt .all (.cons (.new (.comp [3] true (.of (.idx (.var 0) (cN 2))) .none E_is_row_1)) .nil))) (.cmp .NotEq (.lenSet (.idx (.var 0) (cN 2))) (.blt .len (.cons (.idx (.var 0) (cN 2)) .nil)))) (.cons (.ret (.bl false)) .nil) .nil) (.cons (.ret (.and (.cmp .LtE (.blt .len (.cons (.idx (.var 0) (cN 2)) .nil)) (.glob "MOST_CHILDREN")) (.call "is_among" (.cons (.idx (.var 0) (cN 1)) (.cons (cN 1) (.cons (.blt .len (.cons (.idx (.var 0) (cN 2)) .nil)) .nil)))))) .nil)))))⟩
def d_is_row : DR := ⟨"is_row", top 19, ["thing", "at", "many"], ["thing", "at", "many", "child"], f_is_row, none⟩
def E_are_brought_1 : CE := (.call "is_among" (.cons (.var 2) (.cons (cN 0) (.cons (.bin .Sub (.bin .LShift (cN 1) (.var 1)) (cN 1)) .nil))))
def O_are_brought_3 : CO := (.some (.and (.cmp .Eq (.bin .BitAnd (.bin .RShift (.idx (.var 0) (.var 3)) (.var 5)) (cN 1)) (cN 1)) (.cmp .NotEq (.bin .BitAnd (.idx (.var 0) (.var 5)) (.inv (.idx (.var 0) (.var 3)))) (cN 0))))
def E_are_brought_3 : CE := (.var 5)
def B_are_brought_2 : CSs := (.cons (.asg (.name 4) (.new (.comp [5] true (.range1 (.var 1)) O_are_brought_3 E_are_brought_3))) (.cons (.ifs (.or (.cmp .Eq (.bin .BitAnd (.bin .RShift (.idx (.var 0) (.var 3)) (.var 3)) (cN 1)) (cN 0)) (.cmp .NotEq (.var 4) (.new (.disp .nil)))) (.cons (.ret (.bl false)) .nil) .nil) .nil))
def f_are_brought : Fn := ⟨2, 6, false, (.cons (.ifs (.or (.not (.isI (.var 0) .tuple)) (.cmp .NotEq (.blt .len (.cons (.var 0) .nil)) (.var 1))) (.cons (.ret (.bl false)) .nil) .nil) (.cons (.ifs (.not (.blt .all (.cons (.new (.comp [2] true (.of (.var 0)) .none E_are_brought_1)) .nil))) (.cons (.ret (.bl false)) .nil) .nil) (.cons (.forG (.name 3) (.range1 (.var 1)) B_are_brought_2 [3, 4]) (.cons (.ret (.bl true)) .nil))))⟩
def d_are_brought : DR := ⟨"are_brought", top 20, ["thing", "many"], ["thing", "many", "bits", "i", "more", "j"], f_are_brought, none⟩
def E_is_tree_1 : CE := (.call "is_row" (.cons (.var 5) (.cons (.var 4) (.cons (.var 1) .nil))))
def f_is_tree : Fn := ⟨1, 6, false, (.cons (.ifs (.or (.not (.isI (.var 0) .tuple)) (.or (.cmp .NotEq (.blt .len (.cons (.var 0) .nil)) (cN 3)) (.not (.call "is_among" (.cons (.idx (.var 0) (cN 0)) (.cons (cN 1) (.cons (.glob "MOST_MANY") .nil))))))) (.cons (.ret (.bl false)) .nil) .nil) (.cons (.asg (.names [1, 2, 3]) (.var 0)) (.cons (.ifs (.or (.not (.isI (.var 2) .tuple)) (.not (.chain .LtE .LtE (.var 1) (.blt .len (.cons (.var 2) .nil)) (.bin .Add (.var 1) (.glob "MOST_GATES"))))) (.cons (.ret (.bl false)) .nil) .nil) (.cons (.ret (.and (.blt .all (.cons (.new (.comp [4, 5] false (.enum (.var 2)) .none E_is_tree_1)) .nil)) (.call "are_brought" (.cons (.var 3) (.cons (.var 1) .nil))))) .nil))))⟩
def d_is_tree : DR := ⟨"is_tree", top 21, ["thing"], ["thing", "many", "rows", "brought", "at", "row"], f_is_tree, none⟩
def f_need_tree : Fn := ⟨1, 1, false, (.cons (.ifs (.not (.call "is_tree" (.cons (.var 0) .nil))) (.cons (.raise_ "BadTree") .nil) .nil) .nil)⟩
def d_need_tree : DR := ⟨"need_tree", top 22, ["thing"], ["thing"], f_need_tree, none⟩
def f__law_cell : Fn := ⟨2, 3, false, (.cons (.asg (.name 2) (cN 17)) (.cons (.ifs (.cmp .NotEq (.var 0) (.new (.disp .nil))) (.cons (.asg (.name 2) (.bin .Mod (.idx (.var 0) (.bin .Mod (.var 1) (.blt .len (.cons (.var 0) .nil)))) (cN 2147483647))) .nil) .nil) (.cons (.ret (.bin .FloorDiv (.bin .Mod (.bin .Mult (.bin .Mod (.bin .Mult (.bin .Add (.bin .Add (.var 2) (.bin .Mult (.bin .Mult (cN 7919) (.var 1)) (.var 1))) (.bin .Mult (cN 31) (.var 1))) (cN 48271)) (cN 2147483647)) (cN 69621)) (cN 2147483629)) (cN 64))) .nil)))⟩
def d__law_cell : DR := ⟨"_law_cell", top 24, ["_law_script", "_law_k"], ["_law_script", "_law_k", "_law_cell_here"], f__law_cell, none⟩
def E__law_brought_1 : CE := (.bin .LShift (cN 1) (.var 3))
def B__law_brought_2 : CSs := (.cons (.asg (.name 6) (.call "_law_cell" (.cons (.var 0) (.cons (.bin .Add (cN 2) (.var 5)) .nil)))) (.cons (.expr (.mth .append (.var 4) (.cons (.tup (.cons (.bin .Mod (.var 6) (.var 1)) (.cons (.bin .Mod (.bin .FloorDiv (.var 6) (cN 12)) (.var 1)) .nil))) .nil))) .nil))
def B__law_brought_5 : CSs := (.cons (.ifs (.cmp .Eq (.bin .BitAnd (.bin .RShift (.idx (.var 2) (.var 3)) (.var 8)) (cN 1)) (cN 1)) (.cons (.asg (.sub (.var 2) (.var 3)) (.bin .BitOr (.idx (.var 2) (.var 3)) (.idx (.var 2) (.var 9)))) .nil) .nil) .nil)
def B__law_brought_4 : CSs := (.cons (.forG (.name 3) (.range1 (.var 1)) B__law_brought_5 [0, 3, 5, 6, 7]) .nil)
def B__law_brought_3 : CSs := (.cons (.forG (.names [8, 9]) (.of (.var 4)) B__law_brought_4 [0, 3, 5, 6, 7, 8, 9]) .nil)
def f__law_brought : Fn := ⟨2, 10, false, (.cons (.asg (.name 2) (.cell (.comp [3] true (.range1 (.var 1)) .none E__law_brought_1))) (.cons (.asg (.name 4) (.cell (.disp .nil))) (.cons (.forG (.name 5) (.range1 (.bin .Mod (.call "_law_cell" (.cons (.var 0) (.cons (cN 1) .nil))) (cN 6))) B__law_brought_2 [5, 6]) (.cons (.forG (.name 7) (.range1 (.var 1)) B__law_brought_3 [0, 3, 5, 6, 7, 8, 9]) (.cons (.ret (.blt .tuple (.cons (.var 2) .nil))) .nil)))))⟩
def d__law_brought : DR := ⟨"_law_brought", top 25, ["_law_script", "_law_many"], ["_law_script", "_law_many", "_law_found", "_law_i", "_law_pairs", "_law_k", "_law_number", "_law_turn", "_law_one", "_law_other"], f__law_brought, none⟩
def E__law_tree_1 : CE := (.tup (.cons (.str [112, 97, 114, 116]) (.cons (.var 4) .nil)))
def B__law_tree_3 : CSs := (.cons (.asg (.name 9) (.bin .Mod (.call "_law_cell" (.cons (.var 0) (.cons (.bin .Add (.bin .Add (cN 40) (.bin .Mult (cN 8) (.var 5))) (.var 8)) .nil))) (.blt .len (.cons (.var 3) .nil)))) (.cons (.ifs (.cmp .NotIn (.var 9) (.var 7)) (.cons (.expr (.mth .append (.var 7) (.cons (.var 9) .nil))) .nil) .nil) .nil))
def B__law_tree_2 : CSs := (.cons (.asg (.name 6) (.call "_law_cell" (.cons (.var 0) (.cons (.bin .Add (cN 10) (.var 5)) .nil)))) (.cons (.asg (.name 7) (.cell (.disp .nil))) (.cons (.forG (.name 8) (.range1 (.bin .Add (cN 1) (.bin .Mod (.var 6) (cN 8)))) B__law_tree_3 [1, 8, 9]) (.cons (.expr (.mth .append (.var 3) (.cons (.tup (.cons (.str [108, 101, 97, 115, 116]) (.cons (.bin .Add (cN 1) (.bin .Mod (.bin .FloorDiv (.var 6) (cN 8)) (.blt .len (.cons (.var 7) .nil)))) (.cons (.blt .tuple (.cons (.var 7) .nil)) .nil)))) .nil))) .nil))))
def f__law_tree : Fn := ⟨1, 10, false, (.cons (.asg (.name 1) (.call "_law_cell" (.cons (.var 0) (.cons (cN 0) .nil)))) (.cons (.asg (.name 2) (.bin .Add (cN 1) (.bin .Mod (.var 1) (cN 12)))) (.cons (.asg (.name 3) (.cell (.comp [4] true (.range1 (.var 2)) .none E__law_tree_1))) (.cons (.forG (.name 5) (.range1 (.idx (.new (.disp (.cons (.bin .Mod (.bin .FloorDiv (.var 1) (cN 12)) (cN 22)) (.cons (.bin .Mod (.bin .FloorDiv (.var 1) (cN 12)) (cN 5)) .nil)))) (.bin .Mod (.bin .FloorDiv (.var 1) (cN 264)) (cN 2)))) B__law_tree_2 [1, 5, 6, 7, 8, 9]) (.cons (.ret (.tup (.cons (.var 2) (.cons (.blt .tuple (.cons (.var 3) .nil)) (.cons (.call "_law_brought" (.cons (.var 0) (.cons (.var 2) .nil))) .nil))))) .nil)))))⟩
def d__law_tree : DR := ⟨"_law_tree", top 26, ["_law_script"], ["_law_script", "_law_number", "_law_many", "_law_rows", "_law_i", "_law_k", "_law_more", "_law_children", "_law_j", "_law_child"], f__law_tree, none⟩
def f__law_put : Fn := ⟨3, 3, false, (.cons (.ret (.bin .Add (.bin .Add (.slice (.var 0) .none (.some (.var 1))) (.tup (.cons (.var 2) .nil))) (.slice (.var 0) (.some (.bin .Add (.var 1) (cN 1))) .none))) .nil)⟩
def d__law_put : DR := ⟨"_law_put", top 27, ["_law_row", "_law_at", "_law_thing"], ["_law_row", "_law_at", "_law_thing"], f__law_put, none⟩
def f__law_row_spoilt : Fn := ⟨3, 9, false, (.cons (.asg (.names [3, 4, 5]) (.var 0)) (.cons (.asg (.name 6) (.idx (.new (.disp (.cons .non (.cons (.str [49]) (.cons (.bl true) (.cons (.neg (cN 1)) (.cons (.var 1) (.cons (.bin .Add (.bin .Add (.var 1) (cN 1)) (.bin .Mod (.bin .FloorDiv (.var 2) (cN 90)) (cN 5))) (.cons (.tup (.cons (cN 0) .nil)) .nil))))))))) (.bin .Mod (.bin .FloorDiv (.var 2) (cN 10)) (cN 7)))) (.cons (.asg (.name 7) (.bin .Mod (.bin .FloorDiv (.var 2) (cN 700)) (.blt .len (.cons (.var 5) .nil)))) (.cons (.asg (.name 8) (.new (.disp (.cons (.tup (.cons (.var 3) (.cons (cN 0) (.cons (.var 5) .nil)))) (.cons (.tup (.cons (.var 3) (.cons (.bin .Add (.blt .len (.cons (.var 5) .nil)) (cN 1)) (.cons (.var 5) .nil)))) (.cons (.tup (.cons (.var 3) (.cons (.bl true) (.cons (.var 5) .nil)))) (.cons (.tup (.cons (.str [109, 111, 115, 116]) (.cons (.var 4) (.cons (.var 5) .nil)))) .nil))))))) (.cons (.asg (.name 8) (.bin .Add (.var 8) (.new (.disp (.cons (.tup (.cons (.var 3) (.cons (.var 4) (.cons (.tup .nil) .nil)))) (.cons (.tup (.cons (.var 3) (.cons (.var 4) (.cons (.bin .Add (.var 5) (.tup (.cons (.idx (.var 5) (cN 0)) .nil))) .nil)))) (.cons (.tup (.cons (.var 3) (.cons (.var 4) (.cons (.new (.listOf (.var 5))) .nil)))) (.cons (.slice (.var 0) .none (.some (cN 2))) .nil)))))))) (.cons (.asg (.name 8) (.bin .Add (.var 8) (.new (.disp (.cons (.tup (.cons (.var 3) (.cons (.var 4) (.cons (.call "_law_put" (.cons (.var 5) (.cons (.var 7) (.cons (.var 6) .nil)))) .nil)))) (.cons (.tup (.cons (.var 3) (.cons (.var 4) (.cons (.tupR (cN 9)) .nil)))) (.cons (.new (.listOf (.var 0))) (.cons (.bin .Add (.var 0) (.tup (.cons (cN 0) .nil))) .nil)))))))) (.cons (.ret (.ite (.or (.cmp .NotEq (.bin .Mod (.var 2) (cN 12)) (cN 9)) (.cmp .Gt (.var 1) (cN 8))) (.idx (.var 8) (.bin .Mod (.var 2) (cN 12))) (.slice (.var 0) .none (.some (cN 2))))) .nil)))))))⟩
def d__law_row_spoilt : DR := ⟨"_law_row_spoilt", top 28, ["_law_row", "_law_at", "_law_number"], ["_law_row", "_law_at", "_law_number", "_law_word", "_law_many", "_law_children", "_law_odd", "_law_place", "_law_some"], f__law_row_spoilt, none⟩
def f__law_spoilt : Fn := ⟨2, 10, false, (.cons (.asg (.names [2, 3, 4]) (.var 0)) (.cons (.asg (.name 5) (.bin .Mod (.bin .FloorDiv (.var 1) (cN 24)) (.var 2))) (.cons (.asg (.name 6) (.bin .Mod (.var 1) (cN 12))) (.cons (.ifs (.and (.cmp .Lt (.var 6) (cN 4)) (.cmp .Gt (.blt .len (.cons (.var 3) .nil)) (.var 2))) (.cons (.asg (.name 7) (.bin .Add (.var 2) (.bin .Mod (.bin .FloorDiv (.var 1) (cN 300)) (.bin .Sub (.blt .len (.cons (.var 3) .nil)) (.var 2))))) (.cons (.ret (.tup (.cons (.var 2) (.cons (.call "_law_put" (.cons (.var 3) (.cons (.var 7) (.cons (.call "_law_row_spoilt" (.cons (.idx (.var 3) (.var 7)) (.cons (.var 7) (.cons (.bin .FloorDiv (.var 1) (cN 7000)) .nil)))) .nil)))) (.cons (.var 4) .nil))))) .nil)) .nil) (.cons (.ifs (.cmp .Lt (.var 6) (cN 7)) (.cons (.asg (.name 8) (.new (.disp (.cons (.tup (.cons (.str [112, 97, 114, 116]) (.cons (.bin .Add (.var 5) (cN 1)) .nil))) (.cons (.tup (.cons (.str [112, 97, 114, 116]) (.cons (.bl true) .nil))) (.cons (.tup (.cons (.str [108, 101, 97, 115, 116]) (.cons (cN 1) (.cons (.tup (.cons (cN 0) .nil)) .nil)))) (.cons (.tup (.cons (.str [112, 97, 114, 116]) (.cons (.var 5) (.cons (cN 0) .nil)))) (.cons (.new (.disp (.cons (.str [112, 97, 114, 116]) (.cons (.var 5) .nil)))) .nil)))))))) (.cons (.asg (.name 8) (.bin .Add (.var 8) (.new (.disp (.cons (.tup (.cons (.str [112, 97, 114, 116]) (.cons (.blt .str (.cons (.var 5) .nil)) .nil))) (.cons (.str [112, 97, 114, 116]) .nil)))))) (.cons (.ret (.tup (.cons (.var 2) (.cons (.call "_law_put" (.cons (.var 3) (.cons (.var 5) (.cons (.idx (.var 8) (.bin .Mod (.bin .FloorDiv (.var 1) (cN 300)) (cN 7))) .nil)))) (.cons (.var 4) .nil))))) .nil))) .nil) (.cons (.ifs (.cmp .Eq (.var 6) (cN 7)) (.cons (.asg (.name 9) (.idx (.new (.disp (.cons (.bin .BitAnd (.idx (.var 4) (.var 5)) (.inv (.bin .LShift (cN 1) (.var 5)))) (.cons (.bin .BitOr (.idx (.var 4) (.var 5)) (.bin .LShift (cN 1) (.var 2))) (.cons (.neg (cN 1)) (.cons (.bl true) (.cons .non (.cons (.str [49]) .nil)))))))) (.bin .Mod (.bin .FloorDiv (.var 1) (cN 300)) (cN 6)))) (.cons (.ret (.tup (.cons (.var 2) (.cons (.var 3) (.cons (.call "_law_put" (.cons (.var 4) (.cons (.var 5) (.cons (.ite (.or (.cmp .Gt (.var 5) (cN 0)) (.cmp .IsNot (.var 9) (.bl true))) (.var 9) (cN 0)) .nil)))) .nil))))) .nil)) .nil) (.cons (.ifs (.cmp .Eq (.var 6) (cN 8)) (.cons (.ret (.tup (.cons (.var 2) (.cons (.var 3) (.cons (.idx (.new (.disp (.cons (.slice (.var 4) .none (.some (.neg (cN 1)))) (.cons (.bin .Add (.var 4) (.tup (.cons (cN 0) .nil))) (.cons (.new (.listOf (.var 4))) .nil))))) (.bin .Mod (.bin .FloorDiv (.var 1) (cN 300)) (cN 3))) .nil))))) .nil) .nil) (.cons (.ifs (.cmp .Eq (.var 6) (cN 9)) (.cons (.ret (.tup (.cons (.idx (.new (.disp (.cons (cN 0) (.cons (cN 13) (.cons (.bl true) (.cons .non (.cons (.str [51]) (.cons (.bin .Add (.var 2) (cN 25)) .nil)))))))) (.bin .Mod (.bin .FloorDiv (.var 1) (cN 300)) (cN 6))) (.cons (.var 3) (.cons (.var 4) .nil))))) .nil) .nil) (.cons (.ifs (.cmp .Eq (.var 6) (cN 10)) (.cons (.ret (.idx (.new (.disp (.cons (.tup (.cons (.var 2) (.cons (.new (.listOf (.var 3))) (.cons (.var 4) .nil)))) (.cons (.slice (.var 0) .none (.some (cN 2))) (.cons (.bin .Add (.var 0) (.tup (.cons (.tup .nil) .nil))) (.cons (.new (.listOf (.var 0))) (.cons (.tup (.cons (.var 2) (.cons (.tup .nil) (.cons (.var 4) .nil)))) .nil))))))) (.bin .Mod (.bin .FloorDiv (.var 1) (cN 300)) (cN 5)))) .nil) .nil) (.cons (.ret (.idx (.new (.disp (.cons .non (.cons (cN 5) (.cons (.str [116, 114, 101, 101]) (.cons (.dict0 false) (.cons (.tup .nil) (.cons (.tup (.cons (.tup .nil) (.cons (.tup .nil) (.cons (.tup .nil) .nil)))) .nil)))))))) (.bin .Mod (.bin .FloorDiv (.var 1) (cN 300)) (cN 6)))) .nil))))))))))⟩
def d__law_spoilt : DR := ⟨"_law_spoilt", top 29, ["_law_tree_here", "_law_number"], ["_law_tree_here", "_law_number", "_law_many", "_law_rows", "_law_brought_here", "_law_i", "_law_way", "_law_at", "_law_odd", "_law_bits"], f__law_spoilt, none⟩
def f__law_refused : Fn := ⟨1, 4, false, (.cons (.asg (.name 1) .non) (.cons (.tryK (.cons (.expr (.call "need_tree" (.cons (.var 0) .nil))) .nil) "FaultError" 2 1) (.cons (.ifs (.cmp .Is (.var 1) .non) (.cons (.ret (cN 0)) .nil) .nil) (.cons (.asg (.name 3) (.isX (.var 1) false ["BadLine", "BadNumber", "BadOdds", "BadSets", "BadText", "Lacking", "NoPlan", "TooMany", "Twice"])) (.cons (.ret (.ite (.and (.isX (.var 1) true ["BadTree"]) (.and (.isX (.var 1) true ["ValueError"]) (.not (.var 3)))) (cN 1) (cN 2))) .nil)))))⟩
def d__law_refused : DR := ⟨"_law_refused", top 30, ["_law_thing"], ["_law_thing", "_law_kept", "e", "_law_others"], f__law_refused, none⟩
def B_law_1 : CSs := (.cons (.asg (.name 4) (.call "_law_spoilt" (.cons (.var 1) (.cons (.call "_law_cell" (.cons (.var 0) (.cons (.bin .Add (cN 700) (.var 3)) .nil))) .nil)))) (.cons (.asg (.name 5) (.blt .repr (.cons (.var 4) .nil))) (.cons (.ifs (.or (.cmp .IsNot (.call "is_tree" (.cons (.var 4) .nil)) (.bl false)) (.or (.cmp .NotEq (.call "_law_refused" (.cons (.var 4) .nil)) (cN 1)) (.cmp .NotEq (.blt .repr (.cons (.var 4) .nil)) (.var 5)))) (.cons (.ret (.bl false)) .nil) .nil) .nil)))
def f_law : Fn := ⟨1, 8, false, (.cons (.asg (.name 1) (.call "_law_tree" (.cons (.var 0) .nil))) (.cons (.asg (.name 2) (.blt .repr (.cons (.var 1) .nil))) (.cons (.ifs (.or (.cmp .IsNot (.call "is_tree" (.cons (.var 1) .nil)) (.bl true)) (.or (.cmp .NotEq (.call "_law_refused" (.cons (.var 1) .nil)) (cN 0)) (.cmp .NotEq (.blt .repr (.cons (.var 1) .nil)) (.var 2)))) (.cons (.ret (.bl false)) .nil) .nil) (.cons (.forG (.name 3) (.range1 (cN 12)) B_law_1 [2, 3, 4, 5]) (.cons (.asg (.name 6) (.tup (.cons (cN 3) (.cons (.tup (.cons (.tup (.cons (.str [112, 97, 114, 116]) (.cons (cN 0) .nil))) (.cons (.tup (.cons (.str [112, 97, 114, 116]) (.cons (cN 1) .nil))) (.cons (.tup (.cons (.str [112, 97, 114, 116]) (.cons (cN 2) .nil))) .nil)))) (.cons (.tup (.cons (cN 3) (.cons (cN 6) (.cons (cN 4) .nil)))) .nil))))) (.cons (.asg (.name 7) (.tup (.cons (cN 1) (.cons (.bin .Add (.tup (.cons (.tup (.cons (.str [112, 97, 114, 116]) (.cons (cN 0) .nil))) .nil)) (.bin .Mult (.tup (.cons (.tup (.cons (.str [108, 101, 97, 115, 116]) (.cons (cN 1) (.cons (.tup (.cons (cN 0) .nil)) .nil)))) .nil)) (cN 22))) (.cons (.tup (.cons (cN 1) .nil)) .nil))))) (.cons (.ret (.and (.cmp .Is (.call "is_tree" (.cons (.var 6) .nil)) (.bl false)) (.and (.cmp .Is (.call "is_tree" (.cons (.var 7) .nil)) (.bl false)) (.cmp .Is (.call "is_tree" (.cons (.var 1) .nil)) (.bl true))))) .nil)))))))⟩
def d_law : DR := ⟨"law", top 31, ["_law_script"], ["_law_script", "_law_tree_here", "_law_kept", "_law_k", "_law_bad", "_law_told", "_law_chained", "_law_great"], f_law, none⟩
def ds : List DR := [d_is_whole, d_is_among, d_is_row, d_are_brought, d_is_tree, d_need_tree, d__law_cell, d__law_brought, d__law_tree, d__law_put, d__law_row_spoilt, d__law_spoilt, d__law_refused, d_law]
def cr : List CR := []
def xs : XS := ⟨[("BadTree", ["BadTree", "FaultError", "ValueError"])], ["BadLine", "BadNumber", "BadOdds", "BadSets", "BadText", "BadTree", "FaultError", "Lacking", "NoPlan", "TooMany", "Twice", "ValueError"]⟩
def cs : List (String × KC) := [("MOST_MANY", .int 12), ("MOST_GATES", .int 21), ("MOST_CHILDREN", .int 8)]
theorem b_is_whole : BindOk d_is_whole := fun _ _ _ _ _ _ _ _ us hl => match us, hl with | [_], _ => rfl
theorem b_is_among : BindOk d_is_among := fun _ _ _ _ _ _ _ _ us hl => match us, hl with | [_, _, _], _ => rfl
theorem b_is_row : BindOk d_is_row := fun _ _ _ _ _ _ _ _ us hl => match us, hl with | [_, _, _], _ => rfl
theorem b_are_brought : BindOk d_are_brought := fun _ _ _ _ _ _ _ _ us hl => match us, hl with | [_, _], _ => rfl
theorem b_is_tree : BindOk d_is_tree := fun _ _ _ _ _ _ _ _ us hl => match us, hl with | [_], _ => rfl
theorem b_need_tree : BindOk d_need_tree := fun _ _ _ _ _ _ _ _ us hl => match us, hl with | [_], _ => rfl
theorem b__law_cell : BindOk d__law_cell := fun _ _ _ _ _ _ _ _ us hl => match us, hl with | [_, _], _ => rfl
theorem b__law_brought : BindOk d__law_brought := fun _ _ _ _ _ _ _ _ us hl => match us, hl with | [_, _], _ => rfl
theorem b__law_tree : BindOk d__law_tree := fun _ _ _ _ _ _ _ _ us hl => match us, hl with | [_], _ => rfl
theorem b__law_put : BindOk d__law_put := fun _ _ _ _ _ _ _ _ us hl => match us, hl with | [_, _, _], _ => rfl
theorem b__law_row_spoilt : BindOk d__law_row_spoilt := fun _ _ _ _ _ _ _ _ us hl => match us, hl with | [_, _, _], _ => rfl
theorem b__law_spoilt : BindOk d__law_spoilt := fun _ _ _ _ _ _ _ _ us hl => match us, hl with | [_, _], _ => rfl
theorem b__law_refused : BindOk d__law_refused := fun _ _ _ _ _ _ _ _ us hl => match us, hl with | [_], _ => rfl
theorem b_law : BindOk d_law := fun _ _ _ _ _ _ _ _ us hl => match us, hl with | [_], _ => rfl
theorem binds : ∀ d ∈ ds, BindOk d := by
  intro d hd
  simp only [ds, List.mem_cons, List.not_mem_nil, or_false] at hd
  rcases hd with rfl | rfl | rfl | rfl | rfl | rfl | rfl | rfl | rfl | rfl | rfl | rfl | rfl | rfl
  · exact b_is_whole
  · exact b_is_among
  · exact b_is_row
  · exact b_are_brought
  · exact b_is_tree
  · exact b_need_tree
  · exact b__law_cell
  · exact b__law_brought
  · exact b__law_tree
  · exact b__law_put
  · exact b__law_row_spoilt
  · exact b__law_spoilt
  · exact b__law_refused
  · exact b_law
theorem ok_is_whole : d_is_whole.ok = true := by decide +kernel
theorem ok_is_among : d_is_among.ok = true := by decide +kernel
theorem ok_is_row : d_is_row.ok = true := by decide +kernel
theorem ok_are_brought : d_are_brought.ok = true := by decide +kernel
theorem ok_is_tree : d_is_tree.ok = true := by decide +kernel
theorem ok_need_tree : d_need_tree.ok = true := by decide +kernel
theorem ok__law_cell : d__law_cell.ok = true := by decide +kernel
theorem ok__law_brought : d__law_brought.ok = true := by decide +kernel
theorem ok__law_tree : d__law_tree.ok = true := by decide +kernel
theorem ok__law_put : d__law_put.ok = true := by decide +kernel
theorem ok__law_row_spoilt : d__law_row_spoilt.ok = true := by decide +kernel
theorem ok__law_spoilt : d__law_spoilt.ok = true := by decide +kernel
theorem ok__law_refused : d__law_refused.ok = true := by decide +kernel
theorem ok_law : d_law.ok = true := by decide +kernel
theorem oks : ds.all DR.ok = true := by
  simp only [ds, List.all_cons, List.all_nil, Bool.and_true, ok_is_whole, ok_is_among, ok_is_row, ok_are_brought, ok_is_tree, ok_need_tree, ok__law_cell, ok__law_brought, ok__law_tree, ok__law_put, ok__law_row_spoilt, ok__law_spoilt, ok__law_refused, ok_law]
theorem nmok : nmOk ds cr = true := by decide +kernel
abbrev R : PySem.W.OpenRow := PySem.W.OpenLaw.row PySem.Challenge.rw_faultwood_k07_trees_known
def loose0 : List PySem.Str := ["MOST_MANY", "MOST_GATES", "MOST_CHILDREN", "FaultError", "BadText", "Lacking", "Twice", "BadNumber", "TooMany", "BadTree", "BadOdds", "BadSets", "NoPlan", "BadLine", "is_whole", "is_among", "is_row", "are_brought", "is_tree", "need_tree", "_law_cell", "_law_brought", "_law_tree", "_law_put", "_law_row_spoilt", "_law_spoilt", "_law_refused"]
def loose : List PySem.Str := loose0
def fa : List He.Fa := faOf ds cr cs xs
def fn : List He.DefD := ds.map DR.dd
abbrev hk : PySem.W.Hook := hookX 6 fa fn (extraB cs xs)
def ob (s : PySem.W.SharedT) : He.AlD × Bool := obsX 6 fa fn (extraB cs xs) (HandSHeadRun.getT s)
theorem ob_eq (s : PySem.W.SharedT) : ob s = hk.obs s.abs := obsX_eq (HandSHeadRun.getT_eq s)
theorem hrun (w : World) : HandSHeadRun.RunEq R (PySem.W.view R.prog [31]) hk ob 8400 loose w := by
  intro os
  kernel_rfl
def ge : GE := geOf ds cr cs xs
def T : Tab := tab ds
noncomputable def C (k : Nat) : CF := PC.call ge T k
theorem C_eq {k : Nat} {f : String} {fn : Fn} {as : List D} {st : Store} (h : T f = some fn) : C (k + 1) f as st = PC.run ge (C k) fn as st := by
  show (match T f with | some fn => PC.run ge (PC.call ge T k) fn as st | none => .err) = _
  rw [h]; rfl
theorem C_run {k : Nat} {f : String} {fn : Fn} {as : List D} {st : Store} (h : T f = some fn) (hn : as.length = fn.np ∧ fn.np ≤ fn.ns) : C (k + 1) f as st = fnEnd fn.keep st (exs ge (C k) fn.body (as.map some ++ List.replicate (fn.ns - as.length) none) st) := by
  rw [C_eq h]; exact run_eq hn
theorem t_is_whole : T "is_whole" = some f_is_whole := by kernel_rfl
theorem s_is_whole : ge.fs "is_whole" = true := by kernel_rfl
theorem t_is_among : T "is_among" = some f_is_among := by kernel_rfl
theorem s_is_among : ge.fs "is_among" = true := by kernel_rfl
theorem t_is_row : T "is_row" = some f_is_row := by kernel_rfl
theorem s_is_row : ge.fs "is_row" = true := by kernel_rfl
theorem t_are_brought : T "are_brought" = some f_are_brought := by kernel_rfl
theorem s_are_brought : ge.fs "are_brought" = true := by kernel_rfl
theorem t_is_tree : T "is_tree" = some f_is_tree := by kernel_rfl
theorem s_is_tree : ge.fs "is_tree" = true := by kernel_rfl
theorem t_need_tree : T "need_tree" = some f_need_tree := by kernel_rfl
theorem s_need_tree : ge.fs "need_tree" = true := by kernel_rfl
theorem t__law_cell : T "_law_cell" = some f__law_cell := by kernel_rfl
theorem s__law_cell : ge.fs "_law_cell" = true := by kernel_rfl
theorem t__law_brought : T "_law_brought" = some f__law_brought := by kernel_rfl
theorem s__law_brought : ge.fs "_law_brought" = true := by kernel_rfl
theorem t__law_tree : T "_law_tree" = some f__law_tree := by kernel_rfl
theorem s__law_tree : ge.fs "_law_tree" = true := by kernel_rfl
theorem t__law_put : T "_law_put" = some f__law_put := by kernel_rfl
theorem s__law_put : ge.fs "_law_put" = true := by kernel_rfl
theorem t__law_row_spoilt : T "_law_row_spoilt" = some f__law_row_spoilt := by kernel_rfl
theorem s__law_row_spoilt : ge.fs "_law_row_spoilt" = true := by kernel_rfl
theorem t__law_spoilt : T "_law_spoilt" = some f__law_spoilt := by kernel_rfl
theorem s__law_spoilt : ge.fs "_law_spoilt" = true := by kernel_rfl
theorem t__law_refused : T "_law_refused" = some f__law_refused := by kernel_rfl
theorem s__law_refused : ge.fs "_law_refused" = true := by kernel_rfl
theorem t_law : T "law" = some f_law := by kernel_rfl
theorem s_law : ge.fs "law" = true := by kernel_rfl
theorem g_MOST_MANY : ge.gl "MOST_MANY" = some (nD 12) := by kernel_rfl
theorem g_MOST_GATES : ge.gl "MOST_GATES" = some (nD 21) := by kernel_rfl
theorem g_MOST_CHILDREN : ge.gl "MOST_CHILDREN" = some (nD 8) := by kernel_rfl
theorem xc_BadTree : ge.xc "BadTree" = true := by kernel_rfl
theorem sub_BadTree_BadLine : ge.sub "BadTree" "BadLine" = false := by kernel_rfl
theorem sub_BadTree_BadNumber : ge.sub "BadTree" "BadNumber" = false := by kernel_rfl
theorem sub_BadTree_BadOdds : ge.sub "BadTree" "BadOdds" = false := by kernel_rfl
theorem sub_BadTree_BadSets : ge.sub "BadTree" "BadSets" = false := by kernel_rfl
theorem sub_BadTree_BadText : ge.sub "BadTree" "BadText" = false := by kernel_rfl
theorem sub_BadTree_BadTree : ge.sub "BadTree" "BadTree" = true := by kernel_rfl
theorem sub_BadTree_FaultError : ge.sub "BadTree" "FaultError" = true := by kernel_rfl
theorem sub_BadTree_Lacking : ge.sub "BadTree" "Lacking" = false := by kernel_rfl
theorem sub_BadTree_NoPlan : ge.sub "BadTree" "NoPlan" = false := by kernel_rfl
theorem sub_BadTree_TooMany : ge.sub "BadTree" "TooMany" = false := by kernel_rfl
theorem sub_BadTree_Twice : ge.sub "BadTree" "Twice" = false := by kernel_rfl
theorem sub_BadTree_ValueError : ge.sub "BadTree" "ValueError" = true := by kernel_rfl
theorem xk_BadLine : ge.xk "BadLine" = true := by kernel_rfl
theorem xk_BadNumber : ge.xk "BadNumber" = true := by kernel_rfl
theorem xk_BadOdds : ge.xk "BadOdds" = true := by kernel_rfl
theorem xk_BadSets : ge.xk "BadSets" = true := by kernel_rfl
theorem xk_BadText : ge.xk "BadText" = true := by kernel_rfl
theorem xk_BadTree : ge.xk "BadTree" = true := by kernel_rfl
theorem xk_FaultError : ge.xk "FaultError" = true := by kernel_rfl
theorem xk_Lacking : ge.xk "Lacking" = true := by kernel_rfl
theorem xk_NoPlan : ge.xk "NoPlan" = true := by kernel_rfl
theorem xk_TooMany : ge.xk "TooMany" = true := by kernel_rfl
theorem xk_Twice : ge.xk "Twice" = true := by kernel_rfl
theorem xk_ValueError : ge.xk "ValueError" = true := by kernel_rfl
end K07
open PySem PySem.W PySem.Calls PyProof.Rows
theorem K07.holds (hlaw : ∀ ns : List Int, ns.length ≤ 63 → ∃ st, K07.C 40 "law" [.scr (ns.map .int)] [] = .ok (.bl true) st) : PySem.Challenge.rw_faultwood_k07_trees_known.Holds := by
  w_on; o_law
  refine HandSHeadRun.head_any (r := OpenLaw.row PySem.Challenge.rw_faultwood_k07_trees_known) (q := view (OpenLaw.row PySem.Challenge.rw_faultwood_k07_trees_known).prog [31]) (H := K07.hk) (ob := K07.ob) (M := 8400) (loose := K07.loose) (d := HandSHeadRun.topDef (OpenLaw.row PySem.Challenge.rw_faultwood_k07_trees_known).prog 31) (kwd := []) K07.ob_eq
    (by kernel_rfl) (fun s => by kernel_rfl) K07.hrun (by kernel_rfl) (by kernel_rfl) (by kernel_rfl) (by rfl) (by first | assumption | decide +kernel) (by decide +kernel) ⟨rfl, rfl, rfl, rfl, rfl, by decide +kernel⟩ ?hw ?hc
  case hw => w_witness2
  case hc =>
    refine PC.walk_ofG (l := PySem.Challenge.rw_faultwood_k07_trees_known) (n := 63) (k := 80) (x := "_law_script") (CX := L2.CX (PySem.Challenge.rw_faultwood_k07_trees_known).prog) rfl (by decide) (by kernel_rfl) ⟨rfl, by decide, by decide⟩ ?F (fun _ _ _ _ _ z => by obtain ⟨_, _, _, _, _, _, _, _, _, _, _, _, z⟩ := z; exact z)
    intro w mg a h Y G hmg0
    obtain ⟨K, KX, c, cx⟩ := Y
    have hmg : mg ("law" : PySem.Str) = some (.ref a) := by
      have e : (HandSHeadRun.topDef (OpenLaw.row PySem.Challenge.rw_faultwood_k07_trees_known).prog 31).name = ("law" : PySem.Str) := by kernel_rfl
      rw [← e]
      exact hmg0
    obtain ⟨fd, hb, hg, hF⟩ := PC.facts (P := (PySem.Challenge.rw_faultwood_k07_trees_known).prog) (w := w) (x := K07.xs) K07.oks K07.binds K07.nmok KX G c cx K07.d_law (by simp [K07.ds]) (by kernel_rfl) rfl 40
    have e := hmg.symm.trans hg
    cases e
    exact ⟨K, fd, _, KX, fun s v => hb s [v] rfl, fun H a ns hl hS => PC.spLaw hS (hlaw ns hl), fun base => hF base⟩
end
section
set_option Elab.async false
set_option linter.all false
set_option maxRecDepth 100000
set_option maxHeartbeats 2000000
namespace K07
open PC PySem
/-! ### cells, mixed numbers -/
abbrev sc (ns : List Int) : D := .scr (ns.map .int)
theorem bin_modI {x : Int} {b : Nat} {st : Store} (h : 0 < b) : binop .Mod (.int x) (nD b) st = .ok (nD (x % b).toNat) st := by
  show binop .Mod (.int x) (.int (b : Int)) st = _
  rw [bin_mod (by omega), imod_pos (by omega)]
  show Res.ok (D.int (x % (b : Int))) st = .ok (D.int ((x % (b : Int)).toNat : Int)) st
  rw [Int.toNat_of_nonneg (Int.emod_nonneg _ (by omega))]
theorem e_cell {k : Nat} (hk : 1 ≤ k) (ns : List Int) (j : Nat) (hj : j ≤ 1000000) (st : Store) : ∃ n : Nat, n < 2147483648 ∧ C k "_law_cell" [sc ns, nD j] st = .ok (nD n) st := by
  obtain ⟨k, rfl⟩ : ∃ j, k = j + 1 := ⟨k - 1, by omega⟩
  have hq : 7919 * j * j ≤ 7919 * 1000000 * 1000000 := Nat.mul_le_mul (Nat.mul_le_mul_left _ hj) hj
  have key : ∀ c : Nat, c < 2147483648 → ∃ n : Nat, n < 2147483648 ∧ (c + 7919 * j * j + 31 * j) * 48271 % 2147483647 * 69621 % 2147483629 / 64 = n := fun c hc => ⟨_, by omega, rfl⟩
  cases ns with
  | nil =>
    obtain ⟨n, hn, e⟩ := key 17 (by omega)
    refine ⟨n, hn, ?_⟩
    rw [C_run t__law_cell ⟨rfl, by decide⟩, ← e]
    simp (disch := first | assumption | omega | (simp; done) | (simp; omega)) [bin_mulN, bin_modN, bin_divN, bin_shl1, bin_subN, rgR_N, rgL_N, rg2R_N, rr2R_N, gdL, gdLt, fin_sameM, fin_moreM, fin_lenM, finX_sameM, finX_moreM, endT_same, endT_cut, slFrz_cl, onB_dec, ifS, -getElem?_pos, List.getElem?_cons_zero, List.getElem?_cons_succ, f__law_cell, cmp_neL (x := sc []) (y := .lst []) (xs := []) rfl rfl]
  | cons y0 xs =>
    have hl : j % (xs.length + 1) < (y0 :: xs).length := Nat.mod_lt _ (by simp)
    obtain ⟨n, hn, e⟩ := key (((y0 :: xs)[j % (xs.length + 1)] % 2147483647).toNat) (by omega)
    refine ⟨n, hn, ?_⟩
    have hx : (y0 :: xs)[j % (xs.length + 1)]? = some (y0 :: xs)[j % (xs.length + 1)] := List.getElem?_eq_getElem hl
    have hx2 : (D.int y0 :: xs.map D.int)[j % (xs.length + 1)]? = some (D.int (y0 :: xs)[j % (xs.length + 1)]) := by
      rw [← List.map_cons, List.getElem?_map, hx]; rfl
    generalize (y0 :: xs)[j % (xs.length + 1)] = y at *
    have hy : (y % 2147483647).toNat < 2147483648 := by omega
    rw [C_run t__law_cell ⟨rfl, by decide⟩, ← e]
    have nn : ∀ st, cmpB .NotEq (sc (y0 :: xs)) (.lst []) st = .ok true st := fun st => cmp_neL (xs := .int y0 :: xs.map D.int) rfl rfl
    simp (disch := first | assumption | omega | (simp; done) | (simp; omega)) [bin_mulN, bin_modN, bin_divN, bin_shl1, bin_subN, rgR_N, rgL_N, rg2R_N, rr2R_N, gdL, gdLt, fin_sameM, fin_moreM, fin_lenM, finX_sameM, finX_moreM, endT_same, endT_cut, slFrz_cl, onB_dec, ifS, -getElem?_pos, List.getElem?_cons_zero, List.getElem?_cons_succ, f__law_cell, nn, hx2, bin_modI]

/-! ### what is among -/
theorem sh_ni {d : D} (h : plain d = true) (st : Store) : notIns st d = true := by cases d <;> first | rfl | cases h
theorem e_whole {k : Nat} (hk : 1 ≤ k) (x : D) (st : Store) (h : notIns st x = true) : C k "is_whole" [x] st = .ok (.bl (isWh x)) st := by
  obtain ⟨k, rfl⟩ : ∃ j, k = j + 1 := ⟨k - 1, by omega⟩
  have t1 := tyA (bs := ge.bs) (t := .int) h
  have t2 := tyA (bs := ge.bs) (t := .bool) h
  rw [ty_int] at t1
  rw [ty_bool] at t2
  rw [C_run t_is_whole ⟨rfl, by decide⟩]
  cases x with
  | int i =>
    have t1 : tyR ge.bs st (.int i) .int = .ok (.bl true) st := t1
    have t2 : tyR ge.bs st (.int i) .bool = .ok (.bl false) st := t2
    show _ = Res.ok (D.bl true) st
    simp (disch := first | assumption | omega | (simp; done) | (simp; omega)) [bin_mulN, bin_modN, bin_divN, bin_shl1, bin_subN, rgR_N, rgL_N, rg2R_N, rr2R_N, gdL, gdLt, fin_sameM, fin_moreM, fin_lenM, finX_sameM, finX_moreM, endT_same, endT_cut, slFrz_cl, onB_dec, ifS, -getElem?_pos, List.getElem?_cons_zero, List.getElem?_cons_succ, f_is_whole, ty_int, ty_bool, isIb, isBb, t1, t2]
  | bl i =>
    have t1 : tyR ge.bs st (.bl i) .int = .ok (.bl true) st := t1
    have t2 : tyR ge.bs st (.bl i) .bool = .ok (.bl true) st := t2
    show _ = Res.ok (D.bl false) st
    simp (disch := first | assumption | omega | (simp; done) | (simp; omega)) [bin_mulN, bin_modN, bin_divN, bin_shl1, bin_subN, rgR_N, rgL_N, rg2R_N, rr2R_N, gdL, gdLt, fin_sameM, fin_moreM, fin_lenM, finX_sameM, finX_moreM, endT_same, endT_cut, slFrz_cl, onB_dec, ifS, -getElem?_pos, List.getElem?_cons_zero, List.getElem?_cons_succ, f_is_whole, ty_int, ty_bool, isIb, isBb, t1, t2]
  | _ =>
    rw [show isIb _ = false from rfl] at t1
    show _ = Res.ok (D.bl false) st
    simp (disch := first | assumption | omega | (simp; done) | (simp; omega)) [bin_mulN, bin_modN, bin_divN, bin_shl1, bin_subN, rgR_N, rgL_N, rg2R_N, rr2R_N, gdL, gdLt, fin_sameM, fin_moreM, fin_lenM, finX_sameM, finX_moreM, endT_same, endT_cut, slFrz_cl, onB_dec, ifS, -getElem?_pos, List.getElem?_cons_zero, List.getElem?_cons_succ, f_is_whole, ty_int, ty_bool, isIb, isBb, t1]
theorem e_among {k : Nat} (hk : 2 ≤ k) (x : D) (a b : Nat) (st : Store) (h : notIns st x = true) : C k "is_among" [x, nD a, nD b] st = .ok (.bl (amg x a b)) st := by
  obtain ⟨k, rfl⟩ : ∃ j, k = j + 1 := ⟨k - 1, by omega⟩
  have ew := e_whole (k := k) (by omega) x st h
  rw [C_run t_is_among ⟨rfl, by decide⟩]
  cases x with
  | int i =>
    have ew : C k "is_whole" [.int i] st = .ok (.bl true) st := ew
    have c1 : cmpB .LtE (nD a) (.int i) st = .ok (decide ((a : Int) ≤ i)) st := rfl
    have c2 : cmpB .LtE (.int i) (nD b) st = .ok (decide (i ≤ (b : Int))) st := rfl
    show _ = Res.ok (D.bl (decide ((a : Int) ≤ i) && decide (i ≤ (b : Int)))) st
    by_cases q1 : (a : Int) ≤ i <;> by_cases q2 : i ≤ (b : Int) <;> simp (disch := first | assumption | omega | (simp; done) | (simp; omega)) [bin_mulN, bin_modN, bin_divN, bin_shl1, bin_subN, rgR_N, rgL_N, rg2R_N, rr2R_N, gdL, gdLt, fin_sameM, fin_moreM, fin_lenM, finX_sameM, finX_moreM, endT_same, endT_cut, slFrz_cl, onB_dec, ifS, -getElem?_pos, List.getElem?_cons_zero, List.getElem?_cons_succ, f_is_among, s_is_whole, ew, c1, c2, q1, q2]
  | _ =>
    rw [show isWh _ = false from rfl] at ew
    show _ = Res.ok (D.bl false) st
    simp (disch := first | assumption | omega | (simp; done) | (simp; omega)) [bin_mulN, bin_modN, bin_divN, bin_shl1, bin_subN, rgR_N, rgL_N, rg2R_N, rr2R_N, gdL, gdLt, fin_sameM, fin_moreM, fin_lenM, finX_sameM, finX_moreM, endT_same, endT_cut, slFrz_cl, onB_dec, ifS, -getElem?_pos, List.getElem?_cons_zero, List.getElem?_cons_succ, f_is_among, s_is_whole, ew]
theorem amgN (x a b : Nat) : amg (nD x) a b = (decide (a ≤ x) && decide (x ≤ b)) := by
  show (decide ((a : Int) ≤ (x : Int)) && decide ((x : Int) ≤ (b : Int))) = _
  congr 1 <;> (rw [decide_eq_decide]; omega)
theorem shr_and (s i : Nat) : s >>> i &&& 1 = (s.testBit i).toNat := by
  rw [Nat.and_one_is_mod, Nat.shiftRight_eq_div_pow, Nat.toNat_testBit]
theorem eqSS (a b : List Nat) (st : Store) : cmpB .Eq (.str a) (.str b) st = .ok (a == b) st := by
  show eqD st (.str a) (.str b) = _
  exact gd_pos (.inl ⟨rfl, rfl⟩)
theorem neSS (a b : List Nat) (st : Store) : cmpB .NotEq (.str a) (.str b) st = .ok (!(a == b)) st := by
  show (eqD st (.str a) (.str b)).bind (fun b st => Res.ok (!b) st) = _
  have : eqD st (.str a) (.str b) = .ok (a == b) st := gd_pos (.inl ⟨rfl, rfl⟩)
  rw [this]; rfl
/-! ### rows -/
abbrev wP : List Nat := [112, 97, 114, 116]
abbrev wL : List Nat := [108, 101, 97, 115, 116]
def ndp : List Int → Bool
  | [] => true
  | a :: r => !decide (a ∈ r) && ndp r
theorem uniq_le : ∀ is : List Int, (uniqI is).length ≤ is.length
  | [] => Nat.le_refl _
  | a :: r => by
    have := uniq_le r
    unfold uniqI
    split <;> simp only [List.length_cons] <;> omega
theorem uniq_iff : ∀ is : List Int, decide ((uniqI is).length = is.length) = ndp is
  | [] => rfl
  | a :: r => by
    have ih := uniq_iff r
    have := uniq_le r
    unfold uniqI ndp
    by_cases h : a ∈ r
    · rw [if_pos h, decide_eq_true h, List.length_cons, decide_eq_false (by omega)]; rfl
    · rw [if_neg h, decide_eq_false h, List.length_cons, List.length_cons, ← ih]
      rw [decide_eq_decide.mpr (show (uniqI r).length + 1 = r.length + 1 ↔ (uniqI r).length = r.length by omega)]
      rfl
/-- the children of a gate -/
def kidB (cs : List D) (a : Nat) : Bool := cs.all (fun c => amg c ((0 : Nat) : Int) ((a - 1 : Nat) : Int)) && (match toInts cs with
  | some is => ndp is
  | none => false)
def rowB (x : D) (a m : Nat) : Bool := match x with
  | .tup [.str s, y] => decide (a < m) && (s == wP && (isWh y && pyEq y (nD a)))
  | .tup [.str s, y, .tup cs] => !decide (a < m) && (s == wL && (kidB cs a && (decide (cs.length ≤ 8) && amg y 1 cs.length)))
  | _ => false
theorem amg_int {c : D} {a b : Int} (h : amg c a b = true) : ∃ i, c = .int i := by
  cases c <;> first | exact ⟨_, rfl⟩ | cases h
theorem ints_of : ∀ {cs : List D} {a b : Int}, (cs.all fun c => amg c a b) = true → ∃ is, toInts cs = some is ∧ cs = is.map .int
  | [], _, _, _ => ⟨[], rfl, rfl⟩
  | c :: r, a, b, h => by
    rw [List.all_cons, Bool.and_eq_true] at h
    obtain ⟨i, rfl⟩ := amg_int h.1
    obtain ⟨is, e, rfl⟩ := ints_of h.2
    exact ⟨i :: is, by show (toInts (is.map D.int)).map (i :: ·) = _; rw [e]; rfl, rfl⟩
theorem plains_mem : ∀ {xs : List D}, plains xs = true → ∀ x ∈ xs, plain x = true
  | [], _, x, hx => by cases hx
  | a :: r, h, x, hx => by
    have h : (plain a && plains r) = true := h
    rw [Bool.and_eq_true] at h
    rcases List.mem_cons.mp hx with rfl | hx
    · exact h.1
    · exact plains_mem h.2 x hx
theorem e_row {k : Nat} (hk : 3 ≤ k) (x : D) (a m : Nat) (hm : 1 ≤ m) (hp : plain x = true) (hsm : ∀ s y cs, x = .tup [s, y, .tup cs] → cs.length ≤ 1000) (st : Store) : C k "is_row" [x, nD a, nD m] st = .ok (.bl (rowB x a m)) st := by
  obtain ⟨k, rfl⟩ : ∃ j, k = j + 1 := ⟨k - 1, by omega⟩
  have t1 := tyA (bs := ge.bs) (t := .tuple) (sh_ni hp st)
  rw [ty_tup] at t1
  have tT : ∀ xs, tyR ge.bs st (.tup xs) .tuple = .ok (.bl true) st := fun xs => tyA rfl
  have tS : ∀ s, tyR ge.bs st (.str s) .str = .ok (.bl true) st := fun xs => tyA rfl
  rw [C_run t_is_row ⟨rfl, by decide⟩]
  cases hT : isTb x with
  | false =>
    rw [hT] at t1
    have hr : rowB x a m = false := by cases x <;> first | rfl | cases hT
    rw [hr]
    simp (disch := first | assumption | omega | (simp; done) | (simp; omega)) [bin_mulN, bin_modN, bin_divN, bin_shl1, bin_subN, rgR_N, rgL_N, rg2R_N, rr2R_N, gdL, gdLt, fin_sameM, fin_moreM, fin_lenM, finX_sameM, finX_moreM, endT_same, endT_cut, slFrz_cl, onB_dec, ifS, -getElem?_pos, List.getElem?_cons_zero, List.getElem?_cons_succ, f_is_row, t1]
  | true =>
    cases x with
    | tup xs =>
      have hps : plains xs = true := hp
      have hpm := plains_mem hps
      clear t1
      match xs, hps, hpm, hsm with
      | [], _, _, _ =>
        show _ = Res.ok (D.bl false) st
        simp (disch := first | assumption | omega | (simp; done) | (simp; omega)) [bin_mulN, bin_modN, bin_divN, bin_shl1, bin_subN, rgR_N, rgL_N, rg2R_N, rr2R_N, gdL, gdLt, fin_sameM, fin_moreM, fin_lenM, finX_sameM, finX_moreM, endT_same, endT_cut, slFrz_cl, onB_dec, ifS, -getElem?_pos, List.getElem?_cons_zero, List.getElem?_cons_succ, f_is_row, ty_tup, isTb]
      | [h], _, _, _ =>
        rw [show rowB (.tup [h]) a m = false by cases h <;> rfl]
        simp (disch := first | assumption | omega | (simp; done) | (simp; omega)) [bin_mulN, bin_modN, bin_divN, bin_shl1, bin_subN, rgR_N, rgL_N, rg2R_N, rr2R_N, gdL, gdLt, fin_sameM, fin_moreM, fin_lenM, finX_sameM, finX_moreM, endT_same, endT_cut, slFrz_cl, onB_dec, ifS, -getElem?_pos, List.getElem?_cons_zero, List.getElem?_cons_succ, f_is_row, ty_tup, isTb]
      | h :: y :: r, _, hpm, hsm =>
        have t2 := tyA (bs := ge.bs) (t := .str) (sh_ni (hpm h List.mem_cons_self) st)
        rw [ty_str] at t2
        have hrl : ¬ r.length + 1 + 1 < 2 := by omega
        cases hS : isSb h with
        | false =>
          rw [hS] at t2
          have hr : rowB (.tup (h :: y :: r)) a m = false := by
            cases h with
            | str s => cases hS
            | _ =>
              match r with
              | [] => rfl
              | [z] => rfl
              | _ :: _ :: _ => rfl
          rw [hr]
          simp (disch := first | assumption | omega | (simp; done) | (simp; omega)) [bin_mulN, bin_modN, bin_divN, bin_shl1, bin_subN, rgR_N, rgL_N, rg2R_N, rr2R_N, gdL, gdLt, fin_sameM, fin_moreM, fin_lenM, finX_sameM, finX_moreM, endT_same, endT_cut, slFrz_cl, onB_dec, ifS, -getElem?_pos, List.getElem?_cons_zero, List.getElem?_cons_succ, f_is_row, ty_tup, ty_str, isTb, hrl, hS, t2]
        | true =>
          cases h with
          | str s =>
            have ew := e_whole (k := k) (by omega) y st (sh_ni (hpm y (by simp)) st)
            have ey := fun b => e_among (k := k) (by omega) y 1 b st (sh_ni (hpm y (by simp)) st)
            by_cases ha : a < m
            · match r, hsm with
              | [], _ =>
                show _ = Res.ok (D.bl (decide (a < m) && (s == wP && (isWh y && pyEq y (nD a))))) st
                rw [decide_eq_true ha]
                cases hs : s == wP with
                | false =>
                  have hs' := beq_eq_false_iff_ne.mp hs
                  simp (disch := first | assumption | omega | (simp; done) | (simp; omega)) [bin_mulN, bin_modN, bin_divN, bin_shl1, bin_subN, rgR_N, rgL_N, rg2R_N, rr2R_N, gdL, gdLt, fin_sameM, fin_moreM, fin_lenM, finX_sameM, finX_moreM, endT_same, endT_cut, slFrz_cl, onB_dec, ifS, -getElem?_pos, List.getElem?_cons_zero, List.getElem?_cons_succ, f_is_row, ty_tup, ty_str, isTb, isSb, ha, eqSS, hs']
                | true =>
                  obtain rfl := beq_iff_eq.mp hs
                  cases hw : isWh y with
                  | false =>
                    rw [hw] at ew
                    simp (disch := first | assumption | omega | (simp; done) | (simp; omega)) [bin_mulN, bin_modN, bin_divN, bin_shl1, bin_subN, rgR_N, rgL_N, rg2R_N, rr2R_N, gdL, gdLt, fin_sameM, fin_moreM, fin_lenM, finX_sameM, finX_moreM, endT_same, endT_cut, slFrz_cl, onB_dec, ifS, -getElem?_pos, List.getElem?_cons_zero, List.getElem?_cons_succ, f_is_row, ty_tup, ty_str, isTb, isSb, ha, eqSS, hs, s_is_whole, ew]
                  | true =>
                    rw [hw] at ew
                    cases y with
                    | int i =>
                      have ce : ∀ st, cmpB .Eq (.int i) (nD a) st = .ok (pyEq (.int i) (nD a)) st := fun st => cmp_eq (x := .int i) (y := nD a) rfl rfl
                      simp (disch := first | assumption | omega | (simp; done) | (simp; omega)) [bin_mulN, bin_modN, bin_divN, bin_shl1, bin_subN, rgR_N, rgL_N, rg2R_N, rr2R_N, gdL, gdLt, fin_sameM, fin_moreM, fin_lenM, finX_sameM, finX_moreM, endT_same, endT_cut, slFrz_cl, onB_dec, ifS, -getElem?_pos, List.getElem?_cons_zero, List.getElem?_cons_succ, f_is_row, ty_tup, ty_str, isTb, isSb, ha, eqSS, hs, s_is_whole, ew, ce]
                    | _ => cases hw
              | z :: r2, _ =>
                have hr : rowB (.tup (.str s :: y :: z :: r2)) a m = false := by
                  match z, r2 with
                  | .tup cs, [] => show (!decide (a < m) && _) = false; rw [decide_eq_true ha]; rfl
                  | .tup cs, _ :: _ => rfl
                  | .non, _ => rfl
                  | .bl _, _ => rfl
                  | .int _, _ => rfl
                  | .str _, _ => rfl
                  | .lst _, _ => rfl
                  | .ref _, _ => rfl
                  | .exc _ _, _ => rfl
                  | .scr _, _ => rfl
                  | .kset _, _ => rfl
                rw [hr]
                have h3 : ¬ r2.length + 1 + 1 + 1 = 2 := by omega
                have h2 : ¬ r2.length + 1 + 1 + 1 < 2 := by omega
                cases hs : s == wP with
                | false =>
                  have hs' := beq_eq_false_iff_ne.mp hs
                  simp (disch := first | assumption | omega | (simp; done) | (simp; omega)) [bin_mulN, bin_modN, bin_divN, bin_shl1, bin_subN, rgR_N, rgL_N, rg2R_N, rr2R_N, gdL, gdLt, fin_sameM, fin_moreM, fin_lenM, finX_sameM, finX_moreM, endT_same, endT_cut, slFrz_cl, onB_dec, ifS, -getElem?_pos, List.getElem?_cons_zero, List.getElem?_cons_succ, f_is_row, ty_tup, ty_str, isTb, isSb, h2, ha, eqSS, hs']
                | true =>
                  obtain rfl := beq_iff_eq.mp hs
                  simp (disch := first | assumption | omega | (simp; done) | (simp; omega)) [bin_mulN, bin_modN, bin_divN, bin_shl1, bin_subN, rgR_N, rgL_N, rg2R_N, rr2R_N, gdL, gdLt, fin_sameM, fin_moreM, fin_lenM, finX_sameM, finX_moreM, endT_same, endT_cut, slFrz_cl, onB_dec, ifS, -getElem?_pos, List.getElem?_cons_zero, List.getElem?_cons_succ, f_is_row, ty_tup, ty_str, isTb, isSb, h2, ha, eqSS, hs, h3]
            · match r, hpm, hsm with
              | [], _, _ =>
                have hr : rowB (.tup [.str s, y]) a m = false := by show (decide (a < m) && _) = false; rw [decide_eq_false ha]; rfl
                rw [hr]
                cases hs : s == wL with
                | false =>
                  have hs' := beq_eq_false_iff_ne.mp hs
                  simp (disch := first | assumption | omega | (simp; done) | (simp; omega)) [bin_mulN, bin_modN, bin_divN, bin_shl1, bin_subN, rgR_N, rgL_N, rg2R_N, rr2R_N, gdL, gdLt, fin_sameM, fin_moreM, fin_lenM, finX_sameM, finX_moreM, endT_same, endT_cut, slFrz_cl, onB_dec, ifS, -getElem?_pos, List.getElem?_cons_zero, List.getElem?_cons_succ, f_is_row, ty_tup, ty_str, isTb, isSb, ha, neSS, hs']
                | true =>
                  obtain rfl := beq_iff_eq.mp hs
                  simp (disch := first | assumption | omega | (simp; done) | (simp; omega)) [bin_mulN, bin_modN, bin_divN, bin_shl1, bin_subN, rgR_N, rgL_N, rg2R_N, rr2R_N, gdL, gdLt, fin_sameM, fin_moreM, fin_lenM, finX_sameM, finX_moreM, endT_same, endT_cut, slFrz_cl, onB_dec, ifS, -getElem?_pos, List.getElem?_cons_zero, List.getElem?_cons_succ, f_is_row, ty_tup, ty_str, isTb, isSb, ha, neSS, hs]
              | z :: w :: r2, _, _ =>
                have hr : rowB (.tup (.str s :: y :: z :: w :: r2)) a m = false := by cases z <;> rfl
                rw [hr]
                have h3 : ¬ r2.length + 1 + 1 + 1 + 1 = 3 := by omega
                have h2 : ¬ r2.length + 1 + 1 + 1 + 1 < 2 := by omega
                cases hs : s == wL with
                | false =>
                  have hs' := beq_eq_false_iff_ne.mp hs
                  simp (disch := first | assumption | omega | (simp; done) | (simp; omega)) [bin_mulN, bin_modN, bin_divN, bin_shl1, bin_subN, rgR_N, rgL_N, rg2R_N, rr2R_N, gdL, gdLt, fin_sameM, fin_moreM, fin_lenM, finX_sameM, finX_moreM, endT_same, endT_cut, slFrz_cl, onB_dec, ifS, -getElem?_pos, List.getElem?_cons_zero, List.getElem?_cons_succ, f_is_row, ty_tup, ty_str, isTb, isSb, h2, ha, neSS, hs']
                | true =>
                  obtain rfl := beq_iff_eq.mp hs
                  simp (disch := first | assumption | omega | (simp; done) | (simp; omega)) [bin_mulN, bin_modN, bin_divN, bin_shl1, bin_subN, rgR_N, rgL_N, rg2R_N, rr2R_N, gdL, gdLt, fin_sameM, fin_moreM, fin_lenM, finX_sameM, finX_moreM, endT_same, endT_cut, slFrz_cl, onB_dec, ifS, -getElem?_pos, List.getElem?_cons_zero, List.getElem?_cons_succ, f_is_row, ty_tup, ty_str, isTb, isSb, h2, ha, neSS, hs, h3]
              | [z], hpm, hsm =>
                have t3 := tyA (bs := ge.bs) (t := .tuple) (sh_ni (hpm z (by simp)) st)
                rw [ty_tup] at t3
                cases hz : isTb z with
                | false =>
                  have hr : rowB (.tup [.str s, y, z]) a m = false := by cases z <;> first | rfl | cases hz
                  rw [hr]
                  rw [hz] at t3
                  cases hs : s == wL with
                  | false =>
                    have hs' := beq_eq_false_iff_ne.mp hs
                    simp (disch := first | assumption | omega | (simp; done) | (simp; omega)) [bin_mulN, bin_modN, bin_divN, bin_shl1, bin_subN, rgR_N, rgL_N, rg2R_N, rr2R_N, gdL, gdLt, fin_sameM, fin_moreM, fin_lenM, finX_sameM, finX_moreM, endT_same, endT_cut, slFrz_cl, onB_dec, ifS, -getElem?_pos, List.getElem?_cons_zero, List.getElem?_cons_succ, f_is_row, ty_tup, ty_str, isTb, isSb, ha, neSS, hs']
                  | true =>
                    obtain rfl := beq_iff_eq.mp hs
                    simp (disch := first | assumption | omega | (simp; done) | (simp; omega)) [bin_mulN, bin_modN, bin_divN, bin_shl1, bin_subN, rgR_N, rgL_N, rg2R_N, rr2R_N, gdL, gdLt, fin_sameM, fin_moreM, fin_lenM, finX_sameM, finX_moreM, endT_same, endT_cut, slFrz_cl, onB_dec, ifS, -getElem?_pos, List.getElem?_cons_zero, List.getElem?_cons_succ, f_is_row, ty_tup, ty_str, isTb, isSb, ha, neSS, hs, hz, t3]
                | true =>
                  cases z with
                  | tup cs =>
                    have hcl := hsm (.str s) y cs rfl
                    have hcp : ∀ c ∈ cs, plain c = true := plains_mem (hpm (.tup cs) (by simp))
                    show _ = Res.ok (D.bl (!decide (a < m) && (s == wL && (kidB cs a && (decide (cs.length ≤ 8) && amg y 1 cs.length))))) st
                    rw [decide_eq_false ha]
                    cases hs : s == wL with
                    | false =>
                      have hs' := beq_eq_false_iff_ne.mp hs
                      simp (disch := first | assumption | omega | (simp; done) | (simp; omega)) [bin_mulN, bin_modN, bin_divN, bin_shl1, bin_subN, rgR_N, rgL_N, rg2R_N, rr2R_N, gdL, gdLt, fin_sameM, fin_moreM, fin_lenM, finX_sameM, finX_moreM, endT_same, endT_cut, slFrz_cl, onB_dec, ifS, -getElem?_pos, List.getElem?_cons_zero, List.getElem?_cons_succ, f_is_row, ty_tup, ty_str, isTb, isSb, ha, neSS, hs']
                    | true =>
                      obtain rfl := beq_iff_eq.mp hs
                      have sa : ∀ st, binop .Sub (nD a) (nD 1) st = .ok (nD (a - 1)) st := fun st => bin_subN (by omega)
                      have lc : lcL (lcStep ge (C k) [3] true .none E_is_row_1 [some (.tup [.str wL, y, .tup cs]), some (nD a), some (nD m), none]) [] cs st = .ok (cs.map fun c => .bl (amg c ((0 : Nat) : Int) ((a - 1 : Nat) : Int))) st := by
                        have := lcL_mapN (step := lcStep ge (C k) [3] true .none E_is_row_1 [some (.tup [.str wL, y, .tup cs]), some (nD a), some (nD m), none]) (st := st) (xs := cs) (g := id) (h := fun c => .bl (amg c ((0 : Nat) : Int) ((a - 1 : Nat) : Int))) (fun c hc => by
                          have ea := e_among (k := k) (by omega) c 0 (a - 1) st (sh_ni (hcp c hc) st)
                          show lcStep ge (C k) [3] true .none E_is_row_1 [some (.tup [.str wL, y, .tup cs]), some (nD a), some (nD m), none] c st = _
                          simp (disch := first | assumption | omega | (simp; done) | (simp; omega)) [bin_mulN, bin_modN, bin_divN, bin_shl1, bin_subN, rgR_N, rgL_N, rg2R_N, rr2R_N, gdL, gdLt, fin_sameM, fin_moreM, fin_lenM, finX_sameM, finX_moreM, endT_same, endT_cut, slFrz_cl, onB_dec, ifS, -getElem?_pos, List.getElem?_cons_zero, List.getElem?_cons_succ, E_is_row_1, sa, s_is_among, ea])
                        rw [List.map_id] at this
                        exact this
                      have al := all_map (fun c => amg c ((0 : Nat) : Int) ((a - 1 : Nat) : Int)) cs st
                      have hcl2 : cs.length ≤ 16777216 := by omega
                      have hml : (cs.map fun c => D.bl (amg c ((0 : Nat) : Int) ((a - 1 : Nat) : Int))).length ≤ 16777216 := by rw [List.length_map]; omega
                      have ey := ey cs.length
                      unfold kidB
                      cases hk : cs.all (fun c => amg c ((0 : Nat) : Int) ((a - 1 : Nat) : Int)) with
                      | false =>
                        rw [hk] at al
                        generalize (cs.map fun c => D.bl (amg c ((0 : Nat) : Int) ((a - 1 : Nat) : Int))) = ML at *
                        simp (disch := first | assumption | omega | (simp; done) | (simp; omega)) [bin_mulN, bin_modN, bin_divN, bin_shl1, bin_subN, rgR_N, rgL_N, rg2R_N, rr2R_N, gdL, gdLt, fin_sameM, fin_moreM, fin_lenM, finX_sameM, finX_moreM, endT_same, endT_cut, slFrz_cl, onB_dec, ifS, -getElem?_pos, List.getElem?_cons_zero, List.getElem?_cons_succ, f_is_row, ty_tup, ty_str, isTb, isSb, ha, neSS, hs, lc, al]
                      | true =>
                        obtain ⟨is, e1, e2⟩ := ints_of hk
                        rw [hk] at al
                        rw [e1]
                        have ls : ∀ st, lenSetR (.tup cs) st = .ok (nD (uniqI is).length) st := fun st => lenSetR_ints e2 (by rw [e2, List.length_map] at hcl; exact hcl)
                        have hil : cs.length = is.length := by rw [e2, List.length_map]
                        have un := uniq_iff is
                        have cn : ∀ st, cmpB .NotEq (nD (uniqI is).length) (nD cs.length) st = .ok (!ndp is) st := fun st => by
                          rw [← un, hil]
                          simp (disch := first | assumption | omega | (simp; done) | (simp; omega)) [bin_mulN, bin_modN, bin_divN, bin_shl1, bin_subN, rgR_N, rgL_N, rg2R_N, rr2R_N, gdL, gdLt, fin_sameM, fin_moreM, fin_lenM, finX_sameM, finX_moreM, endT_same, endT_cut, slFrz_cl, onB_dec, ifS, -getElem?_pos, List.getElem?_cons_zero, List.getElem?_cons_succ]
                        show _ = Res.ok (D.bl (true && (true && ((true && ndp is) && (decide (cs.length ≤ 8) && amg y 1 cs.length))))) st
                        generalize (cs.map fun c => D.bl (amg c ((0 : Nat) : Int) ((a - 1 : Nat) : Int))) = ML at *
                        generalize amg y 1 cs.length = ay at *
                        cases hn : ndp is with
                        | false =>
                          rw [hn] at cn
                          simp (disch := first | assumption | omega | (simp; done) | (simp; omega)) [bin_mulN, bin_modN, bin_divN, bin_shl1, bin_subN, rgR_N, rgL_N, rg2R_N, rr2R_N, gdL, gdLt, fin_sameM, fin_moreM, fin_lenM, finX_sameM, finX_moreM, endT_same, endT_cut, slFrz_cl, onB_dec, ifS, -getElem?_pos, List.getElem?_cons_zero, List.getElem?_cons_succ, f_is_row, ty_tup, ty_str, isTb, isSb, ha, neSS, hs, lc, al, ls, cn]
                        | true =>
                          rw [hn] at cn
                          by_cases h8 : cs.length ≤ 8
                          · rw [decide_eq_true h8]
                            simp (disch := first | assumption | omega | (simp; done) | (simp; omega)) [bin_mulN, bin_modN, bin_divN, bin_shl1, bin_subN, rgR_N, rgL_N, rg2R_N, rr2R_N, gdL, gdLt, fin_sameM, fin_moreM, fin_lenM, finX_sameM, finX_moreM, endT_same, endT_cut, slFrz_cl, onB_dec, ifS, -getElem?_pos, List.getElem?_cons_zero, List.getElem?_cons_succ, f_is_row, ty_tup, ty_str, isTb, isSb, ha, neSS, hs, lc, al, ls, cn, g_MOST_CHILDREN, h8, s_is_among, ey]
                          · rw [decide_eq_false h8]
                            simp (disch := first | assumption | omega | (simp; done) | (simp; omega)) [bin_mulN, bin_modN, bin_divN, bin_shl1, bin_subN, rgR_N, rgL_N, rg2R_N, rr2R_N, gdL, gdLt, fin_sameM, fin_moreM, fin_lenM, finX_sameM, finX_moreM, endT_same, endT_cut, slFrz_cl, onB_dec, ifS, -getElem?_pos, List.getElem?_cons_zero, List.getElem?_cons_succ, f_is_row, ty_tup, ty_str, isTb, isSb, ha, neSS, hs, lc, al, ls, cn, g_MOST_CHILDREN, h8]
                  | _ => cases hz
          | _ => cases hS
    | _ => cases hT
end K07
end
section
set_option Elab.async false
set_option linter.all false
set_option maxRecDepth 100000
set_option maxHeartbeats 2000000
namespace K07
open PC PySem
/-! ### what is brought -/
/-- the bits of b that a has not -/
abbrev no (b a : Nat) : Nat := b ^^^ (b &&& a)
theorem bit_ex {z m : Nat} (hz : z < 2 ^ m) (h : z ≠ 0) : ∃ i, i < m ∧ z.testBit i = true := by
  obtain ⟨i, hi⟩ := Nat.exists_testBit_of_ne_zero h
  refine ⟨i, ?_, hi⟩
  exact Nat.lt_of_not_le fun hm => by
    rw [Nat.testBit_lt_two_pow (Nat.lt_of_lt_of_le hz (Nat.pow_le_pow_right (by decide) hm))] at hi
    cases hi
theorem no_bit (b a i : Nat) : (no b a).testBit i = (b.testBit i && !a.testBit i) := by
  rw [Nat.testBit_xor, Nat.testBit_and]
  cases b.testBit i <;> cases a.testBit i <;> rfl
theorem and_xor : ∀ (n b a : Nat), b < 2 ^ n → (b &&& a) + (b ^^^ (b &&& a)) = b
  | 0, b, a, h => by
    have : b = 0 := by omega
    subst this
    simp
  | n + 1, b, a, h => by
    have ih := and_xor n (b / 2) (a / 2) (by rw [Nat.pow_succ] at h; omega)
    have e1 := Nat.div_add_mod (b &&& a) 2
    have e2 := Nat.div_add_mod (b ^^^ (b &&& a)) 2
    have e3 := Nat.div_add_mod b 2
    rw [Nat.and_div_two] at e1
    rw [Nat.xor_div_two, Nat.and_div_two] at e2
    have m1 : (b &&& a) % 2 = (b.testBit 0 && a.testBit 0).toNat := by rw [← Nat.testBit_and, Nat.testBit_zero]; rcases Nat.mod_two_eq_zero_or_one (b &&& a) with h | h <;> rw [h] <;> rfl
    have m2 : (b ^^^ (b &&& a)) % 2 = (b.testBit 0 ^^ (b.testBit 0 && a.testBit 0)).toNat := by rw [← Nat.testBit_and, ← Nat.testBit_xor, Nat.testBit_zero]; rcases Nat.mod_two_eq_zero_or_one (b ^^^ (b &&& a)) with h | h <;> rw [h] <;> rfl
    have m3 : b % 2 = (b.testBit 0).toNat := by rw [Nat.testBit_zero]; rcases Nat.mod_two_eq_zero_or_one b with h | h <;> rw [h] <;> rfl
    rw [m1] at e1
    rw [m2] at e2
    rw [m3] at e3
    generalize b.testBit 0 = x at *
    generalize a.testBit 0 = y at *
    generalize b / 2 &&& a / 2 = u at *
    generalize b / 2 ^^^ u = v at *
    cases x <;> cases y <;> simp only [Bool.toNat_true, Bool.toNat_false, Bool.and_true, Bool.and_false, Bool.true_and, Bool.false_and, Bool.xor_false, Bool.xor_true, Bool.false_xor, Bool.not_true, Bool.not_false, Bool.true_xor] at * <;> omega
theorem bin_andNot {b a : Nat} (hb : b < 2 ^ 12) (st : Store) : binop .BitAnd (nD b) (.int (-(a : Int) - 1)) st = .ok (nD (no b a)) st := by
  show Res.ok (D.int (PySem.Builtin.bitAnd (b : Int) (-(a : Int) - 1))) st = .ok (D.int (no b a : Int)) st
  have h1 : decide ((0 : Int) ≤ (b : Int)) = true := decide_eq_true (by omega)
  have h2 : decide ((0 : Int) ≤ -(a : Int) - 1) = false := decide_eq_false (by omega)
  have h3 : (PySem.Builtin.bitNot (-(a : Int) - 1)).toNat = a := by unfold PySem.Builtin.bitNot; omega
  have h4 := and_xor 12 b a hb
  unfold PySem.Builtin.bitAnd
  rw [h1, h2]
  show Res.ok (D.int ((b : Int) - (((b : Int).toNat &&& (PySem.Builtin.bitNot (-(a : Int) - 1)).toNat : Nat) : Int))) st = _
  rw [h3]
  congr 2
  show (b : Int) - ((b &&& a : Nat) : Int) = ((b ^^^ (b &&& a) : Nat) : Int)
  omega
theorem ev_invN {k : Nat} {a : CE} {σ : Slots} {st : Store} {n : Nat} (h : ev ge (C k) a σ st = .ok (nD n) st) : ev ge (C k) (.inv a) σ st = .ok (.int (-(n : Int) - 1)) st := by
  show (ev ge (C k) a σ st).bind _ = _
  rw [h]; rfl
/-- row i of what is brought is whole -/
def brR (bs : List Nat) (m i : Nat) : Bool := (bs.getD i 0).testBit i && ((List.range m).filter fun j => (bs.getD i 0).testBit j && !decide (no (bs.getD j 0) (bs.getD i 0) = 0)).isEmpty
def brB (x : D) (m : Nat) : Bool := match x with
  | .tup xs => decide (xs.length = m) && (xs.all (fun c => amg c ((0 : Nat) : Int) ((2 ^ m - 1 : Nat) : Int)) && (match toInts xs with
    | some is => (List.range m).all fun i => brR (is.map Int.toNat) m i
    | none => false))
  | _ => false
theorem nats_of : ∀ {is : List Int} {b : Int}, ((is.map D.int).all fun c => amg c ((0 : Nat) : Int) b) = true → is.map D.int = (is.map Int.toNat).map nD ∧ ∀ n ∈ is.map Int.toNat, (n : Int) ≤ b
  | [], _, _ => ⟨rfl, fun n hn => by cases hn⟩
  | i :: r, b, h => by
    rw [List.map_cons, List.all_cons, Bool.and_eq_true] at h
    obtain ⟨h1, h2⟩ := nats_of h.2
    have h0 : (decide (((0 : Nat) : Int) ≤ i) && decide (i ≤ b)) = true := h.1
    rw [Bool.and_eq_true, decide_eq_true_eq, decide_eq_true_eq] at h0
    have e : ((i.toNat : Nat) : Int) = i := Int.toNat_of_nonneg (by omega)
    refine ⟨?_, fun n hn => ?_⟩
    · rw [List.map_cons, List.map_cons, List.map_cons, h1]
      show D.int i :: _ = D.int ((i.toNat : Nat) : Int) :: _
      rw [e]
    · rw [List.map_cons] at hn
      rcases List.mem_cons.mp hn with rfl | hn
      · omega
      · exact h2 n hn
theorem idx_bs {bs : List Nat} {q : Nat} (hq : q < bs.length) (st : Store) : idxD st (.tup (bs.map nD)) (nD q) = .ok (nD (bs.getD q 0)) st := by
  have h : (bs.map nD)[q]? = some (nD (bs.getD q 0)) := by
    rw [List.getElem?_map, List.getElem?_eq_getElem hq, List.getD_eq_getElem?_getD, List.getElem?_eq_getElem hq]; rfl
  generalize bs.map nD = Q at *
  simp (disch := first | assumption | omega | (simp; done) | (simp; omega)) [bin_mulN, bin_modN, bin_divN, bin_shl1, bin_subN, rgR_N, rgL_N, rg2R_N, rr2R_N, gdL, gdLt, fin_sameM, fin_moreM, fin_lenM, finX_sameM, finX_moreM, endT_same, endT_cut, slFrz_cl, onB_dec, ifS, -getElem?_pos, List.getElem?_cons_zero, List.getElem?_cons_succ, h]
/-- a loop that a return may leave -/
theorem forL_all {step : D → Slots → Store → RS} (S : Slots) (st : Store) (p : Nat → Bool) (d : D) : ∀ (n a : Nat), (∀ i, a ≤ i → i < a + n → step (nD i) S st = if p i = true then .nx S st else .rt d st) →
    forL step [] ((List.range' a n).map nD) S st = if ((List.range' a n).all p) = true then .nx S st else .rt d st
  | 0, a, _ => by
    show forL step [] [] S st = _
    rw [forL, gw_nil]; rfl
  | n + 1, a, h => by
    have h0 := h a (Nat.le_refl _) (by omega)
    have ih := forL_all S st p d n (a + 1) fun i h1 h2 => h i (by omega) (by omega)
    rw [List.range'_succ, List.map_cons, forL, gw_nil, h0, List.all_cons]
    cases hp : p a with
    | true =>
      show forL step [] ((List.range' (a + 1) n).map nD) S st = _
      rw [ih]; rfl
    | false => rfl
theorem br_turn {k : Nat} (bs : List Nat) (m i : Nat) (hbd : ∀ j, bs.getD j 0 < 2 ^ 12) (hl : bs.length = m) (hm : m ≤ 12) (hi : i < m) (st : Store) :
    forStepG ge (C k) (.name 3) B_are_brought_2 [3, 4] (nD i) [some (.tup (bs.map nD)), some (nD m), none, none, none, none] st = if brR bs m i = true then .nx [some (.tup (bs.map nD)), some (nD m), none, none, none, none] st else .rt (.bl false) st := by
  have hi2 : i < bs.length := by omega
  have ix := idx_bs (bs := bs) hi2
  have sb := shr_and (bs.getD i 0) i
  let pf : Nat → Bool := fun j => (bs.getD i 0).testBit j && !decide (no (bs.getD j 0) (bs.getD i 0) = 0)
  have lc : lcL (lcStep ge (C k) [5] true O_are_brought_3 E_are_brought_3 [some (.tup (bs.map nD)), some (nD m), none, some (nD i), none, none]) [] ((List.range m).map nD) st = .ok (((List.range m).filter pf).map nD) st := by
    refine lcL_filN fun j hj => ?_
    have hj2 : j < bs.length := by have := List.mem_range.mp hj; omega
    have jx := idx_bs (bs := bs) hj2
    have sj := shr_and (bs.getD i 0) j
    have an := bin_andNot (a := bs.getD i 0) (hbd j)
    show _ = Res.ok (if ((bs.getD i 0).testBit j && !decide (no (bs.getD j 0) (bs.getD i 0) = 0)) = true then _ else _) st
    generalize bs.map nD = Q at *
    generalize no (bs.getD j 0) (bs.getD i 0) = z at *
    generalize bs.getD j 0 = bj at *
    generalize hbi : bs.getD i 0 = bi at *
    have inv : ∀ x0, ev ge (C k) (.inv (.idx (.var 0) (.var 3))) [some (.tup Q), some (nD m), none, some (nD i), none, x0] st = .ok (.int (-(bi : Int) - 1)) st := fun x0 => ev_invN (by simp (disch := first | assumption | omega | (simp; done) | (simp; omega)) [bin_mulN, bin_modN, bin_divN, bin_shl1, bin_subN, rgR_N, rgL_N, rg2R_N, rr2R_N, gdL, gdLt, fin_sameM, fin_moreM, fin_lenM, finX_sameM, finX_moreM, endT_same, endT_cut, slFrz_cl, onB_dec, ifS, -getElem?_pos, List.getElem?_cons_zero, List.getElem?_cons_succ, ix])
    cases hb : bi.testBit j with
    | false =>
      rw [hb] at sj
      have sj : bi >>> j &&& 1 = 0 := sj
      simp (disch := first | assumption | omega | (simp; done) | (simp; omega)) [bin_mulN, bin_modN, bin_divN, bin_shl1, bin_subN, rgR_N, rgL_N, rg2R_N, rr2R_N, gdL, gdLt, fin_sameM, fin_moreM, fin_lenM, finX_sameM, finX_moreM, endT_same, endT_cut, slFrz_cl, onB_dec, ifS, -getElem?_pos, List.getElem?_cons_zero, List.getElem?_cons_succ, O_are_brought_3, E_are_brought_3, ix, jx, sj]
    | true =>
      rw [hb] at sj
      have sj : bi >>> j &&& 1 = 1 := sj
      by_cases hz : z = 0
      · simp (disch := first | assumption | omega | (simp; done) | (simp; omega)) [bin_mulN, bin_modN, bin_divN, bin_shl1, bin_subN, rgR_N, rgL_N, rg2R_N, rr2R_N, gdL, gdLt, fin_sameM, fin_moreM, fin_lenM, finX_sameM, finX_moreM, endT_same, endT_cut, slFrz_cl, onB_dec, ifS, -getElem?_pos, List.getElem?_cons_zero, List.getElem?_cons_succ, O_are_brought_3, E_are_brought_3, ix, jx, sj, inv, an, hz]
      · simp (disch := first | assumption | omega | (simp; done) | (simp; omega)) [bin_mulN, bin_modN, bin_divN, bin_shl1, bin_subN, rgR_N, rgL_N, rg2R_N, rr2R_N, gdL, gdLt, fin_sameM, fin_moreM, fin_lenM, finX_sameM, finX_moreM, endT_same, endT_cut, slFrz_cl, onB_dec, ifS, -getElem?_pos, List.getElem?_cons_zero, List.getElem?_cons_succ, O_are_brought_3, E_are_brought_3, ix, jx, sj, inv, an, hz]
  have nl : ∀ st, cmpB .NotEq (.lst (((List.range m).filter pf).map nD)) (.lst []) st = .ok (!((List.range m).filter pf).isEmpty) st := fun st => by
    rw [cmp_neL (xs := ((List.range m).filter pf).map nD) rfl rfl, List.length_map]
    cases (List.range m).filter pf <;> rfl
  have hfl : (((List.range m).filter pf).map nD).length ≤ 16777216 := by
    rw [List.length_map]
    have := List.length_filter_le pf (List.range m)
    rw [List.length_range] at this
    omega
  show _ = if ((bs.getD i 0).testBit i && ((List.range m).filter pf).isEmpty) = true then _ else _
  generalize ((List.range m).filter pf).isEmpty = em at *
  generalize (((List.range m).filter pf).map nD) = FL at *
  generalize bs.map nD = Q at *
  generalize bs.getD i 0 = bi at *
  cases hb : bi.testBit i with
  | false =>
    rw [hb] at sb
    have sb : bi >>> i &&& 1 = 0 := sb
    simp (disch := first | assumption | omega | (simp; done) | (simp; omega)) [bin_mulN, bin_modN, bin_divN, bin_shl1, bin_subN, rgR_N, rgL_N, rg2R_N, rr2R_N, gdL, gdLt, fin_sameM, fin_moreM, fin_lenM, finX_sameM, finX_moreM, endT_same, endT_cut, slFrz_cl, onB_dec, ifS, -getElem?_pos, List.getElem?_cons_zero, List.getElem?_cons_succ, B_are_brought_2, lc, ix, sb]
  | true =>
    rw [hb] at sb
    have sb : bi >>> i &&& 1 = 1 := sb
    cases em with
    | true => simp (disch := first | assumption | omega | (simp; done) | (simp; omega)) [bin_mulN, bin_modN, bin_divN, bin_shl1, bin_subN, rgR_N, rgL_N, rg2R_N, rr2R_N, gdL, gdLt, fin_sameM, fin_moreM, fin_lenM, finX_sameM, finX_moreM, endT_same, endT_cut, slFrz_cl, onB_dec, ifS, -getElem?_pos, List.getElem?_cons_zero, List.getElem?_cons_succ, B_are_brought_2, lc, ix, sb, nl]
    | false => simp (disch := first | assumption | omega | (simp; done) | (simp; omega)) [bin_mulN, bin_modN, bin_divN, bin_shl1, bin_subN, rgR_N, rgL_N, rg2R_N, rr2R_N, gdL, gdLt, fin_sameM, fin_moreM, fin_lenM, finX_sameM, finX_moreM, endT_same, endT_cut, slFrz_cl, onB_dec, ifS, -getElem?_pos, List.getElem?_cons_zero, List.getElem?_cons_succ, B_are_brought_2, lc, ix, sb, nl]
theorem e_brought {k : Nat} (hk : 3 ≤ k) (x : D) (m : Nat) (hm : m ≤ 12) (hp : plain x = true) (st : Store) : C k "are_brought" [x, nD m] st = .ok (.bl (brB x m)) st := by
  obtain ⟨k, rfl⟩ : ∃ j, k = j + 1 := ⟨k - 1, by omega⟩
  have t1 := tyA (bs := ge.bs) (t := .tuple) (sh_ni hp st)
  rw [ty_tup] at t1
  rw [C_run t_are_brought ⟨rfl, by decide⟩]
  cases hT : isTb x with
  | false =>
    rw [hT] at t1
    have hr : brB x m = false := by cases x <;> first | rfl | cases hT
    rw [hr]
    simp (disch := first | assumption | omega | (simp; done) | (simp; omega)) [bin_mulN, bin_modN, bin_divN, bin_shl1, bin_subN, rgR_N, rgL_N, rg2R_N, rr2R_N, gdL, gdLt, fin_sameM, fin_moreM, fin_lenM, finX_sameM, finX_moreM, endT_same, endT_cut, slFrz_cl, onB_dec, ifS, -getElem?_pos, List.getElem?_cons_zero, List.getElem?_cons_succ, f_are_brought, t1]
  | true =>
    cases x with
    | tup xs =>
      have hxp : ∀ c ∈ xs, plain c = true := plains_mem hp
      show _ = Res.ok (D.bl (decide (xs.length = m) && (xs.all (fun c => amg c ((0 : Nat) : Int) ((2 ^ m - 1 : Nat) : Int)) && (match toInts xs with
        | some is => (List.range m).all fun i => brR (is.map Int.toNat) m i
        | none => false)))) st
      by_cases hl : xs.length = m
      · rw [decide_eq_true hl]
        have hsh : ∀ st, binop .LShift (nD 1) (nD m) st = .ok (nD (2 ^ m)) st := fun st => bin_shl1 (by omega)
        have s1 : ∀ st, binop .Sub (nD (2 ^ m)) (nD 1) st = .ok (nD (2 ^ m - 1)) st := fun st => bin_subN (Nat.pow_pos (by decide))
        have lc : lcL (lcStep ge (C k) [2] true .none E_are_brought_1 [some (.tup xs), some (nD m), none, none, none, none]) [] xs st = .ok (xs.map fun c => .bl (amg c ((0 : Nat) : Int) ((2 ^ m - 1 : Nat) : Int))) st := by
          have := lcL_mapN (step := lcStep ge (C k) [2] true .none E_are_brought_1 [some (.tup xs), some (nD m), none, none, none, none]) (st := st) (xs := xs) (g := id) (h := fun c => .bl (amg c ((0 : Nat) : Int) ((2 ^ m - 1 : Nat) : Int))) (fun c hc => by
            have ea := e_among (k := k) (by omega) c 0 (2 ^ m - 1) st (sh_ni (hxp c hc) st)
            show lcStep ge (C k) [2] true .none E_are_brought_1 [some (.tup xs), some (nD m), none, none, none, none] c st = _
            show _ = Res.ok (some (D.bl (amg c ((0 : Nat) : Int) ((2 ^ m - 1 : Nat) : Int)))) st
            generalize amg c ((0 : Nat) : Int) ((2 ^ m - 1 : Nat) : Int) = av at *
            generalize 2 ^ m - 1 = T1 at *
            generalize 2 ^ m = T at *
            simp (disch := first | assumption | omega | (simp; done) | (simp; omega)) [bin_mulN, bin_modN, bin_divN, bin_shl1, bin_subN, rgR_N, rgL_N, rg2R_N, rr2R_N, gdL, gdLt, fin_sameM, fin_moreM, fin_lenM, finX_sameM, finX_moreM, endT_same, endT_cut, slFrz_cl, onB_dec, ifS, -getElem?_pos, List.getElem?_cons_zero, List.getElem?_cons_succ, E_are_brought_1, hsh, s1, s_is_among, ea])
          rw [List.map_id] at this
          exact this
        have al := all_map (fun c => amg c ((0 : Nat) : Int) ((2 ^ m - 1 : Nat) : Int)) xs st
        have hml : (xs.map fun c => D.bl (amg c ((0 : Nat) : Int) ((2 ^ m - 1 : Nat) : Int))).length ≤ 16777216 := by rw [List.length_map]; omega
        cases hk2 : xs.all (fun c => amg c ((0 : Nat) : Int) ((2 ^ m - 1 : Nat) : Int)) with
        | false =>
          rw [hk2] at al
          generalize (xs.map fun c => D.bl (amg c ((0 : Nat) : Int) ((2 ^ m - 1 : Nat) : Int))) = ML at *
          simp (disch := first | assumption | omega | (simp; done) | (simp; omega)) [bin_mulN, bin_modN, bin_divN, bin_shl1, bin_subN, rgR_N, rgL_N, rg2R_N, rr2R_N, gdL, gdLt, fin_sameM, fin_moreM, fin_lenM, finX_sameM, finX_moreM, endT_same, endT_cut, slFrz_cl, onB_dec, ifS, -getElem?_pos, List.getElem?_cons_zero, List.getElem?_cons_succ, f_are_brought, ty_tup, isTb, hl, lc, al]
        | true =>
          obtain ⟨is, e1, e2⟩ := ints_of hk2
          rw [hk2] at al
          rw [e1]
          rw [e2] at hk2
          obtain ⟨n1, n2⟩ := nats_of hk2
          have hbl : (is.map Int.toNat).length = m := by rw [List.length_map, ← hl, e2, List.length_map]
          have hbd : ∀ j, (is.map Int.toNat).getD j 0 < 2 ^ 12 := fun j => by
            have hT : 2 ^ m ≤ 2 ^ 12 := Nat.pow_le_pow_right (by decide) hm
            have hT0 : 0 < 2 ^ m := Nat.pow_pos (by decide)
            by_cases hj : j < (is.map Int.toNat).length
            · have := n2 _ (List.getElem_mem hj)
              rw [List.getD_eq_getElem?_getD, List.getElem?_eq_getElem hj]
              show (is.map Int.toNat)[j] < _
              omega
            · rw [List.getD_eq_getElem?_getD, List.getElem?_eq_none (by omega)]
              show 0 < 2 ^ 12
              decide
          have hfor := forL_all (step := forStepG ge (C k) (.name 3) B_are_brought_2 [3, 4]) [some (.tup ((is.map Int.toNat).map nD)), some (nD m), none, none, none, none] st (fun i => brR (is.map Int.toNat) m i) (.bl false) m 0 (fun i _ hi => br_turn (is.map Int.toNat) m i hbd hbl hm (by omega) st)
          rw [← List.range_eq_range', ← n1, ← e2] at hfor
          show _ = Res.ok (D.bl (true && (true && ((List.range m).all fun i => brR (is.map Int.toNat) m i)))) st
          generalize (xs.map fun c => D.bl (amg c ((0 : Nat) : Int) ((2 ^ m - 1 : Nat) : Int))) = ML at *
          cases hb : (List.range m).all fun i => brR (is.map Int.toNat) m i with
          | true =>
            rw [hb, if_pos rfl] at hfor
            simp (disch := first | assumption | omega | (simp; done) | (simp; omega)) [bin_mulN, bin_modN, bin_divN, bin_shl1, bin_subN, rgR_N, rgL_N, rg2R_N, rr2R_N, gdL, gdLt, fin_sameM, fin_moreM, fin_lenM, finX_sameM, finX_moreM, endT_same, endT_cut, slFrz_cl, onB_dec, ifS, -getElem?_pos, List.getElem?_cons_zero, List.getElem?_cons_succ, f_are_brought, ty_tup, isTb, hl, lc, al, hfor]
          | false =>
            rw [hb, if_neg Bool.false_ne_true] at hfor
            simp (disch := first | assumption | omega | (simp; done) | (simp; omega)) [bin_mulN, bin_modN, bin_divN, bin_shl1, bin_subN, rgR_N, rgL_N, rg2R_N, rr2R_N, gdL, gdLt, fin_sameM, fin_moreM, fin_lenM, finX_sameM, finX_moreM, endT_same, endT_cut, slFrz_cl, onB_dec, ifS, -getElem?_pos, List.getElem?_cons_zero, List.getElem?_cons_succ, f_are_brought, ty_tup, isTb, hl, lc, al, hfor]
      · rw [decide_eq_false hl]
        simp (disch := first | assumption | omega | (simp; done) | (simp; omega)) [bin_mulN, bin_modN, bin_divN, bin_shl1, bin_subN, rgR_N, rgL_N, rg2R_N, rr2R_N, gdL, gdLt, fin_sameM, fin_moreM, fin_lenM, finX_sameM, finX_moreM, endT_same, endT_cut, slFrz_cl, onB_dec, ifS, -getElem?_pos, List.getElem?_cons_zero, List.getElem?_cons_succ, f_are_brought, ty_tup, isTb, hl]
    | _ => cases hT
/-! ### trees -/
def trB (x : D) : Bool := match x with
  | .tup [p, .tup rows, br] => amg p 1 12 && (match p with
    | .int i => decide (i.toNat ≤ rows.length ∧ rows.length ≤ i.toNat + 21) && ((enumD 0 rows).all (fun e => match e with
        | .tup [.int a, r] => rowB r a.toNat i.toNat
        | _ => false) && brB br i.toNat)
    | _ => false)
  | _ => false
end K07
end
section
set_option Elab.async false
set_option linter.all false
set_option maxRecDepth 100000
set_option maxHeartbeats 2000000
namespace K07
open PC PySem
/-- no row too long -/
def smT (x : D) : Prop := ∀ p rows br, x = .tup [p, .tup rows, br] → rows.length ≤ 1000 ∧ ∀ r ∈ rows, ∀ s y cs, r = .tup [s, y, .tup cs] → cs.length ≤ 1000
theorem enum_all (g : Nat → D → Bool) : ∀ (rows : List D) (a : Nat), ((enumD a rows).all fun e => match e with
    | .tup [.int b, r] => g b.toNat r
    | _ => false) = ((enumD a rows).map fun e => match e with
    | .tup [.int b, r] => g b.toNat r
    | _ => false).all id := fun rows a => by rw [List.all_map]; rfl
theorem enum_mem : ∀ (rows : List D) (a : Nat) (e : D), e ∈ enumD a rows → ∃ b r, e = .tup [nD b, r] ∧ a ≤ b ∧ r ∈ rows
  | [], _, e, h => by cases h
  | x :: r, a, e, h => by
    have h : e ∈ D.tup [.int (a : Int), x] :: enumD (a + 1) r := h
    rcases List.mem_cons.mp h with rfl | h
    · exact ⟨a, x, rfl, Nat.le_refl _, List.mem_cons_self⟩
    · obtain ⟨b, y, h1, h2, h3⟩ := enum_mem r (a + 1) e h
      exact ⟨b, y, h1, by omega, List.mem_cons_of_mem _ h3⟩
theorem enum_len : ∀ (rows : List D) (a : Nat), (enumD a rows).length = rows.length
  | [], _ => rfl
  | x :: r, a => by
    show (enumD (a + 1) r).length + 1 = r.length + 1
    rw [enum_len r]
def erB (m : Nat) (e : D) : Bool := match e with
  | .tup [.int a, r] => rowB r a.toNat m
  | _ => false
theorem e_istree {k : Nat} (hk : 5 ≤ k) (x : D) (hp : plain x = true) (hs : smT x) (st : Store) : C k "is_tree" [x] st = .ok (.bl (trB x)) st := by
  obtain ⟨k, rfl⟩ : ∃ j, k = j + 1 := ⟨k - 1, by omega⟩
  have t1 := tyA (bs := ge.bs) (t := .tuple) (sh_ni hp st)
  rw [ty_tup] at t1
  rw [C_run t_is_tree ⟨rfl, by decide⟩]
  cases hT : isTb x with
  | false =>
    rw [hT] at t1
    have hr : trB x = false := by cases x <;> first | rfl | cases hT
    rw [hr]
    simp (disch := first | assumption | omega | (simp; done) | (simp; omega)) [bin_mulN, bin_modN, bin_divN, bin_shl1, bin_subN, rgR_N, rgL_N, rg2R_N, rr2R_N, gdL, gdLt, fin_sameM, fin_moreM, fin_lenM, finX_sameM, finX_moreM, endT_same, endT_cut, slFrz_cl, onB_dec, ifS, -getElem?_pos, List.getElem?_cons_zero, List.getElem?_cons_succ, f_is_tree, t1]
  | true =>
    cases x with
    | tup xs =>
      have hxp : ∀ c ∈ xs, plain c = true := plains_mem hp
      clear t1
      match xs, hxp, hs with
      | [], _, _ => show _ = Res.ok (D.bl false) st; simp (disch := first | assumption | omega | (simp; done) | (simp; omega)) [bin_mulN, bin_modN, bin_divN, bin_shl1, bin_subN, rgR_N, rgL_N, rg2R_N, rr2R_N, gdL, gdLt, fin_sameM, fin_moreM, fin_lenM, finX_sameM, finX_moreM, endT_same, endT_cut, slFrz_cl, onB_dec, ifS, -getElem?_pos, List.getElem?_cons_zero, List.getElem?_cons_succ, f_is_tree, ty_tup, isTb]
      | [_], _, _ => show _ = Res.ok (D.bl false) st; simp (disch := first | assumption | omega | (simp; done) | (simp; omega)) [bin_mulN, bin_modN, bin_divN, bin_shl1, bin_subN, rgR_N, rgL_N, rg2R_N, rr2R_N, gdL, gdLt, fin_sameM, fin_moreM, fin_lenM, finX_sameM, finX_moreM, endT_same, endT_cut, slFrz_cl, onB_dec, ifS, -getElem?_pos, List.getElem?_cons_zero, List.getElem?_cons_succ, f_is_tree, ty_tup, isTb]
      | [a, b], _, _ =>
        rw [show trB (.tup [a, b]) = false by cases b <;> rfl]
        simp (disch := first | assumption | omega | (simp; done) | (simp; omega)) [bin_mulN, bin_modN, bin_divN, bin_shl1, bin_subN, rgR_N, rgL_N, rg2R_N, rr2R_N, gdL, gdLt, fin_sameM, fin_moreM, fin_lenM, finX_sameM, finX_moreM, endT_same, endT_cut, slFrz_cl, onB_dec, ifS, -getElem?_pos, List.getElem?_cons_zero, List.getElem?_cons_succ, f_is_tree, ty_tup, isTb]
      | a :: b :: c :: d :: r, _, _ =>
        have h4 : ¬ r.length + 1 + 1 + 1 + 1 = 3 := by omega
        show _ = Res.ok (D.bl (trB (.tup (a :: b :: c :: d :: r)))) st
        have hr : trB (.tup (a :: b :: c :: d :: r)) = false := by cases b <;> rfl
        rw [hr]
        simp (disch := first | assumption | omega | (simp; done) | (simp; omega)) [bin_mulN, bin_modN, bin_divN, bin_shl1, bin_subN, rgR_N, rgL_N, rg2R_N, rr2R_N, gdL, gdLt, fin_sameM, fin_moreM, fin_lenM, finX_sameM, finX_moreM, endT_same, endT_cut, slFrz_cl, onB_dec, ifS, -getElem?_pos, List.getElem?_cons_zero, List.getElem?_cons_succ, f_is_tree, ty_tup, isTb, h4]
      | [p, rw_, br], hxp, hs =>
        have ea := e_among (k := k) (by omega) p 1 12 st (sh_ni (hxp p (by simp)) st)
        cases hap : amg p ((1 : Nat) : Int) ((12 : Nat) : Int) with
        | false =>
          rw [hap] at ea
          have hr : trB (.tup [p, rw_, br]) = false := by
            cases rw_ with
            | tup rows =>
              show (amg p 1 12 && _) = false
              rw [show amg p 1 12 = false from hap]; rfl
            | _ => rfl
          rw [hr]
          simp (disch := first | assumption | omega | (simp; done) | (simp; omega)) [bin_mulN, bin_modN, bin_divN, bin_shl1, bin_subN, rgR_N, rgL_N, rg2R_N, rr2R_N, gdL, gdLt, fin_sameM, fin_moreM, fin_lenM, finX_sameM, finX_moreM, endT_same, endT_cut, slFrz_cl, onB_dec, ifS, -getElem?_pos, List.getElem?_cons_zero, List.getElem?_cons_succ, f_is_tree, ty_tup, isTb, g_MOST_MANY, s_is_among, ea]
        | true =>
          rw [hap] at ea
          obtain ⟨i, rfl⟩ := amg_int hap
          have hi : (decide (((1 : Nat) : Int) ≤ i) && decide (i ≤ ((12 : Nat) : Int))) = true := hap
          rw [Bool.and_eq_true, decide_eq_true_eq, decide_eq_true_eq] at hi
          obtain ⟨m, rfl⟩ : ∃ m : Nat, i = (m : Int) := ⟨i.toNat, by omega⟩
          have hm1 : 1 ≤ m := by omega
          have hm2 : m ≤ 12 := by omega
          have ea : C k "is_among" [nD m, nD 1, nD 12] st = .ok (.bl true) st := ea
          have t3 := tyA (bs := ge.bs) (t := .tuple) (sh_ni (hxp rw_ (by simp)) st)
          rw [ty_tup] at t3
          show _ = Res.ok (D.bl (trB (.tup [nD m, rw_, br]))) st
          cases hz : isTb rw_ with
          | false =>
            rw [hz] at t3
            have hr : trB (.tup [nD m, rw_, br]) = false := by cases rw_ <;> first | rfl | cases hz
            rw [hr]
            show fnEnd _ _ (exs ge (C k) _ ([D.tup [nD m, rw_, br]].map some ++ _) st) = _
            simp (disch := first | assumption | omega | (simp; done) | (simp; omega)) [bin_mulN, bin_modN, bin_divN, bin_shl1, bin_subN, rgR_N, rgL_N, rg2R_N, rr2R_N, gdL, gdLt, fin_sameM, fin_moreM, fin_lenM, finX_sameM, finX_moreM, endT_same, endT_cut, slFrz_cl, onB_dec, ifS, -getElem?_pos, List.getElem?_cons_zero, List.getElem?_cons_succ, f_is_tree, setAll, ty_tup, isTb, g_MOST_MANY, s_is_among, ea, hz, t3]
          | true =>
            cases rw_ with
            | tup rows =>
              obtain ⟨hrl, hrc⟩ := hs _ _ _ rfl
              have hrp : ∀ r ∈ rows, plain r = true := plains_mem (hxp (.tup rows) (by simp))
              have eb := e_brought (k := k) (by omega) br m hm2 (hxp br (by simp)) st
              have hr : trB (.tup [nD m, .tup rows, br]) = (decide (m ≤ rows.length ∧ rows.length ≤ m + 21) && ((enumD 0 rows).all (erB m) && brB br m)) := by
                show (amg (nD m) 1 12 && (decide (((m : Int)).toNat ≤ rows.length ∧ rows.length ≤ ((m : Int)).toNat + 21) && _)) = _
                rw [show amg (nD m) 1 12 = true from hap, Int.toNat_natCast]; rfl
              rw [hr]
              have lc : lcL (lcStep ge (C k) [4, 5] false .none E_is_tree_1 [some (.tup [nD m, .tup rows, br]), some (nD m), some (.tup rows), some br, none, none]) [] (enumD 0 rows) st = .ok ((enumD 0 rows).map fun e => .bl (erB m e)) st := by
                have := lcL_mapN (step := lcStep ge (C k) [4, 5] false .none E_is_tree_1 [some (.tup [nD m, .tup rows, br]), some (nD m), some (.tup rows), some br, none, none]) (st := st) (xs := enumD 0 rows) (g := id) (h := fun e => .bl (erB m e)) (fun e he => by
                  obtain ⟨b, r, rfl, _, hr⟩ := enum_mem rows 0 e he
                  have er := e_row (k := k) (by omega) r b m hm1 (hrp r hr) (hrc r hr) st
                  show lcStep ge (C k) [4, 5] false .none E_is_tree_1 [some (.tup [nD m, .tup rows, br]), some (nD m), some (.tup rows), some br, none, none] (.tup [nD b, r]) st = Res.ok (some (D.bl (rowB r b m))) st
                  rw [lcStep2 _ _ _ _ (by decide)]
                  generalize rowB r b m = rv at *
                  simp (disch := first | assumption | omega | (simp; done) | (simp; omega)) [bin_mulN, bin_modN, bin_divN, bin_shl1, bin_subN, rgR_N, rgL_N, rg2R_N, rr2R_N, gdL, gdLt, fin_sameM, fin_moreM, fin_lenM, finX_sameM, finX_moreM, endT_same, endT_cut, slFrz_cl, onB_dec, ifS, -getElem?_pos, List.getElem?_cons_zero, List.getElem?_cons_succ, E_is_tree_1, setAll, s_is_row, er])
                rw [List.map_id] at this
                exact this
              have al := all_map (erB m) (enumD 0 rows) st
              have hel : ((enumD 0 rows).map fun e => D.bl (erB m e)).length ≤ 16777216 := by rw [List.length_map, enum_len]; omega
              show fnEnd _ _ (exs ge (C k) _ ([D.tup [nD m, .tup rows, br]].map some ++ _) st) = _
              generalize (enumD 0 rows).all (erB m) = av at *
              generalize ((enumD 0 rows).map fun e => D.bl (erB m e)) = ML at *
              have hen : (enumD 0 rows).length ≤ 16777216 := by rw [enum_len]; omega
              by_cases h1 : m ≤ rows.length
              · by_cases h2 : rows.length ≤ m + 21
                · rw [decide_eq_true (p := m ≤ rows.length ∧ rows.length ≤ m + 21) ⟨h1, h2⟩]
                  cases av with
                  | false => simp (disch := first | assumption | omega | (simp; done) | (simp; omega)) [bin_mulN, bin_modN, bin_divN, bin_shl1, bin_subN, rgR_N, rgL_N, rg2R_N, rr2R_N, gdL, gdLt, fin_sameM, fin_moreM, fin_lenM, finX_sameM, finX_moreM, endT_same, endT_cut, slFrz_cl, onB_dec, ifS, -getElem?_pos, List.getElem?_cons_zero, List.getElem?_cons_succ, f_is_tree, setAll, ty_tup, isTb, g_MOST_MANY, g_MOST_GATES, s_is_among, ea, h1, h2, lc, al]
                  | true => simp (disch := first | assumption | omega | (simp; done) | (simp; omega)) [bin_mulN, bin_modN, bin_divN, bin_shl1, bin_subN, rgR_N, rgL_N, rg2R_N, rr2R_N, gdL, gdLt, fin_sameM, fin_moreM, fin_lenM, finX_sameM, finX_moreM, endT_same, endT_cut, slFrz_cl, onB_dec, ifS, -getElem?_pos, List.getElem?_cons_zero, List.getElem?_cons_succ, f_is_tree, setAll, ty_tup, isTb, g_MOST_MANY, g_MOST_GATES, s_is_among, ea, h1, h2, lc, al, s_are_brought, eb]
                · rw [decide_eq_false (p := m ≤ rows.length ∧ rows.length ≤ m + 21) (fun z => h2 z.2)]
                  simp (disch := first | assumption | omega | (simp; done) | (simp; omega)) [bin_mulN, bin_modN, bin_divN, bin_shl1, bin_subN, rgR_N, rgL_N, rg2R_N, rr2R_N, gdL, gdLt, fin_sameM, fin_moreM, fin_lenM, finX_sameM, finX_moreM, endT_same, endT_cut, slFrz_cl, onB_dec, ifS, -getElem?_pos, List.getElem?_cons_zero, List.getElem?_cons_succ, f_is_tree, setAll, ty_tup, isTb, g_MOST_MANY, g_MOST_GATES, s_is_among, ea, h1, h2]
              · rw [decide_eq_false (p := m ≤ rows.length ∧ rows.length ≤ m + 21) (fun z => h1 z.1)]
                simp (disch := first | assumption | omega | (simp; done) | (simp; omega)) [bin_mulN, bin_modN, bin_divN, bin_shl1, bin_subN, rgR_N, rgL_N, rg2R_N, rr2R_N, gdL, gdLt, fin_sameM, fin_moreM, fin_lenM, finX_sameM, finX_moreM, endT_same, endT_cut, slFrz_cl, onB_dec, ifS, -getElem?_pos, List.getElem?_cons_zero, List.getElem?_cons_succ, f_is_tree, setAll, ty_tup, isTb, g_MOST_MANY, g_MOST_GATES, s_is_among, ea, h1]
            | _ => cases hz
    | _ => cases hT
/-! ### refused -/
abbrev bad : D := .exc "BadTree" []
theorem e_refused {k : Nat} (hk : 2 ≤ k) {x : D} {b : Bool} {st : Store} (h : C (k - 2) "is_tree" [x] st = .ok (.bl b) st) : C k "_law_refused" [x] st = .ok (nD (if b then 0 else 1)) st := by
  obtain ⟨k, rfl⟩ : ∃ j, k = j + 2 := ⟨k - 2, by omega⟩
  have h : C k "is_tree" [x] st = .ok (.bl b) st := h
  have isn : ∀ st, cmpB .Is bad .non st = .ok false st := fun st => rfl
  have is0 : ∀ st, cmpB .Is .non .non st = .ok true st := fun st => rfl
  cases b with
  | true =>
    have en : C (k + 1) "need_tree" [x] st = .ok .non st := by
      rw [C_run t_need_tree ⟨rfl, by decide⟩]
      simp (disch := first | assumption | omega | (simp; done) | (simp; omega)) [bin_mulN, bin_modN, bin_divN, bin_shl1, bin_subN, rgR_N, rgL_N, rg2R_N, rr2R_N, gdL, gdLt, fin_sameM, fin_moreM, fin_lenM, finX_sameM, finX_moreM, endT_same, endT_cut, slFrz_cl, onB_dec, ifS, -getElem?_pos, List.getElem?_cons_zero, List.getElem?_cons_succ, f_need_tree, s_is_tree, h]
    rw [C_run t__law_refused ⟨rfl, by decide⟩]
    show _ = Res.ok (nD 0) st
    simp (disch := first | assumption | omega | (simp; done) | (simp; omega)) [bin_mulN, bin_modN, bin_divN, bin_shl1, bin_subN, rgR_N, rgL_N, rg2R_N, rr2R_N, gdL, gdLt, fin_sameM, fin_moreM, fin_lenM, finX_sameM, finX_moreM, endT_same, endT_cut, slFrz_cl, onB_dec, ifS, -getElem?_pos, List.getElem?_cons_zero, List.getElem?_cons_succ, f__law_refused, s_need_tree, en, is0, xk_FaultError]
  | false =>
    have en : C (k + 1) "need_tree" [x] st = .exc bad st := by
      rw [C_run t_need_tree ⟨rfl, by decide⟩]
      simp (disch := first | assumption | omega | (simp; done) | (simp; omega)) [bin_mulN, bin_modN, bin_divN, bin_shl1, bin_subN, rgR_N, rgL_N, rg2R_N, rr2R_N, gdL, gdLt, fin_sameM, fin_moreM, fin_lenM, finX_sameM, finX_moreM, endT_same, endT_cut, slFrz_cl, onB_dec, ifS, -getElem?_pos, List.getElem?_cons_zero, List.getElem?_cons_succ, f_need_tree, s_is_tree, h, xk_BadTree, xc_BadTree]
    rw [C_run t__law_refused ⟨rfl, by decide⟩]
    show _ = Res.ok (nD 1) st
    simp (disch := first | assumption | omega | (simp; done) | (simp; omega)) [bin_mulN, bin_modN, bin_divN, bin_shl1, bin_subN, rgR_N, rgL_N, rg2R_N, rr2R_N, gdL, gdLt, fin_sameM, fin_moreM, fin_lenM, finX_sameM, finX_moreM, endT_same, endT_cut, slFrz_cl, onB_dec, ifS, -getElem?_pos, List.getElem?_cons_zero, List.getElem?_cons_succ, f__law_refused, s_need_tree, en, isn, xk_FaultError, xk_BadLine, xk_BadNumber, xk_BadText, xk_BadTree, xk_Lacking, xk_NoPlan, xk_TooMany, xk_Twice, xk_BadOdds, xk_BadSets, xk_ValueError, xc_BadTree,
      sub_BadTree_FaultError, sub_BadTree_BadLine, sub_BadTree_BadNumber, sub_BadTree_BadText, sub_BadTree_BadTree, sub_BadTree_Lacking, sub_BadTree_NoPlan, sub_BadTree_TooMany, sub_BadTree_Twice, sub_BadTree_BadOdds, sub_BadTree_BadSets, sub_BadTree_ValueError]
end K07
end
section
set_option Elab.async false
set_option linter.all false
set_option maxRecDepth 100000
set_option maxHeartbeats 2000000
namespace K07
open PC PySem
/-! ### what comes after what -/
abbrev Ed := List (Nat × Nat)
/-- s is shut under the pairs -/
def Shut (ps : Ed) (s : Nat → Prop) : Prop := ∀ p ∈ ps, s p.1 → s p.2
/-- reached from i by t pairs at most -/
def Rc (ps : Ed) (i : Nat) : Nat → Nat → Prop
  | 0, j => j = i
  | t + 1, j => Rc ps i t j ∨ ∃ p ∈ ps, Rc ps i t p.1 ∧ p.2 = j
theorem Rc.mono {ps : Ed} {i j : Nat} : ∀ {s t : Nat}, s ≤ t → Rc ps i s j → Rc ps i t j := by
  intro s t h
  induction h with
  | refl => exact id
  | step _ ih => exact fun z => .inl (ih z)
theorem Rc.lt {P : Nat} {ps : Ed} (hp : ∀ p ∈ ps, p.1 < P ∧ p.2 < P) {i : Nat} (hi : i < P) : ∀ {t j : Nat}, Rc ps i t j → j < P
  | 0, j, h => by rw [show j = i from h]; exact hi
  | t + 1, j, h => by
    rcases h with h | ⟨p, hpm, _, rfl⟩
    · exact Rc.lt hp hi h
    · exact (hp p hpm).2
open Classical in
noncomputable def cnt (P : Nat) (s : Nat → Prop) : Nat := ((List.range P).filter fun j => decide (s j)).length
open Classical in
theorem cnt_le (P : Nat) (s : Nat → Prop) : cnt P s ≤ P := by
  have := List.length_filter_le (fun j => decide (s j)) (List.range P)
  rw [List.length_range] at this
  exact this
open Classical in
theorem cnt_lt {P : Nat} {s t : Nat → Prop} (h : ∀ j, s j → t j) {j : Nat} (hj : j < P) (h1 : ¬ s j) (h2 : t j) : cnt P s < cnt P t := by
  unfold cnt
  rw [← List.countP_eq_length_filter, ← List.countP_eq_length_filter]
  have key : ∀ L : List Nat, (List.countP (fun j => decide (s j)) L ≤ List.countP (fun j => decide (t j)) L) ∧ (j ∈ L → List.countP (fun j => decide (s j)) L < List.countP (fun j => decide (t j)) L) := by
    intro L
    induction L with
    | nil => exact ⟨Nat.le_refl _, fun h => by cases h⟩
    | cons x r ih =>
      rw [List.countP_cons, List.countP_cons]
      by_cases hx : s x
      · have hx' := h x hx
        simp only [hx, hx', decide_true, if_true]
        refine ⟨by omega, fun hm => ?_⟩
        rcases List.mem_cons.mp hm with rfl | hm
        · exact absurd hx h1
        · have := ih.2 hm
          omega
      · by_cases hx' : t x
        · simp only [hx, hx', decide_true, decide_false, if_true, Bool.false_eq_true, if_false]
          exact ⟨by omega, fun _ => by omega⟩
        · simp only [hx, hx', decide_false, Bool.false_eq_true, if_false]
          refine ⟨by omega, fun hm => ?_⟩
          rcases List.mem_cons.mp hm with rfl | hm
          · exact absurd h2 hx'
          · have := ih.2 hm
            omega
  exact (key (List.range P)).2 (List.mem_range.mpr hj)
/-- after P turns nothing more is reached -/
theorem Rc.shut {P : Nat} {ps : Ed} (hp : ∀ p ∈ ps, p.1 < P ∧ p.2 < P) {i : Nat} (hi : i < P) : Shut ps (Rc ps i P) := by
  have step : ∀ t, Shut ps (Rc ps i t) → ∀ j, Rc ps i (t + 1) j → Rc ps i t j := fun t h j hj => by
    rcases hj with hj | ⟨p, hpm, h1, rfl⟩
    · exact hj
    · exact h p hpm h1
  have stay : ∀ t, Shut ps (Rc ps i t) → ∀ u, t ≤ u → ∀ j, Rc ps i u j → Rc ps i t j := by
    intro t h u hu
    induction hu with
    | refl => exact fun j => id
    | step _ ih =>
      intro j hj
      rcases hj with hj | ⟨p, hpm, h1, rfl⟩
      · exact ih j hj
      · exact h p hpm (ih p.1 h1)
  have key : ∀ t, (∃ u, u ≤ t ∧ Shut ps (Rc ps i u)) ∨ t + 1 ≤ cnt P (Rc ps i t) := by
    intro t
    induction t with
    | zero =>
      refine .inr ?_
      have := cnt_lt (P := P) (s := fun _ => False) (t := Rc ps i 0) (fun _ z => z.elim) hi id rfl
      omega
    | succ t ih =>
      rcases ih with ⟨u, hu, h⟩ | h
      · exact .inl ⟨u, by omega, h⟩
      · by_cases hs : Shut ps (Rc ps i t)
        · exact .inl ⟨t, Nat.le_succ t, hs⟩
        · refine .inr ?_
          have : ∃ p ∈ ps, Rc ps i t p.1 ∧ ¬ Rc ps i t p.2 := by
            apply Classical.byContradiction
            intro hn
            exact hs fun p hpm h1 => Classical.byContradiction fun h2 => hn ⟨p, hpm, h1, h2⟩
          obtain ⟨p, hpm, h1, h2⟩ := this
          have := cnt_lt (P := P) (s := Rc ps i t) (t := Rc ps i (t + 1)) (fun j hj => .inl hj) (hp p hpm).2 h2 (.inr ⟨p, hpm, h1, rfl⟩)
          omega
  rcases key P with ⟨u, hu, h⟩ | h
  · intro p hpm h1
    exact (h p hpm (stay u h P hu _ h1)).mono hu
  · have := cnt_le P (Rc ps i P)
    omega
/-- the bits so far, after t turns -/
structure Up (P : Nat) (ps : Ed) (F : List Nat) : Prop where
  len : F.length = P
  lt : ∀ i, i < P → F.getD i 0 < 2 ^ P
  self : ∀ i, i < P → (F.getD i 0).testBit i = true
  up : ∀ i, i < P → ∀ j, (F.getD i 0).testBit j = true → ∀ s : Nat → Prop, Shut ps s → s i → s j
def Lo (P : Nat) (ps : Ed) (F : List Nat) (t : Nat) : Prop := ∀ i, i < P → ∀ j, Rc ps i t j → (F.getD i 0).testBit j = true
/-- one pair at one place -/
def pt (F : List Nat) (p : Nat × Nat) (i : Nat) : List Nat := if (F.getD i 0).testBit p.1 = true then F.set i (F.getD i 0 ||| F.getD p.2 0) else F
theorem getD_set {F : List Nat} {i j v : Nat} (hi : i < F.length) : (F.set i v).getD j 0 = if i = j then v else F.getD j 0 := by
  rw [List.getD_eq_getElem?_getD, List.getD_eq_getElem?_getD, List.getElem?_set]
  by_cases h : i = j
  · rw [if_pos h, if_pos h, if_pos (by omega)]; rfl
  · rw [if_neg h, if_neg h]
theorem pt_get {F : List Nat} {p : Nat × Nat} {i j : Nat} (hi : i < F.length) : (pt F p i).getD j 0 = if i = j ∧ (F.getD i 0).testBit p.1 = true then F.getD i 0 ||| F.getD p.2 0 else F.getD j 0 := by
  unfold pt
  by_cases h : (F.getD i 0).testBit p.1 = true
  · rw [if_pos h, getD_set hi]
    by_cases e : i = j
    · rw [if_pos e, if_pos ⟨e, h⟩]
    · rw [if_neg e, if_neg fun z => e z.1]
  · rw [if_neg h, if_neg fun z => h z.2]
theorem pt_len (F : List Nat) (p : Nat × Nat) (i : Nat) : (pt F p i).length = F.length := by
  unfold pt
  split
  · rw [List.length_set]
  · rfl
theorem no_lt' {b a m : Nat} (hb : b < 2 ^ m) : no b a < 2 ^ m := Nat.xor_lt_two_pow hb (Nat.lt_of_le_of_lt Nat.and_le_left hb)
theorem Up.pt {P : Nat} {ps : Ed} {F : List Nat} (h : Up P ps F) {p : Nat × Nat} (hp : p ∈ ps) (hl : p.1 < P ∧ p.2 < P) {i : Nat} (hi : i < P) : Up P ps (pt F p i) ∧ ∀ a j, (F.getD a 0).testBit j = true → ((K07.pt F p i).getD a 0).testBit j = true := by
  have hil : i < F.length := by rw [h.len]; exact hi
  refine ⟨⟨by rw [pt_len]; exact h.len, fun a ha => ?_, fun a ha => ?_, fun a ha j hj s hs hsa => ?_⟩, fun a j hj => ?_⟩
  · rw [pt_get hil]
    split
    · exact Nat.or_lt_two_pow (h.lt i hi) (h.lt p.2 hl.2)
    · exact h.lt a ha
  · rw [pt_get hil]
    split
    · rename_i e
      rw [← e.1, Nat.testBit_or, h.self i hi]; rfl
    · exact h.self a ha
  · rw [pt_get hil] at hj
    split at hj
    · rename_i e
      obtain ⟨rfl, e2⟩ := e
      rw [Nat.testBit_or, Bool.or_eq_true] at hj
      rcases hj with hj | hj
      · exact h.up i hi j hj s hs hsa
      · exact h.up p.2 hl.2 j hj s hs (hs p hp (h.up i hi p.1 e2 s hs hsa))
    · exact h.up a ha j hj s hs hsa
  · rw [pt_get hil]
    split
    · rename_i e
      rw [← e.1] at hj
      rw [Nat.testBit_or, hj]; rfl
    · exact hj
/-- one pair at all places -/
def pr_ (F : List Nat) (p : Nat × Nat) (n : Nat) : List Nat := (List.range n).foldl (fun F i => pt F p i) F
theorem pr_succ (F : List Nat) (p : Nat × Nat) (n : Nat) : pr_ F p (n + 1) = pt (pr_ F p n) p n := by
  unfold pr_
  rw [List.range_succ, List.foldl_append]; rfl
theorem pr_ok {P : Nat} {ps : Ed} {F : List Nat} (h : Up P ps F) {p : Nat × Nat} (hp : p ∈ ps) (hl : p.1 < P ∧ p.2 < P) : ∀ n, n ≤ P → Up P ps (pr_ F p n) ∧ (∀ a j, (F.getD a 0).testBit j = true → ((pr_ F p n).getD a 0).testBit j = true) ∧ ∀ i, i < n → ((F.getD i 0).testBit p.1 = true → ((pr_ F p n).getD i 0).testBit p.2 = true)
  | 0, _ => ⟨h, fun a j hj => hj, fun i hi => by omega⟩
  | n + 1, hn => by
    obtain ⟨h1, h2, h3⟩ := pr_ok h hp hl n (by omega)
    obtain ⟨q1, q2⟩ := h1.pt hp hl (i := n) (by omega)
    rw [pr_succ]
    refine ⟨q1, fun a j hj => q2 a j (h2 a j hj), fun i hi hb => ?_⟩
    by_cases e : i = n
    · subst e
      rw [pt_get (by rw [h1.len]; omega), if_pos ⟨rfl, h2 i p.1 hb⟩, Nat.testBit_or, h1.self p.2 hl.2, Bool.or_true]
    · exact q2 i p.2 (h3 i (by omega) hb)
theorem brR_of {P : Nat} {ps : Ed} {F : List Nat} (hp : ∀ p ∈ ps, p.1 < P ∧ p.2 < P) (h : Up P ps F) (hl : Lo P ps F P) {i : Nat} (hi : i < P) : brR F P i = true := by
  unfold brR
  rw [h.self i hi, Bool.true_and, List.isEmpty_iff, List.filter_eq_nil_iff]
  intro j hj
  have hj := List.mem_range.mp hj
  rw [Bool.not_eq_true, Bool.and_eq_false_iff]
  by_cases hb : (F.getD i 0).testBit j = true
  · refine .inr ?_
    rw [Bool.not_eq_false', decide_eq_true_eq]
    apply Classical.byContradiction
    intro hz
    obtain ⟨l, hl2, hb2⟩ := bit_ex (no_lt' (h.lt j hj)) hz
    rw [no_bit, Bool.and_eq_true, Bool.not_eq_true'] at hb2
    have hs := Rc.shut hp hi
    have hsi : Rc ps i P i := (show Rc ps i 0 i from rfl).mono (Nat.zero_le _)
    have r1 := h.up i hi j hb _ hs hsi
    have r2 := h.up j hj l hb2.1 _ hs r1
    have := hl i hi l r2
    rw [hb2.2] at this
    cases this
  · exact .inl (Bool.eq_false_iff.mpr hb)
end K07
end
section
set_option Elab.async false
set_option linter.all false
set_option maxRecDepth 100000
set_option maxHeartbeats 2000000
namespace K07
open PC PySem
/-! ### what is brought, drawn -/
abbrev pD (p : Nat × Nat) : D := .tup [nD p.1, nD p.2]
abbrev MB (c0 : Cell) (ps : Ed) (F : List Nat) : Store := [c0, .lst (F.map nD), .lst (ps.map pD)]
abbrev SB (P : Nat) : Slots := [none, some (nD P), some (.ref 1), none, some (.ref 2), none, none, none, none, none]
theorem at_F {F : List Nat} {i : Nat} (hi : i < F.length) : (F.map nD)[i]? = some (nD (F.getD i 0)) := by
  rw [List.getElem?_map, List.getElem?_eq_getElem hi, List.getD_eq_getElem?_getD, List.getElem?_eq_getElem hi]; rfl
theorem b5 {k : Nat} (c0 : Cell) (P : Nat) (ps : Ed) (F : List Nat) (hl : F.length = P) (hP : P ≤ 12) (u v i : Nat) (hv : v < P) (hi : i < P) :
    forStepG ge (C k) (.name 3) B__law_brought_5 [0, 3, 5, 6, 7] (nD i) [none, some (nD P), some (.ref 1), none, some (.ref 2), none, none, none, some (nD u), some (nD v)] (MB c0 ps F) = .nx [none, some (nD P), some (.ref 1), none, some (.ref 2), none, none, none, some (nD u), some (nD v)] (MB c0 ps (pt F (u, v) i)) := by
  have hx := at_F (F := F) (i := i) (by omega)
  have hy := at_F (F := F) (i := v) (by omega)
  have sb := shr_and (F.getD i 0) u
  unfold MB pt
  show _ = RS.nx _ [c0, .lst ((if (F.getD i 0).testBit u = true then F.set i (F.getD i 0 ||| F.getD v 0) else F).map nD), _]
  generalize ps.map pD = PL at *
  cases hb : (F.getD i 0).testBit u with
  | true =>
    rw [hb] at sb
    have sb : F.getD i 0 >>> u &&& 1 = 1 := sb
    rw [if_pos rfl]
    generalize F.getD i 0 = x at *
    generalize F.getD v 0 = y at *
    simp (disch := first | assumption | omega | (simp; done) | (simp; omega)) [bin_mulN, bin_modN, bin_divN, bin_shl1, bin_subN, rgR_N, rgL_N, rg2R_N, rr2R_N, gdL, gdLt, fin_sameM, fin_moreM, fin_lenM, finX_sameM, finX_moreM, endT_same, endT_cut, slFrz_cl, onB_dec, ifS, -getElem?_pos, List.getElem?_cons_zero, List.getElem?_cons_succ, B__law_brought_5, hx, hy, sb, hl, List.map_set]
  | false =>
    rw [hb] at sb
    have sb : F.getD i 0 >>> u &&& 1 = 0 := sb
    rw [if_neg Bool.false_ne_true]
    generalize F.getD i 0 = x at *
    generalize F.getD v 0 = y at *
    simp (disch := first | assumption | omega | (simp; done) | (simp; omega)) [bin_mulN, bin_modN, bin_divN, bin_shl1, bin_subN, rgR_N, rgL_N, rg2R_N, rr2R_N, gdL, gdLt, fin_sameM, fin_moreM, fin_lenM, finX_sameM, finX_moreM, endT_same, endT_cut, slFrz_cl, onB_dec, ifS, -getElem?_pos, List.getElem?_cons_zero, List.getElem?_cons_succ, B__law_brought_5, hx, hy, sb, hl]
theorem b4 {k : Nat} (c0 : Cell) (P : Nat) (ps : Ed) (hps : ∀ p ∈ ps, p.1 < P ∧ p.2 < P) (F : List Nat) (hU : Up P ps F) (hP : P ≤ 12) (p : Nat × Nat) (hp : p ∈ ps) :
    forStepG ge (C k) (.names [8, 9]) B__law_brought_4 [0, 3, 5, 6, 7, 8, 9] (pD p) (SB P) (MB c0 ps F) = .nx (SB P) (MB c0 ps (pr_ F p P)) := by
  obtain ⟨u, v⟩ := p
  have hv := (hps (u, v) hp).2
  obtain ⟨F', hF', e⟩ := forL_rng (step := forStepG ge (C k) (.name 3) B__law_brought_5 [0, 3, 5, 6, 7]) (fun _ : List Nat => [none, some (nD P), some (.ref 1), none, some (.ref 2), none, none, none, some (nD u), some (nD v)]) (fun F => MB c0 ps F) P (fun i F' => F' = pr_ F (u, v) i) (fun i hi F1 h1 => by
    subst h1
    exact ⟨_, (pr_succ F (u, v) i).symm, b5 c0 P ps _ (pr_ok hU hp (hps (u, v) hp) i (by omega)).1.len hP u v i hv hi⟩) F rfl
  subst hF'
  unfold MB at *
  generalize (pr_ F (u, v) P).map nD = L2 at *
  generalize F.map nD = L1 at *
  generalize ps.map pD = PL at *
  simp (disch := first | assumption | omega | (simp; done) | (simp; omega)) [bin_mulN, bin_modN, bin_divN, bin_shl1, bin_subN, rgR_N, rgL_N, rg2R_N, rr2R_N, gdL, gdLt, fin_sameM, fin_moreM, fin_lenM, finX_sameM, finX_moreM, endT_same, endT_cut, slFrz_cl, onB_dec, ifS, -getElem?_pos, List.getElem?_cons_zero, List.getElem?_cons_succ, B__law_brought_4, setAll, e]
theorem b3 {k : Nat} (c0 : Cell) (P : Nat) (ps : Ed) (hps : ∀ p ∈ ps, p.1 < P ∧ p.2 < P) (hP : P ≤ 12) (t : Nat) (F : List Nat) (hU : Up P ps F) (hL : Lo P ps F t) :
    ∃ F', Up P ps F' ∧ Lo P ps F' (t + 1) ∧ forStepG ge (C k) (.name 7) B__law_brought_3 [0, 3, 5, 6, 7, 8, 9] (nD t) (SB P) (MB c0 ps F) = .nx (SB P) (MB c0 ps F') := by
  obtain ⟨F', ⟨h1, h2, h3⟩, e⟩ := forL_inv (step := forStepG ge (C k) (.names [8, 9]) B__law_brought_4 [0, 3, 5, 6, 7, 8, 9]) (fun _ : List Nat => SB P) (fun F => MB c0 ps F) pD [(2, ps.map pD)] ps (fun n F' => Up P ps F' ∧ (∀ a j, (F.getD a 0).testBit j = true → (F'.getD a 0).testBit j = true) ∧ ∀ q ∈ ps.take n, ∀ i, i < P → (F.getD i 0).testBit q.1 = true → (F'.getD i 0).testBit q.2 = true) (fun n F1 _ p hp => by
      rw [List.mem_singleton.mp hp]; rfl) (fun n p hn F1 ⟨q1, q2, q3⟩ => by
      have hp := List.mem_of_getElem? hn
      obtain ⟨r1, r2, r3⟩ := pr_ok q1 hp (hps p hp) P (Nat.le_refl _)
      refine ⟨pr_ F1 p P, ⟨r1, fun a j hj => r2 a j (q2 a j hj), fun q hq i hi hb => ?_⟩, b4 c0 P ps hps F1 q1 hP p hp⟩
      rw [List.take_add_one, hn] at hq
      rcases List.mem_append.mp hq with hq | hq
      · exact r2 i q.2 (q3 q hq i hi hb)
      · have hq : q ∈ [p] := hq
        rw [List.mem_singleton] at hq
        subst hq
        exact r3 i hi (q2 i q.1 hb)) F ⟨hU, fun _ _ h => h, fun q hq => by cases hq⟩
  rw [List.take_length] at h3
  refine ⟨F', h1, fun i hi j hj => ?_, ?_⟩
  · rcases hj with hj | ⟨p, hp, r, rfl⟩
    · exact h2 i j (hL i hi j hj)
    · exact h3 p hp i hi (hL i hi p.1 r)
  · unfold MB at *
    generalize F'.map nD = L2 at *
    generalize F.map nD = L1 at *
    generalize ps.map pD = PL at *
    simp (disch := first | assumption | omega | (simp; done) | (simp; omega)) [bin_mulN, bin_modN, bin_divN, bin_shl1, bin_subN, rgR_N, rgL_N, rg2R_N, rr2R_N, gdL, gdLt, fin_sameM, fin_moreM, fin_lenM, finX_sameM, finX_moreM, endT_same, endT_cut, slFrz_cl, onB_dec, ifS, -getElem?_pos, List.getElem?_cons_zero, List.getElem?_cons_succ, B__law_brought_3, e]
theorem e_lbrought {k : Nat} (hk : 2 ≤ k) (ns : List Int) (P : Nat) (hP1 : 1 ≤ P) (hP : P ≤ 12) (c0 : Cell) :
    ∃ (ps : Ed) (F : List Nat), (∀ p ∈ ps, p.1 < P ∧ p.2 < P) ∧ Up P ps F ∧ Lo P ps F P ∧ C k "_law_brought" [sc ns, nD P] [c0] = .ok (.tup (F.map nD)) [c0] := by
  obtain ⟨k, rfl⟩ : ∃ j, k = j + 1 := ⟨k - 1, by omega⟩
  have lc : lcL (lcStep ge (C k) [3] true .none E__law_brought_1 [some (sc ns), some (nD P), none, none, none, none, none, none, none, none]) [] ((List.range P).map nD) [c0] = .ok (((List.range P).map fun i => 2 ^ i).map nD) [c0] := by
    rw [List.map_map]
    refine lcL_mapN fun i hi => ?_
    have hi := List.mem_range.mp hi
    have hsh : ∀ st, binop .LShift (nD 1) (nD i) st = .ok (nD (2 ^ i)) st := fun st => bin_shl1 (by omega)
    show _ = Res.ok (some (nD (2 ^ i))) [c0]
    generalize 2 ^ i = T at *
    simp (disch := first | assumption | omega | (simp; done) | (simp; omega)) [bin_mulN, bin_modN, bin_divN, bin_shl1, bin_subN, rgR_N, rgL_N, rg2R_N, rr2R_N, gdL, gdLt, fin_sameM, fin_moreM, fin_lenM, finX_sameM, finX_moreM, endT_same, endT_cut, slFrz_cl, onB_dec, ifS, -getElem?_pos, List.getElem?_cons_zero, List.getElem?_cons_succ, E__law_brought_1, hsh]
  obtain ⟨n1, hn1, ec1⟩ := e_cell (k := k) (by omega) ns 1 (by decide) [c0, .lst (((List.range P).map fun i => 2 ^ i).map nD), .lst []]
  obtain ⟨ps, ⟨hps, hpl⟩, e2⟩ := forL_rng (step := forStepG ge (C k) (.name 5) B__law_brought_2 [5, 6]) (fun _ : Ed => [some (sc ns), some (nD P), some (.ref 1), none, some (.ref 2), none, none, none, none, none]) (fun ps => MB c0 ps ((List.range P).map fun i => 2 ^ i)) (n1 % 6) (fun i ps => (∀ p ∈ ps, p.1 < P ∧ p.2 < P) ∧ ps.length = i) (fun i hi ps ⟨h1, h2⟩ => by
    obtain ⟨n2, _, ec⟩ := e_cell (k := k) (by omega) ns (2 + i) (by omega) (MB c0 ps ((List.range P).map fun i => 2 ^ i))
    refine ⟨ps ++ [(n2 % P, n2 / 12 % P)], ⟨fun p hp => ?_, by rw [List.length_append, h2]; rfl⟩, ?_⟩
    · rcases List.mem_append.mp hp with hp | hp
      · exact h1 p hp
      · rw [List.mem_singleton.mp hp]
        exact ⟨Nat.mod_lt _ hP1, Nat.mod_lt _ hP1⟩
    · have hpl : (ps.map pD).length < 16777216 := by rw [List.length_map]; omega
      unfold MB at *
      rw [List.map_append]
      show _ = RS.nx _ [c0, _, .lst (ps.map pD ++ [.tup [nD (n2 % P), nD (n2 / 12 % P)]])]
      generalize ((List.range P).map fun i => 2 ^ i).map nD = FL at *
      generalize ps.map pD = PL at *
      simp (disch := first | assumption | omega | (simp; done) | (simp; omega)) [bin_mulN, bin_modN, bin_divN, bin_shl1, bin_subN, rgR_N, rgL_N, rg2R_N, rr2R_N, gdL, gdLt, fin_sameM, fin_moreM, fin_lenM, finX_sameM, finX_moreM, endT_same, endT_cut, slFrz_cl, onB_dec, ifS, -getElem?_pos, List.getElem?_cons_zero, List.getElem?_cons_succ, B__law_brought_2, s__law_cell, ec]) [] ⟨fun p hp => (by cases hp), rfl⟩
  have g0 : ∀ i, i < P → ((List.range P).map fun i => 2 ^ i).getD i 0 = 2 ^ i := fun i hi => by
    rw [List.getD_eq_getElem?_getD, List.getElem?_map, List.getElem?_range hi]; rfl
  have hU : Up P ps ((List.range P).map fun i => 2 ^ i) := ⟨by rw [List.length_map, List.length_range], fun i hi => by rw [g0 i hi]; exact Nat.pow_lt_pow_right (by decide) hi, fun i hi => by rw [g0 i hi]; exact Nat.testBit_two_pow_self, fun i hi j hj s _ hs => by
    rw [g0 i hi, Nat.testBit_two_pow, decide_eq_true_eq] at hj
    rw [← hj]; exact hs⟩
  have hL : Lo P ps ((List.range P).map fun i => 2 ^ i) 0 := fun i hi j hj => by
    rw [show j = i from hj, g0 i hi]; exact Nat.testBit_two_pow_self
  obtain ⟨F, ⟨q1, q2⟩, e3⟩ := forL_rng (step := forStepG ge (C k) (.name 7) B__law_brought_3 [0, 3, 5, 6, 7, 8, 9]) (fun _ : List Nat => SB P) (fun F => MB c0 ps F) P (fun t F => Up P ps F ∧ Lo P ps F t) (fun t ht F ⟨h1, h2⟩ => by
    obtain ⟨F', r1, r2, e⟩ := b3 (k := k) c0 P ps hps hP t F h1 h2
    exact ⟨F', ⟨r1, r2⟩, e⟩) _ ⟨hU, hL⟩
  refine ⟨ps, F, hps, q1, q2, ?_⟩
  have clF : ∀ n, closeds n (F.map nD) = true := fun n => closeds_N n F
  have hFl : (F.map nD).length ≤ 16777216 := by rw [List.length_map, q1.len]; omega
  have hzl : (((List.range P).map fun i => 2 ^ i).map nD).length ≤ 16777216 := by rw [List.length_map, List.length_map, List.length_range]; omega
  have e2 : forL (forStepG ge (C k) (.name 5) B__law_brought_2 [5, 6]) [] ((List.range (n1 % 6)).map nD) [some (sc ns), some (nD P), some (.ref 1), none, some (.ref 2), none, none, none, none, none] [c0, .lst (((List.range P).map fun i => 2 ^ i).map nD), .lst []] = .nx [some (sc ns), some (nD P), some (.ref 1), none, some (.ref 2), none, none, none, none, none] (MB c0 ps ((List.range P).map fun i => 2 ^ i)) := e2
  unfold MB at *
  generalize ((List.range P).map fun i => 2 ^ i).map nD = FL at *
  generalize F.map nD = FF at *
  generalize ps.map pD = PL at *
  rw [C_run t__law_brought ⟨rfl, by decide⟩]
  simp (disch := first | assumption | omega | (simp; done) | (simp; omega)) [bin_mulN, bin_modN, bin_divN, bin_shl1, bin_subN, rgR_N, rgL_N, rg2R_N, rr2R_N, gdL, gdLt, fin_sameM, fin_moreM, fin_lenM, finX_sameM, finX_moreM, endT_same, endT_cut, slFrz_cl, onB_dec, ifS, -getElem?_pos, List.getElem?_cons_zero, List.getElem?_cons_succ, f__law_brought, lc, s__law_cell, ec1, e2, e3]
  exact fin_more (st := [c0]) (ex := [.lst FF, .lst PL]) (d := .tup FF) (clF 1)
end K07
end
section
set_option Elab.async false
set_option linter.all false
set_option maxRecDepth 100000
set_option maxHeartbeats 2000000
namespace K07
open PC PySem
/-! ### trees, drawn -/
abbrev Gt := Nat × List Nat
def gD (g : Gt) : D := .tup [.str wL, nD g.1, .tup (g.2.map nD)]
def rowsD (P : Nat) (gs : List Gt) : List D := (List.range P).map (fun i => D.tup [.str wP, nD i]) ++ gs.map gD
def GG (P : Nat) (gs : List Gt) : Prop := ∀ x g, gs[x]? = some g → 1 ≤ g.1 ∧ g.1 ≤ g.2.length ∧ g.2.length ≤ 8 ∧ g.2.Nodup ∧ ∀ c ∈ g.2, c < P + x
theorem rowsD_len (P : Nat) (gs : List Gt) : (rowsD P gs).length = P + gs.length := by
  unfold rowsD
  rw [List.length_append, List.length_map, List.length_range, List.length_map]
theorem rowsD_cl (n P : Nat) (gs : List Gt) : closeds n (rowsD P gs) = true := by
  unfold rowsD
  rw [closeds_app, closeds_map (fun i => rfl), closeds_map (fun g => by
    show (true && (true && (closed n (.tup (g.2.map nD)) && true))) = true
    rw [show closed n (.tup (g.2.map nD)) = closeds n (g.2.map nD) from rfl, closeds_N]; rfl)]
  rfl
theorem rowsD_snoc (P : Nat) (gs : List Gt) (g : Gt) : rowsD P (gs ++ [g]) = rowsD P gs ++ [gD g] := by
  unfold rowsD
  rw [List.map_append, List.append_assoc]; rfl
theorem GG.snoc {P : Nat} {gs : List Gt} (h : GG P gs) {g : Gt} (h1 : 1 ≤ g.1) (h2 : g.1 ≤ g.2.length) (h3 : g.2.length ≤ 8) (h4 : g.2.Nodup) (h5 : ∀ c ∈ g.2, c < P + gs.length) : GG P (gs ++ [g]) := by
  intro x y hx
  by_cases e : x < gs.length
  · rw [List.getElem?_append_left e] at hx
    exact h x y hx
  · rw [List.getElem?_append_right (by omega)] at hx
    have hlt := (List.getElem?_eq_some_iff.mp hx).1
    have e0 : x - gs.length = 0 := by simp at hlt; omega
    rw [e0] at hx
    cases hx
    exact ⟨h1, h2, h3, h4, fun c hc => by have := h5 c hc; omega⟩
abbrev SI (ns : List Int) (P kk more : Nat) : Slots := [some (sc ns), none, some (nD P), some (.ref 0), none, some (nD kk), some (nD more), some (.ref 1), none, none]
theorem t3 {k : Nat} (hk : 1 ≤ k) (ns : List Int) (P kk more : Nat) (RD : List D) (rl : Nat) (hrl : RD.length = rl) (h1 : 1 ≤ rl) (h2 : rl ≤ 100) (hkk : kk ≤ 30) (j : Nat) (hj : j ≤ 8) (ch : List Nat) (hc : ch.length ≤ j) (hn : ch.Nodup) (hb : ∀ c ∈ ch, c < rl) (h0 : 1 ≤ j → 1 ≤ ch.length) :
    ∃ ch' : List Nat, ch'.length ≤ j + 1 ∧ ch'.Nodup ∧ (∀ c ∈ ch', c < rl) ∧ 1 ≤ ch'.length ∧ forStepG ge (C k) (.name 8) B__law_tree_3 [1, 8, 9] (nD j) (SI ns P kk more) [.lst RD, .lst (ch.map nD)] = .nx (SI ns P kk more) [.lst RD, .lst (ch'.map nD)] := by
  obtain ⟨n, _, ec⟩ := e_cell (k := k) hk ns (40 + 8 * kk + j) (by omega) [.lst RD, .lst (ch.map nD)]
  have hlt : n % rl < rl := Nat.mod_lt _ (by omega)
  have nn : cmpB .NotIn (nD (n % rl)) (.ref 1) [.lst RD, .lst (ch.map nD)] = .ok (!ch.contains (n % rl)) [.lst RD, .lst (ch.map nD)] := nin_ref (st := [.lst RD, .lst (ch.map nD)]) (k := 1) (xs := ch) (x := n % rl) rfl
  have hcl : (ch.map nD).length < 16777216 := by rw [List.length_map]; omega
  have hrl0 : 0 < rl := h1
  cases hm : ch.contains (n % rl) with
  | true =>
    rw [hm] at nn
    have hm' := List.contains_iff_mem.mp hm
    refine ⟨ch, by omega, hn, hb, List.length_pos_of_mem hm', ?_⟩
    generalize ch.map nD = CH at *
    simp (disch := first | assumption | omega | (simp; done) | (simp; omega)) [bin_mulN, bin_modN, bin_divN, bin_shl1, bin_subN, rgR_N, rgL_N, rg2R_N, rr2R_N, gdL, gdLt, fin_sameM, fin_moreM, fin_lenM, finX_sameM, finX_moreM, endT_same, endT_cut, slFrz_cl, onB_dec, ifS, -getElem?_pos, List.getElem?_cons_zero, List.getElem?_cons_succ, B__law_tree_3, s__law_cell, ec, hrl, nn]
  | false =>
    rw [hm] at nn
    have hm' : n % rl ∉ ch := fun z => by rw [List.contains_iff_mem.mpr z] at hm; cases hm
    refine ⟨ch ++ [n % rl], by rw [List.length_append]; simp; omega, ?_, fun c hc => ?_, by rw [List.length_append]; simp, ?_⟩
    · rw [List.nodup_append]
      refine ⟨hn, by simp, fun a ha b hb e => ?_⟩
      rw [List.mem_singleton] at hb
      subst hb
      subst e
      exact hm' ha
    · rcases List.mem_append.mp hc with hc | hc
      · exact hb c hc
      · rw [List.mem_singleton.mp hc]; exact hlt
    · rw [List.map_append]
      show _ = RS.nx _ [_, .lst (ch.map nD ++ [nD (n % rl)])]
      generalize ch.map nD = CH at *
      simp (disch := first | assumption | omega | (simp; done) | (simp; omega)) [bin_mulN, bin_modN, bin_divN, bin_shl1, bin_subN, rgR_N, rgL_N, rg2R_N, rr2R_N, gdL, gdLt, fin_sameM, fin_moreM, fin_lenM, finX_sameM, finX_moreM, endT_same, endT_cut, slFrz_cl, onB_dec, ifS, -getElem?_pos, List.getElem?_cons_zero, List.getElem?_cons_succ, B__law_tree_3, s__law_cell, ec, hrl, nn]
abbrev ST (ns : List Int) (P : Nat) : Slots := [some (sc ns), none, some (nD P), some (.ref 0), none, none, none, none, none, none]
theorem t2 {k : Nat} (hk : 1 ≤ k) (ns : List Int) (P : Nat) (hP1 : 1 ≤ P) (hP : P ≤ 12) (kk : Nat) (hkk : kk ≤ 21) (gs : List Gt) (hl : gs.length = kk) (hg : GG P gs) :
    ∃ gs' : List Gt, gs'.length = kk + 1 ∧ GG P gs' ∧ forStepG ge (C k) (.name 5) B__law_tree_2 [1, 5, 6, 7, 8, 9] (nD kk) (ST ns P) [.lst (rowsD P gs)] = .nx (ST ns P) [.lst (rowsD P gs')] := by
  obtain ⟨more, _, ec⟩ := e_cell (k := k) hk ns (10 + kk) (by omega) [.lst (rowsD P gs)]
  have hrl := rowsD_len P gs
  obtain ⟨ch, ⟨c1, c2, c3, c4⟩, e3⟩ := forL_rng (step := forStepG ge (C k) (.name 8) B__law_tree_3 [1, 8, 9]) (fun _ : List Nat => SI ns P kk more) (fun ch => [.lst (rowsD P gs), .lst (ch.map nD)]) (1 + more % 8) (fun j ch => ch.length ≤ j ∧ ch.Nodup ∧ (∀ c ∈ ch, c < P + gs.length) ∧ (1 ≤ j → 1 ≤ ch.length)) (fun j hj ch ⟨q1, q2, q3, q4⟩ => by
    obtain ⟨ch', r1, r2, r3, r4, e⟩ := t3 (k := k) hk ns P kk more (rowsD P gs) (P + gs.length) hrl (by omega) (by omega) (by omega) j (by omega) ch q1 q2 q3 q4
    exact ⟨ch', ⟨r1, r2, r3, fun _ => r4⟩, e⟩) [] ⟨Nat.le_refl _, List.nodup_nil, fun c hc => (by cases hc), fun h => by omega⟩
  have hc1 : 1 ≤ ch.length := c4 (by omega)
  have hmod : more / 8 % ch.length < ch.length := Nat.mod_lt _ (by omega)
  refine ⟨gs ++ [(1 + more / 8 % ch.length, ch)], by rw [List.length_append, hl]; rfl, hg.snoc (by show 1 ≤ 1 + _; omega) (by show 1 + _ ≤ ch.length; omega) (by show ch.length ≤ 8; omega) c2 c3, ?_⟩
  have cl := rowsD_cl 1 P (gs ++ [(1 + more / 8 % ch.length, ch)])
  rw [rowsD_snoc] at cl ⊢
  unfold gD at cl ⊢
  have hchl : (ch.map nD).length = ch.length := List.length_map _
  have hrl16 : (rowsD P gs).length < 16777216 := by omega
  have hch16 : (ch.map nD).length ≤ 16777216 := by omega
  have e3 : forL (forStepG ge (C k) (.name 8) B__law_tree_3 [1, 8, 9]) [] ((List.range (1 + more % 8)).map nD) (SI ns P kk more) [.lst (rowsD P gs), .lst []] = .nx (SI ns P kk more) [.lst (rowsD P gs), .lst (ch.map nD)] := e3
  show _ = RS.nx _ [.lst (rowsD P gs ++ [.tup [.str wL, nD (1 + more / 8 % ch.length), .tup (ch.map nD)]])]
  have cl : closeds 1 (rowsD P gs ++ [.tup [.str wL, nD (1 + more / 8 % ch.length), .tup (ch.map nD)]]) = true := cl
  generalize rowsD P gs = RD at *
  generalize ch.map nD = CH at *
  generalize ch.length = cl_ at *
  simp (disch := first | assumption | omega | (simp; done) | (simp; omega)) [bin_mulN, bin_modN, bin_divN, bin_shl1, bin_subN, rgR_N, rgL_N, rg2R_N, rr2R_N, gdL, gdLt, fin_sameM, fin_moreM, fin_lenM, finX_sameM, finX_moreM, endT_same, endT_cut, slFrz_cl, onB_dec, ifS, -getElem?_pos, List.getElem?_cons_zero, List.getElem?_cons_succ, B__law_tree_2, s__law_cell, ec, e3, hchl]
  rw [endT_cut (by simp) (Or.inr (by simpa using cl))]
  simp [slFrz]
def treeT (P : Nat) (gs : List Gt) (F : List Nat) : D := .tup [nD P, .tup (rowsD P gs), .tup (F.map nD)]
/-- what a drawn tree is -/
structure Tr (P : Nat) (gs : List Gt) (F : List Nat) : Prop where
  p1 : 1 ≤ P
  p2 : P ≤ 12
  gl : gs.length ≤ 21
  g : GG P gs
  fl : F.length = P
  flt : ∀ i, i < P → F.getD i 0 < 2 ^ P
  self : ∀ i, i < P → (F.getD i 0).testBit i = true
  br : ∀ i, i < P → brR F P i = true
theorem e_ltree {k : Nat} (hk : 3 ≤ k) (ns : List Int) : ∃ (P : Nat) (gs : List Gt) (F : List Nat), Tr P gs F ∧ C k "_law_tree" [sc ns] [] = .ok (treeT P gs F) [] := by
  obtain ⟨k, rfl⟩ : ∃ j, k = j + 1 := ⟨k - 1, by omega⟩
  obtain ⟨n, _, ec⟩ := e_cell (k := k) (by omega) ns 0 (by decide) []
  have hP1 : 1 ≤ 1 + n % 12 := by omega
  have hP : 1 + n % 12 ≤ 12 := by omega
  generalize hPd : 1 + n % 12 = P at *
  obtain ⟨_, g1, G, rfl, hG⟩ := pick (α := D) (L := [nD (n / 12 % 22), nD (n / 12 % 5)]) (n := n / 264 % 2) (Nat.mod_lt _ (by decide)) (Q := fun x => ∃ G, x = nD G ∧ G ≤ 21) (by
    intro x hx
    simp only [List.mem_cons, List.not_mem_nil, or_false] at hx
    rcases hx with rfl | rfl
    · exact ⟨_, rfl, by omega⟩
    · exact ⟨_, rfl, by omega⟩)
  obtain ⟨gs, ⟨hl, hg⟩, e2⟩ := forL_rng (step := forStepG ge (C k) (.name 5) B__law_tree_2 [1, 5, 6, 7, 8, 9]) (fun _ : List Gt => ST ns P) (fun gs => [.lst (rowsD P gs)]) G (fun i gs => gs.length = i ∧ GG P gs) (fun i hi gs ⟨h1, h2⟩ => by
    obtain ⟨gs', r1, r2, e⟩ := t2 (k := k) (by omega) ns P hP1 hP i (by omega) gs h1 h2
    exact ⟨gs', ⟨r1, r2⟩, e⟩) [] ⟨rfl, fun x g h => by simp at h⟩
  obtain ⟨ps, F, hps, hU, hL, eb⟩ := e_lbrought (k := k) (by omega) ns P hP1 hP (.lst (rowsD P gs))
  refine ⟨P, gs, F, ⟨hP1, hP, by omega, hg, hU.len, hU.lt, hU.self, fun i hi => brR_of hps hU hL hi⟩, ?_⟩
  have lc : lcL (lcStep ge (C k) [4] true .none E__law_tree_1 [some (sc ns), some (nD n), some (nD P), none, none, none, none, none, none, none]) [] ((List.range P).map nD) [] = .ok (rowsD P []) [] := by
    unfold rowsD
    rw [List.map_nil, List.append_nil]
    exact lcL_mapN fun i hi => by simp (disch := first | assumption | omega | (simp; done) | (simp; omega)) [bin_mulN, bin_modN, bin_divN, bin_shl1, bin_subN, rgR_N, rgL_N, rg2R_N, rr2R_N, gdL, gdLt, fin_sameM, fin_moreM, fin_lenM, finX_sameM, finX_moreM, endT_same, endT_cut, slFrz_cl, onB_dec, ifS, -getElem?_pos, List.getElem?_cons_zero, List.getElem?_cons_succ, E__law_tree_1]
  have h0 : (rowsD P []).length ≤ 16777216 := by rw [rowsD_len]; simp; omega
  have h1 : (rowsD P gs).length ≤ 16777216 := by rw [rowsD_len]; omega
  have cl := rowsD_cl 0 P gs
  have clF := closeds_N 0 F
  unfold treeT
  generalize rowsD P gs = RD at *
  generalize rowsD P [] = R0 at *
  generalize F.map nD = FF at *
  rw [C_run t__law_tree ⟨rfl, by decide⟩]
  simp (disch := first | assumption | omega | (simp; done) | (simp; omega)) [bin_mulN, bin_modN, bin_divN, bin_shl1, bin_subN, rgR_N, rgL_N, rg2R_N, rr2R_N, gdL, gdLt, fin_sameM, fin_moreM, fin_lenM, finX_sameM, finX_moreM, endT_same, endT_cut, slFrz_cl, onB_dec, ifS, -getElem?_pos, List.getElem?_cons_zero, List.getElem?_cons_succ, f__law_tree, s__law_cell, ec, hPd, lc, g1, e2, s__law_brought, eb]
  exact fin_more (st := []) (ex := [.lst RD]) (d := .tup [nD P, .tup RD, .tup FF]) (by
    show (true && (closeds 0 RD && (closeds 0 FF && true))) = true
    rw [cl, clF]; rfl)
end K07
end
section
set_option Elab.async false
set_option linter.all false
set_option maxRecDepth 100000
set_option maxHeartbeats 2000000
namespace K07
open PC PySem
/-! ### what makes a tree -/
theorem trB_form {m : Nat} (h1 : 1 ≤ m) (h2 : m ≤ 12) (rows : List D) (br : D) : trB (.tup [nD m, .tup rows, br]) = (decide (m ≤ rows.length ∧ rows.length ≤ m + 21) && ((enumD 0 rows).all (erB m) && brB br m)) := by
  have hap : amg (nD m) 1 12 = true := by
    have := amgN m 1 12
    rw [decide_eq_true h1, decide_eq_true h2] at this
    exact this
  show (amg (nD m) 1 12 && (decide (((m : Int)).toNat ≤ rows.length ∧ rows.length ≤ ((m : Int)).toNat + 21) && _)) = _
  rw [hap, Int.toNat_natCast]; rfl
theorem er_nat (m b : Nat) (r : D) : erB m (.tup [.int (b : Int), r]) = rowB r b m := by
  show rowB r ((b : Int)).toNat m = _
  rw [Int.toNat_natCast]
theorem enum_ok {m : Nat} : ∀ (rows : List D) (a : Nat), (∀ i r, rows[i]? = some r → rowB r (a + i) m = true) → (enumD a rows).all (erB m) = true
  | [], _, _ => rfl
  | x :: r, a, h => by
    show (erB m (.tup [.int (a : Int), x]) && (enumD (a + 1) r).all (erB m)) = true
    have h0 := h 0 x rfl
    rw [Nat.add_zero] at h0
    rw [er_nat, h0, enum_ok r (a + 1) fun i y hy => by rw [show a + 1 + i = a + (i + 1) by omega]; exact h (i + 1) y hy]
    rfl
theorem enum_no {m : Nat} : ∀ (rows : List D) (a i : Nat) (r : D), rows[i]? = some r → rowB r (a + i) m = false → (enumD a rows).all (erB m) = false
  | [], _, i, r, h, _ => by simp at h
  | x :: l, a, 0, r, h, hb => by
    cases h
    show (erB m (.tup [.int (a : Int), x]) && (enumD (a + 1) l).all (erB m)) = false
    rw [Nat.add_zero] at hb
    rw [er_nat, hb]; rfl
  | x :: l, a, i + 1, r, h, hb => by
    show (erB m (.tup [.int (a : Int), x]) && (enumD (a + 1) l).all (erB m)) = false
    rw [enum_no l (a + 1) i r h (by rw [show a + 1 + i = a + (i + 1) by omega]; exact hb), Bool.and_false]
theorem toInts_N (L : List Nat) : toInts (L.map nD) = some (L.map fun (n : Nat) => (n : Int)) := by
  have : L.map nD = (L.map fun (n : Nat) => (n : Int)).map D.int := by rw [List.map_map]; rfl
  rw [this, toInts_map]
theorem ndp_N : ∀ {L : List Nat}, L.Nodup → ndp (L.map fun (n : Nat) => (n : Int)) = true
  | [], _ => rfl
  | a :: r, h => by
    obtain ⟨h1, h2⟩ := List.nodup_cons.mp h
    show (!decide ((a : Int) ∈ r.map fun (n : Nat) => (n : Int)) && ndp (r.map fun (n : Nat) => (n : Int))) = true
    rw [ndp_N h2, decide_eq_false (fun hm => by
      obtain ⟨b, hb, e⟩ := List.mem_map.mp hm
      have : b = a := by omega
      exact h1 (this ▸ hb))]
    rfl
theorem amg_le {c a : Nat} (h : c ≤ a) : amg (nD c) ((0 : Nat) : Int) (a : Int) = true := by
  rw [amgN, decide_eq_true (Nat.zero_le _), decide_eq_true h]; rfl
theorem row_part {i P : Nat} (h : i < P) : rowB (.tup [.str wP, nD i]) i P = true := by
  show (decide (i < P) && (wP == wP && (isWh (nD i) && pyEq (nD i) (nD i)))) = true
  rw [decide_eq_true h, pyEq_N, decide_eq_true rfl]; rfl
theorem row_gate {a P : Nat} (h : ¬ a < P) {g : Gt} (h1 : 1 ≤ g.1) (h2 : g.1 ≤ g.2.length) (h3 : g.2.length ≤ 8) (h4 : g.2.Nodup) (h5 : ∀ c ∈ g.2, c < a) : rowB (gD g) a P = true := by
  show (!decide (a < P) && (wL == wL && (kidB (g.2.map nD) a && (decide ((g.2.map nD).length ≤ 8) && amg (nD g.1) 1 ((g.2.map nD).length : Nat))))) = true
  have k1 : kidB (g.2.map nD) a = true := by
    unfold kidB
    rw [toInts_N]
    show ((g.2.map nD).all (fun c => amg c ((0 : Nat) : Int) ((a - 1 : Nat) : Int)) && ndp (g.2.map fun (n : Nat) => (n : Int))) = true
    rw [ndp_N h4, Bool.and_true, List.all_map, List.all_eq_true]
    intro c hc
    have := h5 c hc
    exact amg_le (by omega)
  have k2 := amgN g.1 1 g.2.length
  rw [decide_eq_true h1, decide_eq_true h2] at k2
  rw [decide_eq_false h, k1, List.length_map, decide_eq_true h3]
  show (true && (true && (true && (true && amg (nD g.1) ((1 : Nat) : Int) (g.2.length : Int))))) = true
  rw [k2]; rfl
theorem rows_at {P : Nat} {gs : List Gt} {i : Nat} {r : D} (h : (rowsD P gs)[i]? = some r) : (i < P ∧ r = .tup [.str wP, nD i]) ∨ ∃ x g, i = P + x ∧ gs[x]? = some g ∧ r = gD g := by
  unfold rowsD at h
  have hl : ((List.range P).map fun i => D.tup [.str wP, nD i]).length = P := by rw [List.length_map, List.length_range]
  by_cases hi : i < P
  · rw [List.getElem?_append_left (by omega), List.getElem?_map, List.getElem?_range hi] at h
    exact .inl ⟨hi, (Option.some.inj h).symm⟩
  · rw [List.getElem?_append_right (by omega), hl, List.getElem?_map] at h
    obtain ⟨g, hg, e⟩ := Option.map_eq_some_iff.mp h
    exact .inr ⟨i - P, g, by omega, hg, e.symm⟩
theorem rows_ok {P : Nat} {gs : List Gt} (hg : GG P gs) {i : Nat} {r : D} (h : (rowsD P gs)[i]? = some r) : rowB r i P = true := by
  rcases rows_at h with ⟨hi, rfl⟩ | ⟨x, g, rfl, hx, rfl⟩
  · exact row_part hi
  · obtain ⟨q1, q2, q3, q4, q5⟩ := hg x g hx
    exact row_gate (by omega) q1 q2 q3 q4 q5
/-- the bits of a good tree -/
theorem br_all {P : Nat} {F : List Nat} (hl : F.length = P) (h : ∀ i, i < P → F.getD i 0 < 2 ^ P) : (F.map nD).all (fun c => amg c ((0 : Nat) : Int) ((2 ^ P - 1 : Nat) : Int)) = true := by
  rw [List.all_map, List.all_eq_true]
  intro b hb
  obtain ⟨i, hi, rfl⟩ := List.getElem_of_mem hb
  have := h i (by omega)
  rw [List.getD_eq_getElem?_getD, List.getElem?_eq_getElem hi] at this
  have this : F[i] < 2 ^ P := this
  exact amg_le (by omega)
theorem nat_int (F : List Nat) : (F.map fun (n : Nat) => (n : Int)).map Int.toNat = F := by
  rw [List.map_map]
  have : (Int.toNat ∘ fun (n : Nat) => (n : Int)) = id := by funext n; exact Int.toNat_natCast n
  rw [this, List.map_id]
theorem brB_N {P : Nat} {F : List Nat} (hl : F.length = P) (h : ∀ i, i < P → F.getD i 0 < 2 ^ P) : brB (.tup (F.map nD)) P = (List.range P).all fun i => brR F P i := by
  show (decide ((F.map nD).length = P) && ((F.map nD).all (fun c => amg c ((0 : Nat) : Int) ((2 ^ P - 1 : Nat) : Int)) && (match toInts (F.map nD) with
    | some is => (List.range P).all fun i => brR (is.map Int.toNat) P i
    | none => false))) = _
  rw [List.length_map, decide_eq_true hl, br_all hl h, toInts_N]
  show (true && (true && ((List.range P).all fun i => brR ((F.map fun (n : Nat) => (n : Int)).map Int.toNat) P i))) = _
  rw [nat_int]; rfl
theorem Tr.brok {P : Nat} {gs : List Gt} {F : List Nat} (t : Tr P gs F) : brB (.tup (F.map nD)) P = true := by
  rw [brB_N t.fl t.flt, List.all_eq_true]
  exact fun i hi => t.br i (List.mem_range.mp hi)
theorem Tr.ok {P : Nat} {gs : List Gt} {F : List Nat} (t : Tr P gs F) : trB (treeT P gs F) = true := by
  have := t.gl
  unfold treeT
  rw [trB_form t.p1 t.p2, rowsD_len, decide_eq_true ⟨by omega, by omega⟩, t.brok, enum_ok _ 0 fun i r h => by rw [Nat.zero_add]; exact rows_ok t.g h]
  rfl
/-! ### how long their texts are -/
structure RowV (r : D) : Prop where
  sr : SR 58 81000 r
  sm : ∀ s y cs, r = .tup [s, y, .tup cs] → cs.length ≤ 1000
theorem SR_N {n m : Nat} (h : m < 1000000) : SR (n + 1) 2000 (nD m) := (SR_n (by omega)).mono (by decide)
theorem SR_kids {L : List D} (h : ∀ x ∈ L, SR 56 2000 x) (hl : L.length ≤ 10) : SR 57 20100 (.tup L) := (SR_tup h hl).mono (by decide)
theorem SR_w {s : List Nat} (h : asc s) (hl : s.length ≤ 20) {n : Nat} : SR (n + 1) 2000 (.str s) := (SR_str h).mono (by omega)
theorem up57 {x : D} (h : SR 57 2000 x) : SR 57 20100 x := h.mono (by decide)
theorem rowv {xs : List D} (h : ∀ x ∈ xs, SR 57 20100 x) (hl : xs.length ≤ 4) (hs : ∀ s y cs, xs = [s, y, .tup cs] → cs.length ≤ 1000) : RowV (.tup xs) :=
  ⟨(SR_tup h hl).mono (by decide), fun s y cs e => hs s y cs (by injection e)⟩
theorem part_v {i : Nat} (h : i < 1000000) : RowV (.tup [.str wP, nD i]) := rowv (fun x hx => by
  simp only [List.mem_cons, List.not_mem_nil, or_false] at hx
  rcases hx with rfl | rfl
  · exact up57 (SR_w (by decide) (by decide))
  · exact up57 (SR_N h)) (by simp) (fun s y cs e => by cases e)
theorem kids_v {L : List Nat} (h : ∀ c ∈ L, c < 1000000) (hl : L.length ≤ 10) : SR 57 20100 (.tup (L.map nD)) := SR_kids (fun x hx => by
  obtain ⟨c, hc, rfl⟩ := List.mem_map.mp hx
  exact SR_N (h c hc)) (by rw [List.length_map]; exact hl)
theorem tri_v {s : List Nat} {y z : D} (h1 : asc s) (h2 : s.length ≤ 20) (hy : SR 57 2000 y) (hz : SR 57 20100 z) (hm : ∀ cs, z = .tup cs → cs.length ≤ 1000) : RowV (.tup [.str s, y, z]) := rowv (fun x hx => by
  simp only [List.mem_cons, List.not_mem_nil, or_false] at hx
  rcases hx with rfl | rfl | rfl
  · exact up57 (SR_w h1 h2)
  · exact up57 hy
  · exact hz) (by simp) (fun s' y' cs e => by
    injection e with _ e
    injection e with _ e
    injection e with e _
    exact hm cs e)
/-- any tree -/
structure TreeV (x : D) : Prop where
  sr : SR 60 11000000 x
  sm : smT x
theorem rows_v {rows : List D} (h : ∀ r ∈ rows, RowV r) (hl : rows.length ≤ 33) : SR 59 2700000 (.tup rows) := (SR_tup (fun r hr => (h r hr).sr) hl).mono (by decide)
theorem tree_v {p br : D} {rows : List D} (hp : SR 59 2700000 p) (hr : ∀ r ∈ rows, RowV r) (hl : rows.length ≤ 33) (hb : SR 59 2700000 br) : TreeV (.tup [p, .tup rows, br]) :=
  ⟨(SR_tup (b := 2700000) (m := 4) (fun x hx => by
    simp only [List.mem_cons, List.not_mem_nil, or_false] at hx
    rcases hx with rfl | rfl | rfl
    · exact hp
    · exact rows_v hr hl
    · exact hb) (by simp)).mono (by decide), fun p' rows' br' e => by
    injection e with e
    injection e with _ e
    injection e with e _
    injection e with e
    subst e
    exact ⟨by omega, fun r hr' => (hr r hr').sm⟩⟩
theorem gate_v {g : Gt} (h1 : g.1 ≤ g.2.length) (h2 : g.2.length ≤ 8) (h3 : ∀ c ∈ g.2, c < 1000) : RowV (gD g) :=
  tri_v (by decide) (by decide) (SR_N (by omega)) (kids_v (fun c hc => by have := h3 c hc; omega) (by omega)) (fun cs e => by
    injection e with e
    rw [← e, List.length_map]; omega)
theorem Tr.rowsv {P : Nat} {gs : List Gt} {F : List Nat} (t : Tr P gs F) : ∀ r ∈ rowsD P gs, RowV r := fun r hr => by
  obtain ⟨i, hi, rfl⟩ := List.getElem_of_mem hr
  have := t.p2
  have := t.gl
  rcases rows_at (List.getElem?_eq_getElem hi) with ⟨h1, e⟩ | ⟨x, g, _, hx, e⟩
  · rw [e]; exact part_v (by omega)
  · obtain ⟨_, q2, q3, _, q5⟩ := t.g x g hx
    have hxl := (List.getElem?_eq_some_iff.mp hx).1
    rw [e]
    exact gate_v q2 q3 fun c hc => by have := q5 c hc; omega
theorem bits_v {n : Nat} {L : List Nat} (h : ∀ b ∈ L, b < 1000000) (hl : L.length ≤ 14) : SR (n + 2) 2700000 (.tup (L.map nD)) := (SR_tup (b := 2000) (m := 14) (fun x hx => by
  obtain ⟨c, hc, rfl⟩ := List.mem_map.mp hx
  exact SR_N (h c hc)) (by rw [List.length_map]; exact hl)).mono (by decide)
theorem Tr.flt' {P : Nat} {gs : List Gt} {F : List Nat} (t : Tr P gs F) : ∀ b ∈ F, b < 1000000 := fun b hb => by
  obtain ⟨i, hi, rfl⟩ := List.getElem_of_mem hb
  have := t.flt i (by rw [← t.fl]; exact hi)
  rw [List.getD_eq_getElem?_getD, List.getElem?_eq_getElem hi] at this
  have this : F[i] < 2 ^ P := this
  have hT : 2 ^ P ≤ 2 ^ 12 := Nat.pow_le_pow_right (by decide) t.p2
  omega
theorem Tr.v {P : Nat} {gs : List Gt} {F : List Nat} (t : Tr P gs F) : TreeV (treeT P gs F) := by
  have := t.p2
  have := t.gl
  have := t.fl
  exact tree_v ((SR_N (by omega)).mono (by decide)) t.rowsv (by rw [rowsD_len]; omega) (bits_v t.flt' (by omega))
end K07
end
section
set_option Elab.async false
set_option linter.all false
set_option maxRecDepth 100000
set_option maxHeartbeats 2000000
namespace K07
open PC PySem
theorem RowV.pl {r : D} (h : RowV r) : plain r = true := (shw_facts 58 r h.sr.s).1
theorem aL {xs ys : List D} {st : Store} (h : xs.length + ys.length ≤ 100) : addD st (.lst xs) (.lst ys) = .ok (.lst (xs ++ ys)) st := gd_pos (by unfold lineN; omega)
theorem aT {xs ys : List D} {st : Store} (h : xs.length + ys.length ≤ 100) : addD st (.tup xs) (.tup ys) = .ok (.tup (xs ++ ys)) st := gd_pos (by unfold lineN; omega)
theorem e_put {k : Nat} (hk : 1 ≤ k) (xs : List D) (a : Nat) (y : D) (st : Store) (ha : a < xs.length) (hl : xs.length ≤ 90) (hc : closeds st.length (xs.set a y) = true) : C k "_law_put" [.tup xs, nD a, y] st = .ok (.tup (xs.set a y)) st := by
  obtain ⟨k, rfl⟩ : ∃ j, k = j + 1 := ⟨k - 1, by omega⟩
  have c1 := cutT xs a
  have c2 := cutD1 xs a
  have d1 : ∀ st, addD st (.tup (xs.take a)) (.tup [y]) = .ok (.tup (xs.take a ++ [y])) st := fun st => aT (by rw [List.length_take]; simp; omega)
  have d2 : ∀ st, addD st (.tup (xs.take a ++ [y])) (.tup (xs.drop (a + 1))) = .ok (.tup (xs.set a y)) st := fun st => by
    rw [aT (by rw [List.length_append, List.length_take, List.length_drop]; simp; omega), List.append_assoc, List.set_eq_take_append_cons_drop, if_pos ha]; rfl
  have hf : fin st.length st (.tup (xs.set a y)) st = .ok (.tup (xs.set a y)) st := fin_same hc
  rw [C_run t__law_put ⟨rfl, by decide⟩]
  generalize xs.set a y = Z at *
  generalize xs.take a ++ [y] = Y1 at *
  generalize xs.take a = Y0 at *
  generalize xs.drop (a + 1) = Y2 at *
  simp (disch := first | assumption | omega | (simp; done) | (simp; omega)) [bin_mulN, bin_modN, bin_divN, bin_shl1, bin_subN, rgR_N, rgL_N, rg2R_N, rr2R_N, gdL, gdLt, fin_sameM, fin_moreM, fin_lenM, finX_sameM, finX_moreM, endT_same, endT_cut, slFrz_cl, onB_dec, ifS, -getElem?_pos, List.getElem?_cons_zero, List.getElem?_cons_succ, f__law_put, c1, c2, d1, d2, hf]
/-! ### a gate, spoilt -/
theorem e_rowspoilt {k P : Nat} (hk : 2 ≤ k) {g : Gt} {a : Nat} (h1 : 1 ≤ g.1) (h2 : g.1 ≤ g.2.length) (h3 : g.2.length ≤ 8) (h4 : ∀ c ∈ g.2, c < 1000) (ha : ¬ a < P) (ha1 : 1 ≤ a) (ha2 : a ≤ 100) (n : Nat) (st : Store) :
    ∃ r, RowV r ∧ rowB r a P = false ∧ C k "_law_row_spoilt" [gD g, nD a, nD n] st = .ok r st := by
  obtain ⟨k, rfl⟩ : ∃ j, k = j + 1 := ⟨k - 1, by omega⟩
  obtain ⟨y, cs⟩ := g
  have h1 : 1 ≤ y := h1
  have h2 : y ≤ cs.length := h2
  have h3 : cs.length ≤ 8 := h3
  have h4 : ∀ c ∈ cs, c < 1000 := h4
  have hcl : (cs.map nD).length = cs.length := List.length_map _
  have hy : SR 57 2000 (nD y) := SR_N (by omega)
  have dec : decide (a < P) = false := decide_eq_false ha
  have kv : SR 57 20100 (.tup (cs.map nD)) := kids_v (fun c hc => by have := h4 c hc; omega) (by omega)
  have ks : ∀ cs', D.tup (cs.map nD) = .tup cs' → cs'.length ≤ 1000 := fun cs' e => by
    injection e with e
    rw [← e, hcl]; omega
  have gB : ∀ (s : List Nat) (y z : D) (cs' : List D), z = .tup cs' → rowB (.tup [.str s, y, z]) a P = (s == wL && (kidB cs' a && (decide (cs'.length ≤ 8) && amg y 1 cs'.length))) := fun s y z cs' e => by
    subst e
    show (!decide (a < P) && (s == wL && (kidB cs' a && (decide (cs'.length ≤ 8) && amg y 1 cs'.length)))) = _
    rw [dec]; rfl
  -- the odd child
  obtain ⟨od, o1, o2, o3⟩ := pick (α := D) (L := [.non, .str [49], .bl true, .int (-1), nD a, nD (a + 1 + n / 90 % 5), .tup [nD 0]]) (n := n / 10 % 7) (Nat.mod_lt _ (by decide)) (Q := fun x => SR 56 2000 x ∧ amg x ((0 : Nat) : Int) ((a - 1 : Nat) : Int) = false) (by
      intro x hx
      simp only [List.mem_cons, List.not_mem_nil, or_false] at hx
      have big : ∀ v, a ≤ v → amg (nD v) ((0 : Nat) : Int) ((a - 1 : Nat) : Int) = false := fun v hv => by
        rw [amgN, decide_eq_false (p := v ≤ a - 1) (by omega), Bool.and_false]
      rcases hx with rfl | rfl | rfl | rfl | rfl | rfl | rfl
      · exact ⟨(SR_non (n := 55)).mono (by decide), rfl⟩
      · exact ⟨SR_w (by decide) (by decide), rfl⟩
      · exact ⟨(SR_bl (n := 55) true).mono (by decide), rfl⟩
      · exact ⟨⟨by decide +kernel, by decide +kernel⟩, rfl⟩
      · exact ⟨SR_N (by omega), big _ (Nat.le_refl _)⟩
      · exact ⟨SR_N (by omega), big _ (by omega)⟩
      · exact ⟨(SR_tup (n := 55) (b := 1921) (m := 1) (fun z hz => by rw [List.mem_singleton.mp hz]; exact SR_n (by decide)) (by simp)).mono (by decide), rfl⟩)
  have hpl : n / 700 % cs.length < cs.length := Nat.mod_lt _ (by omega)
  generalize hpd : n / 700 % cs.length = pl at *
  have c0 : (cs.map nD)[0]? = some (nD (cs.getD 0 0)) := at_F (by omega)
  have hcm : cs.getD 0 0 ∈ cs := by
    rw [List.getD_eq_getElem?_getD, List.getElem?_eq_getElem (by omega)]
    exact List.getElem_mem _
  obtain ⟨r, r1, r2, r3⟩ := pick (α := D) (L := [.tup [.str wL, nD 0, .tup (cs.map nD)], .tup [.str wL, nD (cs.length + 1), .tup (cs.map nD)], .tup [.str wL, .bl true, .tup (cs.map nD)], .tup [.str [109, 111, 115, 116], nD y, .tup (cs.map nD)],
      .tup [.str wL, nD y, .tup []], .tup [.str wL, nD y, .tup (cs.map nD ++ [nD (cs.getD 0 0)])], .tup [.str wL, nD y, .lst (cs.map nD)], .tup [.str wL, nD y],
      .tup [.str wL, nD y, .tup ((cs.map nD).set pl od)], .tup [.str wL, nD y, .tup ((List.range 9).map nD)], .lst [.str wL, nD y, .tup (cs.map nD)], .tup [.str wL, nD y, .tup (cs.map nD), nD 0]]) (n := n % 12) (Nat.mod_lt _ (by decide)) (Q := fun x => RowV x ∧ rowB x a P = false) (by
    intro x hx
    simp only [List.mem_cons, List.not_mem_nil, or_false] at hx
    have am : ∀ v : Nat, (v < 1 ∨ cs.length < v) → amg (nD v) 1 ((cs.map nD).length : Nat) = false := fun v hv => by
      rw [hcl]
      have := amgN v 1 cs.length
      rcases hv with hv | hv
      · rw [decide_eq_false (p := 1 ≤ v) (by omega), Bool.false_and] at this
        exact this
      · rw [decide_eq_false (p := v ≤ cs.length) (by omega), Bool.and_false] at this
        exact this
    rcases hx with rfl | rfl | rfl | rfl | rfl | rfl | rfl | rfl | rfl | rfl | rfl | rfl
    · refine ⟨tri_v (by decide) (by decide) (SR_N (by decide)) kv ks, ?_⟩
      rw [gB _ _ _ _ rfl, am 0 (.inl (by decide)), Bool.and_false, Bool.and_false, Bool.and_false]
    · refine ⟨tri_v (by decide) (by decide) (SR_N (by omega)) kv ks, ?_⟩
      rw [gB _ _ _ _ rfl, am (cs.length + 1) (.inr (by omega)), Bool.and_false, Bool.and_false, Bool.and_false]
    · refine ⟨tri_v (by decide) (by decide) ((SR_bl (n := 56) true).mono (by decide)) kv ks, ?_⟩
      rw [gB _ _ _ _ rfl, show amg (.bl true) 1 ((cs.map nD).length : Nat) = false from rfl, Bool.and_false, Bool.and_false, Bool.and_false]
    · refine ⟨tri_v (by decide) (by decide) hy kv ks, ?_⟩
      rw [gB _ _ _ _ rfl]; rfl
    · refine ⟨tri_v (by decide) (by decide) hy (SR_kids (L := []) (fun z hz => by cases hz) (by decide)) (fun cs' e => by injection e with e; rw [← e]; exact Nat.zero_le _), ?_⟩
      rw [gB _ _ _ _ rfl]
      have := amgN y 1 0
      rw [decide_eq_false (p := y ≤ 0) (by omega), Bool.and_false] at this
      rw [show amg (nD y) 1 (([] : List D).length : Nat) = false from this, Bool.and_false, Bool.and_false, Bool.and_false]
    · refine ⟨tri_v (by decide) (by decide) hy (SR_kids (fun z hz => ?_) (by rw [List.length_append, hcl]; simp; omega)) (fun cs' e => by injection e with e; rw [← e, List.length_append, hcl]; simp; omega), ?_⟩
      · rcases List.mem_append.mp hz with hz | hz
        · obtain ⟨c, hc, rfl⟩ := List.mem_map.mp hz
          exact SR_N (by have := h4 c hc; omega)
        · rw [List.mem_singleton.mp hz]
          exact SR_N (by have := h4 _ hcm; omega)
      · rw [gB _ _ _ _ rfl]
        have kb : kidB (cs.map nD ++ [nD (cs.getD 0 0)]) a = false := by
          unfold kidB
          have e : cs.map nD ++ [nD (cs.getD 0 0)] = (cs ++ [cs.getD 0 0]).map nD := by rw [List.map_append]; rfl
          rw [e, toInts_N]
          show (_ && ndp ((cs ++ [cs.getD 0 0]).map fun (n : Nat) => (n : Int))) = false
          have : ndp ((cs ++ [cs.getD 0 0]).map fun (n : Nat) => (n : Int)) = false := by
            cases cs with
            | nil => have h2 : y ≤ 0 := h2
                     omega
            | cons c r =>
              show (!decide ((c : Int) ∈ (r ++ [c]).map fun (n : Nat) => (n : Int)) && _) = false
              rw [decide_eq_true (List.mem_map.mpr ⟨c, by simp, rfl⟩)]; rfl
          rw [this, Bool.and_false]
        rw [kb, Bool.false_and, Bool.and_false]
    · refine ⟨tri_v (by decide) (by decide) hy ((SR_lst (n := 56) (b := 2000) (m := 10) (fun z hz => by
        obtain ⟨c, hc, rfl⟩ := List.mem_map.mp hz
        exact SR_N (by have := h4 c hc; omega)) (by omega)).mono (by decide)) (fun cs' e => by cases e), rfl⟩
    · refine ⟨rowv (fun z hz => ?_) (by simp) (fun s y cs e => by cases e), ?_⟩
      · simp only [List.mem_cons, List.not_mem_nil, or_false] at hz
        rcases hz with rfl | rfl
        · exact up57 (SR_w (by decide) (by decide))
        · exact up57 hy
      · show (decide (a < P) && _) = false
        rw [dec]; rfl
    · · refine ⟨tri_v (by decide) (by decide) hy (SR_kids (fun z hz => ?_) (by rw [List.length_set, hcl]; omega)) (fun cs' e => by injection e with e; rw [← e, List.length_set, hcl]; omega), ?_⟩
        · rcases List.mem_or_eq_of_mem_set hz with hz | rfl
          · obtain ⟨c, hc, rfl⟩ := List.mem_map.mp hz
            exact SR_N (by have := h4 c hc; omega)
          · exact o2
        · rw [gB _ _ _ _ rfl]
          have kb : kidB ((cs.map nD).set pl od) a = false := by
            unfold kidB
            have : ((cs.map nD).set pl od).all (fun c => amg c ((0 : Nat) : Int) ((a - 1 : Nat) : Int)) = false := by
              rw [List.all_eq_false]
              refine ⟨od, List.mem_of_getElem? (i := pl) (by rw [List.getElem?_set_self (by omega)]), by rw [o3]; exact Bool.false_ne_true⟩
            rw [this, Bool.false_and]
          rw [kb, Bool.false_and, Bool.and_false]
    · refine ⟨tri_v (by decide) (by decide) hy (kids_v (fun c hc => by have := List.mem_range.mp hc; omega) (by decide)) (fun cs' e => by injection e with e; rw [← e]; decide), ?_⟩
      rw [gB _ _ _ _ rfl, show decide (((List.range 9).map nD).length ≤ 8) = false from by decide, Bool.false_and, Bool.and_false, Bool.and_false]
    · exact ⟨⟨(SR_lst (n := 57) (b := 20100) (m := 4) (fun z hz => by
        simp only [List.mem_cons, List.not_mem_nil, or_false] at hz
        rcases hz with rfl | rfl | rfl
        · exact up57 (SR_w (by decide) (by decide))
        · exact up57 hy
        · exact kv) (by simp)).mono (by decide), fun s y cs e => by cases e⟩, rfl⟩
    · refine ⟨rowv (fun z hz => ?_) (by simp) (fun s y cs e => by cases e), rfl⟩
      simp only [List.mem_cons, List.not_mem_nil, or_false] at hz
      rcases hz with rfl | rfl | rfl | rfl
      · exact up57 (SR_w (by decide) (by decide))
      · exact up57 hy
      · exact kv
      · exact up57 (SR_N (by decide)))
  have two : RowV (.tup [.str wL, nD y]) ∧ rowB (.tup [.str wL, nD y]) a P = false := by
    refine ⟨rowv (fun z hz => ?_) (by simp) (fun s y cs e => by cases e), ?_⟩
    · simp only [List.mem_cons, List.not_mem_nil, or_false] at hz
      rcases hz with rfl | rfl
      · exact up57 (SR_w (by decide) (by decide))
      · exact up57 hy
    · show (decide (a < P) && _) = false
      rw [dec]; rfl
  have t9 : ∀ st, tupRR (nD 9) st = .ok (.tup ((List.range 9).map nD)) st := fun st => by
    show tupRR (.int 9) st = _
    exact (gd_pos (p := (9 : Int) ≤ (lineN : Int) ∧ -(lineN : Int) ≤ 9) ⟨by decide, by decide⟩).trans rfl
  have kc : SR 57 20100 (.tup ((cs.map nD).set pl od)) := SR_kids (fun z hz => by
    rcases List.mem_or_eq_of_mem_set hz with hz | rfl
    · obtain ⟨c, hc, rfl⟩ := List.mem_map.mp hz
      exact SR_N (by have := h4 c hc; omega)
    · exact o2) (by rw [List.length_set, hcl]; omega)
  have ep := e_put (k := k) (by omega) (cs.map nD) pl od st (by omega) (by omega) (plains_cl _ _ (shw_facts 57 _ kc.s).1)
  have cl0 := plain_cl st.length _ r2.pl
  have cl1 := plain_cl st.length _ two.1.pl
  have f0 : fin st.length st r st = .ok r st := fin_same cl0
  have f1 : fin st.length st (.tup [.str wL, nD y]) st = .ok (.tup [.str wL, nD y]) st := fin_same cl1
  have hcl0 : 0 < cs.length := by omega
  have c2 : cut [D.str wL, nD y, .tup (cs.map nD)] none (some 2) = [.str wL, nD y] := rfl
  have cap : addD st (.tup (cs.map nD)) (.tup [nD (cs.getD 0 0)]) = .ok (.tup (cs.map nD ++ [nD (cs.getD 0 0)])) st := aT (by rw [hcl]; simp; omega)
  have rp : ∀ st, addD st (.tup [.str wL, nD y, .tup (cs.map nD)]) (.tup [nD 0]) = .ok (.tup [.str wL, nD y, .tup (cs.map nD), nD 0]) st := fun st => aT (by simp)
  show ∃ r, RowV r ∧ rowB r a P = false ∧ C (k + 1) "_law_row_spoilt" [.tup [.str wL, nD y, .tup (cs.map nD)], nD a, nD n] st = .ok r st
  by_cases hc : n % 12 = 9 ∧ a ≤ 8
  · refine ⟨_, two.1, two.2, ?_⟩
    have h9 := hc.1
    have h8 : ¬ 8 < a := by omega
    clear r2 r3 two o2 o3 kc kv ks gB
    rw [C_run t__law_row_spoilt ⟨rfl, by decide⟩]
    generalize (List.range 9).map nD = R9 at *
    generalize (cs.map nD).set pl od = CSet at *
    generalize cs.map nD ++ [nD (cs.getD 0 0)] = CA at *
    generalize cs.getD 0 0 = cz at *
    generalize cs.map nD = CS_ at *
    generalize cs.length = cl_ at *
    simp (disch := first | assumption | omega | (simp; done) | (simp; omega)) [bin_mulN, bin_modN, bin_divN, bin_shl1, bin_subN, rgR_N, rgL_N, rg2R_N, rr2R_N, gdL, gdLt, fin_sameM, fin_moreM, fin_lenM, finX_sameM, finX_moreM, endT_same, endT_cut, slFrz_cl, onB_dec, ifS, -getElem?_pos, List.getElem?_cons_zero, List.getElem?_cons_succ, f__law_row_spoilt, setAll, o1, hcl, hpd, aL, rp, c0, cap, s__law_put, ep, t9, h9, h8, c2, f1]
  · refine ⟨r, r2, r3, ?_⟩
    clear r2 r3 two o2 o3 kc kv ks gB
    rw [C_run t__law_row_spoilt ⟨rfl, by decide⟩]
    generalize (List.range 9).map nD = R9 at *
    generalize (cs.map nD).set pl od = CSet at *
    generalize cs.map nD ++ [nD (cs.getD 0 0)] = CA at *
    generalize cs.getD 0 0 = cz at *
    generalize cs.map nD = CS_ at *
    generalize cs.length = cl_ at *
    by_cases h9 : n % 12 = 9
    · have h8 : 8 < a := by omega
      rw [h9] at r1
      have r1 : D.tup [.str wL, nD y, .tup R9] = r := Option.some.inj r1
      subst r1
      simp (disch := first | assumption | omega | (simp; done) | (simp; omega)) [bin_mulN, bin_modN, bin_divN, bin_shl1, bin_subN, rgR_N, rgL_N, rg2R_N, rr2R_N, gdL, gdLt, fin_sameM, fin_moreM, fin_lenM, finX_sameM, finX_moreM, endT_same, endT_cut, slFrz_cl, onB_dec, ifS, -getElem?_pos, List.getElem?_cons_zero, List.getElem?_cons_succ, f__law_row_spoilt, setAll, o1, hcl, hpd, aL, rp, c0, cap, s__law_put, ep, t9, h9, h8, c2, f0]
    · simp (disch := first | assumption | omega | (simp; done) | (simp; omega)) [bin_mulN, bin_modN, bin_divN, bin_shl1, bin_subN, rgR_N, rgL_N, rg2R_N, rr2R_N, gdL, gdLt, fin_sameM, fin_moreM, fin_lenM, finX_sameM, finX_moreM, endT_same, endT_cut, slFrz_cl, onB_dec, ifS, -getElem?_pos, List.getElem?_cons_zero, List.getElem?_cons_succ, f__law_row_spoilt, setAll, o1, hcl, hpd, aL, rp, c0, cap, s__law_put, ep, t9, h9, c2, r1, f0]
end K07
end
section
set_option Elab.async false
set_option linter.all false
set_option maxRecDepth 100000
set_option maxHeartbeats 2000000
namespace K07
open PC PySem
theorem TreeV.pl {x : D} (h : TreeV x) : plain x = true := (shw_facts 60 x h.sr.s).1
/-- a tree that is none -/
structure No (x : D) : Prop where
  v : TreeV x
  no : trB x = false
section
variable {P : Nat} {gs : List Gt} {F : List Nat}
theorem Tr.brv (t : Tr P gs F) : SR 59 2700000 (.tup (F.map nD)) := bits_v t.flt' (by have := t.fl; have := t.p2; omega)
theorem Tr.pv (t : Tr P gs F) : SR 59 2700000 (nD P) := (SR_N (by have := t.p2; omega)).mono (by decide)
theorem Tr.rl (t : Tr P gs F) : (rowsD P gs).length ≤ 33 := by
  have := t.p2
  have := t.gl
  rw [rowsD_len]; omega
/-- a row is put that is none -/
theorem no_row (t : Tr P gs F) {i : Nat} (hi : i < (rowsD P gs).length) {r : D} (hr : RowV r) (hb : rowB r i P = false) : No (.tup [nD P, .tup ((rowsD P gs).set i r), .tup (F.map nD)]) := by
  refine ⟨tree_v t.pv (fun x hx => ?_) (by rw [List.length_set]; exact t.rl) t.brv, ?_⟩
  · rcases List.mem_or_eq_of_mem_set hx with hx | rfl
    · exact t.rowsv x hx
    · exact hr
  · rw [trB_form t.p1 t.p2, enum_no _ 0 i r (by rw [List.getElem?_set_self hi]) (by rw [Nat.zero_add]; exact hb), Bool.false_and, Bool.and_false]
/-- other bits are put -/
theorem no_br (t : Tr P gs F) {br : D} (h1 : SR 59 2700000 br) (h2 : brB br P = false) : No (.tup [nD P, .tup (rowsD P gs), br]) :=
  ⟨tree_v t.pv t.rowsv t.rl h1, by rw [trB_form t.p1 t.p2, h2, Bool.and_false, Bool.and_false]⟩
theorem no_p (t : Tr P gs F) {p : D} (h1 : SR 59 2700000 p) (h2 : amg p 1 12 = false) : No (.tup [p, .tup (rowsD P gs), .tup (F.map nD)]) :=
  ⟨tree_v h1 t.rowsv t.rl t.brv, by
    show (amg p 1 12 && _) = false
    rw [h2]; rfl⟩
/-! ### bits, spoilt -/
def BrBad (P : Nat) (F : List Nat) (i : Nat) (v : D) : Prop := SR 58 2000 v ∧ brB (.tup ((F.map nD).set i v)) P = false
theorem br_no (t : Tr P gs F) {i : Nat} (hi : i < P) {v : D} (hv : SR 58 2000 v) (h : amg v ((0 : Nat) : Int) ((2 ^ P - 1 : Nat) : Int) = false) : BrBad P F i v := by
  refine ⟨hv, ?_⟩
  have hl : (F.map nD).length = P := by rw [List.length_map, t.fl]
  have : ((F.map nD).set i v).all (fun c => amg c ((0 : Nat) : Int) ((2 ^ P - 1 : Nat) : Int)) = false := by
    rw [List.all_eq_false]
    exact ⟨v, List.mem_of_getElem? (i := i) (by rw [List.getElem?_set_self (by omega)]), by rw [h]; exact Bool.false_ne_true⟩
  show (_ && (((F.map nD).set i v).all (fun c => amg c ((0 : Nat) : Int) ((2 ^ P - 1 : Nat) : Int)) && _)) = false
  rw [this, Bool.false_and, Bool.and_false]
theorem br_bit (t : Tr P gs F) {i : Nat} (hi : i < P) {v : Nat} (hv : v < 2 ^ P) (h : v.testBit i = false) : BrBad P F i (nD v) := by
  have hT : 2 ^ P ≤ 2 ^ 12 := Nat.pow_le_pow_right (by decide) t.p2
  refine ⟨SR_N (by omega), ?_⟩
  have e : (F.map nD).set i (nD v) = (F.set i v).map nD := by rw [List.map_set]
  have il : i < F.length := by rw [t.fl]; exact hi
  rw [e, brB_N (by rw [List.length_set, t.fl]) (fun j hj => by
    rw [getD_set il]
    split
    · exact hv
    · exact t.flt j hj), List.all_eq_false]
  refine ⟨i, List.mem_range.mpr hi, ?_⟩
  unfold brR
  rw [getD_set il, if_pos rfl, h]
  exact Bool.false_ne_true
theorem br_sr (t : Tr P gs F) {i : Nat} {v : D} (hv : SR 58 2000 v) : SR 59 2700000 (.tup ((F.map nD).set i v)) := (SR_tup (b := 2000) (m := 14) (fun x hx => by
  rcases List.mem_or_eq_of_mem_set hx with hx | rfl
  · obtain ⟨c, hc, rfl⟩ := List.mem_map.mp hx
    exact SR_N (t.flt' c hc)
  · exact hv) (by rw [List.length_set, List.length_map, t.fl]; have := t.p2; omega)).mono (by decide)
theorem br_len {xs : List D} {P : Nat} (h : xs.length ≠ P) : brB (.tup xs) P = false := by
  show (decide (xs.length = P) && _) = false
  rw [decide_eq_false h]; rfl
theorem cutNeg (xs : List D) (h : 1 ≤ xs.length) : cut xs none (some (-1)) = xs.take (xs.length - 1) := by
  unfold cut
  rw [HT.sIx_none, List.drop_zero, Nat.sub_zero]
  congr 1
  show (if (-1 : Int) < 0 then ((-1 : Int) + (xs.length : Int)).toNat else min (-1 : Int).toNat xs.length) = _
  rw [if_pos (by decide)]
  omega
theorem num12 : ∀ i, i < 12 → asc (TL.numL i) ∧ (TL.numL i).length ≤ 20 := by decide +kernel
/-! ### the ways -/
theorem s_gate {k : Nat} (hk : 4 ≤ k) (t : Tr P gs F) (n : Nat) (hw : n % 12 < 4) (hg : 1 ≤ gs.length) : ∃ X, No X ∧ C k "_law_spoilt" [treeT P gs F, nD n] [] = .ok X [] := by
  obtain ⟨k, rfl⟩ : ∃ j, k = j + 1 := ⟨k - 1, by omega⟩
  have p1 := t.p1
  have p2 := t.p2
  have gl := t.gl
  have hrl := rowsD_len P gs
  have hx : n / 300 % gs.length < gs.length := Nat.mod_lt _ (by omega)
  generalize hxd : n / 300 % gs.length = x at *
  have hgx : gs[x]? = some gs[x] := List.getElem?_eq_getElem hx
  obtain ⟨q1, q2, q3, q4, q5⟩ := t.g x _ hgx
  have hrow : (rowsD P gs)[P + x]? = some (gD gs[x]) := by
    unfold rowsD
    rw [List.getElem?_append_right (by rw [List.length_map, List.length_range]; omega), List.length_map, List.length_range, Nat.add_sub_cancel_left, List.getElem?_map, hgx]; rfl
  obtain ⟨r, r1, r2, er⟩ := e_rowspoilt (k := k) (P := P) (by omega) (g := gs[x]) (a := P + x) q1 q2 q3 (fun c hc => by have := q5 c hc; omega) (by omega) (by omega) (by omega) (n / 7000) []
  have hno := no_row t (i := P + x) (by omega) r1 r2
  have hpl := hno.v.pl
  have cp := plain_cl 0 _ hpl
  have cs : closeds 0 ((rowsD P gs).set (P + x) r) = true := by
    have : (true && (closeds 0 ((rowsD P gs).set (P + x) r) && (closed 0 (.tup (F.map nD)) && true))) = true := cp
    simp only [Bool.true_and, Bool.and_true, Bool.and_eq_true] at this
    exact this.1
  have ep := e_put (k := k) (by omega) (rowsD P gs) (P + x) r [] (by omega) (by omega) cs
  refine ⟨_, hno, ?_⟩
  have sb : ∀ st, binop .Sub (nD (P + gs.length)) (nD P) st = .ok (nD gs.length) st := fun st => by
    rw [bin_subN (by omega), Nat.add_sub_cancel_left]
  have hP0 : 0 < P := p1
  have hg0 : 0 < gs.length := hg
  have hf : ∀ m, m = 0 → fin m [] (.tup [nD P, .tup ((rowsD P gs).set (P + x) r), .tup (F.map nD)]) [] = .ok (.tup [nD P, .tup ((rowsD P gs).set (P + x) r), .tup (F.map nD)]) [] := fun m hm => by subst hm; exact fin_same (st := []) cp
  have hgt : P < P + gs.length := by omega
  clear hno hpl cp cs r1 r2
  unfold treeT
  generalize (rowsD P gs).set (P + x) r = RS_ at *
  generalize rowsD P gs = RD at *
  generalize gs[x] = gx at *
  generalize gs.length = gl_ at *
  generalize gD gx = GX at *
  generalize F.map nD = FD at *
  rw [C_run t__law_spoilt ⟨rfl, by decide⟩]
  simp (disch := first | assumption | omega | (simp; done) | (simp; omega)) [bin_mulN, bin_modN, bin_divN, bin_shl1, bin_subN, rgR_N, rgL_N, rg2R_N, rr2R_N, gdL, gdLt, fin_sameM, fin_moreM, fin_lenM, finX_sameM, finX_moreM, endT_same, endT_cut, slFrz_cl, onB_dec, ifS, -getElem?_pos, List.getElem?_cons_zero, List.getElem?_cons_succ, f__law_spoilt, setAll, hw, hrl, hgt, sb, hxd, hrow, s__law_row_spoilt, er, s__law_put, ep]
  exact hf 0 rfl
theorem s_part {k : Nat} (hk : 4 ≤ k) (t : Tr P gs F) (n : Nat) (hw : n % 12 < 7) (hg : ¬ (n % 12 < 4 ∧ 1 ≤ gs.length)) : ∃ X, No X ∧ C k "_law_spoilt" [treeT P gs F, nD n] [] = .ok X [] := by
  obtain ⟨k, rfl⟩ : ∃ j, k = j + 1 := ⟨k - 1, by omega⟩
  have p1 := t.p1
  have p2 := t.p2
  have gl := t.gl
  have hrl := rowsD_len P gs
  have hi : n / 24 % P < P := Nat.mod_lt _ (by omega)
  generalize hid : n / 24 % P = i at *
  have dec : decide (i < P) = true := decide_eq_true hi
  have hs : ∀ st, blt1 .str (nD i) st = .ok (.str (TL.numL i)) st := fun st => by
    have := str_small (i := (i : Int)) (st := st) (by omega) (by omega)
    rw [Int.toNat_natCast] at this
    exact this
  obtain ⟨n1, n2⟩ := num12 i (by omega)
  obtain ⟨r, e1, r1, r2⟩ := pick (α := D) (L := [.tup [.str wP, nD (i + 1)], .tup [.str wP, .bl true], .tup [.str wL, nD 1, .tup [nD 0]], .tup [.str wP, nD i, nD 0], .lst [.str wP, nD i], .tup [.str wP, .str (TL.numL i)], .str wP]) (n := n / 300 % 7) (Nat.mod_lt _ (by decide)) (Q := fun r => RowV r ∧ rowB r i P = false) (by
    intro x hx
    simp only [List.mem_cons, List.not_mem_nil, or_false] at hx
    have two : ∀ z, SR 57 20100 z → RowV (.tup [.str wP, z]) := fun z hz => rowv (fun x hx => by
      simp only [List.mem_cons, List.not_mem_nil, or_false] at hx
      rcases hx with rfl | rfl
      · exact up57 (SR_w (by decide) (by decide))
      · exact hz) (by simp) (fun s y cs e => by cases e)
    rcases hx with rfl | rfl | rfl | rfl | rfl | rfl | rfl
    · refine ⟨part_v (by omega), ?_⟩
      show (decide (i < P) && (wP == wP && (isWh (nD (i + 1)) && pyEq (nD (i + 1)) (nD i)))) = false
      rw [pyEq_N, decide_eq_false (p := i + 1 = i) (by omega), Bool.and_false, Bool.and_false, Bool.and_false]
    · refine ⟨two _ ((SR_bl (n := 56) true).mono (by decide)), ?_⟩
      show (decide (i < P) && (wP == wP && false)) = false
      rw [Bool.and_false, Bool.and_false]
    · refine ⟨tri_v (by decide) (by decide) (SR_N (by decide)) (SR_kids (L := [nD 0]) (fun z hz => by rw [List.mem_singleton.mp hz]; exact SR_N (by decide)) (by decide)) (fun cs e => by injection e with e; rw [← e]; decide), ?_⟩
      show (!decide (i < P) && _) = false
      rw [dec]; rfl
    · exact ⟨tri_v (by decide) (by decide) (SR_N (by omega)) (up57 (SR_N (by decide))) (fun cs e => by cases e), rfl⟩
    · exact ⟨⟨(SR_lst (n := 57) (b := 2000) (m := 2) (fun z hz => by
        simp only [List.mem_cons, List.not_mem_nil, or_false] at hz
        rcases hz with rfl | rfl
        · exact SR_w (by decide) (by decide)
        · exact SR_N (by omega)) (by simp)).mono (by decide), fun s y cs e => by cases e⟩, rfl⟩
    · refine ⟨two _ (up57 (SR_w n1 n2)), ?_⟩
      show (decide (i < P) && (wP == wP && false)) = false
      rw [Bool.and_false, Bool.and_false]
    · exact ⟨⟨(SR_w (by decide) (by decide) (n := 57)).mono (by decide), fun s y cs e => by cases e⟩, rfl⟩)
  have hno := no_row t (i := i) (by omega) r1 r2
  have cp := plain_cl 0 _ hno.v.pl
  have cs : closeds 0 ((rowsD P gs).set i r) = true := by
    have : (true && (closeds 0 ((rowsD P gs).set i r) && (closed 0 (.tup (F.map nD)) && true))) = true := cp
    simp only [Bool.true_and, Bool.and_true, Bool.and_eq_true] at this
    exact this.1
  have ep := e_put (k := k) (by omega) (rowsD P gs) i r [] (by omega) (by omega) cs
  refine ⟨_, hno, ?_⟩
  have hP0 : 0 < P := p1
  have hf : ∀ m, m = 0 → fin m [] (.tup [nD P, .tup ((rowsD P gs).set i r), .tup (F.map nD)]) [] = .ok (.tup [nD P, .tup ((rowsD P gs).set i r), .tup (F.map nD)]) [] := fun m hm => by subst hm; exact fin_same (st := []) cp
  clear hno cp cs r1 r2
  unfold treeT
  generalize (rowsD P gs).set i r = RS_ at *
  generalize rowsD P gs = RD at *
  generalize F.map nD = FD at *
  generalize TL.numL i = NI at *
  rw [C_run t__law_spoilt ⟨rfl, by decide⟩]
  by_cases h4 : n % 12 < 4
  · have hg0 : gs.length = 0 := by omega
    have hgt : ¬ P < P + gs.length := by omega
    simp (disch := first | assumption | omega | (simp; done) | (simp; omega)) [bin_mulN, bin_modN, bin_divN, bin_shl1, bin_subN, rgR_N, rgL_N, rg2R_N, rr2R_N, gdL, gdLt, fin_sameM, fin_moreM, fin_lenM, finX_sameM, finX_moreM, endT_same, endT_cut, slFrz_cl, onB_dec, ifS, -getElem?_pos, List.getElem?_cons_zero, List.getElem?_cons_succ, f__law_spoilt, setAll, hid, h4, hw, hrl, hg0, hgt, aL, hs, e1, s__law_put, ep]
    exact hf 0 rfl
  · simp (disch := first | assumption | omega | (simp; done) | (simp; omega)) [bin_mulN, bin_modN, bin_divN, bin_shl1, bin_subN, rgR_N, rgL_N, rg2R_N, rr2R_N, gdL, gdLt, fin_sameM, fin_moreM, fin_lenM, finX_sameM, finX_moreM, endT_same, endT_cut, slFrz_cl, onB_dec, ifS, -getElem?_pos, List.getElem?_cons_zero, List.getElem?_cons_succ, f__law_spoilt, setAll, hid, h4, hw, aL, hs, e1, s__law_put, ep]
    exact hf 0 rfl
end
end K07
end
section
set_option Elab.async false
set_option linter.all false
set_option maxRecDepth 100000
set_option maxHeartbeats 2000000
namespace K07
open PC PySem
section
variable {P : Nat} {gs : List Gt} {F : List Nat}
theorem ev_not2 {k : Nat} {i : Nat} (hi : i < 13) (x0 x1 x2 x3 x4 x6 x7 x8 x9 : Option D) (st : Store) : ev ge (C k) (.inv (.bin .LShift (cN 1) (.var 5))) [x0, x1, x2, x3, x4, some (nD i), x6, x7, x8, x9] st = .ok (.int (-((2 ^ i : Nat) : Int) - 1)) st := by
  have hsh : ∀ st, binop .LShift (nD 1) (nD i) st = .ok (nD (2 ^ i)) st := fun st => bin_shl1 (by omega)
  refine ev_invN ?_
  generalize 2 ^ i = T at *
  simp (disch := first | assumption | omega | (simp; done) | (simp; omega)) [bin_mulN, bin_modN, bin_divN, bin_shl1, bin_subN, rgR_N, rgL_N, rg2R_N, rr2R_N, gdL, gdLt, fin_sameM, fin_moreM, fin_lenM, finX_sameM, finX_moreM, endT_same, endT_cut, slFrz_cl, onB_dec, ifS, -getElem?_pos, List.getElem?_cons_zero, List.getElem?_cons_succ, hsh]
theorem isn_T (x : D) (st : Store) : cmpB .IsNot x (.bl true) st = .ok (!(match x with | .bl c => c == true | _ => false)) st := Eq.trans rfl rfl
theorem s_bits {k : Nat} (hk : 4 ≤ k) (t : Tr P gs F) (n : Nat) (hw : n % 12 = 7) : ∃ X, No X ∧ C k "_law_spoilt" [treeT P gs F, nD n] [] = .ok X [] := by
  obtain ⟨k, rfl⟩ : ∃ j, k = j + 1 := ⟨k - 1, by omega⟩
  have p1 := t.p1
  have p2 := t.p2
  have hi : n / 24 % P < P := Nat.mod_lt _ (by omega)
  generalize hid : n / 24 % P = i at *
  have hT : 2 ^ P ≤ 2 ^ 12 := Nat.pow_le_pow_right (by decide) p2
  have hT0 : 0 < 2 ^ P := Nat.pow_pos (by decide)
  have hb := t.flt i hi
  have hF : (F.map nD)[i]? = some (nD (F.getD i 0)) := at_F (by rw [t.fl]; exact hi)
  have hl : (F.map nD).length = P := by rw [List.length_map, t.fl]
  have small : ∀ v, 2 ^ P ≤ v → amg (nD v) ((0 : Nat) : Int) ((2 ^ P - 1 : Nat) : Int) = false := fun v hv => by
    rw [amgN, decide_eq_false (p := v ≤ 2 ^ P - 1) (by omega), Bool.and_false]
  obtain ⟨v, e1, e2⟩ := pick (α := D) (L := [nD (no (F.getD i 0) (2 ^ i)), nD (F.getD i 0 ||| 2 ^ P), .int (-1), .bl true, .non, .str [49]]) (n := n / 300 % 6) (Nat.mod_lt _ (by decide)) (Q := fun v => BrBad P F i v ∧ (v = .bl true ∨ ∀ st, cmpB .IsNot v (.bl true) st = .ok true st)) (by
    intro x hx
    simp only [List.mem_cons, List.not_mem_nil, or_false] at hx
    rcases hx with rfl | rfl | rfl | rfl | rfl | rfl
    · refine ⟨br_bit t hi (no_lt' hb) ?_, .inr fun st => rfl⟩
      rw [no_bit, Nat.testBit_two_pow_self]
      cases (F.getD i 0).testBit i <;> rfl
    · refine ⟨br_no t hi (SR_N ?_) (small _ (Nat.right_le_or)), .inr fun st => rfl⟩
      have := Nat.or_lt_two_pow (n := 13) (x := F.getD i 0) (y := 2 ^ P) (by omega) (by omega)
      omega
    · exact ⟨br_no t hi ⟨by decide +kernel, by decide +kernel⟩ rfl, .inr fun st => rfl⟩
    · exact ⟨br_no t hi ((SR_bl (n := 57) true).mono (by decide)) rfl, .inl rfl⟩
    · exact ⟨br_no t hi ((SR_non (n := 57)).mono (by decide)) rfl, .inr fun st => rfl⟩
    · exact ⟨br_no t hi (SR_w (by decide) (by decide)) rfl, .inr fun st => rfl⟩)
  -- what is put
  obtain ⟨u, hu, hcase⟩ : ∃ u, BrBad P F i u ∧ ((u = v ∧ (0 < i ∨ ∀ st, cmpB .IsNot v (.bl true) st = .ok true st)) ∨ (u = nD 0 ∧ i = 0 ∧ v = .bl true)) := by
    obtain ⟨b1, b2⟩ := e2
    by_cases h0 : 0 < i
    · exact ⟨v, b1, .inl ⟨rfl, .inl h0⟩⟩
    · rcases b2 with rfl | b2
      · have hi0 : i = 0 := by omega
        exact ⟨nD 0, br_bit t hi hT0 (Nat.zero_testBit _), .inr ⟨rfl, hi0, rfl⟩⟩
      · exact ⟨v, b1, .inl ⟨rfl, .inr b2⟩⟩
  have hno := no_br t (br_sr t (i := i) hu.1) hu.2
  have cp := plain_cl 0 _ hno.v.pl
  have cs : closeds 0 ((F.map nD).set i u) = true := by
    have : (true && (closed 0 (.tup (rowsD P gs)) && (closeds 0 ((F.map nD).set i u) && true))) = true := cp
    simp only [Bool.true_and, Bool.and_true, Bool.and_eq_true] at this
    exact this.2
  have ep := e_put (k := k) (by omega) (F.map nD) i u [] (by omega) (by omega) cs
  refine ⟨_, hno, ?_⟩
  have hf : ∀ m, m = 0 → fin m [] (.tup [nD P, .tup (rowsD P gs), .tup ((F.map nD).set i u)]) [] = .ok (.tup [nD P, .tup (rowsD P gs), .tup ((F.map nD).set i u)]) [] := fun m hm => by subst hm; exact fin_same (st := []) cp
  have hP0 : 0 < P := p1
  have h2 := fun x0 x1 x2 x3 x4 x6 x7 x8 x9 => ev_not2 (k := k) (i := i) (by omega) x0 x1 x2 x3 x4 x6 x7 x8 x9 []
  have an : ∀ st, binop .BitAnd (nD (F.getD i 0)) (.int (-((2 ^ i : Nat) : Int) - 1)) st = .ok (nD (no (F.getD i 0) (2 ^ i))) st := fun st => bin_andNot (by omega) st
  have hsh : ∀ st, binop .LShift (nD 1) (nD P) st = .ok (nD (2 ^ P)) st := fun st => bin_shl1 (by omega)
  have w1 : ¬ n % 12 < 4 := by omega
  have w2 : ¬ n % 12 < 7 := by omega
  clear hno cp cs hu e2 small hb hT hT0 hF
  have hF : (F.map nD)[i]? = some (nD (F.getD i 0)) := at_F (by rw [t.fl]; exact hi)
  unfold treeT
  generalize ((F.map nD).set i u) = FS at *
  generalize rowsD P gs = RD at *
  generalize F.map nD = FD at *
  generalize no (F.getD i 0) (2 ^ i) = nz at *
  generalize F.getD i 0 = b at *
  generalize (-((2 ^ i : Nat) : Int) - 1) = ni at *
  generalize 2 ^ P = TP at *
  rw [C_run t__law_spoilt ⟨rfl, by decide⟩]
  rcases hcase with ⟨rfl, h0 | hv⟩ | ⟨rfl, rfl, rfl⟩
  · simp (disch := first | assumption | omega | (simp; done) | (simp; omega)) [bin_mulN, bin_modN, bin_divN, bin_shl1, bin_subN, rgR_N, rgL_N, rg2R_N, rr2R_N, gdL, gdLt, fin_sameM, fin_moreM, fin_lenM, finX_sameM, finX_moreM, endT_same, endT_cut, slFrz_cl, onB_dec, ifS, -getElem?_pos, List.getElem?_cons_zero, List.getElem?_cons_succ, f__law_spoilt, setAll, hid, hw, hF, h2, an, hsh, e1, h0, s__law_put, ep]
    exact hf 0 rfl
  · by_cases h0 : 0 < i
    · simp (disch := first | assumption | omega | (simp; done) | (simp; omega)) [bin_mulN, bin_modN, bin_divN, bin_shl1, bin_subN, rgR_N, rgL_N, rg2R_N, rr2R_N, gdL, gdLt, fin_sameM, fin_moreM, fin_lenM, finX_sameM, finX_moreM, endT_same, endT_cut, slFrz_cl, onB_dec, ifS, -getElem?_pos, List.getElem?_cons_zero, List.getElem?_cons_succ, f__law_spoilt, setAll, hid, hw, hF, h2, an, hsh, e1, h0, s__law_put, ep]
      exact hf 0 rfl
    · simp (disch := first | assumption | omega | (simp; done) | (simp; omega)) [bin_mulN, bin_modN, bin_divN, bin_shl1, bin_subN, rgR_N, rgL_N, rg2R_N, rr2R_N, gdL, gdLt, fin_sameM, fin_moreM, fin_lenM, finX_sameM, finX_moreM, endT_same, endT_cut, slFrz_cl, onB_dec, ifS, -getElem?_pos, List.getElem?_cons_zero, List.getElem?_cons_succ, f__law_spoilt, setAll, hid, hw, hF, h2, an, hsh, e1, h0, hv, s__law_put, ep]
      exact hf 0 rfl
  · simp (disch := first | assumption | omega | (simp; done) | (simp; omega)) [bin_mulN, bin_modN, bin_divN, bin_shl1, bin_subN, rgR_N, rgL_N, rg2R_N, rr2R_N, gdL, gdLt, fin_sameM, fin_moreM, fin_lenM, finX_sameM, finX_moreM, endT_same, endT_cut, slFrz_cl, onB_dec, ifS, -getElem?_pos, List.getElem?_cons_zero, List.getElem?_cons_succ, f__law_spoilt, setAll, hid, hw, hF, h2, an, hsh, e1, s__law_put, ep]
    exact hf 0 rfl
theorem s_brs {k : Nat} (hk : 4 ≤ k) (t : Tr P gs F) (n : Nat) (hw : n % 12 = 8) : ∃ X, No X ∧ C k "_law_spoilt" [treeT P gs F, nD n] [] = .ok X [] := by
  obtain ⟨k, rfl⟩ : ∃ j, k = j + 1 := ⟨k - 1, by omega⟩
  have p1 := t.p1
  have p2 := t.p2
  have hi : n / 24 % P < P := Nat.mod_lt _ (by omega)
  generalize hid : n / 24 % P = i at *
  have hl : (F.map nD).length = P := by rw [List.length_map, t.fl]
  have fs : ∀ x ∈ F.map nD, SR 58 2000 x := fun x hx => by
    obtain ⟨c, hc, rfl⟩ := List.mem_map.mp hx
    exact SR_N (t.flt' c hc)
  obtain ⟨v, e1, v1, v2⟩ := pick (α := D) (L := [.tup ((F.map nD).take (P - 1)), .tup (F.map nD ++ [nD 0]), .lst (F.map nD)]) (n := n / 300 % 3) (Nat.mod_lt _ (by decide)) (Q := fun v => SR 59 2700000 v ∧ brB v P = false) (by
    intro x hx
    simp only [List.mem_cons, List.not_mem_nil, or_false] at hx
    rcases hx with rfl | rfl | rfl
    · exact ⟨(SR_tup (b := 2000) (m := 14) (fun x hx => fs x (List.mem_of_mem_take hx)) (by rw [List.length_take]; omega)).mono (by decide), br_len (by rw [List.length_take]; omega)⟩
    · exact ⟨(SR_tup (b := 2000) (m := 14) (fun x hx => by
        rcases List.mem_append.mp hx with hx | hx
        · exact fs x hx
        · rw [List.mem_singleton.mp hx]; exact SR_N (by decide)) (by rw [List.length_append, hl]; simp; omega)).mono (by decide), br_len (by rw [List.length_append, hl]; simp)⟩
    · exact ⟨(SR_lst (b := 2000) (m := 14) fs (by omega)).mono (by decide), rfl⟩)
  have hno := no_br t v1 v2
  have cp := plain_cl 0 _ hno.v.pl
  refine ⟨_, hno, ?_⟩
  have hf : ∀ m, m = 0 → fin m [] (.tup [nD P, .tup (rowsD P gs), v]) [] = .ok (.tup [nD P, .tup (rowsD P gs), v]) [] := fun m hm => by subst hm; exact fin_same (st := []) cp
  have hP0 : 0 < P := p1
  have cn := cutNeg (F.map nD) (by omega)
  rw [hl] at cn
  have ap : ∀ st, addD st (.tup (F.map nD)) (.tup [nD 0]) = .ok (.tup (F.map nD ++ [nD 0])) st := fun st => aT (by rw [hl]; simp; omega)
  clear hno cp v1 v2 fs
  unfold treeT
  generalize (F.map nD).take (P - 1) = F1 at *
  generalize F.map nD ++ [nD 0] = F2 at *
  generalize rowsD P gs = RD at *
  generalize F.map nD = FD at *
  rw [C_run t__law_spoilt ⟨rfl, by decide⟩]
  simp (disch := first | assumption | omega | (simp; done) | (simp; omega)) [bin_mulN, bin_modN, bin_divN, bin_shl1, bin_subN, rgR_N, rgL_N, rg2R_N, rr2R_N, gdL, gdLt, fin_sameM, fin_moreM, fin_lenM, finX_sameM, finX_moreM, endT_same, endT_cut, slFrz_cl, onB_dec, ifS, -getElem?_pos, List.getElem?_cons_zero, List.getElem?_cons_succ, f__law_spoilt, setAll, hid, hw, cn, ap, e1]
  exact hf 0 rfl
theorem s_many {k : Nat} (hk : 4 ≤ k) (t : Tr P gs F) (n : Nat) (hw : n % 12 = 9) : ∃ X, No X ∧ C k "_law_spoilt" [treeT P gs F, nD n] [] = .ok X [] := by
  obtain ⟨k, rfl⟩ : ∃ j, k = j + 1 := ⟨k - 1, by omega⟩
  have p1 := t.p1
  have p2 := t.p2
  have big : ∀ v, v < 1 ∨ 12 < v → amg (nD v) 1 12 = false := fun v hv => by
    have := amgN v 1 12
    rcases hv with hv | hv
    · rw [decide_eq_false (p := 1 ≤ v) (by omega), Bool.false_and] at this
      exact this
    · rw [decide_eq_false (p := v ≤ 12) (by omega), Bool.and_false] at this
      exact this
  obtain ⟨v, e1, v1, v2⟩ := pick (α := D) (L := [nD 0, nD 13, .bl true, .non, .str [51], nD (P + 25)]) (n := n / 300 % 6) (Nat.mod_lt _ (by decide)) (Q := fun v => SR 59 2700000 v ∧ amg v 1 12 = false) (by
    intro x hx
    simp only [List.mem_cons, List.not_mem_nil, or_false] at hx
    rcases hx with rfl | rfl | rfl | rfl | rfl | rfl
    · exact ⟨(SR_N (by decide)).mono (by decide), big _ (.inl (by decide))⟩
    · exact ⟨(SR_N (by decide)).mono (by decide), big _ (.inr (by decide))⟩
    · exact ⟨(SR_bl true).mono (by decide), rfl⟩
    · exact ⟨SR_non.mono (by decide), rfl⟩
    · exact ⟨(SR_w (by decide) (by decide)).mono (by decide), rfl⟩
    · exact ⟨(SR_N (by omega)).mono (by decide), big _ (.inr (by omega))⟩)
  have hno := no_p t v1 v2
  have cp := plain_cl 0 _ hno.v.pl
  refine ⟨_, hno, ?_⟩
  have hf : ∀ m, m = 0 → fin m [] (.tup [v, .tup (rowsD P gs), .tup (F.map nD)]) [] = .ok (.tup [v, .tup (rowsD P gs), .tup (F.map nD)]) [] := fun m hm => by subst hm; exact fin_same (st := []) cp
  have hP0 : 0 < P := p1
  clear hno cp v1 v2 big
  unfold treeT
  generalize rowsD P gs = RD at *
  generalize F.map nD = FD at *
  rw [C_run t__law_spoilt ⟨rfl, by decide⟩]
  simp (disch := first | assumption | omega | (simp; done) | (simp; omega)) [bin_mulN, bin_modN, bin_divN, bin_shl1, bin_subN, rgR_N, rgL_N, rg2R_N, rr2R_N, gdL, gdLt, fin_sameM, fin_moreM, fin_lenM, finX_sameM, finX_moreM, endT_same, endT_cut, slFrz_cl, onB_dec, ifS, -getElem?_pos, List.getElem?_cons_zero, List.getElem?_cons_succ, f__law_spoilt, setAll, hw, e1]
  exact hf 0 rfl
theorem s_form {k : Nat} (hk : 4 ≤ k) (t : Tr P gs F) (n : Nat) (hw : n % 12 = 10) : ∃ X, No X ∧ C k "_law_spoilt" [treeT P gs F, nD n] [] = .ok X [] := by
  obtain ⟨k, rfl⟩ : ∃ j, k = j + 1 := ⟨k - 1, by omega⟩
  have p1 := t.p1
  have p2 := t.p2
  have rv := rows_v t.rowsv t.rl
  have hrl := rowsD_len P gs
  obtain ⟨v, e1, v1⟩ := pick (α := D) (L := [.tup [nD P, .lst (rowsD P gs), .tup (F.map nD)], .tup [nD P, .tup (rowsD P gs)], .tup [nD P, .tup (rowsD P gs), .tup (F.map nD), .tup []], .lst [nD P, .tup (rowsD P gs), .tup (F.map nD)], .tup [nD P, .tup [], .tup (F.map nD)]]) (n := n / 300 % 5) (Nat.mod_lt _ (by decide)) (Q := No) (by
    intro x hx
    simp only [List.mem_cons, List.not_mem_nil, or_false] at hx
    rcases hx with rfl | rfl | rfl | rfl | rfl
    · refine ⟨⟨(SR_tup (b := 2700000) (m := 4) (fun x hx => ?_) (by simp)).mono (by decide), fun p rows br e => by cases e⟩, rfl⟩
      simp only [List.mem_cons, List.not_mem_nil, or_false] at hx
      rcases hx with rfl | rfl | rfl
      · exact t.pv
      · exact (SR_lst (n := 58) (fun r hr => (t.rowsv r hr).sr) t.rl).mono (by decide)
      · exact t.brv
    · refine ⟨⟨(SR_tup (b := 2700000) (m := 4) (fun x hx => ?_) (by simp)).mono (by decide), fun p rows br e => by cases e⟩, rfl⟩
      simp only [List.mem_cons, List.not_mem_nil, or_false] at hx
      rcases hx with rfl | rfl
      · exact t.pv
      · exact rv
    · refine ⟨⟨(SR_tup (b := 2700000) (m := 4) (fun x hx => ?_) (by simp)).mono (by decide), fun p rows br e => by cases e⟩, rfl⟩
      simp only [List.mem_cons, List.not_mem_nil, or_false] at hx
      rcases hx with rfl | rfl | rfl | rfl
      · exact t.pv
      · exact rv
      · exact t.brv
      · exact (SR_tup (n := 58) (b := 0) (m := 0) (xs := []) (fun x hx => by cases hx) (Nat.le_refl _)).mono (by decide)
    · refine ⟨⟨(SR_lst (b := 2700000) (m := 4) (fun x hx => ?_) (by simp)).mono (by decide), fun p rows br e => by cases e⟩, rfl⟩
      simp only [List.mem_cons, List.not_mem_nil, or_false] at hx
      rcases hx with rfl | rfl | rfl
      · exact t.pv
      · exact rv
      · exact t.brv
    · refine ⟨tree_v t.pv (fun r hr => by cases hr) (by decide) t.brv, ?_⟩
      rw [trB_form p1 p2, decide_eq_false (fun z => by have := z.1; simp at this; omega)]; rfl)
  have cp := plain_cl 0 _ v1.v.pl
  refine ⟨v, v1, ?_⟩
  have hf : ∀ m, m = 0 → fin m [] v [] = .ok v [] := fun m hm => by subst hm; exact fin_same (st := []) cp
  have hP0 : 0 < P := p1
  have hrl16 : (rowsD P gs).length ≤ 16777216 := by have := t.rl; omega
  have c2 : cut [nD P, .tup (rowsD P gs), .tup (F.map nD)] none (some 2) = [nD P, .tup (rowsD P gs)] := rfl
  have ap : ∀ st, addD st (.tup [nD P, .tup (rowsD P gs), .tup (F.map nD)]) (.tup [.tup []]) = .ok (.tup [nD P, .tup (rowsD P gs), .tup (F.map nD), .tup []]) st := fun st => aT (by simp)
  clear v1 cp rv
  unfold treeT
  generalize rowsD P gs = RD at *
  generalize F.map nD = FD at *
  rw [C_run t__law_spoilt ⟨rfl, by decide⟩]
  simp (disch := first | assumption | omega | (simp; done) | (simp; omega)) [bin_mulN, bin_modN, bin_divN, bin_shl1, bin_subN, rgR_N, rgL_N, rg2R_N, rr2R_N, gdL, gdLt, fin_sameM, fin_moreM, fin_lenM, finX_sameM, finX_moreM, endT_same, endT_cut, slFrz_cl, onB_dec, ifS, -getElem?_pos, List.getElem?_cons_zero, List.getElem?_cons_succ, f__law_spoilt, setAll, hw, c2, ap, e1]
  exact hf 0 rfl
theorem s_else {k : Nat} (hk : 4 ≤ k) (t : Tr P gs F) (n : Nat) (hw : n % 12 = 11) : (∃ X, No X ∧ C k "_law_spoilt" [treeT P gs F, nD n] [] = .ok X []) ∨ C k "_law_spoilt" [treeT P gs F, nD n] [] = .ok (.ref 0) [.dict false []] := by
  obtain ⟨k, rfl⟩ : ∃ j, k = j + 1 := ⟨k - 1, by omega⟩
  have hP0 : 0 < P := t.p1
  obtain ⟨v, e1, v1⟩ := pick (α := D) (L := [.non, nD 5, .str [116, 114, 101, 101], .ref 0, .tup [], .tup [.tup [], .tup [], .tup []]]) (n := n / 300 % 6) (Nat.mod_lt _ (by decide)) (Q := fun x => No x ∨ x = .ref 0) (by
    intro x hx
    simp only [List.mem_cons, List.not_mem_nil, or_false] at hx
    have e0 : SR 59 2700000 (.tup []) := (SR_tup (n := 58) (b := 0) (m := 0) (xs := []) (fun x hx => by cases hx) (Nat.le_refl _)).mono (by decide)
    rcases hx with rfl | rfl | rfl | rfl | rfl | rfl
    · exact .inl ⟨⟨SR_non.mono (by decide), fun p rows br e => by cases e⟩, rfl⟩
    · exact .inl ⟨⟨(SR_N (by decide)).mono (by decide), fun p rows br e => by cases e⟩, rfl⟩
    · exact .inl ⟨⟨(SR_w (by decide) (by decide)).mono (by decide), fun p rows br e => by cases e⟩, rfl⟩
    · exact .inr rfl
    · exact .inl ⟨⟨(SR_tup (n := 59) (b := 0) (m := 0) (xs := []) (fun x hx => by cases hx) (Nat.le_refl _)).mono (by decide), fun p rows br e => by cases e⟩, rfl⟩
    · refine .inl ⟨tree_v e0 (fun r hr => by cases hr) (by decide) e0, ?_⟩
      rfl)
  have key : C (k + 1) "_law_spoilt" [treeT P gs F, nD n] [] = fin 0 [] v [.dict false []] := by
    clear v1
    unfold treeT
    generalize rowsD P gs = RD at *
    generalize F.map nD = FD at *
    rw [C_run t__law_spoilt ⟨rfl, by decide⟩]
    simp (disch := first | assumption | omega | (simp; done) | (simp; omega)) [bin_mulN, bin_modN, bin_divN, bin_shl1, bin_subN, rgR_N, rgL_N, rg2R_N, rr2R_N, gdL, gdLt, fin_sameM, fin_moreM, fin_lenM, finX_sameM, finX_moreM, endT_same, endT_cut, slFrz_cl, onB_dec, ifS, -getElem?_pos, List.getElem?_cons_zero, List.getElem?_cons_succ, f__law_spoilt, setAll, hw, e1]
  rcases v1 with v1 | rfl
  · refine .inl ⟨v, v1, ?_⟩
    rw [key]
    exact fin_more (st := []) (ex := [.dict false []]) (plain_cl 0 _ v1.v.pl)
  · refine .inr ?_
    rw [key]
    unfold fin
    rw [if_pos (.inl rfl)]
    rfl
theorem e_spoilt {k : Nat} (hk : 4 ≤ k) (t : Tr P gs F) (n : Nat) : (∃ X, No X ∧ C k "_law_spoilt" [treeT P gs F, nD n] [] = .ok X []) ∨ C k "_law_spoilt" [treeT P gs F, nD n] [] = .ok (.ref 0) [.dict false []] := by
  by_cases h1 : n % 12 < 4 ∧ 1 ≤ gs.length
  · exact .inl (s_gate hk t n h1.1 h1.2)
  · by_cases h2 : n % 12 < 7
    · exact .inl (s_part hk t n h2 h1)
    · have : n % 12 = 7 ∨ n % 12 = 8 ∨ n % 12 = 9 ∨ n % 12 = 10 ∨ n % 12 = 11 := by omega
      rcases this with h | h | h | h | h
      · exact .inl (s_bits hk t n h)
      · exact .inl (s_brs hk t n h)
      · exact .inl (s_many hk t n h)
      · exact .inl (s_form hk t n h)
      · exact s_else hk t n h
end
end K07
end
section
set_option Elab.async false
set_option linter.all false
set_option maxRecDepth 100000
set_option maxHeartbeats 2000000
namespace K07
open PC PySem
theorem ne_str (s : List Nat) (st : Store) : cmpB .NotEq (.str s) (.str s) st = .ok false st := by
  rw [neSS, beq_self_eq_true]; rfl
theorem ref_tree {k : Nat} (hk : 1 ≤ k) : C k "is_tree" [.ref 0] [.dict false []] = .ok (.bl false) [.dict false []] := by
  obtain ⟨k, rfl⟩ : ∃ j, k = j + 1 := ⟨k - 1, by omega⟩
  have t1 : tyR ge.bs [.dict false []] (.ref 0) .tuple = .ok (.bl false) [.dict false []] := tyA rfl
  rw [C_run t_is_tree ⟨rfl, by decide⟩]
  simp (disch := first | assumption | omega | (simp; done) | (simp; omega)) [bin_mulN, bin_modN, bin_divN, bin_shl1, bin_subN, rgR_N, rgL_N, rg2R_N, rr2R_N, gdL, gdLt, fin_sameM, fin_moreM, fin_lenM, finX_sameM, finX_moreM, endT_same, endT_cut, slFrz_cl, onB_dec, ifS, -getElem?_pos, List.getElem?_cons_zero, List.getElem?_cons_succ, f_is_tree, t1]
theorem turn {k : Nat} (hk : 10 ≤ k) (ns : List Int) {P : Nat} {gs : List Gt} {F : List Nat} (t : Tr P gs F) (i : Nat) (hi : i < 12) :
    forStepG ge (C k) (.name 3) B_law_1 [2, 3, 4, 5] (nD i) [some (sc ns), some (treeT P gs F), none, none, none, none, none, none] [] = .nx [some (sc ns), some (treeT P gs F), none, none, none, none, none, none] [] := by
  obtain ⟨n, _, ec⟩ := e_cell (k := k) (by omega) ns (700 + i) (by omega) []
  rcases e_spoilt (k := k) (by omega) t n with ⟨X, no, es⟩ | es
  · have ei := e_istree (k := k) (by omega) X no.v.pl no.v.sm []
    have ei2 := e_istree (k := k - 2) (by omega) X no.v.pl no.v.sm []
    rw [no.no] at ei ei2
    have er : C k "_law_refused" [X] [] = .ok (nD 1) [] := e_refused (by omega) ei2
    have rp := repr_sr no.v.sr (by decide) []
    generalize treeT P gs F = T at *
    generalize reprD X = R at *
    clear no ei2
    simp (disch := first | assumption | omega | (simp; done) | (simp; omega)) [bin_mulN, bin_modN, bin_divN, bin_shl1, bin_subN, rgR_N, rgL_N, rg2R_N, rr2R_N, gdL, gdLt, fin_sameM, fin_moreM, fin_lenM, finX_sameM, finX_moreM, endT_same, endT_cut, slFrz_cl, onB_dec, ifS, -getElem?_pos, List.getElem?_cons_zero, List.getElem?_cons_succ, B_law_1, s__law_cell, ec, s__law_spoilt, es, s_is_tree, ei, s__law_refused, er, rp, ne_str]
  · have ei := ref_tree (k := k) (by omega)
    have er : C k "_law_refused" [.ref 0] [.dict false []] = .ok (nD 1) [.dict false []] := e_refused (b := false) (by omega) (ref_tree (k := k - 2) (by omega))
    have rp : blt1 .repr (.ref 0) [.dict false []] = .ok (.str [123, 125]) [.dict false []] := repr_e0 rfl
    have hT := plain_cl 0 _ t.v.pl
    generalize treeT P gs F = T at *
    simp (disch := first | assumption | omega | (simp; done) | (simp; omega)) [bin_mulN, bin_modN, bin_divN, bin_shl1, bin_subN, rgR_N, rgL_N, rg2R_N, rr2R_N, gdL, gdLt, fin_sameM, fin_moreM, fin_lenM, finX_sameM, finX_moreM, endT_same, endT_cut, slFrz_cl, onB_dec, ifS, -getElem?_pos, List.getElem?_cons_zero, List.getElem?_cons_succ, B_law_1, s__law_cell, ec, s__law_spoilt, es, s_is_tree, ei, s__law_refused, er, rp, ne_str]
abbrev chD : D := .tup [nD 3, .tup [.tup [.str wP, nD 0], .tup [.str wP, nD 1], .tup [.str wP, nD 2]], .tup [nD 3, nD 6, nD 4]]
abbrev g1D : D := .tup [.str wL, nD 1, .tup [nD 0]]
abbrev grR : List D := [.tup [.str wP, nD 0]] ++ reps [g1D] 22
abbrev grD : D := .tup [nD 1, .tup grR, .tup [nD 1]]
theorem ch_tree {k : Nat} (hk : 5 ≤ k) : C k "is_tree" [chD] [] = .ok (.bl false) [] := by
  have := e_istree (k := k) hk chD (by decide +kernel) (fun p rows br e => by
    injection e with e
    injection e with _ e
    injection e with e _
    injection e with e
    subst e
    refine ⟨by decide, fun r hr s y cs e => ?_⟩
    simp only [List.mem_cons, List.not_mem_nil, or_false] at hr
    rcases hr with rfl | rfl | rfl <;> cases e) []
  rw [show trB chD = false from by decide +kernel] at this
  exact this
theorem gr_tree {k : Nat} (hk : 5 ≤ k) : C k "is_tree" [grD] [] = .ok (.bl false) [] := by
  have := e_istree (k := k) hk grD (by decide +kernel) (fun p rows br e => by
    injection e with e
    injection e with _ e
    injection e with e _
    injection e with e
    subst e
    refine ⟨by decide +kernel, fun r hr s y cs e => ?_⟩
    rcases List.mem_append.mp hr with hr | hr
    · rw [List.mem_singleton] at hr
      subst hr
      cases e
    · have hr : r = g1D := by
        unfold reps at hr
        obtain ⟨l, hl, hr⟩ := List.mem_flatten.mp hr
        rw [List.eq_of_mem_replicate hl] at hr
        exact List.mem_singleton.mp hr
      subst hr
      injection e with e
      injection e with _ e
      injection e with _ e
      injection e with e _
      injection e with e
      rw [← e]; decide) []
  rw [show trB grD = false from by decide +kernel] at this
  exact this
theorem e_law (ns : List Int) (hn : ns.length ≤ 63) : ∃ st, C 40 "law" [.scr (ns.map .int)] [] = .ok (.bl true) st := by
  obtain ⟨P, gs, F, t, et⟩ := e_ltree (k := 39) (by decide) ns
  have ei := e_istree (k := 39) (by decide) _ t.v.pl t.v.sm []
  have ei2 := e_istree (k := 37) (by decide) _ t.v.pl t.v.sm []
  rw [t.ok] at ei ei2
  have er : C 39 "_law_refused" [treeT P gs F] [] = .ok (nD 0) [] := e_refused (k := 39) (by decide) ei2
  have rp := repr_sr t.v.sr (by decide) []
  obtain ⟨_, _, e1⟩ := forL_rng (step := forStepG ge (C 39) (.name 3) B_law_1 [2, 3, 4, 5]) (fun _ : Unit => [some (sc ns), some (treeT P gs F), none, none, none, none, none, none]) (fun _ => []) 12 (fun _ _ => True) (fun i hi _ _ => ⟨(), trivial, turn (k := 39) (by decide) ns t i hi⟩) () trivial
  have ec := ch_tree (k := 39) (by decide)
  have eg := gr_tree (k := 39) (by decide)
  have m22 : ∀ st, binop .Mult (.tup [.tup [.str wL, nD 1, .tup [nD 0]]]) (nD 22) st = .ok (.tup (reps [g1D] 22)) st := fun st => by
    show mulD st (.tup [g1D]) (.int 22) = _
    exact gd_pos ⟨by decide, by decide, by decide, by decide⟩
  have a22 : ∀ st, addD st (.tup [.tup [.str wP, nD 0]]) (.tup (reps [g1D] 22)) = .ok (.tup grR) st := fun st => gd_pos (by decide +kernel)
  refine ⟨[], ?_⟩
  have e1 : forL (forStepG ge (C 39) (.name 3) B_law_1 [2, 3, 4, 5]) [] ((List.range 12).map nD) [some (sc ns), some (treeT P gs F), none, none, none, none, none, none] [] = .nx [some (sc ns), some (treeT P gs F), none, none, none, none, none, none] [] := e1
  have eg : C 39 "is_tree" [.tup [nD 1, .tup grR, .tup [nD 1]]] [] = .ok (.bl false) [] := eg
  clear ei2 t
  generalize treeT P gs F = T at *
  generalize reprD T = R at *
  generalize grR = G at *
  generalize reps [g1D] 22 = GR at *
  rw [C_run t_law ⟨rfl, by decide⟩]
  simp (disch := first | assumption | omega | (simp; done) | (simp; omega)) [bin_mulN, bin_modN, bin_divN, bin_shl1, bin_subN, rgR_N, rgL_N, rg2R_N, rr2R_N, gdL, gdLt, fin_sameM, fin_moreM, fin_lenM, finX_sameM, finX_moreM, endT_same, endT_cut, slFrz_cl, onB_dec, ifS, -getElem?_pos, List.getElem?_cons_zero, List.getElem?_cons_succ, f_law, s__law_tree, et, rp, s_is_tree, ei, s__law_refused, er, ne_str, e1, m22, a22, ec, eg]
end K07
theorem PySem.Challenge.cw_faultwood_k07_trees_known_holds : PySem.Challenge.rw_faultwood_k07_trees_known.Holds :=
  K07.holds K07.e_law
end
