import PyProof.Rows.All
import Wide.All
import OpenK.AllK
import Wide.FinOn
import HandS.ForMost
import HandS.Walk
import HandS.Wide
import HandS.WideBits
import HandS.Codes
import HandS.IsInst
import HandS.SortInts
import HandS.SortRule
import HandS.Conv
import HandS.NoneIn
import HandS.RevRange
import HandS.Zip
import HandS.More
import HandS.TupAny
import HandS.TupMul
import HandS.Style
import HandS.Deep
import HandS.Defaults
import KE.KStateDown
import Lean
import HandS.Words
import HandS.WordsExc
import HandS.Head0
import HandS.Head1
import HandS.Head2
import HandS.HeadEnd
import HandS.HeadHook1
import HandS.HeadHook2
import PySem.Challenge.RW_faultwood_k01_shares
set_option Elab.async false
set_option linter.all false
section
set_option Elab.async false
set_option linter.all false
/-! The core language: data, a store, an interpreter. -/
namespace PC
open PySem (Operator CmpOp)

inductive D where
  | non | bl (b : Bool) | int (i : Int) | str (s : List Nat) | tup (xs : List D) | lst (xs : List D) | ref (k : Nat) | exc (c : String) (vs : List D) | scr (xs : List D)
  deriving Inhabited

inductive Cell where
  | lst (xs : List D) | dict (kvs : List (D × D)) | ins (c : String) (fs : List (String × D))

abbrev Store := List Cell
abbrev Slots := List (Option D)

inductive Res (α : Type) where
  | ok (a : α) (st : Store) | exc (d : D) (st : Store) | err

def Res.bind {α β : Type} (r : Res α) (f : α → Store → Res β) : Res β :=
  match r with
  | .ok a st => f a st
  | .exc d st => .exc d st
  | .err => .err
@[simp] theorem Res.bind_ok {α β : Type} (a : α) (st : Store) (f : α → Store → Res β) : (Res.ok a st).bind f = f a st := rfl
@[simp] theorem Res.bind_exc {α β : Type} (d : D) (st : Store) (f : α → Store → Res β) : (Res.exc d st : Res α).bind f = .exc d st := rfl
@[simp] theorem Res.bind_err {α β : Type} (f : α → Store → Res β) : (Res.err : Res α).bind f = .err := rfl

inductive RS where
  | nx (σ : Slots) (st : Store) | rt (d : D) (st : Store) | bk (σ : Slots) (st : Store) | ct (σ : Slots) (st : Store) | exc (d : D) (σ : Slots) (st : Store) | err

def Res.toS {α : Type} (r : Res α) (σ : Slots) (f : α → Store → RS) : RS :=
  match r with
  | .ok a st => f a st
  | .exc d st => .exc d σ st
  | .err => .err
@[simp] theorem Res.toS_ok {α : Type} (a : α) (st : Store) (σ : Slots) (f : α → Store → RS) : (Res.ok a st).toS σ f = f a st := rfl
@[simp] theorem Res.toS_exc {α : Type} (d : D) (st : Store) (σ : Slots) (f : α → Store → RS) : (Res.exc d st : Res α).toS σ f = .exc d σ st := rfl
@[simp] theorem Res.toS_err {α : Type} (σ : Slots) (f : α → Store → RS) : (Res.err : Res α).toS σ f = .err := rfl

/-! ### data -/
mutual
def pyEq : D → D → Bool
  | .non, .non => true
  | .bl a, .bl b => a == b
  | .bl a, .int b => (if a then 1 else 0) == b
  | .int a, .bl b => a == (if b then 1 else 0)
  | .int a, .int b => a == b
  | .str a, .str b => a == b
  | .tup a, .tup b => pyEqs a b
  | .lst a, .lst b => pyEqs a b
  | _, _ => false
termination_by structural x => x
def pyEqs : List D → List D → Bool
  | [], [] => true
  | a :: as, b :: bs => pyEq a b && pyEqs as bs
  | _, _ => false
termination_by structural x => x
end
mutual
/-- every cell that is named lies below n; no exception within -/
def closed (n : Nat) : D → Bool
  | .ref k => decide (k < n)
  | .tup xs => closeds n xs
  | .lst xs => closeds n xs
  | .exc _ vs => closeds n vs
  | .scr xs => closeds n xs
  | _ => true
termination_by structural x => x
def closeds (n : Nat) : List D → Bool
  | [] => true
  | a :: as => closed n a && closeds n as
termination_by structural x => x
end
mutual
/-- plain data: no cells, no exceptions -/
def plain : D → Bool
  | .ref _ => false
  | .exc _ _ => false
  | .scr _ => false
  | .tup xs => plains xs
  | .lst xs => plains xs
  | _ => true
termination_by structural x => x
def plains : List D → Bool
  | [] => true
  | a :: as => plain a && plains as
termination_by structural x => x
end
mutual
/-- data as the model's law of equality reads them -/
def toPy : D → PySem.PyData
  | .bl b => .bool b
  | .int i => .int i
  | .str s => .str ⟨s.toArray⟩
  | .tup xs => .tuple (toPys xs)
  | .lst xs => .list (toPys xs)
  | _ => .none
termination_by structural x => x
def toPys : List D → List PySem.PyData
  | [] => []
  | a :: as => toPy a :: toPys as
termination_by structural x => x
end
/-- plain data that can be compared: not too deep, signs that are signs -/
def shp (d : D) : Bool := plain d && PySem.SeqAt.shaped (toPy d)
def Cell.closed (n : Nat) : Cell → Bool
  | .lst xs => closeds n xs
  | .dict kvs => kvs.all fun p => PC.closed n p.1 && PC.closed n p.2
  | .ins _ fs => fs.all fun p => PC.closed n p.2

/-- a cell that is a list, read as one -/
def deref (st : Store) : D → D
  | .ref k => match st[k]? with
    | some (.lst xs) => .lst xs
    | _ => .ref k
  | .scr xs => .lst xs
  | d => d
/-- .. where the script itself will not do -/
def derefB (st : Store) : D → D
  | .scr xs => .scr xs
  | d => deref st d
/-- the items of a list or a tuple -/
def items (st : Store) (d : D) : Option (List D) :=
  match deref st d with
  | .lst xs => some xs
  | .tup xs => some xs
  | _ => none
def lineN : Nat := 16777216
/-- a number whose size is no matter -/
def Sm (i : Int) : Prop := i.natAbs < 2 ^ 8000
instance (i : Int) : Decidable (Sm i) := by unfold Sm; infer_instance

def ok1 (d : D) (st : Store) : Res D := .ok d st
def gd {α : Type} (p : Prop) [Decidable p] (r : Res α) : Res α := if p then r else .err
@[simp] theorem gd_pos {α : Type} {p : Prop} [Decidable p] {r : Res α} (h : p) : gd p r = r := if_pos h

def idiv (i j : Int) : Int := if 0 < j then i / j else i.fdiv j
def imod (i j : Int) : Int := if 0 < j then i % j else i.fmod j
theorem idiv_pos {i j : Int} (h : 0 < j) : idiv i j = i / j := if_pos h
theorem imod_pos {i j : Int} (h : 0 < j) : imod i j = i % j := if_pos h

def addD (st : Store) : D → D → Res D
  | .int i, .int j => .ok (.int (i + j)) st
  | .str a, .str b => gd (a.length + b.length ≤ lineN) (.ok (.str (a ++ b)) st)
  | .tup a, .tup b => gd (a.length + b.length ≤ lineN) (.ok (.tup (a ++ b)) st)
  | .lst a, .lst b => gd (a.length + b.length ≤ lineN) (.ok (.lst (a ++ b)) st)
  | _, _ => .err
def reps {α : Type} (xs : List α) (n : Int) : List α := (List.replicate n.toNat xs).flatten
def mulD (st : Store) : D → D → Res D
  | .int i, .int j => gd (Sm i ∧ Sm j) (.ok (.int (i * j)) st)
  | .str a, .int n => gd (a.length * n.toNat ≤ lineN ∧ 0 ≤ n ∧ n ≤ lineN) (.ok (.str (reps a n)) st)
  | .lst a, .int n => gd (a.length * n.toNat ≤ lineN ∧ 0 ≤ n ∧ n ≤ lineN) (.ok (.lst (reps a n)) st)
  | .tup a, .int n => gd (a.length ≠ 0 ∧ a.length ≤ 1000 ∧ 2 ≤ n ∧ n ≤ 1000) (.ok (.tup (reps a n)) st)
  | _, _ => .err

def binop (op : Operator) (x y : D) (st : Store) : Res D :=
  match op with
  | .Add => addD st (derefB st x) (derefB st y)
  | .Mult => mulD st (derefB st x) y
  | .Sub => match x, y with | .int i, .int j => .ok (.int (i - j)) st | _, _ => .err
  | .FloorDiv => match x, y with | .int i, .int j => gd (j ≠ 0 ∧ Sm j) (.ok (.int (idiv i j)) st) | _, _ => .err
  | .Mod => match x, y with | .int i, .int j => gd (j ≠ 0) (.ok (.int (imod i j)) st) | _, _ => .err
  | .Pow => match x, y with | .int i, .int j => gd (0 ≤ j ∧ j ≤ 1000 ∧ i.natAbs < 2 ^ 64) (.ok (.int (i ^ j.toNat)) st) | _, _ => .err
  | .LShift => match x, y with | .int i, .int j => gd (0 ≤ j ∧ j ≤ 8000 ∧ Sm i) (.ok (.int (i * 2 ^ j.toNat)) st) | _, _ => .err
  | .RShift => match x, y with | .int i, .int j => gd (0 ≤ j) (.ok (.int (i / 2 ^ j.toNat)) st) | _, _ => .err
  | .BitAnd => match x, y with | .int i, .int j => .ok (.int (PySem.Builtin.bitAnd i j)) st | _, _ => .err
  | .BitOr => match x, y with | .int i, .int j => .ok (.int (PySem.Builtin.bitOr i j)) st | _, _ => .err
  | .BitXor => match x, y with | .int i, .int j => .ok (.int (PySem.Builtin.bitXor i j)) st | _, _ => .err
  | _ => .err

/-- one text within another -/
def subS (a b : List Nat) : Bool := !(PySem.Builtin.Str.occurrences ⟨b.toArray⟩ ⟨a.toArray⟩ 0 b.length 1).isEmpty

def inD (st : Store) (x y : D) : Res Bool :=
  match y with
  | .str b => match x with
    | .str a => .ok (subS a b) st
    | _ => .err
  | .ref k => match st[k]? with
    | some (.lst ys) => gd (shp x = true ∧ shp (.lst ys) = true) (.ok (ys.any fun z => pyEq z x) st)
    | _ => .err
  | .lst ys => gd (shp x = true ∧ shp (.lst ys) = true) (.ok (ys.any fun z => pyEq z x) st)
  | .tup ys => gd (shp x = true ∧ shp (.lst ys) = true) (.ok (ys.any fun z => pyEq z x) st)
  | _ => .err

def isD (st : Store) (x y : D) : Res Bool :=
  match y with
  | .non => .ok (match x with | .non => true | _ => false) st
  | .bl b => .ok (match x with | .bl c => c == b | _ => false) st
  | _ => .err

def eqD (st : Store) (x y : D) : Res Bool :=
  gd (shp (deref st x) = true ∧ shp (deref st y) = true) (.ok (pyEq (deref st x) (deref st y)) st)

def cmpI (st : Store) (f : Int → Int → Bool) : D → D → Res Bool
  | .int i, .int j => .ok (f i j) st
  | _, _ => .err

def cmpB (op : CmpOp) (x y : D) (st : Store) : Res Bool :=
  match op with
  | .Eq => eqD st x y
  | .NotEq => (eqD st x y).bind fun b st => .ok (!b) st
  | .Lt => cmpI st (fun i j => decide (i < j)) x y
  | .LtE => cmpI st (fun i j => decide (i ≤ j)) x y
  | .Gt => cmpI st (fun i j => decide (j < i)) x y
  | .GtE => cmpI st (fun i j => decide (j ≤ i)) x y
  | .Is => isD st x y
  | .IsNot => (isD st x y).bind fun b st => .ok (!b) st
  | .In => inD st x y
  | .NotIn => (inD st x y).bind fun b st => .ok (!b) st

def idxD (st : Store) (x i : D) : Res D :=
  match x with
  | .str s => match i with
    | .int i => gd (s.length ≤ lineN ∧ 0 ≤ i) (match s[i.toNat]? with | some c => .ok (.str [c]) st | none => .err)
    | _ => .err
  | .ref k => match st[k]? with
    | some (.lst xs) => match i with
      | .int i => match L2.atI xs i with | some d => .ok d st | none => .err
      | _ => .err
    | _ => .err
  | .lst xs => match i with
    | .int i => match L2.atI xs i with | some d => .ok d st | none => .err
    | _ => .err
  | .scr xs => match i with
    | .int i => match L2.atI xs i with | some d => .ok d st | none => .err
    | _ => .err
  | .tup xs => match i with
    | .int i => match L2.atI xs i with | some d => .ok d st | none => .err
    | _ => .err
  | _ => .err

def cut {α : Type} (xs : List α) (lo hi : Option Int) : List α :=
  (xs.drop (HT.sIx xs.length 0 lo)).take (HT.sIx xs.length xs.length hi - HT.sIx xs.length 0 lo)
def sliceD (st : Store) (x : D) (lo hi : Option Int) : Res D :=
  match deref st x with
  | .str s => gd (s.length ≤ lineN) (.ok (.str (cut s lo hi)) st)
  | .lst xs => .ok (.lst (cut xs lo hi)) st
  | .tup xs => .ok (.tup (cut xs lo hi)) st
  | _ => .err

/-! ### built-ins -/
inductive Ty where
  | int | bool | str | tuple | list | dict | own (c : String)
/-- the bases of an own class, itself first -/
abbrev Bases := String → List String
/-- the module: the bases of its classes, its constants -/
structure GE where
  bs : Bases
  gl : String → Option D
  fs : String → Bool
def isTy (bs : Bases) (st : Store) (d : D) (t : Ty) : Bool :=
  match d, t with
  | .int _, .int => true
  | .bl _, .int => true
  | .bl _, .bool => true
  | .str _, .str => true
  | .tup _, .tuple => true
  | .lst _, .list => true
  | .scr _, .list => true
  | .ref k, t => match st[k]?, t with
    | some (.lst _), .list => true
    | some (.dict _), .dict => true
    | some (.ins c _), .own c' => (bs c).contains c'
    | _, _ => false
  | .exc c _, .own c' => (bs c).contains c'
  | _, _ => false

def absI (i : Int) : Int := if i < 0 then -i else i
def isDig (c : Nat) : Bool := decide (48 ≤ c) && decide (c ≤ 57)
def digV (s : List Nat) : Int := ((PySem.NumText.digitsVal s : Nat) : Int)
/-- the text of a number -/
def strI (i : Int) : List Nat := (PySem.Str.ofString (toString i)).cps.toList
def toInts : List D → Option (List Int)
  | [] => some []
  | .int i :: r => (toInts r).map (i :: ·)
  | _ => none
def toBools : List D → Option (List Bool)
  | [] => some []
  | .bl i :: r => (toBools r).map (i :: ·)
  | _ => none
def toPairs : List D → Option (List (Int × Int))
  | [] => some []
  | .tup [.int i, .int j] :: r => (toPairs r).map ((i, j) :: ·)
  | _ => none
def insI (x : Int) : List Int → List Int
  | [] => [x]
  | y :: r => if x ≤ y then x :: y :: r else y :: insI x r
def sortI (xs : List Int) : List Int := xs.foldr insI []
def ltP (p q : Int × Int) : Bool := decide (p.1 < q.1) || (p.1 == q.1 && decide (p.2 < q.2))
def insP (x : Int × Int) : List (Int × Int) → List (Int × Int)
  | [] => [x]
  | y :: r => if ltP y x then y :: insP x r else x :: y :: r
def sortP (xs : List (Int × Int)) : List (Int × Int) := xs.foldr insP []
def rng (a b : Int) : List D := (List.range (b - a).toNat).map fun (i : Nat) => D.int (a + (i : Int))
def small62 (i : Int) : Prop := -(2 ^ 62) ≤ i ∧ i < 2 ^ 62
instance (i : Int) : Decidable (small62 i) := by unfold small62; infer_instance

inductive Blt where
  | len | abs | min | max | int | str | tuple | list | all | sum | sorted | repr | bool
def lenD (st : Store) (d : D) : Res D :=
  match d with
  | .str s => gd (s.length ≤ lineN) (.ok (.int s.length) st)
  | .lst xs => .ok (.int xs.length) st
  | .scr xs => .ok (.int xs.length) st
  | .tup xs => .ok (.int xs.length) st
  | .ref k => match st[k]? with
    | some (.lst xs) => .ok (.int xs.length) st
    | _ => .err
  | _ => .err
def sortD (st : Store) (xs : List D) : Res D :=
  match toInts xs with
  | some is => .ok (.lst ((sortI is).map .int)) st
  | none => match toPairs xs with
    | some ps => .ok (.lst ((sortP ps).map fun p => .tup [.int p.1, .int p.2])) st
    | none => .err
def blt1 (b : Blt) (d : D) (st : Store) : Res D :=
  match b with
  | .len => lenD st d
  | .abs => match d with | .int i => .ok (.int (absI i)) st | _ => .err
  | .int => match d with
    | .int i => .ok (.int i) st
    | .bl b => .ok (.int (if b then 1 else 0)) st
    | .str s => gd (s.length ≠ 0 ∧ s.length ≤ 640 ∧ s.all isDig = true) (.ok (.int (digV s)) st)
    | _ => .err
  | .str => match d with | .int i => gd (i.natAbs < 2 ^ 1900) (.ok (.str (strI i)) st) | _ => .err
  | .tuple => match items st d with | some xs => .ok (.tup xs) st | none => .err
  | .list => match items st d with | some xs => .ok (.lst xs) st | none => .err
  | .all => match deref st d with
    | .lst xs => match toBools xs with | some bs => .ok (.bl (bs.all id)) st | none => .err
    | _ => .err
  | .sum => match deref st d with
    | .lst xs => match toInts xs with | some is => .ok (.int is.sum) st | none => .err
    | _ => .err
  | .sorted => match derefB st d with
    | .lst xs => sortD st xs
    | _ => .err
  | .bool => match d with | .bl b => .ok (.bl b) st | .int i => .ok (.bl (i != 0)) st | _ => .err
  | _ => .err
def blt2 (b : Blt) (d e : D) (st : Store) : Res D :=
  match d, e with
  | .int i, .int j => match b with
    | .min => .ok (.int (if j < i then j else i)) st
    | .max => .ok (.int (if j > i then j else i)) st
    | _ => .err
  | _, _ => .err
def blt (b : Blt) (args : List D) (st : Store) : Res D :=
  match args with
  | [d] => blt1 b d st
  | [d, e] => blt2 b d e st
  | _ => .err

/-! ### methods of built-in kinds -/
inductive Mth where
  | append | pop | insert | extend | countL | countS | indexL | indexS | join | split | partition | get | upper
def toStrs : List D → Option (List (List Nat))
  | [] => some []
  | .str i :: r => (toStrs r).map (i :: ·)
  | _ => none
def Mth.isL : Mth → Bool
  | .append | .pop | .insert | .extend | .countL | .indexL => true
  | _ => false
/-- a receiver of the method's kind -/
def mOk (m : Mth) (x : D) (st : Store) : Bool :=
  match m.isL with
  | true => match deref st x with | .lst _ => true | _ => false
  | false => match x with | .str _ => true | _ => false
def mth0 (m : Mth) (o : D) (st : Store) : Res D :=
  match m with
  | .pop => match o with
    | .ref k => match st[k]? with
      | some (.lst xs) => match xs.getLast? with
        | some d => .ok d (st.set k (.lst xs.dropLast))
        | none => .err
      | _ => .err
    | _ => .err
  | _ => .err
def mth1 (m : Mth) (o d : D) (st : Store) : Res D :=
  match m with
  | .append => match o with
    | .ref k => match st[k]? with
      | some (.lst xs) => gd (xs.length < lineN) (.ok .non (st.set k (.lst (xs ++ [d]))))
      | _ => .err
    | _ => .err
  | .pop => match o, d with
    | .ref k, .int i => match st[k]? with
      | some (.lst xs) => gd (0 ≤ i) (match xs[i.toNat]? with
        | some d => .ok d (st.set k (.lst (xs.eraseIdx i.toNat)))
        | none => .err)
      | _ => .err
    | _, _ => .err
  | .partition => match o, d with
    | .str s, .str sep => gd (s.length ≤ lineN ∧ sep.length ≠ 0) (match TL.par sep [] s with
      | some p => .ok (.tup [.str p.1, .str sep, .str p.2]) st
      | none => .ok (.tup [.str s, .str [], .str []]) st)
    | _, _ => .err
  | .split => match o, d with
    | .str s, .str sep => gd (s.length + 2 ≤ lineN ∧ sep.length ≠ 0 ∧ sep.all (· < 256) = true) (.ok (.lst ((TL.spl sep 0 [] s).map .str)) st)
    | _, _ => .err
  | .join => match o with
    | .str sep => match items st d with
      | some xs => match toStrs xs with
        | some ss => gd ((ss.map (·.length)).sum + ss.length * sep.length ≤ lineN) (.ok (.str (TL.joinL sep ss)) st)
        | none => .err
      | none => .err
    | _ => .err
  | _ => .err
def mth2 (m : Mth) (o d e : D) (st : Store) : Res D :=
  match m with
  | .insert => match o, d with
    | .ref k, .int i => match st[k]? with
      | some (.lst xs) => gd (xs.length < lineN ∧ 0 ≤ i ∧ i < 2 ^ 63) (.ok .non (st.set k (.lst (xs.take i.toNat ++ [e] ++ xs.drop i.toNat))))
      | _ => .err
    | _, _ => .err
  | _ => .err
def mth (m : Mth) (o : D) (args : List D) (st : Store) : Res D :=
  match args with
  | [] => mth0 m o st
  | [d] => mth1 m o d st
  | [d, e] => mth2 m o d e st
  | _ => .err

/-! ### the language -/
mutual
inductive CE where
  | var (i : Nat) | non | bl (b : Bool) | int (i : Int) | str (s : List Nat)
  | glob (x : String)
  | bin (op : Operator) (a b : CE) | neg (a : CE) | not (a : CE) | and (a b : CE) | or (a b : CE)
  | ite (c a b : CE) | cmp (op : CmpOp) (a b : CE) | chain (op op' : CmpOp) (a b c : CE)
  | tup (es : CEs) | new (l : CL) | cell (l : CL) | dict0
  | idx (a i : CE) | slice (a : CE) (lo hi : CO)
  | call (f : String) (es : CEs) | blt (b : Blt) (es : CEs) | mth (m : Mth) (o : CE) (es : CEs)
  | isI (a : CE) (t : Ty)
inductive CL where
  | disp (es : CEs) | comp (t : List Nat) (one : Bool) (it : CI) (c : CO) (e : CE) | listOf (e : CE) | rep (es : CEs) (n : CE) | range1 (a : CE) | range2 (a b : CE)
inductive CEs where
  | nil | cons (e : CE) (es : CEs)
inductive CO where
  | none | some (e : CE)
inductive CI where
  | of (e : CE) | range1 (a : CE) | range2 (a b : CE) | enum (e : CE) | zip (a b : CE) | rrange2 (a b : CE)
end

inductive CT where
  | name (i : Nat) | names (is : List Nat) | sub (o i : CE)
mutual
inductive CS where
  | asg (t : CT) (e : CE) | expr (e : CE) | ret (e : CE) | retN | pass | brk | cont
  | ifs (c : CE) (a b : CSs) | for_ (t : CT) (it : CI) (b : CSs) | while_ (c : CE) (b : CSs)
inductive CSs where
  | nil | cons (s : CS) (r : CSs)
end

/-! ### the interpreter -/
def lookS (σ : Slots) (i : Nat) (st : Store) : Res D :=
  match σ[i]? with
  | some (some d) => .ok d st
  | _ => .err
/-- the cells that a walk leans on, as they stood -/
abbrev Watch := List (Nat × List D)
def okW (w : Watch) (st : Store) : Prop := ∀ p ∈ w, st[p.1]? = some (.lst p.2)
open Classical in
noncomputable def gw {α : Type} (w : Watch) (st : Store) (r e : α) : α := if okW w st then r else e
theorem gw_nil {α : Type} (st : Store) (r e : α) : gw [] st r e = r := if_pos (fun p hp => by cases hp)
noncomputable def lcL (step : D → Store → Res (Option D)) (w : Watch) : List D → Store → Res (List D)
  | [], st => gw w st (.ok [] st) .err
  | x :: xs, st => gw w st ((step x st).bind fun o st => (lcL step w xs st).bind fun ys st => .ok (o.toList ++ ys) st) .err
noncomputable def forL (step : D → Slots → Store → RS) (w : Watch) : List D → Slots → Store → RS
  | [], σ, st => gw w st (.nx σ st) .err
  | x :: xs, σ, st => gw w st (match step x σ st with
    | .nx σ st => forL step w xs σ st
    | .ct σ st => forL step w xs σ st
    | .bk σ st => .nx σ st
    | r => r) .err
def whN (c : Slots → Store → Res D) (b : Slots → Store → RS) : Nat → Slots → Store → RS
  | 0, _, _ => .err
  | n + 1, σ, st => (c σ st).toS σ fun d st => match d with
    | .bl true => match b σ st with
      | .nx σ st => whN c b n σ st
      | .ct σ st => whN c b n σ st
      | .bk σ st => .nx σ st
      | r => r
    | .bl false => .nx σ st
    | _ => .err
open Classical in
noncomputable def wh (c : Slots → Store → Res D) (b : Slots → Store → RS) (σ : Slots) (st : Store) : RS :=
  if h : ∃ n, whN c b n σ st ≠ .err then whN c b h.choose σ st else .err
def watch (d : D) (xs : List D) : Watch :=
  match d with
  | .ref k => [(k, xs)]
  | _ => []
/-- what is walked: the items, and the cells that are leant on -/
def walkD (st : Store) (d : D) : Res (List D × Watch) :=
  match d with
  | .str s => .ok (s.map fun c => .str [c], []) st
  | d => match items st d with
    | some xs => .ok (xs, watch d xs) st
    | none => .err
def enumD : Nat → List D → List D
  | _, [] => []
  | n, x :: xs => .tup [.int n, x] :: enumD (n + 1) xs
def zipD : List D → List D → List D
  | x :: xs, y :: ys => .tup [x, y] :: zipD xs ys
  | _, _ => []
def setAll (σ : Slots) : List Nat → List D → Slots
  | i :: is, d :: ds => setAll (σ.set i (some d)) is ds
  | _, _ => σ
/-- the names of a loop or a comprehension -/
def bindT (t : List Nat) (one : Bool) (d : D) (σ : Slots) (st : Store) : Option Slots :=
  match one with
  | true => match t with
    | [i] => some (σ.set i (some d))
    | _ => none
  | false => match deref st d with
    | .tup ds => if ds.length = t.length then some (setAll σ t ds) else none
    | _ => none
def wipe (σ : Slots) : List Nat → Slots
  | [] => σ
  | v :: vs => (wipe σ vs).set v none
abbrev CF := String → List D → Store → Res D

mutual
noncomputable def ev (ge : GE) (cf : CF) : CE → Slots → Store → Res D
  | .var i, σ, st => lookS σ i st
  | .non, _, st => .ok .non st
  | .bl b, _, st => .ok (.bl b) st
  | .int i, _, st => .ok (.int i) st
  | .str s, _, st => .ok (.str s) st
  | .glob x, _, st => match ge.gl x with | some d => .ok d st | none => .err
  | .bin op a b, σ, st => (ev ge cf a σ st).bind fun x st => (ev ge cf b σ st).bind fun y st => binop op x y st
  | .neg a, σ, st => (ev ge cf a σ st).bind fun x st => match x with | .int i => .ok (.int (-i)) st | _ => .err
  | .not a, σ, st => (ev ge cf a σ st).bind fun x st => match x with | .bl b => .ok (.bl (!b)) st | _ => .err
  | .and a b, σ, st => (ev ge cf a σ st).bind fun x st => match x with | .bl true => ev ge cf b σ st | .bl false => .ok (.bl false) st | _ => .err
  | .or a b, σ, st => (ev ge cf a σ st).bind fun x st => match x with | .bl true => .ok (.bl true) st | .bl false => ev ge cf b σ st | _ => .err
  | .ite c a b, σ, st => (ev ge cf c σ st).bind fun x st => match x with | .bl true => ev ge cf a σ st | .bl false => ev ge cf b σ st | _ => .err
  | .cmp op a b, σ, st => (ev ge cf a σ st).bind fun x st => (ev ge cf b σ st).bind fun y st => (cmpB op x y st).bind fun b st => .ok (.bl b) st
  | .chain op op' a b c, σ, st => (ev ge cf a σ st).bind fun x st => (ev ge cf b σ st).bind fun y st => (cmpB op x y st).bind fun k st =>
      match k with
      | true => (ev ge cf c σ st).bind fun z st => (cmpB op' y z st).bind fun b st => .ok (.bl b) st
      | false => .ok (.bl false) st
  | .tup es, σ, st => (evs ge cf es σ st).bind fun xs st => gd (xs.length ≤ lineN) (.ok (.tup xs) st)
  | .new l, σ, st => (evl ge cf l σ st).bind fun xs st => .ok (.lst xs) st
  | .cell l, σ, st => (evl ge cf l σ st).bind fun xs st => .ok (.ref st.length) (st ++ [.lst xs])
  | .dict0, _, st => .ok (.ref st.length) (st ++ [.dict []])
  | .idx a i, σ, st => (ev ge cf a σ st).bind fun x st => (ev ge cf i σ st).bind fun y st => idxD st x y
  | .slice a lo hi, σ, st => (ev ge cf a σ st).bind fun x st => (evo ge cf lo σ st).bind fun l st => (evo ge cf hi σ st).bind fun h st => sliceD st x l h
  | .call f es, σ, st => gd (ge.fs f = true) ((evs ge cf es σ st).bind fun xs st => cf f xs st)
  | .blt b es, σ, st => (evs ge cf es σ st).bind fun xs st => blt b xs st
  | .mth m o es, σ, st => (ev ge cf o σ st).bind fun x st => gd (mOk m x st = true) ((evs ge cf es σ st).bind fun xs st => mth m x xs st)
  | .isI a t, σ, st => (ev ge cf a σ st).bind fun x st => .ok (.bl (isTy ge.bs st x t)) st
noncomputable def evl (ge : GE) (cf : CF) : CL → Slots → Store → Res (List D)
  | .disp es, σ, st => (evs ge cf es σ st).bind fun xs st => gd (xs.length ≤ lineN) (.ok xs st)
  | .comp t one it c e, σ, st => (evi ge cf it σ st).bind fun w st =>
      gd (w.1.length ≤ lineN) (lcL (fun x st => match bindT t one x (wipe σ t) st with
        | some σ' => (evc ge cf c σ' st).bind fun b st => match b with
          | true => (ev ge cf e σ' st).bind fun y st => .ok (some y) st
          | false => .ok none st
        | none => .err) w.2 w.1 st)
  | .listOf e, σ, st => (ev ge cf e σ st).bind fun x st => match items st x with | some xs => .ok xs st | none => .err
  | .rep es n, σ, st => (evs ge cf es σ st).bind fun xs st => gd (xs.length ≤ lineN) ((ev ge cf n σ st).bind fun y st => match y with
      | .int k => gd (xs.length * k.toNat ≤ lineN ∧ 0 ≤ k ∧ k ≤ lineN) (.ok (reps xs k) st)
      | _ => .err)
  | .range1 a, σ, st => (ev ge cf a σ st).bind fun x st => match x with | .int i => gd (i ≤ lineN ∧ -(lineN : Int) ≤ i) (.ok (rng 0 i) st) | _ => .err
  | .range2 a b, σ, st => (ev ge cf a σ st).bind fun x st => (ev ge cf b σ st).bind fun y st => match x, y with
      | .int i, .int j => gd (i ≤ lineN ∧ -(lineN : Int) ≤ i ∧ j ≤ lineN ∧ -(lineN : Int) ≤ j ∧ j - i ≤ lineN) (.ok (rng i j) st)
      | _, _ => .err
noncomputable def evs (ge : GE) (cf : CF) : CEs → Slots → Store → Res (List D)
  | .nil, _, st => .ok [] st
  | .cons e es, σ, st => (ev ge cf e σ st).bind fun x st => (evs ge cf es σ st).bind fun xs st => .ok (x :: xs) st
noncomputable def evo (ge : GE) (cf : CF) : CO → Slots → Store → Res (Option Int)
  | .none, _, st => .ok none st
  | .some e, σ, st => (ev ge cf e σ st).bind fun x st => match x with | .int i => .ok (some i) st | _ => .err
noncomputable def evc (ge : GE) (cf : CF) : CO → Slots → Store → Res Bool
  | .none, _, st => .ok true st
  | .some e, σ, st => (ev ge cf e σ st).bind fun x st => match x with | .bl b => .ok b st | _ => .err
noncomputable def evi (ge : GE) (cf : CF) : CI → Slots → Store → Res (List D × Watch)
  | .of e, σ, st => (ev ge cf e σ st).bind fun x st => walkD st x
  | .range1 a, σ, st => (ev ge cf a σ st).bind fun x st => match x with | .int i => gd (small62 i) (.ok (rng 0 i, []) st) | _ => .err
  | .range2 a b, σ, st => (ev ge cf a σ st).bind fun x st => (ev ge cf b σ st).bind fun y st => match x, y with
      | .int i, .int j => gd (small62 i ∧ small62 j) (.ok (rng i j, []) st)
      | _, _ => .err
  | .enum e, σ, st => (ev ge cf e σ st).bind fun x st => match deref st x with
      | .lst xs => .ok (enumD 0 xs, watch x xs) st
      | _ => .err
  | .zip a b, σ, st => (ev ge cf a σ st).bind fun x st => (ev ge cf b σ st).bind fun y st => match deref st x, deref st y with
      | .lst xs, .lst ys => .ok (zipD xs ys, watch x xs ++ watch y ys) st
      | _, _ => .err
  | .rrange2 a b, σ, st => (ev ge cf a σ st).bind fun x st => (ev ge cf b σ st).bind fun y st => match x, y with
      | .int i, .int j => gd (small62 i ∧ small62 j) (.ok ((rng i j).reverse, []) st)
      | _, _ => .err
end

def setIx (o i v : D) (st : Store) : Option Store :=
  match o, i with
  | .ref k, .int j => match st[k]? with
    | some (.lst xs) => if 0 ≤ j ∧ j.toNat < xs.length then some (st.set k (.lst (xs.set j.toNat v))) else none
    | _ => none
  | _, _ => none
noncomputable def asgT (ge : GE) (cf : CF) (t : CT) (d : D) (σ : Slots) (st : Store) : RS :=
  match t with
  | .name i => .nx (σ.set i (some d)) st
  | .names is => match items st d with
    | some ds => if ds.length = is.length then .nx (setAll σ is ds) st else .err
    | none => .err
  | .sub o i => (ev ge cf o σ st).toS σ fun ov st => (ev ge cf i σ st).toS σ fun iv st => match setIx ov iv d st with
    | some st => .nx σ st
    | none => .err

mutual
noncomputable def ex (ge : GE) (cf : CF) : CS → Slots → Store → RS
  | .asg t e, σ, st => (ev ge cf e σ st).toS σ fun d st => asgT ge cf t d σ st
  | .expr e, σ, st => (ev ge cf e σ st).toS σ fun _ st => .nx σ st
  | .ret e, σ, st => (ev ge cf e σ st).toS σ fun d st => .rt d st
  | .retN, _, st => .rt .non st
  | .pass, σ, st => .nx σ st
  | .brk, σ, st => .bk σ st
  | .cont, σ, st => .ct σ st
  | .ifs c a b, σ, st => (ev ge cf c σ st).toS σ fun x st => match x with
      | .bl true => exs ge cf a σ st
      | .bl false => exs ge cf b σ st
      | _ => .err
  | .for_ t it b, σ, st => (evi ge cf it σ st).toS σ fun w st =>
      forL (fun x σ st => match asgT ge cf t x σ st with
        | .nx σ st => exs ge cf b σ st
        | _ => .err) w.2 w.1 σ st
  | .while_ c b, σ, st => wh (fun σ st => ev ge cf c σ st) (fun σ st => exs ge cf b σ st) σ st
noncomputable def exs (ge : GE) (cf : CF) : CSs → Slots → Store → RS
  | .nil, σ, st => .nx σ st
  | .cons s r, σ, st => match ex ge cf s σ st with
      | .nx σ st => exs ge cf r σ st
      | r => r
end

structure Fn where
  np : Nat
  ns : Nat
  keep : Bool
  body : CSs
open Classical in
/-- at a def's end: what it made goes, where nothing else leans on it; a list of its own is handed on as data -/
noncomputable def fin (n : Nat) (st : Store) (d : D) (st' : Store) : Res D :=
  if (st'.take n = st ∨ (st'.take n).all (Cell.closed n) = true) then
    match d with
    | .ref k => if k < n then .ok d (st'.take n) else match st'[k]? with
      | some (.lst xs) => if closeds n xs = true then .ok (.lst xs) (st'.take n) else .ok d st'
      | _ => .ok d st'
    | d => if closed n d = true then .ok d (st'.take n) else .ok d st'
  else .ok d st'
noncomputable def run (ge : GE) (cf : CF) (f : Fn) (args : List D) (st : Store) : Res D :=
  gd (args.length = f.np ∧ f.np ≤ f.ns) (match exs ge cf f.body (args.map some ++ List.replicate (f.ns - args.length) none) st with
    | .rt d st' => if f.keep = true then .ok d st' else fin st.length st d st'
    | .nx _ st' => if f.keep = true then .ok .non st' else fin st.length st .non st'
    | .exc d _ st' => .exc d st'
    | _ => .err)
abbrev Tab := String → Option Fn
noncomputable def call (ge : GE) (T : Tab) : Nat → CF
  | 0 => fun _ _ _ => .err
  | k + 1 => fun f args st => match T f with
    | some fn => run ge (call ge T k) fn args st
    | none => .err
end PC
end
section
set_option Elab.async false
set_option linter.all false
set_option autoImplicit false
set_option maxRecDepth 100000
/-! What stands in the model's heap for the core's data and store. -/
namespace PC
open PySem L2

def sv (s : List Nat) : Str := ⟨s.toArray⟩

/-- where the cells stand; which addresses hold lists that no one changes any more -/
structure Wd where
  c : List Addr
  F : Addr → Prop
def Wd.frz (φ : Wd) (p : Addr) : Wd := ⟨φ.c, fun q => φ.F q ∨ q = p⟩
def Wd.add (φ : Wd) (p : Addr) : Wd := ⟨φ.c ++ [p], φ.F⟩

/-- a list of the module's own -/
def KL (K : PySem.W.Frag) (p : Addr) (xs : List V) : Prop := ∃ (o : Obj) (its : Array Value) (n : Nat), K.lookup p = some o ∧ o.cls = .type "list" ∧ o.dict = none ∧ o.data = .seq its n ∧ its.size ≤ sizeLine ∧ Vals xs its.toList
/-- a list that no one changes -/
def LsF (K : PySem.W.Frag) (φ : Wd) (H : Hp) (p : Addr) (vs : List V) : Prop := Rd H p (.lst vs) ∧ φ.F p
theorem LsF.sq {K : PySem.W.Frag} {φ : Wd} {H : Hp} {p : Addr} {vs : List V} (h : LsF K φ H p vs) : SqL K H p vs := .inl h.1
/-- .. or the module's -/
def LsK (K : PySem.W.Frag) (φ : Wd) (H : Hp) (p : Addr) (vs : List V) : Prop := LsF K φ H p vs ∨ KL K p vs
theorem LsK.sq {K : PySem.W.Frag} {φ : Wd} {H : Hp} {p : Addr} {vs : List V} (h : LsK K φ H p vs) : SqL K H p vs := h.elim LsF.sq .inr
mutual
inductive RepV (K : PySem.W.Frag) (φ : Wd) (H : Hp) : V → D → Prop
  | non : RepV K φ H .non .non
  | bl (b : Bool) : RepV K φ H (.bl b) (.bl b)
  | int (i : Int) : RepV K φ H (.int i) (.int i)
  | str (s : List Nat) : RepV K φ H (.str (sv s)) (.str s)
  | tup {p : Addr} {vs : List V} {ds : List D} : SqT K H p vs → RepVs K φ H vs ds → RepV K φ H (.ref p) (.tup ds)
  | lst {p : Addr} {vs : List V} {ds : List D} : LsF K φ H p vs → RepVs K φ H vs ds → RepV K φ H (.ref p) (.lst ds)
  | ref {p : Addr} {k : Nat} : φ.c[k]? = some p → RepV K φ H (.ref p) (.ref k)
  | scr {p : Addr} {vs : List V} {ds : List D} : LsK K φ H p vs → RepVs K φ H vs ds → RepV K φ H (.ref p) (.scr ds)
inductive RepVs (K : PySem.W.Frag) (φ : Wd) (H : Hp) : List V → List D → Prop
  | nil : RepVs K φ H [] []
  | cons {v : V} {d : D} {vs : List V} {ds : List D} : RepV K φ H v d → RepVs K φ H vs ds → RepVs K φ H (v :: vs) (d :: ds)
end

/-- from one stand to another: tuples stay, frozen lists stay so -/
structure Ext0 (K : PySem.W.Frag) (φ : Wd) (H : Hp) (φ' : Wd) (H' : Hp) : Prop where
  pre : ∀ (k : Nat) (p : Addr), φ.c[k]? = some p → φ'.c[k]? = some p
  tup : ∀ p vs, SqT K H p vs → SqT K H' p vs
  lst : ∀ p vs, Rd H p (.lst vs) → φ.F p → Rd H' p (.lst vs) ∧ φ'.F p
/-- from one stand to a later one: what is no cell stays, new cells are new objects -/
structure Ext (K : PySem.W.Frag) (φ : Wd) (H : Hp) (φ' : Wd) (H' : Hp) : Prop extends Ext0 K φ H φ' H' where
  keep : ∀ p o, H p = some o → p ∉ φ.c → H' p = some o
  new : ∀ p, p ∈ φ'.c → p ∉ φ.c → H p = none
  newF : ∀ p, φ'.F p → ¬ φ.F p → H p = none
  dom : ∀ p, H' p = none → H p = none

section
variable {K : PySem.W.Frag} {φ φ' φ'' : Wd} {H H' H'' : Hp}
theorem Ext.refl : Ext K φ H φ H := ⟨⟨fun _ _ h => h, fun _ _ h => h, fun _ _ h h' => ⟨h, h'⟩⟩, fun _ _ h _ => h, fun _ h h' => absurd h h', fun _ h h' => absurd h h', fun _ h => h⟩
theorem Ext0.sub (a : Ext0 K φ H φ' H') {p : Addr} (h : p ∈ φ.c) : p ∈ φ'.c := by
  obtain ⟨k, hk, e⟩ := List.getElem_of_mem h
  exact List.mem_of_getElem? (a.pre k p (by rw [List.getElem?_eq_getElem hk, e]))
theorem Ext.trans (a : Ext K φ H φ' H') (b : Ext K φ' H' φ'' H'') : Ext K φ H φ'' H'' := by
  have out : ∀ p o, H p = some o → p ∉ φ.c → p ∉ φ'.c := fun p o h hn hm => by
    rw [a.new p hm hn] at h; cases h
  refine ⟨⟨fun k p h => b.pre k p (a.pre k p h), fun p vs h => b.tup p vs (a.tup p vs h), fun p vs h h' => let q := a.lst p vs h h'; b.lst p vs q.1 q.2⟩,
    fun p o h hn => b.keep p o (a.keep p o h hn) (out p o h hn), fun p hm hn => ?_, fun p hm hn => ?_, fun p h => a.dom p (b.dom p h)⟩
  · by_cases hm' : p ∈ φ'.c
    · exact a.new p hm' hn
    · exact a.dom p (b.new p hm hm')
  · by_cases hm' : φ'.F p
    · exact a.newF p hm' hn
    · exact a.dom p (b.newF p hm hm')
mutual
theorem RepV.ext0 (e : Ext0 K φ H φ' H') : ∀ {v : V} {d : D}, RepV K φ H v d → RepV K φ' H' v d
  | _, _, .non => .non
  | _, _, .bl b => .bl b
  | _, _, .int i => .int i
  | _, _, .str s => .str s
  | _, _, .tup a b => .tup (e.tup _ _ a) (RepVs.ext0 e b)
  | _, _, .lst a b => .lst (e.lst _ _ a.1 a.2) (RepVs.ext0 e b)
  | _, _, .ref h => .ref (e.pre _ _ h)
  | _, _, .scr a b => .scr (a.elim (fun z => .inl (e.lst _ _ z.1 z.2)) .inr) (RepVs.ext0 e b)
theorem RepVs.ext0 (e : Ext0 K φ H φ' H') : ∀ {vs : List V} {ds : List D}, RepVs K φ H vs ds → RepVs K φ' H' vs ds
  | _, _, .nil => .nil
  | _, _, .cons a b => .cons (RepV.ext0 e a) (RepVs.ext0 e b)
end
theorem RepV.ext (e : Ext K φ H φ' H') {v : V} {d : D} (h : RepV K φ H v d) : RepV K φ' H' v d := h.ext0 e.toExt0
theorem RepVs.ext (e : Ext K φ H φ' H') {v : List V} {d : List D} (h : RepVs K φ H v d) : RepVs K φ' H' v d := h.ext0 e.toExt0
theorem RepVs.length : ∀ {vs : List V} {ds : List D}, RepVs K φ H vs ds → vs.length = ds.length
  | _, _, .nil => rfl
  | _, _, .cons _ b => by rw [List.length_cons, List.length_cons, RepVs.length b]
theorem RepVs.get : ∀ {vs : List V} {ds : List D} {i : Nat} {d : D}, RepVs K φ H vs ds → ds[i]? = some d → ∃ v, vs[i]? = some v ∧ RepV K φ H v d
  | _, _, 0, _, .cons a _, e => by cases (by simpa using e : _ = _); exact ⟨_, rfl, a⟩
  | _, _, i + 1, d, .cons _ b, e => by
    obtain ⟨v, h, r⟩ := RepVs.get (i := i) (d := d) b (by simpa using e)
    exact ⟨v, by simpa using h, r⟩
theorem RepVs.get' : ∀ {vs : List V} {ds : List D} {i : Nat} {v : V}, RepVs K φ H vs ds → vs[i]? = some v → ∃ d, ds[i]? = some d ∧ RepV K φ H v d
  | _, _, 0, _, .cons a _, e => by cases (by simpa using e : _ = _); exact ⟨_, rfl, a⟩
  | _, _, i + 1, d, .cons _ b, e => by
    obtain ⟨v, h, r⟩ := RepVs.get' (i := i) (v := d) b (by simpa using e)
    exact ⟨v, by simpa using h, r⟩
theorem RepVs.append : ∀ {vs ws : List V} {ds es : List D}, RepVs K φ H vs ds → RepVs K φ H ws es → RepVs K φ H (vs ++ ws) (ds ++ es)
  | _, _, _, _, .nil, b => b
  | _, _, _, _, .cons a t, b => .cons a (RepVs.append t b)
theorem RepVs.take : ∀ {vs : List V} {ds : List D} (n : Nat), RepVs K φ H vs ds → RepVs K φ H (vs.take n) (ds.take n)
  | _, _, 0, _ => .nil
  | _, _, _ + 1, .nil => .nil
  | _, _, n + 1, .cons a b => .cons a (RepVs.take n b)
theorem RepVs.drop : ∀ {vs : List V} {ds : List D} (n : Nat), RepVs K φ H vs ds → RepVs K φ H (vs.drop n) (ds.drop n)
  | _, _, 0, h => h
  | _, _, _ + 1, .nil => .nil
  | _, _, n + 1, .cons _ b => RepVs.drop n b
theorem RepVs.set {v : V} {d : D} (r : RepV K φ H v d) : ∀ {vs : List V} {ds : List D} (n : Nat), RepVs K φ H vs ds → RepVs K φ H (vs.set n v) (ds.set n d)
  | _, _, _, .nil => .nil
  | _, _, 0, .cons _ b => .cons r b
  | _, _, n + 1, .cons a b => .cons a (RepVs.set r n b)
theorem RepVs.eraseIdx : ∀ {vs : List V} {ds : List D} (n : Nat), RepVs K φ H vs ds → RepVs K φ H (vs.eraseIdx n) (ds.eraseIdx n)
  | _, _, _, .nil => .nil
  | _, _, 0, .cons _ b => b
  | _, _, n + 1, .cons a b => .cons a (RepVs.eraseIdx n b)
theorem RepVs.dropLast {vs : List V} {ds : List D} (h : RepVs K φ H vs ds) : RepVs K φ H vs.dropLast ds.dropLast := by
  rw [List.dropLast_eq_take, List.dropLast_eq_take, h.length]; exact h.take _
theorem RepVs.replicate {vs : List V} {ds : List D} (h : RepVs K φ H vs ds) : ∀ n, RepVs K φ H (List.replicate n vs).flatten (List.replicate n ds).flatten
  | 0 => .nil
  | n + 1 => by
    rw [List.replicate_succ, List.replicate_succ, List.flatten_cons, List.flatten_cons]
    exact h.append (RepVs.replicate h n)
theorem RepV.int_inv {v : V} {i : Int} (h : RepV K φ H v (.int i)) : v = .int i := by cases h; rfl
theorem RepV.bl_inv {v : V} {b : Bool} (h : RepV K φ H v (.bl b)) : v = .bl b := by cases h; rfl
theorem RepV.str_inv {v : V} {s : List Nat} (h : RepV K φ H v (.str s)) : v = .str (sv s) := by cases h; rfl
theorem RepV.non_inv {v : V} (h : RepV K φ H v .non) : v = .non := by cases h; rfl
theorem RepVs.ofInts {vs : List V} : ∀ {is : List Int}, RepVs K φ H vs (is.map .int) → vs = is.map .int
  | [], h => by cases h; rfl
  | i :: is, h => by
    cases h with
    | cons a b => rw [a.int_inv, RepVs.ofInts b]; rfl
theorem RepVs.ints : ∀ is : List Int, RepVs K φ H (is.map .int) (is.map .int)
  | [] => .nil
  | i :: is => .cons (.int i) (RepVs.ints is)
theorem RepVs.ofBools {vs : List V} : ∀ {is : List Bool}, RepVs K φ H vs (is.map .bl) → vs = is.map .bl
  | [], h => by cases h; rfl
  | i :: is, h => by
    cases h with
    | cons a b => rw [a.bl_inv, RepVs.ofBools b]; rfl
theorem RepVs.ofStrs {vs : List V} : ∀ {is : List (List Nat)}, RepVs K φ H vs (is.map .str) → vs = is.map fun s => .str (sv s)
  | [], h => by cases h; rfl
  | i :: is, h => by
    cases h with
    | cons a b => rw [a.str_inv, RepVs.ofStrs b]; rfl
theorem RepVs.strs : ∀ is : List (List Nat), RepVs K φ H (is.map fun s => V.str (sv s)) (is.map .str)
  | [] => .nil
  | i :: is => .cons (.str i) (RepVs.strs is)
end

theorem toInts_eq : ∀ {xs : List D} {is : List Int}, toInts xs = some is → xs = is.map .int
  | [], is, h => by cases (by simpa [toInts] using h : [] = is); rfl
  | x :: xs, is, h => by
    cases x with
    | int i =>
      simp only [toInts] at h
      cases e : toInts xs with
      | none => rw [e] at h; cases h
      | some js => rw [e] at h; cases h; rw [toInts_eq e]; rfl
    | _ => cases h
theorem toBools_eq : ∀ {xs : List D} {is : List Bool}, toBools xs = some is → xs = is.map .bl
  | [], is, h => by cases (by simpa [toBools] using h : [] = is); rfl
  | x :: xs, is, h => by
    cases x with
    | bl i =>
      simp only [toBools] at h
      cases e : toBools xs with
      | none => rw [e] at h; cases h
      | some js => rw [e] at h; cases h; rw [toBools_eq e]; rfl
    | _ => cases h
theorem toStrs_eq : ∀ {xs : List D} {is : List (List Nat)}, toStrs xs = some is → xs = is.map .str
  | [], is, h => by cases (by simpa [toStrs] using h : [] = is); rfl
  | x :: xs, is, h => by
    cases x with
    | str i =>
      simp only [toStrs] at h
      cases e : toStrs xs with
      | none => rw [e] at h; cases h
      | some js => rw [e] at h; cases h; rw [toStrs_eq e]; rfl
    | _ => cases h

/-- what stands at a cell's address -/
def RepC (K : PySem.W.Frag) (φ : Wd) (H : Hp) (p : Addr) : Cell → Prop
  | .lst ds => ∃ vs, H p = some (.lst vs) ∧ RepVs K φ H vs ds
  | .dict kvs => kvs = [] ∧ H p = some (.dK [])
  | .ins _ _ => False
structure Sim (K : PySem.W.Frag) (φ : Wd) (H : Hp) (st : Store) : Prop where
  len : φ.c.length = st.length
  nd : φ.c.Nodup
  cell : ∀ (k : Nat) (p : Addr) (c : Cell), φ.c[k]? = some p → st[k]? = some c → RepC K φ H p c
  frz : ∀ p, φ.F p → p ∉ φ.c ∧ ∃ vs, Rd H p (.lst vs)

def Opn : Option HO → Prop
  | some (.lst _) => True
  | some (.dK _) => True
  | some (.dT _) => True
  | some (.ins _ _ _) => True
  | _ => False
section
variable {K : PySem.W.Frag} {φ φ' : Wd} {H H' : Hp} {st : Store}
theorem RepC.opn {p : Addr} {c : Cell} (h : RepC K φ H p c) : Opn (H p) := by
  cases c with
  | lst ds => obtain ⟨vs, e, _⟩ := h; rw [e]; trivial
  | dict kvs => obtain ⟨_, e⟩ := h; rw [e]; trivial
  | ins _ _ => exact h.elim
theorem RepC.ext {p : Addr} {c : Cell} (e : Ext0 K φ H φ' H') (hp : H' p = H p) (h : RepC K φ H p c) : RepC K φ' H' p c := by
  cases c with
  | lst ds => obtain ⟨vs, e', r⟩ := h; exact ⟨vs, hp.trans e', r.ext0 e⟩
  | dict kvs => exact ⟨h.1, hp.trans h.2⟩
  | ins _ _ => exact h.elim
theorem Sim.opn (s : Sim K φ H st) {p : Addr} (hp : p ∈ φ.c) : Opn (H p) := by
  obtain ⟨k, hk, e⟩ := List.getElem_of_mem hp
  have hk' : k < st.length := by rw [← s.len]; exact hk
  exact (s.cell k p st[k] (by rw [List.getElem?_eq_getElem hk, e]) (List.getElem?_eq_getElem hk')).opn
theorem Sim.at_ (s : Sim K φ H st) {k : Nat} {p : Addr} (hk : φ.c[k]? = some p) : ∃ c, st[k]? = some c ∧ RepC K φ H p c := by
  obtain ⟨h, e⟩ := List.getElem?_eq_some_iff.mp hk
  have hk' : k < st.length := by rw [← s.len]; exact h
  exact ⟨st[k], List.getElem?_eq_getElem hk', s.cell k p _ hk (List.getElem?_eq_getElem hk')⟩
theorem sqT_upd {p q : Addr} {vs : List V} {o : HO} (h : SqT K H q vs) (hp : ∀ vs, H p ≠ some (.tup vs)) (hf : ∀ o u, H p ≠ some (.frz o u)) : SqT K (upd H p o) q vs := by
  rcases h with (h | ⟨o', h⟩) | h
  · refine .inl (.inl ?_)
    rw [upd_ne (fun (e : q = p) => hp vs (e ▸ h))]; exact h
  · refine .inl (.inr ⟨o', ?_⟩)
    rw [upd_ne (fun (e : q = p) => hf o' (.tup vs) (e ▸ h))]; exact h
  · exact .inr h
theorem rdL_upd {p q : Addr} {vs : List V} {o : HO} (h : Rd H q (.lst vs)) (hq : q ≠ p) : Rd (upd H p o) q (.lst vs) := by
  rcases h with h | ⟨o', h⟩
  · exact .inl (by rw [upd_ne hq]; exact h)
  · exact .inr ⟨o', by rw [upd_ne hq]; exact h⟩
theorem rd_ne {p q : Addr} {u : HO} (h : Rd H q u) (hn : H p = none) : q ≠ p := by
  rintro rfl
  rcases h with h | ⟨o', h⟩ <;> rw [hn] at h <;> cases h
theorem sqT_new {p q : Addr} {vs : List V} {o : HO} (hn : H p = none) (h : SqT K H q vs) : SqT K (upd H p o) q vs :=
  sqT_upd h (fun vs e => by rw [hn] at e; cases e) (fun _ _ e => by rw [hn] at e; cases e)
/-- a list that is neither a cell nor frozen is put otherwise -/
theorem Ext0.own {p : Addr} {xs : List V} {o : HO} (hH : H p = some (.lst xs)) (hf : ¬ φ.F p) : Ext0 K φ H φ (upd H p o) :=
  ⟨fun _ _ h => h, fun q vs h => sqT_upd h (fun vs e => by rw [hH] at e; cases e) (fun _ _ e => by rw [hH] at e; cases e),
    fun q vs h h' => ⟨rdL_upd h (fun (e : q = p) => hf (e ▸ h')), h'⟩⟩
/-- a new object that is no cell -/
theorem kept_new {p q : Addr} {o u : HO} (hn : H p = none) (h : H q = some u) : upd H p o q = some u := by
  rw [upd_ne (ne_of_none h hn)]; exact h
theorem dom_upd {p q : Addr} {o : HO} (h : upd H p o q = none) : H q = none := by
  unfold upd at h
  split at h
  · cases h
  · exact h
theorem Ext.fresh {p : Addr} {o : HO} (hn : H p = none) : Ext K φ H φ (upd H p o) :=
  ⟨⟨fun _ _ h => h, fun q vs h => sqT_new hn h, fun q vs h h' => ⟨rdL_upd h (rd_ne h hn), h'⟩⟩, fun q u h _ => kept_new hn h, fun _ h h' => absurd h h', fun _ h h' => absurd h h', fun _ h => dom_upd h⟩
theorem Sim.fresh (s : Sim K φ H st) {p : Addr} (hn : H p = none) : p ∉ φ.c := fun hp => by
  have := s.opn hp
  rw [hn] at this; exact this
theorem Sim.freshF (s : Sim K φ H st) {p : Addr} (hn : H p = none) : ¬ φ.F p := fun hp => by
  obtain ⟨_, vs, h⟩ := s.frz p hp
  exact rd_ne h hn rfl
/-- the heap goes on, the cells' own objects as they were -/
theorem Sim.step (s : Sim K φ H st) (e : Ext0 K φ H φ H') (h : ∀ p ∈ φ.c, H' p = H p) : Sim K φ H' st :=
  ⟨s.len, s.nd, fun k q c hk hc => (s.cell k q c hk hc).ext e (h q (List.mem_of_getElem? hk)), fun p hp => by
    obtain ⟨h1, vs, h2⟩ := s.frz p hp
    exact ⟨h1, vs, (e.lst p vs h2 hp).1⟩⟩
theorem Sim.new (s : Sim K φ H st) {p : Addr} {o : HO} (hn : H p = none) : Sim K φ (upd H p o) st :=
  s.step (Ext.fresh hn).toExt0 fun q hq => upd_ne (fun (e : q = p) => s.fresh hn (e ▸ hq))
theorem Sim.own (s : Sim K φ H st) {p : Addr} {xs : List V} {o : HO} (hH : H p = some (.lst xs)) (hf : ¬ φ.F p) (hc : p ∉ φ.c) : Sim K φ (upd H p o) st :=
  s.step (Ext0.own hH hf) fun q hq => upd_ne (fun (e : q = p) => hc (e ▸ hq))
/-- a list that is neither is frozen -/
theorem Ext0.freeze {p : Addr} : Ext0 K φ H (φ.frz p) H :=
  ⟨fun _ _ h => h, fun _ _ h => h, fun q vs h h' => ⟨h, .inl h'⟩⟩
theorem Ext.frz (e : Ext K φ H φ' H') {p : Addr} (hn : H p = none) : Ext K φ H (φ'.frz p) H' :=
  ⟨⟨e.pre, e.tup, fun q vs h h' => ⟨(e.lst q vs h h').1, .inl (e.lst q vs h h').2⟩⟩, e.keep, e.new, fun q h h' => by
    rcases h with h | h
    · exact e.newF q h h'
    · rw [h]; exact hn, e.dom⟩
theorem Sim.freeze (s : Sim K φ H st) {p : Addr} {vs : List V} (hc : p ∉ φ.c) (h : Rd H p (.lst vs)) : Sim K (φ.frz p) H st :=
  ⟨s.len, s.nd, fun k q c hk hc => (s.cell k q c hk hc).ext Ext0.freeze rfl, fun q hq => by
    rcases hq with hq | hq
    · exact s.frz q hq
    · rw [hq]; exact ⟨hc, vs, h⟩⟩
/-- a new object that is a cell -/
theorem Ext.cell {p : Addr} {o : HO} (hn : H p = none) : Ext K φ H (φ.add p) (upd H p o) :=
  ⟨⟨fun k q h => by
    show (φ.c ++ [p])[k]? = some q
    rw [List.getElem?_append_left (List.getElem?_eq_some_iff.mp h).1]; exact h, fun q vs h => sqT_new hn h, fun q vs h h' => ⟨rdL_upd h (rd_ne h hn), h'⟩⟩,
    fun q u h _ => kept_new hn h, fun q h h' => by
      rcases List.mem_append.mp (show q ∈ φ.c ++ [p] from h) with hm | hm
      · exact absurd hm h'
      · have : q = p := by simpa using hm
        rw [this]; exact hn, fun _ h h' => absurd h h', fun _ h => dom_upd h⟩
theorem Sim.cellNew (s : Sim K φ H st) {p : Addr} {o : HO} {c : Cell} (hn : H p = none) (h : RepC K (φ.add p) (upd H p o) p c) : Sim K (φ.add p) (upd H p o) (st ++ [c]) := by
  refine ⟨?_, ?_, fun k q c' hk hc => ?_, fun q hq => ?_⟩
  · show (φ.c ++ [p]).length = _
    rw [List.length_append, List.length_append, s.len]; rfl
  · show (φ.c ++ [p]).Nodup
    rw [List.nodup_append]
    refine ⟨s.nd, by simp, fun a ha b hb => ?_⟩
    have : b = p := by simpa using hb
    subst this
    rintro rfl
    exact s.fresh hn ha
  · have hk : (φ.c ++ [p])[k]? = some q := hk
    by_cases hlt : k < φ.c.length
    · rw [List.getElem?_append_left hlt] at hk
      rw [List.getElem?_append_left (by rw [← s.len]; exact hlt)] at hc
      exact (s.cell k q c' hk hc).ext (Ext.cell hn).toExt0 (upd_ne (fun (e : q = p) => s.fresh hn (e ▸ List.mem_of_getElem? hk)))
    · have hk2 : k = φ.c.length := by
        have := (List.getElem?_eq_some_iff.mp hk).1
        rw [List.length_append] at this
        simp at this; omega
      subst hk2
      rw [List.getElem?_append_right (Nat.le_refl _)] at hk
      rw [s.len, List.getElem?_append_right (Nat.le_refl _)] at hc
      simp at hk hc
      subst hk; subst hc
      exact h
  · obtain ⟨h1, vs, h2⟩ := s.frz q hq
    refine ⟨?_, vs, rdL_upd h2 (rd_ne h2 hn)⟩
    show q ∉ φ.c ++ [p]
    rw [List.mem_append]
    rintro (hm | hm)
    · exact h1 hm
    · exact rd_ne h2 hn (by simpa using hm)
/-- a cell is changed -/
theorem Ext.put (s : Sim K φ H st) {k : Nat} {p : Addr} {o : HO} (hk : φ.c[k]? = some p) : Ext K φ H φ (upd H p o) := by
  have hp : p ∈ φ.c := List.mem_of_getElem? hk
  have ho := s.opn hp
  exact ⟨⟨fun _ _ h => h, fun q vs h => sqT_upd h (fun vs e => by rw [e] at ho; exact ho) (fun _ _ e => by rw [e] at ho; exact ho),
    fun q vs h h' => ⟨rdL_upd h (fun (e : q = p) => (s.frz q h').1 (e ▸ hp)), h'⟩⟩, fun q u h hn => by rw [upd_ne (fun (e : q = p) => hn (e ▸ hp))]; exact h, fun _ h h' => absurd h h', fun _ h h' => absurd h h', fun _ h => dom_upd h⟩
theorem nodup_at {l : List Addr} (nd : l.Nodup) {i j : Nat} {p : Addr} (hi : l[i]? = some p) (hj : l[j]? = some p) : i = j := by
  obtain ⟨h1, e1⟩ := List.getElem?_eq_some_iff.mp hi
  obtain ⟨h2, e2⟩ := List.getElem?_eq_some_iff.mp hj
  exact (List.getElem_inj nd).mp (e1.trans e2.symm)
theorem Sim.put (s : Sim K φ H st) {k : Nat} {p : Addr} {o : HO} {c : Cell} (hk : φ.c[k]? = some p) (h : RepC K φ (upd H p o) p c) : Sim K φ (upd H p o) (st.set k c) := by
  refine ⟨by rw [List.length_set]; exact s.len, s.nd, fun j q c' hj hc => ?_, fun q hq => ?_⟩
  · by_cases e : k = j
    · subst e
      rw [hk] at hj; cases hj
      rw [List.getElem?_set_self (by rw [← s.len]; exact (List.getElem?_eq_some_iff.mp hk).1)] at hc
      cases hc
      exact h
    · rw [List.getElem?_set_ne e] at hc
      exact (s.cell j q c' hj hc).ext (Ext.put s hk).toExt0 (upd_ne (fun (z : q = p) => e (nodup_at s.nd hk (z ▸ hj))))
  · obtain ⟨h1, vs, h2⟩ := s.frz q hq
    exact ⟨h1, vs, ((Ext.put s hk).lst q vs h2 hq).1⟩
end

/-! ### slots -/
structure RepS (K : PySem.W.Frag) (φ : Wd) (H : Hp) (σ : St) (τ : Slots) : Prop where
  len : σ.length = τ.length
  at_ : ∀ (i : Nat) (d : D), τ[i]? = some (some d) → ∃ v, σ[i]? = some (some v) ∧ RepV K φ H v d
section
variable {K : PySem.W.Frag} {φ φ' : Wd} {H H' : Hp} {σ : St} {τ : Slots}
theorem RepS.ext0 (r : RepS K φ H σ τ) (e : Ext0 K φ H φ' H') : RepS K φ' H' σ τ := ⟨r.len, fun i d h => let ⟨v, a, b⟩ := r.at_ i d h; ⟨v, a, b.ext0 e⟩⟩
theorem RepS.ext (r : RepS K φ H σ τ) (e : Ext K φ H φ' H') : RepS K φ' H' σ τ := ⟨r.len, fun i d h => let ⟨v, a, b⟩ := r.at_ i d h; ⟨v, a, b.ext e⟩⟩
theorem RepS.set (r : RepS K φ H σ τ) {v : V} {d : D} (h : RepV K φ H v d) (i : Nat) : RepS K φ H (σ.set i (some v)) (τ.set i (some d)) := by
  refine ⟨by rw [List.length_set, List.length_set]; exact r.len, fun j d' hj => ?_⟩
  by_cases e : i = j
  · subst e
    have hlt : i < τ.length := by
      have := (List.getElem?_eq_some_iff.mp hj).1
      rwa [List.length_set] at this
    rw [List.getElem?_set_self hlt] at hj
    cases hj
    exact ⟨v, by rw [List.getElem?_set_self (by rw [r.len]; exact hlt)], h⟩
  · rw [List.getElem?_set_ne e] at hj
    rw [List.getElem?_set_ne e]
    exact r.at_ j d' hj
theorem RepS.setNone (r : RepS K φ H σ τ) (i : Nat) : RepS K φ H (σ.set i none) (τ.set i none) := by
  refine ⟨by rw [List.length_set, List.length_set]; exact r.len, fun j d' hj => ?_⟩
  by_cases e : i = j
  · subst e
    have hlt : i < τ.length := by
      have := (List.getElem?_eq_some_iff.mp hj).1
      rwa [List.length_set] at this
    rw [List.getElem?_set_self hlt] at hj
    cases hj
  · rw [List.getElem?_set_ne e] at hj
    rw [List.getElem?_set_ne e]
    exact r.at_ j d' hj
theorem RepS.wipe (r : RepS K φ H σ τ) : ∀ vs : List Nat, RepS K φ H (L2.wipe σ vs) (PC.wipe τ vs)
  | [] => r
  | v :: vs => (RepS.wipe r vs).setNone v
end

/-! ### what is wanted of a result -/
/-- W: what is wanted of an exception -/
abbrev WD := D → St → Hp → Prop
def Post {α β : Type} (K : PySem.W.Frag) (R : Wd → Hp → β → α → Prop) (W : Wd → Hp → Store → D → Prop) (φ : Wd) (H : Hp) (r : Res α) (Q : β → Hp → Prop) : Prop :=
  match r with
  | .ok d st => ∀ φ' H' v, Ext K φ H φ' H' → Sim K φ' H' st → R φ' H' v d → Q v H'
  | .exc d st => ∀ φ' H', Ext K φ H φ' H' → Sim K φ' H' st → W φ' H' st d
  | .err => False
theorem Post.ext {α β : Type} {K : PySem.W.Frag} {R : Wd → Hp → β → α → Prop} {W : Wd → Hp → Store → D → Prop} {φ φ' : Wd} {H H' : Hp} {r : Res α} {Q : β → Hp → Prop} (h : Post K R W φ H r Q) (e : Ext K φ H φ' H') : Post K R W φ' H' r Q := by
  cases r with
  | ok d st => exact fun φ2 H2 v e2 => h φ2 H2 v (e.trans e2)
  | exc d st => exact fun φ2 H2 e2 => h φ2 H2 (e.trans e2)
  | err => exact h
/-- first r, then f -/
theorem Post.bind {α α' β β' : Type} {K : PySem.W.Frag} {R : Wd → Hp → β → α → Prop} {R' : Wd → Hp → β' → α' → Prop} {W : Wd → Hp → Store → D → Prop} {φ : Wd} {H : Hp} {r : Res α} {f : α → Store → Res α'}
    {Q : β' → Hp → Prop} {Q1 : β → Hp → Prop} (h : Post K R' W φ H (r.bind f) Q)
    (k : ∀ x st φ1 H1 v, Ext K φ H φ1 H1 → Sim K φ1 H1 st → R φ1 H1 v x → Post K R' W φ1 H1 (f x st) Q → Q1 v H1) : Post K R W φ H r Q1 := by
  cases r with
  | ok d st => exact fun φ1 H1 v e s rv => k d st φ1 H1 v e s rv (Post.ext h e)
  | exc d st => exact h
  | err => exact h
end PC
end
section
set_option Elab.async false
set_option linter.all false
set_option autoImplicit false
set_option maxRecDepth 100000
set_option maxHeartbeats 1000000
/-! The core's operators, kept by the model. -/
namespace PC
open PySem L2 PyProof.Rows

abbrev RV (K : PySem.W.Frag) : Wd → Hp → V → D → Prop := fun φ H v d => RepV K φ H v d
abbrev noW : Wd → Hp → Store → D → Prop := fun _ _ _ _ => False
abbrev PostV (K : PySem.W.Frag) (φ : Wd) (H : Hp) (r : Res D) (Q : VK) : Prop := Post K (RV K) noW φ H r Q
abbrev PostB (K : PySem.W.Frag) (φ : Wd) (H : Hp) (r : Res Bool) (Q : VK) : Prop := Post K (fun _ _ v b => v = V.bl b) noW φ H r Q
theorem gd_ok {α β : Type} {K : PySem.W.Frag} {R : Wd → Hp → β → α → Prop} {W : Wd → Hp → Store → D → Prop} {φ : Wd} {H : Hp} {r : Res α} {Q : β → Hp → Prop} {p : Prop} [Decidable p] (h : Post K R W φ H (gd p r) Q) :
    p ∧ Post K R W φ H r Q := by
  unfold gd at h
  by_cases hp : p
  · rw [if_pos hp] at h; exact ⟨hp, h⟩
  · rw [if_neg hp] at h; exact False.elim h
theorem ok_here {K : PySem.W.Frag} {φ : Wd} {H : Hp} {d : D} {st : Store} {Q : VK} {v : V} (h : PostV K φ H (.ok d st) Q) (s : Sim K φ H st) (r : RepV K φ H v d) : Q v H := h φ H v Ext.refl s r
theorem line_eq : lineN = sizeLine := by rw [sizeLine_eq]; rfl
/-- a new tuple -/
theorem ok_tup {K : PySem.W.Frag} {φ : Wd} {H : Hp} {ds : List D} {vs : List V} {st : Store} {Q : VK} (h : PostV K φ H (.ok (.tup ds) st) Q) (s : Sim K φ H st) (r : RepVs K φ H vs ds) : ∀ p, H p = none → Q (.ref p) (upd H p (.tup vs)) :=
  fun p hp => h φ _ _ (Ext.fresh hp) (s.new hp) (.tup (.of upd_same) (r.ext (Ext.fresh hp)))
/-- a new list -/
theorem ok_lst {K : PySem.W.Frag} {φ : Wd} {H : Hp} {ds : List D} {vs : List V} {st : Store} {Q : VK} (h : PostV K φ H (.ok (.lst ds) st) Q) (s : Sim K φ H st) (r : RepVs K φ H vs ds) : ∀ p, H p = none → Q (.ref p) (upd H p (.lst vs)) :=
  fun p hp => h (φ.frz p) _ _ ((Ext.fresh hp).frz hp) ((s.new hp).freeze (s.fresh hp) (.of upd_same)) (.lst ⟨.of upd_same, .inr rfl⟩ (r.ext ((Ext.fresh hp).frz hp)))

/-- a value that is a list, wherever it stands -/
theorem list_at {K : PySem.W.Frag} {φ : Wd} {H : Hp} {st : Store} {v : V} {d : D} {ds : List D} (s : Sim K φ H st) (r : RepV K φ H v d) (e : deref st d = .lst ds) : ∃ p vs, v = .ref p ∧ SqL K H p vs ∧ RepVs K φ H vs ds := by
  cases r with
  | lst h b => cases e; exact ⟨_, _, rfl, h.sq, b⟩
  | @ref p k hk =>
    obtain ⟨c, hc, rc⟩ := s.at_ hk
    simp only [deref, hc] at e
    cases c with
    | lst xs => cases e; obtain ⟨vs, h, b⟩ := rc; exact ⟨_, vs, rfl, .inl (.inl h), b⟩
    | _ => cases e
  | scr h b => cases e; exact ⟨_, _, rfl, h.sq, b⟩
  | _ => cases e
theorem list_atB {K : PySem.W.Frag} {φ : Wd} {H : Hp} {st : Store} {v : V} {d : D} {ds : List D} (s : Sim K φ H st) (r : RepV K φ H v d) (e : derefB st d = .lst ds) : ∃ p vs, v = .ref p ∧ Rd H p (.lst vs) ∧ RepVs K φ H vs ds := by
  cases r with
  | lst h b => cases e; exact ⟨_, _, rfl, h.1, b⟩
  | @ref p k hk =>
    obtain ⟨c, hc, rc⟩ := s.at_ hk
    simp only [derefB, deref, hc] at e
    cases c with
    | lst xs => cases e; obtain ⟨vs, h, b⟩ := rc; exact ⟨_, vs, rfl, .inl h, b⟩
    | _ => cases e
  | _ => cases e
theorem derefB_of {st : Store} {d e : D} (h : derefB st d = e) (hs : ∀ xs, e ≠ .scr xs) : deref st d = e := by
  cases d with
  | scr xs => exact absurd h.symm (hs xs)
  | _ => exact h
theorem tup_at {K : PySem.W.Frag} {φ : Wd} {H : Hp} {st : Store} {v : V} {d : D} {ds : List D} (r : RepV K φ H v d) (e : deref st d = .tup ds) : ∃ p vs, v = .ref p ∧ SqT K H p vs ∧ RepVs K φ H vs ds := by
  cases r with
  | tup h b => cases e; exact ⟨_, _, rfl, h, b⟩
  | @ref p k hk =>
    simp only [deref] at e
    split at e <;> cases e
  | _ => cases e
theorem deref_flat {st : Store} {d : D} (h : ∀ xs, deref st d ≠ .lst xs) : deref st d = d := by
  cases d with
  | ref k =>
    cases e : st[k]? with
    | none => simp only [deref, e]
    | some c =>
      cases c with
      | lst xs => exact absurd (by simp only [deref, e]) (h xs)
      | _ => simp only [deref, e]
  | scr xs => exact absurd rfl (h xs)
  | _ => rfl
theorem str_at {K : PySem.W.Frag} {φ : Wd} {H : Hp} {st : Store} {v : V} {d : D} {s : List Nat} (r : RepV K φ H v d) (e : deref st d = .str s) : v = .str (sv s) := by
  have := deref_flat (st := st) (d := d) (by rw [e]; exact fun _ z => nomatch z)
  rw [this] at e; subst e; exact r.str_inv
theorem int_at {K : PySem.W.Frag} {φ : Wd} {H : Hp} {st : Store} {v : V} {d : D} {i : Int} (r : RepV K φ H v d) (e : deref st d = .int i) : v = .int i := by
  have := deref_flat (st := st) (d := d) (by rw [e]; exact fun _ z => nomatch z)
  rw [this] at e; subst e; exact r.int_inv

theorem int_atB {K : PySem.W.Frag} {φ : Wd} {H : Hp} {st : Store} {v : V} {d : D} {i : Int} (r : RepV K φ H v d) (e : derefB st d = .int i) : v = .int i := int_at r (derefB_of e (by intro z h; cases h))
theorem str_atB {K : PySem.W.Frag} {φ : Wd} {H : Hp} {st : Store} {v : V} {d : D} {s : List Nat} (r : RepV K φ H v d) (e : derefB st d = .str s) : v = .str (sv s) := str_at r (derefB_of e (by intro z h; cases h))
theorem tup_atB {K : PySem.W.Frag} {φ : Wd} {H : Hp} {st : Store} {v : V} {d : D} {ds : List D} (r : RepV K φ H v d) (e : derefB st d = .tup ds) : ∃ p vs, v = .ref p ∧ SqT K H p vs ∧ RepVs K φ H vs ds := tup_at r (derefB_of e (by intro z h; cases h))
section
variable {X : Cx}
def rB (K : PySem.W.Frag) (op : Operator) : R2 := fun x y H Q => ∃ φ st a b, Sim K φ H st ∧ RepV K φ H x a ∧ RepV K φ H y b ∧ PostV K φ H (binop op a b st) Q

theorem rdM {pins : List (Addr × Obj)} {s : Shared} {σ : L2.St} {H : Hp} {l : Addr} {xs : List V} (I : Inv X pins σ H s) (h : Rd H l (.lst xs)) : xs.length ≤ sizeLine ∧ ∃ (its : List Value) (n : Nat), Vals xs its ∧ s.heap.get? l = some { cls := .type "list", data := .seq its.toArray n } :=
  h.ok I.hok
theorem cat_lists : OpR X (binaryOp .Add) (fun x y H Q => ∃ l b xs zs, x = .ref l ∧ y = .ref b ∧ Rd H l (.lst xs) ∧ Rd H b (.lst zs) ∧ xs.length + zs.length ≤ sizeLine ∧ ∀ p, H p = none → Q (.ref p) (upd H p (.lst (xs ++ zs)))) := by
  rintro pins s σ H _ _ v u Q I rx ry ⟨l, b, xs, zs, rfl, rfl, h1, h2, hz, q⟩
  cases rx; cases ry
  obtain ⟨_, i1, n1, r1, e1⟩ := rdM I h1
  obtain ⟨_, i2, n2, r2, e2⟩ := rdM I h2
  have l1 := r1.length
  have l2 := r2.length
  refine PySem.P.add_list e1 e2 ?_ (by simp only [List.size_toArray]; omega)
  rw [List.append_toArray]
  have J := I.lnew (t' := s.toks) (r1.append r2) (by rw [List.length_append]; exact hz)
  exact ⟨V.ref _, _, J, rfl, q _ I.fresh⟩
theorem sv_append (a b : List Nat) : sv (a ++ b) = sv a ++ sv b := by
  show (⟨(a ++ b).toArray⟩ : Str) = ⟨a.toArray ++ b.toArray⟩
  rw [List.append_toArray]
theorem sv_length (a : List Nat) : (sv a).length = a.length := by show a.toArray.size = _; simp
theorem opAdd : OpR X (binaryOp .Add) (rB X.K .Add) := by
  rintro pins s σ H x y v u Q I rx ry ⟨φ, st, a, b, sim, ra, rb, post⟩
  simp only [binop] at post
  cases ea : derefB st a with
  | int i =>
    cases eb : derefB st b with
    | int j =>
      rw [ea, eb] at post
      rw [int_atB ra ea] at rx
      rw [int_atB rb eb] at ry
      exact op_add pins s σ H _ _ v u Q I rx ry ⟨i, j, rfl, rfl, ok_here post sim (.int _)⟩
    | _ => rw [ea, eb] at post; exact False.elim post
  | str i =>
    cases eb : derefB st b with
    | str j =>
      rw [ea, eb] at post
      rw [str_atB ra ea] at rx
      rw [str_atB rb eb] at ry
      obtain ⟨hz, post⟩ := gd_ok post
      have q := ok_here post sim (.str _)
      rw [sv_append] at q
      exact op_add_str pins s σ H _ _ v u Q I rx ry ⟨_, _, rfl, rfl, by rw [sv_length, sv_length, ← line_eq]; exact hz, q⟩
    | _ => rw [ea, eb] at post; exact False.elim post
  | tup i =>
    cases eb : derefB st b with
    | tup j =>
      rw [ea, eb] at post
      obtain ⟨hz, post⟩ := gd_ok post
      obtain ⟨p, vs, rfl, h1, r1⟩ := tup_atB ra ea
      obtain ⟨p2, vs2, rfl, h2, r2⟩ := tup_atB rb eb
      have r := r1.append r2
      refine op_catA pins s σ H _ _ v u Q I rx ry ⟨p, p2, vs, vs2, rfl, rfl, h1, h2, by rw [r1.length, r2.length, ← line_eq]; exact hz, fun e => ?_, fun _ e => ?_, fun _ _ => ok_tup post sim r⟩
      · subst e; exact ok_here post sim (.tup h2 r)
      · subst e; rw [List.append_nil] at r; exact ok_here post sim (.tup h1 r)
    | _ => rw [ea, eb] at post; exact False.elim post
  | lst i =>
    cases eb : derefB st b with
    | lst j =>
      rw [ea, eb] at post
      obtain ⟨hz, post⟩ := gd_ok post
      obtain ⟨p, vs, rfl, h1, r1⟩ := list_atB sim ra ea
      obtain ⟨p2, vs2, rfl, h2, r2⟩ := list_atB sim rb eb
      exact cat_lists pins s σ H _ _ v u Q I rx ry ⟨p, p2, vs, vs2, rfl, rfl, h1, h2, by rw [r1.length, r2.length, ← line_eq]; exact hz, ok_lst post sim (r1.append r2)⟩
    | _ => rw [ea, eb] at post; exact False.elim post
  | _ => rw [ea] at post; exact False.elim post
theorem sm_log {i : Int} (h : Sm i) : i.natAbs.log2 < 8001 := by
  by_cases h0 : i.natAbs = 0
  · rw [h0]; decide
  · exact Nat.lt_succ_of_lt ((Nat.log2_lt h0).mpr h)
/-- a rule on two ints -/
theorem intOp {op : Operator} {C : Int → Int → Prop} {g : Int → Int → Int} (ho : OpR X (binaryOp op) (rI C fun i j => .int (g i j)))
    (hb : ∀ φ H a b st Q, PostV X.K φ H (binop op a b st) Q → ∃ i j, a = .int i ∧ b = .int j ∧ C i j ∧ PostV X.K φ H (.ok (.int (g i j)) st) Q) : OpR X (binaryOp op) (rB X.K op) := by
  rintro pins s σ H x y v u Q I rx ry ⟨φ, st, a, b, sim, ra, rb, post⟩
  obtain ⟨i, j, rfl, rfl, c, post⟩ := hb _ _ _ _ _ _ post
  rw [ra.int_inv] at rx
  rw [rb.int_inv] at ry
  exact ho pins s σ H _ _ v u Q I rx ry ⟨i, j, rfl, rfl, c, ok_here post sim (.int _)⟩
theorem ints_of {α : Type} {f : Int → Int → Res α} {a b : D} {P : Res α → Prop} (h : P (match a, b with | .int i, .int j => f i j | _, _ => .err)) (he : ¬ P .err) : ∃ i j, a = .int i ∧ b = .int j ∧ P (f i j) := by
  cases a with
  | int i =>
    cases b with
    | int j => exact ⟨i, j, rfl, rfl, h⟩
    | _ => exact absurd h he
  | _ => exact absurd h he
theorem opSub : OpR X (binaryOp .Sub) (rB X.K .Sub) :=
  intOp (C := fun _ _ => True) (g := fun i j => i - j) (opI fun _ _ _ _ _ _ _ _ q => sub_int q) fun φ H a b st Q post => by
    obtain ⟨i, j, e1, e2, post⟩ := ints_of (P := fun r => PostV X.K φ H r Q) post id
    exact ⟨i, j, e1, e2, trivial, post⟩
theorem opDiv : OpR X (binaryOp .FloorDiv) (rB X.K .FloorDiv) :=
  intOp (C := fun _ j => j ≠ 0 ∧ Sm j) (g := idiv) (opI fun i j _ _ _ _ _ hc q => by
    refine floordiv_int hc.1 ?_ (.inl (PyProof.noPylong_of_log2 (Nat.lt_trans (sm_log hc.2) (by decide))))
    unfold idiv at q
    by_cases h : 0 < j
    · rw [if_pos h] at q; rw [Int.fdiv_eq_ediv_of_nonneg i (Int.le_of_lt h)]; exact q
    · rw [if_neg h] at q; exact q) fun φ H a b st Q post => by
    obtain ⟨i, j, e1, e2, post⟩ := ints_of (P := fun r => PostV X.K φ H r Q) post id
    obtain ⟨c, post⟩ := gd_ok post
    exact ⟨i, j, e1, e2, c, post⟩
theorem opMod : OpR X (binaryOp .Mod) (rB X.K .Mod) :=
  intOp (C := fun _ j => j ≠ 0) (g := imod) (opI fun i j _ _ _ _ _ hc q => by
    refine mod_int' hc ?_
    unfold imod at q
    by_cases h : 0 < j
    · rw [if_pos h] at q; rw [Int.fmod_eq_emod_of_nonneg i (Int.le_of_lt h)]; exact q
    · rw [if_neg h] at q; exact q) fun φ H a b st Q post => by
    obtain ⟨i, j, e1, e2, post⟩ := ints_of (P := fun r => PostV X.K φ H r Q) post id
    obtain ⟨c, post⟩ := gd_ok post
    exact ⟨i, j, e1, e2, c, post⟩
theorem opPow : OpR X (binaryOp .Pow) (rB X.K .Pow) :=
  intOp (C := CPow) (g := fun i j => i ^ j.toNat) op_pow fun φ H a b st Q post => by
    obtain ⟨i, j, e1, e2, post⟩ := ints_of (P := fun r => PostV X.K φ H r Q) post id
    obtain ⟨c, post⟩ := gd_ok post
    exact ⟨i, j, e1, e2, ⟨c.1, by omega, c.2.2⟩, post⟩
theorem opShl : OpR X (binaryOp .LShift) (rB X.K .LShift) :=
  intOp (C := CShl) (g := fun i j => i * 2 ^ j.toNat) op_shlW fun φ H a b st Q post => by
    obtain ⟨i, j, e1, e2, post⟩ := ints_of (P := fun r => PostV X.K φ H r Q) post id
    obtain ⟨c, post⟩ := gd_ok post
    refine ⟨i, j, e1, e2, ?_, post⟩
    have h := shl_ok (i := i) (j := j.toNat) (n := 8000) c.2.2 (by omega)
    rw [Int.toNat_of_nonneg c.1] at h
    exact h
theorem opShr : OpR X (binaryOp .RShift) (rB X.K .RShift) :=
  intOp (C := fun _ j => 0 ≤ j) (g := fun i j => i / 2 ^ j.toNat) op_shr fun φ H a b st Q post => by
    obtain ⟨i, j, e1, e2, post⟩ := ints_of (P := fun r => PostV X.K φ H r Q) post id
    obtain ⟨c, post⟩ := gd_ok post
    exact ⟨i, j, e1, e2, c, post⟩
theorem opAnd : OpR X (binaryOp .BitAnd) (rB X.K .BitAnd) :=
  intOp (C := fun _ _ => True) (g := Builtin.bitAnd) (opI fun _ _ _ _ _ _ _ _ q => and_int q) fun φ H a b st Q post => by
    obtain ⟨i, j, e1, e2, post⟩ := ints_of (P := fun r => PostV X.K φ H r Q) post id
    exact ⟨i, j, e1, e2, trivial, post⟩
theorem opOr : OpR X (binaryOp .BitOr) (rB X.K .BitOr) :=
  intOp (C := fun _ _ => True) (g := Builtin.bitOr) (opI fun _ _ _ _ _ _ _ _ q => or_int q) fun φ H a b st Q post => by
    obtain ⟨i, j, e1, e2, post⟩ := ints_of (P := fun r => PostV X.K φ H r Q) post id
    exact ⟨i, j, e1, e2, trivial, post⟩
theorem opXor : OpR X (binaryOp .BitXor) (rB X.K .BitXor) :=
  intOp (C := fun _ _ => True) (g := Builtin.bitXor) (opI fun _ _ _ _ _ _ _ _ q => xor_int q) fun φ H a b st Q post => by
    obtain ⟨i, j, e1, e2, post⟩ := ints_of (P := fun r => PostV X.K φ H r Q) post id
    exact ⟨i, j, e1, e2, trivial, post⟩
end
end PC
end
section
set_option Elab.async false
set_option linter.all false
set_option autoImplicit false
set_option maxRecDepth 100000
set_option maxHeartbeats 1000000
namespace PC
open PySem L2 PyProof.Rows
section
variable {X : Cx}
theorem sv_reps (a : List Nat) (m : Nat) : (⟨(List.replicate m (sv a).cps).foldl (· ++ ·) #[]⟩ : Str) = sv (List.replicate m a).flatten := by
  have key : ∀ (m : Nat) (acc : List Nat), (List.replicate m a.toArray).foldl (· ++ ·) acc.toArray = (acc ++ (List.replicate m a).flatten).toArray := by
    intro m
    induction m with
    | zero => intro acc; simp
    | succ m ih =>
      intro acc
      rw [List.replicate_succ, List.foldl_cons, List.append_toArray, ih, List.replicate_succ, List.flatten_cons, List.append_assoc]
  have := key m []
  rw [List.nil_append] at this
  show (⟨(List.replicate m a.toArray).foldl (· ++ ·) #[]⟩ : Str) = ⟨(List.replicate m a).flatten.toArray⟩
  rw [← this]
theorem rep_lists : OpR X (binaryOp .Mult) (fun x y H Q => ∃ l k xs, x = .ref l ∧ y = .int k ∧ Rd H l (.lst xs) ∧ 0 ≤ k ∧ k ≤ sizeLine ∧ xs.length * k.toNat ≤ sizeLine ∧
    ∀ p, H p = none → Q (.ref p) (upd H p (.lst (List.replicate k.toNat xs).flatten))) := by
  rintro pins s σ H _ _ v u Q I rx ry ⟨l, k, xs, rfl, rfl, hH, h1, h2, hz, q⟩
  cases rx
  obtain ⟨t, rfl⟩ := ry
  obtain ⟨_, its, n, r, e⟩ := rdM I hH
  have hl := r.length
  have hsl : sizeLine = 16777216 := sizeLine_eq
  have h3 : its.toArray.size * k.toNat ≤ sizeLine := by
    rw [List.size_toArray, ← hl]; exact hz
  have h4 : ¬ its.toArray.size * k.toNat > (2 ^ 63 - 1) / 8 := by omega
  have hnew : List.foldl (fun x1 x2 => x1 ++ x2) #[]
      (List.replicate (if its.toArray.isEmpty = true then 0 else k.toNat) its.toArray) =
      (List.replicate k.toNat its).flatten.toArray := by
    have f0 : ∀ m : Nat, List.foldl (fun x1 x2 => x1 ++ x2) #[] (List.replicate m its.toArray) = (List.replicate m its).flatten.toArray := by
      intro m
      simpa using foldl_rep its m []
    cases its with
    | nil => simp
    | cons a b => rw [f0]; simp
  have hT : s.TypeIs (.ref l) "list" := ⟨_, e, rfl⟩
  refine wpAny_binaryOp_repeat_ref (T := "list") (U := "int") (by decide) hT (fun s' => typeIs_int s' k t)
    noFill_list_mul F.fills_int_mul F.slot_int_rmul repeat_list F.slot_int_index.lookup ?_
  refine call_meets F.slot_int_rmul (typeIs_int s k t) F.entry_int_rmul (F.args_int_rmul_2 _ _)
    (int___rmul___int_list k t l its.toArray n) ⟨e, rfl, hT, ?_⟩
  refine call_meets F.slot_list_mul hT F.entry_list_mul (F.args_list_mul_2 _ _)
    (AutoListH.list___mul___list_int_3 l its.toArray n k t
      (by simp [Builtin.List.listFitsIndex]; omega) h4 (by rw [notLongL h3]; exact Bool.false_ne_true)) ⟨e, ?_⟩
  rw [hnew]
  have J := I.lnew (t' := s.toks) (r.rep k.toNat) (by rw [PyProof.Rows.lm_len_rep_flat, Nat.mul_comm]; exact hz)
  exact ⟨V.ref _, _, J, rfl, q _ I.fresh⟩
theorem rep_strs : OpR X (binaryOp .Mult) (fun x y H Q => ∃ a k, x = .str (sv a) ∧ y = .int k ∧ 0 ≤ k ∧ k ≤ sizeLine ∧ a.length * k.toNat ≤ sizeLine ∧ Q (.str (sv (List.replicate k.toNat a).flatten)) H) := by
  rintro pins s σ H _ _ v u Q I rx ry ⟨a, k, rfl, rfl, h1, h2, hz, q⟩
  obtain ⟨t, rfl⟩ := rx
  obtain ⟨t', rfl⟩ := ry
  have hsl : sizeLine = 16777216 := sizeLine_eq
  have hlen : (sv a).length = a.length := sv_length a
  refine PySem.P.mul_str (by rw [decide_eq_false (by omega), decide_eq_false (by omega)]; rfl) (fun h3 h4 => ?_) (fun h3 h4 => ?_) ?_
  · rw [hlen]
    have h5 : k ≠ 1 ∧ a.length ≠ 0 := by
      simp only [Bool.or_eq_false_iff, beq_eq_false_iff_ne, hlen] at h4
      exact h4
    have : (a.length : Int) * k ≤ 16777216 := by
      have e : (a.length : Int) * k = ((a.length * k.toNat : Nat) : Int) := by
        rw [Int.natCast_mul, Int.toNat_of_nonneg h1]
      rw [e]; omega
    have hk : 0 < k := by omega
    rw [Int.not_lt]
    apply (Int.le_ediv_iff_mul_le hk).mpr
    omega
  · rw [hlen]
    show decide _ = false
    exact decide_eq_false (by omega)
  · by_cases h3 : k < 1
    · rw [if_pos h3]
      have hk0 : k = 0 := by omega
      subst hk0
      exact ⟨by decide, V.str _, H, I.tok _, ⟨_, rfl⟩, q⟩
    · rw [if_neg h3]
      by_cases h4 : (k == 1 || (sv a).length == 0) = true
      · rw [if_pos h4]
        refine ⟨V.str (sv a), H, I, ⟨_, rfl⟩, ?_⟩
        simp only [Bool.or_eq_true, beq_iff_eq, hlen] at h4
        rcases h4 with rfl | h4
        · simpa using q
        · have : a = [] := List.eq_nil_of_length_eq_zero h4
          subst this
          simpa using q
      · rw [if_neg h4]
        have e := sv_reps a k.toNat
        rw [e]
        refine ⟨?_, V.str _, H, I.tok _, ⟨_, rfl⟩, q⟩
        show _ ≤ _
        rw [sv_length, PyProof.Rows.lm_len_rep_flat, Nat.mul_comm]
        omega
theorem opMul : OpR X (binaryOp .Mult) (rB X.K .Mult) := by
  rintro pins s σ H x y v u Q I rx ry ⟨φ, st, a, b, sim, ra, rb, post⟩
  simp only [binop] at post
  cases ea : derefB st a with
  | int i =>
    cases b with
    | int j =>
      rw [ea] at post
      rw [int_atB ra ea] at rx
      rw [rb.int_inv] at ry
      obtain ⟨⟨c1, c2⟩, post⟩ := gd_ok post
      exact op_mulX pins s σ H _ _ v u Q I rx ry ⟨i, j, rfl, rfl, mulx_ok (a := 8000) (b := 8000) c1 c2 (by decide), ok_here post sim (.int _)⟩
    | _ => rw [ea] at post; exact False.elim post
  | str i =>
    cases b with
    | int j =>
      rw [ea] at post
      rw [str_atB ra ea] at rx
      rw [rb.int_inv] at ry
      obtain ⟨⟨c1, c2, c3⟩, post⟩ := gd_ok post
      rw [line_eq] at c1 c3
      exact rep_strs pins s σ H _ _ v u Q I rx ry ⟨i, j, rfl, rfl, c2, c3, c1, ok_here post sim (.str _)⟩
    | _ => rw [ea] at post; exact False.elim post
  | lst i =>
    cases b with
    | int j =>
      rw [ea] at post
      rw [rb.int_inv] at ry
      obtain ⟨⟨c1, c2, c3⟩, post⟩ := gd_ok post
      obtain ⟨p, vs, rfl, h1, r1⟩ := list_atB sim ra ea
      rw [line_eq] at c1 c3
      exact rep_lists pins s σ H _ _ v u Q I rx ry ⟨p, j, vs, rfl, rfl, h1, c2, c3, by rw [r1.length]; exact c1, ok_lst post sim (r1.replicate _)⟩
    | _ => rw [ea] at post; exact False.elim post
  | tup i =>
    cases b with
    | int j =>
      rw [ea] at post
      rw [rb.int_inv] at ry
      obtain ⟨⟨c0, c1, c2, c3⟩, post⟩ := gd_ok post
      obtain ⟨p, vs, rfl, h1, r1⟩ := tup_atB ra ea
      exact op_repT pins s σ H _ _ v u Q I rx ry ⟨p, j, vs, rfl, rfl, h1, fun e => c0 (by rw [← r1.length, e]; rfl), c2, c3, by rw [r1.length]; exact c1, ok_tup post sim (r1.replicate _)⟩
    | _ => rw [ea] at post; exact False.elim post
  | _ => rw [ea] at post; exact False.elim post
theorem opAny {op : Operator} : OpR X (binaryOp op) (rB X.K op) := by
  cases op with
  | Add => exact opAdd
  | Sub => exact opSub
  | Mult => exact opMul
  | FloorDiv => exact opDiv
  | Mod => exact opMod
  | Pow => exact opPow
  | LShift => exact opShl
  | RShift => exact opShr
  | BitAnd => exact opAnd
  | BitOr => exact opOr
  | BitXor => exact opXor
  | _ =>
    rintro pins s σ H x y v u Q I rx ry ⟨φ, st, a, b, sim, ra, rb, post⟩
    exact False.elim post

/-! ### comparisons -/
def rC (K : PySem.W.Frag) (op : CmpOp) : R2 := fun x y H Q => ∃ φ st a b, Sim K φ H st ∧ RepV K φ H x a ∧ RepV K φ H y b ∧ PostB K φ H (cmpB op a b st) Q
theorem okb_here {K : PySem.W.Frag} {φ : Wd} {H : Hp} {b : Bool} {st : Store} {Q : VK} (h : PostB K φ H (.ok b st) Q) (s : Sim K φ H st) : Q (.bl b) H := h φ H _ Ext.refl s rfl
mutual
theorem rep_dp {K : PySem.W.Frag} {φ : Wd} {H : Hp} : ∀ {v : V} {d : D}, RepV K φ H v d → plain d = true → Dp K H v (toPy d)
  | _, _, .non, _ => .non
  | _, _, .bl b, _ => .bl b
  | _, _, .int i, _ => .int i
  | _, _, .str s, _ => .str _
  | _, _, .tup a b, h => .tup a (rep_dps b h)
  | _, _, .lst a b, h => .lst a.sq (rep_dps b h)
  | _, _, .ref _, h => by cases h
  | _, _, .scr _ _, h => by cases h
theorem rep_dps {K : PySem.W.Frag} {φ : Wd} {H : Hp} : ∀ {vs : List V} {ds : List D}, RepVs K φ H vs ds → plains ds = true → DpAll K H vs (toPys ds)
  | _, _, .nil, _ => .nil
  | _, _, .cons a b, h => by
    simp only [plains, Bool.and_eq_true] at h
    exact .cons (rep_dp a h.1) (rep_dps b h.2)
end
mutual
theorem eqv_py : ∀ (a b : D), plain a = true → plain b = true → PyData.eqv (toPy a) (toPy b) = pyEq a b
  | .non, b, _, h => by cases b <;> first | rfl | (exact absurd h (by simp [plain]))
  | .bl x, b, _, h => by cases b <;> first | rfl | (exact absurd h (by simp [plain]))
  | .int x, b, _, h => by cases b <;> first | rfl | (exact absurd h (by simp [plain]))
  | .str x, b, _, h => by
    cases b with
    | str y =>
      simp only [toPy, PyData.eqv, pyEq]
      rw [Bool.eq_iff_iff]
      simp
    | ref _ => cases h
    | exc _ _ => cases h
    | scr _ => cases h
    | _ => rfl
  | .tup x, b, h', h => by
    cases b with
    | tup y =>
      simp only [toPy, PyData.eqv, pyEq]
      exact eqvs_py x y h' h
    | ref _ => cases h
    | exc _ _ => cases h
    | scr _ => cases h
    | _ => rfl
  | .lst x, b, h', h => by
    cases b with
    | lst y =>
      simp only [toPy, PyData.eqv, pyEq]
      exact eqvs_py x y h' h
    | ref _ => cases h
    | exc _ _ => cases h
    | scr _ => cases h
    | _ => rfl
  | .ref k, _, h, _ => by cases h
  | .exc c vs, _, h, _ => by cases h
  | .scr _, _, h, _ => by cases h
theorem eqvs_py : ∀ (a b : List D), plains a = true → plains b = true → PyData.eqvAll (toPys a) (toPys b) = pyEqs a b
  | [], [], _, _ => rfl
  | [], _ :: _, _, _ => rfl
  | _ :: _, [], _, _ => rfl
  | a :: as, b :: bs, h, h' => by
    simp only [plains, Bool.and_eq_true] at h h'
    simp only [toPys, PyData.eqvAll, pyEqs, eqv_py a b h.1 h'.1, eqvs_py as bs h.2 h'.2]
end
theorem dp_deref {K : PySem.W.Frag} {φ : Wd} {H : Hp} {st : Store} {v : V} {d : D} (s : Sim K φ H st) (r : RepV K φ H v d) (h : plain (deref st d) = true) : Dp K H v (toPy (deref st d)) := by
  by_cases e : ∃ xs, deref st d = .lst xs
  · obtain ⟨xs, e⟩ := e
    obtain ⟨p, vs, rfl, h1, h2⟩ := list_at s r e
    rw [e] at h ⊢
    exact .lst h1 (rep_dps h2 h)
  · rw [deref_flat (fun xs q => e ⟨xs, q⟩)] at h ⊢
    exact rep_dp r h
theorem shp_iff {d : D} (h : shp d = true) : plain d = true ∧ SeqAt.shaped (toPy d) = true := by
  unfold shp at h
  rwa [Bool.and_eq_true] at h
theorem cmpEq (hu : X.A.units + 65 < cLine) : OpR X (compareOp .Eq) (rC X.K .Eq) := by
  rintro pins s σ H x y v u Q I rx ry ⟨φ, st, a, b, sim, ra, rb, post⟩
  obtain ⟨⟨h1, h2⟩, post⟩ := gd_ok post
  obtain ⟨p1, q1⟩ := shp_iff h1
  obtain ⟨p2, q2⟩ := shp_iff h2
  refine op_eqD (by omega) pins s σ H x y v u Q I rx ry ⟨_, _, dp_deref sim ra p1, dp_deref sim rb p2, q1, q2, ?_⟩
  rw [eqv_py _ _ p1 p2]
  exact okb_here post sim
theorem cmpNe (hu : X.A.units + 65 < cLine) : OpR X (compareOp .NotEq) (rC X.K .NotEq) := by
  rintro pins s σ H x y v u Q I rx ry ⟨φ, st, a, b, sim, ra, rb, post⟩
  simp only [cmpB, eqD, gd] at post
  split at post
  · rename_i hh
    obtain ⟨h1, h2⟩ := hh
    obtain ⟨p1, q1⟩ := shp_iff h1
    obtain ⟨p2, q2⟩ := shp_iff h2
    refine op_neD (by omega) pins s σ H x y v u Q I rx ry ⟨_, _, dp_deref sim ra p1, dp_deref sim rb p2, q1, q2, ?_⟩
    rw [eqv_py _ _ p1 p2]
    exact okb_here post sim
  · exact False.elim post
theorem cmpInt {op : CmpOp} {f : Int → Int → Bool} (ho : OpR X (compareOp op) (rI0 fun i j => .bl (f i j))) (hb : ∀ a b st, cmpB op a b st = cmpI st f a b) : OpR X (compareOp op) (rC X.K op) := by
  rintro pins s σ H x y v u Q I rx ry ⟨φ, st, a, b, sim, ra, rb, post⟩
  rw [hb] at post
  cases a with
  | int i =>
    cases b with
    | int j =>
      rw [ra.int_inv] at rx
      rw [rb.int_inv] at ry
      exact ho pins s σ H _ _ v u Q I rx ry ⟨i, j, rfl, rfl, okb_here post sim⟩
    | _ => exact False.elim post
  | _ => exact False.elim post
theorem anyEqv (ds : List D) (x : D) (hx : plain x = true) (hd : plains ds = true) : ((toPys ds).any fun z => PyData.eqv z (toPy x)) = ds.any fun z => pyEq z x := by
  induction ds with
  | nil => rfl
  | cons a as ih =>
    simp only [plains, Bool.and_eq_true] at hd
    simp only [toPys, List.any_cons, eqv_py a x hd.1 hx, ih hd.2]
theorem shaped_lt {d : D} (h : SeqAt.shaped (toPy d) = true) : (toPy d).depth ≤ 64 := SeqAt.depth_of_shaped h
theorem inRun (hu : X.A.units + 65 < cLine) (neg : Bool) : OpR X (compareOp (if neg then .NotIn else .In)) (fun x y H Q => ∃ φ st a b, Sim X.K φ H st ∧ RepV X.K φ H x a ∧ RepV X.K φ H y b ∧ PostB X.K φ H ((inD st a b).bind fun b st => .ok (neg ^^ b) st) Q) := by
  rintro pins s σ H x y v u Q I rx ry ⟨φ, st, a, b, sim, ra, rb, post⟩
  have seq : ∀ (ys : List D) (isT : Bool), shp a = true → shp (.lst ys) = true → Dp X.K H y (if isT then .tuple (toPys ys) else .list (toPys ys)) → Q (.bl (neg ^^ (ys.any fun z => pyEq z a))) H →
      wpAny (model X.prog X.w) X.A (compareOp (if neg then .NotIn else .In) v u) (EP X pins σ Q) X.xe s := by
    intro ys isT h1 h2 hd q
    obtain ⟨p1, q1⟩ := shp_iff h1
    obtain ⟨p2, q2⟩ := shp_iff h2
    have hys : PyData.canLayAll0 (toPys ys) = true := SeqAt.canLay_of_shaped q2
    obtain ⟨as, r1⟩ := Dp.reads I _ x v (rep_dp ra p1) rx
    obtain ⟨bs, r2⟩ := Dp.reads I _ y u hd ry
    have room : X.A.units + 1 + min (PyData.depthAll (toPys ys)) (toPy a).depth < cLine := by
      have := SeqAt.depth_of_shaped q1
      omega
    rw [← anyEqv ys a p1 p2] at q
    cases isT with
    | true =>
      cases neg with
      | true => exact SeqAt.notIn_tuple_reads r2 r1 hys (SeqAt.canLay_of_shaped q1) room ⟨V.bl _, H, I, rfl, by simpa using q⟩
      | false => exact SeqAt.in_tuple_reads r2 r1 hys (SeqAt.canLay_of_shaped q1) room ⟨V.bl _, H, I, rfl, by simpa using q⟩
    | false =>
      cases neg with
      | true => exact SeqAt.notIn_list_reads r2 r1 hys (SeqAt.canLay_of_shaped q1) room ⟨V.bl _, H, I, rfl, by simpa using q⟩
      | false => exact SeqAt.in_list_reads r2 r1 hys (SeqAt.canLay_of_shaped q1) room ⟨V.bl _, H, I, rfl, by simpa using q⟩
  cases b with
  | str z =>
    cases a with
    | str c =>
      have q := okb_here post sim
      rw [ra.str_inv] at rx
      rw [rb.str_inv] at ry
      obtain ⟨t, rfl⟩ := rx
      obtain ⟨t', rfl⟩ := ry
      have e : subS c z = !(Builtin.Str.occurrences (sv z) (sv c) 0 (sv z).length 1).isEmpty := by rw [sv_length]; rfl
      rw [e] at q
      cases neg with
      | true => exact notIn_str ⟨V.bl _, H, I, rfl, by simpa using q⟩
      | false => exact in_str ⟨V.bl _, H, I, rfl, by simpa using q⟩
    | _ => exact False.elim post
  | tup ys =>
    simp only [inD, gd] at post
    split at post
    · rename_i hh
      refine seq ys true hh.1 hh.2 ?_ (okb_here post sim)
      have := (shp_iff hh.2).1
      exact rep_dp rb this
    · exact False.elim post
  | lst ys =>
    simp only [inD, gd] at post
    split at post
    · rename_i hh
      exact seq ys false hh.1 hh.2 (rep_dp rb (shp_iff hh.2).1) (okb_here post sim)
    · exact False.elim post
  | ref k =>
    simp only [inD] at post
    split at post
    · rename_i ys e
      simp only [gd] at post
      split at post
      · rename_i hh
        have hd : deref st (.ref k) = .lst ys := by simp only [deref, e]
        have := dp_deref sim rb (by rw [hd]; exact (shp_iff hh.2).1)
        rw [hd] at this
        exact seq ys false hh.1 hh.2 this (okb_here post sim)
      · exact False.elim post
    · exact False.elim post
  | _ => exact False.elim post
theorem cmpIn (hu : X.A.units + 65 < cLine) : OpR X (compareOp .In) (rC X.K .In) := by
  rintro pins s σ H x y v u Q I rx ry ⟨φ, st, a, b, sim, ra, rb, post⟩
  refine inRun hu false pins s σ H x y v u Q I rx ry ⟨φ, st, a, b, sim, ra, rb, ?_⟩
  have e : ((inD st a b).bind fun b st => .ok (false ^^ b) st) = inD st a b := by cases inD st a b <;> simp
  rw [e]; exact post
theorem cmpNotIn (hu : X.A.units + 65 < cLine) : OpR X (compareOp .NotIn) (rC X.K .NotIn) := by
  rintro pins s σ H x y v u Q I rx ry ⟨φ, st, a, b, sim, ra, rb, post⟩
  refine inRun hu true pins s σ H x y v u Q I rx ry ⟨φ, st, a, b, sim, ra, rb, ?_⟩
  simp only [Bool.true_xor]
  exact post
theorem cmpIs : OpR X (compareOp .Is) (rC X.K .Is) := by
  rintro pins s σ H x y v u Q I rx ry ⟨φ, st, a, b, sim, ra, rb, post⟩
  cases b with
  | non =>
    have q := okb_here post sim
    rw [rb.non_inv] at ry
    refine op_isN pins s σ H x _ v u Q I rx ry ⟨rfl, ?_⟩
    cases ra <;> exact q
  | bl c =>
    have q := okb_here post sim
    rw [rb.bl_inv] at ry
    cases (show u = Value.bool c from ry)
    have other : (∀ d, a ≠ .bl d) → plainIs v (.bool c) = true → v ≠ .bool c → wpAny (model X.prog X.w) X.A (compareOp .Is v (.bool c)) (EP X pins σ Q) X.xe s := fun h h1 h2 => by
      refine wpAny_is_other h1 h2 ⟨V.bl false, H, I, rfl, ?_⟩
      cases a <;> first | exact q | exact absurd rfl (h _)
    cases ra with
    | bl d =>
      have q : Q (.bl (d == c)) H := q
      rw [show (d == c) = decide (d = c) by cases d <;> cases c <;> rfl] at q
      exact op_isBl pins s σ H _ (.bl c) v _ Q I rx rfl ⟨d, c, rfl, rfl, q⟩
    | non => cases rx; exact other (fun _ z => nomatch z) rfl (fun z => nomatch z)
    | int i => obtain ⟨t, rfl⟩ := rx; exact other (fun _ z => nomatch z) rfl (fun z => nomatch z)
    | str i => obtain ⟨t, rfl⟩ := rx; exact other (fun _ z => nomatch z) rfl (fun z => nomatch z)
    | tup _ _ => cases rx; exact other (fun _ z => nomatch z) rfl (fun z => nomatch z)
    | lst _ _ => cases rx; exact other (fun _ z => nomatch z) rfl (fun z => nomatch z)
    | scr _ _ => cases rx; exact other (fun _ z => nomatch z) rfl (fun z => nomatch z)
    | ref _ => cases rx; exact other (fun _ z => nomatch z) rfl (fun z => nomatch z)
  | _ => exact False.elim post
theorem cmpIsNot : OpR X (compareOp .IsNot) (rC X.K .IsNot) := by
  rintro pins s σ H x y v u Q I rx ry ⟨φ, st, a, b, sim, ra, rb, post⟩
  cases b with
  | non =>
    have q := okb_here post sim
    rw [rb.non_inv] at ry
    refine op_notN pins s σ H x _ v u Q I rx ry ⟨rfl, ?_⟩
    cases ra <;> exact q
  | bl c =>
    have q := okb_here post sim
    rw [rb.bl_inv] at ry
    cases (show u = Value.bool c from ry)
    have other : (∀ d, a ≠ .bl d) → plainIs v (.bool c) = true → v ≠ .bool c → wpAny (model X.prog X.w) X.A (compareOp .IsNot v (.bool c)) (EP X pins σ Q) X.xe s := fun h h1 h2 => by
      refine wpAny_isNot_other h1 h2 ⟨V.bl true, H, I, rfl, ?_⟩
      cases a <;> first | exact q | exact absurd rfl (h _)
    cases ra with
    | bl d =>
      have q : Q (.bl (!(d == c))) H := q
      rw [show (d == c) = decide (d = c) by cases d <;> cases c <;> rfl] at q
      exact op_notBl pins s σ H _ (.bl c) v _ Q I rx rfl ⟨d, c, rfl, rfl, q⟩
    | non => cases rx; exact other (fun _ z => nomatch z) rfl (fun z => nomatch z)
    | int i => obtain ⟨t, rfl⟩ := rx; exact other (fun _ z => nomatch z) rfl (fun z => nomatch z)
    | str i => obtain ⟨t, rfl⟩ := rx; exact other (fun _ z => nomatch z) rfl (fun z => nomatch z)
    | tup _ _ => cases rx; exact other (fun _ z => nomatch z) rfl (fun z => nomatch z)
    | lst _ _ => cases rx; exact other (fun _ z => nomatch z) rfl (fun z => nomatch z)
    | scr _ _ => cases rx; exact other (fun _ z => nomatch z) rfl (fun z => nomatch z)
    | ref _ => cases rx; exact other (fun _ z => nomatch z) rfl (fun z => nomatch z)
  | _ => exact False.elim post
theorem cmpAny (hu : X.A.units + 65 < cLine) {op : CmpOp} : OpR X (compareOp op) (rC X.K op) := by
  cases op with
  | Eq => exact cmpEq hu
  | NotEq => exact cmpNe hu
  | Lt => exact cmpInt op_lt fun _ _ _ => rfl
  | LtE => exact cmpInt op_le fun _ _ _ => rfl
  | Gt => exact cmpInt op_gt fun _ _ _ => rfl
  | GtE => exact cmpInt op_ge fun _ _ _ => rfl
  | Is => exact cmpIs
  | IsNot => exact cmpIsNot
  | In => exact cmpIn hu
  | NotIn => exact cmpNotIn hu
end
end PC
end
section
set_option Elab.async false
set_option linter.all false
set_option autoImplicit false
set_option maxRecDepth 100000
set_option maxHeartbeats 1000000
namespace PC
open PySem L2 PyProof.Rows
section
variable {X : Cx}
/-! ### places and slices -/
def rIx (K : PySem.W.Frag) : R2 := fun x y H Q => ∃ φ st a b, Sim K φ H st ∧ RepV K φ H x a ∧ RepV K φ H y b ∧ PostV K φ H (idxD st a b) Q
theorem atI_rep {K : PySem.W.Frag} {φ : Wd} {H : Hp} {vs : List V} {ds : List D} {i : Int} {d : D} (r : RepVs K φ H vs ds) (h : atI ds i = some d) : ∃ v, atI vs i = some v ∧ RepV K φ H v d := by
  unfold atI at h ⊢
  rw [r.length]
  cases e : ixN ds.length i with
  | none => rw [e] at h; cases h
  | some j => rw [e] at h; exact r.get h
theorem ixAny : IxR X (rIx X.K) := by
  rintro value slice pins s σ H x y v u Q I rx ry ⟨φ, st, a, b, sim, ra, rb, post⟩ hs
  have seqL : ∀ (xs : List D) (i : Int) (p : Addr) (vs : List V), x = .ref p → SqL X.K H p vs → RepVs X.K φ H vs xs → b = .int i →
      PostV X.K φ H (match atI xs i with | some d => .ok d st | none => .err) Q → wpAny (model X.prog X.w) X.A (subscriptTail value slice v u) (EP X pins σ Q) X.xe s := by
    intro xs i p vs ex h1 h2 eb post1
    subst ex eb
    rw [rb.int_inv] at ry
    cases e : atI xs i with
    | none => rw [e] at post1; exact False.elim post1
    | some d =>
      rw [e] at post1
      obtain ⟨w, hw, rw'⟩ := atI_rep h2 e
      exact ix_list value slice pins s σ H _ _ v u Q I rx ry ⟨p, vs, i, w, rfl, rfl, h1, hw, ok_here post1 sim rw'⟩ hs
  cases a with
  | str z =>
    cases b with
    | int i =>
      obtain ⟨⟨hz, h0⟩, post⟩ := gd_ok post
      rw [ra.str_inv] at rx
      rw [rb.int_inv] at ry
      obtain ⟨t, rfl⟩ := rx
      obtain ⟨t', rfl⟩ := ry
      cases e : z[i.toNat]? with
      | none => rw [e] at post; exact False.elim post
      | some c =>
        rw [e] at post
        have hlt : i.toNat < z.length := (List.getElem?_eq_some_iff.mp e).1
        have hl : lineN = 16777216 := rfl
        have h1 : i < (sv z).length := by rw [sv_length]; omega
        have e3 : seqIndex? i (sv z).length = some i.toNat := PySem.StrLaws.seqIndex_nonneg h0 h1
        have hb1 : decide (i < -(2 ^ 63 : Int)) = false := decide_eq_false (by omega)
        have hb2 : decide (i ≥ 2 ^ 63) = false := decide_eq_false (by rw [sv_length] at h1; omega)
        refine tail_any (typeIs_str s (sv z) t) slot_str_getitem.lookup (getItem_str (c := c) (by rw [hb1, hb2]; rfl) ?_ ?_) hs
        · rw [e3]
          show (sv z).cps[i.toNat]? = some c
          show z.toArray[i.toNat]? = some c
          rw [List.getElem?_toArray]; exact e
        · exact ⟨V.str _, H, I.tok _, ⟨_, rfl⟩, ok_here post sim (.str [c])⟩
    | _ => exact False.elim post
  | lst xs =>
    cases b with
    | int i =>
      cases ra with
      | lst h1 h2 => exact seqL xs i _ _ rfl h1.sq h2 rfl post
    | _ => exact False.elim post
  | scr xs =>
    cases b with
    | int i =>
      cases ra with
      | scr h1 h2 => exact seqL xs i _ _ rfl h1.sq h2 rfl post
    | _ => exact False.elim post
  | tup xs =>
    cases b with
    | int i =>
      cases ra with
      | tup h1 h2 =>
        rw [rb.int_inv] at ry
        have post : PostV X.K φ H (match atI xs i with | some d => .ok d st | none => .err) Q := post
        cases e : atI xs i with
        | none => rw [e] at post; exact False.elim post
        | some d =>
          rw [e] at post
          obtain ⟨w, hw, rw'⟩ := atI_rep h2 e
          exact ix_tup value slice pins s σ H _ _ v u Q I rx ry ⟨_, _, i, w, rfl, rfl, h1, hw, ok_here post sim rw'⟩ hs
    | _ => exact False.elim post
  | ref k =>
    simp only [idxD] at post
    split at post
    · rename_i xs e
      obtain ⟨p, vs, ex, h1, h2⟩ := list_at sim ra (show deref st (.ref k) = .lst xs by simp only [deref, e])
      cases b with
      | int i => exact seqL xs i p vs ex h1 h2 rfl post
      | _ => exact False.elim post
    · exact False.elim post
  | _ => exact False.elim post
def rSl (K : PySem.W.Frag) : V → Option Int → Option Int → Hp → VK → Prop := fun x lo hi H Q => ∃ φ st a, Sim K φ H st ∧ RepV K φ H x a ∧ PostV K φ H (sliceD st a lo hi) Q
theorem cut_rep {K : PySem.W.Frag} {φ : Wd} {H : Hp} {vs : List V} {ds : List D} {lo hi : Option Int} (r : RepVs K φ H vs ds) : RepVs K φ H (cutV vs lo hi) (cut ds lo hi) := by
  unfold cutV cut
  rw [r.length]
  exact (r.drop _).take _
theorem slAny : SlR X (rSl X.K) := by
  rintro pins s σ H x v vl vu lo hi sl Q I rx hs pl pu ⟨φ, st, a, sim, ra, post⟩
  simp only [sliceD] at post
  cases ea : deref st a with
  | str z =>
    rw [ea] at post
    obtain ⟨hz, post⟩ := gd_ok post
    rw [str_at ra ea] at rx
    have q := ok_here post sim (.str _)
    refine sl_str pins s σ H _ v vl vu lo hi sl Q I rx hs pl pu ⟨sv z, rfl, by rw [sv_length, ← line_eq]; exact hz, ?_⟩
    have e : cutS (sv z) lo hi = sv (cut z lo hi) := by
      unfold cutS cut
      rw [sv_length]
      rfl
    rw [e]; exact q
  | lst z =>
    rw [ea] at post
    obtain ⟨p, vs, rfl, h1, h2⟩ := list_at sim ra ea
    exact sl_list pins s σ H _ v vl vu lo hi sl Q I rx hs pl pu ⟨p, vs, rfl, h1, ok_lst post sim (cut_rep h2)⟩
  | tup z =>
    rw [ea] at post
    have post : PostV X.K φ H (.ok (.tup (cut z lo hi)) st) Q := post
    obtain ⟨p, vs, rfl, h1, h2⟩ := tup_at ra ea
    refine sl_tupA pins s σ H _ v vl vu lo hi sl Q I rx hs pl pu ⟨p, vs, rfl, h1, fun e => ?_, fun _ => ok_tup post sim (cut_rep h2)⟩
    have e2 : cut z lo hi = z := by
      rw [h2.length] at e
      unfold cut
      rw [e.1, e.2]
      simp
    rw [e2] at post
    exact ok_here post sim (.tup h1 h2)
  | _ => rw [ea] at post; exact False.elim post

/-! ### built-ins -/
def bval : Blt → Value
  | .len => .builtin "len"
  | .abs => .builtin "abs"
  | .min => .builtin "min"
  | .max => .builtin "max"
  | .int => .type "int"
  | .str => .type "str"
  | .tuple => .type "tuple"
  | .list => .type "list"
  | .all => .builtin "all"
  | .sum => .builtin "sum"
  | .sorted => .builtin "sorted"
  | .repr => .builtin "repr"
  | .bool => .type "bool"
def rBl (K : PySem.W.Frag) (b : Blt) : List V → Hp → VK → Prop := fun xs H Q => ∃ φ st as, Sim K φ H st ∧ RepVs K φ H xs as ∧ PostV K φ H (blt b as st) Q
theorem rep1 {K : PySem.W.Frag} {φ : Wd} {H : Hp} {xs : List V} {d : D} (r : RepVs K φ H xs [d]) : ∃ v, xs = [v] ∧ RepV K φ H v d := by
  cases r with
  | cons a b => cases b; exact ⟨_, rfl, a⟩
theorem rep2 {K : PySem.W.Frag} {φ : Wd} {H : Hp} {xs : List V} {d e : D} (r : RepVs K φ H xs [d, e]) : ∃ v w, xs = [v, w] ∧ RepV K φ H v d ∧ RepV K φ H w e := by
  cases r with
  | cons a b =>
    obtain ⟨w, rfl, h⟩ := rep1 b
    exact ⟨_, w, rfl, a, h⟩
theorem arg1 {b : Blt} {as : List D} {st : Store} {P : Res D → Prop} (h : P (blt b as st)) (he : ¬ P .err) (hb : ∀ d e, blt2 b d e st = .err) : ∃ d, as = [d] := by
  match as, h with
  | [d], _ => exact ⟨d, rfl⟩
  | [], h => exact absurd h he
  | [x, y], h =>
    have h : P (blt2 b x y st) := h
    rw [hb] at h
    exact absurd h he
  | _ :: _ :: _ :: _, h => exact absurd h he
theorem b2none {b : Blt} (h1 : b ≠ .min) (h2 : b ≠ .max) (d e : D) (st : Store) : blt2 b d e st = .err := by
  cases d <;> cases e <;> first | rfl | skip
  cases b <;> first | rfl | exact absurd rfl h1 | exact absurd rfl h2
theorem bLen : CallR X (.builtin "len") (rBl X.K .len) := by
  rintro pins s σ H xs us Q I r ⟨φ, st, as, sim, ra, post⟩
  obtain ⟨d, rfl⟩ := arg1 (P := fun r => PostV X.K φ H r Q) post id fun d e => b2none (b := .len) (by intro z; cases z) (by intro z; cases z) d e st
  have post : PostV X.K φ H (lenD st d) Q := post
  obtain ⟨v, rfl, rv⟩ := rep1 ra
  refine call_len pins s σ H _ us Q I r ?_
  cases rv with
  | str z =>
    obtain ⟨hz, post⟩ := gd_ok post
    refine ⟨_, z.length, rfl, ⟨by rw [sv_length, ← line_eq]; exact hz, (sv_length z).symm⟩, ok_here post sim (.int _)⟩
  | tup h1 h2 => exact ⟨_, _, rfl, .inr ⟨_, h1, rfl⟩, by rw [h2.length]; exact ok_here post sim (.int _)⟩
  | scr h1 h2 => exact ⟨_, _, rfl, .inl ⟨_, h1.sq, rfl⟩, by rw [h2.length]; exact ok_here post sim (.int _)⟩
  | lst h1 h2 => exact ⟨_, _, rfl, .inl ⟨_, h1.sq, rfl⟩, by rw [h2.length]; exact ok_here post sim (.int _)⟩
  | @ref p k hk =>
    simp only [lenD] at post
    split at post
    · rename_i ys e
      obtain ⟨p', vs, ex, h1, h2⟩ := list_at sim (.ref hk) (show deref st (.ref k) = .lst ys by simp only [deref, e])
      cases ex
      exact ⟨_, _, rfl, .inl ⟨_, h1, rfl⟩, by rw [h2.length]; exact ok_here post sim (.int _)⟩
    · exact False.elim post
  | _ => exact False.elim post
theorem items_at {K : PySem.W.Frag} {φ : Wd} {H : Hp} {st : Store} {v : V} {d : D} {ds : List D} (s : Sim K φ H st) (r : RepV K φ H v d) (e : items st d = some ds) : ∃ p vs, v = .ref p ∧ (SqL K H p vs ∨ SqT K H p vs) ∧ RepVs K φ H vs ds := by
  unfold items at e
  cases ed : deref st d with
  | lst xs =>
    rw [ed] at e; cases e
    obtain ⟨p, vs, h, h1, h2⟩ := list_at s r ed
    exact ⟨p, vs, h, .inl h1, h2⟩
  | tup xs =>
    rw [ed] at e; cases e
    obtain ⟨p, vs, h, h1, h2⟩ := tup_at r ed
    exact ⟨p, vs, h, .inr h1, h2⟩
  | _ => rw [ed] at e; cases e
theorem insI_perm (x : Int) : ∀ l : List Int, (insI x l).Perm (x :: l)
  | [] => List.Perm.refl _
  | y :: r => by
    unfold insI
    split
    · exact List.Perm.refl _
    · exact ((insI_perm x r).cons y).trans (List.Perm.swap x y r)
theorem sortI_perm : ∀ l : List Int, (sortI l).Perm l
  | [] => List.Perm.refl _
  | x :: r => (insI_perm x _).trans ((sortI_perm r).cons x)
theorem insI_sorted (x : Int) : ∀ l : List Int, l.Pairwise (· ≤ ·) → (insI x l).Pairwise (· ≤ ·)
  | [], _ => by simp [insI]
  | y :: r, h => by
    unfold insI
    rw [List.pairwise_cons] at h
    split
    · rename_i hxy
      refine List.pairwise_cons.mpr ⟨fun z hz => ?_, List.pairwise_cons.mpr h⟩
      rcases List.mem_cons.mp hz with rfl | hz
      · exact hxy
      · exact Int.le_trans hxy (h.1 z hz)
    · rename_i hxy
      refine List.pairwise_cons.mpr ⟨fun z hz => ?_, insI_sorted x r h.2⟩
      rcases List.mem_cons.mp ((insI_perm x r).mem_iff.mp hz) with rfl | hz
      · omega
      · exact h.1 z hz
theorem sortI_sorted : ∀ l : List Int, (sortI l).Pairwise (· ≤ ·)
  | [] => List.Pairwise.nil
  | x :: r => insI_sorted x _ (sortI_sorted r)
theorem int_sorted_uniq {l m : List Int} (hp : l.Perm m) (h1 : l.Pairwise (· ≤ ·)) (h2 : m.Pairwise (· ≤ ·)) : l = m :=
  List.Perm.eq_of_pairwise (fun a b _ _ h h' => Int.le_antisymm h h') h1 h2 hp
def leP (p q : Int × Int) : Prop := p.1 < q.1 ∨ (p.1 = q.1 ∧ p.2 ≤ q.2)
theorem ltP_iff {p q : Int × Int} : ltP p q = true ↔ ¬ leP q p := by
  unfold ltP leP
  simp only [Bool.or_eq_true, Bool.and_eq_true, beq_iff_eq, decide_eq_true_eq]
  omega
theorem insP_perm (x : Int × Int) : ∀ l : List (Int × Int), (insP x l).Perm (x :: l)
  | [] => List.Perm.refl _
  | y :: r => by
    unfold insP
    split
    · exact ((insP_perm x r).cons y).trans (List.Perm.swap x y r)
    · exact List.Perm.refl _
theorem sortP_perm : ∀ l : List (Int × Int), (sortP l).Perm l
  | [] => List.Perm.refl _
  | x :: r => (insP_perm x _).trans ((sortP_perm r).cons x)
theorem insP_sorted (x : Int × Int) : ∀ l : List (Int × Int), l.Pairwise leP → (insP x l).Pairwise leP
  | [], _ => by simp [insP]
  | y :: r, h => by
    unfold insP
    rw [List.pairwise_cons] at h
    split
    · rename_i hxy
      have hyx : leP y x := by
        have := ltP_iff.mp hxy
        unfold leP at this ⊢
        omega
      refine List.pairwise_cons.mpr ⟨fun z hz => ?_, insP_sorted x r h.2⟩
      rcases List.mem_cons.mp ((insP_perm x r).mem_iff.mp hz) with rfl | hz
      · exact hyx
      · exact h.1 z hz
    · rename_i hxy
      have hyx : leP x y := by
        have := mt ltP_iff.mpr hxy
        exact Classical.not_not.mp this
      refine List.pairwise_cons.mpr ⟨fun z hz => ?_, List.pairwise_cons.mpr h⟩
      rcases List.mem_cons.mp hz with rfl | hz
      · exact hyx
      · have := h.1 z hz
        unfold leP at *
        omega
theorem sortP_sorted : ∀ l : List (Int × Int), (sortP l).Pairwise leP
  | [] => List.Pairwise.nil
  | x :: r => insP_sorted x _ (sortP_sorted r)
theorem pair_sorted_uniq {l m : List (Int × Int)} (hp : l.Perm m) (h1 : l.Pairwise leP) (h2 : m.Pairwise leP) : l = m :=
  List.Perm.eq_of_pairwise (fun a b _ _ h h' => by
    unfold leP at h h'
    apply Prod.ext <;> omega) h1 h2 hp
end
end PC
end
section
set_option Elab.async false
set_option linter.all false
set_option autoImplicit false
set_option maxRecDepth 100000
set_option maxHeartbeats 1000000
namespace PC
open PySem L2 PyProof.Rows
section
variable {X : Cx}
theorem sv_strI (i : Int) : sv (strI i) = Str.ofString (toString i) := SX.S_tl _
theorem sm_1900 {i : Int} (h : i.natAbs < 2 ^ 1900) : i.natAbs.log2 < 1920 := by
  by_cases h0 : i.natAbs = 0
  · rw [h0]; decide
  · exact Nat.lt_trans ((Nat.log2_lt h0).mpr h) (by decide)
theorem toPairs_eq : ∀ {xs : List D} {ps : List (Int × Int)}, toPairs xs = some ps → xs = ps.map fun p => .tup [.int p.1, .int p.2]
  | [], ps, h => by
    simp only [toPairs, Option.some.injEq] at h
    subst h; rfl
  | x :: xs, ps, h => by
    unfold toPairs at h
    split at h
    · rename_i e; cases e
    · rename_i i j r e
      cases e
      cases e2 : toPairs xs with
      | none => rw [e2] at h; cases h
      | some qs => rw [e2] at h; cases h; rw [toPairs_eq e2]; rfl
    · cases h
abbrev tP (p : Int × Int) : D := .tup [.int p.1, .int p.2]
open Classical in
/-- the two ints of a pair -/
noncomputable def kP (K : PySem.W.Frag) (H : Hp) (v : V) : Int × Int :=
  if h : ∃ (t : Addr) (p : Int × Int), v = .ref t ∧ SqT K H t [.int p.1, .int p.2] then h.choose_spec.choose else (0, 0)
theorem kP_of {pins : List (Addr × Obj)} {s : Shared} {σ : L2.St} {H : Hp} (I : Inv X pins σ H s) {t : Addr} {p : Int × Int} (h : SqT X.K H t [.int p.1, .int p.2]) : kP X.K H (.ref t) = p := by
  have ex : ∃ (t' : Addr) (p : Int × Int), V.ref t = .ref t' ∧ SqT X.K H t' [.int p.1, .int p.2] := ⟨t, p, rfl, h⟩
  unfold kP
  rw [dif_pos ex]
  obtain ⟨e, h2⟩ := ex.choose_spec.choose_spec
  generalize ex.choose_spec.choose = q at h2
  generalize ex.choose = t' at e h2
  cases e
  have := I.tuple_inj h h2
  simp only [List.cons.injEq, V.int.injEq, and_true] at this
  exact Prod.ext this.1.symm this.2.symm
theorem pairs_rep {pins : List (Addr × Obj)} {s : Shared} {σ : L2.St} {φ : Wd} {H : Hp} (I : Inv X pins σ H s) : ∀ {vs : List V} {ps : List (Int × Int)}, RepVs X.K φ H vs (ps.map tP) →
    vs.map (kP X.K H) = ps ∧ ∀ v ∈ vs, ∃ (t : Addr), v = .ref t ∧ SqT X.K H t [.int (kP X.K H v).1, .int (kP X.K H v).2]
  | _, [], h => by cases h; exact ⟨rfl, fun v hv => by cases hv⟩
  | _, p :: ps, h => by
    cases h with
    | cons a b =>
      obtain ⟨e1, e2⟩ := pairs_rep I b
      cases a with
      | @tup t vs' _ h1 h2 =>
        obtain ⟨v1, v2, rfl, q1, q2⟩ := rep2 h2
        rw [q1.int_inv, q2.int_inv] at h1
        have hk := kP_of I h1
        refine ⟨by rw [List.map_cons, hk, e1], fun v hv => ?_⟩
        rcases List.mem_cons.mp hv with rfl | hv
        · exact ⟨t, rfl, by rw [hk]; exact h1⟩
        · exact e2 v hv
theorem rep_pairs {K : PySem.W.Frag} {φ : Wd} {H : Hp} : ∀ {ys : List V}, (∀ v ∈ ys, ∃ (t : Addr), v = .ref t ∧ SqT K H t [.int (kP K H v).1, .int (kP K H v).2]) → RepVs K φ H ys ((ys.map (kP K H)).map tP)
  | [], _ => .nil
  | y :: ys, h => by
    obtain ⟨t, e, hs⟩ := h y List.mem_cons_self
    refine .cons ?_ (rep_pairs fun v hv => h v (List.mem_cons_of_mem _ hv))
    rw [e] at hs ⊢
    exact .tup hs (.cons (.int _) (.cons (.int _) .nil))
theorem lexB_le {p q : Int × Int} (h : SrtO.lexB q p = false) : leP p q := by
  have := SrtO.lexB_no.mp h
  unfold leP
  omega
theorem sorted_pairs : CallR X (.builtin "sorted") (fun xs H Q => ∃ φ a vs ps, xs = [V.ref a] ∧ Rd H a (.lst vs) ∧ RepVs X.K φ H vs (ps.map tP) ∧
    ∀ ys p, RepVs X.K φ H ys ((sortP ps).map tP) → H p = none → Q (.ref p) (upd H p (.lst ys))) := by
  rintro pins s σ H _ us Q I r ⟨φ, a, vs, ps, rfl, hs, hr, q⟩
  obtain ⟨hz, its, n0, rv, hl⟩ := rdM I hs
  obtain ⟨u, rfl, ru⟩ := vals1 r
  cases ru
  obtain ⟨ek, hv⟩ := pairs_rep I hr
  obtain ⟨e1, e2⟩ := refs_back rv fun x m => let ⟨t, e, _⟩ := hv x m; ⟨t, e⟩
  refine SrtO.sorted_pairsO (k := fun u => kP X.K H (backV u)) ⟨_, hl, rfl, n0, rfl⟩ (by rw [← rv.length]; exact hz) (fun v hm => ?_) fun h' d out h1 h2 kp hd hn => ?_
  · obtain ⟨t, rfl⟩ := e2 v hm
    have hm' : V.ref t ∈ vs := by rw [e1]; exact List.mem_map.mpr ⟨_, hm, rfl⟩
    obtain ⟨t', e, ht⟩ := hv _ hm'
    cases e
    obtain ⟨its2, r2, ⟨o, ho, hc, n, hd⟩, _⟩ := I.tuple ht
    obtain ⟨u1, u2, rfl, ⟨t1, rfl⟩, ⟨t2, rfl⟩⟩ := vals2 r2
    exact ⟨t, o, t1, t2, n, rfl, ho, hc, hd⟩
  · obtain ⟨n, hn⟩ := hn
    have h3 : ∀ u ∈ out, ∃ a, u = Value.ref a := fun u hu => e2 u (h2.perm.mem_iff.mp hu)
    have hperm : (out.map backV).Perm vs := by rw [e1]; exact h2.perm.map backV
    have hlen : (out.map backV).length ≤ sizeLine := by rw [hperm.length_eq]; exact hz
    have hmem : ∀ v ∈ out.map backV, ∃ (t : Addr), v = .ref t ∧ SqT X.K H t [.int (kP X.K H v).1, .int (kP X.K H v).2] := fun v hm => hv v (hperm.mem_iff.mp hm)
    have hsort : (out.map backV).map (kP X.K H) = sortP ps := by
      refine pair_sorted_uniq ?_ ?_ (sortP_sorted ps)
      · refine (hperm.map _).trans ?_
        rw [ek]; exact (sortP_perm ps).symm
      · rw [List.map_map, List.pairwise_map]
        exact List.Pairwise.imp (fun h => lexB_le h) h1
    have hrep := rep_pairs (φ := φ) hmem
    rw [hsort] at hrep
    have J := I.laid (t' := s.toks) (o := .lst (out.map backV)) kp hd ⟨hlen, out, n, vals_back h3, hn⟩
    exact ⟨V.ref d, _, J, rfl, q _ d hrep (I.hok.fresh hd)⟩
theorem bOne {b : Blt} {f : Value} (h1 : b ≠ .min) (h2 : b ≠ .max) (h : ∀ pins s σ H v u Q φ st d, Inv X pins σ H s → RelV v u → Sim X.K φ H st → RepV X.K φ H v d → PostV X.K φ H (blt1 b d st) Q → wpAny (model X.prog X.w) X.A (PySem.call f [u]) (EP X pins σ Q) X.xe s) :
    CallR X f (rBl X.K b) := by
  rintro pins s σ H xs us Q I r ⟨φ, st, as, sim, ra, post⟩
  obtain ⟨d, rfl⟩ := arg1 (P := fun r => PostV X.K φ H r Q) post id fun d e => b2none h1 h2 d e st
  obtain ⟨v, rfl, rv⟩ := rep1 ra
  obtain ⟨u, rfl, ru⟩ := vals1 r
  exact h pins s σ H v u Q φ st d I ru sim rv post
theorem v1 {v : V} {u : Value} (r : RelV v u) : Vals [v] [u] := .cons r .nil
theorem bAbs : CallR X (.builtin "abs") (rBl X.K .abs) := bOne (by intro z; cases z) (by intro z; cases z) fun pins s σ H v u Q φ st d I ru sim rv post => by
  cases rv with
  | int i => exact call_abs pins s σ H _ _ Q I (v1 ru) ⟨i, rfl, ok_here post sim (.int _)⟩
  | _ => exact False.elim post
theorem bInt : CallR X (.type "int") (rBl X.K .int) := bOne (by intro z; cases z) (by intro z; cases z) fun pins s σ H v u Q φ st d I ru sim rv post => by
  cases rv with
  | int i => exact call_int1 pins s σ H _ _ Q I (v1 ru) (.inl ⟨i, rfl, ok_here post sim (.int _)⟩)
  | bl i => exact call_int1 pins s σ H _ _ Q I (v1 ru) (.inr ⟨i, rfl, ok_here post sim (.int _)⟩)
  | str z =>
    obtain ⟨⟨h1, h2, h3⟩, post⟩ := gd_ok post
    refine call_int_str pins s σ H _ _ Q I (v1 ru) ⟨sv z, _, rfl, SX.int_S (a := z) h3 (fun e => h1 (by rw [e]; rfl)) (by omega), by rw [sv_length]; exact h2, ok_here post sim (.int _)⟩
  | _ => exact False.elim post
theorem bStr : CallR X (.type "str") (rBl X.K .str) := bOne (by intro z; cases z) (by intro z; cases z) fun pins s σ H v u Q φ st d I ru sim rv post => by
  cases rv with
  | int i =>
    obtain ⟨h1, post⟩ := gd_ok post
    have q := ok_here post sim (.str _)
    rw [sv_strI] at q
    exact call_str_int pins s σ H _ _ Q I (v1 ru) ⟨i, rfl, sm_1900 h1, q⟩
  | _ => exact False.elim post
theorem bBool : CallR X (.type "bool") (rBl X.K .bool) := bOne (by intro z; cases z) (by intro z; cases z) fun pins s σ H v u Q φ st d I ru sim rv post => by
  cases rv with
  | int i => exact call_bool1 pins s σ H _ _ Q I (v1 ru) (.inl ⟨i, rfl, ok_here post sim (.bl _)⟩)
  | bl i => exact call_bool1 pins s σ H _ _ Q I (v1 ru) (.inr ⟨i, rfl, ok_here post sim (.bl _)⟩)
  | _ => exact False.elim post
theorem bTuple : CallR X (.type "tuple") (rBl X.K .tuple) := bOne (by intro z; cases z) (by intro z; cases z) fun pins s σ H v u Q φ st d I ru sim rv post => by
  simp only [blt1] at post
  split at post
  · rename_i xs e
    obtain ⟨p, vs, rfl, h, r⟩ := items_at sim rv e
    refine call_tuple_of pins s σ H _ _ Q I (v1 ru) ⟨p, vs, rfl, ?_⟩
    rcases h with h | h
    · exact .inl ⟨h, ok_tup post sim r⟩
    · exact .inr ⟨h, ok_here post sim (.tup h r)⟩
  · exact False.elim post
theorem bList : CallR X (.type "list") (rBl X.K .list) := bOne (by intro z; cases z) (by intro z; cases z) fun pins s σ H v u Q φ st d I ru sim rv post => by
  simp only [blt1] at post
  split at post
  · rename_i xs e
    obtain ⟨p, vs, rfl, h, r⟩ := items_at sim rv e
    refine call_list_of pins s σ H _ _ Q I (v1 ru) ⟨p, vs, rfl, ?_, ok_lst post sim r⟩
    rcases h with h | h
    · exact .inl h
    · exact .inr h
  · exact False.elim post
theorem bAll (hc : X.calm = true) : CallR X (.builtin "all") (rBl X.K .all) := bOne (by intro z; cases z) (by intro z; cases z) fun pins s σ H v u Q φ st d I ru sim rv post => by
  simp only [blt1] at post
  split at post
  · rename_i xs e
    split at post
    · rename_i bs eb
      rw [toBools_eq eb] at e
      obtain ⟨p, vs, rfl, h, r⟩ := list_at sim rv e
      rw [r.ofBools] at h
      exact cr_all hc pins s σ H _ _ Q I (v1 ru) ⟨p, bs, rfl, h, ok_here post sim (.bl _)⟩
    · exact False.elim post
  · exact False.elim post
theorem bSum (hc : X.calm = true) : CallR X (.builtin "sum") (rBl X.K .sum) := bOne (by intro z; cases z) (by intro z; cases z) fun pins s σ H v u Q φ st d I ru sim rv post => by
  simp only [blt1] at post
  split at post
  · rename_i xs e
    split at post
    · rename_i bs eb
      rw [toInts_eq eb] at e
      obtain ⟨p, vs, rfl, h, r⟩ := list_at sim rv e
      rw [r.ofInts] at h
      exact cr_sum hc pins s σ H _ _ Q I (v1 ru) ⟨p, bs, rfl, h, ok_here post sim (.int _)⟩
    · exact False.elim post
  · exact False.elim post
theorem bSorted : CallR X (.builtin "sorted") (rBl X.K .sorted) := bOne (by intro z; cases z) (by intro z; cases z) fun pins s σ H v u Q φ st d I ru sim rv post => by
  simp only [blt1] at post
  split at post
  · rename_i xs e
    simp only [sortD] at post
    split at post
    · rename_i is eb
      rw [toInts_eq eb] at e
      obtain ⟨p, vs, rfl, h, r⟩ := list_atB sim rv e
      rw [r.ofInts] at h
      refine cr_sortedI pins s σ H _ _ Q I (v1 ru) ⟨p, is, rfl, .inl h, fun ns' p' hp hs hn => ?_⟩
      have := int_sorted_uniq (hp.trans (sortI_perm is).symm) hs (sortI_sorted is)
      subst this
      exact ok_lst post sim (RepVs.ints _) p' hn
    · split at post
      · rename_i ps ep
        rw [toPairs_eq ep] at e
        obtain ⟨p, vs, rfl, h, r⟩ := list_atB sim rv e
        exact sorted_pairs pins s σ H _ _ Q I (v1 ru) ⟨φ, p, vs, ps, rfl, h, r, fun ys p' hr hn => ok_lst post sim hr p' hn⟩
      · exact False.elim post
  · exact False.elim post
theorem bTwo {b : Blt} {f : Value} {g : Int → Int → Int} (h1 : ∀ d st, blt1 b d st = .err) (h2 : ∀ i j st, blt2 b (.int i) (.int j) st = .ok (.int (g i j)) st)
    (h : CallR X f (fun xs H Q => ∃ i j, xs = [.int i, .int j] ∧ Q (.int (g i j)) H)) : CallR X f (rBl X.K b) := by
  rintro pins s σ H xs us Q I r ⟨φ, st, as, sim, ra, post⟩
  match as, ra, post with
  | [d, e], ra, post =>
    have post : PostV X.K φ H (blt2 b d e st) Q := post
    obtain ⟨v, w, rfl, r1, r2⟩ := rep2 ra
    cases d with
    | int i =>
      cases e with
      | int j =>
        rw [h2] at post
        rw [r1.int_inv, r2.int_inv] at r
        exact h pins s σ H _ us Q I r ⟨i, j, rfl, ok_here post sim (.int _)⟩
      | _ => exact False.elim post
    | _ => exact False.elim post
  | [d], _, post =>
    have post : PostV X.K φ H (blt1 b d st) Q := post
    rw [h1] at post
    exact False.elim post
  | [], _, post => exact False.elim post
  | _ :: _ :: _ :: _, _, post => exact False.elim post
theorem bAny (hc : X.calm = true) (b : Blt) : CallR X (bval b) (rBl X.K b) := by
  cases b with
  | len => exact bLen
  | abs => exact bAbs
  | min => exact bTwo (fun _ _ => rfl) (fun _ _ _ => rfl) (call_min2 hc)
  | max => exact bTwo (fun _ _ => rfl) (fun _ _ _ => rfl) (call_max2 hc)
  | int => exact bInt
  | str => exact bStr
  | tuple => exact bTuple
  | list => exact bList
  | all => exact bAll hc
  | sum => exact bSum hc
  | sorted => exact bSorted
  | bool => exact bBool
  | repr => exact bOne (by intro z; cases z) (by intro z; cases z) fun pins s σ H v u Q φ st d I ru sim rv post => False.elim post
end
end PC
end
section
set_option Elab.async false
set_option linter.all false
set_option autoImplicit false
set_option maxRecDepth 100000
set_option maxHeartbeats 1000000
namespace PC
open PySem L2 PyProof.Rows
section
variable {X : Cx}
def mName : Mth → Str
  | .append => "append" | .pop => "pop" | .insert => "insert" | .extend => "extend" | .countL => "count" | .countS => "count" | .indexL => "index" | .indexS => "index"
  | .join => "join" | .split => "split" | .partition => "partition" | .get => "get" | .upper => "upper"
def mType (m : Mth) : String := match m.isL with | true => "list" | false => "str"
def mId : Mth → String
  | .append => "list.append" | .pop => "list.pop" | .insert => "list.insert" | .extend => "list.extend" | .countL => "list.count" | .countS => "str.count" | .indexL => "list.index" | .indexS => "str.index"
  | .join => "str.join" | .split => "str.split" | .partition => "str.partition" | .get => "dict.get" | .upper => "str.upper"
/-- the methods that are served -/
def mServed : Mth → Bool
  | .append | .pop | .insert | .join | .split | .partition => true
  | _ => false
structure MFacts (m : Mth) : Prop where
  pa : PlainAttrs (mType m)
  slot : Slot (mType m) (mName m) (mId m)
  ty : typeOf (.builtin (mId m)) = pure (.type "method_descriptor")
theorem mFacts : ∀ m, mServed m = true → MFacts m
  | .append, _ => ⟨PySem.F.plainAttrs_list, PySem.F.slot_list_append, PySem.F.type_list_append⟩
  | .pop, _ => ⟨PySem.F.plainAttrs_list, PySem.F.slot_list_pop, PySem.F.type_list_pop⟩
  | .insert, _ => ⟨PySem.F.plainAttrs_list, PySem.F.slot_list_insert, PySem.F.type_list_insert⟩
  | .join, _ => ⟨PySem.F.plainAttrs_str, PySem.F.slot_str_join, PySem.F.type_str_join⟩
  | .split, _ => ⟨PySem.F.plainAttrs_str, PySem.F.slot_str_split, PySem.F.type_str_split⟩
  | .partition, _ => ⟨PySem.F.plainAttrs_str, PySem.F.slot_str_partition, PySem.F.type_str_partition⟩
def rM (K : PySem.W.Frag) (m : Mth) : V → List V → Hp → VK → Prop := fun x xs H Q => ∃ φ st o as, Sim K φ H st ∧ RepV K φ H x o ∧ RepVs K φ H xs as ∧ PostV K φ H (mth m o as st) Q
theorem mOk_ty {K : PySem.W.Frag} {φ : Wd} {H : Hp} {st : Store} {m : Mth} {x : V} {d : D} (s : Sim K φ H st) (r : RepV K φ H x d) (h : mOk m d st = true) : tyV K (mType m) x H := by
  unfold mOk at h
  unfold mType
  cases e : m.isL with
  | true =>
    rw [e] at h
    simp only at h ⊢
    split at h
    · rename_i xs ed
      obtain ⟨p, vs, rfl, h1, _⟩ := list_at s r ed
      exact .inl ⟨rfl, vs, h1⟩
    · cases h
  | false =>
    rw [e] at h
    simp only at h ⊢
    split at h
    · rw [r.str_inv]; exact rfl
    · cases h
/-- a cell that is a list, to be changed -/
theorem cell_lst {K : PySem.W.Frag} {φ : Wd} {H : Hp} {st : Store} {v : V} {k : Nat} {xs : List D} (s : Sim K φ H st) (r : RepV K φ H v (.ref k)) (e : st[k]? = some (.lst xs)) :
    ∃ p vs, v = .ref p ∧ φ.c[k]? = some p ∧ H p = some (.lst vs) ∧ RepVs K φ H vs xs := by
  cases r with
  | @ref p _ hk =>
    obtain ⟨vs, h1, h2⟩ := s.cell k p _ hk e
    exact ⟨p, vs, rfl, hk, h1, h2⟩
/-- a cell's list is put otherwise -/
theorem ok_put {K : PySem.W.Frag} {φ : Wd} {H : Hp} {st : Store} {k : Nat} {p : Addr} {vs : List V} {ds : List D} {v : V} {d : D} {Q : VK} (h : PostV K φ H (.ok d (st.set k (.lst ds))) Q) (s : Sim K φ H st) (hk : φ.c[k]? = some p)
    (r : RepVs K φ H vs ds) (rv : RepV K φ H v d) : Q v (upd H p (.lst vs)) :=
  h φ _ v (Ext.put s hk) (s.put hk ⟨vs, upd_same, r.ext (Ext.put s hk)⟩) (rv.ext (Ext.put s hk))
theorem seq_nn {i : Int} {n : Nat} (h0 : 0 ≤ i) (h1 : i.toNat < n) : seqIndex? i n = some i.toNat := PySem.StrLaws.seqIndex_nonneg h0 (by omega)
theorem mAny (m : Mth) (hs : mServed m = true) : MtR X (mId m) (rM X.K m) := by
  rintro pins s σ H x xs v us Q I rx rs ⟨φ, st, o, as, sim, ro, ra, post⟩
  match as, ra, post with
  | [], ra, post =>
    cases ra
    have post : PostV X.K φ H (mth0 m o st) Q := post
    cases m with
    | pop =>
      cases o with
      | ref k =>
        simp only [mth0] at post
        split at post
        · rename_i ys e
          split at post
          · rename_i d ed
            obtain ⟨p, vs, rfl, hk, h1, h2⟩ := cell_lst sim ro e
            have hd : ys[ys.length - 1]? = some d := by rw [← List.getLast?_eq_getElem?]; exact ed
            obtain ⟨w, hw, rw'⟩ := h2.get hd
            exact mt_pop pins s σ H _ [] v us Q I rx rs ⟨p, vs, w, rfl, rfl, h1, by rw [h2.length]; exact hw, ok_put post sim hk h2.dropLast rw'⟩
          · exact False.elim post
        · exact False.elim post
      | _ => exact False.elim post
    | _ => first | exact False.elim post | cases hs
  | [d], ra, post =>
    have post : PostV X.K φ H (mth1 m o d st) Q := post
    obtain ⟨w, rfl, rw'⟩ := rep1 ra
    cases m with
    | append =>
      cases o with
      | ref k =>
        simp only [mth1] at post
        split at post
        · rename_i ys e
          obtain ⟨hz, post⟩ := gd_ok post
          obtain ⟨p, vs, rfl, hk, h1, h2⟩ := cell_lst sim ro e
          exact mt_append pins s σ H _ _ v us Q I rx rs ⟨p, vs, w, rfl, rfl, h1, by rw [h2.length, ← line_eq]; exact hz, ok_put post sim hk (h2.append (.cons rw' .nil)) .non⟩
        · exact False.elim post
      | _ => exact False.elim post
    | pop =>
      cases o with
      | ref k =>
        cases d with
        | int i =>
          simp only [mth1] at post
          split at post
          · rename_i ys e
            obtain ⟨h0, post⟩ := gd_ok post
            split at post
            · rename_i d ed
              obtain ⟨p, vs, rfl, hk, h1, h2⟩ := cell_lst sim ro e
              obtain ⟨w2, hw, rw2⟩ := h2.get ed
              have hlt : i.toNat < vs.length := (List.getElem?_eq_some_iff.mp hw).1
              have hz : vs.length ≤ sizeLine := (rdM I (.inl h1)).1
              rw [sizeLine_eq] at hz
              rw [rw'.int_inv] at rs
              exact mt_popAt pins s σ H _ _ v us Q I rx rs ⟨p, vs, i, i.toNat, w2, rfl, rfl, h1, by omega, by omega, seq_nn h0 hlt, hw, ok_put post sim hk (h2.eraseIdx _) rw2⟩
            · exact False.elim post
          · exact False.elim post
        | _ => exact False.elim post
      | _ => exact False.elim post
    | partition =>
      cases o with
      | str z =>
        cases d with
        | str sep =>
          obtain ⟨⟨hz, hs0⟩, post⟩ := gd_ok post
          rw [ro.str_inv] at rx
          rw [rw'.str_inv] at rs
          have hne : sep ≠ [] := fun e => hs0 (by rw [e]; rfl)
          refine mt_partition pins s σ H _ _ v us Q I rx rs ⟨sv z, sv sep, rfl, rfl, by rw [sv_length]; exact beq_eq_false_iff_ne.mpr hs0, by rw [sv_length, ← line_eq]; exact hz, ?_⟩
          cases e : TL.par sep [] z with
          | some pq =>
            rw [e] at post
            have e2 := SX.partition_some (a := z) (b := sep) (p := pq.1) (q := pq.2) hne e
            rw [show Txt.partition (sv z) (sv sep) = _ from e2]
            exact ok_tup (vs := [.str (sv pq.1), .str (sv sep), .str (sv pq.2)]) post sim (.cons (.str _) (.cons (.str _) (.cons (.str _) .nil)))
          | none =>
            rw [e] at post
            have e2 := SX.partition_none (a := z) (b := sep) hne e
            rw [show Txt.partition (sv z) (sv sep) = _ from e2]
            exact ok_tup (vs := [.str (sv z), .str (sv []), .str (sv [])]) post sim (.cons (.str _) (.cons (.str _) (.cons (.str _) .nil)))
        | _ => exact False.elim post
      | _ => exact False.elim post
    | split =>
      cases o with
      | str z =>
        cases d with
        | str sep =>
          obtain ⟨⟨hz, hs0, hs1⟩, post⟩ := gd_ok post
          rw [ro.str_inv] at rx
          rw [rw'.str_inv] at rs
          have hne : sep ≠ [] := fun e => hs0 (by rw [e]; rfl)
          refine mt_split pins s σ H _ _ v us Q I rx rs ⟨sv z, sv sep, rfl, rfl, by rw [sv_length]; exact beq_eq_false_iff_ne.mpr hs0, by rw [sv_length, ← line_eq]; exact hz, ?_⟩
          show rNewStrs (Txt.split (SX.S z) (SX.S sep)) H Q
          rw [SX.split_S hne hs1]
          have r := RepVs.strs (K := X.K) (φ := φ) (H := H) (TL.spl sep 0 [] z)
          intro p hp
          have q := ok_lst post sim r p hp
          rw [List.map_map]
          exact q
        | _ => exact False.elim post
      | _ => exact False.elim post
    | join =>
      cases o with
      | str sep =>
        simp only [mth1] at post
        split at post
        · rename_i ys e
          split at post
          · rename_i ss es
            obtain ⟨hz, post⟩ := gd_ok post
            rw [toStrs_eq es] at e
            obtain ⟨p, vs, rfl, h1, h2⟩ := items_at sim rw' e
            have ev := h2.ofStrs
            rw [ro.str_inv] at rx
            have hq := ok_here post sim (.str _)
            have hj := SX.join_S sep ss
            refine mt_join pins s σ H _ _ v us Q I rx rs ⟨sv sep, p, ss.map SX.S, rfl, rfl, ?_, ?_, ?_⟩
            · rw [List.map_map]
              have : vs = ss.map (V.str ∘ SX.S) := ev
              rw [← this]
              rcases h1 with h1 | h1
              · exact .inl h1
              · exact .inr h1
            · rw [SX.lens, List.length_map, sv_length]
              exact hz
            · rw [show Txt.join (sv sep) (ss.map SX.S) = SX.S (TL.joinL sep ss) from hj]
              exact hq
          · exact False.elim post
        · exact False.elim post
      | _ => exact False.elim post
    | _ => first | exact False.elim post | cases hs
  | [d, e], ra, post =>
    have post : PostV X.K φ H (mth2 m o d e st) Q := post
    obtain ⟨w, w2, rfl, rw', rw2⟩ := rep2 ra
    cases m with
    | insert =>
      cases o with
      | ref k =>
        cases d with
        | int i =>
          simp only [mth2] at post
          split at post
          · rename_i ys ec
            obtain ⟨⟨h0, h1, h2⟩, post⟩ := gd_ok post
            obtain ⟨p, vs, rfl, hk, h3, h4⟩ := cell_lst sim ro ec
            rw [rw'.int_inv] at rs
            exact mt_insert pins s σ H _ _ v us Q I rx rs ⟨p, vs, i, w2, rfl, rfl, h3, by rw [h4.length, ← line_eq]; exact h0, h1, h2, ok_put post sim hk (((h4.take _).append (.cons rw2 .nil)).append (h4.drop _)) .non⟩
          · exact False.elim post
        | _ => exact False.elim post
      | _ => exact False.elim post
    | _ => first | exact False.elim post | cases hs
  | _ :: _ :: _ :: _, _, post => exact False.elim post
end
end PC
end
section
set_option Elab.async false
set_option linter.all false
set_option autoImplicit false
set_option maxRecDepth 100000
set_option maxHeartbeats 1000000
namespace PC
open PySem L2 PyProof.Rows

/-! ### a core's text -/
def visB (sc : Scope) (x : Str) : Bool := match sc.names.lookup x with
  | some .local => true
  | some .cell => true
  | some .free => true
  | _ => false
def locB (sc : Scope) (x : Str) : Bool := match sc.names.lookup x with
  | some .local => true
  | some .cell => true
  | _ => false
def glB (sc : Scope) (x : Str) : Bool := match sc.names.lookup x with
  | some .globalImplicit => true
  | _ => false
def nmB (x : Str) : Bool := !(x == ("__debug__" : Str)) && !(x == ("__classdict__" : Str)) && !(x == ("__name__" : Str))
/-- the forms that have a core -/
def good : Expr → Bool
  | .Name _ _ | .Constant _ _ _ | .BinOp _ _ _ _ | .UnaryOp _ _ _ | .BoolOp _ _ _ | .IfExp _ _ _ _ | .Compare _ _ _ _ | .Tuple _ _ _ | .List _ _ | .Subscript _ _ _ | .Attribute _ _ _ | .ListComp _ _ _ _ | .Dict _ _ _ => true
  | .Call _ _ _ _ => true
  | _ => false
/-- .. as a receiver of a method: no call without arguments -/
def goodO : Expr → Bool
  | .Call _ [] [] _ => false
  | _ => true
def bName : Blt → Str
  | .len => "len" | .abs => "abs" | .min => "min" | .max => "max" | .int => "int" | .str => "str" | .tuple => "tuple" | .list => "list" | .all => "all" | .sum => "sum" | .sorted => "sorted" | .repr => "repr" | .bool => "bool"
def tName : Ty → Str
  | .int => "int" | .bool => "bool" | .str => "str" | .tuple => "tuple" | .list => "list" | .dict => "dict" | .own c => Str.ofString c
def tBlt : Ty → Bool
  | .own _ => false
  | _ => true
def bltNames : List Str := ["len", "abs", "min", "max", "int", "str", "tuple", "list", "all", "sum", "sorted", "repr", "bool", "dict", "isinstance", "range", "enumerate", "zip", "reversed"]
def relS' (scope sc : Scope) : Scope := L2.relS scope sc
/-- the names of a target, with their places -/
def ownOf (N : List Str) : List Nat → List (Str × Nat)
  | [] => []
  | i :: is => (N.getD i "", i) :: ownOf N is
def chkNames (N : List Str) (scope : Scope) : List Nat → List Expr → Bool
  | [], [] => true
  | i :: is, .Name x _ :: es => decide (N[i]? = some x) && locB scope x && chkNames N scope is es
  | _, _ => false
def chkT (N : List Str) (scope : Scope) (t : List Nat) (one : Bool) (tg : Expr) : Bool :=
  match one with
  | true => match t, tg with
    | [i], .Name x _ => decide (N[i]? = some x) && locB scope x
    | _, _ => false
  | false => match tg with
    | .Tuple es _ _ => chkNames N scope t es
    | _ => false
mutual
def chkE (N : List Str) (sc : Scope) : CE → Expr → Bool
  | .var i, .Name x _ => decide (N[i]? = some x) && visB sc x && nmB x
  | .non, .Constant .none _ _ => true
  | .bl b, .Constant (.bool c) _ _ => decide (c = b)
  | .int i, .Constant (.int j) _ _ => decide (j = i)
  | .str s, .Constant (.str x) _ _ => decide (x = sv s)
  | .glob x, .Name y _ => decide (y = Str.ofString x) && glB sc y && nmB y
  | .bin op a b, .BinOp l o r _ => decide (o = op) && chkE N sc a l && chkE N sc b r
  | .neg a, .UnaryOp .USub x _ => chkE N sc a x
  | .not a, .UnaryOp .Not x _ => chkE N sc a x
  | .and a b, .BoolOp .And (x :: y :: rest) pos => chkE N sc a x && (match rest with | [] => chkE N sc b y | _ :: _ => chkE N sc b (.BoolOp .And (y :: rest) pos))
  | .or a b, .BoolOp .Or (x :: y :: rest) pos => chkE N sc a x && (match rest with | [] => chkE N sc b y | _ :: _ => chkE N sc b (.BoolOp .Or (y :: rest) pos))
  | .ite c a b, .IfExp t x y _ => chkE N sc c t && chkE N sc a x && chkE N sc b y
  | .cmp op a b, .Compare l [o] [r] _ => decide (o = op) && chkE N sc a l && chkE N sc b r
  | .chain op op' a b c, .Compare l [o, o'] [m, r] _ => decide (o = op) && decide (o' = op') && chkE N sc a l && chkE N sc b m && chkE N sc c r
  | .tup es, .Tuple xs _ _ => chkEs N sc es xs
  | .new l, e => chkL N sc l e
  | .cell l, e => chkL N sc l e
  | .dict0, .Dict [] [] _ => true
  | .idx a i, .Subscript x y _ => chkE N sc a x && chkE N sc i y
  | .slice a lo hi, .Subscript x (.Slice l h none _) _ => chkE N sc a x && chkO N sc lo l && chkO N sc hi h
  | .call f es, .Call (.Name x _) (y :: ys) [] _ => decide (x = Str.ofString f) && glB sc x && nmB x && chkEs N sc es (y :: ys)
  | .blt b es, .Call (.Name x _) (y :: ys) [] _ => decide (x = bName b) && glB sc x && chkEs N sc es (y :: ys)
  | .mth m o es, .Call (.Attribute x a ap) ys [] cp => decide (a = mName m) && mServed m && goodO x && decide (ap.endLine = cp.line) && decide (ys.length < 20) && chkE N sc o x && chkEs N sc es ys
  | .isI a t, .Call (.Name x _) [y, .Name z _] [] _ => decide (x = "isinstance") && glB sc x && decide (z = tName t) && tBlt t && glB sc z && chkE N sc a y
  | _, _ => false
termination_by structural c => c
def chkL (N : List Str) (sc : Scope) : CL → Expr → Bool
  | .disp es, .List xs _ => chkEs N sc es xs
  | .comp t one it c e, .ListComp elt [⟨tg, iter, ifs, k⟩] scope _ => decide (k = 0) && blkC N sc scope (ownOf N t) && chkT N scope t one tg && chkI N sc it tg iter &&
      chkIf N (relS' scope sc) c ifs && chkE N (relS' scope sc) e elt
  | .listOf e, .Call (.Name x _) [y] [] _ => decide (x = "list") && glB sc x && chkE N sc e y
  | .rep es n, .BinOp (.List xs _) .Mult r _ => chkEs N sc es xs && chkE N sc n r
  | .range1 a, .Call (.Name x _) [.Call (.Name y _) [z] [] _] [] _ => decide (x = "list") && glB sc x && decide (y = "range") && glB sc y && chkE N sc a z
  | .range2 a b, .Call (.Name x _) [.Call (.Name y _) [z, w] [] _] [] _ => decide (x = "list") && glB sc x && decide (y = "range") && glB sc y && chkE N sc a z && chkE N sc b w
  | _, _ => false
termination_by structural c => c
def chkEs (N : List Str) (sc : Scope) : CEs → List Expr → Bool
  | .nil, [] => true
  | .cons c cs, e :: es => chkE N sc c e && chkEs N sc cs es
  | _, _ => false
termination_by structural c => c
def chkO (N : List Str) (sc : Scope) : CO → Option Expr → Bool
  | .none, none => true
  | .some c, some e => chkE N sc c e
  | _, _ => false
termination_by structural c => c
def chkIf (N : List Str) (sc : Scope) : CO → List Expr → Bool
  | .none, [] => true
  | .some c, [e] => chkE N sc c e
  | _, _ => false
termination_by structural c => c
def chkI (N : List Str) (sc : Scope) : CI → Expr → Expr → Bool
  | .of c, _, e => chkE N sc c e
  | .range1 a, _, .Call (.Name x _) [y] [] _ => decide (x = "range") && glB sc x && chkE N sc a y
  | .range2 a b, _, .Call (.Name x _) [y, z] [] _ => decide (x = "range") && glB sc x && chkE N sc a y && chkE N sc b z
  | .enum a, .Tuple _ _ _, .Call (.Name x _) [y] [] _ => decide (x = "enumerate") && glB sc x && chkE N sc a y
  | .zip a b, .Tuple _ _ _, .Call (.Name x _) [y, z] [] _ => decide (x = "zip") && glB sc x && chkE N sc a y && chkE N sc b z
  | .rrange2 a b, _, .Call (.Name x _) [.Call (.Name y _) [z, w] [] _] [] _ => decide (x = "reversed") && glB sc x && decide (y = "range") && glB sc y && chkE N sc a z && chkE N sc b w
  | _, _, _ => false
termination_by structural c => c
end

/-! ### plain facts of forms -/
theorem good_of {N : List Str} {sc : Scope} : ∀ {c : CE} {e : Expr}, chkE N sc c e = true → good e = true := by
  intro c e h
  cases e with
  | Name | Constant | BinOp | UnaryOp | BoolOp | IfExp | Compare | Tuple | List | Subscript | Attribute | ListComp | Dict | Call => rfl
  | _ =>
    cases c with
    | new l => cases l <;> cases h
    | cell l => cases l <;> cases h
    | _ => cases h
theorem star_good {e : Expr} {es : List Expr} {env : Env} (h : good e = true) : starEach (e :: es) env = (false, eval e env) :: starEach es env := by
  cases e <;> first | rfl | cases h
theorem visB_ok {sc : Scope} {x : Str} (h : visB sc x = true) : Vis sc x := by
  unfold visB at h
  split at h
  · exact .inl (by assumption)
  · exact .inr (.inl (by assumption))
  · exact .inr (.inr (by assumption))
  · cases h
theorem locB_ok {sc : Scope} {x : Str} (h : locB sc x = true) : Loc sc x := by
  unfold locB at h
  split at h
  · exact .inl (by assumption)
  · exact .inr (by assumption)
  · cases h
theorem glB_ok {X : Cx} {x : Str} (h : glB X.env.scope x = true) : Gl X x := by
  unfold glB at h
  split at h
  · assumption
  · cases h
theorem nmB_ok {x : Str} (h : nmB x = true) : (x == ("__debug__" : Str)) = false ∧ (x == ("__classdict__" : Str)) = false ∧ x ≠ "__name__" := by
  unfold nmB at h
  simp only [Bool.and_eq_true, Bool.not_eq_true', beq_eq_false_iff_ne] at h ⊢
  exact ⟨h.1.1, h.1.2, h.2⟩
theorem base_good {e : Expr} {f : Str} {env : Env} {w : Sem Value} (h : good e = true) (h' : goodO e = true) : attributeBase e f env w = w := by
  cases e with
  | Call g as ks p =>
    cases g with
    | Name id q =>
      cases as with
      | nil =>
        cases ks with
        | nil => cases h'
        | cons _ _ => rfl
      | cons _ _ => rfl
    | _ => rfl
  | _ => first | rfl | cases h
theorem mark_good {op : CmpOp} {e : Expr} (h : good e = true) : behindInMarks op e = false := by
  cases e <;> first | rfl | cases h
theorem last_good {op op' : CmpOp} {a e : Expr} (h : good e = true) : lastMarks [op, op'] [a, e] = false := mark_good (op := op') h
theorem ix_good {e : Expr} (h : good e = true) : PlainIx e := by
  intro o i
  cases e <;> first | rfl | cases h
theorem fold_good {e : Expr} {env : Env} (h : good e = true) : ∀ x, foldedSetIterable e env x = pure x := by
  intro x
  cases e <;> first | rfl | cases h
theorem test_plain {e : Expr} {env : Env} (h : (match e with | .UnaryOp _ _ _ => false | .BoolOp _ _ _ => false | .IfExp _ _ _ _ => false | .Compare _ _ _ _ => false | _ => true) = true) :
    ∀ whole, isTrue e env whole = (do let v ← whole; standAt e.pos; holding [v] (truthy v)) := by
  intro whole
  cases e <;> first | rfl | cases h

/-! ### what a core says of its text -/
abbrev WT := L2.St → Wd → Hp → Store → D → Prop
/-- the def's own names, its room, what the module holds -/
structure Ok (ge : GE) (X : Cx) : Prop where
  calm : X.calm = true
  nd : X.N.Nodup
  room : X.A.units + 65 < cLine
  free : ∀ x ∈ bltNames, X.mg x = none
  glob : ∀ x d, ge.gl x = some d → ∃ v u, X.mg (Str.ofString x) = some u ∧ RelV v u ∧ ∀ φ H, RepV X.K φ H v d
/-- the calls -/
def Calls (ge : GE) (cf : CF) (X : Cx) : Prop := ∀ (f : String) (e : Expr) (es : List Expr) (t : TA) (p pos : Pos), ge.fs f = true → glB X.env.scope (Str.ofString f) = true → nmB (Str.ofString f) = true → good e = true → (∀ x ∈ es, good x = true) → PA X (e :: es) t →
  PE X (.Call (.Name (Str.ofString f) p) (e :: es) [] pos) (fun σ H Q => t σ H fun vs H1 => ∃ φ st as, Sim X.K φ H1 st ∧ RepVs X.K φ H1 vs as ∧ Post X.K (RV X.K) noW φ H1 (cf f as st) Q)
section
variable {X : Cx}
/-- weaker readings -/
theorem PE.weak {e : Expr} {t t' : TE} (h : PE X e t) (k : ∀ σ H Q, t' σ H Q → t σ H Q) : PE X e t' := ⟨fun pins s σ H Q I q => h.run pins s σ H Q I (k σ H Q q)⟩
theorem PA.weak {e : List Expr} {t t' : TA} (h : PA X e t) (k : ∀ σ H Q, t' σ H Q → t σ H Q) : PA X e t' := ⟨fun pos pins s σ H Q I q => h.run pos pins s σ H Q I (k σ H Q q)⟩
theorem PT.weak {e : Expr} {t t' : TT} (h : PT X e t) (k : ∀ σ H Q, t' σ H Q → t σ H Q) : PT X e t' := ⟨fun pins s σ H Q I q => h.run pins s σ H Q I (k σ H Q q)⟩
theorem PW.weak {e : Expr} {t t' : TT} (h : PW X e t) (k : ∀ σ H Q, t' σ H Q → t σ H Q) : PW X e t' := ⟨fun wh pins s σ H Q I q => h.run wh pins s σ H Q I (k σ H Q q)⟩
end
/-- a reading by an evaluation of the core -/
def tR {α β : Type} (K : PySem.W.Frag) (R : Wd → Hp → β → α → Prop) (f : Slots → Store → Res α) : L2.St → Hp → (β → Hp → Prop) → Prop := fun σ H Q => ∃ φ τ st, RepS K φ H σ τ ∧ Sim K φ H st ∧ Post K R noW φ H (f τ st) Q
abbrev tD (K : PySem.W.Frag) (f : Slots → Store → Res D) : TE := tR K (RV K) f
abbrev RVs (K : PySem.W.Frag) : Wd → Hp → List V → List D → Prop := fun φ H v d => RepVs K φ H v d
abbrev tDs (K : PySem.W.Frag) (f : Slots → Store → Res (List D)) : TA := tR K (RVs K) f
/-- a test: the value is a truth -/
def asB (r : Res D) : Res Bool := r.bind fun x st => match x with | .bl b => .ok b st | _ => .err
abbrev tB' (K : PySem.W.Frag) (f : Slots → Store → Res D) : TT := tR K (fun _ _ (v : Bool) b => v = b) fun τ st => asB (f τ st)
/-- first f, then g -/
theorem tR.bind {α α' β β' : Type} {K : PySem.W.Frag} {R : Wd → Hp → β → α → Prop} {R' : Wd → Hp → β' → α' → Prop} {f : Slots → Store → Res α} {g : Slots → α → Store → Res α'} {σ : L2.St} {H : Hp} {Q : β' → Hp → Prop} {Q1 : β → Hp → Prop}
    (h : tR K R' (fun τ st => (f τ st).bind (g τ)) σ H Q)
    (k : ∀ φ τ x st v H1, RepS K φ H1 σ τ → Sim K φ H1 st → R φ H1 v x → Post K R' noW φ H1 (g τ x st) Q → Q1 v H1) : tR K R f σ H Q1 := by
  obtain ⟨φ, τ, st, rs, sim, post⟩ := h
  exact ⟨φ, τ, st, rs, sim, post.bind fun x st1 φ1 H1 v e s1 rv p => k φ1 τ x st1 v H1 (rs.ext e) s1 rv p⟩
theorem tR.of {α β : Type} {K : PySem.W.Frag} {R : Wd → Hp → β → α → Prop} {f : Slots → Store → Res α} {σ : L2.St} {H : Hp} {Q : β → Hp → Prop} {φ : Wd} {τ : Slots} {st : Store} (rs : RepS K φ H σ τ) (sim : Sim K φ H st) (post : Post K R noW φ H (f τ st) Q) : tR K R f σ H Q :=
  ⟨φ, τ, st, rs, sim, post⟩
end PC
end
section
set_option Elab.async false
set_option linter.all false
set_option autoImplicit false
set_option maxRecDepth 100000
set_option maxHeartbeats 1000000
namespace PC
open PySem L2 PyProof.Rows

/-- what is wanted of a new list: it is no cell, not frozen -/
def PostO (K : PySem.W.Frag) (φ : Wd) (H : Hp) (r : Res (List D)) (Q : VK) : Prop :=
  match r with
  | .ok ds st => ∀ φ' H' p vs, Ext K φ H φ' H' → Sim K φ' H' st → H p = none → H' p = some (.lst vs) → ¬ φ'.F p → p ∉ φ'.c → RepVs K φ' H' vs ds → Q (.ref p) H'
  | .exc _ st => ∀ φ' H', Ext K φ H φ' H' → Sim K φ' H' st → False
  | .err => False
theorem PostO.ext {K : PySem.W.Frag} {φ φ' : Wd} {H H' : Hp} {r : Res (List D)} {Q : VK} (h : PostO K φ H r Q) (e : Ext K φ H φ' H') : PostO K φ' H' r Q := by
  cases r with
  | ok ds st => exact fun φ2 H2 p vs e2 s2 hn => h φ2 H2 p vs (e.trans e2) s2 (e.dom p hn)
  | exc d st => exact fun φ2 H2 e2 => h φ2 H2 (e.trans e2)
  | err => exact h
theorem PostO.bind {α β : Type} {K : PySem.W.Frag} {R : Wd → Hp → β → α → Prop} {φ : Wd} {H : Hp} {r : Res α} {f : α → Store → Res (List D)} {Q : VK} {Q1 : β → Hp → Prop} (h : PostO K φ H (r.bind f) Q)
    (k : ∀ x st φ1 H1 v, Ext K φ H φ1 H1 → Sim K φ1 H1 st → R φ1 H1 v x → PostO K φ1 H1 (f x st) Q → Q1 v H1) : Post K R noW φ H r Q1 := by
  cases r with
  | ok d st => exact fun φ1 H1 v e s rv => k d st φ1 H1 v e s rv (PostO.ext h e)
  | exc d st => exact h
  | err => exact h
theorem gdO {K : PySem.W.Frag} {φ : Wd} {H : Hp} {r : Res (List D)} {Q : VK} {p : Prop} [Decidable p] (h : PostO K φ H (gd p r) Q) : p ∧ PostO K φ H r Q := by
  unfold gd at h
  by_cases hp : p
  · rw [if_pos hp] at h; exact ⟨hp, h⟩
  · rw [if_neg hp] at h; exact False.elim h
theorem okO {K : PySem.W.Frag} {φ : Wd} {H : Hp} {st : Store} {vs : List V} {ds : List D} {Q : VK} (h : PostO K φ H (.ok ds st) Q) (s : Sim K φ H st) (r : RepVs K φ H vs ds) : ∀ p, H p = none → Q (.ref p) (upd H p (.lst vs)) :=
  fun p hn => h φ _ p vs (Ext.fresh hn) (s.new hn) hn upd_same (s.freshF hn) (s.fresh hn) (r.ext (Ext.fresh hn))
def tO (K : PySem.W.Frag) (f : Slots → Store → Res (List D)) : TE := fun σ H Q => ∃ φ τ st, RepS K φ H σ τ ∧ Sim K φ H st ∧ PostO K φ H (f τ st) Q
/-- the list is frozen at once -/
theorem own_frz {K : PySem.W.Frag} {f : Slots → Store → Res (List D)} {σ : L2.St} {H : Hp} {Q : VK} (h : tD K (fun τ st => (f τ st).bind fun xs st => .ok (.lst xs) st) σ H Q) : tO K f σ H Q := by
  obtain ⟨φ, τ, st, rs, sim, post⟩ := h
  refine ⟨φ, τ, st, rs, sim, ?_⟩
  cases e : f τ st with
  | ok ds st1 =>
    simp only [e] at post
    intro φ' H' p vs ex s1 hn h1 h2 h3 h4
    exact post (φ'.frz p) H' _ (ex.frz hn) (s1.freeze h3 (.inl h1)) (.lst ⟨.inl h1, .inr rfl⟩ (h4.ext0 Ext0.freeze))
  | exc d st1 => simp only [e] at post; exact post
  | err => simp only [e] at post; exact post
/-- the list becomes a cell -/
theorem own_cell {K : PySem.W.Frag} {f : Slots → Store → Res (List D)} {σ : L2.St} {H : Hp} {Q : VK} (h : tD K (fun τ st => (f τ st).bind fun xs st => .ok (.ref st.length) (st ++ [.lst xs])) σ H Q) : tO K f σ H Q := by
  obtain ⟨φ, τ, st, rs, sim, post⟩ := h
  refine ⟨φ, τ, st, rs, sim, ?_⟩
  cases e : f τ st with
  | ok ds st1 =>
    simp only [e] at post
    intro φ' H' p vs ex s hn h1 h2 h3 h4
    have e0 : Ext0 K φ' H' (φ'.add p) H' := ⟨fun k q hk => by
      show (φ'.c ++ [p])[k]? = some q
      rw [List.getElem?_append_left (List.getElem?_eq_some_iff.mp hk).1]; exact hk, fun _ _ z => z, fun _ _ z z' => ⟨z, z'⟩⟩
    have mem : ∀ q, q ∈ (φ'.add p).c → q ∈ φ'.c ∨ q = p := fun q hq => by
      rcases List.mem_append.mp (show q ∈ φ'.c ++ [p] from hq) with hm | hm
      · exact .inl hm
      · exact .inr (by simpa using hm)
    have e1 : Ext K φ H (φ'.add p) H' := ⟨⟨fun k q hk => e0.pre k q (ex.pre k q hk), ex.tup, ex.lst⟩, ex.keep, fun q hm hq => by
      rcases mem q hm with hm | hm
      · exact ex.new q hm hq
      · rw [hm]; exact hn, ex.newF, ex.dom⟩
    refine post (φ'.add p) H' _ e1 ⟨?_, ?_, fun k q c hk hc => ?_, fun q hq => ?_⟩ (.ref ?_)
    · show (φ'.c ++ [p]).length = _
      rw [List.length_append, List.length_append, s.len]; rfl
    · show (φ'.c ++ [p]).Nodup
      rw [List.nodup_append]
      refine ⟨s.nd, by simp, fun a ha b hb => ?_⟩
      have : b = p := by simpa using hb
      subst this
      rintro rfl
      exact h3 ha
    · have hk : (φ'.c ++ [p])[k]? = some q := hk
      by_cases hlt : k < φ'.c.length
      · rw [List.getElem?_append_left hlt] at hk
        rw [List.getElem?_append_left (by rw [← s.len]; exact hlt)] at hc
        exact (s.cell k q c hk hc).ext e0 rfl
      · have hk2 : k = φ'.c.length := by
          have := (List.getElem?_eq_some_iff.mp hk).1
          rw [List.length_append] at this
          simp at this; omega
        subst hk2
        rw [List.getElem?_append_right (Nat.le_refl _)] at hk
        rw [s.len, List.getElem?_append_right (Nat.le_refl _)] at hc
        simp at hk hc
        subst hk; subst hc
        exact ⟨vs, h1, h4.ext0 e0⟩
    · obtain ⟨q1, q2⟩ := s.frz q hq
      refine ⟨fun hm => ?_, q2⟩
      rcases mem q hm with hm | hm
      · exact q1 hm
      · rw [hm] at hq; exact h2 hq
    · show (φ'.c ++ [p])[st1.length]? = some p
      rw [← s.len, List.getElem?_append_right (Nat.le_refl _)]
      simp
  | exc d st1 => simp only [e] at post; exact post
  | err => simp only [e] at post; exact post
section
variable {X : Cx}
theorem star_all {env : Env} {pos : Pos} : ∀ {es : List Expr}, (∀ x ∈ es, good x = true) → (backTo pos (starEach es env)).any (·.1) = false
  | [], _ => rfl
  | e :: es, h => by
    rw [star_good (h e List.mem_cons_self)]
    show (false || (backTo pos (starEach es env)).any (·.1)) = false
    rw [Bool.false_or]
    exact star_all fun x hx => h x (List.mem_cons_of_mem _ hx)
theorem star_none {env : Env} {pos : Pos} : ∀ {es : List Expr}, (∀ x ∈ es, good x = true) → (backTo pos (starEach es env)).all (fun x => !x.1) = true
  | [], _ => rfl
  | e :: es, h => by
    rw [star_good (h e List.mem_cons_self)]
    show (true && (backTo pos (starEach es env)).all (fun x => !x.1)) = true
    rw [Bool.true_and]
    exact star_none fun x hx => h x (List.mem_cons_of_mem _ hx)
theorem goods {N : List Str} {sc : Scope} : ∀ {cs : CEs} {es : List Expr}, chkEs N sc cs es = true → ∀ x ∈ es, good x = true
  | .nil, [], _, x, hx => by cases hx
  | .nil, _ :: _, h, _, _ => by cases h
  | .cons _ _, [], h, _, _ => by cases h
  | .cons c cs, e :: es, h, x, hx => by
    simp only [chkEs, Bool.and_eq_true] at h
    rcases List.mem_cons.mp hx with rfl | hx
    · exact good_of h.1
    · exact goods h.2 x hx
theorem bltin {b : Blt} : bName b ∈ bltNames := by cases b <;> decide +kernel
/-- a built-in by its name -/
theorem callBlt (ok : X.calm = true) (free : ∀ x ∈ bltNames, X.mg x = none) {b : Blt} {p pos : Pos} {e : Expr} {es : List Expr} {t : TA} (hg : Gl X (bName b)) (he : good e = true) (hes : ∀ x ∈ es, good x = true) (ha : PA X (e :: es) t) :
    PE X (.Call (.Name (bName b) p) (e :: es) [] pos) (tCB (rBl X.K b) t) := by
  have hm := free _ (bltin (b := b))
  cases b with
  | len => exact pe_callB (bAny ok .len) hg hm (by decide +kernel) ha (by decide +kernel) (by decide +kernel) (star_good he) (star_all hes)
  | abs => exact pe_callB (bAny ok .abs) hg hm (by decide +kernel) ha (by decide +kernel) (by decide +kernel) (star_good he) (star_all hes)
  | min => exact pe_callB (bAny ok .min) hg hm (by decide +kernel) ha (by decide +kernel) (by decide +kernel) (star_good he) (star_all hes)
  | max => exact pe_callB (bAny ok .max) hg hm (by decide +kernel) ha (by decide +kernel) (by decide +kernel) (star_good he) (star_all hes)
  | int => exact pe_callTy (bAny ok .int) hg hm (by decide +kernel) ha (by decide +kernel) (by decide +kernel) (star_good he) (star_all hes)
  | str => exact pe_callTy (bAny ok .str) hg hm (by decide +kernel) ha (by decide +kernel) (by decide +kernel) (star_good he) (star_all hes)
  | tuple => exact pe_callTy (bAny ok .tuple) hg hm (by decide +kernel) ha (by decide +kernel) (by decide +kernel) (star_good he) (star_all hes)
  | list => exact pe_callTy (bAny ok .list) hg hm (by decide +kernel) ha (by decide +kernel) (by decide +kernel) (star_good he) (star_all hes)
  | all => exact pe_callB (bAny ok .all) hg hm (by decide +kernel) ha (by decide +kernel) (by decide +kernel) (star_good he) (star_all hes)
  | sum => exact pe_callB (bAny ok .sum) hg hm (by decide +kernel) ha (by decide +kernel) (by decide +kernel) (star_good he) (star_all hes)
  | sorted => exact pe_callB (bAny ok .sorted) hg hm (by decide +kernel) ha (by decide +kernel) (by decide +kernel) (star_good he) (star_all hes)
  | repr => exact pe_callB (bAny ok .repr) hg hm (by decide +kernel) ha (by decide +kernel) (by decide +kernel) (star_good he) (star_all hes)
  | bool => exact pe_callTy (bAny ok .bool) hg hm (by decide +kernel) ha (by decide +kernel) (by decide +kernel) (star_good he) (star_all hes)
/-- the type of a value -/
theorem ty_of {φ : Wd} {H : Hp} {st : Store} {v : V} {d : D} (s : Sim X.K φ H st) (r : RepV X.K φ H v d) : ∃ t : String, TyX X.K H v (.type t) ∧ ∀ ge : Bases, ∀ T, tBlt T = true → kitB t (match T with | .int => "int" | .bool => "bool" | .str => "str" | .tuple => "tuple" | .list => "list" | .dict => "dict" | .own _ => "") = some (isTy ge st d T) := by
  have hk : ∀ (a : String) (g : Ty → Bool), (kitB a "int" = some (g .int) ∧ kitB a "bool" = some (g .bool) ∧ kitB a "str" = some (g .str) ∧ kitB a "tuple" = some (g .tuple) ∧ kitB a "list" = some (g .list) ∧ kitB a "dict" = some (g .dict)) →
      ∀ T, tBlt T = true → kitB a (match T with | .int => "int" | .bool => "bool" | .str => "str" | .tuple => "tuple" | .list => "list" | .dict => "dict" | .own _ => "") = some (g T) := by
    intro a g h T hT
    cases T with
    | int => exact h.1
    | bool => exact h.2.1
    | str => exact h.2.2.1
    | tuple => exact h.2.2.2.1
    | list => exact h.2.2.2.2.1
    | dict => exact h.2.2.2.2.2
    | own _ => cases hT
  have kL : ∀ (ge : Bases) (d : D), (∀ T, isTy ge st d T = match T with | .list => true | _ => false) → ∀ T, tBlt T = true → kitB "list" (match T with | .int => "int" | .bool => "bool" | .str => "str" | .tuple => "tuple" | .list => "list" | .dict => "dict" | .own _ => "") = some (isTy ge st d T) := by
    intro ge d h
    refine hk "list" (isTy ge st d) ?_
    simp only [h]
    decide +kernel
  cases r with
  | non => exact ⟨"NoneType", .base .non, fun ge => hk _ _ (by simp only [isTy]; decide +kernel)⟩
  | bl b => exact ⟨"bool", .base (.bl b), fun ge => hk _ _ (by simp only [isTy]; decide +kernel)⟩
  | int i => exact ⟨"int", .base (.int i), fun ge => hk _ _ (by simp only [isTy]; decide +kernel)⟩
  | str z => exact ⟨"str", .base (.str _), fun ge => hk _ _ (by simp only [isTy]; decide +kernel)⟩
  | @tup p vs ds h1 h2 =>
    have e : ∀ ge : Bases, ∀ T, tBlt T = true → kitB "tuple" (match T with | .int => "int" | .bool => "bool" | .str => "str" | .tuple => "tuple" | .list => "list" | .dict => "dict" | .own _ => "") = some (isTy ge st (.tup ds) T) := fun ge => hk _ _ (by simp only [isTy]; decide +kernel)
    rcases h1 with (h1 | ⟨o, h1⟩) | ⟨o, its, n, hl, hc, _⟩
    · exact ⟨"tuple", .base (.tup h1), e⟩
    · exact ⟨"tuple", .fTuple h1, e⟩
    · exact ⟨"tuple", .kTuple hl hc, e⟩
  | @lst p vs ds h1 h3 =>
    have e := fun ge : Bases => kL ge (.lst ds) (fun T => by cases T <;> rfl)
    rcases h1 with ⟨h1 | ⟨o, h1⟩, _⟩
    · exact ⟨"list", .base (.lst h1), fun ge => e ge⟩
    · exact ⟨"list", .base (.frz h1), fun ge => e ge⟩
  | @scr p vs ds h1 h3 =>
    have e := fun ge : Bases => kL ge (.scr ds) (fun T => by cases T <;> rfl)
    rcases h1 with ⟨h1 | ⟨o, h1⟩, _⟩ | ⟨o, _, _, hl, hc, _⟩
    · exact ⟨"list", .base (.lst h1), fun ge => e ge⟩
    · exact ⟨"list", .base (.frz h1), fun ge => e ge⟩
    · exact ⟨"list", .kList hl hc, fun ge => e ge⟩
  | @ref p k hkk =>
    obtain ⟨c, hc, rc⟩ := s.at_ hkk
    cases c with
    | lst xs =>
      obtain ⟨vs, h1, _⟩ := rc
      exact ⟨"list", .base (.lst h1), fun ge => kL ge (.ref k) (fun T => by cases T <;> simp [isTy, hc])⟩
    | dict kvs =>
      obtain ⟨_, h1⟩ := rc
      exact ⟨"dict", .base (.dK h1), fun ge => hk _ _ (by simp only [isTy, hc]; decide +kernel)⟩
    | ins _ _ => exact rc.elim
end
end PC
end
section
set_option Elab.async false
set_option linter.all false
set_option autoImplicit false
set_option maxRecDepth 100000
set_option maxHeartbeats 1000000
namespace PC
open PySem L2 PyProof.Rows

/-! ### what is walked -/
/-- J walks the items ds while the cells of w stand -/
def IterOk (K : PySem.W.Frag) (φ : Wd) (H : Hp) (ds : List D) (w : Watch) (J : It) : Prop :=
  ∃ (G : Hp → Prop) (Y : Nat → Hp → V → Hp → Prop), Walk J ds.length G Y ∧ (∀ φ2 H2 st2, Ext K φ H φ2 H2 → Sim K φ2 H2 st2 → okW w st2 → G H2) ∧
    ∀ φ2 H2 st2 i x H3, i < ds.length → Ext K φ H φ2 H2 → Sim K φ2 H2 st2 → okW w st2 → Y i H2 x H3 →
      ∃ d, ds[i]? = some d ∧ Ext K φ2 H2 φ2 H3 ∧ Sim K φ2 H3 st2 ∧ RepV K φ2 H3 x d
abbrev RIt (K : PySem.W.Frag) : Wd → Hp → It → List D × Watch → Prop := fun φ H J w => IterOk K φ H w.1 w.2 J
abbrev tI (K : PySem.W.Frag) (f : Slots → Store → Res (List D × Watch)) : TI := tR K (RIt K) f

section
variable {X : Cx} {K : PySem.W.Frag} {φ : Wd} {H : Hp} {st : Store}
/-- a list that is walked, later -/
theorem later_list {v : V} {d : D} {xs : List D} (s : Sim K φ H st) (r : RepV K φ H v d) (e : deref st d = .lst xs) :
    ∃ p vs, v = .ref p ∧ SqL K H p vs ∧ ∀ φ2 H2 st2, Ext K φ H φ2 H2 → Sim K φ2 H2 st2 → okW (watch d xs) st2 → ∃ vs, SqL K H2 p vs ∧ RepVs K φ2 H2 vs xs := by
  cases r with
  | @lst p vs ds h b =>
    cases e
    exact ⟨p, vs, rfl, h.sq, fun φ2 H2 st2 e2 s2 _ => ⟨vs, .inl (e2.lst p vs h.1 h.2).1, b.ext e2⟩⟩
  | @scr p vs ds h b =>
    cases e
    exact ⟨p, vs, rfl, h.sq, fun φ2 H2 st2 e2 s2 _ => ⟨vs, h.elim (fun z => .inl (e2.lst p vs z.1 z.2).1) .inr, b.ext e2⟩⟩
  | @ref p k hk =>
    have hw : ∀ st2 : Store, okW (watch (.ref k) xs) st2 → st2[k]? = some (.lst xs) := fun st2 h => h (k, xs) (by simp [watch])
    obtain ⟨c, hc, rc⟩ := s.at_ hk
    simp only [deref, hc] at e
    cases c with
    | lst ys =>
      cases e
      obtain ⟨vs, h1, _⟩ := rc
      refine ⟨p, vs, rfl, .inl (.inl h1), fun φ2 H2 st2 e2 s2 w => ?_⟩
      obtain ⟨vs2, q1, q2⟩ := s2.cell k p _ (e2.pre k p hk) (hw st2 w)
      exact ⟨vs2, .inl (.inl q1), q2⟩
    | _ => cases e
  | _ => cases e
/-- the list at p, whatever it is, so long -/
def GL (K : PySem.W.Frag) (p : Addr) (n : Nat) (H : Hp) : Prop := ∃ vs, SqL K H p vs ∧ vs.length = n
theorem walkL {p : Addr} {n : Nat} : Walk (Itl K p) n (GL K p n) (fun i H x H' => H' = H ∧ ∀ xs, SqL K H p xs → xs[i]? = some x) :=
  ⟨fun i H hi ⟨vs, h, e⟩ => ⟨vs, vs[i]'(by omega), h, List.getElem?_eq_getElem (by omega)⟩, fun H ⟨vs, h, e⟩ => ⟨vs, h, by omega⟩, fun i H x H' _ _ y => y⟩
theorem iterL {p : Addr} {xs : List D} {w : Watch} (h : ∀ φ2 H2 st2, Ext K φ H φ2 H2 → Sim K φ2 H2 st2 → okW w st2 → ∃ vs, SqL K H2 p vs ∧ RepVs K φ2 H2 vs xs) : IterOk K φ H xs w (Itl K p) := by
  refine ⟨_, _, walkL, fun φ2 H2 st2 e s ow => ?_, fun φ2 H2 st2 i x H3 hi e s ow y => ?_⟩
  · obtain ⟨vs, h1, h2⟩ := h φ2 H2 st2 e s ow
    exact ⟨vs, h1, h2.length⟩
  · obtain ⟨vs, h1, h2⟩ := h φ2 H2 st2 e s ow
    obtain ⟨rfl, y⟩ := y
    obtain ⟨d, hd, rd⟩ := h2.get' (y vs h1)
    exact ⟨d, hd, Ext.refl, s, rd⟩
theorem iterT {p : Addr} {vs : List V} {xs : List D} {w : Watch} (h : SqT K H p vs) (r : RepVs K φ H vs xs) : IterOk K φ H xs w (Itt K p) := by
  have wk := walk_tup (K := K) (a := p) (xs := vs)
  rw [r.length] at wk
  refine ⟨_, _, wk, fun φ2 H2 st2 e s ow => e.tup p vs h, fun φ2 H2 st2 i x H3 hi e s ow y => ?_⟩
  obtain ⟨rfl, y⟩ := y
  obtain ⟨d, hd, rd⟩ := (r.ext e).get' y
  exact ⟨d, hd, Ext.refl, s, rd⟩
theorem iterS {z : List Nat} {w : Watch} : IterOk K φ H (z.map fun c => .str [c]) w (Its (sv z)) := by
  have wk := walk_str (z := sv z)
  have e0 : (sv z).cps.size = z.length := by show z.toArray.size = _; simp
  rw [e0] at wk
  refine ⟨_, _, by rw [List.length_map]; exact wk, fun φ2 H2 st2 e s ow => trivial, fun φ2 H2 st2 i x H3 hi e s ow y => ?_⟩
  obtain ⟨rfl, c, hc, rfl⟩ := y
  have hc : z.toArray[i]? = some c := hc
  rw [List.getElem?_toArray] at hc
  exact ⟨.str [c], by rw [List.getElem?_map, hc]; rfl, Ext.refl, s, .str [c]⟩
theorem rng_get {a b : Int} {i : Nat} (h : i < (b - a).toNat) : (rng a b)[i]? = some (.int (a + i)) := by
  unfold rng
  rw [List.getElem?_map, List.getElem?_range h]; rfl
theorem rng_len (a b : Int) : (rng a b).length = (b - a).toNat := by unfold rng; rw [List.length_map, List.length_range]
theorem iterR {a b : Int} {w : Watch} : IterOk K φ H (rng a b) w (Itr a (b - a).toNat) := by
  have wk := walk_range (lo := a) (n := (b - a).toNat)
  refine ⟨_, _, by rw [rng_len]; exact wk, fun φ2 H2 st2 e s ow => trivial, fun φ2 H2 st2 i x H3 hi e s ow y => ?_⟩
  obtain ⟨rfl, rfl⟩ := y
  rw [rng_len] at hi
  exact ⟨_, rng_get hi, Ext.refl, s, .int _⟩
theorem iterRR {a b : Int} {w : Watch} : IterOk K φ H (rng a b).reverse w (Itc (a + (((b - a).toNat : Nat) : Int) - 1) (-1) (b - a).toNat) := by
  have wk := walk_rangeC (lo := a + (((b - a).toNat : Nat) : Int) - 1) (c := -1) (n := (b - a).toNat)
  refine ⟨_, _, by rw [List.length_reverse, rng_len]; exact wk, fun φ2 H2 st2 e s ow => trivial, fun φ2 H2 st2 i x H3 hi e s ow y => ?_⟩
  obtain ⟨rfl, rfl⟩ := y
  rw [List.length_reverse, rng_len] at hi
  refine ⟨_, ?_, Ext.refl, s, .int _⟩
  rw [List.getElem?_reverse (by rw [rng_len]; exact hi), rng_len, rng_get (by omega)]
  congr 2
  omega
theorem enumD_len : ∀ (n : Nat) (xs : List D), (enumD n xs).length = xs.length
  | _, [] => rfl
  | n, x :: xs => by rw [enumD, List.length_cons, List.length_cons, enumD_len]
theorem enumD_get : ∀ (n : Nat) (xs : List D) (i : Nat) (d : D), xs[i]? = some d → (enumD n xs)[i]? = some (.tup [.int ((n + i : Nat) : Int), d])
  | n, x :: xs, 0, d, h => by cases (by simpa using h : x = d); rfl
  | n, x :: xs, i + 1, d, h => by
    have := enumD_get (n + 1) xs i d (by simpa using h)
    rw [enumD, List.getElem?_cons_succ, this]
    congr 4
    omega
theorem zipD_len : ∀ (xs ys : List D), (zipD xs ys).length = min xs.length ys.length
  | [], ys => by rw [zipD]; simp; exact fun _ _ _ _ h => nomatch h
  | x :: xs, [] => by rw [zipD]; simp; exact fun _ _ _ _ _ h => nomatch h
  | x :: xs, y :: ys => by rw [zipD, List.length_cons, List.length_cons, List.length_cons, zipD_len]; omega
theorem zipD_get : ∀ (xs ys : List D) (i : Nat) (d e : D), xs[i]? = some d → ys[i]? = some e → (zipD xs ys)[i]? = some (.tup [d, e])
  | x :: xs, y :: ys, 0, d, e, h, h' => by cases (by simpa using h : x = d); cases (by simpa using h' : y = e); rfl
  | x :: xs, y :: ys, i + 1, d, e, h, h' => by
    rw [zipD, List.getElem?_cons_succ]
    exact zipD_get xs ys i d e (by simpa using h) (by simpa using h')
/-- a new tuple in a turn -/
theorem turnT {st2 : Store} {T : Addr} {vs : List V} {ds : List D} (s : Sim K φ H st2) (hn : H T = none) (r : RepVs K φ H vs ds) : Ext K φ H φ (upd H T (.tup vs)) ∧ Sim K φ (upd H T (.tup vs)) st2 ∧ RepV K φ (upd H T (.tup vs)) (.ref T) (.tup ds) :=
  ⟨Ext.fresh hn, s.new hn, .tup (.of upd_same) (r.ext (Ext.fresh hn))⟩
theorem iterE {p : Addr} {xs : List D} {w : Watch} (h : ∀ φ2 H2 st2, Ext K φ H φ2 H2 → Sim K φ2 H2 st2 → okW w st2 → ∃ vs, SqL K H2 p vs ∧ RepVs K φ2 H2 vs xs) : IterOk K φ H (enumD 0 xs) w (Ite K p) := by
  refine ⟨GL K p xs.length, fun i H v H' => ∃ T x, v = .ref T ∧ H T = none ∧ H' = upd H T (.tup [.int (i : Nat), x]) ∧ ∀ xs, SqL K H p xs → xs[i]? = some x, ⟨?_, ?_, fun i H x H' _ _ y => y⟩, fun φ2 H2 st2 e s ow => ?_, fun φ2 H2 st2 i x H3 hi e s ow y => ?_⟩
  · rintro i H hi ⟨vs, h, e⟩
    rw [enumD_len] at hi
    exact ⟨vs, vs[i]'(by omega), h, List.getElem?_eq_getElem (by omega)⟩
  · rintro H ⟨vs, h, e⟩
    refine ⟨vs, h, ?_⟩
    rw [enumD_len]; omega
  · obtain ⟨vs, h1, h2⟩ := h φ2 H2 st2 e s ow
    exact ⟨vs, h1, h2.length⟩
  · obtain ⟨vs, h1, h2⟩ := h φ2 H2 st2 e s ow
    obtain ⟨T, x', rfl, hn, rfl, y⟩ := y
    obtain ⟨d, hd, rd⟩ := h2.get' (y vs h1)
    obtain ⟨q1, q2, q3⟩ := turnT (ds := [.int i, d]) s hn (.cons (.int _) (.cons rd .nil))
    refine ⟨_, ?_, q1, q2, q3⟩
    have := enumD_get 0 xs i d hd
    rw [Nat.zero_add] at this
    exact this
theorem iterZ {p q : Addr} {xs ys : List D} {w : Watch} (h : ∀ φ2 H2 st2, Ext K φ H φ2 H2 → Sim K φ2 H2 st2 → okW w st2 → ∃ vs, SqL K H2 p vs ∧ RepVs K φ2 H2 vs xs)
    (h' : ∀ φ2 H2 st2, Ext K φ H φ2 H2 → Sim K φ2 H2 st2 → okW w st2 → ∃ vs, SqL K H2 q vs ∧ RepVs K φ2 H2 vs ys) : IterOk K φ H (zipD xs ys) w (Itz K p q) := by
  refine ⟨fun H => GL K p xs.length H ∧ GL K q ys.length H, (Itz K p q).yld, ⟨?_, ?_, fun i H x H' _ _ y => y⟩, fun φ2 H2 st2 e s ow => ?_, fun φ2 H2 st2 i x H3 hi e s ow y => ?_⟩
  · rintro i H hi ⟨⟨vs, h, e⟩, ⟨vs', h', e'⟩⟩
    rw [zipD_len] at hi
    exact ⟨vs, vs', vs[i]'(by omega), vs'[i]'(by omega), h, h', List.getElem?_eq_getElem (by omega), List.getElem?_eq_getElem (by omega)⟩
  · rintro H ⟨⟨vs, h, e⟩, ⟨vs', h', e'⟩⟩
    refine ⟨vs, vs', h, h', ?_⟩
    rw [zipD_len]; omega
  · obtain ⟨vs, h1, h2⟩ := h φ2 H2 st2 e s ow
    obtain ⟨vs', h1', h2'⟩ := h' φ2 H2 st2 e s ow
    exact ⟨⟨vs, h1, h2.length⟩, ⟨vs', h1', h2'.length⟩⟩
  · obtain ⟨vs, h1, h2⟩ := h φ2 H2 st2 e s ow
    obtain ⟨vs', h1', h2'⟩ := h' φ2 H2 st2 e s ow
    obtain ⟨T, x1, x2, rfl, hn, rfl, y, y'⟩ := y
    obtain ⟨d, hd, rd⟩ := h2.get' (y vs h1)
    obtain ⟨d', hd', rd'⟩ := h2'.get' (y' vs' h1')
    obtain ⟨q1, q2, q3⟩ := turnT (ds := [d, d']) s hn (.cons rd (.cons rd' .nil))
    exact ⟨_, zipD_get xs ys i d d' hd hd', q1, q2, q3⟩
end
section
variable {X : Cx} {tg : Expr}
/-- iter(v), by what v is -/
theorem iterV {pins : List (Addr × Obj)} {s : Shared} {σ : L2.St} {φ : Wd} {H : Hp} {st : Store} {v : V} {u : Value} {d : D} {R : It → Hp → Prop} (I : Inv X pins σ H s) (ru : RelV v u) (sim : Sim X.K φ H st) (rv : RepV X.K φ H v d)
    (post : Post X.K (RIt X.K) noW φ H (walkD st d) R) : wpAny (model X.prog X.w) X.A (pyIter u) (PIE X pins σ tg R) X.xe s := by
  have lst : ∀ xs, deref st d = .lst xs → Post X.K (RIt X.K) noW φ H (.ok (xs, watch d xs) st) R → wpAny (model X.prog X.w) X.A (pyIter u) (PIE X pins σ tg R) X.xe s := by
    intro xs e post
    obtain ⟨p, vs, rfl, h1, h2⟩ := later_list sim rv e
    cases ru
    obtain ⟨its, r1, ⟨o, n, e1, c1, _, d1⟩, _⟩ := I.list h1
    have q : R (Itl X.K p) H := post φ H _ Ext.refl sim (iterL h2)
    exact wpAny_pyIter_list ⟨o, e1, c1, n, d1⟩ (pi_one (tk := s.toks) I _ (turn_list p _) ⟨_, Heap.get?_push_size _ rfl, rfl, rfl⟩ q)
  cases d with
  | str z =>
    rw [rv.str_inv] at ru
    obtain ⟨t, rfl⟩ := ru
    have q : R (Its (sv z)) H := post φ H _ Ext.refl sim iterS
    cases ha : (sv z).cps.all (· < 128)
    · exact wpAny_pyIter_wide ha (pi_one (tk := s.toks) I _ (turn_str _ (sv z) t "str_iterator" (.inr rfl)) ⟨_, Heap.get?_push_size _ rfl, rfl, rfl⟩ q)
    · exact wpAny_pyIter_ascii ha (pi_one (tk := s.toks) I _ (turn_str _ (sv z) t "str_ascii_iterator" (.inl rfl)) ⟨_, Heap.get?_push_size _ rfl, rfl, rfl⟩ q)
  | lst xs => exact lst xs rfl post
  | scr xs => exact lst xs rfl post
  | tup xs =>
    cases rv with
    | @tup p vs _ h1 h2 =>
      cases ru
      obtain ⟨its, r1, pt, _⟩ := I.tuple h1
      have q : R (Itt X.K p) H := post φ H _ Ext.refl sim (iterT h1 h2)
      exact wpAny_pyIter_tuple pt (pi_one (tk := s.toks) I _ (turn_tuple p _) ⟨_, Heap.get?_push_size _ rfl, rfl, rfl⟩ q)
  | ref k =>
    simp only [walkD, items] at post
    cases e : deref st (.ref k) with
    | lst xs => rw [e] at post; exact lst xs e post
    | tup xs =>
      have := deref_flat (st := st) (d := .ref k) (by rw [e]; exact fun _ z => nomatch z)
      rw [this] at e; cases e
    | _ => rw [e] at post; exact False.elim post
  | _ => exact False.elim post
theorem piOf {e : Expr} {f : Slots → Store → Res D} (h : PE X e (tD X.K f)) : PI X tg e (tI X.K fun τ st => (f τ st).bind fun x st => walkD st x) := by
  refine ⟨fun pins s σ H R I q => ?_⟩
  have q2 : tD X.K f σ H fun v H1 => ∃ φ st d, Sim X.K φ H1 st ∧ RepV X.K φ H1 v d ∧ Post X.K (RIt X.K) noW φ H1 (walkD st d) R :=
    q.bind fun φ τ x st v H1 rs s1 rv post => ⟨φ, st, x, s1, rv, post⟩
  refine thn (h.run pins s σ H _ I q2) fun u s1 ⟨v, H1, I1, r1, φ, st, d, sim, rv, post⟩ => ?_
  exact iterV I1 r1 sim rv post
end
end PC
end
section
set_option Elab.async false
set_option linter.all false
set_option autoImplicit false
set_option maxRecDepth 100000
set_option maxHeartbeats 1000000
namespace PC
open PySem L2 PyProof.Rows

/-! ### names that are bound -/
def setAllV (σ : L2.St) : List Nat → List V → L2.St
  | i :: is, v :: vs => setAllV (σ.set i (some v)) is vs
  | _, _ => σ
def gNs : List Nat → TGs
  | [] => gNil
  | i :: is => gCons (gName i) (gNs is)
theorem setAllV_len : ∀ (is : List Nat) (vs : List V) (σ : L2.St), (setAllV σ is vs).length = σ.length
  | [], _, _ => by rw [setAllV]; exact fun _ _ _ _ h => nomatch h
  | i :: is, [], _ => by rw [setAllV]; exact fun _ _ _ _ _ h => nomatch h
  | i :: is, v :: vs, σ => by rw [setAllV, setAllV_len is vs, List.length_set]
theorem setAllV_out : ∀ (is : List Nat) (vs : List V) (σ : L2.St) (j : Nat), j ∉ is → (setAllV σ is vs)[j]? = σ[j]?
  | [], _, _, _, _ => by rw [setAllV]; exact fun _ _ _ _ h => nomatch h
  | i :: is, [], _, _, _ => by rw [setAllV]; exact fun _ _ _ _ _ h => nomatch h
  | i :: is, v :: vs, σ, j, h => by
    rw [setAllV, setAllV_out is vs _ j (fun z => h (List.mem_cons_of_mem _ z)), List.getElem?_set_ne (fun (e : i = j) => h (e ▸ List.mem_cons_self))]
theorem wipe_in : ∀ (t : List Nat) (σ : L2.St) (j : Nat), j ∈ t → j < σ.length → (L2.wipe σ t)[j]? = some none
  | v :: vs, σ, j, h, hl => by
    unfold L2.wipe
    by_cases e : v = j
    · subst e
      rw [List.getElem?_set_self (by rw [wipe_length]; exact hl)]
    · rw [List.getElem?_set_ne e]
      exact wipe_in vs σ j ((List.mem_cons.mp h).resolve_left fun z => e z.symm) hl
theorem wipe_out : ∀ (t : List Nat) (σ : L2.St) (j : Nat), j ∉ t → (L2.wipe σ t)[j]? = σ[j]?
  | [], _, _, _ => rfl
  | v :: vs, σ, j, h => by
    unfold L2.wipe
    rw [List.getElem?_set_ne (fun (e : v = j) => h (e ▸ List.mem_cons_self))]
    exact wipe_out vs σ j fun z => h (List.mem_cons_of_mem _ z)
theorem wipe_same {σ σ' : L2.St} {t : List Nat} (hl : σ'.length = σ.length) (h : ∀ j, j ∉ t → σ'[j]? = σ[j]?) : L2.wipe σ' t = L2.wipe σ t := by
  apply List.ext_getElem?
  intro j
  by_cases hj : j ∈ t
  · by_cases hlt : j < σ.length
    · rw [wipe_in t σ j hj hlt, wipe_in t σ' j hj (by omega)]
    · rw [List.getElem?_eq_none (by rw [wipe_length]; omega), List.getElem?_eq_none (by rw [wipe_length]; omega)]
  · rw [wipe_out t σ j hj, wipe_out t σ' j hj, h j hj]
theorem gNs_ok : ∀ {is : List Nat} {vs : List V} {σ : L2.St} {H : Hp} {Q : L2.St → Hp → Prop}, vs.length = is.length → Q (setAllV σ is vs) H → gNs is vs σ H Q
  | [], [], _, _, _, _, h => ⟨rfl, h⟩
  | [], _ :: _, _, _, _, e, _ => nomatch e
  | _ :: _, [], _, _, _, e, _ => nomatch e
  | i :: is, v :: vs, σ, H, Q, e, h => ⟨v, vs, rfl, gNs_ok (σ := σ.set i (some v)) (by simpa using e) h⟩
section
variable {K : PySem.W.Frag} {φ : Wd} {H : Hp}
theorem RepS.setAll : ∀ {is : List Nat} {vs : List V} {ds : List D} {σ : L2.St} {τ : Slots}, RepS K φ H σ τ → RepVs K φ H vs ds → RepS K φ H (setAllV σ is vs) (PC.setAll τ is ds)
  | [], _, _, _, _, r, _ => by
    rw [setAllV, PC.setAll]
    · exact r
    · exact fun _ _ _ _ h => nomatch h
    · exact fun _ _ _ _ h => nomatch h
  | i :: is, _, _, _, _, r, .nil => by
    rw [setAllV, PC.setAll]
    · exact r
    · exact fun _ _ _ _ _ h => nomatch h
    · exact fun _ _ _ _ _ h => nomatch h
  | i :: is, v :: vs, d :: ds, _, _, r, .cons a b => RepS.setAll (is := is) (r.set a i) b
end
/-- the names of a loop or a comprehension, by the core -/
def gT (K : PySem.W.Frag) (t : List Nat) (one : Bool) : TG := fun v σ H Q => ∃ φ τ st d, RepS K φ H σ τ ∧ Sim K φ H st ∧ RepV K φ H v d ∧
  match bindT t one d τ st with
  | some τ' => ∀ σ', RepS K φ H σ' τ' → L2.wipe σ' t = L2.wipe σ t → Q σ' H
  | none => False
section
variable {Y : Cx}
theorem PG.weak {e : Expr} {t t' : TG} (h : PG Y e t) (k : ∀ v σ H Q, t' v σ H Q → t v σ H Q) : PG Y e t' := ⟨fun pins s σ H v u Q I r q => h.run pins s σ H v u Q I r (k v σ H Q q)⟩
/-- which names may be stored -/
def Sto (Y : Cx) (x : Str) : Prop := Loc Y.env.scope x ∧ (Y.fn x = true ∨ Y.env.scope.names.lookup x = some .local)
theorem pgNames {scope' : Scope} (nd : Y.N.Nodup) (hs : ∀ x, locB scope' x = true → Sto Y x) : ∀ {is : List Nat} {es : List Expr}, chkNames Y.N scope' is es = true → PGs Y es (gNs is)
  | [], [], _ => pgs_nil
  | [], _ :: _, h => by cases h
  | _ :: _, [], h => by cases h
  | i :: is, e :: es, h => by
    cases e with
    | Name x p =>
      simp only [chkNames, Bool.and_eq_true, decide_eq_true_eq] at h
      obtain ⟨h1, h2⟩ := hs x h.1.2
      exact pgs_cons (pg_name nd h.1.1 h1 h2) (pgNames nd hs h.2)
    | _ => cases h
theorem each_len {env : Env} {sc : Scope} {N : List Str} : ∀ {is : List Nat} {es : List Expr}, chkNames N sc is es = true → (assignEach es env).length = is.length ∧ (assignEach es env).findIdx? (·.1) = none
  | [], [], _ => ⟨rfl, rfl⟩
  | [], _ :: _, h => by cases h
  | _ :: _, [], h => by cases h
  | i :: is, e :: es, h => by
    cases e with
    | Name x p =>
      simp only [chkNames, Bool.and_eq_true] at h
      obtain ⟨h1, h2⟩ := each_len (env := env) h.2
      have e1 : assignEach (.Name x p :: es) env = (false, assign (.Name x p) env) :: assignEach es env := rfl
      rw [e1]
      refine ⟨by rw [List.length_cons, List.length_cons, h1], ?_⟩
      rw [List.findIdx?_cons, h2]
      rfl
    | _ => cases h
theorem pgT (calm : Y.calm = true) (nd : Y.N.Nodup) {scope' : Scope} (hs : ∀ x, locB scope' x = true → Sto Y x) {t : List Nat} {one : Bool} {tg : Expr} (h : chkT Y.N scope' t one tg = true) : PG Y tg (gT Y.K t one) := by
  unfold chkT at h
  cases one with
  | true =>
    simp only at h
    split at h
    · rename_i i x p
      simp only [Bool.and_eq_true, decide_eq_true_eq] at h
      obtain ⟨h1, h2⟩ := hs x h.2
      refine PG.weak (pg_name nd h.1 h1 h2) fun v σ H Q ⟨φ, τ, st, d, rs, sim, rv, q⟩ => ?_
      simp only [bindT] at q
      exact q _ (rs.set rv i) (wipe_same (by rw [List.length_set]) fun j hj => List.getElem?_set_ne (fun e => hj (by rw [← e]; exact List.mem_singleton.mpr rfl)))
    · cases h
  | false =>
    simp only at h
    split at h
    · rename_i es k p
      obtain ⟨e1, e2⟩ := each_len (env := Y.env) h
      refine PG.weak (pg_tup calm (pgNames nd hs h) e1 e2) fun v σ H Q ⟨φ, τ, st, d, rs, sim, rv, q⟩ => ?_
      simp only [bindT] at q
      cases ed : deref st d with
      | tup ds =>
        rw [ed] at q
        by_cases hl : ds.length = t.length
        · simp only [if_pos hl] at q
          obtain ⟨a, vs, rfl, h1, h2⟩ := tup_at rv ed
          exact ⟨a, vs, rfl, h1, by rw [h2.length]; exact hl, gNs_ok (by rw [h2.length]; exact hl) (q _ (rs.setAll h2) (wipe_same (setAllV_len _ _ _) (setAllV_out _ _ _)))⟩
        · simp only [if_neg hl] at q
      | _ => rw [ed] at q; exact q.elim
    · cases h
end
theorem ownOf_snd (N : List Str) : ∀ t : List Nat, (ownOf N t).map (·.2) = t
  | [] => rfl
  | i :: is => by rw [ownOf, List.map_cons, ownOf_snd N is]
section
variable {X : Cx}
/-- a list of one's own is put otherwise, seen from where it was not there -/
theorem Ext.ownput {K : PySem.W.Frag} {φ φ' : Wd} {H H' : Hp} {p : Addr} {xs : List V} {o : HO} (e : Ext K φ H φ' H') (hn : H p = none) (hH : H' p = some (.lst xs)) (hf : ¬ φ'.F p) : Ext K φ H φ' (upd H' p o) := by
  have e0 : Ext0 K φ' H' φ' (upd H' p o) := Ext0.own hH hf
  refine ⟨⟨e.pre, fun q vs h => e0.tup q vs (e.tup q vs h), fun q vs h h' => let z := e.lst q vs h h'; e0.lst q vs z.1 z.2⟩, fun q u h hc => ?_, e.new, e.newF, fun q h => e.dom q (dom_upd h)⟩
  · rw [upd_ne (ne_of_none h hn)]
    exact e.keep q u h hc
theorem sto_blk {s : Shared} {H : Hp} {scope : Scope} {C : Addr} {cl : List (Str × Addr)} {fp : List Addr} (x : Str) (h : locB scope x = true) : Sto (X.blk s H scope (compEnvC scope cl C X.env) fp) x := by
  have hk : ∀ k, k ≠ NameKind.free → scope.names.lookup x = some k → (relS scope X.env.scope).names.lookup x = some k := fun k hk e => lookup_relS_keep hk e
  rcases locB_ok h with e | e
  · exact ⟨.inl (hk _ (by decide) e), .inr (hk _ (by decide) e)⟩
  · refine ⟨.inr (hk _ (by decide) e), .inl ?_⟩
    show (scope.names.lookup x == some NameKind.cell) = true
    rw [e]; rfl
theorem lcO (calm : X.calm = true) (nd : X.N.Nodup) {t : List Nat} {one : Bool} {tg iter elt : Expr} {ifs : List Expr} {scope : Scope} {pos : Pos} {fI : Slots → Store → Res (List D × Watch)} {fC : Slots → Store → Res Bool} {fE : Slots → Store → Res D}
    (hblk : blkC X.N X.env.scope scope (ownOf X.N t) = true) (hT : chkT X.N scope t one tg = true) (hi : PI X tg iter (tI X.K fI))
    (hc : ∀ (s : Shared) (H : Hp) (C : Addr) (cl : List (Str × Addr)) (fp : List Addr), PTs (X.blk s H scope (compEnvC scope cl C X.env) fp) ifs (tR X.K (fun _ _ (v : Bool) b => v = b) fC))
    (he : ∀ (s : Shared) (H : Hp) (C : Addr) (cl : List (Str × Addr)) (fp : List Addr), PE (X.blk s H scope (compEnvC scope cl C X.env) fp) elt (tD X.K fE)) :
    ∃ g tt te, (PI X tg iter (tI X.K fI)) ∧ (∀ (s : Shared) (H : Hp) (C : Addr) (cl : List (Str × Addr)) (fp : List Addr), PG (X.blk s H scope (compEnvC scope cl C X.env) fp) tg g) ∧
      (∀ (s : Shared) (H : Hp) (C : Addr) (cl : List (Str × Addr)) (fp : List Addr), PTs (X.blk s H scope (compEnvC scope cl C X.env) fp) ifs tt) ∧
      (∀ (s : Shared) (H : Hp) (C : Addr) (cl : List (Str × Addr)) (fp : List Addr), PE (X.blk s H scope (compEnvC scope cl C X.env) fp) elt te) ∧
      ∀ σ H Q, tO X.K (fun τ st => (fI τ st).bind fun w st => gd (w.1.length ≤ lineN) (lcL (fun x st => match bindT t one x (PC.wipe τ t) st with
        | some τ' => (fC τ' st).bind fun b st => match b with
          | true => (fE τ' st).bind fun y st => .ok (some y) st
          | false => .ok none st
        | none => .err) w.2 w.1 st)) σ H Q → tLc (tI X.K fI) g tt te ((ownOf X.N t).map (·.2)) σ H Q := by
  refine ⟨gT X.K t one, _, _, hi, fun s H C cl fp => pgT (Y := X.blk s H scope (compEnvC scope cl C X.env) fp) calm nd (fun x hx => sto_blk x hx) hT, hc, he, fun σ H Q h => ?_⟩
  rw [ownOf_snd]
  obtain ⟨φ0, τ, st0, rs0, sim0, post0⟩ := h
  refine ⟨φ0, τ, st0, rs0, sim0, post0.bind fun w st1 φ1 H1 J e1 s1 hJ post1 => ?_⟩
  obtain ⟨hlen, post⟩ := gdO post1
  generalize hst : (fun (x : D) (st : Store) => match bindT t one x (PC.wipe τ t) st with
        | some τ' => (fC τ' st).bind fun b st => match b with
          | true => (fE τ' st).bind fun y st => .ok (some y) st
          | false => .ok none st
        | none => .err) = step at post
  obtain ⟨ds, w⟩ := w
  have hJ : IterOk X.K φ1 H1 ds w J := hJ
  have hlen : ds.length ≤ lineN := hlen
  have post : PostO X.K φ1 H1 (lcL step w ds st1) Q := post
  have rs1 := rs0.ext e1
  obtain ⟨G, Y, walk, hG, hY⟩ := hJ
  intro A hA
  refine lc_it walk (fun i H2 => ∃ φ st ys acc, Ext X.K φ1 H1 φ H2 ∧ Sim X.K φ H2 st ∧ RepS X.K φ H2 σ τ ∧ H2 A = some (.lst acc) ∧ ¬ φ.F A ∧ A ∉ φ.c ∧ RepVs X.K φ H2 acc ys ∧ acc.length ≤ i ∧
    PostO X.K φ1 H1 ((lcL step w (ds.drop i) st).bind fun zs st => .ok (ys ++ zs) st) Q) ?_ ?_ ?_ ?_
  · refine ⟨φ1, st1, [], [], Ext.fresh hA, s1.new hA, rs1.ext (Ext.fresh hA), upd_same, s1.freshF hA, s1.fresh hA, .nil, Nat.le_refl _, ?_⟩
    rw [List.drop_zero]
    cases e : lcL step w ds st1 with
    | ok zs st => rw [e] at post; exact post
    | exc d st => rw [e] at post; exact post
    | err => rw [e] at post; exact post
  · rintro i H2 hi ⟨φ, st, ys, acc, e2, s2, _, _, _, _, _, _, p2⟩
    refine hG φ H2 st e2 s2 ?_
    apply Classical.byContradiction
    intro hn
    cases ed : ds.drop i with
    | nil => rw [ed] at p2; simp only [lcL, gw, if_neg hn] at p2; exact p2
    | cons d r => rw [ed] at p2; simp only [lcL, gw, if_neg hn] at p2; exact p2
  · rintro i x H2 H3 hi ⟨φ, st, ys, acc, e2, s2, rs2, hA2, hF2, hc2, ra2, hl2, p2⟩ y
    have how : okW w st := by
      apply Classical.byContradiction
      intro hn
      cases ed : ds.drop i with
      | nil => rw [ed] at p2; simp only [lcL, gw, if_neg hn] at p2; exact p2
      | cons d r => rw [ed] at p2; simp only [lcL, gw, if_neg hn] at p2; exact p2
    obtain ⟨d, hd, e3, s3, rx⟩ := hY φ H2 st i x H3 hi e2 s2 how y
    have ed : ds.drop i = d :: ds.drop (i + 1) := by
      obtain ⟨h1, h2⟩ := List.getElem?_eq_some_iff.mp hd
      rw [List.drop_eq_getElem_cons h1, h2]
    rw [ed] at p2
    simp only [lcL, gw, if_pos how] at p2
    have hsz : acc.length < sizeLine := by rw [← line_eq]; omega
    have hA3 : H3 A = some (.lst acc) := e3.keep A _ hA2 hc2
    refine ⟨φ, PC.wipe τ t, st, d, (rs2.ext e3).wipe t, s3, rx, ?_⟩
    have hstep : step d st = match bindT t one d (PC.wipe τ t) st with
        | some τ' => (fC τ' st).bind fun b st => match b with
          | true => (fE τ' st).bind fun y st => .ok (some y) st
          | false => .ok none st
        | none => .err := by rw [← hst]
    cases eb : bindT t one d (PC.wipe τ t) st with
    | none => rw [hstep, eb] at p2; exact p2
    | some τ' =>
      rw [hstep, eb] at p2
      intro σ' rs' hw
      refine ⟨hw.trans (wipe_same (wipe_length _ _) fun j hj => wipe_out t σ j hj), ?_⟩
      -- the test
      refine ⟨φ, τ', st, rs', s3, ?_⟩
      have p3 : PostO X.K φ1 H1 ((fC τ' st).bind fun b st => (match b with
          | true => (fE τ' st).bind fun y st => .ok (some y) st
          | false => .ok none st : Res (Option D)).bind fun o st => (lcL step w (ds.drop (i + 1)) st).bind fun zs st => .ok (ys ++ (o.toList ++ zs)) st) Q := by
        have : ∀ r : Res Bool, ((r.bind fun b st => (match b with
          | true => (fE τ' st).bind fun y st => .ok (some y) st
          | false => .ok none st : Res (Option D))).bind fun o st => (lcL step w (ds.drop (i + 1)) st).bind fun zs st => .ok (o.toList ++ zs) st).bind (fun zs st => Res.ok (ys ++ zs) st) =
            r.bind fun b st => (match b with
          | true => (fE τ' st).bind fun y st => .ok (some y) st
          | false => .ok none st : Res (Option D)).bind fun o st => (lcL step w (ds.drop (i + 1)) st).bind fun zs st => .ok (ys ++ (o.toList ++ zs)) st := by
          intro r
          cases r with
          | ok b st =>
            simp only [Res.bind_ok]
            generalize (match b with
              | true => (fE τ' st).bind fun y st => .ok (some y) st
              | false => .ok none st : Res (Option D)) = r2
            cases r2 with
            | ok o st =>
              simp only [Res.bind_ok]
              cases lcL step w (ds.drop (i + 1)) st <;> rfl
            | exc d st => rfl
            | err => rfl
          | exc d st => rfl
          | err => rfl
        rw [this] at p2
        exact p2
      have e13 := e2.trans e3
      have b1 : ∀ {φ' H' stq}, Ext X.K φ H3 φ' H' → Sim X.K φ' H' stq → H' A = some (.lst acc) ∧ ¬ φ'.F A ∧ A ∉ φ'.c := by
        intro φ' H' stq ex sx
        have h1 : H' A = some (.lst acc) := ex.keep A _ hA3 hc2
        have h2 : A ∉ φ'.c := fun hm => by
          have := ex.new A hm hc2
          rw [hA3] at this; cases this
        refine ⟨h1, fun hf => ?_, h2⟩
        have := ex.newF A hf hF2
        rw [hA3] at this; cases this
      cases ec : fC τ' st with
      | exc d2 st2 =>
        rw [ec] at p3
        exact fun φ' H' ex sx => p3 φ' H' (e13.trans ex) sx
      | err => rw [ec] at p3; exact p3
      | ok b st2 =>
        rw [ec] at p3
        simp only [Res.bind_ok] at p3
        intro φ4 H4 b' e4 s4 hb
        cases hb
        have e14 := e13.trans e4
        have rs4 := rs'.ext e4
        have rs4' := (rs2.ext e3).ext e4
        obtain ⟨hA4, hF4, hc4⟩ := b1 e4 s4
        have ra4 := (ra2.ext e3).ext e4
        cases b with
        | false =>
          rw [if_neg Bool.false_ne_true]
          simp only [Res.bind_ok, Option.toList, List.nil_append] at p3
          exact ⟨φ4, st2, ys, acc, e14, s4, rs4', hA4, hF4, hc4, ra4, Nat.le_succ_of_le hl2, p3⟩
        | true =>
          rw [if_pos rfl]
          simp only at p3
          refine ⟨φ4, τ', st2, rs4, s4, ?_⟩
          cases ee : fE τ' st2 with
          | exc d2 st3 =>
            rw [ee] at p3
            exact fun φ' H' ex sx => p3 φ' H' (e14.trans ex) sx
          | err => rw [ee] at p3; exact p3
          | ok y st3 =>
            rw [ee] at p3
            simp only [Res.bind_ok, Option.toList] at p3
            intro φ5 H5 v5 e5 s5 rv5
            have hA5 : H5 A = some (.lst acc) := e5.keep A _ hA4 hc4
            have hc5 : A ∉ φ5.c := fun hm => by
              have := e5.new A hm hc4
              rw [hA4] at this; cases this
            have hF5 : ¬ φ5.F A := fun hf => by
              have := e5.newF A hf hF4
              rw [hA4] at this; cases this
            have e15 := e14.trans e5
            have x0 : Ext0 X.K φ5 H5 φ5 (upd H5 A (.lst (acc ++ [v5]))) := Ext0.own hA5 hF5
            refine ⟨acc, hA5, hsz, φ5, st3, ys ++ [y], acc ++ [v5], e15.ownput hA hA5 hF5, s5.own hA5 hF5 hc5, (rs4'.ext e5).ext0 x0, upd_same, hF5, hc5, ((ra4.ext e5).append (.cons rv5 .nil)).ext0 x0, by rw [List.length_append]; exact Nat.succ_le_succ hl2, ?_⟩
            have : (fun (zs : List D) (st : Store) => Res.ok (ys ++ ([y] ++ zs)) st) = fun zs st => Res.ok (ys ++ [y] ++ zs) st := by
              funext zs st
              rw [List.append_assoc]
            rw [this] at p3
            exact p3
  · rintro H2 ⟨φ, st, ys, acc, e2, s2, _, hA2, hF2, hc2, ra2, _, p2⟩
    rw [List.drop_length] at p2
    have how : okW w st := by
      apply Classical.byContradiction
      intro hn
      simp only [lcL, gw, if_neg hn] at p2
      exact p2
    simp only [lcL, gw, if_pos how, Res.bind_ok, List.append_nil] at p2
    exact p2 φ H2 A acc e2 s2 hA hA2 hF2 hc2 ra2
end
end PC
end
section
set_option Elab.async false
set_option linter.all false
set_option autoImplicit false
set_option maxRecDepth 100000
namespace PC
open PySem L2 PyProof.Rows
/-! which text a core has -/
section
variable {N : List Str} {sc : Scope} {e tg : Expr}
theorem iv_name1 {i : Nat} (h : chkE N sc (.var i) e = true) : ∃ x p, e = .Name x p := by
  cases e <;> first | exact ⟨_, _, rfl⟩ | cases h
theorem iv_non (h : chkE N sc .non e = true) : ∃ k p, e = .Constant .none k p := by
  cases e <;> first | cases h | skip
  rename_i c k p
  cases c <;> first | exact ⟨_, _, rfl⟩ | cases h
theorem iv_bl {b : Bool} (h : chkE N sc (.bl b) e = true) : ∃ c k p, e = .Constant (.bool c) k p := by
  cases e <;> first | cases h | skip
  rename_i c k p
  cases c <;> first | exact ⟨_, _, _, rfl⟩ | cases h
theorem iv_int {b : Int} (h : chkE N sc (.int b) e = true) : ∃ c k p, e = .Constant (.int c) k p := by
  cases e <;> first | cases h | skip
  rename_i c k p
  cases c <;> first | exact ⟨_, _, _, rfl⟩ | cases h
theorem iv_str {b : List Nat} (h : chkE N sc (.str b) e = true) : ∃ c k p, e = .Constant (.str c) k p := by
  cases e <;> first | cases h | skip
  rename_i c k p
  cases c <;> first | exact ⟨_, _, _, rfl⟩ | cases h
theorem iv_glob {i : String} (h : chkE N sc (.glob i) e = true) : ∃ x p, e = .Name x p := by
  cases e <;> first | exact ⟨_, _, rfl⟩ | cases h
theorem iv_bin {op : Operator} {a b : CE} (h : chkE N sc (.bin op a b) e = true) : ∃ l o r p, e = .BinOp l o r p := by
  cases e <;> first | exact ⟨_, _, _, _, rfl⟩ | cases h
theorem iv_neg {a : CE} (h : chkE N sc (.neg a) e = true) : ∃ x p, e = .UnaryOp .USub x p := by
  cases e <;> first | cases h | skip
  rename_i o x p
  cases o <;> first | exact ⟨_, _, rfl⟩ | cases h
theorem iv_not {a : CE} (h : chkE N sc (.not a) e = true) : ∃ x p, e = .UnaryOp .Not x p := by
  cases e <;> first | cases h | skip
  rename_i o x p
  cases o <;> first | exact ⟨_, _, rfl⟩ | cases h
theorem iv_and {a b : CE} (h : chkE N sc (.and a b) e = true) : ∃ x y r p, e = .BoolOp .And (x :: y :: r) p := by
  cases e <;> first | cases h | skip
  rename_i o vs p
  cases o <;> first | cases h | skip
  cases vs with
  | nil => cases h
  | cons x vs =>
    cases vs with
    | nil => cases h
    | cons y r => exact ⟨_, _, _, _, rfl⟩
theorem iv_or {a b : CE} (h : chkE N sc (.or a b) e = true) : ∃ x y r p, e = .BoolOp .Or (x :: y :: r) p := by
  cases e <;> first | cases h | skip
  rename_i o vs p
  cases o <;> first | cases h | skip
  cases vs with
  | nil => cases h
  | cons x vs =>
    cases vs with
    | nil => cases h
    | cons y r => exact ⟨_, _, _, _, rfl⟩
theorem iv_ite {c a b : CE} (h : chkE N sc (.ite c a b) e = true) : ∃ x y z p, e = .IfExp x y z p := by
  cases e <;> first | exact ⟨_, _, _, _, rfl⟩ | cases h
theorem iv_cmp {op : CmpOp} {a b : CE} (h : chkE N sc (.cmp op a b) e = true) : ∃ l o r p, e = .Compare l [o] [r] p := by
  cases e <;> first | cases h | skip
  rename_i l os rs p
  match os, rs, h with
  | [o], [r], h => exact ⟨_, _, _, _, rfl⟩
  | [], _, h => cases h
  | [o], [], h => cases h
  | [o], _ :: _ :: _, h => cases h
  | _ :: _ :: _, _, h => cases h
theorem iv_chain {op op' : CmpOp} {a b c : CE} (h : chkE N sc (.chain op op' a b c) e = true) : ∃ l o o' m r p, e = .Compare l [o, o'] [m, r] p := by
  cases e <;> first | cases h | skip
  rename_i l os rs p
  match os, rs, h with
  | [o, o'], [m, r], h => exact ⟨_, _, _, _, _, _, rfl⟩
  | [], _, h => cases h
  | [o], _, h => cases h
  | [o, o'], [], h => cases h
  | [o, o'], [_], h => cases h
  | [o, o'], _ :: _ :: _ :: _, h => cases h
  | _ :: _ :: _ :: _, _, h => cases h
theorem iv_tup {es : CEs} (h : chkE N sc (.tup es) e = true) : ∃ xs k p, e = .Tuple xs k p := by
  cases e <;> first | exact ⟨_, _, _, rfl⟩ | cases h
theorem iv_dict0 (h : chkE N sc .dict0 e = true) : ∃ p, e = .Dict [] [] p := by
  cases e <;> first | cases h | skip
  rename_i ks vs p
  match ks, vs, h with
  | [], [], h => exact ⟨_, rfl⟩
  | _ :: _, _, h => cases h
  | [], _ :: _, h => cases h
theorem iv_idx {a i : CE} (h : chkE N sc (.idx a i) e = true) : ∃ x y p, e = .Subscript x y p := by
  cases e <;> first | exact ⟨_, _, _, rfl⟩ | cases h
theorem iv_slice {a : CE} {lo hi : CO} (h : chkE N sc (.slice a lo hi) e = true) : ∃ x l u q p, e = .Subscript x (.Slice l u none q) p := by
  cases e <;> first | cases h | skip
  rename_i x y p
  cases y <;> first | cases h | skip
  rename_i l u s q
  cases s with
  | none => exact ⟨_, _, _, _, _, rfl⟩
  | some _ => cases h
theorem iv_call {f : String} {es : CEs} (h : chkE N sc (.call f es) e = true) : ∃ x p y ys pos, e = .Call (.Name x p) (y :: ys) [] pos := by
  cases e <;> first | cases h | skip
  rename_i g as ks pos
  cases g <;> first | cases h | skip
  match as, ks, h with
  | y :: ys, [], h => exact ⟨_, _, _, _, _, rfl⟩
  | [], _, h => cases h
  | _ :: _, _ :: _, h => cases h
theorem iv_blt {f : Blt} {es : CEs} (h : chkE N sc (.blt f es) e = true) : ∃ x p y ys pos, e = .Call (.Name x p) (y :: ys) [] pos := by
  cases e <;> first | cases h | skip
  rename_i g as ks pos
  cases g <;> first | cases h | skip
  match as, ks, h with
  | y :: ys, [], h => exact ⟨_, _, _, _, _, rfl⟩
  | [], _, h => cases h
  | _ :: _, _ :: _, h => cases h
theorem iv_mth {f : Mth} {o : CE} {es : CEs} (h : chkE N sc (.mth f o es) e = true) : ∃ x a ap ys cp, e = .Call (.Attribute x a ap) ys [] cp := by
  cases e <;> first | cases h | skip
  rename_i g as ks pos
  cases g <;> first | cases h | skip
  match ks, h with
  | [], h => exact ⟨_, _, _, _, _, rfl⟩
  | _ :: _, h => cases h
theorem iv_isI {a : CE} {t : Ty} (h : chkE N sc (.isI a t) e = true) : ∃ x p y z q pos, e = .Call (.Name x p) [y, .Name z q] [] pos := by
  cases e <;> first | cases h | skip
  rename_i g as ks pos
  cases g <;> first | cases h | skip
  match as, ks, h with
  | [y, z], [], h =>
    cases z <;> first | exact ⟨_, _, _, _, _, _, rfl⟩ | cases h
  | [], _, h => cases h
  | [_], _, h => cases h
  | [y, z], _ :: _, h =>
    cases z <;> cases h
  | _ :: z :: _ :: _, _, h => cases z <;> cases h
theorem iv_disp {es : CEs} (h : chkL N sc (.disp es) e = true) : ∃ xs p, e = .List xs p := by
  cases e <;> first | exact ⟨_, _, rfl⟩ | cases h
theorem iv_comp {t : List Nat} {one : Bool} {it : CI} {c : CO} {b : CE} (h : chkL N sc (.comp t one it c b) e = true) : ∃ elt tg iter ifs k scope pos, e = .ListComp elt [⟨tg, iter, ifs, k⟩] scope pos := by
  cases e <;> first | cases h | skip
  rename_i elt gs scope pos
  match gs, h with
  | [⟨tg, iter, ifs, k⟩], h => exact ⟨_, _, _, _, _, _, _, rfl⟩
  | [], h => cases h
  | g :: _ :: _, h => cases g; cases h
theorem iv_listOf {c : CE} (h : chkL N sc (.listOf c) e = true) : ∃ x p y pos, e = .Call (.Name x p) [y] [] pos := by
  cases e <;> first | cases h | skip
  rename_i g as ks pos
  cases g <;> first | cases h | skip
  match as, ks, h with
  | [y], [], h => exact ⟨_, _, _, _, rfl⟩
  | [], _, h => cases h
  | [_], _ :: _, h => cases h
  | _ :: _ :: _, _, h => cases h
theorem iv_rep {es : CEs} {n : CE} (h : chkL N sc (.rep es n) e = true) : ∃ xs lp r p, e = .BinOp (.List xs lp) .Mult r p := by
  cases e <;> first | cases h | skip
  rename_i l o r p
  cases l <;> first | cases h | skip
  cases o <;> first | exact ⟨_, _, _, _, rfl⟩ | cases h
theorem iv_lr1 {a : CE} (h : chkL N sc (.range1 a) e = true) : ∃ x p y p2 z p3 pos, e = .Call (.Name x p) [.Call (.Name y p2) [z] [] p3] [] pos := by
  cases e <;> first | cases h | skip
  rename_i g as ks pos
  cases g <;> first | cases h | skip
  match as, ks, h with
  | [y], [], h =>
    cases y <;> first | cases h | skip
    rename_i g as ks pos
    cases g <;> first | cases h | skip
    match as, ks, h with
    | [z], [], h => exact ⟨_, _, _, _, _, _, _, rfl⟩
    | [], _, h => cases h
    | [_], _ :: _, h => cases h
    | _ :: _ :: _, _, h => cases h
  | [], _, h => cases h
  | [y], _ :: _, h =>
    cases y <;> first | cases h | skip
    rename_i g as ks pos
    cases g <;> first | cases h | skip
    match as, ks, h with
    | [z], [], h => cases h
    | [], _, h => cases h
    | [_], _ :: _, h => cases h
    | _ :: _ :: _, _, h => cases h
  | y :: _ :: _, _, h =>
    cases y <;> first | cases h | skip
    rename_i g as ks pos
    cases g <;> first | cases h | skip
    match as, ks, h with
    | [z], [], h => cases h
    | [], _, h => cases h
    | [_], _ :: _, h => cases h
    | _ :: _ :: _, _, h => cases h
theorem iv_lr2 {a b : CE} (h : chkL N sc (.range2 a b) e = true) : ∃ x p y p2 z w p3 pos, e = .Call (.Name x p) [.Call (.Name y p2) [z, w] [] p3] [] pos := by
  cases e <;> first | cases h | skip
  rename_i g as ks pos
  cases g <;> first | cases h | skip
  match as, ks, h with
  | [y], [], h =>
    cases y <;> first | cases h | skip
    rename_i g as ks pos
    cases g <;> first | cases h | skip
    match as, ks, h with
    | [z, w], [], h => exact ⟨_, _, _, _, _, _, _, _, rfl⟩
    | [], _, h => cases h
    | [_], _, h => cases h
    | [_, _], _ :: _, h => cases h
    | _ :: _ :: _ :: _, _, h => cases h
  | [], _, h => cases h
  | [y], _ :: _, h =>
    cases y <;> first | cases h | skip
    rename_i g as ks pos
    cases g <;> first | cases h | skip
    match as, ks, h with
    | [z, w], [], h => cases h
    | [], _, h => cases h
    | [_], _, h => cases h
    | [_, _], _ :: _, h => cases h
    | _ :: _ :: _ :: _, _, h => cases h
  | y :: _ :: _, _, h =>
    cases y <;> first | cases h | skip
    rename_i g as ks pos
    cases g <;> first | cases h | skip
    match as, ks, h with
    | [z, w], [], h => cases h
    | [], _, h => cases h
    | [_], _, h => cases h
    | [_, _], _ :: _, h => cases h
    | _ :: _ :: _ :: _, _, h => cases h
theorem iv_r1 {a : CE} (h : chkI N sc (.range1 a) tg e = true) : ∃ x p y pos, e = .Call (.Name x p) [y] [] pos := by
  cases e <;> first | cases h | skip
  rename_i g as ks pos
  cases g <;> first | cases h | skip
  match as, ks, h with
  | [y], [], h => exact ⟨_, _, _, _, rfl⟩
  | [], _, h => cases h
  | [_], _ :: _, h => cases h
  | _ :: _ :: _, _, h => cases h
theorem iv_r2 {a b : CE} (h : chkI N sc (.range2 a b) tg e = true) : ∃ x p y z pos, e = .Call (.Name x p) [y, z] [] pos := by
  cases e <;> first | cases h | skip
  rename_i g as ks pos
  cases g <;> first | cases h | skip
  match as, ks, h with
  | [y, z], [], h => exact ⟨_, _, _, _, _, rfl⟩
  | [], _, h => cases h
  | [_], _, h => cases h
  | [_, _], _ :: _, h => cases h
  | _ :: _ :: _ :: _, _, h => cases h
theorem iv_enum {a : CE} (h : chkI N sc (.enum a) tg e = true) : ∃ es kk tp x p y pos, tg = .Tuple es kk tp ∧ e = .Call (.Name x p) [y] [] pos := by
  cases tg <;> first | cases h | skip
  cases e <;> first | cases h | skip
  rename_i g as ks pos
  cases g <;> first | cases h | skip
  match as, ks, h with
  | [y], [], h => exact ⟨_, _, _, _, _, _, _, rfl, rfl⟩
  | [], _, h => cases h
  | [_], _ :: _, h => cases h
  | _ :: _ :: _, _, h => cases h
theorem iv_zip {a b : CE} (h : chkI N sc (.zip a b) tg e = true) : ∃ es kk tp x p y z pos, tg = .Tuple es kk tp ∧ e = .Call (.Name x p) [y, z] [] pos := by
  cases tg <;> first | cases h | skip
  cases e <;> first | cases h | skip
  rename_i g as ks pos
  cases g <;> first | cases h | skip
  match as, ks, h with
  | [y, z], [], h => exact ⟨_, _, _, _, _, _, _, _, rfl, rfl⟩
  | [], _, h => cases h
  | [_], _, h => cases h
  | [_, _], _ :: _, h => cases h
  | _ :: _ :: _ :: _, _, h => cases h
theorem iv_rr2 {a b : CE} (h : chkI N sc (.rrange2 a b) tg e = true) : ∃ x p y p2 z w p3 pos, e = .Call (.Name x p) [.Call (.Name y p2) [z, w] [] p3] [] pos := by
  cases e <;> first | cases h | skip
  rename_i g as ks pos
  cases g <;> first | cases h | skip
  match as, ks, h with
  | [y], [], h =>
    cases y <;> first | cases h | skip
    rename_i g as ks pos
    cases g <;> first | cases h | skip
    match as, ks, h with
    | [z, w], [], h => exact ⟨_, _, _, _, _, _, _, _, rfl⟩
    | [], _, h => cases h
    | [_], _, h => cases h
    | [_, _], _ :: _, h => cases h
    | _ :: _ :: _ :: _, _, h => cases h
  | [], _, h => cases h
  | [y], _ :: _, h =>
    cases y <;> first | cases h | skip
    rename_i g as ks pos
    cases g <;> first | cases h | skip
    match as, ks, h with
    | [z, w], [], h => cases h
    | [], _, h => cases h
    | [_], _, h => cases h
    | [_, _], _ :: _, h => cases h
    | _ :: _ :: _ :: _, _, h => cases h
  | y :: _ :: _, _, h =>
    cases y <;> first | cases h | skip
    rename_i g as ks pos
    cases g <;> first | cases h | skip
    match as, ks, h with
    | [z, w], [], h => cases h
    | [], _, h => cases h
    | [_], _, h => cases h
    | [_, _], _ :: _, h => cases h
    | _ :: _ :: _ :: _, _, h => cases h
end
end PC
end
section
set_option Elab.async false
set_option linter.all false
set_option autoImplicit false
set_option maxRecDepth 100000
set_option maxHeartbeats 2000000
namespace PC
open PySem L2 PyProof.Rows

/-- the same module, the same room -/
structure SameM (X Y : Cx) : Prop where
  prog : Y.prog = X.prog
  w : Y.w = X.w
  K : Y.K = X.K
  mg : Y.mg = X.mg
  base : Y.base = X.base
  A : Y.A = X.A
  N : Y.N = X.N
  calm : Y.calm = X.calm
def CallsM (ge : GE) (cf : CF) (X : Cx) : Prop := ∀ Y, SameM X Y → Calls ge cf Y
theorem SameM.refl (X : Cx) : SameM X X := ⟨rfl, rfl, rfl, rfl, rfl, rfl, rfl, rfl⟩
theorem SameM.trans {X Y Z : Cx} (a : SameM X Y) (b : SameM Y Z) : SameM X Z := ⟨b.prog.trans a.prog, b.w.trans a.w, b.K.trans a.K, b.mg.trans a.mg, b.base.trans a.base, b.A.trans a.A, b.N.trans a.N, b.calm.trans a.calm⟩
section
variable {X : Cx} {ge : GE} {cf : CF}
theorem Ok.blk (ok : Ok ge X) (s : Shared) (H : Hp) (scope : Scope) (ce : Env) (fp : List Addr) : Ok ge (X.blk s H scope ce fp) := ⟨ok.calm, ok.nd, ok.room, ok.free, ok.glob⟩
theorem CallsM.blk (h : CallsM ge cf X) (s : Shared) (H : Hp) (scope : Scope) (ce : Env) (fp : List Addr) : CallsM ge cf (X.blk s H scope ce fp) := fun Y hY => h Y ⟨hY.prog, hY.w, hY.K, hY.mg, hY.base, hY.A, hY.N, hY.calm⟩
/-- a truth as a value, as a test -/
theorem asTest {e : Expr} {f : Slots → Store → Res D} (h : PE X e (tD X.K f)) (hp : ∀ whole, isTrue e X.env whole = (do let v ← whole; standAt e.pos; holding [v] (truthy v))) : PT X e (tB' X.K f) := by
  refine PT.weak (pt_val h hp) fun σ H Q q => ?_
  refine tR.bind q fun φ τ x st v H1 rs s rv post => ?_
  cases rv with
  | bl b => exact ⟨b, rfl, post φ H1 b Ext.refl s rfl⟩
  | _ => exact False.elim post
theorem okB {K : PySem.W.Frag} {φ : Wd} {H : Hp} {b : Bool} {st : Store} {Q : Bool → Hp → Prop} (h : Post K (fun _ _ (v : Bool) b => v = b) noW φ H (.ok b st) Q) (s : Sim K φ H st) : Q b H := h φ H b Ext.refl s rfl
theorem boolOf {K : PySem.W.Frag} {φ : Wd} {H : Hp} {x : V} {d : D} {st : Store} {α β : Type} {R : Wd → Hp → β → α → Prop} {g : Bool → Store → Res α} {Q : β → Hp → Prop} (r : RepV K φ H x d)
    (h : Post K R noW φ H (match (generalizing := false) d with | .bl b => g b st | _ => .err) Q) : ∃ b, x = .bl b ∧ Post K R noW φ H (g b st) Q := by
  cases r with
  | bl b => exact ⟨b, rfl, h⟩
  | _ => exact False.elim h
theorem intOf {K : PySem.W.Frag} {φ : Wd} {H : Hp} {x : V} {d : D} {st : Store} {α β : Type} {R : Wd → Hp → β → α → Prop} {g : Int → Store → Res α} {Q : β → Hp → Prop} (r : RepV K φ H x d)
    (h : Post K R noW φ H (match (generalizing := false) d with | .int b => g b st | _ => .err) Q) : ∃ b, x = .int b ∧ d = .int b ∧ Post K R noW φ H (g b st) Q := by
  cases r with
  | int b => exact ⟨b, rfl, rfl, h⟩
  | _ => exact False.elim h
/-- a comparison, then its truth -/
theorem cmpPost {K : PySem.W.Frag} {φ : Wd} {H : Hp} {r : Res Bool} {Q : VK} (h : PostV K φ H (r.bind fun b st => .ok (.bl b) st) Q) : PostB K φ H r Q :=
  h.bind fun b st φ1 H1 v e s rv p => by subst rv; exact p φ1 H1 _ Ext.refl s (.bl b)

theorem fun_cmp {K : PySem.W.Frag} {φ : Wd} {H : Hp} {r : Res Bool} {Q : Bool → Hp → Prop} (h : Post K (fun _ _ (v : Bool) b => v = b) noW φ H r Q) : PostB K φ H r (fun x H' => ∃ k, x = .bl k ∧ Q k H') := by
  cases r with
  | ok b st => exact fun φ' H' v e s hv => ⟨b, hv, h φ' H' b e s rfl⟩
  | exc d st => exact h
  | err => exact h
theorem test_val {K : PySem.W.Frag} {φ : Wd} {H : Hp} {r : Res D} {Q : Bool → Hp → Prop} (h : Post K (fun _ _ (v : Bool) b => v = b) noW φ H (asB r) Q) : PostV K φ H r (fun x H' => ∃ k, x = .bl k ∧ Q k H') := by
  cases r with
  | ok d st =>
    cases d with
    | bl b => exact fun φ' H' v e s hv => ⟨b, hv.bl_inv, h φ' H' b e s rfl⟩
    | _ => exact False.elim h
  | exc d st => exact h
  | err => exact h
theorem list_test {l : CL} {e : Expr} (h : chkL X.N X.env.scope l e = true) : ∀ whole, isTrue e X.env whole = (do let v ← whole; standAt e.pos; holding [v] (truthy v)) := by
  cases l with
  | disp es => obtain ⟨xs, p, rfl⟩ := iv_disp h; exact test_plain rfl
  | comp t one it c e => obtain ⟨elt, tg, iter, ifs, k, scope, pos, rfl⟩ := iv_comp h; exact test_plain rfl
  | listOf c => obtain ⟨x, p, y, pos, rfl⟩ := iv_listOf h; exact test_plain rfl
  | rep es n => obtain ⟨xs, lp, r, p, rfl⟩ := iv_rep h; exact test_plain rfl
  | range1 a => obtain ⟨x, p, y, p2, z, p3, pos, rfl⟩ := iv_lr1 h; exact test_plain rfl
  | range2 a b => obtain ⟨x, p, y, p2, z, w, p3, pos, rfl⟩ := iv_lr2 h; exact test_plain rfl
/-- a text of and, or -/
def isBO : Expr → Bool
  | .BoolOp _ _ _ => true
  | _ => false

structure IHE (ge : GE) (cf : CF) (c : CE) : Prop where
  e : ∀ (X : Cx) (e : Expr), Ok ge X → CallsM ge cf X → chkE X.N X.env.scope c e = true → PE X e (tD X.K (ev ge cf c))
  t : ∀ (X : Cx) (e : Expr), Ok ge X → CallsM ge cf X → chkE X.N X.env.scope c e = true → PT X e (tB' X.K (ev ge cf c))
  w : ∀ (X : Cx) (e : Expr), Ok ge X → CallsM ge cf X → chkE X.N X.env.scope c e = true → isBO e = true → PW X e (tB' X.K (ev ge cf c))
structure IHL (ge : GE) (cf : CF) (c : CL) : Prop where
  l : ∀ (X : Cx) (e : Expr), Ok ge X → CallsM ge cf X → chkL X.N X.env.scope c e = true → PE X e (tO X.K (evl ge cf c))
structure IHEs (ge : GE) (cf : CF) (c : CEs) : Prop where
  e : ∀ (X : Cx) (es : List Expr), Ok ge X → CallsM ge cf X → chkEs X.N X.env.scope c es = true → PA X es (tDs X.K (evs ge cf c))
structure IHO (ge : GE) (cf : CF) (c : CO) : Prop where
  o : ∀ (X : Cx) (e : Option Expr), Ok ge X → CallsM ge cf X → chkO X.N X.env.scope c e = true → PO X e (tR X.K (fun _ _ (v : Option Int) b => v = b) (evo ge cf c))
  f : ∀ (X : Cx) (es : List Expr), Ok ge X → CallsM ge cf X → chkIf X.N X.env.scope c es = true → PTs X es (tR X.K (fun _ _ (v : Bool) b => v = b) (evc ge cf c))
structure IHI (ge : GE) (cf : CF) (c : CI) : Prop where
  i : ∀ (X : Cx) (tg e : Expr), Ok ge X → CallsM ge cf X → chkI X.N X.env.scope c tg e = true → PI X tg e (tI X.K (evi ge cf c)) ∧ ∀ x, foldedSetIterable e X.env x = pure x

theorem e_var {i : Nat}  : ∀ (X : Cx) (e : Expr), Ok ge X → CallsM ge cf X → chkE X.N X.env.scope (.var i) e = true → PE X e (tD X.K (ev ge cf (.var i))) := by
  intro X e0 ok cl h
  obtain ⟨x, p, rfl⟩ := iv_name1 h
  simp only [chkE, Bool.and_eq_true, decide_eq_true_eq] at h
  obtain ⟨n1, n2, n3⟩ := nmB_ok h.2
  refine PE.weak (pe_var h.1.1 (visB_ok h.1.2) n1 n2) fun σ H Q ⟨φ, τ, st, rs, sim, post⟩ => ?_
  have post : PostV X.K φ H (lookS τ i st) Q := post
  unfold lookS at post
  split at post
  · rename_i d e
    obtain ⟨v, hv, rv⟩ := rs.at_ i d e
    exact ⟨v, hv, ok_here post sim rv⟩
  · exact False.elim post

theorem e_non   : ∀ (X : Cx) (e : Expr), Ok ge X → CallsM ge cf X → chkE X.N X.env.scope (.non) e = true → PE X e (tD X.K (ev ge cf (.non))) := by
  intro X e0 ok cl h
  obtain ⟨k, p, rfl⟩ := iv_non h
  exact PE.weak pe_non fun σ H Q ⟨φ, τ, st, rs, sim, post⟩ => ok_here post sim .non

theorem e_bl {b : Bool}  : ∀ (X : Cx) (e : Expr), Ok ge X → CallsM ge cf X → chkE X.N X.env.scope (.bl b) e = true → PE X e (tD X.K (ev ge cf (.bl b))) := by
  intro X e0 ok cl h
  obtain ⟨c, k, p, rfl⟩ := iv_bl h
  simp only [chkE, decide_eq_true_eq] at h
  subst h
  exact PE.weak pe_bl fun σ H Q ⟨φ, τ, st, rs, sim, post⟩ => ok_here post sim (.bl _)

theorem e_int {i : Int}  : ∀ (X : Cx) (e : Expr), Ok ge X → CallsM ge cf X → chkE X.N X.env.scope (.int i) e = true → PE X e (tD X.K (ev ge cf (.int i))) := by
  intro X e0 ok cl h
  obtain ⟨c, k, p, rfl⟩ := iv_int h
  simp only [chkE, decide_eq_true_eq] at h
  subst h
  exact PE.weak pe_int fun σ H Q ⟨φ, τ, st, rs, sim, post⟩ => ok_here post sim (.int _)

theorem e_str {z : List Nat}  : ∀ (X : Cx) (e : Expr), Ok ge X → CallsM ge cf X → chkE X.N X.env.scope (.str z) e = true → PE X e (tD X.K (ev ge cf (.str z))) := by
  intro X e0 ok cl h
  obtain ⟨c, k, p, rfl⟩ := iv_str h
  simp only [chkE, decide_eq_true_eq] at h
  subst h
  exact PE.weak pe_str fun σ H Q ⟨φ, τ, st, rs, sim, post⟩ => ok_here post sim (.str _)

theorem e_glob {x : String}  : ∀ (X : Cx) (e : Expr), Ok ge X → CallsM ge cf X → chkE X.N X.env.scope (.glob x) e = true → PE X e (tD X.K (ev ge cf (.glob x))) := by
  intro X e0 ok cl h
  obtain ⟨y, p, rfl⟩ := iv_glob h
  simp only [chkE, Bool.and_eq_true, decide_eq_true_eq] at h
  obtain ⟨n1, n2, n3⟩ := nmB_ok h.2
  obtain ⟨⟨rfl, h1⟩, h2⟩ := h
  cases e : ge.gl x with
  | none =>
    refine PE.weak (t := fun _ _ _ => False) ⟨fun _ _ _ _ _ _ z => z.elim⟩ fun σ H Q ⟨φ, τ, st, rs, sim, post⟩ => ?_
    have post : PostV X.K φ H (match ge.gl x with | some d => .ok d st | none => .err) Q := post
    rw [e] at post
    exact post
  | some d =>
    obtain ⟨v, u, g1, g2, g3⟩ := ok.glob x d e
    refine PE.weak (pe_glob (glB_ok h1) g1 g2 n1) fun σ H Q ⟨φ, τ, st, rs, sim, post⟩ => ?_
    have post : PostV X.K φ H (match ge.gl x with | some d => .ok d st | none => .err) Q := post
    rw [e] at post
    exact ok_here post sim (g3 φ H)

theorem e_bin {op : Operator} {a : CE} {b : CE} (I_a : IHE ge cf a) (I_b : IHE ge cf b) : ∀ (X : Cx) (e : Expr), Ok ge X → CallsM ge cf X → chkE X.N X.env.scope (.bin op a b) e = true → PE X e (tD X.K (ev ge cf (.bin op a b))) := by
  intro X e0 ok cl h
  obtain ⟨l, o, r, p, rfl⟩ := iv_bin h
  simp only [chkE, Bool.and_eq_true, decide_eq_true_eq] at h
  obtain ⟨⟨rfl, h1⟩, h2⟩ := h
  refine PE.weak (pe_op opAny (I_a.e X l ok cl h1) (I_b.e X r ok cl h2)) fun σ H Q q => ?_
  refine tR.bind (f := ev ge cf a) (g := fun τ x st => (ev ge cf b τ st).bind fun y st => binop o x y st) q fun φ τ x st v H1 rs s rv post => ?_
  exact ⟨φ, τ, st, rs, s, post.bind fun y st2 φ2 H2 w e s2 rw' p => ⟨φ2, st2, x, y, s2, rv.ext e, rw', p⟩⟩

theorem e_neg {a : CE} (I_a : IHE ge cf a) : ∀ (X : Cx) (e : Expr), Ok ge X → CallsM ge cf X → chkE X.N X.env.scope (.neg a) e = true → PE X e (tD X.K (ev ge cf (.neg a))) := by
  intro X e0 ok cl h
  obtain ⟨x, p, rfl⟩ := iv_neg h
  refine PE.weak (pe_un un_neg (I_a.e X x ok cl h)) fun σ H Q q => ?_
  refine tR.bind (f := ev ge cf a) (g := fun τ (x : D) st => match x with | .int i => .ok (D.int (-i)) st | _ => .err) q fun φ τ x st v H1 rs s rv post => ?_
  obtain ⟨i, rfl, rfl, post⟩ := intOf (g := fun i st => .ok (D.int (-i)) st) rv post
  exact ⟨i, rfl, ok_here post s (.int _)⟩

theorem e_not {a : CE} (I_a : IHE ge cf a) : ∀ (X : Cx) (e : Expr), Ok ge X → CallsM ge cf X → chkE X.N X.env.scope (.not a) e = true → PE X e (tD X.K (ev ge cf (.not a))) := by
  intro X e0 ok cl h
  obtain ⟨x, p, rfl⟩ := iv_not h
  refine PE.weak (pe_not (I_a.e X x ok cl h)) fun σ H Q q => ?_
  refine tR.bind (f := ev ge cf a) (g := fun τ (x : D) st => match x with | .bl b => .ok (D.bl (!b)) st | _ => .err) q fun φ τ x st v H1 rs s rv post => ?_
  obtain ⟨b, rfl, post⟩ := boolOf (g := fun b st => .ok (D.bl (!b)) st) rv post
  exact ⟨b, rfl, ok_here post s (.bl _)⟩

theorem e_and {a : CE} {b : CE} (I_a : IHE ge cf a) (I_b : IHE ge cf b) : ∀ (X : Cx) (e : Expr), Ok ge X → CallsM ge cf X → chkE X.N X.env.scope (.and a b) e = true → PE X e (tD X.K (ev ge cf (.and a b))) := by
  intro X e0 ok cl h
  obtain ⟨x, y, rest, pos, rfl⟩ := iv_and h
  have hb : chkE X.N X.env.scope a x = true ∧ PE X (.BoolOp .And (y :: rest) pos) (tD X.K (ev ge cf b)) := by
    cases rest with
    | nil =>
      have h : (chkE X.N X.env.scope a x && chkE X.N X.env.scope b y) = true := h
      rw [Bool.and_eq_true] at h
      exact ⟨h.1, pe_one (I_b.e X y ok cl h.2)⟩
    | cons z zs =>
      have h : (chkE X.N X.env.scope a x && chkE X.N X.env.scope b (.BoolOp .And (y :: z :: zs) pos)) = true := h
      rw [Bool.and_eq_true] at h
      exact ⟨h.1, I_b.e X _ ok cl h.2⟩
  refine PE.weak (pe_and (I_a.e X x ok cl hb.1) hb.2) fun σ H Q q => ?_
  refine tR.bind (f := ev ge cf a) (g := fun τ (x : D) st => match x with | .bl true => ev ge cf b τ st | .bl false => .ok (D.bl false) st | _ => .err) q fun φ τ x st v H1 rs s rv post => ?_
  cases rv with
  | bl c =>
    refine ⟨c, rfl, ?_⟩
    cases c with
    | true => rw [if_pos rfl]; exact ⟨φ, τ, st, rs, s, post⟩
    | false => rw [if_neg Bool.false_ne_true]; exact ok_here post s (.bl _)
  | _ => exact False.elim post

theorem e_or {a : CE} {b : CE} (I_a : IHE ge cf a) (I_b : IHE ge cf b) : ∀ (X : Cx) (e : Expr), Ok ge X → CallsM ge cf X → chkE X.N X.env.scope (.or a b) e = true → PE X e (tD X.K (ev ge cf (.or a b))) := by
  intro X e0 ok cl h
  obtain ⟨x, y, rest, pos, rfl⟩ := iv_or h
  have hb : chkE X.N X.env.scope a x = true ∧ PE X (.BoolOp .Or (y :: rest) pos) (tD X.K (ev ge cf b)) := by
    cases rest with
    | nil =>
      have h : (chkE X.N X.env.scope a x && chkE X.N X.env.scope b y) = true := h
      rw [Bool.and_eq_true] at h
      exact ⟨h.1, pe_one (I_b.e X y ok cl h.2)⟩
    | cons z zs =>
      have h : (chkE X.N X.env.scope a x && chkE X.N X.env.scope b (.BoolOp .Or (y :: z :: zs) pos)) = true := h
      rw [Bool.and_eq_true] at h
      exact ⟨h.1, I_b.e X _ ok cl h.2⟩
  refine PE.weak (pe_or (I_a.e X x ok cl hb.1) hb.2) fun σ H Q q => ?_
  refine tR.bind (f := ev ge cf a) (g := fun τ (x : D) st => match x with | .bl true => .ok (D.bl true) st | .bl false => ev ge cf b τ st | _ => .err) q fun φ τ x st v H1 rs s rv post => ?_
  cases rv with
  | bl c =>
    refine ⟨c, rfl, ?_⟩
    cases c with
    | true => rw [if_pos rfl]; exact ok_here post s (.bl _)
    | false => rw [if_neg Bool.false_ne_true]; exact ⟨φ, τ, st, rs, s, post⟩
  | _ => exact False.elim post

theorem e_ite {c : CE} {a : CE} {b : CE} (I_c : IHE ge cf c) (I_a : IHE ge cf a) (I_b : IHE ge cf b) : ∀ (X : Cx) (e : Expr), Ok ge X → CallsM ge cf X → chkE X.N X.env.scope (.ite c a b) e = true → PE X e (tD X.K (ev ge cf (.ite c a b))) := by
  intro X e0 ok cl h
  obtain ⟨t, x, y, p, rfl⟩ := iv_ite h
  simp only [chkE, Bool.and_eq_true] at h
  refine PE.weak (pe_ifExp (I_c.t X t ok cl h.1.1) (I_a.e X x ok cl h.1.2) (I_b.e X y ok cl h.2)) fun σ H Q q => ?_
  have q : tD X.K (fun τ st => (asB (ev ge cf c τ st)).bind fun k st => match k with | true => ev ge cf a τ st | false => ev ge cf b τ st) σ H Q := by
    obtain ⟨φ, τ, st, rs, s, post⟩ := q
    refine ⟨φ, τ, st, rs, s, ?_⟩
    have post : PostV X.K φ H ((ev ge cf c τ st).bind fun x st => match x with | .bl true => ev ge cf a τ st | .bl false => ev ge cf b τ st | _ => .err) Q := post
    show PostV X.K φ H ((asB (ev ge cf c τ st)).bind _) Q
    cases e : ev ge cf c τ st with
    | ok d st => rw [e] at post; cases d with
      | bl k => cases k <;> exact post
      | _ => exact post
    | exc d st => rw [e] at post; exact post
    | err => rw [e] at post; exact post
  refine tR.bind (f := fun τ st => asB (ev ge cf c τ st)) q fun φ τ x st v H1 rs s rv post => ?_
  subst rv
  cases v with
  | true => rw [if_pos rfl]; exact ⟨φ, τ, st, rs, s, post⟩
  | false => rw [if_neg Bool.false_ne_true]; exact ⟨φ, τ, st, rs, s, post⟩

theorem e_cmp {op : CmpOp} {a : CE} {b : CE} (I_a : IHE ge cf a) (I_b : IHE ge cf b) : ∀ (X : Cx) (e : Expr), Ok ge X → CallsM ge cf X → chkE X.N X.env.scope (.cmp op a b) e = true → PE X e (tD X.K (ev ge cf (.cmp op a b))) := by
  intro X e0 ok cl h
  obtain ⟨l, o, r, p, rfl⟩ := iv_cmp h
  simp only [chkE, Bool.and_eq_true, decide_eq_true_eq] at h
  obtain ⟨⟨rfl, h1⟩, h2⟩ := h
  refine PE.weak (pe_cmpR (cmpAny ok.room) (I_a.e X l ok cl h1) (I_b.e X r ok cl h2) (mark_good (good_of h2))) fun σ H Q q => ?_
  refine tR.bind (f := ev ge cf a) (g := fun τ x st => (ev ge cf b τ st).bind fun y st => (cmpB o x y st).bind fun b st => .ok (D.bl b) st) q fun φ τ x st v H1 rs s rv post => ?_
  exact ⟨φ, τ, st, rs, s, post.bind fun y st2 φ2 H2 w e s2 rw' p => ⟨φ2, st2, x, y, s2, rv.ext e, rw', cmpPost p⟩⟩

theorem e_chain {op : CmpOp} {op' : CmpOp} {a : CE} {b : CE} {c : CE} (I_a : IHE ge cf a) (I_b : IHE ge cf b) (I_c : IHE ge cf c) : ∀ (X : Cx) (e : Expr), Ok ge X → CallsM ge cf X → chkE X.N X.env.scope (.chain op op' a b c) e = true → PE X e (tD X.K (ev ge cf (.chain op op' a b c))) := by
  intro X e0 ok cl h
  obtain ⟨l, o, o', m, r, p, rfl⟩ := iv_chain h
  simp only [chkE, Bool.and_eq_true, decide_eq_true_eq] at h
  obtain ⟨⟨⟨⟨rfl, rfl⟩, h1⟩, h2⟩, h3⟩ := h
  refine PE.weak (pe_chain (cmpAny ok.room) (cmpAny ok.room) (I_a.e X l ok cl h1) (I_b.e X m ok cl h2) (I_c.e X r ok cl h3) (last_good (good_of h3))) fun σ H Q q => ?_
  refine tR.bind (f := ev ge cf a) (g := fun τ x st => (ev ge cf b τ st).bind fun y st => (cmpB o x y st).bind fun k st => match k with
    | true => (ev ge cf c τ st).bind fun z st => (cmpB o' y z st).bind fun b st => .ok (D.bl b) st
    | false => .ok (D.bl false) st) q fun φ τ x st v H1 rs s rv post => ?_
  refine ⟨φ, τ, st, rs, s, post.bind fun y st2 φ2 H2 w e s2 rw' p => ⟨φ2, st2, x, y, s2, rv.ext e, rw', ?_⟩⟩
  refine p.bind fun k st3 φ3 H3 z e3 s3 rz p3 => ⟨k, rz, ?_⟩
  cases k with
  | true => rw [if_pos rfl]; exact ⟨φ3, τ, st3, (rs.ext e).ext e3, s3, p3.bind fun z st4 φ4 H4 w4 e4 s4 rw4 p4 => ⟨φ4, st4, y, z, s4, (rw'.ext e3).ext e4, rw4, cmpPost p4⟩⟩
  | false => rw [if_neg Bool.false_ne_true]; exact ok_here p3 s3 (.bl _)

theorem e_tup {es : CEs} (I_es : IHEs ge cf es) : ∀ (X : Cx) (e : Expr), Ok ge X → CallsM ge cf X → chkE X.N X.env.scope (.tup es) e = true → PE X e (tD X.K (ev ge cf (.tup es))) := by
  intro X e0 ok cl h
  obtain ⟨xs, k, p, rfl⟩ := iv_tup h
  refine PE.weak (pe_tup (I_es.e X xs ok cl h)) fun σ H Q q => ?_
  refine tR.bind (f := evs ge cf es) (g := fun τ xs st => gd (xs.length ≤ lineN) (.ok (D.tup xs) st)) q fun φ τ x st v H1 rs s rv post => ?_
  obtain ⟨hz, post⟩ := gd_ok post
  exact ⟨by rw [rv.length, ← line_eq]; exact hz, ok_tup post s rv⟩

theorem e_new {l : CL} (I_l : IHL ge cf l) : ∀ (X : Cx) (e : Expr), Ok ge X → CallsM ge cf X → chkE X.N X.env.scope (.new l) e = true → PE X e (tD X.K (ev ge cf (.new l))) := by
  intro X e0 ok cl h
  exact PE.weak (I_l.l X e0 ok cl h) fun σ H Q q => own_frz (f := evl ge cf l) q

theorem e_cell {l : CL} (I_l : IHL ge cf l) : ∀ (X : Cx) (e : Expr), Ok ge X → CallsM ge cf X → chkE X.N X.env.scope (.cell l) e = true → PE X e (tD X.K (ev ge cf (.cell l))) := by
  intro X e0 ok cl h
  exact PE.weak (I_l.l X e0 ok cl h) fun σ H Q q => own_cell (f := evl ge cf l) q

theorem e_dict0   : ∀ (X : Cx) (e : Expr), Ok ge X → CallsM ge cf X → chkE X.N X.env.scope (.dict0) e = true → PE X e (tD X.K (ev ge cf (.dict0))) := by
  intro X e0 ok cl h
  obtain ⟨p, rfl⟩ := iv_dict0 h
  refine PE.weak pe_dnewK fun σ H Q ⟨φ, τ, st, rs, sim, post⟩ => ?_
  intro p hp
  exact post (φ.add p) _ _ (Ext.cell hp) (sim.cellNew hp ⟨rfl, upd_same⟩) (.ref (by
    show (φ.c ++ [p])[st.length]? = some p
    rw [← sim.len, List.getElem?_append_right (Nat.le_refl _)]
    simp))

theorem e_idx {a : CE} {i : CE} (I_a : IHE ge cf a) (I_i : IHE ge cf i) : ∀ (X : Cx) (e : Expr), Ok ge X → CallsM ge cf X → chkE X.N X.env.scope (.idx a i) e = true → PE X e (tD X.K (ev ge cf (.idx a i))) := by
  intro X e0 ok cl h
  obtain ⟨x, y, p, rfl⟩ := iv_idx h
  simp only [chkE, Bool.and_eq_true] at h
  refine PE.weak (pe_ix ixAny (I_a.e X x ok cl h.1) (I_i.e X y ok cl h.2) (ix_good (good_of h.2))) fun σ H Q q => ?_
  refine tR.bind (f := ev ge cf a) (g := fun τ x st => (ev ge cf i τ st).bind fun y st => idxD st x y) q fun φ τ x st v H1 rs s rv post => ?_
  exact ⟨φ, τ, st, rs, s, post.bind fun y st2 φ2 H2 w e s2 rw' p => ⟨φ2, st2, x, y, s2, rv.ext e, rw', p⟩⟩

theorem e_slice {a : CE} {lo : CO} {hi : CO} (I_a : IHE ge cf a) (I_lo : IHO ge cf lo) (I_hi : IHO ge cf hi) : ∀ (X : Cx) (e : Expr), Ok ge X → CallsM ge cf X → chkE X.N X.env.scope (.slice a lo hi) e = true → PE X e (tD X.K (ev ge cf (.slice a lo hi))) := by
  intro X e0 ok cl h
  obtain ⟨x, l, u, q, p, rfl⟩ := iv_slice h
  simp only [chkE, Bool.and_eq_true] at h
  refine PE.weak (pe_slice slAny (I_a.e X x ok cl h.1.1) (I_lo.o X l ok cl h.1.2) (I_hi.o X u ok cl h.2)) fun σ H Q q => ?_
  refine tR.bind (f := ev ge cf a) (g := fun τ x st => (evo ge cf lo τ st).bind fun l st => (evo ge cf hi τ st).bind fun h st => sliceD st x l h) q fun φ τ x st v H1 rs s rv post => ?_
  refine ⟨φ, τ, st, rs, s, post.bind fun y st2 φ2 H2 w e s2 rw' p => ?_⟩
  refine ⟨φ2, τ, st2, rs.ext e, s2, p.bind fun z st3 φ3 H3 w3 e3 s3 rw3 p3 => ?_⟩
  cases rw'
  cases rw3
  exact ⟨φ3, st3, x, s3, (rv.ext e).ext e3, p3⟩

theorem e_call {f : String} {es : CEs} (I_es : IHEs ge cf es) : ∀ (X : Cx) (e : Expr), Ok ge X → CallsM ge cf X → chkE X.N X.env.scope (.call f es) e = true → PE X e (tD X.K (ev ge cf (.call f es))) := by
  intro X e0 ok cl h
  obtain ⟨x, p, y, ys, pos, rfl⟩ := iv_call h
  simp only [chkE, Bool.and_eq_true, decide_eq_true_eq] at h
  obtain ⟨⟨⟨rfl, h1⟩, h2⟩, h3⟩ := h
  have hg := goods h3
  by_cases hk : ge.fs f = true
  case neg =>
    refine ⟨fun pins s σ H Q I q => ?_⟩
    obtain ⟨φ, τ, st, rs, sim, post⟩ := q
    have post : Post X.K (RV X.K) noW φ H (gd (ge.fs f = true) ((evs ge cf es τ st).bind fun xs st => cf f xs st)) Q := post
    unfold gd at post
    rw [if_neg hk] at post
    exact post.elim
  have eq : ∀ τ st, ev ge cf (.call f es) τ st = (evs ge cf es τ st).bind fun xs st => cf f xs st := fun τ st => gd_pos hk
  refine PE.weak (cl X (SameM.refl X) f y ys _ p pos hk h1 h2 (hg y List.mem_cons_self) (fun x hx => hg x (List.mem_cons_of_mem _ hx)) (I_es.e X (y :: ys) ok cl h3)) fun σ H Q q => ?_
  have q : tR X.K (RV X.K) (fun τ st => (evs ge cf es τ st).bind fun xs st => cf f xs st) σ H Q := by
    obtain ⟨φ, τ, st, rs, sim, post⟩ := q
    exact ⟨φ, τ, st, rs, sim, by show Post X.K (RV X.K) noW φ H ((evs ge cf es τ st).bind fun xs st => cf f xs st) Q; rw [← eq]; exact post⟩
  refine tR.bind (f := evs ge cf es) (g := fun τ xs st => cf f xs st) q fun φ τ x st v H1 rs s rv post => ?_
  exact ⟨φ, st, x, s, rv, post⟩

theorem e_blt {b : Blt} {es : CEs} (I_es : IHEs ge cf es) : ∀ (X : Cx) (e : Expr), Ok ge X → CallsM ge cf X → chkE X.N X.env.scope (.blt b es) e = true → PE X e (tD X.K (ev ge cf (.blt b es))) := by
  intro X e0 ok cl h
  obtain ⟨x, p, y, ys, pos, rfl⟩ := iv_blt h
  simp only [chkE, Bool.and_eq_true, decide_eq_true_eq] at h
  obtain ⟨⟨rfl, h1⟩, h3⟩ := h
  have hg := goods h3
  refine PE.weak (callBlt ok.calm ok.free (glB_ok h1) (hg y List.mem_cons_self) (fun x hx => hg x (List.mem_cons_of_mem _ hx)) (I_es.e X (y :: ys) ok cl h3)) fun σ H Q q => ?_
  refine tR.bind (f := evs ge cf es) (g := fun τ xs st => blt b xs st) q fun φ τ x st v H1 rs s rv post => ?_
  exact ⟨φ, st, x, s, rv, post⟩

theorem e_mth {m : Mth} {o : CE} {es : CEs} (I_o : IHE ge cf o) (I_es : IHEs ge cf es) : ∀ (X : Cx) (e : Expr), Ok ge X → CallsM ge cf X → chkE X.N X.env.scope (.mth m o es) e = true → PE X e (tD X.K (ev ge cf (.mth m o es))) := by
  intro X e0 ok cl h
  obtain ⟨x, a, ap, ys, cp, rfl⟩ := iv_mth h
  simp only [chkE, Bool.and_eq_true, decide_eq_true_eq] at h
  obtain ⟨⟨⟨⟨⟨⟨rfl, h1⟩, h2⟩, h3⟩, h4⟩, h5⟩, h6⟩ := h
  have hg := goods h6
  have F := mFacts m h1
  have ho := I_o.e X x ok cl h5
  have hbase := base_good (f := mName m) (env := X.env) (w := eval x X.env) (good_of h5) h2
  have hline : (ap.endLine == cp.line) = true := by rw [h3]; exact beq_self_eq_true _
  have fin : ∀ σ H Q, tD X.K (ev ge cf (.mth m o es)) σ H Q → tBM X.K (mType m) (rM X.K m) (tD X.K (ev ge cf o)) (tDs X.K (evs ge cf es)) σ H Q := fun σ H Q q => by
    refine tR.bind (f := ev ge cf o) (g := fun τ x st => gd (mOk m x st = true) ((evs ge cf es τ st).bind fun xs st => mth m x xs st)) q fun φ τ x st v H1 rs s rv post => ?_
    obtain ⟨hk, post⟩ := gd_ok post
    refine ⟨mOk_ty s rv hk, φ, τ, st, rs, s, post.bind fun y st2 φ2 H2 w e s2 rw' p => ⟨φ2, st2, x, y, s2, rv.ext e, rw', p⟩⟩
  cases ys with
  | nil =>
    refine PE.weak (pe_bm0 F.pa F.slot F.ty (mAny m h1) ho hbase hline) fun σ H Q q => ?_
    cases es with
    | nil =>
      refine tR.bind (f := ev ge cf o) (g := fun τ x st => gd (mOk m x st = true) ((evs ge cf .nil τ st).bind fun xs st => mth m x xs st)) q fun φ τ x st v H1 rs s rv post => ?_
      obtain ⟨hk, post⟩ := gd_ok post
      exact ⟨mOk_ty s rv hk, φ, st, x, [], s, rv, .nil, post⟩
    | cons _ _ => cases h6
  | cons y ys =>
    have g1 := hg y List.mem_cons_self
    have g2 : ∀ x ∈ ys, good x = true := fun x hx => hg x (List.mem_cons_of_mem _ hx)
    refine PE.weak (pe_bm F.pa F.slot F.ty (mAny m h1) ho (I_es.e X (y :: ys) ok cl h6) hbase ?_ hline (star_good g1) (star_all g2)) fin
    have e1 := star_none (env := X.env) (pos := cp) hg
    rw [e1]
    have e2 : decide ((y :: ys).length + ([] : List Keyword).length + (if ([] : List Keyword).isEmpty then 0 else 1) < 30) = true := by
      apply decide_eq_true
      show (y :: ys).length + 0 + 0 < 30
      omega
    rw [e2]; rfl

theorem e_isI {a : CE} {t : Ty} (I_a : IHE ge cf a) : ∀ (X : Cx) (e : Expr), Ok ge X → CallsM ge cf X → chkE X.N X.env.scope (.isI a t) e = true → PE X e (tD X.K (ev ge cf (.isI a t))) := by
  intro X e0 ok cl h
  obtain ⟨x, p, y, z, q, pos, rfl⟩ := iv_isI h
  simp only [chkE, Bool.and_eq_true, decide_eq_true_eq] at h
  obtain ⟨⟨⟨⟨⟨rfl, h1⟩, rfl⟩, h3⟩, h4⟩, h5⟩ := h
  have hy := I_a.e X y ok cl h5
  have hT : ∃ T : String, PE X (.Name (tName t) q) (tC (.ty T)) ∧ T = (match (generalizing := false) t with | .int => "int" | .bool => "bool" | .str => "str" | .tuple => "tuple" | .list => "list" | .dict => "dict" | .own _ => "") := by
    cases t with
    | int => exact ⟨"int", pe_bltn (glB_ok h4) (ok.free _ (by decide +kernel)) (by decide +kernel) rfl (by decide +kernel) (by decide +kernel), rfl⟩
    | bool => exact ⟨"bool", pe_bltn (glB_ok h4) (ok.free _ (by decide +kernel)) (by decide +kernel) rfl (by decide +kernel) (by decide +kernel), rfl⟩
    | str => exact ⟨"str", pe_bltn (glB_ok h4) (ok.free _ (by decide +kernel)) (by decide +kernel) rfl (by decide +kernel) (by decide +kernel), rfl⟩
    | tuple => exact ⟨"tuple", pe_bltn (glB_ok h4) (ok.free _ (by decide +kernel)) (by decide +kernel) rfl (by decide +kernel) (by decide +kernel), rfl⟩
    | list => exact ⟨"list", pe_bltn (glB_ok h4) (ok.free _ (by decide +kernel)) (by decide +kernel) rfl (by decide +kernel) (by decide +kernel), rfl⟩
    | dict => exact ⟨"dict", pe_bltn (glB_ok h4) (ok.free _ (by decide +kernel)) (by decide +kernel) rfl (by decide +kernel) (by decide +kernel), rfl⟩
    | own _ => cases h3
  obtain ⟨T, hT, eT⟩ := hT
  have hm := ok.free "isinstance" (by decide +kernel)
  have gy := good_of h5
  refine PE.weak (pe_callB call_isi (glB_ok h1) hm (by decide +kernel) (pa_cons hy (pa_cons hT pa_nil) (star_good gy)) (by decide +kernel) (by decide +kernel) (star_good gy) rfl) fun σ H Q q => ?_
  refine tR.bind (f := ev ge cf a) (g := fun τ x st => .ok (D.bl (isTy ge.bs st x t)) st) q fun φ τ x st v H1 rs s rv post => ?_
  obtain ⟨tn, h6, h7⟩ := ty_of s rv
  refine ⟨v, .ty T, .type tn, .type T, isTy ge.bs st x t, rfl, ?_, h6, ?_, ok_here post s (.bl _)⟩
  · exact .ty T
  · rw [eT]; exact kit_ty (h7 ge.bs t h3)

theorem l_disp {es : CEs} (I_es : IHEs ge cf es) : ∀ (X : Cx) (e : Expr), Ok ge X → CallsM ge cf X → chkL X.N X.env.scope (.disp es) e = true → PE X e (tO X.K (evl ge cf (.disp es))) := by
  intro X e0 ok cl h
  obtain ⟨xs, p, rfl⟩ := iv_disp h
  refine PE.weak (pe_lst (I_es.e X xs ok cl h)) fun σ H Q ⟨φ, τ, st, rs, sim, post⟩ => ?_
  have post : PostO X.K φ H ((evs ge cf es τ st).bind fun xs st => gd (xs.length ≤ lineN) (.ok xs st)) Q := post
  refine ⟨φ, τ, st, rs, sim, post.bind fun x st2 φ2 H2 w e s2 rw' p => ?_⟩
  obtain ⟨hz, p⟩ := gdO p
  exact ⟨by rw [rw'.length, ← line_eq]; exact hz, okO p s2 rw'⟩

theorem l_comp {t : List Nat} {one : Bool} {it : CI} {c : CO} {b : CE} (I_it : IHI ge cf it) (I_c : IHO ge cf c) (I_b : IHE ge cf b) : ∀ (X : Cx) (e : Expr), Ok ge X → CallsM ge cf X → chkL X.N X.env.scope (.comp t one it c b) e = true → PE X e (tO X.K (evl ge cf (.comp t one it c b))) := by
  intro X e0 ok cl h
  obtain ⟨elt, tg, iter, ifs, k, scope, pos, rfl⟩ := iv_comp h
  simp only [chkL, Bool.and_eq_true, decide_eq_true_eq] at h
  obtain ⟨⟨⟨⟨⟨rfl, h1⟩, h2⟩, h3⟩, h4⟩, h5⟩ := h
  obtain ⟨g, tt, te, p1, p2, p3, p4, rd⟩ := lcO ok.calm ok.nd (pos := pos) h1 h2 (I_it.i X tg iter ok cl h3).1 (fun s H C cs fp => I_c.f (X.blk s H scope (compEnvC scope cs C X.env) fp) ifs (ok.blk _ _ _ _ _) (cl.blk _ _ _ _ _) h4)
    (fun s H C cs fp => I_b.e (X.blk s H scope (compEnvC scope cs C X.env) fp) elt (ok.blk _ _ _ _ _) (cl.blk _ _ _ _ _) h5)
  exact PE.weak (pe_lc ok.calm ok.nd p1 (blkOk_by h1) p2 p3 p4 (I_it.i X tg iter ok cl h3).2) rd

theorem l_listOf {c : CE} (I_c : IHE ge cf c) : ∀ (X : Cx) (e : Expr), Ok ge X → CallsM ge cf X → chkL X.N X.env.scope (.listOf c) e = true → PE X e (tO X.K (evl ge cf (.listOf c))) := by
  intro X e0 ok cl h
  obtain ⟨x, p, y, pos, rfl⟩ := iv_listOf h
  simp only [chkL, Bool.and_eq_true, decide_eq_true_eq] at h
  obtain ⟨⟨rfl, h1⟩, h2⟩ := h
  have gy := good_of h2
  refine PE.weak (pe_callTy call_list_of (glB_ok h1) (ok.free _ (by decide +kernel)) (by decide +kernel) (pa_cons (I_c.e X y ok cl h2) pa_nil (star_good gy)) (by decide +kernel) (by decide +kernel) (star_good gy) rfl) fun σ H Q ⟨φ, τ, st, rs, sim, post⟩ => ?_
  have post : PostO X.K φ H ((ev ge cf c τ st).bind fun x st => match items st x with | some xs => .ok xs st | none => .err) Q := post
  refine ⟨φ, τ, st, rs, sim, post.bind fun x st2 φ2 H2 w e s2 rw' p => ?_⟩
  cases ei : items st2 x with
  | none => rw [ei] at p; exact p.elim
  | some xs =>
    rw [ei] at p
    obtain ⟨q, vs, rfl, hq, rq⟩ := items_at s2 rw' ei
    refine ⟨q, vs, rfl, ?_, okO p s2 rq⟩
    rcases hq with hq | hq
    · exact .inl hq
    · exact .inr hq

theorem l_rep {es : CEs} {n : CE} (I_es : IHEs ge cf es) (I_n : IHE ge cf n) : ∀ (X : Cx) (e : Expr), Ok ge X → CallsM ge cf X → chkL X.N X.env.scope (.rep es n) e = true → PE X e (tO X.K (evl ge cf (.rep es n))) := by
  intro X e0 ok cl h
  obtain ⟨xs, lp, r, p, rfl⟩ := iv_rep h
  simp only [chkL, Bool.and_eq_true] at h
  refine PE.weak (pe_op rep_lists (pe_lst (pos := lp) (I_es.e X xs ok cl h.1)) (I_n.e X r ok cl h.2)) fun σ H Q ⟨φ, τ, st, rs, sim, post⟩ => ?_
  have post : PostO X.K φ H ((evs ge cf es τ st).bind fun xs st => gd (xs.length ≤ lineN) ((ev ge cf n τ st).bind fun y st => match y with
    | .int k => gd (xs.length * k.toNat ≤ lineN ∧ 0 ≤ k ∧ k ≤ lineN) (.ok (reps xs k) st)
    | _ => .err)) Q := post
  refine ⟨φ, τ, st, rs, sim, post.bind fun x st2 φ2 H2 w e s2 rw' p => ?_⟩
  obtain ⟨hz, p⟩ := gdO p
  refine ⟨by rw [rw'.length, ← line_eq]; exact hz, fun q hq => ?_⟩
  have e3 : Ext X.K φ2 H2 φ2 (upd H2 q (.lst w)) := Ext.fresh hq
  refine ⟨φ2, τ, st2, (rs.ext e).ext e3, s2.new hq, (p.ext e3).bind fun y st4 φ4 H4 w4 e4 s4 rw4 p4 => ?_⟩
  cases rw4 with
  | int k =>
    obtain ⟨⟨c1, c2, c3⟩, p4⟩ := gdO p4
    have hq4 : H4 q = some (.lst w) := e4.keep q _ upd_same (s2.fresh hq)
    rw [line_eq] at c1 c3
    exact ⟨q, k, w, rfl, rfl, .inl hq4, c2, c3, by rw [rw'.length]; exact c1, okO p4 s4 (((rw'.ext e3).ext e4).replicate _)⟩
  | _ => exact p4.elim

theorem l_range1 {a : CE} (I_a : IHE ge cf a) : ∀ (X : Cx) (e : Expr), Ok ge X → CallsM ge cf X → chkL X.N X.env.scope (.range1 a) e = true → PE X e (tO X.K (evl ge cf (.range1 a))) := by
  intro X e0 ok cl h
  obtain ⟨x, p, y, p2, z, p3, pos, rfl⟩ := iv_lr1 h
  simp only [chkL, Bool.and_eq_true, decide_eq_true_eq] at h
  obtain ⟨⟨⟨⟨rfl, h1⟩, rfl⟩, h2⟩, h3⟩ := h
  refine PE.weak (pe_listRg ok.calm (glB_ok h1) (ok.free _ (by decide +kernel)) (prg_1 (glB_ok h2) (ok.free _ (by decide +kernel)) (I_a.e X z ok cl h3) (star_good (good_of h3)))) fun σ H Q ⟨φ, τ, st, rs, sim, post⟩ => ?_
  have post : PostO X.K φ H ((ev ge cf a τ st).bind fun x st => match x with | .int i => gd (i ≤ lineN ∧ -(lineN : Int) ≤ i) (.ok (rng 0 i) st) | _ => .err) Q := post
  refine ⟨φ, τ, st, rs, sim, post.bind fun x st2 φ2 H2 w e s2 rw' p => ?_⟩
  cases rw' with
  | int i =>
    obtain ⟨⟨c1, c2⟩, p⟩ := gdO p
    have hl : lineN = 16777216 := rfl
    refine ⟨i, rfl, ⟨by omega, by omega, by omega, by omega, by omega⟩, ?_⟩
    have r : RepVs X.K φ2 H2 (rgV 0 i) (rng 0 i) := by
      have := RepVs.ints (K := X.K) (φ := φ2) (H := H2) ((List.range (i - 0).toNat).map fun (j : Nat) => (0 : Int) + (j : Int))
      rw [List.map_map, List.map_map] at this
      exact this
    exact okO p s2 r
  | _ => exact p.elim

theorem l_range2 {a : CE} {b : CE} (I_a : IHE ge cf a) (I_b : IHE ge cf b) : ∀ (X : Cx) (e : Expr), Ok ge X → CallsM ge cf X → chkL X.N X.env.scope (.range2 a b) e = true → PE X e (tO X.K (evl ge cf (.range2 a b))) := by
  intro X e0 ok cl h
  obtain ⟨x, p, y, p2, z, w, p3, pos, rfl⟩ := iv_lr2 h
  simp only [chkL, Bool.and_eq_true, decide_eq_true_eq] at h
  obtain ⟨⟨⟨⟨⟨rfl, h1⟩, rfl⟩, h2⟩, h3⟩, h4⟩ := h
  have gz := good_of h3
  have gw := good_of h4
  refine PE.weak (pe_listRg ok.calm (glB_ok h1) (ok.free _ (by decide +kernel)) (prg_2 (glB_ok h2) (ok.free _ (by decide +kernel)) (I_a.e X z ok cl h3) (I_b.e X w ok cl h4) (star_good gz) (star_good gw)
    (star_all fun x hx => by rw [List.mem_singleton.mp hx]; exact gw))) fun σ H Q ⟨φ, τ, st, rs, sim, post⟩ => ?_
  have post : PostO X.K φ H ((ev ge cf a τ st).bind fun x st => (ev ge cf b τ st).bind fun y st => match x, y with
    | .int i, .int j => gd (i ≤ lineN ∧ -(lineN : Int) ≤ i ∧ j ≤ lineN ∧ -(lineN : Int) ≤ j ∧ j - i ≤ lineN) (.ok (rng i j) st)
    | _, _ => .err) Q := post
  refine ⟨φ, τ, st, rs, sim, post.bind fun x st2 φ2 H2 w e s2 rw' p => ?_⟩
  refine ⟨φ2, τ, st2, rs.ext e, s2, p.bind fun y st3 φ3 H3 w3 e3 s3 rw3 p3 => ?_⟩
  cases rw' with
  | int i =>
    cases rw3 with
    | int j =>
      obtain ⟨⟨c1, c2, c3, c4, c5⟩, p3⟩ := gdO p3
      have hl : lineN = 16777216 := rfl
      refine ⟨i, j, rfl, rfl, ⟨by omega, by omega, by omega, by omega, by omega⟩, ?_⟩
      have r : RepVs X.K φ3 H3 (rgV i j) (rng i j) := by
        have := RepVs.ints (K := X.K) (φ := φ3) (H := H3) ((List.range (j - i).toNat).map fun (k : Nat) => i + (k : Int))
        rw [List.map_map, List.map_map] at this
        exact this
      exact okO p3 s3 r
    | _ => exact p3.elim
  | _ => cases rw3 <;> exact p3.elim

theorem w_and {a : CE} {b : CE} (I_a : IHE ge cf a) (I_b : IHE ge cf b) : ∀ (X : Cx) (e : Expr), Ok ge X → CallsM ge cf X → chkE X.N X.env.scope (.and a b) e = true → isBO e = true → PW X e (tB' X.K (ev ge cf (.and a b))) := by
  intro X e0 ok cl h _
  obtain ⟨x, y, rest, pos, rfl⟩ := iv_and h
  have hb : chkE X.N X.env.scope a x = true ∧ PW X (.BoolOp .And (y :: rest) pos) (tB' X.K (ev ge cf b)) := by
    cases rest with
    | nil =>
      have h : (chkE X.N X.env.scope a x && chkE X.N X.env.scope b y) = true := h
      rw [Bool.and_eq_true] at h
      exact ⟨h.1, pw_and1 (I_b.t X y ok cl h.2)⟩
    | cons z zs =>
      have h : (chkE X.N X.env.scope a x && chkE X.N X.env.scope b (.BoolOp .And (y :: z :: zs) pos)) = true := h
      rw [Bool.and_eq_true] at h
      exact ⟨h.1, I_b.w X _ ok cl h.2 rfl⟩
  refine PW.weak (pw_and (I_a.t X x ok cl hb.1) hb.2) fun σ H Q ⟨φ, τ, st, rs, s, post⟩ => ?_
  have post : Post X.K (fun _ _ (v : Bool) b => v = b) noW φ H (asB ((ev ge cf a τ st).bind fun x st => match x with | .bl true => ev ge cf b τ st | .bl false => .ok (.bl false) st | _ => .err)) Q := post
  have post : Post X.K (fun _ _ (v : Bool) b => v = b) noW φ H ((asB (ev ge cf a τ st)).bind fun k st => match k with | true => asB (ev ge cf b τ st) | false => .ok false st) Q := by
    cases e : ev ge cf a τ st with
    | ok d st1 =>
      rw [e] at post
      cases d with
      | bl k => cases k <;> exact post
      | _ => exact post
    | exc d st1 => rw [e] at post; exact post
    | err => rw [e] at post; exact post
  refine ⟨φ, τ, st, rs, s, post.bind fun k st1 φ1 H1 v e1 s1 rv p1 => ?_⟩
  subst rv
  cases v with
  | true => rw [if_pos rfl]; exact ⟨φ1, τ, st1, rs.ext e1, s1, p1⟩
  | false => rw [if_neg Bool.false_ne_true]; exact okB p1 s1

theorem w_or {a : CE} {b : CE} (I_a : IHE ge cf a) (I_b : IHE ge cf b) : ∀ (X : Cx) (e : Expr), Ok ge X → CallsM ge cf X → chkE X.N X.env.scope (.or a b) e = true → isBO e = true → PW X e (tB' X.K (ev ge cf (.or a b))) := by
  intro X e0 ok cl h _
  obtain ⟨x, y, rest, pos, rfl⟩ := iv_or h
  have hb : chkE X.N X.env.scope a x = true ∧ PW X (.BoolOp .Or (y :: rest) pos) (tB' X.K (ev ge cf b)) := by
    cases rest with
    | nil =>
      have h : (chkE X.N X.env.scope a x && chkE X.N X.env.scope b y) = true := h
      rw [Bool.and_eq_true] at h
      exact ⟨h.1, pw_or1 (I_b.t X y ok cl h.2)⟩
    | cons z zs =>
      have h : (chkE X.N X.env.scope a x && chkE X.N X.env.scope b (.BoolOp .Or (y :: z :: zs) pos)) = true := h
      rw [Bool.and_eq_true] at h
      exact ⟨h.1, I_b.w X _ ok cl h.2 rfl⟩
  refine PW.weak (pw_or (I_a.t X x ok cl hb.1) hb.2) fun σ H Q ⟨φ, τ, st, rs, s, post⟩ => ?_
  have post : Post X.K (fun _ _ (v : Bool) b => v = b) noW φ H (asB ((ev ge cf a τ st).bind fun x st => match x with | .bl true => .ok (.bl true) st | .bl false => ev ge cf b τ st | _ => .err)) Q := post
  have post : Post X.K (fun _ _ (v : Bool) b => v = b) noW φ H ((asB (ev ge cf a τ st)).bind fun k st => match k with | true => .ok true st | false => asB (ev ge cf b τ st)) Q := by
    cases e : ev ge cf a τ st with
    | ok d st1 =>
      rw [e] at post
      cases d with
      | bl k => cases k <;> exact post
      | _ => exact post
    | exc d st1 => rw [e] at post; exact post
    | err => rw [e] at post; exact post
  refine ⟨φ, τ, st, rs, s, post.bind fun k st1 φ1 H1 v e1 s1 rv p1 => ?_⟩
  subst rv
  cases v with
  | true => rw [if_pos rfl]; exact okB p1 s1
  | false => rw [if_neg Bool.false_ne_true]; exact ⟨φ1, τ, st1, rs.ext e1, s1, p1⟩

theorem t_not {a : CE} (I_a : IHE ge cf a) : ∀ (X : Cx) (e : Expr), Ok ge X → CallsM ge cf X → chkE X.N X.env.scope (.not a) e = true → PT X e (tB' X.K (ev ge cf (.not a))) := by
  intro X e0 ok cl h
  obtain ⟨x, p, rfl⟩ := iv_not h
  refine PT.weak (pt_not (I_a.t X x ok cl h)) fun σ H Q ⟨φ, τ, st, rs, s, post⟩ => ?_
  refine ⟨φ, τ, st, rs, s, ?_⟩
  have post : Post X.K (fun _ _ (v : Bool) b => v = b) noW φ H (asB ((ev ge cf a τ st).bind fun x st => match x with | .bl b => .ok (.bl (!b)) st | _ => .err)) Q := post
  show Post X.K _ noW φ H (asB (ev ge cf a τ st)) _
  cases e : ev ge cf a τ st with
  | ok d st1 =>
    rw [e] at post
    cases d with
    | bl b => exact fun φ' H' v e' s' hv => by cases hv; exact post φ' H' _ e' s' rfl
    | _ => exact post
  | exc d st1 => rw [e] at post; exact post
  | err => rw [e] at post; exact post

theorem t_cmp {op : CmpOp} {a : CE} {b : CE} (I_a : IHE ge cf a) (I_b : IHE ge cf b) : ∀ (X : Cx) (e : Expr), Ok ge X → CallsM ge cf X → chkE X.N X.env.scope (.cmp op a b) e = true → PT X e (tB' X.K (ev ge cf (.cmp op a b))) := by
  intro X e0 ok cl h
  obtain ⟨l, o, r, p, rfl⟩ := iv_cmp h
  simp only [chkE, Bool.and_eq_true, decide_eq_true_eq] at h
  obtain ⟨⟨rfl, h1⟩, h2⟩ := h
  refine PT.weak (pt_cmpR (cmpAny ok.room) (I_a.e X l ok cl h1) (I_b.e X r ok cl h2) (mark_good (good_of h2))) fun σ H Q ⟨φ, τ, st, rs, s, post⟩ => ?_
  have post : Post X.K (fun _ _ (v : Bool) b => v = b) noW φ H (asB ((ev ge cf a τ st).bind fun x st => (ev ge cf b τ st).bind fun y st => (cmpB o x y st).bind fun b st => .ok (.bl b) st)) Q := post
  have post : Post X.K (fun _ _ (v : Bool) b => v = b) noW φ H ((ev ge cf a τ st).bind fun x st => (ev ge cf b τ st).bind fun y st => cmpB o x y st) Q := by
    cases e1 : ev ge cf a τ st with
    | ok x st1 =>
      rw [e1] at post
      simp only [Res.bind_ok] at post ⊢
      cases e2 : ev ge cf b τ st1 with
      | ok y st2 =>
        rw [e2] at post
        simp only [Res.bind_ok] at post ⊢
        cases e3 : cmpB o x y st2 with
        | ok z st3 => rw [e3] at post; exact post
        | exc d st3 => rw [e3] at post; exact post
        | err => rw [e3] at post; exact post
      | exc d st2 => rw [e2] at post; exact post
      | err => rw [e2] at post; exact post
    | exc d st1 => rw [e1] at post; exact post
    | err => rw [e1] at post; exact post
  refine ⟨φ, τ, st, rs, s, post.bind fun x st1 φ1 H1 v e1 s1 rv p1 => ?_⟩
  exact ⟨φ1, τ, st1, rs.ext e1, s1, p1.bind fun y st2 φ2 H2 w e s2 rw' p => ⟨φ2, st2, x, y, s2, rv.ext e, rw', fun_cmp p⟩⟩

theorem t_chain {op : CmpOp} {op' : CmpOp} {a : CE} {b : CE} {c : CE} (I_a : IHE ge cf a) (I_b : IHE ge cf b) (I_c : IHE ge cf c) : ∀ (X : Cx) (e : Expr), Ok ge X → CallsM ge cf X → chkE X.N X.env.scope (.chain op op' a b c) e = true → PT X e (tB' X.K (ev ge cf (.chain op op' a b c))) := by
  intro X e0 ok cl h
  obtain ⟨l, o, o', m, r, p, rfl⟩ := iv_chain h
  simp only [chkE, Bool.and_eq_true, decide_eq_true_eq] at h
  obtain ⟨⟨⟨⟨rfl, rfl⟩, h1⟩, h2⟩, h3⟩ := h
  refine PT.weak (pt_chain (cmpAny ok.room) (cmpAny ok.room) (I_a.e X l ok cl h1) (I_b.e X m ok cl h2) (I_c.e X r ok cl h3) (last_good (good_of h3))) fun σ H Q ⟨φ, τ, st, rs, s, post⟩ => ?_
  have post : Post X.K (fun _ _ (v : Bool) b => v = b) noW φ H (asB ((ev ge cf a τ st).bind fun x st => (ev ge cf b τ st).bind fun y st => (cmpB o x y st).bind fun k st => match k with
    | true => (ev ge cf c τ st).bind fun z st => (cmpB o' y z st).bind fun b st => .ok (.bl b) st
    | false => .ok (.bl false) st)) Q := post
  have post : PostV X.K φ H ((ev ge cf a τ st).bind fun x st => (ev ge cf b τ st).bind fun y st => (cmpB o x y st).bind fun k st => match k with
    | true => (ev ge cf c τ st).bind fun z st => (cmpB o' y z st).bind fun b st => .ok (.bl b) st
    | false => .ok (.bl false) st) (fun x H' => ∃ k, x = .bl k ∧ Q k H') := test_val post
  refine ⟨φ, τ, st, rs, s, post.bind fun x st1 φ1 H1 v e1 s1 rv p1 => ?_⟩
  refine ⟨φ1, τ, st1, rs.ext e1, s1, p1.bind fun y st2 φ2 H2 w e s2 rw' p => ⟨φ2, st2, x, y, s2, rv.ext e, rw', ?_⟩⟩
  refine p.bind fun k st3 φ3 H3 z e3 s3 rz p3 => ⟨k, rz, ?_⟩
  cases k with
  | true => rw [if_pos rfl]; exact ⟨φ3, τ, st3, ((rs.ext e1).ext e).ext e3, s3, p3.bind fun z st4 φ4 H4 w4 e4 s4 rw4 p4 => ⟨φ4, st4, y, z, s4, (rw'.ext e3).ext e4, rw4, cmpPost p4⟩⟩
  | false => rw [if_neg Bool.false_ne_true]; exact ok_here p3 s3 (.bl _)

theorem t_ite {c : CE} {a : CE} {b : CE} (I_c : IHE ge cf c) (I_a : IHE ge cf a) (I_b : IHE ge cf b) : ∀ (X : Cx) (e : Expr), Ok ge X → CallsM ge cf X → chkE X.N X.env.scope (.ite c a b) e = true → PT X e (tB' X.K (ev ge cf (.ite c a b))) := by
  intro X e0 ok cl h
  obtain ⟨t, x, y, p, rfl⟩ := iv_ite h
  simp only [chkE, Bool.and_eq_true] at h
  have h1 := I_c.t X t ok cl h.1.1
  have h2 := I_a.t X x ok cl h.1.2
  have h3 := I_b.t X y ok cl h.2
  refine ⟨fun pins s σ H Q I ⟨φ, τ, st, rs, sim, post⟩ => ?_⟩
  have post : Post X.K (fun _ _ (v : Bool) b => v = b) noW φ H ((asB (ev ge cf c τ st)).bind fun k st => match k with | true => asB (ev ge cf a τ st) | false => asB (ev ge cf b τ st)) Q := by
    have post : Post X.K (fun _ _ (v : Bool) b => v = b) noW φ H (asB ((ev ge cf c τ st).bind fun x st => match x with | .bl true => ev ge cf a τ st | .bl false => ev ge cf b τ st | _ => .err)) Q := post
    cases e : ev ge cf c τ st with
    | ok d st1 =>
      rw [e] at post
      cases d with
      | bl k => cases k <;> exact post
      | _ => exact post
    | exc d st1 => rw [e] at post; exact post
    | err => rw [e] at post; exact post
  refine isTrue_IfExp (thn (h1.run pins s σ H (fun k H1 => if k = true then tB' X.K (ev ge cf a) σ H1 Q else tB' X.K (ev ge cf b) σ H1 Q) I ⟨φ, τ, st, rs, sim, post.bind fun k st1 φ1 H1 v e1 s1 rv p1 => ?_⟩) fun d s1 ⟨H1, I1, q1⟩ => ?_)
  · subst rv
    cases v with
    | true => rw [if_pos rfl]; exact ⟨φ1, τ, st1, rs.ext e1, s1, p1⟩
    | false => rw [if_neg Bool.false_ne_true]; exact ⟨φ1, τ, st1, rs.ext e1, s1, p1⟩
  · cases d with
    | true => rw [if_pos rfl] at q1; exact h2.run pins s1 σ H1 Q I1 q1
    | false => rw [if_neg Bool.false_ne_true] at q1; exact h3.run pins s1 σ H1 Q I1 q1

theorem t_neg {a : CE} (I_a : IHE ge cf a) : ∀ (X : Cx) (e : Expr), Ok ge X → CallsM ge cf X → chkE X.N X.env.scope (.neg a) e = true → PT X e (tB' X.K (ev ge cf (.neg a))) := by
  intro X e0 ok cl h
  refine ⟨fun pins s σ H Q I ⟨φ, τ, st, rs, sim, post⟩ => ?_⟩
  have post : Post X.K (fun _ _ (v : Bool) b => v = b) noW φ H (asB ((ev ge cf a τ st).bind fun x st => match x with | .int i => .ok (.int (-i)) st | _ => .err)) Q := post
  obtain ⟨x, p, rfl⟩ := iv_neg h
  have key : ∀ r : Res D, Post X.K (fun _ _ (v : Bool) b => v = b) noW φ H (asB (r.bind fun x st => match x with | .int i => .ok (.int (-i)) st | _ => .err)) Q → (∃ d st1, r = .exc d st1) := by
    intro r
    cases r with
    | ok d st1 => cases d <;> exact False.elim
    | exc d st1 => exact fun _ => ⟨d, st1, rfl⟩
    | err => exact False.elim
  have hx := I_a.e X x ok cl h
  obtain ⟨d, st1, e⟩ := key _ post
  rw [e] at post
  have hh : tD X.K (ev ge cf a) σ H (fun _ _ => False) := ⟨φ, τ, st, rs, sim, by rw [e]; exact post⟩
  refine isTrue_plain (UnaryOp_ (thn (hx.run pins s σ H _ I hh) fun u s1 ⟨_, _, _, _, z⟩ => z.elim)) rfl

theorem ih_var {i : Nat}  : IHE ge cf (.var i) :=
  ⟨e_var , fun X e0 ok cl h => asTest (e_var  X e0 ok cl h) (by obtain ⟨x, p, rfl⟩ := iv_name1 h; exact test_plain rfl), fun X e0 ok cl h hb => by obtain ⟨x, p, rfl⟩ := iv_name1 h; cases hb⟩

theorem ih_non   : IHE ge cf (.non) :=
  ⟨e_non , fun X e0 ok cl h => asTest (e_non  X e0 ok cl h) (by obtain ⟨k, p, rfl⟩ := iv_non h; exact test_plain rfl), fun X e0 ok cl h hb => by obtain ⟨k, p, rfl⟩ := iv_non h; cases hb⟩

theorem ih_bl {b : Bool}  : IHE ge cf (.bl b) :=
  ⟨e_bl , fun X e0 ok cl h => asTest (e_bl  X e0 ok cl h) (by obtain ⟨c, k, p, rfl⟩ := iv_bl h; exact test_plain rfl), fun X e0 ok cl h hb => by obtain ⟨c, k, p, rfl⟩ := iv_bl h; cases hb⟩

theorem ih_int {i : Int}  : IHE ge cf (.int i) :=
  ⟨e_int , fun X e0 ok cl h => asTest (e_int  X e0 ok cl h) (by obtain ⟨c, k, p, rfl⟩ := iv_int h; exact test_plain rfl), fun X e0 ok cl h hb => by obtain ⟨c, k, p, rfl⟩ := iv_int h; cases hb⟩

theorem ih_str {z : List Nat}  : IHE ge cf (.str z) :=
  ⟨e_str , fun X e0 ok cl h => asTest (e_str  X e0 ok cl h) (by obtain ⟨c, k, p, rfl⟩ := iv_str h; exact test_plain rfl), fun X e0 ok cl h hb => by obtain ⟨c, k, p, rfl⟩ := iv_str h; cases hb⟩

theorem ih_glob {x : String}  : IHE ge cf (.glob x) :=
  ⟨e_glob , fun X e0 ok cl h => asTest (e_glob  X e0 ok cl h) (by obtain ⟨x, p, rfl⟩ := iv_glob h; exact test_plain rfl), fun X e0 ok cl h hb => by obtain ⟨x, p, rfl⟩ := iv_glob h; cases hb⟩

theorem ih_bin {op : Operator} {a : CE} {b : CE} (I_a : IHE ge cf a) (I_b : IHE ge cf b) : IHE ge cf (.bin op a b) :=
  ⟨e_bin I_a I_b, fun X e0 ok cl h => asTest (e_bin I_a I_b X e0 ok cl h) (by obtain ⟨l, o, r, p, rfl⟩ := iv_bin h; exact test_plain rfl), fun X e0 ok cl h hb => by obtain ⟨l, o, r, p, rfl⟩ := iv_bin h; cases hb⟩

theorem ih_neg {a : CE} (I_a : IHE ge cf a) : IHE ge cf (.neg a) :=
  ⟨e_neg I_a, t_neg I_a, fun X e0 ok cl h hb => by obtain ⟨x, p, rfl⟩ := iv_neg h; cases hb⟩

theorem ih_not {a : CE} (I_a : IHE ge cf a) : IHE ge cf (.not a) :=
  ⟨e_not I_a, t_not I_a, fun X e0 ok cl h hb => by obtain ⟨x, p, rfl⟩ := iv_not h; cases hb⟩

theorem ih_and {a : CE} {b : CE} (I_a : IHE ge cf a) (I_b : IHE ge cf b) : IHE ge cf (.and a b) :=
  ⟨e_and I_a I_b, fun X e0 ok cl h => (w_and I_a I_b X e0 ok cl h (by obtain ⟨x, y, rest, pos, rfl⟩ := iv_and h; rfl)).pt, w_and I_a I_b⟩

theorem ih_or {a : CE} {b : CE} (I_a : IHE ge cf a) (I_b : IHE ge cf b) : IHE ge cf (.or a b) :=
  ⟨e_or I_a I_b, fun X e0 ok cl h => (w_or I_a I_b X e0 ok cl h (by obtain ⟨x, y, rest, pos, rfl⟩ := iv_or h; rfl)).pt, w_or I_a I_b⟩

theorem ih_ite {c : CE} {a : CE} {b : CE} (I_c : IHE ge cf c) (I_a : IHE ge cf a) (I_b : IHE ge cf b) : IHE ge cf (.ite c a b) :=
  ⟨e_ite I_c I_a I_b, t_ite I_c I_a I_b, fun X e0 ok cl h hb => by obtain ⟨t, x, y, p, rfl⟩ := iv_ite h; cases hb⟩

theorem ih_cmp {op : CmpOp} {a : CE} {b : CE} (I_a : IHE ge cf a) (I_b : IHE ge cf b) : IHE ge cf (.cmp op a b) :=
  ⟨e_cmp I_a I_b, t_cmp I_a I_b, fun X e0 ok cl h hb => by obtain ⟨l, o, r, p, rfl⟩ := iv_cmp h; cases hb⟩

theorem ih_chain {op : CmpOp} {op' : CmpOp} {a : CE} {b : CE} {c : CE} (I_a : IHE ge cf a) (I_b : IHE ge cf b) (I_c : IHE ge cf c) : IHE ge cf (.chain op op' a b c) :=
  ⟨e_chain I_a I_b I_c, t_chain I_a I_b I_c, fun X e0 ok cl h hb => by obtain ⟨l, o, o', m, r, p, rfl⟩ := iv_chain h; cases hb⟩

theorem ih_tup {es : CEs} (I_es : IHEs ge cf es) : IHE ge cf (.tup es) :=
  ⟨e_tup I_es, fun X e0 ok cl h => asTest (e_tup I_es X e0 ok cl h) (by obtain ⟨xs, k, p, rfl⟩ := iv_tup h; exact test_plain rfl), fun X e0 ok cl h hb => by obtain ⟨xs, k, p, rfl⟩ := iv_tup h; cases hb⟩

theorem ih_new {l : CL} (I_l : IHL ge cf l) : IHE ge cf (.new l) :=
  ⟨e_new I_l, fun X e0 ok cl h => asTest (e_new I_l X e0 ok cl h) (list_test h), fun X e0 ok cl h hb => by
    have h : chkL X.N X.env.scope l e0 = true := h
    cases e0 <;> first | (cases l <;> cases h; done) | (cases hb; done)⟩

theorem ih_cell {l : CL} (I_l : IHL ge cf l) : IHE ge cf (.cell l) :=
  ⟨e_cell I_l, fun X e0 ok cl h => asTest (e_cell I_l X e0 ok cl h) (list_test h), fun X e0 ok cl h hb => by
    have h : chkL X.N X.env.scope l e0 = true := h
    cases e0 <;> first | (cases l <;> cases h; done) | (cases hb; done)⟩

theorem ih_dict0   : IHE ge cf (.dict0) :=
  ⟨e_dict0 , fun X e0 ok cl h => asTest (e_dict0  X e0 ok cl h) (by obtain ⟨p, rfl⟩ := iv_dict0 h; exact test_plain rfl), fun X e0 ok cl h hb => by obtain ⟨p, rfl⟩ := iv_dict0 h; cases hb⟩

theorem ih_idx {a : CE} {i : CE} (I_a : IHE ge cf a) (I_i : IHE ge cf i) : IHE ge cf (.idx a i) :=
  ⟨e_idx I_a I_i, fun X e0 ok cl h => asTest (e_idx I_a I_i X e0 ok cl h) (by obtain ⟨x, y, p, rfl⟩ := iv_idx h; exact test_plain rfl), fun X e0 ok cl h hb => by obtain ⟨x, y, p, rfl⟩ := iv_idx h; cases hb⟩

theorem ih_slice {a : CE} {lo : CO} {hi : CO} (I_a : IHE ge cf a) (I_lo : IHO ge cf lo) (I_hi : IHO ge cf hi) : IHE ge cf (.slice a lo hi) :=
  ⟨e_slice I_a I_lo I_hi, fun X e0 ok cl h => asTest (e_slice I_a I_lo I_hi X e0 ok cl h) (by obtain ⟨x, l, u, q, p, rfl⟩ := iv_slice h; exact test_plain rfl), fun X e0 ok cl h hb => by obtain ⟨x, l, u, q, p, rfl⟩ := iv_slice h; cases hb⟩

theorem ih_call {f : String} {es : CEs} (I_es : IHEs ge cf es) : IHE ge cf (.call f es) :=
  ⟨e_call I_es, fun X e0 ok cl h => asTest (e_call I_es X e0 ok cl h) (by obtain ⟨x, p, y, ys, pos, rfl⟩ := iv_call h; exact test_plain rfl), fun X e0 ok cl h hb => by obtain ⟨x, p, y, ys, pos, rfl⟩ := iv_call h; cases hb⟩

theorem ih_blt {b : Blt} {es : CEs} (I_es : IHEs ge cf es) : IHE ge cf (.blt b es) :=
  ⟨e_blt I_es, fun X e0 ok cl h => asTest (e_blt I_es X e0 ok cl h) (by obtain ⟨x, p, y, ys, pos, rfl⟩ := iv_blt h; exact test_plain rfl), fun X e0 ok cl h hb => by obtain ⟨x, p, y, ys, pos, rfl⟩ := iv_blt h; cases hb⟩

theorem ih_mth {m : Mth} {o : CE} {es : CEs} (I_o : IHE ge cf o) (I_es : IHEs ge cf es) : IHE ge cf (.mth m o es) :=
  ⟨e_mth I_o I_es, fun X e0 ok cl h => asTest (e_mth I_o I_es X e0 ok cl h) (by obtain ⟨x, a, ap, ys, cp, rfl⟩ := iv_mth h; exact test_plain rfl), fun X e0 ok cl h hb => by obtain ⟨x, a, ap, ys, cp, rfl⟩ := iv_mth h; cases hb⟩

theorem ih_isI {a : CE} {t : Ty} (I_a : IHE ge cf a) : IHE ge cf (.isI a t) :=
  ⟨e_isI I_a, fun X e0 ok cl h => asTest (e_isI I_a X e0 ok cl h) (by obtain ⟨x, p, y, z, q, pos, rfl⟩ := iv_isI h; exact test_plain rfl), fun X e0 ok cl h hb => by obtain ⟨x, p, y, z, q, pos, rfl⟩ := iv_isI h; cases hb⟩

theorem es_nil : IHEs ge cf .nil := ⟨fun X es0 ok cl h => by
  cases es0 with
  | cons _ _ => cases h
  | nil => exact PA.weak pa_nil fun σ H Q ⟨φ, τ, st, rs, sim, post⟩ => post φ H [] Ext.refl sim .nil⟩
theorem es_cons {c : CE} {cs : CEs} (I_c : IHE ge cf c) (I_cs : IHEs ge cf cs) : IHEs ge cf (.cons c cs) := ⟨fun X es0 ok cl h => by
  cases es0 with
  | nil => cases h
  | cons e es =>
    simp only [chkEs, Bool.and_eq_true] at h
    refine PA.weak (pa_cons (I_c.e X e ok cl h.1) (I_cs.e X es ok cl h.2) (star_good (good_of h.1))) fun σ H Q q => ?_
    refine tR.bind (f := ev ge cf c) (g := fun τ x st => (evs ge cf cs τ st).bind fun xs st => .ok (x :: xs) st) q fun φ τ x st v H1 rs s rv post => ?_
    exact ⟨φ, τ, st, rs, s, post.bind fun xs st2 φ2 H2 vs e2 s2 rvs p => p φ2 H2 _ Ext.refl s2 (.cons (rv.ext e2) rvs)⟩⟩
theorem o_none : IHO ge cf .none := ⟨fun X e0 ok cl h => by
    cases e0 with
    | some _ => cases h
    | none => exact ⟨fun pins s σ H Q I ⟨φ, τ, st, rs, sim, post⟩ => (po_none (X := X)).run pins s σ H Q I (post φ H _ Ext.refl sim rfl)⟩, fun X e0 ok cl h => by
    cases e0 with
    | cons _ _ => cases h
    | nil => exact ⟨fun pins s σ H Q I ⟨φ, τ, st, rs, sim, post⟩ => (pts_nil (X := X)).run pins s σ H Q I (okB post sim)⟩⟩
theorem o_some {c : CE} (I_c : IHE ge cf c) : IHO ge cf (.some c) := ⟨fun X e0 ok cl h => by
    cases e0 with
    | none => cases h
    | some e => exact ⟨fun pins s σ H Q I q => (po_some (I_c.e X e ok cl h)).run pins s σ H Q I (by
      refine tR.bind (f := ev ge cf c) (g := fun τ (x : D) st => match x with | .int i => .ok (some i) st | _ => .err) q fun φ τ x st v H1 rs s rv post => ?_
      obtain ⟨i, rfl, rfl, post⟩ := intOf (g := fun i st => .ok (some i) st) rv post
      exact ⟨i, rfl, post φ H1 _ Ext.refl s rfl⟩)⟩, fun X e0 ok cl h => by
    match e0, h with
    | [e], h => exact pts_one (I_c.t X e ok cl h)
    | [], h => cases h
    | _ :: _ :: _, h => cases h⟩
theorem i_of {c : CE} (I_c : IHE ge cf c) : IHI ge cf (.of c) := ⟨fun X tg e ok cl h => ⟨piOf (I_c.e X e ok cl h), fold_good (good_of h)⟩⟩
theorem i_range1 {a : CE} (I_a : IHE ge cf a) : IHI ge cf (.range1 a) := ⟨fun X tg e0 ok cl h => by
  obtain ⟨x, p, y, pos, rfl⟩ := iv_r1 h
  simp only [chkI, Bool.and_eq_true, decide_eq_true_eq] at h
  obtain ⟨⟨rfl, h1⟩, h2⟩ := h
  have gy := good_of h2
  refine ⟨⟨fun pins s σ H R I q => (pi_range1 (tg := tg) (glB_ok h1) (ok.free _ (by decide +kernel)) (pa_cons (I_a.e X y ok cl h2) pa_nil (star_good gy)) (star_good gy)).run pins s σ H R I ?_⟩, fun _ => rfl⟩
  refine tR.bind (f := ev ge cf a) (g := fun τ (x : D) st => match x with | .int i => gd (small62 i) (.ok (rng 0 i, []) st) | _ => .err) q fun φ τ x st v H1 rs s rv post => ?_
  obtain ⟨i, rfl, rfl, post⟩ := intOf (g := fun i st => gd (small62 i) (.ok (rng 0 i, []) st)) rv post
  obtain ⟨hs, post⟩ := gd_ok post
  refine ⟨i, rfl, hs.1, hs.2, ?_⟩
  have := post φ H1 _ Ext.refl s (iterR (a := 0) (b := i))
  rw [Int.sub_zero] at this
  exact this⟩
theorem i_range2 {a b : CE} (I_a : IHE ge cf a) (I_b : IHE ge cf b) : IHI ge cf (.range2 a b) := ⟨fun X tg e0 ok cl h => by
  obtain ⟨x, p, y, z, pos, rfl⟩ := iv_r2 h
  simp only [chkI, Bool.and_eq_true, decide_eq_true_eq] at h
  obtain ⟨⟨⟨rfl, h1⟩, h2⟩, h3⟩ := h
  have gy := good_of h2
  have gz := good_of h3
  refine ⟨⟨fun pins s σ H R I q => (pi_range2 (tg := tg) (glB_ok h1) (ok.free _ (by decide +kernel)) (pa_cons (I_a.e X y ok cl h2) (pa_cons (I_b.e X z ok cl h3) pa_nil (star_good gz)) (star_good gy)) (by rw [star_good gy, star_good gz]; rfl) (by rw [star_good gz]; rfl)).run pins s σ H R I ?_⟩, fun _ => rfl⟩
  refine tR.bind (f := ev ge cf a) (g := fun τ (x : D) st => (ev ge cf b τ st).bind fun y st => match x, y with
      | .int i, .int j => gd (small62 i ∧ small62 j) (.ok (rng i j, []) st)
      | _, _ => .err) q fun φ τ x st v H1 rs s rv post => ?_
  refine ⟨φ, τ, st, rs, s, post.bind fun y st2 φ2 H2 w e s2 rw' p => ?_⟩
  cases rv with
  | int i =>
    cases rw' with
    | int j =>
      obtain ⟨⟨c1, c2⟩, p⟩ := gd_ok p
      exact ⟨i, j, rfl, ⟨c1.1, c1.2, c2.1, c2.2⟩, p φ2 H2 _ Ext.refl s2 (iterR (a := i) (b := j))⟩
    | _ => exact p.elim
  | _ => cases rw' <;> exact p.elim⟩
theorem i_enum {a : CE} (I_a : IHE ge cf a) : IHI ge cf (.enum a) := ⟨fun X tg e0 ok cl h => by
  obtain ⟨es, kk, tp, x, p, y, pos, rfl, rfl⟩ := iv_enum h
  simp only [chkI, Bool.and_eq_true, decide_eq_true_eq] at h
  obtain ⟨⟨rfl, h1⟩, h2⟩ := h
  have gy := good_of h2
  refine ⟨⟨fun pins s σ H R I q => (pi_enum (glB_ok h1) (ok.free _ (by decide +kernel)) (pa_cons (I_a.e X y ok cl h2) pa_nil (star_good gy)) (star_good gy)).run pins s σ H R I ?_⟩, fun _ => rfl⟩
  refine tR.bind (f := ev ge cf a) (g := fun τ (x : D) st => match deref st x with | .lst xs => .ok (enumD 0 xs, watch x xs) st | _ => .err) q fun φ τ x st v H1 rs s rv post => ?_
  cases e : deref st x with
  | lst xs =>
    rw [e] at post
    obtain ⟨q, vs, rfl, h3, h4⟩ := later_list s rv e
    exact ⟨q, vs, rfl, h3, post φ H1 _ Ext.refl s (iterE h4)⟩
  | _ => rw [e] at post; exact post.elim⟩
theorem i_zip {a b : CE} (I_a : IHE ge cf a) (I_b : IHE ge cf b) : IHI ge cf (.zip a b) := ⟨fun X tg e0 ok cl h => by
  obtain ⟨es, kk, tp, x, p, y, z, pos, rfl, rfl⟩ := iv_zip h
  simp only [chkI, Bool.and_eq_true, decide_eq_true_eq] at h
  obtain ⟨⟨⟨rfl, h1⟩, h2⟩, h3⟩ := h
  have gy := good_of h2
  have gz := good_of h3
  refine ⟨⟨fun pins s σ H R I q => (pi_zip (glB_ok h1) (ok.free _ (by decide +kernel)) (pa_cons (I_a.e X y ok cl h2) (pa_cons (I_b.e X z ok cl h3) pa_nil (star_good gz)) (star_good gy)) (by rw [star_good gy, star_good gz]) (by rw [star_good gz]; rfl)).run pins s σ H R I ?_⟩, fun _ => rfl⟩
  refine tR.bind (f := ev ge cf a) (g := fun τ (x : D) st => (ev ge cf b τ st).bind fun y st => match deref st x, deref st y with
      | .lst xs, .lst ys => .ok (zipD xs ys, watch x xs ++ watch y ys) st
      | _, _ => .err) q fun φ τ x st v H1 rs s rv post => ?_
  refine ⟨φ, τ, st, rs, s, post.bind fun y st2 φ2 H2 w e s2 rw' p => ?_⟩
  cases ex : deref st2 x with
  | lst xs =>
    cases ey : deref st2 y with
    | lst ys =>
      rw [ex, ey] at p
      obtain ⟨q1, vs1, rfl, h4, h5⟩ := later_list s2 (rv.ext e) ex
      obtain ⟨q2, vs2, rfl, h6, h7⟩ := later_list s2 rw' ey
      refine ⟨q1, q2, vs1, vs2, rfl, h4, h6, p φ2 H2 _ Ext.refl s2 (iterZ (fun φ3 H3 st3 e3 s3 o3 => h5 φ3 H3 st3 e3 s3 fun q hq => o3 q (List.mem_append_left _ hq)) (fun φ3 H3 st3 e3 s3 o3 => h7 φ3 H3 st3 e3 s3 fun q hq => o3 q (List.mem_append_right _ hq)))⟩
    | _ => rw [ex, ey] at p; exact p.elim
  | _ => rw [ex] at p; exact p.elim⟩
theorem i_rrange2 {a b : CE} (I_a : IHE ge cf a) (I_b : IHE ge cf b) : IHI ge cf (.rrange2 a b) := ⟨fun X tg e0 ok cl h => by
  obtain ⟨x, p, y, p2, z, w, p3, pos, rfl⟩ := iv_rr2 h
  simp only [chkI, Bool.and_eq_true, decide_eq_true_eq] at h
  obtain ⟨⟨⟨⟨⟨rfl, h1⟩, rfl⟩, h2⟩, h3⟩, h4⟩ := h
  have gz := good_of h3
  have gw := good_of h4
  refine ⟨⟨fun pins s σ H R I q => (pi_revR (tg := tg) (glB_ok h1) (ok.free _ (by decide +kernel)) (prg_2 (glB_ok h2) (ok.free _ (by decide +kernel)) (I_a.e X z ok cl h3) (I_b.e X w ok cl h4) (star_good gz) (star_good gw)
      (star_all fun x hx => by rw [List.mem_singleton.mp hx]; exact gw))).run pins s σ H R I ?_⟩, fun _ => rfl⟩
  refine tR.bind (f := ev ge cf a) (g := fun τ (x : D) st => (ev ge cf b τ st).bind fun y st => match x, y with
      | .int i, .int j => gd (small62 i ∧ small62 j) (.ok ((rng i j).reverse, []) st)
      | _, _ => .err) q fun φ τ x st v H1 rs s rv post => ?_
  refine ⟨φ, τ, st, rs, s, post.bind fun y st2 φ2 H2 w e s2 rw' p => ?_⟩
  cases rv with
  | int i =>
    cases rw' with
    | int j =>
      obtain ⟨⟨c1, c2⟩, p⟩ := gd_ok p
      exact ⟨i, j, rfl, rfl, c1.1, c1.2, c2.1, c2.2, p φ2 H2 _ Ext.refl s2 (iterRR (a := i) (b := j))⟩
    | _ => exact p.elim
  | _ => cases rw' <;> exact p.elim⟩

mutual
theorem ihE (ge : GE) (cf : CF) : ∀ c : CE, IHE ge cf c
  | .var i => ih_var
  | .non => ih_non
  | .bl b => ih_bl
  | .int i => ih_int
  | .str z => ih_str
  | .glob x => ih_glob
  | .bin op a b => ih_bin (ihE ge cf a) (ihE ge cf b)
  | .neg a => ih_neg (ihE ge cf a)
  | .not a => ih_not (ihE ge cf a)
  | .and a b => ih_and (ihE ge cf a) (ihE ge cf b)
  | .or a b => ih_or (ihE ge cf a) (ihE ge cf b)
  | .ite c a b => ih_ite (ihE ge cf c) (ihE ge cf a) (ihE ge cf b)
  | .cmp op a b => ih_cmp (ihE ge cf a) (ihE ge cf b)
  | .chain op op' a b c => ih_chain (ihE ge cf a) (ihE ge cf b) (ihE ge cf c)
  | .tup es => ih_tup (ihEs ge cf es)
  | .new l => ih_new (ihL ge cf l)
  | .cell l => ih_cell (ihL ge cf l)
  | .dict0 => ih_dict0
  | .idx a i => ih_idx (ihE ge cf a) (ihE ge cf i)
  | .slice a lo hi => ih_slice (ihE ge cf a) (ihO ge cf lo) (ihO ge cf hi)
  | .call f es => ih_call (ihEs ge cf es)
  | .blt b es => ih_blt (ihEs ge cf es)
  | .mth m o es => ih_mth (ihE ge cf o) (ihEs ge cf es)
  | .isI a t => ih_isI (ihE ge cf a)
termination_by structural c => c
theorem ihL (ge : GE) (cf : CF) : ∀ c : CL, IHL ge cf c
  | .disp es => ⟨l_disp (ihEs ge cf es)⟩
  | .comp t one it c e => ⟨l_comp (ihI ge cf it) (ihO ge cf c) (ihE ge cf e)⟩
  | .listOf c => ⟨l_listOf (ihE ge cf c)⟩
  | .rep es n => ⟨l_rep (ihEs ge cf es) (ihE ge cf n)⟩
  | .range1 a => ⟨l_range1 (ihE ge cf a)⟩
  | .range2 a b => ⟨l_range2 (ihE ge cf a) (ihE ge cf b)⟩
termination_by structural c => c
theorem ihEs (ge : GE) (cf : CF) : ∀ c : CEs, IHEs ge cf c
  | .nil => es_nil
  | .cons c cs => es_cons (ihE ge cf c) (ihEs ge cf cs)
termination_by structural c => c
theorem ihO (ge : GE) (cf : CF) : ∀ c : CO, IHO ge cf c
  | .none => o_none
  | .some c => o_some (ihE ge cf c)
termination_by structural c => c
theorem ihI (ge : GE) (cf : CF) : ∀ c : CI, IHI ge cf c
  | .of c => i_of (ihE ge cf c)
  | .range1 a => i_range1 (ihE ge cf a)
  | .range2 a b => i_range2 (ihE ge cf a) (ihE ge cf b)
  | .enum a => i_enum (ihE ge cf a)
  | .zip a b => i_zip (ihE ge cf a) (ihE ge cf b)
  | .rrange2 a b => i_rrange2 (ihE ge cf a) (ihE ge cf b)
termination_by structural c => c
end
end
end PC
end
section
set_option Elab.async false
set_option linter.all false
set_option autoImplicit false
set_option maxRecDepth 100000
set_option maxHeartbeats 1000000
namespace PC
open PySem L2 PyProof.Rows

/-! ### statements: the checker -/
def isTup : Expr → Bool
  | .Tuple _ _ _ => true
  | _ => false
def isLc : Expr → Bool
  | .ListComp _ _ _ _ => true
  | _ => false
/-- names that are stored from the right: plain locals on one line, unlike -/
def parB (sc : Scope) : List Expr → List Expr → Bool
  | [.Name x px, .Name y py], [a, b] => decide (sc.names.lookup x = some .local) && decide (sc.names.lookup y = some .local) && decide (py.line = px.line) && !(x == y) &&
      !([a, b].all (foldedForSure 8)) && !([a, b].all (constantsAlone 8))
  | [.Name x px, .Name y py, .Name z pz], [a, b, c] => decide (sc.names.lookup x = some .local) && decide (sc.names.lookup y = some .local) && decide (sc.names.lookup z = some .local) && decide (py.line = px.line) && decide (pz.line = px.line) &&
      !(x == y) && !(x == z) && !(y == z) && !([a, b, c].all (foldedForSure 8)) && !([a, b, c].all (constantsAlone 8))
  | _, _ => false
def chkTg (N : List Str) (sc : Scope) : CT → Expr → Bool
  | .name i, .Name x _ => decide (N[i]? = some x) && locB sc x
  | .names is, .Tuple es _ _ => chkNames N sc is es
  | .sub o i, .Subscript x y _ => chkE N sc o x && chkE N sc i y
  | _, _ => false
/-- a, b = x, y -/
def isPar : CT → CE → Bool
  | .names _, .tup _ => true
  | _, _ => false
/-- which values go to which targets -/
def asgB (sc : Scope) (tg v : Expr) : Bool :=
  match tg with
  | .Tuple es _ _ => (match v with
    | .Tuple vs _ _ => parB sc es vs
    | _ => !isLc v)
  | .Name _ p => true
  | _ => !isLc v && !isTup v
mutual
def chkS (N : List Str) (sc : Scope) : CS → Stmt → Bool
  | .asg t e, .Assign [tg] v pos => chkTg N sc t tg && chkE N sc e v && asgB sc tg v
  | .expr e, .Expr v _ => chkE N sc e v && !isLc v
  | .ret e, .Return (some v) _ => chkE N sc e v
  | .retN, .Return none _ => true
  | .pass, .Pass _ => true
  | .brk, .Break _ => true
  | .cont, .Continue _ => true
  | .ifs c a b, .If t x y _ => chkE N sc c t && chkSs N sc a x && chkSs N sc b y
  | .for_ t it b, .For tg iter body [] _ => chkTg N sc t tg && chkI N sc it tg iter && chkSs N sc b body
  | .while_ c b, .While t body [] _ => chkE N sc c t && chkSs N sc b body
  | _, _ => false
termination_by structural c => c
def chkSs (N : List Str) (sc : Scope) : CSs → List Stmt → Bool
  | .nil, [] => true
  | .cons c cs, s :: ss => chkS N sc c s && chkSs N sc cs ss
  | _, _ => false
termination_by structural c => c
end

/-! ### what is wanted of a statement's end -/
def PostS (K : PySem.W.Frag) (φ : Wd) (H : Hp) (r : RS) (D : Ends) : Prop :=
  match r with
  | .nx τ st => ∀ φ' H' σ', Ext K φ H φ' H' → Sim K φ' H' st → RepS K φ' H' σ' τ → D.nx σ' H'
  | .bk τ st => ∀ φ' H' σ', Ext K φ H φ' H' → Sim K φ' H' st → RepS K φ' H' σ' τ → D.bk σ' H'
  | .ct τ st => ∀ φ' H' σ', Ext K φ H φ' H' → Sim K φ' H' st → RepS K φ' H' σ' τ → D.ct σ' H'
  | .rt d st => ∀ φ' H' v, Ext K φ H φ' H' → Sim K φ' H' st → RepV K φ' H' v d → D.rt v H'
  | .exc _ _ st => ∀ φ' H', Ext K φ H φ' H' → Sim K φ' H' st → False
  | .err => False
theorem PostS.ext {K : PySem.W.Frag} {φ φ' : Wd} {H H' : Hp} {r : RS} {D : Ends} (h : PostS K φ H r D) (e : Ext K φ H φ' H') : PostS K φ' H' r D := by
  cases r with
  | nx τ st => exact fun φ2 H2 σ2 e2 => h φ2 H2 σ2 (e.trans e2)
  | bk τ st => exact fun φ2 H2 σ2 e2 => h φ2 H2 σ2 (e.trans e2)
  | ct τ st => exact fun φ2 H2 σ2 e2 => h φ2 H2 σ2 (e.trans e2)
  | rt d st => exact fun φ2 H2 v e2 => h φ2 H2 v (e.trans e2)
  | exc d τ st => exact fun φ2 H2 e2 => h φ2 H2 (e.trans e2)
  | err => exact h
theorem PostS.toS {α β : Type} {K : PySem.W.Frag} {R : Wd → Hp → β → α → Prop} {φ : Wd} {H : Hp} {r : Res α} {τ : Slots} {f : α → Store → RS} {D : Ends} {Q1 : β → Hp → Prop} (h : PostS K φ H (r.toS τ f) D)
    (k : ∀ x st φ1 H1 v, Ext K φ H φ1 H1 → Sim K φ1 H1 st → R φ1 H1 v x → PostS K φ1 H1 (f x st) D → Q1 v H1) : Post K R noW φ H r Q1 := by
  cases r with
  | ok d st => exact fun φ1 H1 v e s rv => k d st φ1 H1 v e s rv (PostS.ext h e)
  | exc d st => exact h
  | err => exact h
def tSt (K : PySem.W.Frag) (f : Slots → Store → RS) : TS := fun D σ H => ∃ φ τ st, RepS K φ H σ τ ∧ Sim K φ H st ∧ PostS K φ H (f τ st) D
/-- a target's reading: what follows with the names bound -/
def gA (K : PySem.W.Frag) (f : D → Slots → Store → RS) : TG := fun v σ H Q => ∃ φ τ st d, RepS K φ H σ τ ∧ Sim K φ H st ∧ RepV K φ H v d ∧ PostS K φ H (f d τ st) { nx := Q, rt := fun _ _ => False }
structure OkS (ge : GE) (cf : CF) (X : Cx) : Prop where
  ok : Ok ge X
  cl : CallsM ge cf X
  fn : ∀ x, X.fn x = true
  pass : PassesOwn (model X.prog X.w) X.A X.env X.xe
  kind : X.env.scope.kind = .function
section
variable {X : Cx} {ge : GE} {cf : CF}
theorem PS.weak {e : Stmt} {t t' : TS} (h : PS X e t) (k : ∀ D σ H, t' D σ H → t D σ H) : PS X e t' := ⟨fun pins s σ H D I q => h.run pins s σ H D I (k D σ H q)⟩
theorem PSs.weak {e : List Stmt} {t t' : TS} (h : PSs X e t) (k : ∀ D σ H, t' D σ H → t D σ H) : PSs X e t' := ⟨fun pins s σ H D I q => h.run pins s σ H D I (k D σ H q)⟩
theorem pgOr {tg : Expr} {t t' : TG} (h : PG X tg t) (h' : PG X tg t') : PG X tg (fun v σ H Q => t v σ H Q ∨ t' v σ H Q) := ⟨fun pins s σ H v u Q I r q => q.elim (fun z => h.run pins s σ H v u Q I r z) (fun z => h'.run pins s σ H v u Q I r z)⟩
theorem pgA (o : OkS ge cf X) {t : CT} {tg : Expr} (h : chkTg X.N X.env.scope t tg = true) : PG X tg (gA X.K fun d τ st => asgT ge cf t d τ st) := by
  have sto : ∀ x, locB X.env.scope x = true → Sto X x := fun x hx => ⟨locB_ok hx, .inl (o.fn x)⟩
  cases t with
  | name i =>
    cases tg <;> first | cases h | skip
    rename_i x p
    simp only [chkTg, Bool.and_eq_true, decide_eq_true_eq] at h
    refine PG.weak (pg_name o.ok.nd h.1 (locB_ok h.2) (.inl (o.fn x))) fun v σ H Q ⟨φ, τ, st, d, rs, sim, rv, q⟩ => ?_
    exact q φ H _ Ext.refl sim (rs.set rv i)
  | names is =>
    cases tg <;> first | cases h | skip
    rename_i es k p
    have h : chkNames X.N X.env.scope is es = true := h
    obtain ⟨e1, e2⟩ := each_len (env := X.env) h
    have hp := pgNames o.ok.nd sto h
    refine PG.weak (pgOr (pg_tup o.ok.calm hp e1 e2) (pg_unl o.ok.calm hp e1 e2)) fun v σ H Q ⟨φ, τ, st, d, rs, sim, rv, q⟩ => ?_
    have q : PostS X.K φ H (match items st d with | some ds => if ds.length = is.length then .nx (PC.setAll τ is ds) st else .err | none => .err) { nx := Q, rt := fun _ _ => False } := q
    cases ei : items st d with
    | none => rw [ei] at q; exact q.elim
    | some ds =>
      rw [ei] at q
      by_cases hl : ds.length = is.length
      · simp only [if_pos hl] at q
        obtain ⟨a, vs, rfl, h1, h2⟩ := items_at sim rv ei
        have hl2 : vs.length = is.length := by rw [h2.length]; exact hl
        have fin : gNs is vs σ H Q := gNs_ok hl2 (q φ H _ Ext.refl sim (rs.setAll h2))
        rcases h1 with h1 | h1
        · exact .inr ⟨a, vs, rfl, h1, hl2, fin⟩
        · exact .inl ⟨a, vs, rfl, h1, hl2, fin⟩
      · simp only [if_neg hl] at q; exact q.elim
  | sub c i =>
    cases tg <;> first | cases h | skip
    rename_i x y p
    simp only [chkTg, Bool.and_eq_true] at h
    have hx := (ihE ge cf c).e X x o.ok o.cl h.1
    have hy := (ihE ge cf i).e X y o.ok o.cl h.2
    have gy := good_of h.2
    refine PG.weak (pg_sub hx hy set_list (by intro v; cases y <;> first | rfl | cases gy)) fun v σ H Q ⟨φ, τ, st, d, rs, sim, rv, q⟩ => ?_
    have q : PostS X.K φ H ((ev ge cf c τ st).toS τ fun ov st => (ev ge cf i τ st).toS τ fun iv st => match setIx ov iv d st with | some st => .nx τ st | none => .err) { nx := Q, rt := fun _ _ => False } := q
    refine ⟨φ, τ, st, rs, sim, q.toS fun ov st1 φ1 H1 w e1 s1 rw1 q1 => ?_⟩
    refine ⟨φ1, τ, st1, rs.ext e1, s1, q1.toS fun iv st2 φ2 H2 w2 e2 s2 rw2 q2 => ?_⟩
    have rw1 := rw1.ext e2
    cases ov with
    | ref k =>
      cases iv with
      | int j =>
        simp only [setIx] at q2
        split at q2
        · rename_i st3 e3
          split at e3
          · rename_i xs ec
            split at e3
            · rename_i hj
              cases e3
              obtain ⟨p1, vs, rfl, hk, h1, h2⟩ := cell_lst s2 rw1 ec
              rw [rw2.int_inv]
              refine ⟨p1, vs, j, j.toNat, rfl, rfl, h1, ?_, ?_⟩
              · unfold ixN
                rw [if_pos hj.1, if_pos (by rw [h2.length]; omega)]
              · have e4 := Ext.put s2 (o := .lst (vs.set j.toNat v)) hk
                have rd := (rv.ext e1).ext e2
                exact q2 φ2 _ σ e4 (s2.put hk ⟨_, upd_same, (h2.set rd j.toNat).ext e4⟩) (((rs.ext e1).ext e2).ext e4)
            · cases e3
          · cases e3
        · exact q2.elim
      | _ => exact q2.elim
    | _ => exact q2.elim
theorem pssNil : PSs X [] (tSt X.K (exs ge cf .nil)) := PSs.weak pss_nil fun D σ H ⟨φ, τ, st, rs, sim, post⟩ => post φ H σ Ext.refl sim rs
theorem seqS {K : PySem.W.Frag} {D : Ends} {σ : L2.St} {H : Hp} {f : Slots → Store → RS} {g : Slots → Store → RS} (h : tSt K (fun τ st => match f τ st with | .nx τ st => g τ st | r => r) D σ H) : tSt K f { D with nx := tSt K g D } σ H := by
  obtain ⟨φ, τ, st, rs, sim, post⟩ := h
  refine ⟨φ, τ, st, rs, sim, ?_⟩
  cases e : f τ st with
  | nx τ1 st1 =>
    simp only [e] at post
    exact fun φ1 H1 σ1 e1 s1 rs1 => ⟨φ1, τ1, st1, rs1, s1, post.ext e1⟩
  | rt d st1 => simp only [e] at post; exact post
  | bk τ1 st1 => simp only [e] at post; exact post
  | ct τ1 st1 => simp only [e] at post; exact post
  | exc d τ1 st1 => simp only [e] at post; exact post
  | err => simp only [e] at post; exact post
theorem pssCons {s : Stmt} {ss : List Stmt} {c : CS} {cs : CSs} (h1 : PS X s (tSt X.K (ex ge cf c))) (h2 : PSs X ss (tSt X.K (exs ge cf cs))) : PSs X (s :: ss) (tSt X.K (exs ge cf (.cons c cs))) :=
  PSs.weak (pss_cons h1 h2) fun D σ H q => seqS (f := ex ge cf c) (g := exs ge cf cs) q
end
end PC
end
section
set_option Elab.async false
set_option linter.all false
set_option autoImplicit false
set_option maxRecDepth 100000
set_option maxHeartbeats 1000000
namespace PC
open PySem L2 PyProof.Rows
section
variable {X : Cx} {ge : GE} {cf : CF}
theorem Post.bind' {α β : Type} {K : PySem.W.Frag} {R : Wd → Hp → β → α → Prop} {W : Wd → Hp → Store → D → Prop} {φ : Wd} {H : Hp} {r : Res α} {Q Q1 : β → Hp → Prop} (h : Post K R W φ H r Q) (k : ∀ v H1, Q v H1 → Q1 v H1) : Post K R W φ H r Q1 := by
  cases r with
  | ok d st => exact fun φ1 H1 v e s rv => k v H1 (h φ1 H1 v e s rv)
  | exc d st => exact h
  | err => exact h
theorem asgT_form (t : CT) (d : D) (τ : Slots) (st : Store) : (∃ τ' st', asgT ge cf t d τ st = .nx τ' st') ∨ (∃ x τ' st', asgT ge cf t d τ st = .exc x τ' st') ∨ asgT ge cf t d τ st = .err := by
  cases t with
  | name i => exact .inl ⟨_, _, rfl⟩
  | names is =>
    simp only [asgT]
    split
    · split
      · exact .inl ⟨_, _, rfl⟩
      · exact .inr (.inr rfl)
    · exact .inr (.inr rfl)
  | sub o i =>
    simp only [asgT]
    cases ev ge cf o τ st with
    | ok x st1 =>
      simp only [Res.toS_ok]
      cases ev ge cf i τ st1 with
      | ok y st2 =>
        simp only [Res.toS_ok]
        split
        · exact .inl ⟨_, _, rfl⟩
        · exact .inr (.inr rfl)
      | exc y st2 => exact .inr (.inl ⟨_, _, _, rfl⟩)
      | err => exact .inr (.inr rfl)
    | exc x st1 => exact .inr (.inl ⟨_, _, _, rfl⟩)
    | err => exact .inr (.inr rfl)
theorem asg_nx {K : PySem.W.Frag} {φ : Wd} {H : Hp} {t : CT} {d : D} {τ : Slots} {st : Store} {E : Ends} (h : PostS K φ H (asgT ge cf t d τ st) E) : PostS K φ H (asgT ge cf t d τ st) { nx := E.nx, rt := fun _ _ => False } := by
  rcases asgT_form (ge := ge) (cf := cf) t d τ st with ⟨τ', st', e⟩ | ⟨x, τ', st', e⟩ | e <;> rw [e] at h ⊢ <;> exact h
theorem asg_read {t : CT} {e : CE} {E : Ends} {σ : L2.St} {H : Hp} (h : tSt X.K (ex ge cf (.asg t e)) E σ H) : tAsg (tD X.K (ev ge cf e)) (gA X.K fun d τ st => asgT ge cf t d τ st) E σ H := by
  obtain ⟨φ, τ, st, rs, sim, post⟩ := h
  have post : PostS X.K φ H ((ev ge cf e τ st).toS τ fun d st => asgT ge cf t d τ st) E := post
  exact ⟨φ, τ, st, rs, sim, post.toS fun d st1 φ1 H1 v e1 s1 rv p1 => ⟨φ1, τ, st1, d, rs.ext e1, s1, rv, asg_nx p1⟩⟩
theorem asg_name {i : Nat} {e : CE} {E : Ends} {σ : L2.St} {H : Hp} (h : tSt X.K (ex ge cf (.asg (.name i) e)) E σ H) : tD X.K (ev ge cf e) σ H (fun x H1 => gName i x σ H1 E.nx) := by
  obtain ⟨φ, τ, st, rs, sim, post⟩ := h
  have post : PostS X.K φ H ((ev ge cf e τ st).toS τ fun d st => .nx (τ.set i (some d)) st) E := post
  exact ⟨φ, τ, st, rs, sim, post.toS fun d st1 φ1 H1 v e1 s1 rv p1 => p1 φ1 H1 _ Ext.refl s1 ((rs.ext e1).set rv i)⟩
theorem block_fn {env : Env} (h : env.scope.kind = .function) : env.blockKind = .function := by unfold Env.blockKind; rw [h]; rfl
theorem sw_other {v : Expr} {t : Option Expr} {l : Nat} {env : Env} (g : good v = true) (h : isLc v = false) : swapsWith v t l env = pure false := by
  cases v <;> first | rfl | (cases g; done) | (cases h; done)
theorem chk_tup {N : List Str} {sc : Scope} {c : CE} {vs : List Expr} {k : Nat} {p : Pos} (h : chkE N sc c (.Tuple vs k p) = true) : ∃ es, c = .tup es ∧ chkEs N sc es vs = true := by
  cases c <;> first | exact ⟨_, rfl, h⟩ | cases h | skip
  · rename_i l; cases l <;> cases h
  · rename_i l; cases l <;> cases h
theorem chk_lc {N : List Str} {sc : Scope} {c : CE} {elt : Expr} {gs : List Comprehension} {scope : Scope} {p : Pos} (h : chkE N sc c (.ListComp elt gs scope p) = true) :
    (∃ t one it q b, c = .new (.comp t one it q b) ∧ chkL N sc (.comp t one it q b) (.ListComp elt gs scope p) = true) ∨ ∃ t one it q b, c = .cell (.comp t one it q b) ∧ chkL N sc (.comp t one it q b) (.ListComp elt gs scope p) = true := by
  cases c <;> first | cases h | skip
  · rename_i l
    cases l <;> first | exact .inl ⟨_, _, _, _, _, rfl, h⟩ | cases h
  · rename_i l
    cases l <;> first | exact .inr ⟨_, _, _, _, _, rfl, h⟩ | cases h
def isStarred (e : Expr) : Bool := match e with | .Starred .. => true | _ => false
theorem star1 {e : Expr} (g : good e = true) : isStarred e = false := by
  cases e <;> first | rfl | (cases g; done)
theorem par_sw2 {env : Env} {x y : Str} {px py pt pt2 : Pos} {kt k2 : Nat} {a b : Expr} (hk : env.scope.kind = .function) (ga : good a = true) (gb : good b = true) (h : parB env.scope [.Name x px, .Name y py] [a, b] = true) :
    swappedStores [.Tuple [.Name x px, .Name y py] kt pt] (.Tuple [a, b] k2 pt2) env = pure (some [x, y]) := by
  simp only [parB, Bool.and_eq_true, decide_eq_true_eq, Bool.not_eq_true', beq_eq_false_iff_ne] at h
  obtain ⟨⟨⟨⟨⟨h1, h2⟩, h3⟩, h4⟩, h5⟩, h6⟩ := h
  have kx : (env.kindOf x == some .local) = true := by show (env.scope.names.lookup x == some .local) = true; rw [h1]; rfl
  have ky : (env.kindOf y == some .local) = true := by show (env.scope.names.lookup y == some .local) = true; rw [h2]; rfl
  have st : ([a, b].any fun | .Starred .. => true | _ => false) = false := by
    show (isStarred a || (isStarred b || false)) = false
    rw [star1 ga, star1 gb]; rfl
  have hb : (env.blockKind != .function) = false := by rw [block_fn hk]; rfl
  have hyx : (y == x) = false := beq_eq_false_iff_ne.mpr (Ne.symm h4)
  have lines : (px.line == px.line) = true := beq_self_eq_true _
  have line2 : (py.line == px.line) = true := by rw [h3]; exact lines
  unfold swappedStores
  simp only [List.length_cons, List.length_nil, st, hb, h5, h6, List.filterMap_cons, List.filterMap_nil, kx, ky, List.head?_cons, Option.map_some, Option.getD_some, Expr.pos, lines, line2, Bool.and_self, if_true]
  simp [List.eraseDups_cons, hyx, List.eraseDups_nil]
  intro hst
  exfalso
  rcases hst with hst | hst
  · exact Bool.false_ne_true ((star1 ga).symm.trans hst)
  · exact Bool.false_ne_true ((star1 gb).symm.trans hst)
theorem par_sw3 {env : Env} {x y z : Str} {px py pz pt pt2 : Pos} {kt k2 : Nat} {a b c : Expr} (hk : env.scope.kind = .function) (ga : good a = true) (gb : good b = true) (gc : good c = true) (h : parB env.scope [.Name x px, .Name y py, .Name z pz] [a, b, c] = true) :
    swappedStores [.Tuple [.Name x px, .Name y py, .Name z pz] kt pt] (.Tuple [a, b, c] k2 pt2) env = pure (some [x, y, z]) := by
  simp only [parB, Bool.and_eq_true, decide_eq_true_eq, Bool.not_eq_true', beq_eq_false_iff_ne] at h
  obtain ⟨⟨⟨⟨⟨⟨⟨⟨⟨h1, h2⟩, h3⟩, h4⟩, h5⟩, h6⟩, h7⟩, h8⟩, h9⟩, h10⟩ := h
  have kx : (env.kindOf x == some .local) = true := by show (env.scope.names.lookup x == some .local) = true; rw [h1]; rfl
  have ky : (env.kindOf y == some .local) = true := by show (env.scope.names.lookup y == some .local) = true; rw [h2]; rfl
  have kz : (env.kindOf z == some .local) = true := by show (env.scope.names.lookup z == some .local) = true; rw [h3]; rfl
  have st : ([a, b, c].any fun | .Starred .. => true | _ => false) = false := by
    show (isStarred a || (isStarred b || (isStarred c || false))) = false
    rw [star1 ga, star1 gb, star1 gc]; rfl
  have hb : (env.blockKind != .function) = false := by rw [block_fn hk]; rfl
  have hyx : (y == x) = false := beq_eq_false_iff_ne.mpr (Ne.symm h6)
  have hzx : (z == x) = false := beq_eq_false_iff_ne.mpr (Ne.symm h7)
  have hzy : (z == y) = false := beq_eq_false_iff_ne.mpr (Ne.symm h8)
  have lines : (px.line == px.line) = true := beq_self_eq_true _
  have line2 : (py.line == px.line) = true := by rw [h4]; exact lines
  have line3 : (pz.line == px.line) = true := by rw [h5]; exact lines
  unfold swappedStores
  simp only [List.length_cons, List.length_nil, st, hb, h9, h10, List.filterMap_cons, List.filterMap_nil, kx, ky, kz, List.head?_cons, Option.map_some, Option.getD_some, Expr.pos, lines, line2, line3, Bool.and_self, if_true]
  simp [List.eraseDups_cons, hyx, hzx, hzy, List.eraseDups_nil]
  intro hst
  exfalso
  rcases hst with hst | hst | hst
  · exact Bool.false_ne_true ((star1 ga).symm.trans hst)
  · exact Bool.false_ne_true ((star1 gb).symm.trans hst)
  · exact Bool.false_ne_true ((star1 gc).symm.trans hst)
/-- name = [..] -/
theorem asgLc (o : OkS ge cf X) {i : Nat} {x : Str} {px pos lp : Pos} {elt : Expr} {gs : List Comprehension} {scope : Scope} {c : CE} (hN : X.N[i]? = some x) (hl : locB X.env.scope x = true) (h : chkE X.N X.env.scope c (.ListComp elt gs scope lp) = true) :
    PS X (.Assign [.Name x px] (.ListComp elt gs scope lp) pos) (tSt X.K (ex ge cf (.asg (.name i) c))) := by
  have he := (ihE ge cf c).e X _ o.ok o.cl h
  have hsw : swapsWith (.ListComp elt gs scope lp) (some (.Name x px)) pos.line X.env = pure (X.env.blockKind == .function && X.env.kindOf x == some .local && px.line == lp.line && !(scope.names.any fun (n, k) => n == x && (k == .local || k == .cell))) := rfl
  cases hb : (X.env.blockKind == .function && X.env.kindOf x == some .local && px.line == lp.line && !(scope.names.any fun (n, k) => n == x && (k == .local || k == .cell))) with
  | false =>
    rw [hb] at hsw
    refine PS.weak (ps_set o.ok.nd hN (locB_ok hl) he hsw (.inl (o.fn x))) fun E σ H q => ?_
    exact asg_name q
  | true =>
    rw [hb] at hsw
    simp only [Bool.and_eq_true] at hb
    have hloc : X.env.scope.names.lookup x = some .local := by
      have := hb.1.1.2
      exact eq_of_beq this
    have key : ∀ t one it q b, chkL X.N X.env.scope (.comp t one it q b) (.ListComp elt gs scope lp) = true → (∀ σ H Q, tD X.K (ev ge cf c) σ H Q → tO X.K (evl ge cf (.comp t one it q b)) σ H Q) → PS X (.Assign [.Name x px] (.ListComp elt gs scope lp) pos) (tSt X.K (ex ge cf (.asg (.name i) c))) := by
      intro t one it q b hL hO
      obtain ⟨elt', tg, iter, ifs, k, scope', pos', e⟩ := iv_comp hL
      cases e
      simp only [chkL, Bool.and_eq_true, decide_eq_true_eq] at hL
      obtain ⟨⟨⟨⟨⟨rfl, h1⟩, h2⟩, h3⟩, h4⟩, h5⟩ := hL
      have hI := (ihI ge cf it).i X tg iter o.ok o.cl h3
      obtain ⟨g, tt, te, p1, p2, p3, p4, rd⟩ := lcO o.ok.calm o.ok.nd (pos := lp) h1 h2 hI.1 (fun s H C cs fp => (ihO ge cf q).f (X.blk s H scope (compEnvC scope cs C X.env) fp) ifs (o.ok.blk _ _ _ _ _) (o.cl.blk _ _ _ _ _) h4)
        (fun s H C cs fp => (ihE ge cf b).e (X.blk s H scope (compEnvC scope cs C X.env) fp) elt (o.ok.blk _ _ _ _ _) (o.cl.blk _ _ _ _ _) h5)
      refine PS.weak (ps_setLc o.ok.calm o.ok.nd hN hloc hsw p1 (blkOk_by h1) p2 p3 p4 hI.2) fun E σ H q => ?_
      exact rd σ H _ (hO σ H _ (asg_name q))
    rcases chk_lc h with ⟨t, one, it, q, b, rfl, hL⟩ | ⟨t, one, it, q, b, rfl, hL⟩
    · exact key t one it q b hL fun σ H Q z => own_frz (f := evl ge cf (.comp t one it q b)) z
    · exact key t one it q b hL fun σ H Q z => own_cell (f := evl ge cf (.comp t one it q b)) z
theorem parRead {is : List Nat} {es : CEs} {E : Ends} {σ : L2.St} {H : Hp} (h : tSt X.K (ex ge cf (.asg (.names is) (.tup es))) E σ H) : tDs X.K (evs ge cf es) σ H (fun vs H1 => vs.length = is.length ∧ E.nx (setAllV σ is vs) H1) := by
  obtain ⟨φ, τ, st, rs, sim, post⟩ := h
  have post : PostS X.K φ H (((evs ge cf es τ st).bind fun xs st => gd (xs.length ≤ lineN) (.ok (.tup xs) st)).toS τ fun d st => asgT ge cf (.names is) d τ st) E := post
  refine ⟨φ, τ, st, rs, sim, ?_⟩
  cases e : evs ge cf es τ st with
  | exc d st1 => rw [e] at post; exact post
  | err => rw [e] at post; exact post
  | ok xs st1 =>
    rw [e] at post
    simp only [Res.bind_ok, gd] at post
    intro φ1 H1 vs e1 s1 rv
    split at post
    · simp only [Res.toS_ok, asgT, items, deref] at post
      by_cases hl : xs.length = is.length
      · simp only [if_pos hl] at post
        exact ⟨by rw [RepVs.length rv]; exact hl, post φ1 H1 _ e1 s1 ((rs.ext e1).setAll rv)⟩
      · simp only [if_neg hl] at post; exact post.elim
    · exact post.elim
theorem iv_par {sc : Scope} {es vs : List Expr} (h : parB sc es vs = true) : (∃ x px y py a b, es = [.Name x px, .Name y py] ∧ vs = [a, b]) ∨ ∃ x px y py z pz a b c, es = [.Name x px, .Name y py, .Name z pz] ∧ vs = [a, b, c] := by
  unfold parB at h
  split at h
  · exact .inl ⟨_, _, _, _, _, _, rfl, rfl⟩
  · exact .inr ⟨_, _, _, _, _, _, _, _, _, rfl, rfl⟩
  · cases h
theorem iv_asg {N : List Str} {sc : Scope} {t : CT} {e : CE} {s : Stmt} (h : chkS N sc (.asg t e) s = true) : ∃ tg v pos, s = .Assign [tg] v pos ∧ chkTg N sc t tg = true ∧ chkE N sc e v = true ∧ asgB sc tg v = true := by
  cases s <;> first | (cases h; done) | skip
  rename_i tgs v pos
  match tgs, h with
  | [], h => cases h
  | _ :: _ :: _, h => cases h
  | [tg], h =>
    have h : (chkTg N sc t tg && chkE N sc e v && asgB sc tg v) = true := h
    simp only [Bool.and_eq_true] at h
    exact ⟨tg, v, pos, rfl, h.1.1, h.1.2, h.2⟩
theorem asgOk (o : OkS ge cf X) {t : CT} {e : CE} {s : Stmt} (h : chkS X.N X.env.scope (.asg t e) s = true) : PS X s (tSt X.K (ex ge cf (.asg t e))) := by
  obtain ⟨tg, v, pos, rfl, h1, h2, h3⟩ := iv_asg h
  clear h
  have gv := good_of h2
  have plain : isLc v = false → (swappedStores [tg] v X.env = pure none) → ((assignEach [tg] X.env).map (·.2) = [assign tg X.env]) → PS X (.Assign [tg] v pos) (tSt X.K (ex ge cf (.asg t e))) := fun hlc hsw hea =>
    PS.weak (ps_asg ((ihE ge cf e).e X v o.ok o.cl h2) (pgA o h1) (sw_other gv hlc) hsw hea) fun E σ H q => asg_read q
  cases tg with
  | Name x p =>
    cases hlc : isLc v with
    | false => exact plain hlc rfl rfl
    | true =>
      cases v <;> first | (cases hlc; done) | skip
      cases t <;> first | (cases h1; done) | skip
      simp only [chkTg, Bool.and_eq_true, decide_eq_true_eq] at h1
      exact asgLc o h1.1 h1.2 h2
  | Tuple es k p =>
    cases ht : isTup v with
    | false =>
      have hlc : isLc v = false := by
        cases v <;> first | rfl | (cases ht; done) | (cases h3; done)
      refine plain hlc ?_ rfl
      cases v <;> first | rfl | (cases ht; done)
    | true =>
      cases v <;> first | (cases ht; done) | skip
      rename_i vs k2 p2
      have h3 : parB X.env.scope es vs = true := h3
      obtain ⟨ces, rfl, hes⟩ := chk_tup h2
      have hg := goods hes
      have hA := (ihEs ge cf ces).e X vs o.ok o.cl hes
      cases t <;> first | (cases h1; done) | skip
      rename_i is
      have h1 : chkNames X.N X.env.scope is es = true := h1
      rcases iv_par h3 with ⟨x, px, y, py, a, b, rfl, rfl⟩ | ⟨x, px, y, py, z, pz, a, b, c, rfl, rfl⟩
      · have hsw := par_sw2 (kt := k) (k2 := k2) (pt := p) (pt2 := p2) o.kind (hg a (by simp)) (hg b (by simp)) (show parB X.env.scope [.Name x px, .Name y py] [a, b] = true from h3)
        simp only [parB, Bool.and_eq_true, decide_eq_true_eq] at h3
        match is, h1 with
        | [i, j], h1 =>
          simp only [chkNames, Bool.and_eq_true, decide_eq_true_eq] at h1
          have hij : i ≠ j := fun e => by
            subst e
            have := h1.1.1.symm.trans h1.2.1.1
            cases this
            simp at h3
          refine PS.weak (ps_par o.ok.calm o.ok.nd h1.1.1 h1.2.1.1 hij h3.1.1.1.1.1 h3.1.1.1.1.2 hA hsw rfl) fun E σ H q => ?_
          obtain ⟨φ, τ, st, rs, sim, post⟩ := parRead q
          refine ⟨φ, τ, st, rs, sim, post.bind' fun vs H1 ⟨hl, hq⟩ => ?_⟩
          match vs, hl, hq with
          | [v, w], _, hq => exact ⟨v, w, rfl, hq⟩
        | [], h1 => cases h1
        | [_], h1 => simp [chkNames] at h1
        | _ :: _ :: _ :: _, h1 => simp [chkNames] at h1
      · have hsw := par_sw3 (kt := k) (k2 := k2) (pt := p) (pt2 := p2) o.kind (hg a (by simp)) (hg b (by simp)) (hg c (by simp)) (show parB X.env.scope [.Name x px, .Name y py, .Name z pz] [a, b, c] = true from h3)
        simp only [parB, Bool.and_eq_true, decide_eq_true_eq] at h3
        match is, h1 with
        | [i, j, l], h1 =>
          simp only [chkNames, Bool.and_eq_true, decide_eq_true_eq] at h1
          have hij : i ≠ j := fun e => by
            subst e
            have := h1.1.1.symm.trans h1.2.1.1
            cases this
            simp at h3
          have hil : i ≠ l := fun e => by
            subst e
            have := h1.1.1.symm.trans h1.2.2.1.1
            cases this
            simp at h3
          have hjl : j ≠ l := fun e => by
            subst e
            have := h1.2.1.1.symm.trans h1.2.2.1.1
            cases this
            simp at h3
          refine PS.weak (ps_par3 o.ok.calm o.ok.nd h1.1.1 h1.2.1.1 h1.2.2.1.1 hij hil hjl h3.1.1.1.1.1.1.1.1.1 h3.1.1.1.1.1.1.1.1.2 h3.1.1.1.1.1.1.1.2 hA hsw rfl) fun E σ H q => ?_
          obtain ⟨φ, τ, st, rs, sim, post⟩ := parRead q
          refine ⟨φ, τ, st, rs, sim, post.bind' fun vs H1 ⟨hl, hq⟩ => ?_⟩
          match vs, hl, hq with
          | [v, w, u], _, hq => exact ⟨v, w, u, rfl, hq⟩
        | [], h1 => cases h1
        | [_], h1 => simp [chkNames] at h1
        | [_, _], h1 => simp [chkNames] at h1
        | _ :: _ :: _ :: _ :: _, h1 => simp [chkNames] at h1
  | Subscript a b p =>
    have h3 : (!isLc v && !isTup v) = true := h3
    simp only [Bool.and_eq_true, Bool.not_eq_true'] at h3
    refine plain h3.1 ?_ rfl
    cases v <;> first | rfl | (cases h3.2; done)
  | _ => cases t <;> cases h1
end
end PC
end
section
set_option Elab.async false
set_option linter.all false
set_option autoImplicit false
set_option maxRecDepth 100000
set_option maxHeartbeats 1000000
namespace PC
open PySem L2 PyProof.Rows
section
variable {X : Cx} {ge : GE} {cf : CF}
theorem okW_of {K : PySem.W.Frag} {φ : Wd} {H : Hp} {step : D → Slots → Store → RS} {w : Watch} {ds : List D} {τ : Slots} {st : Store} {E : Ends} (h : PostS K φ H (forL step w ds τ st) E) : okW w st := by
  apply Classical.byContradiction
  intro hn
  cases ds with
  | nil => simp only [forL, gw, if_neg hn] at h; exact h
  | cons d r => simp only [forL, gw, if_neg hn] at h; exact h
theorem forRead {t : CT} {it : CI} {b : CSs} {E : Ends} {σ : L2.St} {H : Hp} (h : tSt X.K (ex ge cf (.for_ t it b)) E σ H) : tFor (tI X.K (evi ge cf it)) (gA X.K fun d τ st => asgT ge cf t d τ st) (tSt X.K (exs ge cf b)) E σ H := by
  obtain ⟨φ, τ, st, rs, sim, post⟩ := h
  generalize hst : (fun (x : D) (τ : Slots) (st : Store) => match asgT ge cf t x τ st with
        | .nx τ st => exs ge cf b τ st
        | _ => .err) = step
  have post : PostS X.K φ H ((evi ge cf it τ st).toS τ fun w st => forL step w.2 w.1 τ st) E := by rw [← hst]; exact post
  refine ⟨φ, τ, st, rs, sim, post.toS fun w st1 φ1 H1 J e1 s1 hJ p1 => ?_⟩
  obtain ⟨ds, w⟩ := w
  have hJ : IterOk X.K φ1 H1 ds w J := hJ
  have p1 : PostS X.K φ1 H1 (forL step w ds τ st1) E := p1
  obtain ⟨G, Y, walk, hG, hY⟩ := hJ
  refine for_it walk (fun i σ2 H2 => ∃ φ τ st, Ext X.K φ1 H1 φ H2 ∧ RepS X.K φ H2 σ2 τ ∧ Sim X.K φ H2 st ∧ PostS X.K φ H2 (forL step w (ds.drop i) τ st) E) ?_ ?_ ?_ ?_
  · exact ⟨φ1, τ, st1, Ext.refl, rs.ext e1, s1, by rw [List.drop_zero]; exact p1⟩
  · rintro i σ2 H2 hi ⟨φ2, τ2, st2, e2, rs2, s2, p2⟩
    exact hG φ2 H2 st2 e2 s2 (okW_of p2)
  · rintro i x σ2 H2 H3 hi ⟨φ2, τ2, st2, e2, rs2, s2, p2⟩ y
    have how := okW_of p2
    obtain ⟨d, hd, e3, s3, rx⟩ := hY φ2 H2 st2 i x H3 hi e2 s2 how y
    have ed : ds.drop i = d :: ds.drop (i + 1) := by
      obtain ⟨h1, h2⟩ := List.getElem?_eq_some_iff.mp hd
      rw [List.drop_eq_getElem_cons h1, h2]
    rw [ed] at p2
    simp only [forL, gw, if_pos how] at p2
    have hs : step d τ2 st2 = match asgT ge cf t d τ2 st2 with
        | .nx τ st => exs ge cf b τ st
        | _ => .err := by rw [← hst]
    refine ⟨φ2, τ2, st2, d, rs2.ext e3, s3, rx, ?_⟩
    rw [hs] at p2
    rcases asgT_form (ge := ge) (cf := cf) t d τ2 st2 with ⟨τ', st', e⟩ | ⟨x, τ', st', e⟩ | e
    · show PostS X.K φ2 H3 (asgT ge cf t d τ2 st2) _
      rw [e] at p2 ⊢
      intro φ4 H4 σ4 e4 s4 rs4
      refine ⟨φ4, τ', st', rs4, s4, ?_⟩
      have e14 := (e2.trans e3).trans e4
      have e24 := e3.trans e4
      simp only at p2
      cases eb : exs ge cf b τ' st' with
      | nx τ5 st5 =>
        rw [eb] at p2
        exact fun φ5 H5 σ5 e5 s5 rs5 => ⟨φ5, τ5, st5, e14.trans e5, rs5, s5, p2.ext (e24.trans e5)⟩
      | ct τ5 st5 =>
        rw [eb] at p2
        exact fun φ5 H5 σ5 e5 s5 rs5 => ⟨φ5, τ5, st5, e14.trans e5, rs5, s5, p2.ext (e24.trans e5)⟩
      | bk τ5 st5 =>
        rw [eb] at p2
        exact fun φ5 H5 σ5 e5 s5 rs5 => p2 φ5 H5 σ5 (e24.trans e5) s5 rs5
      | rt d5 st5 =>
        rw [eb] at p2
        exact fun φ5 H5 v5 e5 s5 rv5 => p2 φ5 H5 v5 (e24.trans e5) s5 rv5
      | exc d5 τ5 st5 =>
        rw [eb] at p2
        exact fun φ5 H5 e5 s5 => p2 φ5 H5 (e24.trans e5) s5
      | err => rw [eb] at p2; exact p2
    · rw [e] at p2; exact p2.elim
    · rw [e] at p2; exact p2.elim
  · rintro σ2 H2 ⟨φ2, τ2, st2, e2, rs2, s2, p2⟩
    have how := okW_of p2
    rw [List.drop_length] at p2
    simp only [forL, gw, if_pos how] at p2
    exact p2 φ2 H2 σ2 Ext.refl s2 rs2
theorem whileRead {c : CE} {b : CSs} {E : Ends} {σ : L2.St} {H : Hp} (h : tSt X.K (ex ge cf (.while_ c b)) E σ H) : tWhile (tB' X.K (ev ge cf c)) (tSt X.K (exs ge cf b)) E σ H := by
  obtain ⟨φ, τ, st, rs, sim, post⟩ := h
  have post : PostS X.K φ H (wh (fun τ st => ev ge cf c τ st) (fun τ st => exs ge cf b τ st) τ st) E := post
  unfold wh at post
  split at post
  · rename_i hn
    refine ⟨fun m σ2 H2 => ∃ φ τ st, RepS X.K φ H2 σ2 τ ∧ Sim X.K φ H2 st ∧ PostS X.K φ H2 (whN (fun τ st => ev ge cf c τ st) (fun τ st => exs ge cf b τ st) m τ st) E, ⟨_, φ, τ, st, rs, sim, post⟩, ?_⟩
    rintro m σ2 H2 ⟨φ2, τ2, st2, rs2, s2, p2⟩
    cases m with
    | zero => exact p2.elim
    | succ m =>
      simp only [whN] at p2
      refine ⟨φ2, τ2, st2, rs2, s2, ?_⟩
      cases ec : ev ge cf c τ2 st2 with
      | exc d st3 => rw [ec] at p2; show Post X.K _ noW φ2 H2 (asB (ev ge cf c τ2 st2)) _; rw [ec]; exact p2
      | err => rw [ec] at p2; exact p2.elim
      | ok d st3 =>
        rw [ec] at p2
        simp only [Res.toS_ok] at p2
        show Post X.K _ noW φ2 H2 (asB (ev ge cf c τ2 st2)) _
        rw [ec]
        cases d with
        | bl k =>
          intro φ3 H3 k' e3 s3 hk
          cases hk
          cases k with
          | false =>
            rw [if_neg Bool.false_ne_true]
            exact p2 φ3 H3 σ2 e3 s3 (rs2.ext e3)
          | true =>
            rw [if_pos rfl]
            simp only at p2
            refine ⟨fun σ4 H4 => ∃ φ τ st, RepS X.K φ H4 σ4 τ ∧ Sim X.K φ H4 st ∧ PostS X.K φ H4 (whN (fun τ st => ev ge cf c τ st) (fun τ st => exs ge cf b τ st) m τ st) E, fun σ4 H4 q => ⟨m, Nat.lt_succ_self m, q⟩, φ3, τ2, st3, rs2.ext e3, s3, ?_⟩
            cases eb : exs ge cf b τ2 st3 with
            | nx τ5 st5 =>
              rw [eb] at p2
              exact fun φ5 H5 σ5 e5 s5 rs5 => ⟨φ5, τ5, st5, rs5, s5, p2.ext (e3.trans e5)⟩
            | ct τ5 st5 =>
              rw [eb] at p2
              exact fun φ5 H5 σ5 e5 s5 rs5 => ⟨φ5, τ5, st5, rs5, s5, p2.ext (e3.trans e5)⟩
            | bk τ5 st5 =>
              rw [eb] at p2
              exact fun φ5 H5 σ5 e5 s5 rs5 => p2 φ5 H5 σ5 (e3.trans e5) s5 rs5
            | rt d5 st5 =>
              rw [eb] at p2
              exact fun φ5 H5 v5 e5 s5 rv5 => p2 φ5 H5 v5 (e3.trans e5) s5 rv5
            | exc d5 τ5 st5 =>
              rw [eb] at p2
              exact fun φ5 H5 e5 s5 => p2 φ5 H5 (e3.trans e5) s5
            | err => rw [eb] at p2; exact p2
        | _ => exact p2
  · exact post.elim
theorem iv_for {N : List Str} {sc : Scope} {t : CT} {it : CI} {b : CSs} {s : Stmt} (h : chkS N sc (.for_ t it b) s = true) : ∃ tg iter body pos, s = .For tg iter body [] pos ∧ chkTg N sc t tg = true ∧ chkI N sc it tg iter = true ∧ chkSs N sc b body = true := by
  cases s <;> first | (cases h; done) | skip
  rename_i tg iter body orelse pos
  cases orelse with
  | cons _ _ => cases h
  | nil =>
    have h : (chkTg N sc t tg && chkI N sc it tg iter && chkSs N sc b body) = true := h
    simp only [Bool.and_eq_true] at h
    exact ⟨_, _, _, _, rfl, h.1.1, h.1.2, h.2⟩
theorem iv_while {N : List Str} {sc : Scope} {c : CE} {b : CSs} {s : Stmt} (h : chkS N sc (.while_ c b) s = true) : ∃ t body pos, s = .While t body [] pos ∧ chkE N sc c t = true ∧ chkSs N sc b body = true := by
  cases s <;> first | (cases h; done) | skip
  rename_i t body orelse pos
  cases orelse with
  | cons _ _ => cases h
  | nil =>
    have h : (chkE N sc c t && chkSs N sc b body) = true := h
    simp only [Bool.and_eq_true] at h
    exact ⟨_, _, _, rfl, h.1, h.2⟩
theorem iv_if {N : List Str} {sc : Scope} {c : CE} {a b : CSs} {s : Stmt} (h : chkS N sc (.ifs c a b) s = true) : ∃ t x y pos, s = .If t x y pos ∧ chkE N sc c t = true ∧ chkSs N sc a x = true ∧ chkSs N sc b y = true := by
  cases s <;> first | (cases h; done) | skip
  rename_i t x y pos
  have h : (chkE N sc c t && chkSs N sc a x && chkSs N sc b y) = true := h
  simp only [Bool.and_eq_true] at h
  exact ⟨_, _, _, _, rfl, h.1.1, h.1.2, h.2⟩
theorem ifOk (o : OkS ge cf X) {c : CE} {a b : CSs} {t : Expr} {x y : List Stmt} {pos : Pos} (h : chkE X.N X.env.scope c t = true) (ha : PSs X x (tSt X.K (exs ge cf a))) (hb : PSs X y (tSt X.K (exs ge cf b))) : PS X (.If t x y pos) (tSt X.K (ex ge cf (.ifs c a b))) := by
  refine PS.weak (ps_if ((ihE ge cf c).t X t o.ok o.cl h) ha hb) fun E σ H ⟨φ, τ, st, rs, sim, post⟩ => ?_
  have post : PostS X.K φ H ((ev ge cf c τ st).toS τ fun x st => match x with
      | .bl true => exs ge cf a τ st
      | .bl false => exs ge cf b τ st
      | _ => .err) E := post
  refine ⟨φ, τ, st, rs, sim, ?_⟩
  cases ec : ev ge cf c τ st with
  | exc d st3 => rw [ec] at post; show Post X.K _ noW φ H (asB (ev ge cf c τ st)) _; rw [ec]; exact post
  | err => rw [ec] at post; exact post.elim
  | ok d st3 =>
    rw [ec] at post
    show Post X.K _ noW φ H (asB (ev ge cf c τ st)) _
    rw [ec]
    cases d with
    | bl k =>
      intro φ3 H3 k' e3 s3 hk
      cases hk
      cases k with
      | false => rw [if_neg Bool.false_ne_true]; exact ⟨φ3, τ, st3, rs.ext e3, s3, post.ext e3⟩
      | true => rw [if_pos rfl]; exact ⟨φ3, τ, st3, rs.ext e3, s3, post.ext e3⟩
    | _ => exact post
theorem exprOk (o : OkS ge cf X) {c : CE} {s : Stmt} (h : chkS X.N X.env.scope (.expr c) s = true) : PS X s (tSt X.K (ex ge cf (.expr c))) := by
  cases s <;> first | (cases h; done) | skip
  rename_i v pos
  have h : (chkE X.N X.env.scope c v && !isLc v) = true := h
  simp only [Bool.and_eq_true, Bool.not_eq_true'] at h
  refine PS.weak (ps_expr ((ihE ge cf c).e X v o.ok o.cl h.1) (sw_other (good_of h.1) h.2)) fun E σ H ⟨φ, τ, st, rs, sim, post⟩ => ?_
  have post : PostS X.K φ H ((ev ge cf c τ st).toS τ fun _ st => .nx τ st) E := post
  exact ⟨φ, τ, st, rs, sim, post.toS fun d st1 φ1 H1 v e1 s1 rv p1 => p1 φ1 H1 σ Ext.refl s1 (rs.ext e1)⟩
theorem retOk (o : OkS ge cf X) {c : CE} {s : Stmt} (h : chkS X.N X.env.scope (.ret c) s = true) : PS X s (tSt X.K (ex ge cf (.ret c))) := by
  cases s <;> first | (cases h; done) | skip
  rename_i v pos
  cases v with
  | none => cases h
  | some v =>
    have h : chkE X.N X.env.scope c v = true := h
    refine PS.weak (ps_ret ((ihE ge cf c).e X v o.ok o.cl h)) fun E σ H ⟨φ, τ, st, rs, sim, post⟩ => ?_
    have post : PostS X.K φ H ((ev ge cf c τ st).toS τ fun d st => .rt d st) E := post
    exact ⟨φ, τ, st, rs, sim, post.toS fun d st1 φ1 H1 v e1 s1 rv p1 => p1 φ1 H1 v Ext.refl s1 rv⟩
mutual
theorem sS (o : OkS ge cf X) : ∀ (c : CS) (s : Stmt), chkS X.N X.env.scope c s = true → PS X s (tSt X.K (ex ge cf c))
  | .asg t e, s, h => asgOk o h
  | .expr c, s, h => exprOk o h
  | .ret c, s, h => retOk o h
  | .retN, s, h => by
    cases s <;> first | (cases h; done) | skip
    rename_i v pos
    cases v with
    | some _ => cases h
    | none => exact PS.weak ps_retN fun E σ H ⟨φ, τ, st, rs, sim, post⟩ => post φ H _ Ext.refl sim .non
  | .pass, s, h => by
    cases s <;> first | (cases h; done) | skip
    exact PS.weak ps_pass fun E σ H ⟨φ, τ, st, rs, sim, post⟩ => post φ H σ Ext.refl sim rs
  | .brk, s, h => by
    cases s <;> first | (cases h; done) | skip
    exact PS.weak ps_break fun E σ H ⟨φ, τ, st, rs, sim, post⟩ => post φ H σ Ext.refl sim rs
  | .cont, s, h => by
    cases s <;> first | (cases h; done) | skip
    exact PS.weak ps_continue fun E σ H ⟨φ, τ, st, rs, sim, post⟩ => post φ H σ Ext.refl sim rs
  | .ifs c a b, s, h => by
    obtain ⟨t, x, y, pos, rfl, h1, h2, h3⟩ := iv_if h
    exact ifOk o h1 (sSs o a x h2) (sSs o b y h3)
  | .for_ t it b, s, h => by
    obtain ⟨tg, iter, body, pos, rfl, h1, h2, h3⟩ := iv_for h
    have hI := (ihI ge cf it).i X tg iter o.ok o.cl h2
    exact PS.weak (ps_for o.pass o.ok.calm hI.1 (pgA o h1) (sSs o b body h3) hI.2) fun E σ H q => forRead q
  | .while_ c b, s, h => by
    obtain ⟨t, body, pos, rfl, h1, h2⟩ := iv_while h
    exact PS.weak (ps_while o.pass ((ihE ge cf c).t X t o.ok o.cl h1) (sSs o b body h2)) fun E σ H q => whileRead q
termination_by structural c => c
theorem sSs (o : OkS ge cf X) : ∀ (c : CSs) (s : List Stmt), chkSs X.N X.env.scope c s = true → PSs X s (tSt X.K (exs ge cf c))
  | .nil, s, h => by
    cases s with
    | cons _ _ => cases h
    | nil => exact pssNil
  | .cons c cs, s, h => by
    cases s with
    | nil => cases h
    | cons x xs =>
      have h : (chkS X.N X.env.scope c x && chkSs X.N X.env.scope cs xs) = true := h
      rw [Bool.and_eq_true] at h
      exact pssCons (sS o c x h.1) (sSs o cs xs h.2)
termination_by structural c => c
end
end
end PC
end
section
set_option Elab.async false
set_option linter.all false
set_option autoImplicit false
set_option maxRecDepth 100000
set_option maxHeartbeats 1000000
/-! A def's end, and all defs of a table at once. -/
namespace PC
open PySem L2 PyProof.Rows
section
variable {K : PySem.W.Frag} {φ φ2 : Wd} {H : Hp} {st : Store}
/-- what a value names lies among the cells -/
theorem RepV.cl {n : Nat} (hn : φ.c.length = n) : ∀ {v : V} {d : D}, RepV K φ H v d → closed n d = true := by
  intro v d h
  refine RepV.rec (motive_1 := fun v d _ => closed n d = true) (motive_2 := fun vs ds _ => closeds n ds = true) ?_ ?_ ?_ ?_ ?_ ?_ ?_ ?_ ?_ ?_ h
  · rfl
  · intro b; rfl
  · intro i; rfl
  · intro s; rfl
  · intro p vs ds _ _ ih; exact ih
  · intro p vs ds _ _ ih; exact ih
  · intro p k h
    obtain ⟨h1, _⟩ := List.getElem?_eq_some_iff.mp h
    exact decide_eq_true (hn ▸ h1)
  · intro p vs ds _ _ ih; exact ih
  · rfl
  · intro v d vs ds _ _ a b
    show (closed n d && closeds n ds) = true
    rw [a, b]; rfl
theorem RepVs.cl {n : Nat} (hn : φ.c.length = n) : ∀ {vs : List V} {ds : List D}, RepVs K φ H vs ds → closeds n ds = true
  | _, _, .nil => rfl
  | _, _, .cons a b => by
    show (closed n _ && closeds n _) = true
    rw [a.cl hn, RepVs.cl hn b]; rfl
mutual
theorem RepV.less {n : Nat} (hc : φ2.c = φ.c.take n) (hF : ∀ p, φ.F p → φ2.F p) : ∀ {v : V} {d : D}, RepV K φ H v d → closed n d = true → RepV K φ2 H v d
  | _, _, .non, _ => .non
  | _, _, .bl b, _ => .bl b
  | _, _, .int i, _ => .int i
  | _, _, .str s, _ => .str s
  | _, _, .tup a b, h => .tup a (RepVs.less hc hF b h)
  | _, _, .lst a b, h => .lst ⟨a.1, hF _ a.2⟩ (RepVs.less hc hF b h)
  | _, _, .scr a b, h => .scr (a.elim (fun z => .inl ⟨z.1, hF _ z.2⟩) .inr) (RepVs.less hc hF b h)
  | _, _, .ref (k := k) e, h => .ref (by
    have hk : k < n := of_decide_eq_true h
    rw [hc, List.getElem?_take_of_lt hk]; exact e)
theorem RepVs.less {n : Nat} (hc : φ2.c = φ.c.take n) (hF : ∀ p, φ.F p → φ2.F p) : ∀ {v : List V} {d : List D}, RepVs K φ H v d → closeds n d = true → RepVs K φ2 H v d
  | _, _, .nil, _ => .nil
  | _, _, .cons (d := d) (ds := ds) a b, h => by
    have h : (closed n d && closeds n ds) = true := h
    rw [Bool.and_eq_true] at h
    exact .cons (RepV.less hc hF a h.1) (RepVs.less hc hF b h.2)
end
theorem RepC.less {n : Nat} (hc : φ2.c = φ.c.take n) (hF : ∀ p, φ.F p → φ2.F p) {p : Addr} {c : Cell} (h : RepC K φ H p c) (hcl : c.closed n = true) : RepC K φ2 H p c := by
  cases c with
  | lst ds =>
    obtain ⟨vs, e, r⟩ := h
    exact ⟨vs, e, r.less hc hF hcl⟩
  | dict kvs => exact h
  | ins _ _ => exact h.elim
theorem RepC.cl {n : Nat} (hn : φ.c.length = n) {p : Addr} {c : Cell} (h : RepC K φ H p c) : c.closed n = true := by
  cases c with
  | lst ds =>
    obtain ⟨vs, e, r⟩ := h
    exact r.cl hn
  | dict kvs => rw [h.1]; rfl
  | ins _ _ => exact h.elim
theorem Sim.cl {n : Nat} (s : Sim K φ H st) (hn : st.length = n) : st.all (Cell.closed n) = true := by
  rw [List.all_eq_true]
  intro c hc
  obtain ⟨k, hk, e⟩ := List.getElem_of_mem hc
  have hk' : k < φ.c.length := by rw [s.len]; exact hk
  exact (s.cell k φ.c[k] c (List.getElem?_eq_getElem hk') (by rw [List.getElem?_eq_getElem hk, e])).cl (s.len.trans hn)
theorem Sim.less (s : Sim K φ H st) {n : Nat} (hc : φ2.c = φ.c.take n) (hF : ∀ p, φ.F p → φ2.F p) (hF2 : ∀ p, φ2.F p → p ∉ φ2.c ∧ ∃ vs, Rd H p (.lst vs)) (hcl : (st.take n).all (Cell.closed n) = true) : Sim K φ2 H (st.take n) := by
  refine ⟨by rw [hc, List.length_take, List.length_take, s.len], by rw [hc]; exact s.nd.sublist (List.take_sublist _ _), fun k p c hk hst => ?_, hF2⟩
  have hlt : k < n := by
    obtain ⟨h1, _⟩ := List.getElem?_eq_some_iff.mp hst
    rw [List.length_take] at h1
    omega
  rw [hc, List.getElem?_take_of_lt hlt] at hk
  have hm : c ∈ st.take n := List.mem_of_getElem? hst
  rw [List.getElem?_take_of_lt hlt] at hst
  exact (s.cell k p c hk hst).less hc hF (List.all_eq_true.mp hcl c hm)
theorem nd_take {α : Type} {xs : List α} (h : xs.Nodup) {k n : Nat} {x : α} (hx : xs[k]? = some x) (hk : n ≤ k) : x ∉ xs.take n := by
  intro hm
  obtain ⟨j, hj, e⟩ := List.getElem_of_mem hm
  rw [List.length_take] at hj
  obtain ⟨h1, h2⟩ := List.getElem?_eq_some_iff.mp hx
  rw [List.getElem_take] at e
  have hj' : j < xs.length := by omega
  have : j = k := (List.getElem?_inj hj' h).mp (by rw [hx, List.getElem?_eq_getElem hj', e])
  omega
end
/-- THE END of a def -/
theorem finOk {K : PySem.W.Frag} {φ φ1 : Wd} {H H1 : Hp} {st st1 : Store} {d : D} {v : V} {Q : VK} (s0 : Sim K φ H st) (e : Ext K φ H φ1 H1) (s1 : Sim K φ1 H1 st1) (rv : RepV K φ1 H1 v d) (h : Post K (RV K) noW φ H (fin st.length st d st1) Q) : Q v H1 := by
  have stay : Post K (RV K) noW φ H (.ok d st1) Q → Q v H1 := fun h => h φ1 H1 v e s1 rv
  unfold fin at h
  split at h
  · rename_i hcl
    have hcl : (st1.take st.length).all (Cell.closed st.length) = true := hcl.elim (fun z => by rw [z]; exact s0.cl rfl) id
    have pre : ∀ (k : Nat) (p : Addr), φ.c[k]? = some p → (φ1.c.take st.length)[k]? = some p := fun k p hk => by
      have hk' : k < st.length := by
        obtain ⟨h1, _⟩ := List.getElem?_eq_some_iff.mp hk
        rw [← s0.len]; exact h1
      rw [List.getElem?_take_of_lt hk']; exact e.pre k p hk
    -- the cells that go
    have drop : ∀ d2, RepV K φ1 H1 v d2 → closed st.length d2 = true → Post K (RV K) noW φ H (.ok d2 (st1.take st.length)) Q → Q v H1 := fun d2 r2 c2 h2 => by
      refine h2 ⟨φ1.c.take st.length, φ1.F⟩ H1 v ⟨⟨pre, e.tup, e.lst⟩, e.keep, fun p hp => e.new p (List.mem_of_mem_take hp), e.newF, e.dom⟩ (s1.less rfl (fun _ z => z) (fun p hp => ?_) hcl) (RepV.less (φ2 := ⟨φ1.c.take st.length, φ1.F⟩) rfl (fun _ z => z) r2 c2)
      obtain ⟨h1, h2⟩ := s1.frz p hp
      exact ⟨fun hm => h1 (List.mem_of_mem_take hm), h2⟩
    cases d with
    | ref k =>
      simp only at h
      split at h
      · rename_i hk
        exact drop _ rv (decide_eq_true hk) h
      · rename_i hk
        split at h
        · rename_i xs hx
          split at h
          · rename_i hxs
            cases rv with
            | ref hp =>
              rename_i p
              obtain ⟨c, hc, rc⟩ := s1.at_ hp
              rw [hx] at hc
              cases hc
              obtain ⟨vs, hv, rvs⟩ := rc
              have hp' : p ∉ φ1.c.take st.length := nd_take s1.nd hp (Nat.le_of_not_lt hk)
              have hp0 : p ∉ φ.c := fun hm => by
                obtain ⟨j, hj, ej⟩ := List.getElem_of_mem hm
                exact hp' (List.mem_of_getElem? (pre j p (by rw [List.getElem?_eq_getElem hj, ej])))
              have hn := e.new p (List.mem_of_getElem? hp) hp0
              have hF : ∀ q, φ1.F q → (Wd.F ⟨φ1.c.take st.length, fun q => φ1.F q ∨ q = p⟩) q := fun q z => .inl z
              refine h ⟨φ1.c.take st.length, fun q => φ1.F q ∨ q = p⟩ H1 (.ref p) ⟨⟨pre, e.tup, fun q us a b => ⟨(e.lst q us a b).1, .inl (e.lst q us a b).2⟩⟩, e.keep, fun q hq => e.new q (List.mem_of_mem_take hq), fun q hq hq' => ?_, e.dom⟩
                (s1.less rfl hF (fun q hq => ?_) hcl) (.lst ⟨.inl hv, .inr rfl⟩ (rvs.less rfl hF hxs))
              · rcases hq with hq | rfl
                · exact e.newF q hq hq'
                · exact hn
              · rcases hq with hq | rfl
                · obtain ⟨h1, h2⟩ := s1.frz q hq
                  exact ⟨fun hm => h1 (List.mem_of_mem_take hm), h2⟩
                · exact ⟨hp', vs, .inl hv⟩
          · exact stay h
        · exact stay h
    | non | bl | int | str | tup | lst | exc | scr =>
      simp only at h
      split at h
      · rename_i hcd
        exact drop _ rv hcd h
      · exact stay h
  · exact stay h

/-- the start -/
theorem repS_start {K : PySem.W.Frag} {φ : Wd} {H : Hp} {vs : List V} {as : List D} {N : List Str} (r : RepVs K φ H vs as) : RepS K φ H (start N vs) (as.map some ++ List.replicate (N.length - as.length) none) := by
  refine ⟨?_, fun i d h => ?_⟩
  · unfold L2.start
    simp only [List.length_append, List.length_map, List.length_replicate, r.length]
  · by_cases hi : i < as.length
    · rw [List.getElem?_append_left (by rw [List.length_map]; exact hi), List.getElem?_map] at h
      cases e : as[i]? with
      | none => rw [e] at h; cases h
      | some a =>
        rw [e] at h
        cases h
        obtain ⟨v, hv, rv⟩ := r.get e
        refine ⟨v, ?_, rv⟩
        unfold L2.start
        rw [List.getElem?_append_left (by rw [List.length_map, r.length]; exact hi), List.getElem?_map, hv]; rfl
    · rw [List.getElem?_append_right (by rw [List.length_map]; omega), List.getElem?_replicate] at h
      split at h <;> cases h
/-- a def's promise: what the core's run gives -/
def spF (K : PySem.W.Frag) (cf : CF) (f : String) : Sp := fun vs H Q _ => ∃ φ st as, Sim K φ H st ∧ RepVs K φ H vs as ∧ Post K (RV K) noW φ H (cf f as st) Q
/-- a def of the module, as its core says -/
structure Def1 (K : PySem.W.Frag) (mg : Str → Option Value) (f : String) (fn : Fn) (a : Addr) (fd : FuncData) (ps : List Str) : Prop where
  ex : ∃ (params : Arguments) (body : List Stmt) (scope : Scope) (N : List Str), FunD K (Str.ofString f) (Str.ofString f) params body scope [] [] a fd ∧ FnScope N ps scope ∧ chkSs N scope fn.body body = true ∧ N.length = fn.ns
  mgf : mg (Str.ofString f) = some (.ref a)
  kp : PySem.W.keepIn K (.ref a) = true
  bd : Binds K fd ps []
  np : ps.length = fn.np
section
variable {P : Program} {w : World} {K : PySem.W.Frag} {mg : Str → Option Value} {base : Heap} {ge : GE} {T : Tab}
theorem callsOf {cf : CF} {k : Nat} (hfs : ∀ f, ge.fs f = true → ∃ a fd ps, FnOk P w K mg base CX0 k a fd ps (spF K cf f) ∧ mg (Str.ofString f) = some (.ref a) ∧ PySem.W.keepIn K (.ref a) = true ∧ Binds K fd ps [])
    (X : Cx) (h1 : X.prog = P) (h2 : X.w = w) (h3 : X.K = K) (h4 : X.mg = mg) (h5 : X.base = base) (hr : Room k X.A) : CallsM ge cf X := by
  intro Y hY f e es t p pos hf hg hn he hes ha
  obtain ⟨a, fd, ps, F, hm, kp, bd⟩ := hfs f hf
  obtain ⟨n1, _, _⟩ := nmB_ok hn
  have F' : FnOk Y.prog Y.w Y.K Y.mg Y.base CX0 k a fd ps (spF Y.K cf f) := by
    rw [hY.prog, hY.w, hY.K, hY.mg, hY.base, h1, h2, h3, h4, h5]; exact F
  have hm' : Y.mg (Str.ofString f) = some (.ref a) := by rw [hY.mg, h4]; exact hm
  have kp' : PySem.W.keepIn Y.K (.ref a) = true := by rw [hY.K, h3]; exact kp
  have bd' : Binds Y.K fd ps [] := by rw [hY.K, h3]; exact bd
  have hr' : Room k Y.A := by rw [hY.A]; exact hr
  refine PE.weak (pe_call (dvs := []) (E := E0) F' hr' (glB_ok hg) hm' kp' bd' .nil pass0 ha n1 (star_good he) (star_all hes)) fun σ H Q q => ?_
  show t σ H fun vs H1 => spF Y.K cf f (vs ++ []) H1 Q E0
  have e : (fun vs H1 => spF Y.K cf f (vs ++ []) H1 Q E0) = fun vs H1 => ∃ φ st as, Sim Y.K φ H1 st ∧ RepVs Y.K φ H1 vs as ∧ Post Y.K (RV Y.K) noW φ H1 (cf f as st) Q := by
    funext vs H1
    rw [List.append_nil]; rfl
  rw [e]; exact q
/-- ALL DEFS -/
theorem defsOk (hT : ∀ f, ge.fs f = true → ∃ fn, T f = some fn) (hD : ∀ f fn, T f = some fn → ∃ a fd ps, Def1 K mg f fn a fd ps)
    (free : ∀ x ∈ bltNames, mg x = none) (glob : ∀ x d, ge.gl x = some d → ∃ v u, mg (Str.ofString x) = some u ∧ RelV v u ∧ ∀ φ H, RepV K φ H v d) :
    ∀ (k : Nat) (f : String) (fn : Fn) (a : Addr) (fd : FuncData) (ps : List Str), T f = some fn → Def1 K mg f fn a fd ps → FnOk P w K mg base CX0 k a fd ps (spF K (call ge T k) f)
  | 0, f, fn, a, fd, ps, hf, d => ⟨fun vs H Q E ⟨φ, st, as, s, r, p⟩ => p.elim, fun A outer s H args us vs Q E hr he hb hv ⟨φ, st, as, s, r, p⟩ => p.elim⟩
  | k + 1, f, fn, a, fd, ps, hf, d => by
    have ih := defsOk hT hD free glob k
    obtain ⟨params, body, scope, N, F, S, hc, hN⟩ := d.ex
    have eq : ∀ as st, call ge T (k + 1) f as st = run ge (call ge T k) fn as st := fun as st => by
      show (match T f with | some fn => run ge (call ge T k) fn as st | none => .err) = _
      rw [hf]
    refine F.ok S (fun vs H Q E ⟨φ, st, as, s, r, p⟩ => ?_) fun cdv A outer s H vs Q E hr ⟨φ, st, as, sim, r, p⟩ => ?_
    · rw [eq] at p
      unfold run gd at p
      split at p
      · rename_i h
        rw [r.length, h.1, d.np]
      · exact p.elim
    · generalize hX : (cxOf CX0 P w K mg base N (Str.ofString f) scope a cdv A outer s H E).nox = X
      have oS : OkS ge (call ge T k) X := by
        subst hX
        refine ⟨⟨rfl, S.nd, ?_, free, glob⟩, callsOf (fun f hf => ?_) _ rfl rfl rfl rfl rfl hr, fun _ => rfl, ?_, S.kind⟩
        · have := hr.un
          show (A.deeper (envOfC (Str.ofString f) scope s.heap.objs.size a cdv)).units + 65 < cLine
          omega
        · obtain ⟨fn, h1⟩ := hT f hf
          obtain ⟨a, fd, ps, d⟩ := hD f fn h1
          exact ⟨a, fd, ps, ih f fn a fd ps h1 d, d.mgf, d.kp, d.bd⟩
        · exact PassesOwn.never
      refine ⟨tSt K (exs ge (call ge T k) fn.body), PSs.nox ?_, ?_⟩
      · rw [hX]
        have q := sSs oS fn.body body (by subst hX; exact hc)
        subst hX
        exact q
      · rw [eq] at p
        unfold run gd at p
        split at p
        · rename_i h
          refine ⟨φ, _, st, repS_start (N := N) r, sim, ?_⟩
          rw [hN]
          cases er : exs ge (call ge T k) fn.body (as.map some ++ List.replicate (fn.ns - as.length) none) st with
          | rt d st1 =>
            rw [er] at p
            simp only at p
            intro φ1 H1 v e1 s1 rv
            split at p
            · exact p φ1 H1 v e1 s1 rv
            · exact finOk sim e1 s1 rv p
          | nx τ st1 =>
            rw [er] at p
            simp only at p
            intro φ1 H1 v e1 s1 rv
            split at p
            · exact p φ1 H1 .non e1 s1 .non
            · exact finOk sim e1 s1 .non p
          | exc d τ st1 => rw [er] at p; exact p
          | bk τ st1 => rw [er] at p; exact p.elim
          | ct τ st1 => rw [er] at p; exact p.elim
          | err => rw [er] at p; exact p.elim
        · exact p.elim
end
end PC
end
section
set_option Elab.async false
set_option linter.all false
set_option autoImplicit false
set_option maxRecDepth 100000
set_option maxHeartbeats 1000000
/-! The end: the head's facts for a list of defs with their cores. -/
namespace PC
open PySem L2 PyProof.Rows
/-- a def of the text, with its core -/
structure DR where
  nm : String
  st : Stmt
  ps : List Str
  N : List Str
  fn : Fn
/-- the module's constants -/
inductive KC where
  | int (i : Int) | str (s : List Nat)
def KC.d : KC → D
  | .int i => .int i
  | .str s => .str s
def KC.fa (x : String) : KC → He.Fa
  | .int i => .int (Str.ofString x) i
  | .str s => .str (Str.ofString x) (sv s)
def DR.dd (d : DR) : He.DefD := ⟨(Str.ofString d.nm, none), Str.ofString d.nm, Str.ofString d.nm, defArgs d.st, defBody d.st, defScope d.st, [], []⟩
def DR.ok (d : DR) : Bool := C8.scC d.N d.ps (defScope d.st) && (chkSs d.N (defScope d.st) d.fn.body (defBody d.st) && (decide (d.N.length = d.fn.ns) && decide (d.ps.length = d.fn.np)))
def BindOk (d : DR) : Prop := ∀ (x q : Str) (kV doc pm : Value) (an : Option Addr) (cdv ct : Value) (us : List Value), us.length = d.ps.length → bindArgs (PySem.W.fnOf x q (defArgs d.st) (defBody d.st) (defScope d.st) .none kV doc pm an cdv ct) ⟨us, []⟩ = pure (d.ps.zip us)
def faOf (ds : List DR) (cs : List (String × KC)) : List He.Fa := ds.map (fun d => .glo (Str.ofString d.nm)) ++ (bltNames.map .free ++ cs.map fun c => c.2.fa c.1)
def tab (ds : List DR) : Tab := fun f => (ds.find? fun d => d.nm == f).map (·.fn)
def geOf (ds : List DR) (cs : List (String × KC)) (bs : Bases) : GE := ⟨bs, fun x => (cs.lookup x).map KC.d, fun f => (tab ds f).isSome⟩
section
variable {ds : List DR} {cs : List (String × KC)} {bs : Bases} {P : Program} {w : World} {K : PySem.W.Frag} {h : Heap} {mg : Str → Option Value}
theorem says {f : He.Fa} (c : He.SaysD (faOf ds cs) (ds.map DR.dd) K) (m : f ∈ faOf ds cs) : f.ok K = true := by
  obtain ⟨i, hi, e⟩ := List.getElem_of_mem m
  exact c.fact i (by rw [List.getElem?_eq_getElem hi, e])
theorem defOf1 (hok : ds.all DR.ok = true) (hb : ∀ d ∈ ds, BindOk d) (X : K.In h) (G : h.Ns mainGlobals mg) (c : He.SaysD (faOf ds cs) (ds.map DR.dd) K) (d : DR) (m : d ∈ ds) :
    ∃ fd, Def1 K mg d.nm d.fn (He.ga K (Str.ofString d.nm)) fd d.ps ∧ ∀ (s : Shared) (us : List Value), us.length = d.ps.length → BindsTo s fd ⟨us, []⟩ (d.ps.zip us) := by
  obtain ⟨i, hi, e⟩ := List.getElem_of_mem m
  have hget : (ds.map DR.dd)[i]? = some d.dd := by rw [List.getElem?_map, List.getElem?_eq_getElem hi, e]; rfl
  obtain ⟨fd, F⟩ := c.def_ i hget
  have F : FunD K (Str.ofString d.nm) (Str.ofString d.nm) (defArgs d.st) (defBody d.st) (defScope d.st) [] [] (He.ga K (Str.ofString d.nm)) fd := F
  have hd := List.all_eq_true.mp hok d m
  unfold DR.ok at hd
  simp only [Bool.and_eq_true, decide_eq_true_eq] at hd
  obtain ⟨h1, h2, h3, h4⟩ := hd
  have g := He.glo_ok X G (says c (List.mem_append_left _ (List.mem_map.mpr ⟨d, m, rfl⟩)))
  refine ⟨fd, ⟨⟨_, _, _, d.N, F, C8.fnScope_by h1, h2, h3⟩, g, F.kp, F.bindsN (hb d m _ _), h4⟩, fun s us hl => F.bindsA (ps := d.ps) (hb d m _ _) s us hl⟩
theorem tab_mem {f : String} {fn : Fn} (h : tab ds f = some fn) : ∃ d ∈ ds, d.nm = f ∧ d.fn = fn := by
  unfold tab at h
  cases e : ds.find? fun d => d.nm == f with
  | none => rw [e] at h; cases h
  | some d =>
    rw [e] at h
    cases h
    have := List.find?_some e
    exact ⟨d, List.mem_of_find?_eq_some e, by simpa using this, rfl⟩
theorem mem_of_look {x : String} {k : KC} : ∀ {cs : List (String × KC)}, cs.lookup x = some k → (x, k) ∈ cs
  | [], h => by cases h
  | (y, j) :: cs, h => by
    rw [List.lookup_cons] at h
    split at h
    · rename_i e
      cases h
      rw [show x = y by simpa using e]
      exact List.mem_cons_self
    · exact List.mem_cons_of_mem _ (mem_of_look h)
/-- all that the walk wants of the module -/
theorem facts (hok : ds.all DR.ok = true) (hb : ∀ d ∈ ds, BindOk d) (X : K.In h) (G : h.Ns mainGlobals mg) (c : He.SaysD (faOf ds cs) (ds.map DR.dd) K) (d : DR) (m : d ∈ ds) (hd : tab ds d.nm = some d.fn) (k : Nat) :
    ∃ fd, (∀ (s : Shared) (us : List Value), us.length = d.ps.length → BindsTo s fd ⟨us, []⟩ (d.ps.zip us)) ∧ mg (Str.ofString d.nm) = some (.ref (He.ga K (Str.ofString d.nm))) ∧
      ∀ base : Heap, FnOk P w K mg base CX0 k (He.ga K (Str.ofString d.nm)) fd d.ps (spF K (call (geOf ds cs bs) (tab ds) k) d.nm) := by
  obtain ⟨fd, D, b⟩ := defOf1 hok hb X G c d m
  refine ⟨fd, b, D.mgf, fun base => defsOk (fun f hf => ?_) (fun f fn hf => ?_) (fun x hx => ?_) (fun x e he => ?_) k d.nm d.fn _ fd d.ps hd D⟩
  · cases e : tab ds f with
    | none => exact absurd hf (by show ¬ (tab ds f).isSome = true; rw [e]; exact Bool.false_ne_true)
    | some fn => exact ⟨fn, rfl⟩
  · obtain ⟨d', m', rfl, rfl⟩ := tab_mem hf
    obtain ⟨fd', D', _⟩ := defOf1 hok hb X G c d' m'
    exact ⟨_, fd', _, D'⟩
  · exact He.free_ok X G (says c (List.mem_append_right _ (List.mem_append_left _ (List.mem_map.mpr ⟨x, hx, rfl⟩))))
  · have he : (cs.lookup x).map KC.d = some e := he
    cases el : cs.lookup x with
    | none => rw [el] at he; cases he
    | some q =>
      rw [el] at he
      cases he
      have mm : q.fa x ∈ faOf ds cs := List.mem_append_right _ (List.mem_append_right _ (List.mem_map.mpr ⟨(x, q), mem_of_look el, rfl⟩))
      cases q with
      | int i =>
        obtain ⟨t, e⟩ := He.int_ok X G (says c mm)
        exact ⟨.int i, _, e, ⟨t, rfl⟩, fun _ _ => .int i⟩
      | str z =>
        obtain ⟨t, e⟩ := He.str_ok X G (says c mm)
        exact ⟨.str (sv z), _, e, ⟨t, rfl⟩, fun _ _ => .str z⟩
end
/-- the script -/
theorem spLaw {K : PySem.W.Frag} {cf : CF} {f : String} {H : Hp} {a : Addr} {ns : List Int} {E : XK} (hS : SqL K H a (ns.map V.int)) (h : ∃ st, cf f [.scr (ns.map .int)] [] = .ok (.bl true) st) : spF K cf f [.ref a] H (fun v _ => v = .bl true) E := by
  obtain ⟨st, h⟩ := h
  have fin : ∀ φ : Wd, Sim K φ H [] → LsK K φ H a (ns.map V.int) → spF K cf f [.ref a] H (fun v _ => v = .bl true) E := fun φ s l =>
    ⟨φ, [], _, s, .cons (.scr l (RepVs.ints ns)) .nil, by rw [h]; exact fun φ' H' v _ _ r => r.bl_inv⟩
  rcases hS with hS | hS
  · exact fin ⟨[], fun p => p = a⟩ ⟨rfl, List.nodup_nil, fun k p c hk => by simp at hk, fun p hp => ⟨List.not_mem_nil, _, hp ▸ hS⟩⟩ (.inl ⟨hS, rfl⟩)
  · exact fin ⟨[], fun _ => False⟩ ⟨rfl, List.nodup_nil, fun k p c hk => by simp at hk, fun p hp => hp.elim⟩ (.inr hS)
end PC
end
section
set_option Elab.async false
set_option linter.all false
set_option autoImplicit false
set_option maxRecDepth 100000
set_option maxHeartbeats 1000000
/-! Words for pure proofs about the interpreter. -/
namespace PC
open PySem
theorem whN_mono {c : Slots → Store → Res D} {b : Slots → Store → RS} : ∀ (n : Nat) (σ : Slots) (st : Store), whN c b n σ st ≠ .err → whN c b (n + 1) σ st = whN c b n σ st
  | 0, σ, st, h => absurd rfl h
  | n + 1, σ, st, h => by
    rw [whN] at h
    rw [whN, whN]
    cases e : c σ st with
    | err => rfl
    | exc d s => rfl
    | ok d s =>
      rw [e] at h
      simp only [Res.toS_ok] at h ⊢
      cases d with
      | bl k =>
        cases k with
        | false => rfl
        | true =>
          simp only at h ⊢
          cases e2 : b σ s with
          | nx σ' st' => rw [e2] at h; exact whN_mono n σ' st' h
          | ct σ' st' => rw [e2] at h; exact whN_mono n σ' st' h
          | _ => rfl
      | _ => rfl
theorem whN_le {c : Slots → Store → Res D} {b : Slots → Store → RS} {n m : Nat} {σ : Slots} {st : Store} (hn : whN c b n σ st ≠ .err) (h : n ≤ m) : whN c b m σ st = whN c b n σ st := by
  induction h with
  | refl => rfl
  | step h ih => rw [whN_mono _ _ _ (by rw [ih]; exact hn), ih]
theorem wh_eq {c : Slots → Store → Res D} {b : Slots → Store → RS} {n : Nat} {σ : Slots} {st : Store} (hn : whN c b n σ st ≠ .err) : wh c b σ st = whN c b n σ st := by
  unfold wh
  have hx : ∃ n, whN c b n σ st ≠ .err := ⟨n, hn⟩
  rw [dif_pos hx]
  rcases Nat.le_total n hx.choose with h | h
  · exact whN_le hn h
  · exact (whN_le hx.choose_spec h).symm
/-- a while by an invariant with a measure -/
theorem wh_inv {c : Slots → Store → Res D} {b : Slots → Store → RS} {α : Type} (P : α → Slots × Store) (m : α → Nat) (R : RS) (hR : R ≠ .err)
    (step : ∀ a, (c (P a).1 (P a).2 = .ok (.bl false) (P a).2 ∧ RS.nx (P a).1 (P a).2 = R) ∨ (c (P a).1 (P a).2 = .ok (.bl true) (P a).2 ∧ ∃ a', m a' < m a ∧ b (P a).1 (P a).2 = .nx (P a').1 (P a').2)) (a : α) : wh c b (P a).1 (P a).2 = R := by
  have key : ∀ n a, m a < n → whN c b n (P a).1 (P a).2 = R := by
    intro n
    induction n with
    | zero => intro a h; omega
    | succ n ih =>
      intro a h
      rw [whN]
      rcases step a with ⟨h1, h2⟩ | ⟨h1, a', h2, h3⟩
      · rw [h1]; exact h2
      · rw [h1]
        simp only [Res.toS_ok]
        rw [h3]
        exact ih a' (by omega)
  rw [wh_eq (n := m a + 1) (by rw [key _ a (by omega)]; exact hR)]
  exact key _ a (by omega)
/-! ### a def's end -/
theorem fin_same {st : Store} {d : D} (h : closed st.length d = true) : fin st.length st d st = .ok d st := by
  unfold fin
  rw [if_pos (.inl (List.take_length ..))]
  cases d with
  | ref k =>
    have : k < st.length := of_decide_eq_true h
    simp only [if_pos this, List.take_length]
  | _ => simp only [if_pos h, List.take_length]
theorem fin_more {st ex : Store} {d : D} (h : closed st.length d = true) : fin st.length st d (st ++ ex) = .ok d st := by
  unfold fin
  rw [if_pos (.inl (List.take_left ..))]
  cases d with
  | ref k =>
    have : k < st.length := of_decide_eq_true h
    simp only [if_pos this, List.take_left]
  | _ => simp only [if_pos h, List.take_left]
theorem fin_list {st ex : Store} {xs : List D} {k : Nat} (hk : st.length ≤ k) (hx : (st ++ ex)[k]? = some (.lst xs)) (h : closeds st.length xs = true) : fin st.length st (.ref k) (st ++ ex) = .ok (.lst xs) st := by
  unfold fin
  rw [if_pos (.inl (List.take_left ..))]
  have : ¬ k < st.length := by omega
  simp only [if_neg this, hx, if_pos h, List.take_left]
/-! ### the interpreter by named steps -/
def onB {α : Type} (e : α) (x : D) (t f : α) : α := match x with
  | .bl true => t
  | .bl false => f
  | _ => e
@[simp] theorem onB_t {α : Type} (e t f : α) : onB e (.bl true) t f = t := rfl
@[simp] theorem onB_f {α : Type} (e t f : α) : onB e (.bl false) t f = f := rfl
theorem onB_bl {α : Type} (e t f : α) (b : Bool) : onB e (.bl b) t f = if b = true then t else f := by cases b <;> rfl
theorem onB_dec {α : Type} (e t f : α) (P : Prop) [Decidable P] : onB e (.bl (decide P)) t f = if P then t else f := by
  by_cases h : P
  · rw [decide_eq_true h, if_pos h]; rfl
  · rw [decide_eq_false h, if_neg h]; rfl
def onI {α : Type} (e : α) (x : D) (t : Int → α) : α := match x with
  | .int i => t i
  | _ => e
@[simp] theorem onI_i {α : Type} (e : α) (t : Int → α) (i : Int) : onI e (.int i) t = t i := rfl
def notD (x : D) (st : Store) : Res D := match x with | .bl b => .ok (.bl (!b)) st | _ => .err
@[simp] theorem notD_b (b : Bool) (st : Store) : notD (.bl b) st = .ok (.bl (!b)) st := rfl
def boolR (x : D) (st : Store) : Res Bool := match x with | .bl b => .ok b st | _ => .err
@[simp] theorem boolR_b (b : Bool) (st : Store) : boolR (.bl b) st = .ok b st := rfl
def seqR (r : RS) (k : Slots → Store → RS) : RS := match r with
  | .nx σ st => k σ st
  | r => r
@[simp] theorem seqR_nx (σ : Slots) (st : Store) (k : Slots → Store → RS) : seqR (.nx σ st) k = k σ st := rfl
@[simp] theorem seqR_rt (d : D) (st : Store) (k : Slots → Store → RS) : seqR (.rt d st) k = .rt d st := rfl
@[simp] theorem seqR_bk (σ : Slots) (st : Store) (k : Slots → Store → RS) : seqR (.bk σ st) k = .bk σ st := rfl
@[simp] theorem seqR_ct (σ : Slots) (st : Store) (k : Slots → Store → RS) : seqR (.ct σ st) k = .ct σ st := rfl
@[simp] theorem seqR_err (k : Slots → Store → RS) : seqR .err k = .err := rfl
theorem seqR_ite {P : Prop} [Decidable P] (a b : RS) (k : Slots → Store → RS) : seqR (if P then a else b) k = if P then seqR a k else seqR b k := by split <;> rfl
noncomputable def fnEnd (keep : Bool) (st : Store) (r : RS) : Res D := match r with
  | .rt d st' => if keep = true then .ok d st' else fin st.length st d st'
  | .nx _ st' => if keep = true then .ok .non st' else fin st.length st .non st'
  | .exc d _ st' => .exc d st'
  | _ => .err
@[simp] theorem fnEnd_rt (st : Store) (d : D) (st' : Store) : fnEnd false st (.rt d st') = fin st.length st d st' := rfl
@[simp] theorem fnEnd_nx (st : Store) (σ : Slots) (st' : Store) : fnEnd false st (.nx σ st') = fin st.length st .non st' := rfl
@[simp] theorem fnEnd_rtT (st : Store) (d : D) (st' : Store) : fnEnd true st (.rt d st') = .ok d st' := rfl
@[simp] theorem fnEnd_nxT (st : Store) (σ : Slots) (st' : Store) : fnEnd true st (.nx σ st') = .ok .non st' := rfl
theorem fnEnd_ite {keep : Bool} {st : Store} {P : Prop} [Decidable P] (a b : RS) : fnEnd keep st (if P then a else b) = if P then fnEnd keep st a else fnEnd keep st b := by split <;> rfl
theorem run_eq {ge : GE} {cf : CF} {np ns : Nat} {keep : Bool} {b : CSs} {as : List D} {st : Store} (h : as.length = np ∧ np ≤ ns) : run ge cf ⟨np, ns, keep, b⟩ as st = fnEnd keep st (exs ge cf b (as.map some ++ List.replicate (ns - as.length) none) st) := by
  unfold run
  rw [gd_pos h]
  cases exs ge cf b (as.map some ++ List.replicate (ns - as.length) none) st <;> rfl
def asgN (is : List Nat) (o : Option (List D)) (σ : Slots) (st : Store) : RS := match o with
  | some ds => if ds.length = is.length then .nx (setAll σ is ds) st else .err
  | none => .err
@[simp] theorem asgN_some (is : List Nat) (ds : List D) (σ : Slots) (st : Store) : asgN is (some ds) σ st = if ds.length = is.length then .nx (setAll σ is ds) st else .err := rfl
def putR (o : Option Store) (σ : Slots) : RS := match o with
  | some st => .nx σ st
  | none => .err
@[simp] theorem putR_some (st : Store) (σ : Slots) : putR (some st) σ = .nx σ st := rfl
def listR (o : Option (List D)) (st : Store) : Res (List D) := match o with
  | some xs => .ok xs st
  | none => .err
@[simp] theorem listR_some (xs : List D) (st : Store) : listR (some xs) st = .ok xs st := rfl
def globR (o : Option D) (st : Store) : Res D := match o with
  | some d => .ok d st
  | none => .err
@[simp] theorem globR_some (d : D) (st : Store) : globR (some d) st = .ok d st := rfl
section
variable {ge : GE} {cf : CF} {σ : Slots} {st : Store}
@[simp] theorem ev_var (i : Nat) : ev ge cf (.var i) σ st = lookS σ i st := rfl
@[simp] theorem ev_non : ev ge cf .non σ st = .ok .non st := rfl
@[simp] theorem ev_bl (b : Bool) : ev ge cf (.bl b) σ st = .ok (.bl b) st := rfl
@[simp] theorem ev_int (i : Int) : ev ge cf (.int i) σ st = .ok (.int i) st := rfl
@[simp] theorem ev_str (s : List Nat) : ev ge cf (.str s) σ st = .ok (.str s) st := rfl
@[simp] theorem ev_glob (x : String) : ev ge cf (.glob x) σ st = globR (ge.gl x) st := rfl
@[simp] theorem ev_bin (op : Operator) (a b : CE) : ev ge cf (.bin op a b) σ st = (ev ge cf a σ st).bind fun x st => (ev ge cf b σ st).bind fun y st => binop op x y st := rfl
@[simp] theorem ev_neg (a : CE) : ev ge cf (.neg a) σ st = (ev ge cf a σ st).bind fun x st => onI .err x fun i => .ok (.int (-i)) st := rfl
@[simp] theorem ev_not (a : CE) : ev ge cf (.not a) σ st = (ev ge cf a σ st).bind fun x st => notD x st := rfl
@[simp] theorem ev_and (a b : CE) : ev ge cf (.and a b) σ st = (ev ge cf a σ st).bind fun x st => onB .err x (ev ge cf b σ st) (.ok (.bl false) st) := rfl
@[simp] theorem ev_or (a b : CE) : ev ge cf (.or a b) σ st = (ev ge cf a σ st).bind fun x st => onB .err x (.ok (.bl true) st) (ev ge cf b σ st) := rfl
@[simp] theorem ev_ite (c a b : CE) : ev ge cf (.ite c a b) σ st = (ev ge cf c σ st).bind fun x st => onB .err x (ev ge cf a σ st) (ev ge cf b σ st) := rfl
@[simp] theorem ev_cmp (op : CmpOp) (a b : CE) : ev ge cf (.cmp op a b) σ st = (ev ge cf a σ st).bind fun x st => (ev ge cf b σ st).bind fun y st => (cmpB op x y st).bind fun b st => .ok (.bl b) st := rfl
@[simp] theorem ev_chain (op op' : CmpOp) (a b c : CE) : ev ge cf (.chain op op' a b c) σ st = (ev ge cf a σ st).bind fun x st => (ev ge cf b σ st).bind fun y st => (cmpB op x y st).bind fun k st =>
    onB .err (.bl k) ((ev ge cf c σ st).bind fun z st => (cmpB op' y z st).bind fun b st => .ok (.bl b) st) (.ok (.bl false) st) := by
  show ((ev ge cf a σ st).bind fun x st => (ev ge cf b σ st).bind fun y st => (cmpB op x y st).bind fun k st => _) = _
  congr 1; funext x st; congr 1; funext y st; congr 1; funext k st
  cases k <;> rfl
@[simp] theorem ev_tup (es : CEs) : ev ge cf (.tup es) σ st = (evs ge cf es σ st).bind fun xs st => gd (xs.length ≤ lineN) (.ok (.tup xs) st) := rfl
@[simp] theorem ev_new (l : CL) : ev ge cf (.new l) σ st = (evl ge cf l σ st).bind fun xs st => .ok (.lst xs) st := rfl
@[simp] theorem ev_cell (l : CL) : ev ge cf (.cell l) σ st = (evl ge cf l σ st).bind fun xs st => .ok (.ref st.length) (st ++ [.lst xs]) := rfl
@[simp] theorem ev_dict0 : ev ge cf .dict0 σ st = .ok (.ref st.length) (st ++ [.dict []]) := rfl
@[simp] theorem ev_idx (a i : CE) : ev ge cf (.idx a i) σ st = (ev ge cf a σ st).bind fun x st => (ev ge cf i σ st).bind fun y st => idxD st x y := rfl
@[simp] theorem ev_slice (a : CE) (lo hi : CO) : ev ge cf (.slice a lo hi) σ st = (ev ge cf a σ st).bind fun x st => (evo ge cf lo σ st).bind fun l st => (evo ge cf hi σ st).bind fun h st => sliceD st x l h := rfl
@[simp] theorem ev_call (f : String) (es : CEs) : ev ge cf (.call f es) σ st = gd (ge.fs f = true) ((evs ge cf es σ st).bind fun xs st => cf f xs st) := rfl
@[simp] theorem ev_blt (b : Blt) (es : CEs) : ev ge cf (.blt b es) σ st = (evs ge cf es σ st).bind fun xs st => blt b xs st := rfl
@[simp] theorem ev_mth (m : Mth) (o : CE) (es : CEs) : ev ge cf (.mth m o es) σ st = (ev ge cf o σ st).bind fun x st => gd (mOk m x st = true) ((evs ge cf es σ st).bind fun xs st => mth m x xs st) := rfl
@[simp] theorem ev_isI (a : CE) (t : Ty) : ev ge cf (.isI a t) σ st = (ev ge cf a σ st).bind fun x st => .ok (.bl (isTy ge.bs st x t)) st := rfl
@[simp] theorem evl_disp (es : CEs) : evl ge cf (.disp es) σ st = (evs ge cf es σ st).bind fun xs st => gd (xs.length ≤ lineN) (.ok xs st) := rfl
/-- one turn of a comprehension -/
noncomputable def lcStep (ge : GE) (cf : CF) (t : List Nat) (one : Bool) (c : CO) (e : CE) (σ : Slots) (x : D) (st : Store) : Res (Option D) :=
  match bindT t one x (wipe σ t) st with
  | some σ' => (evc ge cf c σ' st).bind fun b st => match b with
    | true => (ev ge cf e σ' st).bind fun y st => .ok (some y) st
    | false => .ok none st
  | none => .err
theorem lcStep_eq {t : List Nat} {one : Bool} {c : CO} {e : CE} {x : D} {σ' : Slots} (h : bindT t one x (wipe σ t) st = some σ') : lcStep ge cf t one c e σ x st = (evc ge cf c σ' st).bind fun b st => onB .err (.bl b) ((ev ge cf e σ' st).bind fun y st => .ok (some y) st) (.ok none st) := by
  unfold lcStep
  rw [h]
  show (evc ge cf c σ' st).bind _ = _
  congr 1; funext b st
  cases b <;> rfl
@[simp] theorem evl_comp (t : List Nat) (one : Bool) (it : CI) (c : CO) (e : CE) : evl ge cf (.comp t one it c e) σ st = (evi ge cf it σ st).bind fun w st => gd (w.1.length ≤ lineN) (lcL (lcStep ge cf t one c e σ) w.2 w.1 st) := rfl
@[simp] theorem evl_listOf (e : CE) : evl ge cf (.listOf e) σ st = (ev ge cf e σ st).bind fun x st => listR (items st x) st := rfl
@[simp] theorem evl_rep (es : CEs) (n : CE) : evl ge cf (.rep es n) σ st = (evs ge cf es σ st).bind fun xs st => gd (xs.length ≤ lineN) ((ev ge cf n σ st).bind fun y st => onI .err y fun k => gd (xs.length * k.toNat ≤ lineN ∧ 0 ≤ k ∧ k ≤ lineN) (.ok (reps xs k) st)) := rfl
@[simp] theorem evl_range1 (a : CE) : evl ge cf (.range1 a) σ st = (ev ge cf a σ st).bind fun x st => onI .err x fun i => gd (i ≤ lineN ∧ -(lineN : Int) ≤ i) (.ok (rng 0 i) st) := rfl
@[simp] theorem evl_range2 (a b : CE) : evl ge cf (.range2 a b) σ st = (ev ge cf a σ st).bind fun x st => (ev ge cf b σ st).bind fun y st => onI .err x fun i => onI .err y fun j => gd (i ≤ lineN ∧ -(lineN : Int) ≤ i ∧ j ≤ lineN ∧ -(lineN : Int) ≤ j ∧ j - i ≤ lineN) (.ok (rng i j) st) := by
  show ((ev ge cf a σ st).bind fun x st => (ev ge cf b σ st).bind fun y st => _) = _
  congr 1; funext x st; congr 1; funext y st
  cases x <;> cases y <;> rfl
@[simp] theorem evs_nil : evs ge cf .nil σ st = .ok [] st := rfl
@[simp] theorem evs_cons (e : CE) (es : CEs) : evs ge cf (.cons e es) σ st = (ev ge cf e σ st).bind fun x st => (evs ge cf es σ st).bind fun xs st => .ok (x :: xs) st := rfl
@[simp] theorem evo_none : evo ge cf .none σ st = .ok none st := rfl
@[simp] theorem evo_some (e : CE) : evo ge cf (.some e) σ st = (ev ge cf e σ st).bind fun x st => onI .err x fun i => .ok (some i) st := rfl
@[simp] theorem evc_none : evc ge cf .none σ st = .ok true st := rfl
@[simp] theorem evc_some (e : CE) : evc ge cf (.some e) σ st = (ev ge cf e σ st).bind fun x st => boolR x st := rfl
@[simp] theorem evi_of (e : CE) : evi ge cf (.of e) σ st = (ev ge cf e σ st).bind fun x st => walkD st x := rfl
@[simp] theorem evi_range1 (a : CE) : evi ge cf (.range1 a) σ st = (ev ge cf a σ st).bind fun x st => onI .err x fun i => gd (small62 i) (.ok (rng 0 i, []) st) := rfl
@[simp] theorem evi_range2 (a b : CE) : evi ge cf (.range2 a b) σ st = (ev ge cf a σ st).bind fun x st => (ev ge cf b σ st).bind fun y st => onI .err x fun i => onI .err y fun j => gd (small62 i ∧ small62 j) (.ok (rng i j, []) st) := by
  show ((ev ge cf a σ st).bind fun x st => (ev ge cf b σ st).bind fun y st => _) = _
  congr 1; funext x st; congr 1; funext y st
  cases x <;> cases y <;> rfl
@[simp] theorem evi_rrange2 (a b : CE) : evi ge cf (.rrange2 a b) σ st = (ev ge cf a σ st).bind fun x st => (ev ge cf b σ st).bind fun y st => onI .err x fun i => onI .err y fun j => gd (small62 i ∧ small62 j) (.ok ((rng i j).reverse, []) st) := by
  show ((ev ge cf a σ st).bind fun x st => (ev ge cf b σ st).bind fun y st => _) = _
  congr 1; funext x st; congr 1; funext y st
  cases x <;> cases y <;> rfl
/-- what enumerate and zip walk -/
def enumR (st : Store) (x : D) : Res (List D × Watch) := match deref st x with
  | .lst xs => .ok (enumD 0 xs, watch x xs) st
  | _ => .err
@[simp] theorem evi_enum (e : CE) : evi ge cf (.enum e) σ st = (ev ge cf e σ st).bind fun x st => enumR st x := rfl
def zipR (st : Store) (x y : D) : Res (List D × Watch) := match deref st x, deref st y with
  | .lst xs, .lst ys => .ok (zipD xs ys, watch x xs ++ watch y ys) st
  | _, _ => .err
@[simp] theorem evi_zip (a b : CE) : evi ge cf (.zip a b) σ st = (ev ge cf a σ st).bind fun x st => (ev ge cf b σ st).bind fun y st => zipR st x y := rfl
@[simp] theorem asgT_name (i : Nat) (d : D) : asgT ge cf (.name i) d σ st = .nx (σ.set i (some d)) st := rfl
@[simp] theorem asgT_names (is : List Nat) (d : D) : asgT ge cf (.names is) d σ st = asgN is (items st d) σ st := rfl
@[simp] theorem asgT_sub (o i : CE) (d : D) : asgT ge cf (.sub o i) d σ st = (ev ge cf o σ st).toS σ fun ov st => (ev ge cf i σ st).toS σ fun iv st => putR (setIx ov iv d st) σ := rfl
@[simp] theorem ex_asg (t : CT) (e : CE) : ex ge cf (.asg t e) σ st = (ev ge cf e σ st).toS σ fun d st => asgT ge cf t d σ st := rfl
@[simp] theorem ex_expr (e : CE) : ex ge cf (.expr e) σ st = (ev ge cf e σ st).toS σ fun _ st => .nx σ st := rfl
@[simp] theorem ex_ret (e : CE) : ex ge cf (.ret e) σ st = (ev ge cf e σ st).toS σ fun d st => .rt d st := rfl
@[simp] theorem ex_retN : ex ge cf .retN σ st = .rt .non st := rfl
@[simp] theorem ex_pass : ex ge cf .pass σ st = .nx σ st := rfl
@[simp] theorem ex_brk : ex ge cf .brk σ st = .bk σ st := rfl
@[simp] theorem ex_cont : ex ge cf .cont σ st = .ct σ st := rfl
@[simp] theorem ex_ifs (c : CE) (a b : CSs) : ex ge cf (.ifs c a b) σ st = (ev ge cf c σ st).toS σ fun x st => onB .err x (exs ge cf a σ st) (exs ge cf b σ st) := rfl
/-- one turn of a for -/
noncomputable def forStep (ge : GE) (cf : CF) (t : CT) (b : CSs) (x : D) (σ : Slots) (st : Store) : RS := match asgT ge cf t x σ st with
  | .nx σ st => exs ge cf b σ st
  | _ => .err
theorem forStep_eq {t : CT} {b : CSs} {x : D} {σ' : Slots} {st' : Store} (h : asgT ge cf t x σ st = .nx σ' st') : forStep ge cf t b x σ st = exs ge cf b σ' st' := by unfold forStep; rw [h]
@[simp] theorem ex_for (t : CT) (it : CI) (b : CSs) : ex ge cf (.for_ t it b) σ st = (evi ge cf it σ st).toS σ fun w st => forL (forStep ge cf t b) w.2 w.1 σ st := rfl
noncomputable def whR (ge : GE) (cf : CF) (c : CE) (b : CSs) (σ : Slots) (st : Store) : RS := wh (fun σ st => ev ge cf c σ st) (fun σ st => exs ge cf b σ st) σ st
@[simp] theorem ex_while (c : CE) (b : CSs) : ex ge cf (.while_ c b) σ st = whR ge cf c b σ st := rfl
/-- a while by an invariant with a measure -/
theorem whR_inv {c : CE} {b : CSs} {α : Type} (P : α → Slots × Store) (m : α → Nat) (R : RS) (hR : R ≠ .err)
    (step : ∀ a, (ev ge cf c (P a).1 (P a).2 = .ok (.bl false) (P a).2 ∧ RS.nx (P a).1 (P a).2 = R) ∨ (ev ge cf c (P a).1 (P a).2 = .ok (.bl true) (P a).2 ∧ ∃ a', m a' < m a ∧ exs ge cf b (P a).1 (P a).2 = .nx (P a').1 (P a').2)) (a : α) (h : P a = (σ, st)) : whR ge cf c b σ st = R := by
  have := wh_inv P m R hR step a
  rw [h] at this
  exact this
@[simp] theorem exs_nil : exs ge cf .nil σ st = .nx σ st := rfl
@[simp] theorem exs_cons (s : CS) (r : CSs) : exs ge cf (.cons s r) σ st = seqR (ex ge cf s σ st) fun σ st => exs ge cf r σ st := by
  show (match ex ge cf s σ st with | .nx σ st => exs ge cf r σ st | r => r) = _
  cases ex ge cf s σ st <;> rfl
end
/-! ### loops -/
/-- a for whose turns keep I -/
theorem forL_keep {step : D → Slots → Store → RS} (I : Slots → Store → Prop) : ∀ {xs : List D} {σ : Slots} {st : Store}, (∀ x ∈ xs, ∀ σ st, I σ st → ∃ σ' st', step x σ st = .nx σ' st' ∧ I σ' st') → I σ st → ∃ σ' st', forL step [] xs σ st = .nx σ' st' ∧ I σ' st'
  | [], σ, st, _, h => ⟨σ, st, by rw [forL, gw_nil], h⟩
  | x :: xs, σ, st, hs, h => by
    obtain ⟨σ1, st1, e1, h1⟩ := hs x List.mem_cons_self σ st h
    obtain ⟨σ2, st2, e2, h2⟩ := forL_keep (xs := xs) I (fun y hy => hs y (List.mem_cons_of_mem _ hy)) h1
    exact ⟨σ2, st2, by rw [forL, gw_nil, e1]; exact e2, h2⟩
/-- a for as a fold -/
theorem forL_fold {α : Type} {step : D → Slots → Store → RS} (S : α → Slots × Store) (g : α → D → α) : ∀ (xs : List D) (a : α), (∀ x ∈ xs, ∀ a, step x (S a).1 (S a).2 = .nx (S (g a x)).1 (S (g a x)).2) → forL step [] xs (S a).1 (S a).2 = .nx (S (xs.foldl g a)).1 (S (xs.foldl g a)).2
  | [], a, _ => by rw [forL, gw_nil]; rfl
  | x :: xs, a, h => by
    rw [forL, gw_nil, h x List.mem_cons_self]
    exact forL_fold S g xs (g a x) fun y hy => h y (List.mem_cons_of_mem _ hy)
theorem lcL_map {step : D → Store → Res (Option D)} {g : D → D} {st : Store} : ∀ {xs : List D}, (∀ x ∈ xs, step x st = .ok (some (g x)) st) → lcL step [] xs st = .ok (xs.map g) st
  | [], _ => by rw [lcL, gw_nil]; rfl
  | x :: xs, h => by
    rw [lcL, gw_nil, h x List.mem_cons_self, Res.bind_ok, lcL_map fun y hy => h y (List.mem_cons_of_mem _ hy)]; rfl
theorem lcL_filter {step : D → Store → Res (Option D)} {p : D → Bool} {g : D → D} {st : Store} : ∀ {xs : List D}, (∀ x ∈ xs, step x st = .ok (if p x = true then some (g x) else none) st) → lcL step [] xs st = .ok ((xs.filter p).map g) st
  | [], _ => by rw [lcL, gw_nil]; rfl
  | x :: xs, h => by
    rw [lcL, gw_nil, h x List.mem_cons_self, Res.bind_ok, lcL_filter (p := p) (g := g) fun y hy => h y (List.mem_cons_of_mem _ hy)]
    cases hp : p x
    · rw [List.filter_cons_of_neg (by rw [hp]; exact Bool.false_ne_true)]; rfl
    · rw [List.filter_cons_of_pos hp]; rfl
/-! ### small data -/
@[simp] theorem look0 (d : Option D) (σ : Slots) (st : Store) : lookS (d :: σ) 0 st = globR d st := by cases d <;> rfl
@[simp] theorem lookN (d : Option D) (σ : Slots) (i : Nat) (st : Store) : lookS (d :: σ) (i + 1) st = lookS σ i st := rfl
theorem shp_str {s : List Nat} (h : s.all (· < 128) = true) : shp (.str s) = true := by
  have h2 : s.toArray.all (fun c => decide (c < 0x110000)) = true := by
    rw [List.all_toArray, List.all_eq_true]
    intro c hc
    have := List.all_eq_true.mp h c hc
    simp only [decide_eq_true_eq] at this ⊢
    omega
  have h3 : (PyData.str ⟨s.toArray⟩).canLay0 = true := by unfold PyData.canLay0; exact h2
  show (true && ((PyData.str ⟨s.toArray⟩).canLay0 && decide ((PyData.str ⟨s.toArray⟩).depth ≤ 64))) = true
  rw [h3]
  simp [PyData.depth]
theorem absI_eq (i : Int) : absI i = (i.natAbs : Int) := by unfold absI; split <;> omega
theorem imod_nat (a b : Nat) : imod a b = ((a % b : Nat) : Int) := by
  unfold imod
  split
  · exact (Int.natCast_emod a b).symm
  · have : b = 0 := by omega
    subst this
    simp
theorem idiv_nat (a b : Nat) : idiv a b = ((a / b : Nat) : Int) := by
  unfold idiv
  split
  · exact (Int.natCast_ediv a b).symm
  · have : b = 0 := by omega
    subst this
    simp
@[simp] theorem shp_int (i : Int) : shp (.int i) = true := rfl
@[simp] theorem shp_bl (i : Bool) : shp (.bl i) = true := rfl
@[simp] theorem shp_non : shp .non = true := rfl
theorem smB {i : Int} (n : Nat) (h : i.natAbs < 2 ^ n) (hn : n ≤ 8000 := by decide) : Sm i := Nat.lt_of_lt_of_le h (Nat.pow_le_pow_right (by decide) hn)
theorem sm64 {i : Int} (h1 : -9223372036854775808 < i) (h2 : i < 9223372036854775808) : Sm i := smB 63 (by omega)
theorem imod_r {i j : Int} (h : 0 < j) : 0 ≤ imod i j ∧ imod i j < j := by
  rw [imod_pos h]
  exact ⟨Int.emod_nonneg _ (by omega), Int.emod_lt_of_pos _ h⟩
@[simp] theorem addD_ii (st : Store) (i j : Int) : addD st (.int i) (.int j) = .ok (.int (i + j)) st := rfl
@[simp] theorem derefB_int (st : Store) (i : Int) : derefB st (.int i) = .int i := rfl
@[simp] theorem derefB_str (st : Store) (i : List Nat) : derefB st (.str i) = .str i := rfl
@[simp] theorem derefB_tup (st : Store) (i : List D) : derefB st (.tup i) = .tup i := rfl
@[simp] theorem derefB_lst (st : Store) (i : List D) : derefB st (.lst i) = .lst i := rfl
@[simp] theorem deref_int (st : Store) (i : Int) : deref st (.int i) = .int i := rfl
@[simp] theorem deref_str (st : Store) (i : List Nat) : deref st (.str i) = .str i := rfl
@[simp] theorem deref_tup (st : Store) (i : List D) : deref st (.tup i) = .tup i := rfl
@[simp] theorem deref_lst (st : Store) (i : List D) : deref st (.lst i) = .lst i := rfl
@[simp] theorem deref_scr (st : Store) (i : List D) : deref st (.scr i) = .lst i := rfl
@[simp] theorem deref_non (st : Store) : deref st .non = .non := rfl
@[simp] theorem deref_bl (st : Store) (i : Bool) : deref st (.bl i) = .bl i := rfl
@[simp] theorem bin_add (x y : D) (st : Store) : binop .Add x y st = addD st (derefB st x) (derefB st y) := rfl
@[simp] theorem bin_sub (i j : Int) (st : Store) : binop .Sub (.int i) (.int j) st = .ok (.int (i - j)) st := rfl
theorem bin_mul {i j : Int} {st : Store} (h1 : Sm i) (h2 : Sm j) : binop .Mult (.int i) (.int j) st = .ok (.int (i * j)) st := gd_pos ⟨h1, h2⟩
theorem bin_div {i j : Int} {st : Store} (h1 : j ≠ 0) (h2 : Sm j) : binop .FloorDiv (.int i) (.int j) st = .ok (.int (idiv i j)) st := gd_pos ⟨h1, h2⟩
theorem bin_mod {i j : Int} {st : Store} (h1 : j ≠ 0) : binop .Mod (.int i) (.int j) st = .ok (.int (imod i j)) st := gd_pos h1
theorem bin_pow {i j : Int} {st : Store} (h : 0 ≤ j ∧ j ≤ 1000 ∧ i.natAbs < 2 ^ 64) : binop .Pow (.int i) (.int j) st = .ok (.int (i ^ j.toNat)) st := gd_pos h
@[simp] theorem cmp_lt (i j : Int) (st : Store) : cmpB .Lt (.int i) (.int j) st = .ok (decide (i < j)) st := rfl
@[simp] theorem cmp_le (i j : Int) (st : Store) : cmpB .LtE (.int i) (.int j) st = .ok (decide (i ≤ j)) st := rfl
@[simp] theorem cmp_gt (i j : Int) (st : Store) : cmpB .Gt (.int i) (.int j) st = .ok (decide (j < i)) st := rfl
@[simp] theorem cmp_ge (i j : Int) (st : Store) : cmpB .GtE (.int i) (.int j) st = .ok (decide (j ≤ i)) st := rfl
theorem cmp_eq {x y : D} {st : Store} (h1 : shp (deref st x) = true) (h2 : shp (deref st y) = true) : cmpB .Eq x y st = .ok (pyEq (deref st x) (deref st y)) st := gd_pos ⟨h1, h2⟩
theorem cmp_ne {x y : D} {st : Store} (h1 : shp (deref st x) = true) (h2 : shp (deref st y) = true) : cmpB .NotEq x y st = .ok (!pyEq (deref st x) (deref st y)) st := by
  show (eqD st x y).bind _ = _
  have : eqD st x y = .ok (pyEq (deref st x) (deref st y)) st := gd_pos ⟨h1, h2⟩
  rw [this]; rfl
@[simp] theorem cmp_eqI (i j : Int) (st : Store) : cmpB .Eq (.int i) (.int j) st = .ok (decide (i = j)) st := by
  rw [cmp_eq rfl rfl]
  show Res.ok (i == j) st = _
  rw [show (i == j) = decide (i = j) by rw [Bool.eq_iff_iff]; simp]
@[simp] theorem cmp_neI (i j : Int) (st : Store) : cmpB .NotEq (.int i) (.int j) st = .ok (!decide (i = j)) st := by
  rw [cmp_ne rfl rfl]
  show Res.ok (!(i == j)) st = _
  rw [show (i == j) = decide (i = j) by rw [Bool.eq_iff_iff]; simp]
@[simp] theorem pyEq_ii (i j : Int) : pyEq (.int i) (.int j) = decide (i = j) := by
  show (i == j) = _
  rw [Bool.eq_iff_iff]; simp
@[simp] theorem cmp_isN (x : D) (st : Store) : cmpB .Is x .non st = .ok (match x with | .non => true | _ => false) st := rfl
@[simp] theorem cmp_isnN (x : D) (st : Store) : cmpB .IsNot x .non st = .ok (!(match x with | .non => true | _ => false)) st := rfl
@[simp] theorem cmp_isB (c b : Bool) (st : Store) : cmpB .Is (.bl c) (.bl b) st = .ok (c == b) st := rfl
@[simp] theorem cmp_isnB (c b : Bool) (st : Store) : cmpB .IsNot (.bl c) (.bl b) st = .ok (!(c == b)) st := rfl
@[simp] theorem idx_lst (xs : List D) (i : Int) (st : Store) : idxD st (.lst xs) (.int i) = globR (L2.atI xs i) st := by
  show (match L2.atI xs i with | some d => Res.ok d st | none => .err) = _
  cases L2.atI xs i <;> rfl
@[simp] theorem idx_scr (xs : List D) (i : Int) (st : Store) : idxD st (.scr xs) (.int i) = globR (L2.atI xs i) st := by
  show (match L2.atI xs i with | some d => Res.ok d st | none => .err) = _
  cases L2.atI xs i <;> rfl
@[simp] theorem idx_tup (xs : List D) (i : Int) (st : Store) : idxD st (.tup xs) (.int i) = globR (L2.atI xs i) st := by
  show (match L2.atI xs i with | some d => Res.ok d st | none => .err) = _
  cases L2.atI xs i <;> rfl
theorem atI_nat {α : Type} {xs : List α} {n : Nat} (h : n < xs.length) : L2.atI xs (n : Int) = xs[n]? := by
  unfold L2.atI L2.ixN
  rw [if_pos (by omega), if_pos (by omega)]
  simp
theorem atI_0 {α : Type} {x : α} {xs : List α} : L2.atI (x :: xs) 0 = some x := atI_nat (n := 0) (by simp)
theorem atI_1 {α : Type} {x y : α} {xs : List α} : L2.atI (x :: y :: xs) 1 = some y := atI_nat (n := 1) (by simp)
theorem atI_2 {α : Type} {x y z : α} {xs : List α} : L2.atI (x :: y :: z :: xs) 2 = some z := atI_nat (n := 2) (by simp)
@[simp] theorem blt_1 (b : Blt) (d : D) (st : Store) : blt b [d] st = blt1 b d st := rfl
@[simp] theorem blt_2 (b : Blt) (d e : D) (st : Store) : blt b [d, e] st = blt2 b d e st := rfl
@[simp] theorem len_lst (xs : List D) (st : Store) : blt1 .len (.lst xs) st = .ok (.int xs.length) st := rfl
@[simp] theorem len_scr (xs : List D) (st : Store) : blt1 .len (.scr xs) st = .ok (.int xs.length) st := rfl
@[simp] theorem len_tup (xs : List D) (st : Store) : blt1 .len (.tup xs) st = .ok (.int xs.length) st := rfl
theorem len_str {xs : List Nat} {st : Store} (h : xs.length ≤ lineN) : blt1 .len (.str xs) st = .ok (.int xs.length) st := gd_pos h
@[simp] theorem abs_i (i : Int) (st : Store) : blt1 .abs (.int i) st = .ok (.int (i.natAbs : Int)) st := by
  show Res.ok (D.int (absI i)) st = _
  rw [absI_eq]
@[simp] theorem cmp_eqB (a b : Bool) (st : Store) : cmpB .Eq (.bl a) (.bl b) st = .ok (a == b) st := by
  rw [cmp_eq (x := .bl a) (y := .bl b) rfl rfl]; rfl
@[simp] theorem walk_str (s : List Nat) (st : Store) : walkD st (.str s) = .ok (s.map fun c => .str [c], []) st := rfl
@[simp] theorem walk_lst (s : List D) (st : Store) : walkD st (.lst s) = .ok (s, []) st := rfl
@[simp] theorem walk_tup (s : List D) (st : Store) : walkD st (.tup s) = .ok (s, []) st := rfl
@[simp] theorem walk_scr (s : List D) (st : Store) : walkD st (.scr s) = .ok (s, []) st := rfl
@[simp] theorem enum_lst (s : List D) (st : Store) : enumR st (.lst s) = .ok (enumD 0 s, []) st := rfl
@[simp] theorem zip_lst (s t : List D) (st : Store) : zipR st (.lst s) (.lst t) = .ok (zipD s t, []) st := rfl
theorem cmp_eqS {a b : List Nat} {st : Store} (ha : a.all (· < 128) = true) (hb : b.all (· < 128) = true) : cmpB .Eq (.str a) (.str b) st = .ok (decide (a = b)) st := by
  rw [cmp_eq (x := .str a) (y := .str b) (shp_str ha) (shp_str hb)]
  show Res.ok (a == b) st = _
  rw [show (a == b) = decide (a = b) by rw [Bool.eq_iff_iff]; simp]
theorem cmp_neS {a b : List Nat} {st : Store} (ha : a.all (· < 128) = true) (hb : b.all (· < 128) = true) : cmpB .NotEq (.str a) (.str b) st = .ok (!decide (a = b)) st := by
  rw [cmp_ne (x := .str a) (y := .str b) (shp_str ha) (shp_str hb)]
  show Res.ok (!(a == b)) st = _
  rw [show (a == b) = decide (a = b) by rw [Bool.eq_iff_iff]; simp]
theorem toBools_map {α : Type} (g : α → Bool) : ∀ xs : List α, toBools (xs.map fun c => D.bl (g c)) = some (xs.map g)
  | [] => rfl
  | x :: xs => by
    rw [List.map_cons, toBools, toBools_map g xs]; rfl
theorem idx_str {s : List Nat} {c : Nat} {st : Store} (h : s[0]? = some c) (hl : s.length ≤ lineN) : idxD st (.str s) (.int 0) = .ok (.str [c]) st := by
  show gd (s.length ≤ lineN ∧ (0 : Int) ≤ 0) (match s[(0 : Int).toNat]? with | some c => Res.ok (D.str [c]) st | none => .err) = _
  rw [gd_pos ⟨hl, Int.le_refl _⟩]
  show (match s[0]? with | some c => Res.ok (D.str [c]) st | none => .err) = _
  rw [h]
theorem pyEq_ss (a b : List Nat) : pyEq (.str a) (.str b) = decide (a = b) := by
  show (a == b) = _
  rw [Bool.eq_iff_iff]; simp
theorem sub_dig (c : Nat) : subS [c] [48, 49, 50, 51, 52, 53, 54, 55, 56, 57] = isDig c := by
  have h := SX.in_one [48, 49, 50, 51, 52, 53, 54, 55, 56, 57] c
  have e : subS [c] [48, 49, 50, 51, 52, 53, 54, 55, 56, 57] = decide (c ∈ [48, 49, 50, 51, 52, 53, 54, 55, 56, 57]) := h
  rw [e]
  unfold isDig
  rw [Bool.eq_iff_iff]
  simp
  omega
@[simp] theorem inS (a b : List Nat) (st : Store) : cmpB .In (.str a) (.str b) st = .ok (subS a b) st := rfl
@[simp] theorem ninS (a b : List Nat) (st : Store) : cmpB .NotIn (.str a) (.str b) st = .ok (!subS a b) st := rfl
theorem all_bools {bs : List Bool} {xs : List D} {st : Store} (h : toBools xs = some bs) : blt1 .all (.lst xs) st = .ok (.bl (bs.all id)) st := by
  show (match toBools xs with | some bs => Res.ok (D.bl (bs.all id)) st | none => .err) = _
  rw [h]
theorem int_str {s : List Nat} {st : Store} (h : s.length ≠ 0 ∧ s.length ≤ 640 ∧ s.all isDig = true) : blt1 .int (.str s) st = .ok (.int (digV s)) st := gd_pos h
@[simp] theorem gd_true {α : Type} {i : Decidable True} {r : Res α} : @gd α True i r = r := by
  unfold gd
  rw [if_pos trivial]
theorem atI_ints {is : List Int} {i : Int} (h0 : 0 ≤ i) (h1 : i < is.length) : ∃ a ∈ is, L2.atI (is.map D.int) i = some (.int a) := by
  obtain ⟨n, rfl⟩ := Int.eq_ofNat_of_zero_le h0
  have hn : n < is.length := by omega
  refine ⟨is[n], List.getElem_mem hn, ?_⟩
  rw [atI_nat (by rw [List.length_map]; exact hn), List.getElem?_map, List.getElem?_eq_getElem hn]; rfl
theorem atI_strs {is : List (List Nat)} {i : Int} (h0 : 0 ≤ i) (h1 : i < is.length) : ∃ a ∈ is, L2.atI (is.map D.str) i = some (.str a) := by
  obtain ⟨n, rfl⟩ := Int.eq_ofNat_of_zero_le h0
  have hn : n < is.length := by omega
  refine ⟨is[n], List.getElem_mem hn, ?_⟩
  rw [atI_nat (by rw [List.length_map]; exact hn), List.getElem?_map, List.getElem?_eq_getElem hn]; rfl
theorem gd_if {α : Type} {p : Prop} [Decidable p] {r : Res α} : gd p r = if p then r else .err := rfl
end PC
end
section
set_option Elab.async false
set_option linter.all false
set_option autoImplicit false
set_option maxRecDepth 100000
set_option maxHeartbeats 1000000
/-! More words for pure proofs: what may be compared; texts. -/
namespace PC
open PySem
abbrev asc (s : List Nat) : Prop := s.all (· < 128) = true
/-- plain data of depth n at most -/
def shN (n : Nat) (d : D) : Prop := plain d = true ∧ (toPy d).canLay0 = true ∧ (toPy d).depth ≤ n
theorem shN.shp {n : Nat} {d : D} (h : shN n d) (hn : n ≤ 64 := by decide) : shp d = true := by
  obtain ⟨h1, h2, h3⟩ := h
  show (plain d && ((toPy d).canLay0 && decide ((toPy d).depth ≤ 64))) = true
  rw [h1, h2, decide_eq_true (Nat.le_trans h3 hn)]; rfl
theorem shN.mono {m n : Nat} {d : D} (h : shN m d) (hm : m ≤ n) : shN n d := ⟨h.1, h.2.1, Nat.le_trans h.2.2 hm⟩
theorem shN_int {n : Nat} (i : Int) : shN n (.int i) := ⟨rfl, by simp [toPy, PyData.canLay0], by simp [toPy, PyData.depth]⟩
theorem shN_bl {n : Nat} (i : Bool) : shN n (.bl i) := ⟨rfl, by simp [toPy, PyData.canLay0], by simp [toPy, PyData.depth]⟩
theorem shN_non {n : Nat} : shN n .non := ⟨rfl, by simp [toPy, PyData.canLay0], by simp [toPy, PyData.depth]⟩
theorem shN_str {n : Nat} {s : List Nat} (h : asc s) : shN n (.str s) := by
  have q := shp_str h
  have q : (plain (.str s) && ((toPy (.str s)).canLay0 && decide ((toPy (.str s)).depth ≤ 64))) = true := q
  simp only [Bool.and_eq_true] at q
  exact ⟨q.1, q.2.1, by simp [toPy, PyData.depth]⟩
theorem shN_all {n : Nat} : ∀ {ds : List D}, (∀ d ∈ ds, shN n d) → plains ds = true ∧ PyData.canLayAll0 (toPys ds) = true ∧ PyData.depthAll (toPys ds) ≤ n
  | [], _ => ⟨rfl, by simp [toPys, PyData.canLayAll0], by simp [toPys, PyData.depthAll]⟩
  | d :: ds, h => by
    obtain ⟨a1, a2, a3⟩ := h d List.mem_cons_self
    obtain ⟨b1, b2, b3⟩ := shN_all (ds := ds) fun x hx => h x (List.mem_cons_of_mem _ hx)
    refine ⟨by show (plain d && plains ds) = true; rw [a1, b1]; rfl, ?_, ?_⟩
    · rw [toPys, PyData.canLayAll0, a2, b2]; rfl
    · rw [toPys, PyData.depthAll]; omega
theorem shN_lst {n : Nat} {ds : List D} (h : ∀ d ∈ ds, shN n d) : shN (n + 1) (.lst ds) := by
  obtain ⟨h1, h2, h3⟩ := shN_all h
  refine ⟨h1, ?_, ?_⟩
  · rw [toPy, PyData.canLay0]; exact h2
  · rw [toPy, PyData.depth]; omega
theorem shN_tup {n : Nat} {ds : List D} (h : ∀ d ∈ ds, shN n d) : shN (n + 1) (.tup ds) := by
  obtain ⟨h1, h2, h3⟩ := shN_all h
  refine ⟨h1, ?_, ?_⟩
  · rw [toPy, PyData.canLay0]; exact h2
  · rw [toPy, PyData.depth]; omega
theorem asc_append {a b : List Nat} (ha : asc a) (hb : asc b) : asc (a ++ b) := by
  unfold asc at *
  rw [List.all_append, ha, hb]; rfl
theorem asc_sub {a b : List Nat} (hb : asc b) (h : ∀ c ∈ a, c ∈ b) : asc a := by
  unfold asc at *
  rw [List.all_eq_true] at *
  exact fun c hc => hb c (h c hc)
theorem strI_nat (n : Nat) : strI (n : Int) = TL.numL n := TL.tl_num n
theorem numL_dig (n : Nat) : (TL.numL n).all isDig = true := by
  rw [List.all_eq_true]
  intro c hc
  have h := TL.numL_digits n c hc
  unfold isDig
  simp
  exact h
theorem dig_asc {s : List Nat} (h : s.all isDig = true) : asc s := by
  unfold asc
  rw [List.all_eq_true] at *
  intro c hc
  have := h c hc
  unfold isDig at this
  simp at this ⊢
  omega
theorem str_int {i : Int} {st : Store} (h : i.natAbs < 2 ^ 1900) : blt1 .str (.int i) st = .ok (.str (strI i)) st := gd_pos h
theorem str_small {i : Int} {st : Store} (h0 : 0 ≤ i) (h : i < 9223372036854775808) : blt1 .str (.int i) st = .ok (.str (TL.numL i.toNat)) st := by
  rw [str_int (Nat.lt_of_lt_of_le (show i.natAbs < 2 ^ 63 by omega) (Nat.pow_le_pow_right (by decide) (by decide)))]
  obtain ⟨n, rfl⟩ := Int.eq_ofNat_of_zero_le h0
  rw [strI_nat]; rfl
theorem add_str {a b : List Nat} {st : Store} (h : a.length + b.length ≤ lineN) : addD st (.str a) (.str b) = .ok (.str (a ++ b)) st := gd_pos h
theorem cut_sub {α : Type} (xs : List α) (lo hi : Option Int) : ∀ c ∈ cut xs lo hi, c ∈ xs := fun c hc => List.mem_of_mem_drop (List.mem_of_mem_take hc)
theorem cut_len {α : Type} (xs : List α) (lo hi : Option Int) : (cut xs lo hi).length ≤ xs.length := by
  unfold cut
  rw [List.length_take, List.length_drop]
  omega
theorem slice_str {s : List Nat} {lo hi : Option Int} {st : Store} (h : s.length ≤ lineN) : sliceD st (.str s) lo hi = .ok (.str (cut s lo hi)) st := gd_pos h
@[simp] theorem slice_lst (s : List D) (lo hi : Option Int) (st : Store) : sliceD st (.lst s) lo hi = .ok (.lst (cut s lo hi)) st := rfl
@[simp] theorem slice_scr (s : List D) (lo hi : Option Int) (st : Store) : sliceD st (.scr s) lo hi = .ok (.lst (cut s lo hi)) st := rfl
@[simp] theorem slice_tup (s : List D) (lo hi : Option Int) (st : Store) : sliceD st (.tup s) lo hi = .ok (.tup (cut s lo hi)) st := rfl
theorem mul_str {a : List Nat} {n : Int} {st : Store} (h : a.length * n.toNat ≤ lineN ∧ 0 ≤ n ∧ n ≤ lineN) : binop .Mult (.str a) (.int n) st = .ok (.str (reps a n)) st := gd_pos h
theorem reps_len {α : Type} (xs : List α) (n : Int) : (reps xs n).length = xs.length * n.toNat := by
  unfold reps
  generalize n.toNat = m
  induction m with
  | zero => simp
  | succ m ih => rw [List.replicate_succ, List.flatten_cons, List.length_append, ih, Nat.mul_succ]; omega
theorem reps_sub {α : Type} (xs : List α) (n : Int) : ∀ c ∈ reps xs n, c ∈ xs := fun c hc => by
  unfold reps at hc
  obtain ⟨l, h1, h2⟩ := List.mem_flatten.mp hc
  rw [List.eq_of_mem_replicate h1] at h2
  exact h2
theorem par_len : ∀ (S acc s : List Nat) (p : List Nat × List Nat), TL.par S acc s = some p → p.1.length + p.2.length ≤ acc.length + s.length ∧ (∀ c ∈ p.1, c ∈ acc ∨ c ∈ s) ∧ ∀ c ∈ p.2, c ∈ s
  | S, acc, [], p, h => by cases h
  | S, acc, c :: r, p, h => by
    rw [TL.par] at h
    split at h
    · cases h
      refine ⟨?_, fun c hc => .inl hc, fun c hc => List.mem_of_mem_drop hc⟩
      simp only [List.length_drop]
      omega
    · obtain ⟨h1, h2, h3⟩ := par_len S (acc ++ [c]) r p h
      refine ⟨by rw [List.length_append] at h1; simp at h1 ⊢; omega, fun d hd => ?_, fun d hd => List.mem_cons_of_mem _ (h3 d hd)⟩
      rcases h2 d hd with h | h
      · rcases List.mem_append.mp h with h | h
        · exact .inl h
        · rw [List.mem_singleton.mp h]; exact .inr List.mem_cons_self
      · exact .inr (List.mem_cons_of_mem _ h)
/-- a text's parts -/
def parts (sep s : List Nat) : List Nat × List Nat × List Nat := match TL.par sep [] s with
  | some p => (p.1, sep, p.2)
  | none => (s, [], [])
theorem part_str {s sep : List Nat} {st : Store} (h : s.length ≤ lineN ∧ sep.length ≠ 0) : mth .partition (.str s) [.str sep] st = .ok (.tup [.str (parts sep s).1, .str (parts sep s).2.1, .str (parts sep s).2.2]) st := by
  show gd (s.length ≤ lineN ∧ sep.length ≠ 0) (match TL.par sep [] s with
      | some p => Res.ok (D.tup [.str p.1, .str sep, .str p.2]) st
      | none => Res.ok (D.tup [.str s, .str [], .str []]) st) = _
  rw [gd_pos h]
  unfold parts
  cases TL.par sep [] s <;> rfl
theorem parts_ok {sep s : List Nat} : (parts sep s).1.length ≤ s.length ∧ (parts sep s).2.2.length ≤ s.length ∧ (∀ c ∈ (parts sep s).1, c ∈ s) ∧ (∀ c ∈ (parts sep s).2.2, c ∈ s) ∧ ((parts sep s).2.1 = sep ∨ (parts sep s).2.1 = []) := by
  unfold parts
  cases e : TL.par sep [] s with
  | none => exact ⟨Nat.le_refl _, Nat.zero_le _, fun _ h => h, fun _ h => (List.not_mem_nil h).elim, .inr rfl⟩
  | some p =>
    obtain ⟨h1, h2, h3⟩ := par_len sep [] s p e
    simp only [List.length_nil] at h1
    refine ⟨by simp only; omega, by simp only; omega, fun c hc => ?_, h3, .inl rfl⟩
    rcases h2 c hc with h | h
    · exact (List.not_mem_nil h).elim
    · exact h
@[simp] theorem mOk_str (s : List Nat) (st : Store) : mOk .partition (.str s) st = true := rfl
end PC
end
section
set_option Elab.async false
set_option linter.all false
set_option maxRecDepth 100000
set_option maxHeartbeats 4000000
namespace K01
open PC PySem L2 PyProof.Rows
def top (i : Nat) : Stmt := PySem.Challenge.pw_faultwood_k01_shares.main.body.getD i (.Pass ⟨0, 0, 0, 0⟩)
def f_is_whole : Fn := ⟨1, 1, false, (.cons (.ret (.and (.isI (.var 0) .int) (.not (.isI (.var 0) .bool)))) .nil)⟩
def d_is_whole : DR := ⟨"is_whole", top 3, ["thing"], ["thing"], f_is_whole⟩
def f_common : Fn := ⟨2, 2, false, (.cons (.asg (.name 0) (.blt .abs (.cons (.var 0) .nil))) (.cons (.asg (.name 1) (.blt .abs (.cons (.var 1) .nil))) (.cons (.while_ (.cmp .Gt (.var 1) (.int 0)) (.cons (.asg (.names [0, 1]) (.tup (.cons (.var 1) (.cons (.bin .Mod (.var 0) (.var 1)) .nil)))) .nil)) (.cons (.ret (.var 0)) .nil))))⟩
def d_common : DR := ⟨"common", top 4, ["one", "other"], ["one", "other"], f_common⟩
def f_is_share : Fn := ⟨1, 1, false, (.cons (.ifs (.or (.not (.isI (.var 0) .tuple)) (.or (.cmp .NotEq (.blt .len (.cons (.var 0) .nil)) (.int 2)) (.or (.not (.call "is_whole" (.cons (.idx (.var 0) (.int 0)) .nil))) (.not (.call "is_whole" (.cons (.idx (.var 0) (.int 1)) .nil)))))) (.cons (.ret (.bl false)) .nil) .nil) (.cons (.ret (.and (.cmp .Gt (.idx (.var 0) (.int 1)) (.int 0)) (.cmp .Eq (.call "common" (.cons (.idx (.var 0) (.int 0)) (.cons (.idx (.var 0) (.int 1)) .nil))) (.int 1)))) .nil))⟩
def d_is_share : DR := ⟨"is_share", top 5, ["thing"], ["thing"], f_is_share⟩
def f_share : Fn := ⟨2, 3, false, (.cons (.asg (.name 2) (.call "common" (.cons (.var 0) (.cons (.var 1) .nil)))) (.cons (.ifs (.cmp .Lt (.var 1) (.int 0)) (.cons (.asg (.name 2) (.bin .Sub (.int 0) (.var 2))) .nil) .nil) (.cons (.ret (.tup (.cons (.bin .FloorDiv (.var 0) (.var 2)) (.cons (.bin .FloorDiv (.var 1) (.var 2)) .nil)))) .nil)))⟩
def d_share : DR := ⟨"share", top 6, ["number", "parts"], ["number", "parts", "least"], f_share⟩
def f_plus : Fn := ⟨2, 2, false, (.cons (.ret (.call "share" (.cons (.bin .Add (.bin .Mult (.idx (.var 0) (.int 0)) (.idx (.var 1) (.int 1))) (.bin .Mult (.idx (.var 1) (.int 0)) (.idx (.var 0) (.int 1)))) (.cons (.bin .Mult (.idx (.var 0) (.int 1)) (.idx (.var 1) (.int 1))) .nil)))) .nil)⟩
def d_plus : DR := ⟨"plus", top 7, ["one", "other"], ["one", "other"], f_plus⟩
def f_minus : Fn := ⟨2, 2, false, (.cons (.ret (.call "share" (.cons (.bin .Sub (.bin .Mult (.idx (.var 0) (.int 0)) (.idx (.var 1) (.int 1))) (.bin .Mult (.idx (.var 1) (.int 0)) (.idx (.var 0) (.int 1)))) (.cons (.bin .Mult (.idx (.var 0) (.int 1)) (.idx (.var 1) (.int 1))) .nil)))) .nil)⟩
def d_minus : DR := ⟨"minus", top 8, ["one", "other"], ["one", "other"], f_minus⟩
def f_times : Fn := ⟨2, 2, false, (.cons (.ret (.call "share" (.cons (.bin .Mult (.idx (.var 0) (.int 0)) (.idx (.var 1) (.int 0))) (.cons (.bin .Mult (.idx (.var 0) (.int 1)) (.idx (.var 1) (.int 1))) .nil)))) .nil)⟩
def d_times : DR := ⟨"times", top 9, ["one", "other"], ["one", "other"], f_times⟩
def f_over : Fn := ⟨2, 2, false, (.cons (.ret (.call "share" (.cons (.bin .Mult (.idx (.var 0) (.int 0)) (.idx (.var 1) (.int 1))) (.cons (.bin .Mult (.idx (.var 0) (.int 1)) (.idx (.var 1) (.int 0))) .nil)))) .nil)⟩
def d_over : DR := ⟨"over", top 10, ["one", "other"], ["one", "other"], f_over⟩
def f_less : Fn := ⟨2, 2, false, (.cons (.ret (.cmp .Lt (.bin .Mult (.idx (.var 0) (.int 0)) (.idx (.var 1) (.int 1))) (.bin .Mult (.idx (.var 1) (.int 0)) (.idx (.var 0) (.int 1))))) .nil)⟩
def d_less : DR := ⟨"less", top 11, ["one", "other"], ["one", "other"], f_less⟩
def f_share_text : Fn := ⟨1, 1, false, (.cons (.ret (.bin .Add (.bin .Add (.blt .str (.cons (.idx (.var 0) (.int 0)) .nil)) (.str [47])) (.blt .str (.cons (.idx (.var 0) (.int 1)) .nil)))) .nil)⟩
def d_share_text : DR := ⟨"share_text", top 12, ["one"], ["one"], f_share_text⟩
def f_figures_in : Fn := ⟨1, 2, false, (.cons (.ifs (.or (.not (.chain .LtE .LtE (.int 1) (.blt .len (.cons (.var 0) .nil)) (.glob "MOST_FIGURES"))) (.not (.blt .all (.cons (.new (.comp [1] true (.of (.var 0)) .none (.cmp .In (.var 1) (.glob "FIGURES")))) .nil)))) (.cons (.ret .non) .nil) .nil) (.cons (.ifs (.and (.cmp .Eq (.idx (.var 0) (.int 0)) (.str [48])) (.cmp .NotEq (.var 0) (.str [48]))) (.cons (.ret .non) .nil) .nil) (.cons (.ret (.blt .int (.cons (.var 0) .nil))) .nil)))⟩
def d_figures_in : DR := ⟨"figures_in", top 13, ["text"], ["text", "sign"], f_figures_in⟩
def f_share_in : Fn := ⟨1, 6, false, (.cons (.ifs (.not (.isI (.var 0) .str)) (.cons (.ret .non) .nil) .nil) (.cons (.asg (.names [1, 2, 3]) (.mth .partition (.var 0) (.cons (.str [47]) .nil))) (.cons (.asg (.name 4) (.call "figures_in" (.cons (.var 1) .nil))) (.cons (.asg (.name 5) (.call "figures_in" (.cons (.var 3) .nil))) (.cons (.ifs (.or (.cmp .Eq (.var 2) (.str [])) (.or (.cmp .Is (.var 4) .non) (.or (.cmp .Is (.var 5) .non) (.cmp .Eq (.var 5) (.int 0))))) (.cons (.ret .non) .nil) .nil) (.cons (.ret (.call "share" (.cons (.var 4) (.cons (.var 5) .nil)))) .nil))))))⟩
def d_share_in : DR := ⟨"share_in", top 14, ["text"], ["text", "above", "sign", "beneath", "number", "parts"], f_share_in⟩
def f__law_mixed : Fn := ⟨2, 3, false, (.cons (.asg (.name 2) (.bin .Mod (.bin .Mult (.bin .Add (.bin .Add (.bin .Mod (.var 0) (.int 1000000007)) (.bin .Mult (.bin .Mult (.int 31) (.var 1)) (.var 1))) (.int 7)) (.int 48271)) (.int 2147483647))) (.cons (.ret (.bin .Mod (.bin .Mult (.var 2) (.bin .Add (.int 16807) (.bin .Mult (.int 7919) (.var 1)))) (.int 2147483629))) .nil))⟩
def d__law_mixed : DR := ⟨"_law_mixed", top 16, ["_law_cell", "_law_k"], ["_law_cell", "_law_k", "_law_number"], f__law_mixed⟩
def f__law_pair : Fn := ⟨1, 3, false, (.cons (.asg (.name 1) (.idx (.new (.disp (.cons (.int 0) (.cons (.int 1) (.cons (.bin .Mod (.bin .FloorDiv (.var 0) (.int 5)) (.int 30)) (.cons (.bin .Mod (.bin .Mult (.var 0) (.int 48271)) (.bin .Pow (.int 10) (.int 12))) (.cons (.bin .Mult (.bin .Mod (.bin .FloorDiv (.var 0) (.int 5)) (.int 12)) (.int 840)) .nil))))))) (.bin .Mod (.var 0) (.int 5)))) (.cons (.asg (.name 2) (.idx (.new (.disp (.cons (.int 1) (.cons (.int 2) (.cons (.bin .Add (.int 1) (.bin .Mod (.bin .FloorDiv (.var 0) (.int 35)) (.int 30))) (.cons (.bin .Add (.int 1) (.bin .Mod (.bin .Mult (.var 0) (.int 16807)) (.bin .Pow (.int 10) (.int 12)))) (.cons (.int 840) .nil))))))) (.bin .Mod (.bin .FloorDiv (.var 0) (.int 7)) (.int 5)))) (.cons (.ifs (.cmp .Eq (.bin .Mod (.bin .FloorDiv (.var 0) (.int 900)) (.int 3)) (.int 1)) (.cons (.asg (.name 1) (.bin .Sub (.int 0) (.var 1))) .nil) .nil) (.cons (.ret (.tup (.cons (.var 1) (.cons (.idx (.new (.disp (.cons (.var 2) (.cons (.bin .Sub (.int 0) (.var 2)) .nil)))) (.bin .FloorDiv (.bin .Mod (.bin .FloorDiv (.var 0) (.int 2700)) (.int 5)) (.int 4))) .nil)))) .nil))))⟩
def d__law_pair : DR := ⟨"_law_pair", top 17, ["_law_number"], ["_law_number", "_law_one", "_law_other"], f__law_pair⟩
def f__law_divides : Fn := ⟨2, 4, false, (.cons (.asg (.names [2, 3]) (.blt .sorted (.cons (.new (.disp (.cons (.blt .abs (.cons (.var 0) .nil)) (.cons (.blt .abs (.cons (.var 1) .nil)) .nil)))) .nil))) (.cons (.while_ (.cmp .Gt (.var 2) (.int 0)) (.cons (.asg (.names [2, 3]) (.blt .sorted (.cons (.new (.disp (.cons (.var 2) (.cons (.bin .Sub (.var 3) (.bin .Mult (.bin .FloorDiv (.var 3) (.var 2)) (.var 2))) .nil)))) .nil))) .nil)) (.cons (.ret (.var 3)) .nil)))⟩
def d__law_divides : DR := ⟨"_law_divides", top 18, ["_law_one", "_law_other"], ["_law_one", "_law_other", "_law_small", "_law_great"], f__law_divides⟩
def f__law_least : Fn := ⟨2, 3, false, (.cons (.ifs (.cmp .Lt (.var 1) (.int 0)) (.cons (.asg (.names [0, 1]) (.tup (.cons (.bin .Sub (.int 0) (.var 0)) (.cons (.bin .Sub (.int 0) (.var 1)) .nil)))) .nil) .nil) (.cons (.asg (.name 2) (.call "_law_divides" (.cons (.var 0) (.cons (.var 1) .nil)))) (.cons (.ret (.tup (.cons (.bin .FloorDiv (.var 0) (.var 2)) (.cons (.bin .FloorDiv (.var 1) (.var 2)) .nil)))) .nil)))⟩
def d__law_least : DR := ⟨"_law_least", top 19, ["_law_one", "_law_other"], ["_law_one", "_law_other", "_law_more"], f__law_least⟩
def f__law_is : Fn := ⟨2, 2, false, (.cons (.ifs (.or (.not (.isI (.var 0) .tuple)) (.cmp .NotEq (.var 0) (.var 1))) (.cons (.ret (.bl false)) .nil) .nil) (.cons (.ret (.and (.not (.isI (.idx (.var 0) (.int 0)) .bool)) (.not (.isI (.idx (.var 0) (.int 1)) .bool)))) .nil))⟩
def d__law_is : DR := ⟨"_law_is", top 20, ["_law_found", "_law_due"], ["_law_found", "_law_due"], f__law_is⟩
def f__law_right : Fn := ⟨2, 8, false, (.cons (.asg (.names [2, 3]) (.tup (.cons (.call "_law_least" (.cons (.idx (.var 0) (.int 0)) (.cons (.idx (.var 0) (.int 1)) .nil))) (.cons (.call "_law_least" (.cons (.idx (.var 1) (.int 0)) (.cons (.idx (.var 1) (.int 1)) .nil))) .nil)))) (.cons (.ifs (.or (.not (.call "_law_is" (.cons (.call "share" (.cons (.idx (.var 0) (.int 0)) (.cons (.idx (.var 0) (.int 1)) .nil))) (.cons (.var 2) .nil)))) (.cmp .IsNot (.call "is_share" (.cons (.var 2) .nil)) (.bl true))) (.cons (.ret (.bl false)) .nil) .nil) (.cons (.asg (.names [4, 5]) (.tup (.cons (.bin .Mult (.idx (.var 2) (.int 0)) (.idx (.var 3) (.int 1))) (.cons (.bin .Mult (.idx (.var 3) (.int 0)) (.idx (.var 2) (.int 1))) .nil)))) (.cons (.asg (.name 6) (.bin .Mult (.idx (.var 2) (.int 1)) (.idx (.var 3) (.int 1)))) (.cons (.ifs (.not (.call "_law_is" (.cons (.call "plus" (.cons (.var 2) (.cons (.var 3) .nil))) (.cons (.call "_law_least" (.cons (.bin .Add (.var 4) (.var 5)) (.cons (.var 6) .nil))) .nil)))) (.cons (.ret (.bl false)) .nil) .nil) (.cons (.ifs (.not (.call "_law_is" (.cons (.call "minus" (.cons (.var 2) (.cons (.var 3) .nil))) (.cons (.call "_law_least" (.cons (.bin .Sub (.var 4) (.var 5)) (.cons (.var 6) .nil))) .nil)))) (.cons (.ret (.bl false)) .nil) .nil) (.cons (.ifs (.not (.call "_law_is" (.cons (.call "times" (.cons (.var 2) (.cons (.var 3) .nil))) (.cons (.call "_law_least" (.cons (.bin .Mult (.idx (.var 2) (.int 0)) (.idx (.var 3) (.int 0))) (.cons (.var 6) .nil))) .nil)))) (.cons (.ret (.bl false)) .nil) .nil) (.cons (.ifs (.and (.cmp .NotEq (.idx (.var 3) (.int 0)) (.int 0)) (.not (.call "_law_is" (.cons (.call "over" (.cons (.var 2) (.cons (.var 3) .nil))) (.cons (.call "_law_least" (.cons (.var 4) (.cons (.var 5) .nil))) .nil))))) (.cons (.ret (.bl false)) .nil) .nil) (.cons (.asg (.name 7) (.call "less" (.cons (.var 2) (.cons (.var 3) .nil)))) (.cons (.ret (.and (.isI (.var 7) .bool) (.cmp .Eq (.var 7) (.cmp .Lt (.var 4) (.var 5))))) .nil))))))))))⟩
def d__law_right : DR := ⟨"_law_right", top 21, ["_law_first", "_law_second"], ["_law_first", "_law_second", "_law_one", "_law_other", "_law_above", "_law_beneath", "_law_both", "_law_told"], f__law_right⟩
def f__law_figures : Fn := ⟨1, 3, false, (.cons (.asg (.name 1) (.new (.comp [2] true (.of (.var 0)) (.some (.cmp .NotIn (.var 2) (.str [48, 49, 50, 51, 52, 53, 54, 55, 56, 57]))) (.var 2)))) (.cons (.ifs (.or (.cmp .Eq (.var 0) (.str [])) (.or (.cmp .NotEq (.var 1) (.new (.disp .nil))) (.or (.cmp .Gt (.blt .len (.cons (.var 0) .nil)) (.int 400)) (.and (.cmp .Eq (.idx (.var 0) (.int 0)) (.str [48])) (.cmp .Gt (.blt .len (.cons (.var 0) .nil)) (.int 1)))))) (.cons (.ret .non) .nil) .nil) (.cons (.ret (.blt .int (.cons (.var 0) .nil))) .nil)))⟩
def d__law_figures : DR := ⟨"_law_figures", top 22, ["_law_text_here"], ["_law_text_here", "_law_bad", "_law_sign"], f__law_figures⟩
def f__law_text : Fn := ⟨1, 6, false, (.cons (.asg (.name 1) (.idx (.new (.disp (.cons (.str []) (.cons (.str []) (.cons (.str []) (.cons (.str [48]) (.cons (.str [45]) (.cons (.str [32]) (.cons (.str [43]) .nil))))))))) (.bin .Mod (.var 0) (.int 7)))) (.cons (.asg (.name 2) (.idx (.new (.disp (.cons (.str [47]) (.cons (.str [47]) (.cons (.str [47]) (.cons (.str []) (.cons (.str [47, 47]) (.cons (.str [32, 47, 32]) (.cons (.str [58]) .nil))))))))) (.bin .Mod (.bin .FloorDiv (.var 0) (.int 7)) (.int 7)))) (.cons (.asg (.name 3) (.idx (.new (.disp (.cons (.str []) (.cons (.str []) (.cons (.str []) (.cons (.str []) (.cons (.str [48]) (.cons (.str [120]) (.cons (.str [47, 49]) .nil))))))))) (.bin .Mod (.bin .FloorDiv (.var 0) (.int 49)) (.int 7)))) (.cons (.asg (.name 4) (.idx (.new (.disp (.cons (.int 1) (.cons (.int 2) (.cons (.int 9) (.cons (.int 399) (.cons (.int 400) (.cons (.int 401) .nil)))))))) (.bin .Mod (.bin .FloorDiv (.var 0) (.int 343)) (.int 6)))) (.cons (.asg (.name 5) (.slice (.blt .str (.cons (.bin .Add (.bin .Pow (.int 10) (.int 9)) (.var 0)) .nil)) (.some (.int 1)) (.some (.bin .Add (.int 2) (.bin .Mod (.var 0) (.int 9)))))) (.cons (.ret (.bin .Add (.bin .Add (.bin .Add (.bin .Add (.var 1) (.var 5)) (.var 2)) (.idx (.new (.disp (.cons (.str [48]) (.cons (.str [49]) (.cons (.bin .Mult (.blt .str (.cons (.bin .Add (.int 1) (.bin .Mod (.var 0) (.int 9))) .nil)) (.var 4)) .nil))))) (.bin .Mod (.bin .FloorDiv (.var 0) (.int 2058)) (.int 3)))) (.var 3))) .nil))))))⟩
def d__law_text : DR := ⟨"_law_text", top 23, ["_law_number"], ["_law_number", "_law_head", "_law_sign", "_law_tail", "_law_size", "_law_one"], f__law_text⟩
def f__law_texts_right : Fn := ⟨1, 8, false, (.cons (.asg (.name 1) (.call "_law_text" (.cons (.var 0) .nil))) (.cons (.asg (.names [2, 3, 4]) (.mth .partition (.var 1) (.cons (.str [47]) .nil))) (.cons (.asg (.name 5) .non) (.cons (.ifs (.and (.cmp .NotEq (.var 3) (.str [])) (.and (.cmp .IsNot (.call "_law_figures" (.cons (.var 2) .nil)) .non) (.cmp .NotIn (.call "_law_figures" (.cons (.var 4) .nil)) (.tup (.cons .non (.cons (.int 0) .nil)))))) (.cons (.asg (.name 5) (.call "_law_least" (.cons (.call "_law_figures" (.cons (.var 2) .nil)) (.cons (.call "_law_figures" (.cons (.var 4) .nil)) .nil)))) .nil) .nil) (.cons (.asg (.name 6) (.call "share_in" (.cons (.var 1) .nil))) (.cons (.ifs (.or (.and (.cmp .Is (.var 5) .non) (.cmp .IsNot (.var 6) .non)) (.and (.cmp .IsNot (.var 5) .non) (.not (.call "_law_is" (.cons (.var 6) (.cons (.var 5) .nil)))))) (.cons (.ret (.bl false)) .nil) .nil) (.cons (.asg (.name 7) (.call "figures_in" (.cons (.var 4) .nil))) (.cons (.ifs (.and (.cmp .Is (.call "_law_figures" (.cons (.var 4) .nil)) .non) (.cmp .IsNot (.var 7) .non)) (.cons (.ret (.bl false)) .nil) .nil) (.cons (.ret (.or (.cmp .Is (.call "_law_figures" (.cons (.var 4) .nil)) .non) (.and (.call "is_whole" (.cons (.var 7) .nil)) (.cmp .Eq (.var 7) (.call "_law_figures" (.cons (.var 4) .nil)))))) .nil)))))))))⟩
def d__law_texts_right : DR := ⟨"_law_texts_right", top 24, ["_law_number"], ["_law_number", "_law_text_here", "_law_above", "_law_sign", "_law_beneath", "_law_due", "_law_found", "_law_told"], f__law_texts_right⟩
def f_law : Fn := ⟨1, 7, false, (.cons (.asg (.name 1) (.new (.disp (.cons .non (.cons (.int 5) (.cons (.bl true) (.cons (.tup (.cons (.int 1) .nil)) (.cons (.tup (.cons (.int 1) (.cons (.int 2) (.cons (.int 3) .nil)))) (.cons (.new (.disp (.cons (.int 1) (.cons (.int 2) .nil)))) (.cons (.tup (.cons (.int 2) (.cons (.int 4) .nil))) (.cons (.tup (.cons (.int 0) (.cons (.int 2) .nil))) (.cons (.tup (.cons (.int 1) (.cons (.int 0) .nil))) (.cons (.tup (.cons (.int 1) (.cons (.neg (.int 2)) .nil))) (.cons (.tup (.cons (.bl true) (.cons (.int 2) .nil))) .nil)))))))))))))) (.cons (.asg (.name 1) (.bin .Add (.var 1) (.new (.disp (.cons (.tup (.cons (.int 1) (.cons (.bl true) .nil))) (.cons (.tup (.cons (.str [49]) (.cons (.int 2) .nil))) (.cons (.str [49, 47, 50]) (.cons .dict0 .nil)))))))) (.cons (.for_ (.names [2, 3]) (.enum (.bin .Add (.slice (.var 0) .none (.some (.int 63))) (.new (.disp (.cons (.int 7) .nil))))) (.cons (.asg (.name 4) (.call "_law_pair" (.cons (.call "_law_mixed" (.cons (.var 3) (.cons (.bin .Mod (.var 2) (.int 5)) .nil))) .nil))) (.cons (.asg (.name 5) (.call "_law_pair" (.cons (.call "_law_mixed" (.cons (.var 3) (.cons (.bin .Add (.int 9) (.bin .Mod (.var 2) (.int 5))) .nil))) .nil))) (.cons (.ifs (.or (.not (.call "_law_right" (.cons (.var 4) (.cons (.var 5) .nil)))) (.or (.not (.call "_law_right" (.cons (.var 5) (.cons (.var 4) .nil)))) (.not (.call "_law_right" (.cons (.var 4) (.cons (.var 4) .nil)))))) (.cons (.ret (.bl false)) .nil) .nil) (.cons (.ifs (.or (.cmp .IsNot (.call "is_share" (.cons (.idx (.var 1) (.bin .Mod (.var 2) (.int 15))) .nil)) (.bl false)) (.not (.call "_law_texts_right" (.cons (.call "_law_mixed" (.cons (.var 3) (.cons (.int 20) .nil))) .nil)))) (.cons (.ret (.bl false)) .nil) .nil) (.cons (.asg (.name 6) (.call "_law_least" (.cons (.blt .abs (.cons (.idx (.var 4) (.int 0)) .nil)) (.cons (.ite (.cmp .Gt (.idx (.var 4) (.int 1)) (.int 0)) (.idx (.var 4) (.int 1)) (.bin .Sub (.int 0) (.idx (.var 4) (.int 1)))) .nil)))) (.cons (.ifs (.or (.cmp .NotEq (.call "share_text" (.cons (.var 6) .nil)) (.bin .Add (.bin .Add (.blt .str (.cons (.idx (.var 6) (.int 0)) .nil)) (.str [47])) (.blt .str (.cons (.idx (.var 6) (.int 1)) .nil)))) (.not (.call "_law_is" (.cons (.call "share_in" (.cons (.call "share_text" (.cons (.var 6) .nil)) .nil)) (.cons (.var 6) .nil))))) (.cons (.ret (.bl false)) .nil) .nil) .nil))))))) (.cons (.ret (.and (.cmp .Is (.call "share_in" (.cons (.int 5) .nil)) .non) (.and (.cmp .Is (.call "share_in" (.cons .non .nil)) .non) (.and (.cmp .Is (.call "share_in" (.cons (.new (.disp (.cons (.str [49, 47, 50]) .nil))) .nil)) .non) (.not (.call "is_whole" (.cons (.bl true) .nil))))))) .nil))))⟩
def d_law : DR := ⟨"law", top 25, ["_law_script"], ["_law_script", "_law_odd", "_law_k", "_law_cell", "_law_first", "_law_second", "_law_one"], f_law⟩
def ds : List DR := [d_is_whole, d_common, d_is_share, d_share, d_plus, d_minus, d_times, d_over, d_less, d_share_text, d_figures_in, d_share_in, d__law_mixed, d__law_pair, d__law_divides, d__law_least, d__law_is, d__law_right, d__law_figures, d__law_text, d__law_texts_right, d_law]
def cs : List (String × KC) := [("FIGURES", .str [48, 49, 50, 51, 52, 53, 54, 55, 56, 57]), ("MOST_FIGURES", .int 400)]
theorem b_is_whole : BindOk d_is_whole := fun _ _ _ _ _ _ _ _ us hl => match us, hl with | [_], _ => rfl
theorem b_common : BindOk d_common := fun _ _ _ _ _ _ _ _ us hl => match us, hl with | [_, _], _ => rfl
theorem b_is_share : BindOk d_is_share := fun _ _ _ _ _ _ _ _ us hl => match us, hl with | [_], _ => rfl
theorem b_share : BindOk d_share := fun _ _ _ _ _ _ _ _ us hl => match us, hl with | [_, _], _ => rfl
theorem b_plus : BindOk d_plus := fun _ _ _ _ _ _ _ _ us hl => match us, hl with | [_, _], _ => rfl
theorem b_minus : BindOk d_minus := fun _ _ _ _ _ _ _ _ us hl => match us, hl with | [_, _], _ => rfl
theorem b_times : BindOk d_times := fun _ _ _ _ _ _ _ _ us hl => match us, hl with | [_, _], _ => rfl
theorem b_over : BindOk d_over := fun _ _ _ _ _ _ _ _ us hl => match us, hl with | [_, _], _ => rfl
theorem b_less : BindOk d_less := fun _ _ _ _ _ _ _ _ us hl => match us, hl with | [_, _], _ => rfl
theorem b_share_text : BindOk d_share_text := fun _ _ _ _ _ _ _ _ us hl => match us, hl with | [_], _ => rfl
theorem b_figures_in : BindOk d_figures_in := fun _ _ _ _ _ _ _ _ us hl => match us, hl with | [_], _ => rfl
theorem b_share_in : BindOk d_share_in := fun _ _ _ _ _ _ _ _ us hl => match us, hl with | [_], _ => rfl
theorem b__law_mixed : BindOk d__law_mixed := fun _ _ _ _ _ _ _ _ us hl => match us, hl with | [_, _], _ => rfl
theorem b__law_pair : BindOk d__law_pair := fun _ _ _ _ _ _ _ _ us hl => match us, hl with | [_], _ => rfl
theorem b__law_divides : BindOk d__law_divides := fun _ _ _ _ _ _ _ _ us hl => match us, hl with | [_, _], _ => rfl
theorem b__law_least : BindOk d__law_least := fun _ _ _ _ _ _ _ _ us hl => match us, hl with | [_, _], _ => rfl
theorem b__law_is : BindOk d__law_is := fun _ _ _ _ _ _ _ _ us hl => match us, hl with | [_, _], _ => rfl
theorem b__law_right : BindOk d__law_right := fun _ _ _ _ _ _ _ _ us hl => match us, hl with | [_, _], _ => rfl
theorem b__law_figures : BindOk d__law_figures := fun _ _ _ _ _ _ _ _ us hl => match us, hl with | [_], _ => rfl
theorem b__law_text : BindOk d__law_text := fun _ _ _ _ _ _ _ _ us hl => match us, hl with | [_], _ => rfl
theorem b__law_texts_right : BindOk d__law_texts_right := fun _ _ _ _ _ _ _ _ us hl => match us, hl with | [_], _ => rfl
theorem b_law : BindOk d_law := fun _ _ _ _ _ _ _ _ us hl => match us, hl with | [_], _ => rfl
theorem binds : ∀ d ∈ ds, BindOk d := by
  intro d hd
  simp only [ds, List.mem_cons, List.not_mem_nil, or_false] at hd
  rcases hd with rfl | rfl | rfl | rfl | rfl | rfl | rfl | rfl | rfl | rfl | rfl | rfl | rfl | rfl | rfl | rfl | rfl | rfl | rfl | rfl | rfl | rfl
  · exact b_is_whole
  · exact b_common
  · exact b_is_share
  · exact b_share
  · exact b_plus
  · exact b_minus
  · exact b_times
  · exact b_over
  · exact b_less
  · exact b_share_text
  · exact b_figures_in
  · exact b_share_in
  · exact b__law_mixed
  · exact b__law_pair
  · exact b__law_divides
  · exact b__law_least
  · exact b__law_is
  · exact b__law_right
  · exact b__law_figures
  · exact b__law_text
  · exact b__law_texts_right
  · exact b_law
theorem ok_is_whole : d_is_whole.ok = true := by decide +kernel
theorem ok_common : d_common.ok = true := by decide +kernel
theorem ok_is_share : d_is_share.ok = true := by decide +kernel
theorem ok_share : d_share.ok = true := by decide +kernel
theorem ok_plus : d_plus.ok = true := by decide +kernel
theorem ok_minus : d_minus.ok = true := by decide +kernel
theorem ok_times : d_times.ok = true := by decide +kernel
theorem ok_over : d_over.ok = true := by decide +kernel
theorem ok_less : d_less.ok = true := by decide +kernel
theorem ok_share_text : d_share_text.ok = true := by decide +kernel
theorem ok_figures_in : d_figures_in.ok = true := by decide +kernel
theorem ok_share_in : d_share_in.ok = true := by decide +kernel
theorem ok__law_mixed : d__law_mixed.ok = true := by decide +kernel
theorem ok__law_pair : d__law_pair.ok = true := by decide +kernel
theorem ok__law_divides : d__law_divides.ok = true := by decide +kernel
theorem ok__law_least : d__law_least.ok = true := by decide +kernel
theorem ok__law_is : d__law_is.ok = true := by decide +kernel
theorem ok__law_right : d__law_right.ok = true := by decide +kernel
theorem ok__law_figures : d__law_figures.ok = true := by decide +kernel
theorem ok__law_text : d__law_text.ok = true := by decide +kernel
theorem ok__law_texts_right : d__law_texts_right.ok = true := by decide +kernel
theorem ok_law : d_law.ok = true := by decide +kernel
theorem oks : ds.all DR.ok = true := by
  simp only [ds, List.all_cons, List.all_nil, Bool.and_true, ok_is_whole, ok_common, ok_is_share, ok_share, ok_plus, ok_minus, ok_times, ok_over, ok_less, ok_share_text, ok_figures_in, ok_share_in, ok__law_mixed, ok__law_pair, ok__law_divides, ok__law_least, ok__law_is, ok__law_right, ok__law_figures, ok__law_text, ok__law_texts_right, ok_law]
abbrev R : PySem.W.OpenRow := PySem.W.OpenLaw.row PySem.Challenge.rw_faultwood_k01_shares
def loose0 : List PySem.Str := ["FIGURES", "MOST_FIGURES", "is_whole", "common", "is_share", "share", "plus", "minus", "times", "over", "less", "share_text", "figures_in", "share_in", "_law_mixed", "_law_pair", "_law_divides", "_law_least", "_law_is", "_law_right", "_law_figures", "_law_text", "_law_texts_right"]
def loose : List PySem.Str := loose0
def fa : List He.Fa := faOf ds cs
def fn : List He.DefD := ds.map DR.dd
abbrev hk : PySem.W.Hook := He.hookD 4 fa fn
def ob (s : PySem.W.SharedT) : He.AlD := He.obsDG 4 fa fn (HandSHeadRun.getT s)
theorem ob_eq (s : PySem.W.SharedT) : ob s = hk.obs s.abs := He.obsDG_eq (HandSHeadRun.getT_eq s)
theorem hrun (w : World) : HandSHeadRun.RunEq R (PySem.W.view R.prog [25]) hk ob 1960 loose w := by
  intro os
  kernel_rfl
def ge : GE := geOf ds cs fun _ => []
def T : Tab := tab ds
noncomputable def C (k : Nat) : CF := PC.call ge T k
theorem C_eq {k : Nat} {f : String} {fn : Fn} {as : List D} {st : Store} (h : T f = some fn) : C (k + 1) f as st = PC.run ge (C k) fn as st := by
  show (match T f with | some fn => PC.run ge (PC.call ge T k) fn as st | none => .err) = _
  rw [h]; rfl
theorem C_run {k : Nat} {f : String} {fn : Fn} {as : List D} {st : Store} (h : T f = some fn) (hn : as.length = fn.np ∧ fn.np ≤ fn.ns) : C (k + 1) f as st = fnEnd fn.keep st (exs ge (C k) fn.body (as.map some ++ List.replicate (fn.ns - as.length) none) st) := by
  rw [C_eq h]; exact run_eq hn
theorem t_is_whole : T "is_whole" = some f_is_whole := by kernel_rfl
theorem s_is_whole : ge.fs "is_whole" = true := by kernel_rfl
theorem t_common : T "common" = some f_common := by kernel_rfl
theorem s_common : ge.fs "common" = true := by kernel_rfl
theorem t_is_share : T "is_share" = some f_is_share := by kernel_rfl
theorem s_is_share : ge.fs "is_share" = true := by kernel_rfl
theorem t_share : T "share" = some f_share := by kernel_rfl
theorem s_share : ge.fs "share" = true := by kernel_rfl
theorem t_plus : T "plus" = some f_plus := by kernel_rfl
theorem s_plus : ge.fs "plus" = true := by kernel_rfl
theorem t_minus : T "minus" = some f_minus := by kernel_rfl
theorem s_minus : ge.fs "minus" = true := by kernel_rfl
theorem t_times : T "times" = some f_times := by kernel_rfl
theorem s_times : ge.fs "times" = true := by kernel_rfl
theorem t_over : T "over" = some f_over := by kernel_rfl
theorem s_over : ge.fs "over" = true := by kernel_rfl
theorem t_less : T "less" = some f_less := by kernel_rfl
theorem s_less : ge.fs "less" = true := by kernel_rfl
theorem t_share_text : T "share_text" = some f_share_text := by kernel_rfl
theorem s_share_text : ge.fs "share_text" = true := by kernel_rfl
theorem t_figures_in : T "figures_in" = some f_figures_in := by kernel_rfl
theorem s_figures_in : ge.fs "figures_in" = true := by kernel_rfl
theorem t_share_in : T "share_in" = some f_share_in := by kernel_rfl
theorem s_share_in : ge.fs "share_in" = true := by kernel_rfl
theorem t__law_mixed : T "_law_mixed" = some f__law_mixed := by kernel_rfl
theorem s__law_mixed : ge.fs "_law_mixed" = true := by kernel_rfl
theorem t__law_pair : T "_law_pair" = some f__law_pair := by kernel_rfl
theorem s__law_pair : ge.fs "_law_pair" = true := by kernel_rfl
theorem t__law_divides : T "_law_divides" = some f__law_divides := by kernel_rfl
theorem s__law_divides : ge.fs "_law_divides" = true := by kernel_rfl
theorem t__law_least : T "_law_least" = some f__law_least := by kernel_rfl
theorem s__law_least : ge.fs "_law_least" = true := by kernel_rfl
theorem t__law_is : T "_law_is" = some f__law_is := by kernel_rfl
theorem s__law_is : ge.fs "_law_is" = true := by kernel_rfl
theorem t__law_right : T "_law_right" = some f__law_right := by kernel_rfl
theorem s__law_right : ge.fs "_law_right" = true := by kernel_rfl
theorem t__law_figures : T "_law_figures" = some f__law_figures := by kernel_rfl
theorem s__law_figures : ge.fs "_law_figures" = true := by kernel_rfl
theorem t__law_text : T "_law_text" = some f__law_text := by kernel_rfl
theorem s__law_text : ge.fs "_law_text" = true := by kernel_rfl
theorem t__law_texts_right : T "_law_texts_right" = some f__law_texts_right := by kernel_rfl
theorem s__law_texts_right : ge.fs "_law_texts_right" = true := by kernel_rfl
theorem t_law : T "law" = some f_law := by kernel_rfl
theorem s_law : ge.fs "law" = true := by kernel_rfl
theorem g_FIGURES : ge.gl "FIGURES" = some (.str [48, 49, 50, 51, 52, 53, 54, 55, 56, 57]) := by kernel_rfl
theorem g_MOST_FIGURES : ge.gl "MOST_FIGURES" = some (.int 400) := by kernel_rfl
end K01
open PySem PySem.W PySem.Calls PyProof.Rows
theorem K01.holds (hlaw : ∀ ns : List Int, ns.length ≤ 63 → ∃ st, K01.C 40 "law" [.scr (ns.map .int)] [] = .ok (.bl true) st) : PySem.Challenge.rw_faultwood_k01_shares.Holds := by
  w_on; o_law
  refine HandSHeadRun.head_any (r := OpenLaw.row PySem.Challenge.rw_faultwood_k01_shares) (q := view (OpenLaw.row PySem.Challenge.rw_faultwood_k01_shares).prog [25]) (H := K01.hk) (ob := K01.ob) (M := 1960) (loose := K01.loose) (d := HandSHeadRun.topDef (OpenLaw.row PySem.Challenge.rw_faultwood_k01_shares).prog 25) (kwd := []) K01.ob_eq
    (by kernel_rfl) (fun s => by kernel_rfl) K01.hrun (by kernel_rfl) (by kernel_rfl) (by kernel_rfl) (by rfl) (by first | assumption | decide +kernel) (by decide +kernel) ⟨rfl, rfl, rfl, rfl, rfl, by decide +kernel⟩ ?hw ?hc
  case hw => w_witness2
  case hc =>
    refine L2.walk_ofE (l := PySem.Challenge.rw_faultwood_k01_shares) (n := 63) (k := 40) (x := "_law_script") (CX := L2.CX0) rfl (by decide) (by kernel_rfl) ⟨rfl, by decide, by decide⟩ ?F (fun _ _ _ _ z => z)
    intro w mg a h Y G hmg0
    obtain ⟨K, KX, c⟩ := Y
    have hmg : mg ("law" : PySem.Str) = some (.ref a) := by
      have e : (HandSHeadRun.topDef (OpenLaw.row PySem.Challenge.rw_faultwood_k01_shares).prog 25).name = ("law" : PySem.Str) := by kernel_rfl
      rw [← e]
      exact hmg0
    obtain ⟨fd, hb, hg, hF⟩ := PC.facts (P := (PySem.Challenge.rw_faultwood_k01_shares).prog) (w := w) (bs := fun _ => []) K01.oks K01.binds KX G c K01.d_law (by simp [K01.ds]) (by kernel_rfl) 40
    have e := hmg.symm.trans hg
    cases e
    exact ⟨K, fd, _, KX, fun s v => hb s [v] rfl, fun H a ns hl _ hS => PC.spLaw hS (hlaw ns hl), fun base _ _ => hF base⟩
end
section
set_option Elab.async false
set_option linter.all false
set_option maxRecDepth 100000
set_option maxHeartbeats 1000000
namespace K01
open PC PySem
def isInt : D → Bool
  | .int _ => true
  | _ => false
theorem e_whole {k : Nat} (hk : 1 ≤ k) (d : D) (st : Store) : C k "is_whole" [d] st = .ok (.bl (isInt d)) st := by
  obtain ⟨k, rfl⟩ : ∃ j, k = j + 1 := ⟨k - 1, by omega⟩
  rw [C_run t_is_whole ⟨rfl, by decide⟩]
  simp [f_is_whole]
  have h : ((onB Res.err (.bl (isTy ge.bs st d .int)) (.ok (.bl (!isTy ge.bs st d .bool)) st) (.ok (.bl false) st)).toS [some d] fun d st => RS.rt d st) = .rt (.bl (isInt d)) st := by
    cases d with
    | ref n =>
      simp only [isTy, isInt]
      split <;> simp_all
    | _ => rfl
  rw [h]
  exact fin_same rfl
theorem e_common {k : Nat} (hk : 1 ≤ k) (a b : Int) (st : Store) : C k "common" [.int a, .int b] st = .ok (.int (Int.gcd a b : Nat)) st := by
  obtain ⟨k, rfl⟩ : ∃ j, k = j + 1 := ⟨k - 1, by omega⟩
  rw [C_run t_common ⟨rfl, by decide⟩]
  simp [f_common, blt, blt1, absI_eq]
  rw [whR_inv (α := {p : Nat × Nat // Nat.gcd p.1 p.2 = Int.gcd a b}) (fun p => ([some (.int (p.1.1 : Nat)), some (.int (p.1.2 : Nat))], st)) (fun p => p.1.2) (.nx [some (.int (Int.gcd a b : Nat)), some (.int 0)] st) (fun z => by cases z) ?_ ⟨(a.natAbs, b.natAbs), rfl⟩ rfl]
  · simp
    exact fin_same rfl
  · rintro ⟨⟨x, y⟩, h⟩
    simp only at h
    by_cases hy : y = 0
    · subst hy
      rw [Nat.gcd_zero_right] at h
      left
      simp [cmpB, cmpI, h]
    · right
      refine ⟨by simp [cmpB, cmpI]; omega, ⟨(y, x % y), ?_⟩, Nat.mod_lt _ (by omega), ?_⟩
      · rw [← h, Nat.gcd_comm y, ← Nat.gcd_rec, Nat.gcd_comm]
      · simp [binop, imod_nat, hy, gd_pos, lineN, items, deref, setAll]
theorem e_mixed {k : Nat} (hk : 1 ≤ k) (c i : Int) (h0 : 0 ≤ i) (h1 : i ≤ 100) (st : Store) : ∃ n, 0 ≤ n ∧ n < 2147483629 ∧ C k "_law_mixed" [.int c, .int i] st = .ok (.int n) st := by
  obtain ⟨k, rfl⟩ : ∃ j, k = j + 1 := ⟨k - 1, by omega⟩
  rw [C_run t__law_mixed ⟨rfl, by decide⟩]
  have a1 := imod_r (i := c) (j := 1000000007) (by decide)
  have a2 : 0 ≤ 31 * i * i := Int.mul_nonneg (by omega) h0
  have a3 : 31 * i * i ≤ 31 * 100 * 100 := Int.mul_le_mul (by omega) h1 h0 (by decide)
  have a4 := imod_r (i := (imod c 1000000007 + 31 * i * i + 7) * 48271) (j := 2147483647) (by decide)
  simp (disch := first | omega | (apply sm64 <;> omega)) [f__law_mixed, bin_mod, bin_mul]
  rw [fin_same rfl]
  exact ⟨_, (imod_r (by decide)).1, (imod_r (by decide)).2, rfl⟩
theorem e_pair {k : Nat} (hk : 1 ≤ k) (n : Int) (h0 : 0 ≤ n) (h1 : n < 2147483629) (st : Store) : ∃ a b : Int, a.natAbs < 2 ^ 40 ∧ b.natAbs < 2 ^ 40 ∧ b ≠ 0 ∧ C k "_law_pair" [.int n] st = .ok (.tup [.int a, .int b]) st := by
  obtain ⟨k, rfl⟩ : ∃ j, k = j + 1 := ⟨k - 1, by omega⟩
  rw [C_run t__law_pair ⟨rfl, by decide⟩]
  obtain ⟨a, ha, ea⟩ := atI_ints (is := [0, 1, n / 5 % 30, n * 48271 % 1000000000000, n / 5 % 12 * 840]) (i := n % 5) (by omega) (by simp; omega)
  obtain ⟨b, hb, eb⟩ := atI_ints (is := [1, 2, 1 + n / 35 % 30, 1 + n * 16807 % 1000000000000, 840]) (i := n / 7 % 5) (by omega) (by simp; omega)
  obtain ⟨c, hc, ec⟩ := atI_ints (is := [b, 0 - b]) (i := n / 2700 % 5 / 4) (by omega) (by simp; omega)
  simp at ha hb hc ea eb ec
  have a1 : 0 ≤ a ∧ a < 1000000000000 := by omega
  have b1 : 1 ≤ b ∧ b ≤ 1000000000000 := by omega
  have hp : (10 : Int) ^ (12 : Nat) = 1000000000000 := by decide
  by_cases h : n / 900 % 3 = 1
  · refine ⟨0 - a, c, by omega, by omega, by omega, ?_⟩
    simp (disch := first | omega | (apply sm64 <;> omega)) [f__law_pair, bin_mod, bin_mul, bin_div, bin_pow, lineN, imod_pos, idiv_pos, ea, eb, ec, h]
    exact fin_same rfl
  · refine ⟨a, c, by omega, by omega, by omega, ?_⟩
    simp (disch := first | omega | (apply sm64 <;> omega)) [f__law_pair, bin_mod, bin_mul, bin_div, bin_pow, lineN, imod_pos, idiv_pos, ea, eb, ec, h]
    exact fin_same rfl
/-- the lowest form -/
def lw (a b : Int) : Int × Int := if b < 0 then (-(a / (Int.gcd a b : Int)), -(b / (Int.gcd a b : Int))) else (a / (Int.gcd a b : Int), b / (Int.gcd a b : Int))
abbrev pr (p : Int × Int) : D := .tup [.int p.1, .int p.2]
theorem gcd_pos {a b : Int} (hb : b ≠ 0) : 0 < Int.gcd a b := Int.gcd_pos_of_ne_zero_right a hb
theorem gcd_sm {a b : Int} (hb : b ≠ 0) (h : Sm b) : Sm (Int.gcd a b : Int) := by
  unfold Sm at *
  have : Int.gcd a b ≤ b.natAbs := Nat.gcd_le_right _ (by omega)
  omega
theorem e_share {k : Nat} (hk : 2 ≤ k) (a b : Int) (hb : b ≠ 0) (h : Sm b) (st : Store) : C k "share" [.int a, .int b] st = .ok (pr (lw a b)) st := by
  obtain ⟨k, rfl⟩ : ∃ j, k = j + 1 := ⟨k - 1, by omega⟩
  rw [C_run t_share ⟨rfl, by decide⟩]
  have g0 := gcd_pos (a := a) hb
  have g1 := gcd_sm (a := a) hb h
  have da : (Int.gcd a b : Int) ∣ a := Int.gcd_dvd_left ..
  have db : (Int.gcd a b : Int) ∣ b := Int.gcd_dvd_right ..
  by_cases hn : b < 0
  · have g2 : Sm (- (Int.gcd a b : Int)) := by unfold Sm at *; omega
    have q : ∀ x : Int, (Int.gcd a b : Int) ∣ x → idiv x (- (Int.gcd a b : Int)) = -(x / (Int.gcd a b : Int)) := fun x hx => by
      unfold idiv
      rw [if_neg (by omega), Int.fdiv_eq_ediv_of_dvd (Int.neg_dvd.mpr hx), Int.ediv_neg]
    simp (disch := first | assumption | omega) [f_share, s_common, e_common, hn, bin_div, lineN, q _ da, q _ db]
    rw [fin_same rfl]
    simp [lw, hn]
  · have p : (0 : Int) < (Int.gcd a b : Int) := by omega
    simp (disch := first | assumption | omega) [f_share, s_common, e_common, hn, bin_div, lineN, idiv_pos p]
    rw [fin_same rfl]
    simp [lw, hn]
theorem sm_le {x y : Nat} (h : x ≤ y) (hy : Sm (y : Int)) : Sm (x : Int) := by
  unfold Sm at *
  simp only [Int.natAbs_natCast] at *
  exact Nat.lt_of_le_of_lt h hy
theorem sm_abs {a : Int} (h : Sm a) : Sm (a.natAbs : Int) := by
  unfold Sm at *
  simpa only [Int.natAbs_natCast] using h
theorem e_divides {k : Nat} (hk : 1 ≤ k) (a b : Int) (ha : Sm a) (hb : Sm b) (st : Store) : C k "_law_divides" [.int a, .int b] st = .ok (.int (Int.gcd a b : Nat)) st := by
  obtain ⟨k, rfl⟩ : ∃ j, k = j + 1 := ⟨k - 1, by omega⟩
  rw [C_run t__law_divides ⟨rfl, by decide⟩]
  have srt : ∀ x y : Nat, sortD st [.int x, .int y] = .ok (.lst [.int (min x y : Nat), .int (max x y : Nat)]) st := fun x y => by
    show Res.ok (D.lst ((sortI [(x : Int), (y : Int)]).map .int)) st = _
    by_cases h : x ≤ y
    · simp [sortI, insI, h, Nat.min_eq_left, Nat.max_eq_right]
    · have h1 : min x y = y := Nat.min_eq_right (by omega)
      have h2 : max x y = x := Nat.max_eq_left (by omega)
      simp [sortI, insI, h, h1, h2]
  simp [f__law_divides, lineN, blt1, absI_eq, srt, items, setAll]
  rw [whR_inv (α := {p : Nat × Nat // Nat.gcd p.1 p.2 = Int.gcd a b ∧ p.1 ≤ p.2 ∧ Sm (p.2 : Int)}) (fun p => ([some (.int a), some (.int b), some (.int (p.1.1 : Nat)), some (.int (p.1.2 : Nat))], st)) (fun p => p.1.1) (.nx [some (.int a), some (.int b), some (.int 0), some (.int (Int.gcd a b : Nat))] st) (fun z => by cases z) ?_ ⟨(min a.natAbs b.natAbs, max a.natAbs b.natAbs), ?_⟩ ?_]
  · simp
    exact fin_same rfl
  · rintro ⟨⟨x, y⟩, h, h1, h2⟩
    simp only at h h1 h2
    by_cases hx : x = 0
    · subst hx
      rw [Nat.gcd_zero_left] at h
      left
      simp [h]
    · right
      refine ⟨by simp; omega, ⟨(y % x, x), ?_, Nat.le_of_lt (Nat.mod_lt _ (by omega)), ?_⟩, Nat.mod_lt _ (by omega), ?_⟩
      · simp only
        rw [← h, ← Nat.gcd_rec]
      · exact sm_le h1 h2
      · have e1 : idiv (y : Int) (x : Int) = ((y / x : Nat) : Int) := idiv_nat y x
        have s1 : Sm (x : Int) := sm_le h1 h2
        have s2 : Sm ((y / x : Nat) : Int) := sm_le (Nat.div_le_self y x) h2
        have e2 : (y : Int) - ((y / x : Nat) : Int) * (x : Int) = ((y % x : Nat) : Int) := by
          have := Nat.div_add_mod y x
          rw [Nat.mul_comm] at this
          have h3 : (((y / x * x + y % x : Nat)) : Int) = (y : Int) := by rw [this]
          rw [Int.natCast_add, Int.natCast_mul] at h3
          omega
        have e3 : min x (y % x) = y % x := Nat.min_eq_right (Nat.le_of_lt (Nat.mod_lt _ (by omega)))
        have e4 : max x (y % x) = x := Nat.max_eq_left (Nat.le_of_lt (Nat.mod_lt _ (by omega)))
        simp (disch := first | assumption | omega) only [exs_cons, exs_nil, ex_asg, ev_blt, evs_cons, evs_nil, ev_new, evl_disp, ev_var, ev_bin, look0, lookN, globR_some, Res.bind_ok, Res.toS_ok, bin_div, bin_mul, bin_sub, e1, e2, blt_1]
        simp [lineN, blt1, srt, items, setAll, e3, e4, -Int.natCast_emod]
  · refine ⟨?_, ?_, ?_⟩
    · simp only
      show Nat.gcd _ _ = Nat.gcd _ _
      by_cases h : a.natAbs ≤ b.natAbs
      · rw [Nat.min_eq_left h, Nat.max_eq_right h]
      · rw [Nat.min_eq_right (by omega), Nat.max_eq_left (by omega), Nat.gcd_comm]
    · simp only; omega
    · simp only
      by_cases h : a.natAbs ≤ b.natAbs
      · rw [Nat.max_eq_right h]; exact sm_abs hb
      · rw [Nat.max_eq_left (by omega)]; exact sm_abs ha
  · simp
theorem e_least {k : Nat} (hk : 2 ≤ k) (a b : Int) (hb0 : b ≠ 0) (ha : Sm a) (hb : Sm b) (st : Store) : C k "_law_least" [.int a, .int b] st = .ok (pr (lw a b)) st := by
  obtain ⟨k, rfl⟩ : ∃ j, k = j + 1 := ⟨k - 1, by omega⟩
  rw [C_run t__law_least ⟨rfl, by decide⟩]
  have g0 := gcd_pos (a := a) hb0
  have g1 := gcd_sm (a := a) hb0 hb
  have p : (0 : Int) < (Int.gcd a b : Int) := by omega
  have da : (Int.gcd a b : Int) ∣ a := Int.gcd_dvd_left ..
  have db : (Int.gcd a b : Int) ∣ b := Int.gcd_dvd_right ..
  by_cases hn : b < 0
  · have ha' : Sm (-a) := by unfold Sm at *; rw [Int.natAbs_neg]; exact ha
    have hb' : Sm (-b) := by unfold Sm at *; rw [Int.natAbs_neg]; exact hb
    have e : Int.gcd (-a) (-b) = Int.gcd a b := by rw [Int.neg_gcd, Int.gcd_neg]
    simp (disch := first | assumption | omega) [f__law_least, s__law_divides, e_divides, hn, bin_div, lineN, items, setAll, e, idiv_pos p]
    rw [fin_same rfl]
    simp [lw, hn, Int.neg_ediv_of_dvd da, Int.neg_ediv_of_dvd db]
  · simp (disch := first | assumption | omega) [f__law_least, s__law_divides, e_divides, hn, bin_div, lineN, items, setAll, idiv_pos p]
    rw [fin_same rfl]
    simp [lw, hn]
def isShare : D → Bool
  | .tup [.int a, .int b] => decide (0 < b) && decide (Int.gcd a b = 1)
  | _ => false
theorem e_isShare {k : Nat} (hk : 2 ≤ k) (d : D) (st : Store) : C k "is_share" [d] st = .ok (.bl (isShare d)) st := by
  obtain ⟨k, rfl⟩ : ∃ j, k = j + 1 := ⟨k - 1, by omega⟩
  rw [C_run t_is_share ⟨rfl, by decide⟩]
  cases d with
  | tup xs =>
    match xs with
    | [] => simp [f_is_share, isTy]; exact fin_same rfl
    | [x] =>
      have e : isShare (.tup [x]) = false := by cases x <;> rfl
      simp [f_is_share, isTy, e]; exact fin_same rfl
    | [x, y] =>
      cases hx : isInt x with
      | false =>
        simp (disch := first | assumption | omega) [f_is_share, isTy, s_is_whole, e_whole, atI_0, atI_1, hx]
        cases x <;> first | exact fin_same rfl | cases hx
      | true =>
        cases hy : isInt y with
        | false =>
          simp (disch := first | assumption | omega) [f_is_share, isTy, s_is_whole, e_whole, atI_0, atI_1, hx, hy]
          cases x <;> first | (cases y <;> first | exact fin_same rfl | cases hy) | cases hx
        | true =>
          cases x <;> first | cases hx | skip
          cases y <;> first | cases hy | skip
          rename_i a b
          by_cases hb : 0 < b
          · simp (disch := first | assumption | omega) [f_is_share, isTy, s_is_whole, e_whole, atI_0, atI_1, isInt, s_common, e_common, hb, isShare]
            have : (((Int.gcd a b : Nat) : Int) = 1) = (Int.gcd a b = 1) := by rw [eq_iff_iff]; omega
            simp only [this]
            exact fin_same rfl
          · simp (disch := first | assumption | omega) [f_is_share, isTy, s_is_whole, e_whole, atI_0, atI_1, isInt, s_common, e_common, hb, isShare]
            exact fin_same rfl
    | x :: y :: z :: r =>
      have : ¬ (((r.length : Nat) : Int) + 1 + 1 + 1 = 2) := by omega
      have e : isShare (.tup (x :: y :: z :: r)) = false := by cases x <;> first | rfl | (cases y <;> rfl)
      simp [f_is_share, isTy, this, e]; exact fin_same rfl
  | ref n =>
    have : isTy ge.bs st (.ref n) .tuple = false := by
      simp only [isTy]
      split <;> simp_all
    simp [f_is_share, this]; exact fin_same rfl
  | _ => simp [f_is_share, isTy]; exact fin_same rfl
theorem lw_pos {a b : Int} (hb : b ≠ 0) : 0 < (lw a b).2 := by
  have g0 := gcd_pos (a := a) hb
  obtain ⟨c, hc⟩ : (Int.gcd a b : Int) ∣ b := Int.gcd_dvd_right ..
  have e : b / (Int.gcd a b : Int) = c := by
    rw [show b / (Int.gcd a b : Int) = ((Int.gcd a b : Int) * c) / (Int.gcd a b : Int) by rw [← hc]]
    exact Int.mul_ediv_cancel_left c (by omega)
  unfold lw
  split
  · simp only [e]
    rename_i hn
    have : c < 0 := by
      apply Classical.byContradiction
      intro h
      have : 0 ≤ (Int.gcd a b : Int) * c := Int.mul_nonneg (by omega) (by omega)
      omega
    omega
  · simp only [e]
    rename_i hn
    apply Classical.byContradiction
    intro h
    have : (Int.gcd a b : Int) * c ≤ 0 := Int.mul_nonpos_of_nonneg_of_nonpos (by omega) (by omega)
    omega
theorem lw_gcd {a b : Int} (hb : b ≠ 0) : Int.gcd (lw a b).1 (lw a b).2 = 1 := by
  have g0 := gcd_pos (a := a) hb
  have h := Int.gcd_ediv_gcd_ediv_gcd g0
  unfold lw
  split
  · rw [Int.neg_gcd, Int.gcd_neg]; exact h
  · exact h
theorem div_le {a g : Int} (hg : 0 < g) (hd : g ∣ a) : (a / g).natAbs ≤ a.natAbs := by
  rw [Int.natAbs_ediv_of_dvd hd]
  exact Nat.div_le_self _ _
theorem lw_b1 {a b : Int} (hb : b ≠ 0) : (lw a b).1.natAbs ≤ a.natAbs := by
  have g0 := gcd_pos (a := a) hb
  have h := div_le (a := a) (g := (Int.gcd a b : Int)) (by omega) (Int.gcd_dvd_left ..)
  unfold lw
  split
  · simpa using h
  · exact h
theorem lw_b2 {a b : Int} (hb : b ≠ 0) : (lw a b).2.natAbs ≤ b.natAbs := by
  have g0 := gcd_pos (a := a) hb
  have h := div_le (a := b) (g := (Int.gcd a b : Int)) (by omega) (Int.gcd_dvd_right ..)
  unfold lw
  split
  · simpa using h
  · exact h
theorem isShare_lw {a b : Int} (hb : b ≠ 0) : isShare (pr (lw a b)) = true := by
  show (decide (0 < (lw a b).2) && decide (Int.gcd (lw a b).1 (lw a b).2 = 1)) = true
  rw [lw_gcd hb, decide_eq_true (lw_pos hb)]; rfl
theorem e_is {k : Nat} (hk : 1 ≤ k) (p : Int × Int) (st : Store) : C k "_law_is" [pr p, pr p] st = .ok (.bl true) st := by
  obtain ⟨k, rfl⟩ : ∃ j, k = j + 1 := ⟨k - 1, by omega⟩
  rw [C_run t__law_is ⟨rfl, by decide⟩]
  have e : pyEq (pr p) (pr p) = true := by simp [pyEq, pyEqs]
  have s : shp (pr p) = true := rfl
  simp [f__law_is, isTy, cmp_ne, s, e, atI_0, atI_1]
  exact fin_same rfl
theorem e_op {k : Nat} (hk : 3 ≤ k) (p q : Int × Int) (h1 : p.1.natAbs < 2 ^ 100) (h2 : p.2.natAbs < 2 ^ 100) (h3 : q.1.natAbs < 2 ^ 100) (h4 : q.2.natAbs < 2 ^ 100) (h5 : p.2 ≠ 0) (h6 : q.2 ≠ 0) (st : Store) :
    C k "plus" [pr p, pr q] st = .ok (pr (lw (p.1 * q.2 + q.1 * p.2) (p.2 * q.2))) st ∧ C k "minus" [pr p, pr q] st = .ok (pr (lw (p.1 * q.2 - q.1 * p.2) (p.2 * q.2))) st ∧
    C k "times" [pr p, pr q] st = .ok (pr (lw (p.1 * q.1) (p.2 * q.2))) st ∧ (q.1 ≠ 0 → C k "over" [pr p, pr q] st = .ok (pr (lw (p.1 * q.2) (p.2 * q.1))) st) ∧
    C k "less" [pr p, pr q] st = .ok (.bl (decide (p.1 * q.2 < q.1 * p.2))) st := by
  obtain ⟨k, rfl⟩ : ∃ j, k = j + 1 := ⟨k - 1, by omega⟩
  have s1 : Sm p.1 := smB 100 h1
  have s2 : Sm p.2 := smB 100 h2
  have s3 : Sm q.1 := smB 100 h3
  have s4 : Sm q.2 := smB 100 h4
  have big : ∀ x y : Int, x.natAbs < 2 ^ 100 → y.natAbs < 2 ^ 100 → Sm (x * y) := fun x y hx hy => smB 200 (by rw [Int.natAbs_mul]; exact Nat.lt_of_lt_of_le (Nat.mul_lt_mul'' hx hy) (by decide))
  have b1 := big p.2 q.2 h2 h4
  have b2 := big p.2 q.1 h2 h3
  have n1 : p.2 * q.2 ≠ 0 := Int.mul_ne_zero h5 h6
  refine ⟨?_, ?_, ?_, fun h7 => ?_, ?_⟩
  · rw [C_run t_plus ⟨rfl, by decide⟩]
    simp (disch := first | assumption | omega) [f_plus, atI_0, atI_1, bin_mul, s_share, e_share, -ne_eq]
    exact fin_same rfl
  · rw [C_run t_minus ⟨rfl, by decide⟩]
    simp (disch := first | assumption | omega) [f_minus, atI_0, atI_1, bin_mul, s_share, e_share, -ne_eq]
    exact fin_same rfl
  · rw [C_run t_times ⟨rfl, by decide⟩]
    simp (disch := first | assumption | omega) [f_times, atI_0, atI_1, bin_mul, s_share, e_share, -ne_eq]
    exact fin_same rfl
  · have n2 : p.2 * q.1 ≠ 0 := Int.mul_ne_zero h5 h7
    rw [C_run t_over ⟨rfl, by decide⟩]
    simp (disch := first | assumption | omega) [f_over, atI_0, atI_1, bin_mul, s_share, e_share, -ne_eq]
    exact fin_same rfl
  · rw [C_run t_less ⟨rfl, by decide⟩]
    simp (disch := first | assumption | omega) [f_less, atI_0, atI_1, bin_mul]
    exact fin_same rfl
end K01
end
section
set_option Elab.async false
set_option maxRecDepth 100000
set_option linter.all false
set_option maxHeartbeats 1000000
namespace K01
open PC PySem
theorem mul_b {x y : Int} {m n : Nat} (hx : x.natAbs < 2 ^ m) (hy : y.natAbs < 2 ^ n) : (x * y).natAbs < 2 ^ (m + n) := by
  rw [Int.natAbs_mul, Nat.pow_add]
  exact Nat.mul_lt_mul'' hx hy
theorem lw_b {a b : Int} (hb : b ≠ 0) {m : Nat} (h1 : a.natAbs < 2 ^ m) (h2 : b.natAbs < 2 ^ m) : (lw a b).1.natAbs < 2 ^ m ∧ (lw a b).2.natAbs < 2 ^ m :=
  ⟨Nat.lt_of_le_of_lt (lw_b1 hb) h1, Nat.lt_of_le_of_lt (lw_b2 hb) h2⟩
theorem e_right {k : Nat} (hk : 4 ≤ k) (a b c d : Int) (h1 : a.natAbs < 2 ^ 40) (h2 : b.natAbs < 2 ^ 40) (h3 : c.natAbs < 2 ^ 40) (h4 : d.natAbs < 2 ^ 40) (hb : b ≠ 0) (hd : d ≠ 0) (st : Store) :
    C k "_law_right" [.tup [.int a, .int b], .tup [.int c, .int d]] st = .ok (.bl true) st := by
  obtain ⟨k, rfl⟩ : ∃ j, k = j + 1 := ⟨k - 1, by omega⟩
  rw [C_run t__law_right ⟨rfl, by decide⟩]
  obtain ⟨p1, p2⟩ := lw_b hb h1 h2
  obtain ⟨q1, q2⟩ := lw_b hd h3 h4
  have p0 := lw_pos (a := a) hb
  have q0 := lw_pos (a := c) hd
  have sh := isShare_lw (a := a) hb
  have sa : Sm a := smB 40 h1
  have sb : Sm b := smB 40 h2
  have sc : Sm c := smB 40 h3
  have sd : Sm d := smB 40 h4
  have l1 := e_least (k := k) (by omega) a b hb sa sb st
  have l2 := e_least (k := k) (by omega) c d hd sc sd st
  have l3 := e_share (k := k) (by omega) a b hb sb st
  generalize lw a b = p at *
  generalize lw c d = q at *
  obtain ⟨x, y⟩ := p
  obtain ⟨z, w⟩ := q
  simp only at p1 p2 q1 q2 p0 q0
  have u40 : ∀ i : Int, i.natAbs < 2 ^ 40 → i.natAbs < 2 ^ 100 := fun i hi => Nat.lt_of_lt_of_le hi (by decide)
  obtain ⟨o1, o2, o3, o4, o5⟩ := e_op (k := k) (by omega) (x, y) (z, w) (u40 _ p1) (u40 _ p2) (u40 _ q1) (u40 _ q2) (show y ≠ 0 by omega) (show w ≠ 0 by omega) st
  simp only at o1 o2 o3 o4 o5
  have sx : Sm x := smB 40 p1
  have sy : Sm y := smB 40 p2
  have sz : Sm z := smB 40 q1
  have sw : Sm w := smB 40 q2
  have m1 := mul_b p1 q2
  have m2 := mul_b q1 p2
  have m3 := mul_b p2 q2
  have m4 := mul_b p1 q1
  have n1 : y * w ≠ 0 := Int.mul_ne_zero (by omega) (by omega)
  have t1 : Sm (x * w) := smB 80 m1
  have t2 : Sm (z * y) := smB 80 m2
  have t3 : Sm (y * w) := smB 80 m3
  have t4 : Sm (x * z) := smB 80 m4
  have t5 : Sm (x * w + z * y) := smB 81 (by omega)
  have t6 : Sm (x * w - z * y) := smB 81 (by omega)
  have l4 := e_least (k := k) (by omega) _ _ n1 t5 t3 st
  have l5 := e_least (k := k) (by omega) _ _ n1 t6 t3 st
  have l6 := e_least (k := k) (by omega) _ _ n1 t4 t3 st
  have li := e_is (k := k) (by omega)
  have ls := e_isShare (k := k) (by omega) (pr (x, y)) st
  by_cases hz : z = 0
  · have ne : ∀ st, cmpB .NotEq (.int z) (.int 0) st = .ok false st := fun st => by simp [hz]
    simp (disch := first | assumption | omega) [-cmp_neI, ne, f__law_right, atI_0, atI_1, s__law_least, l1, l2, l3, s_share, s__law_is, s_is_share, ls, sh, lineN, li, items, setAll, bin_mul, s_plus, s_minus, s_times, s_less, o1, o2, o3, o5, l4, l5, l6, isTy]
    exact fin_same rfl
  · have l7 := e_least (k := k) (by omega) (x * w) (z * y) (Int.mul_ne_zero hz (by omega)) t1 t2 st
    have o4 := o4 hz
    rw [Int.mul_comm y z] at o4
    have ne : ∀ st, cmpB .NotEq (.int z) (.int 0) st = .ok true st := fun st => by simp [hz]
    simp (disch := first | assumption | omega) [-cmp_neI, ne, f__law_right, atI_0, atI_1, s__law_least, l1, l2, l3, s_share, s__law_is, s_is_share, ls, sh, lineN, li, items, setAll, bin_mul, s_plus, s_minus, s_times, s_less, s_over, o1, o2, o3, o4, o5, l4, l5, l6, l7, isTy]
    exact fin_same rfl
def dig (s : List Nat) : Bool := s.all isDig
/-- what a text of figures says -/
def figs (s : List Nat) : D := if s ≠ [] ∧ s.length ≤ 400 ∧ dig s = true ∧ ¬ (s[0]? = some 48 ∧ 1 < s.length) then .int (digV s) else .non
theorem e_figures {k : Nat} (hk : 1 ≤ k) (s : List Nat) (ha : s.all (· < 128) = true) (hl : s.length ≤ 10000) (st : Store) : C k "figures_in" [.str s] st = .ok (figs s) st := by
  obtain ⟨k, rfl⟩ : ∃ j, k = j + 1 := ⟨k - 1, by omega⟩
  rw [C_run t_figures_in ⟨rfl, by decide⟩]
  have hl2 : s.length ≤ lineN := Nat.le_trans hl (by decide)
  have lc : lcL (lcStep ge (C k) [1] true CO.none (CE.cmp CmpOp.In (CE.var 1) (CE.glob "FIGURES")) [some (D.str s), none]) [] (s.map fun c => D.str [c]) st = .ok (s.map fun c => D.bl (isDig c)) st := by
    rw [lcL_map (g := fun d => match d with | .str [c] => .bl (isDig c) | _ => .non)]
    · rw [List.map_map]; rfl
    · intro x hx
      obtain ⟨c, _, rfl⟩ := List.mem_map.mp hx
      rw [lcStep_eq (σ' := [some (D.str s), some (.str [c])]) rfl]
      simp [g_FIGURES, sub_dig]
  by_cases h0 : s = []
  · subst h0
    simp [f_figures_in, len_str, g_MOST_FIGURES, figs]
    exact fin_same rfl
  obtain ⟨c, r, rfl⟩ := List.exists_cons_of_ne_nil h0
  generalize hs : c :: r = s at *
  have h1 : 1 ≤ (s.length : Int) := by rw [← hs, List.length_cons]; omega
  by_cases h4 : s.length ≤ 400
  · have h4' : (s.length : Int) ≤ 400 := by omega
    cases hd : dig s with
    | false =>
      have e : (s.map isDig).all id = false := by rw [List.all_map]; exact hd
      simp (disch := first | assumption | omega) [f_figures_in, len_str, g_MOST_FIGURES, h1, h4', lc, all_bools (toBools_map isDig s), e, figs, hd, hl2]
      exact fin_same rfl
    | true =>
      have e : (s.map isDig).all id = true := by rw [List.all_map]; exact hd
      have hc : s[0]? = some c := by rw [← hs]; rfl
      have a1 : [c].all (· < 128) = true := by
        rw [← hs] at ha
        simp at ha ⊢
        exact ha.1
      have ii := int_str (st := st) (s := s) ⟨by omega, by omega, hd⟩
      have ix := idx_str (st := st) hc hl2
      have z1 := cmp_eqS (st := st) a1 (show [48].all (· < 128) = true from rfl)
      have z2 := cmp_neS (st := st) ha (show [48].all (· < 128) = true from rfl)
      have fin : ∀ (p q : Bool), cmpB .Eq (.str [c]) (.str [48]) st = .ok p st → cmpB .NotEq (.str s) (.str [48]) st = .ok q st → figs s = (if (p && q) = true then .non else .int (digV s)) → fnEnd f_figures_in.keep st (exs ge (C k) f_figures_in.body (List.map some [D.str s] ++ List.replicate (f_figures_in.ns - [D.str s].length) none) st) = .ok (figs s) st := by
        intro p q y1 y2 hf
        cases p <;> cases q <;> simp (disch := first | assumption | omega) [f_figures_in, len_str, g_MOST_FIGURES, h1, h4', lc, all_bools (toBools_map isDig s), e, hl2, ix, y1, y2, ii] <;> rw [fin_same rfl, hf] <;> rfl
      by_cases hc0 : c = 48
      · by_cases h1l : s = [48]
        · refine fin true false (by rw [z1, hc0]; rfl) (by rw [z2, h1l]; rfl) ?_
          unfold figs
          rw [if_pos ⟨by rw [h1l]; simp, h4, hd, by rw [h1l]; simp⟩]; rfl
        · refine fin true true (by rw [z1, hc0]; rfl) (by rw [z2, decide_eq_false h1l]; rfl) ?_
          unfold figs
          rw [if_neg]
          · rfl
          · rintro ⟨_, _, _, h⟩
            refine h ⟨by rw [hc, hc0], ?_⟩
            apply Classical.byContradiction
            intro hn
            have : r.length = 0 := by rw [← hs, List.length_cons] at hn; omega
            rw [← hs, hc0, List.eq_nil_of_length_eq_zero this] at h1l
            exact h1l rfl
      · refine fin false (!decide (s = [48])) (by rw [z1, decide_eq_false (by simpa using hc0)]) z2 ?_
        unfold figs
        rw [if_pos ⟨by rw [← hs]; simp, h4, hd, by rw [hc]; simp [hc0]⟩]; rfl
  · have h4' : ¬ (s.length : Int) ≤ 400 := by omega
    simp (disch := first | assumption | omega) [f_figures_in, len_str, g_MOST_FIGURES, h1, h4', figs, h4]
    exact fin_same rfl
end K01
end
section
set_option Elab.async false
set_option maxRecDepth 100000
set_option linter.all false
set_option maxHeartbeats 1000000
namespace K01
open PC PySem
theorem e_lfigures {k : Nat} (hk : 1 ≤ k) (s : List Nat) (ha : asc s) (hl : s.length ≤ 10000) (st : Store) : C k "_law_figures" [.str s] st = .ok (figs s) st := by
  obtain ⟨k, rfl⟩ : ∃ j, k = j + 1 := ⟨k - 1, by omega⟩
  rw [C_run t__law_figures ⟨rfl, by decide⟩]
  have hl2 : s.length ≤ lineN := Nat.le_trans hl (by decide)
  have lc : lcL (lcStep ge (C k) [2] true (.some (CE.cmp CmpOp.NotIn (CE.var 2) (CE.str [48, 49, 50, 51, 52, 53, 54, 55, 56, 57]))) (CE.var 2) [some (D.str s), none, none]) [] (s.map fun c => D.str [c]) st = .ok ((s.filter fun c => !isDig c).map fun c => D.str [c]) st := by
    rw [lcL_filter (p := fun d => match d with | .str [c] => !isDig c | _ => true) (g := id)]
    · rw [List.filter_map, List.map_map]; rfl
    · intro x hx
      obtain ⟨c, _, rfl⟩ := List.mem_map.mp hx
      rw [lcStep_eq (σ' := [some (D.str s), none, some (.str [c])]) rfl]
      cases h : isDig c <;> simp [sub_dig, h]
  generalize hbad : ((s.filter fun c => !isDig c).map fun c => D.str [c]) = bad at lc
  have z0 : cmpB .Eq (.str s) (.str []) st = .ok (decide (s = [])) st := cmp_eqS ha rfl
  have zb : cmpB .NotEq (.lst bad) (.lst []) st = .ok (!dig s) st := by
    rw [cmp_ne (x := .lst bad) (y := .lst [])]
    · show Res.ok (!pyEqs bad []) st = _
      have : pyEqs bad [] = dig s := by
        unfold dig
        cases hd : s.all isDig with
        | true =>
          have : s.filter (fun c => !isDig c) = [] := by
            rw [List.filter_eq_nil_iff]
            intro c hc
            rw [List.all_eq_true.mp hd c hc]
            exact Bool.false_ne_true
          rw [this] at hbad
          rw [← hbad]; rfl
        | false =>
          obtain ⟨c, hc, hd⟩ := List.all_eq_false.mp hd
          cases e : s.filter (fun c => !isDig c) with
          | nil =>
            rw [List.filter_eq_nil_iff] at e
            have := e c hc
            simp only [Bool.not_eq_true] at hd
            rw [hd] at this
            exact absurd rfl this
          | cons x xs => rw [e] at hbad; rw [← hbad]; rfl
      rw [this]
    · refine (shN_lst (n := 0) fun d hd => ?_).shp
      rw [← hbad] at hd
      obtain ⟨c, hc, rfl⟩ := List.mem_map.mp hd
      refine shN_str ?_
      have := List.all_eq_true.mp ha c (List.mem_filter.mp hc).1
      simpa using this
    · exact (shN_lst (n := 0) fun d hd => (List.not_mem_nil hd).elim).shp
  by_cases h0 : s = []
  · have z0 : cmpB .Eq (.str s) (.str []) st = .ok true st := by rw [z0, decide_eq_true h0]
    have hf : figs s = .non := by rw [h0]; rfl
    simp (disch := first | assumption | omega) [f__law_figures, len_str, lc, z0, hl2]
    rw [fin_same rfl, hf]
  have z0 : cmpB .Eq (.str s) (.str []) st = .ok false st := by rw [z0, decide_eq_false h0]
  obtain ⟨c, r, hs⟩ := List.exists_cons_of_ne_nil h0
  have hc : s[0]? = some c := by rw [hs]; rfl
  have a1 : [c].all (· < 128) = true := by
    rw [hs] at ha
    simp [asc] at ha ⊢
    exact ha.1
  cases hd : dig s with
  | false =>
    have hf : figs s = .non := by unfold figs; rw [if_neg (by rw [hd]; simp)]
    rw [hd] at zb
    simp (disch := first | assumption | omega) [f__law_figures, len_str, lc, z0, hl2, zb]
    rw [fin_same rfl, hf]
  | true =>
    rw [hd] at zb
    by_cases h4 : s.length ≤ 400
    · have h4' : ¬ (400 : Int) < (s.length : Int) := by omega
      have ii := int_str (st := st) (s := s) ⟨by rw [hs]; simp, by omega, hd⟩
      have ix := idx_str (st := st) hc hl2
      have z1 := cmp_eqS (st := st) a1 (show [48].all (· < 128) = true from rfl)
      by_cases hc0 : c = 48
      · have z1 : cmpB .Eq (.str [c]) (.str [48]) st = .ok true st := by rw [z1, hc0]; rfl
        by_cases h1 : 1 < s.length
        · have h1' : (1 : Int) < (s.length : Int) := by omega
          have hf : figs s = .non := by
            unfold figs
            rw [if_neg (fun q => q.2.2.2 ⟨by rw [hc, hc0], h1⟩)]
          simp (disch := first | assumption | omega) [f__law_figures, len_str, lc, z0, hl2, zb, h4', ix, z1, h1']
          rw [fin_same rfl, hf]
        · have h1' : ¬ (1 : Int) < (s.length : Int) := by omega
          have hf : figs s = .int (digV s) := by
            unfold figs
            rw [if_pos ⟨h0, h4, hd, fun q => h1 q.2⟩]
          simp (disch := first | assumption | omega) [f__law_figures, len_str, lc, z0, hl2, zb, h4', ix, z1, h1', ii]
          rw [fin_same rfl, hf]
      · have z1 : cmpB .Eq (.str [c]) (.str [48]) st = .ok false st := by rw [z1, decide_eq_false (by simpa using hc0)]
        have hf : figs s = .int (digV s) := by
          unfold figs
          rw [if_pos ⟨h0, h4, hd, fun q => hc0 (by rw [hc] at q; exact Option.some.inj q.1)⟩]
        simp (disch := first | assumption | omega) [f__law_figures, len_str, lc, z0, hl2, zb, h4', ix, z1, ii]
        rw [fin_same rfl, hf]
    · have h4' : (400 : Int) < (s.length : Int) := by omega
      have hf : figs s = .non := by unfold figs; rw [if_neg (fun q => h4 q.2.1)]
      simp (disch := first | assumption | omega) [f__law_figures, len_str, lc, z0, hl2, zb, h4']
      rw [fin_same rfl, hf]
theorem fold_b : ∀ (cs : List Nat) (acc : Nat), (∀ c ∈ cs, c ≤ 57) → cs.foldl (fun acc c => acc * 10 + (c - 48)) acc < (acc + 1) * 10 ^ cs.length
  | [], acc, _ => by simp
  | c :: cs, acc, h => by
    have h1 := fold_b cs (acc * 10 + (c - 48)) fun d hd => h d (List.mem_cons_of_mem _ hd)
    have h2 := h c List.mem_cons_self
    rw [List.foldl_cons, List.length_cons, Nat.pow_succ]
    have h3 : (acc * 10 + (c - 48) + 1) * 10 ^ cs.length ≤ ((acc + 1) * 10) * 10 ^ cs.length := Nat.mul_le_mul_right _ (by omega)
    have h4 : (acc + 1) * (10 ^ cs.length * 10) = ((acc + 1) * 10) * 10 ^ cs.length := by rw [Nat.mul_assoc, Nat.mul_comm 10]
    omega
theorem digV_sm {s : List Nat} (hd : dig s = true) (hl : s.length ≤ 400) : Sm (digV s) := by
  have h := fold_b s 0 fun c hc => by
    have := List.all_eq_true.mp hd c hc
    unfold isDig at this
    simp at this
    exact this.2
  have h : NumText.digitsVal s < (0 + 1) * 10 ^ s.length := h
  refine smB 1600 ?_ (by decide)
  unfold digV
  rw [Int.natAbs_natCast]
  have h2 : 10 ^ s.length ≤ 10 ^ 400 := Nat.pow_le_pow_right (by decide) hl
  have h3 : 10 ^ 400 ≤ 16 ^ 400 := Nat.pow_le_pow_left (by decide) 400
  have h4 : 16 ^ 400 = 2 ^ 1600 := by
    rw [show 16 = 2 ^ 4 from rfl, ← Nat.pow_mul]
  rw [← h4]
  omega
theorem figs_cases (s : List Nat) : figs s = .non ∨ (∃ n : Int, figs s = .int n ∧ 0 ≤ n ∧ Sm n) := by
  unfold figs
  split
  · rename_i h
    exact .inr ⟨_, rfl, by unfold digV; omega, digV_sm h.2.2.1 h.2.1⟩
  · exact .inl rfl
/-- the share that a text tells -/
def shOf (p : List Nat × List Nat × List Nat) : D := match figs p.1, figs p.2.2 with
  | .int a, .int b => if p.2.1 ≠ [] ∧ b ≠ 0 then pr (lw a b) else .non
  | _, _ => .non
def shIn (s : List Nat) : D := shOf (parts [47] s)
theorem parts_asc {s : List Nat} (ha : asc s) : asc (parts [47] s).1 ∧ asc (parts [47] s).2.1 ∧ asc (parts [47] s).2.2 := by
  obtain ⟨_, _, h1, h2, h3⟩ := parts_ok (sep := [47]) (s := s)
  refine ⟨asc_sub ha h1, ?_, asc_sub ha h2⟩
  rcases h3 with h | h <;> rw [h] <;> rfl
theorem e_shareIn {k : Nat} (hk : 3 ≤ k) (s : List Nat) (ha : asc s) (hl : s.length ≤ 10000) (st : Store) : C k "share_in" [.str s] st = .ok (shIn s) st := by
  obtain ⟨k, rfl⟩ : ∃ j, k = j + 1 := ⟨k - 1, by omega⟩
  rw [C_run t_share_in ⟨rfl, by decide⟩]
  have hl2 : s.length ≤ lineN := Nat.le_trans hl (by decide)
  obtain ⟨l1, l2, _⟩ := parts_ok (sep := [47]) (s := s)
  obtain ⟨a1, a2, a3⟩ := parts_asc ha
  have f1 := e_figures (k := k) (by omega) _ a1 (by omega) st
  have f2 := e_figures (k := k) (by omega) _ a3 (by omega) st
  have z0 := cmp_eqS (st := st) a2 (show [].all (· < 128) = true from rfl)
  have pt := part_str (st := st) (s := s) (sep := [47]) ⟨hl2, by decide⟩
  have hsh : shIn s = shOf (parts [47] s) := rfl
  generalize parts [47] s = p at *
  obtain ⟨above, sign, beneath⟩ := p
  unfold shOf at hsh
  simp only at f1 f2 z0 pt hsh
  by_cases h0 : sign = []
  · rw [decide_eq_true h0] at z0
    simp (disch := first | assumption | omega) [f_share_in, isTy, pt, items, setAll, s_figures_in, f1, f2, z0]
    rw [fin_same rfl, hsh]
    rcases figs_cases above with e | ⟨a, e, _⟩ <;> rcases figs_cases beneath with e' | ⟨b, e', _⟩ <;> rw [e, e'] <;> first | rfl | (simp only; rw [if_neg (fun q => q.1 h0)])
  · rw [decide_eq_false h0] at z0
    rcases figs_cases above with e | ⟨a, e, a0, as⟩
    · rw [e] at f1 hsh
      simp (disch := first | assumption | omega) [f_share_in, isTy, pt, items, setAll, s_figures_in, f1, f2, z0]
      rw [fin_same rfl, hsh]
    · rw [e] at f1 hsh
      rcases figs_cases beneath with e' | ⟨b, e', b0, bs⟩
      · rw [e'] at f2 hsh
        simp (disch := first | assumption | omega) [f_share_in, isTy, pt, items, setAll, s_figures_in, f1, f2, z0]
        rw [fin_same rfl, hsh]
      · rw [e'] at f2 hsh
        simp only at hsh
        by_cases hb : b = 0
        · rw [if_neg (fun q => q.2 hb)] at hsh
          simp (disch := first | assumption | omega) [f_share_in, isTy, pt, items, setAll, s_figures_in, f1, f2, z0, hb]
          rw [fin_same rfl, hsh]
        · rw [if_pos ⟨h0, hb⟩] at hsh
          have sh := e_share (k := k) (by omega) a b hb bs st
          simp (disch := first | assumption | omega) [f_share_in, isTy, pt, items, setAll, s_figures_in, f1, f2, z0, hb, s_share, sh]
          rw [fin_same rfl, hsh]
end K01
end
section
set_option Elab.async false
set_option maxRecDepth 100000
set_option linter.all false
set_option maxHeartbeats 1000000
namespace K01
open PC PySem
theorem e_text {k : Nat} (hk : 1 ≤ k) (n : Int) (h0 : 0 ≤ n) (h1 : n < 2147483629) (st : Store) : ∃ s, asc s ∧ s.length ≤ 1000 ∧ C k "_law_text" [.int n] st = .ok (.str s) st := by
  obtain ⟨k, rfl⟩ : ∃ j, k = j + 1 := ⟨k - 1, by omega⟩
  rw [C_run t__law_text ⟨rfl, by decide⟩]
  obtain ⟨a, ha, ea⟩ := atI_strs (is := [[], [], [], [48], [45], [32], [43]]) (i := n % 7) (by omega) (by simp; omega)
  obtain ⟨b, hb, eb⟩ := atI_strs (is := [[47], [47], [47], [], [47, 47], [32, 47, 32], [58]]) (i := n / 7 % 7) (by omega) (by simp; omega)
  obtain ⟨c, hc, ec⟩ := atI_strs (is := [[], [], [], [], [48], [120], [47, 49]]) (i := n / 49 % 7) (by omega) (by simp; omega)
  obtain ⟨d, hd, ed⟩ := atI_ints (is := [1, 2, 9, 399, 400, 401]) (i := n / 343 % 6) (by omega) (by simp; omega)
  have hp : (10 : Int) ^ (9 : Nat) = 1000000000 := by decide
  have n1 : (TL.numL (1000000000 + n).toNat).length ≤ 10 := TL.numL_len (by decide) (by omega)
  have n2 : (TL.numL (1 + n % 9).toNat).length ≤ 1 := TL.numL_len (by decide) (by omega)
  have A : asc a ∧ a.length ≤ 3 := by
    simp at ha
    rcases ha with rfl | rfl | rfl | rfl | rfl <;> exact ⟨rfl, by decide⟩
  have B : asc b ∧ b.length ≤ 3 := by
    simp at hb
    rcases hb with rfl | rfl | rfl | rfl | rfl <;> exact ⟨rfl, by decide⟩
  have C' : asc c ∧ c.length ≤ 3 := by
    simp at hc
    rcases hc with rfl | rfl | rfl | rfl <;> exact ⟨rfl, by decide⟩
  have Dd : 1 ≤ d ∧ d ≤ 401 := by simp at hd; omega
  have e1 : asc (cut (TL.numL (1000000000 + n).toNat) (some 1) (some (2 + n % 9))) ∧ (cut (TL.numL (1000000000 + n).toNat) (some 1) (some (2 + n % 9))).length ≤ 10 := ⟨asc_sub (dig_asc (numL_dig _)) (cut_sub _ _ _), Nat.le_trans (cut_len _ _ _) n1⟩
  have e2 : asc (reps (TL.numL (1 + n % 9).toNat) d) ∧ (reps (TL.numL (1 + n % 9).toNat) d).length ≤ 401 := by
    refine ⟨asc_sub (dig_asc (numL_dig _)) (reps_sub _ _), ?_⟩
    rw [reps_len]
    have : (TL.numL (1 + n % 9).toNat).length * d.toNat ≤ 1 * 401 := Nat.mul_le_mul n2 (by omega)
    omega
  have m1 : (TL.numL (1 + n % 9).toNat).length * d.toNat ≤ lineN ∧ 0 ≤ d ∧ d ≤ lineN := by
    have : (TL.numL (1 + n % 9).toNat).length * d.toNat ≤ 1 * 401 := Nat.mul_le_mul n2 (by omega)
    unfold lineN
    omega
  obtain ⟨g, hg, eg⟩ := atI_strs (is := [[48], [49], reps (TL.numL (1 + n % 9).toNat) d]) (i := n / 2058 % 3) (by omega) (by simp; omega)
  have G : asc g ∧ g.length ≤ 401 := by
    simp at hg
    rcases hg with rfl | rfl | rfl
    · exact ⟨rfl, by decide⟩
    · exact ⟨rfl, by decide⟩
    · exact e2
  have sl := slice_str (st := st) (s := TL.numL (1000000000 + n).toNat) (lo := some 1) (hi := some (2 + n % 9)) (Nat.le_trans n1 (by decide))
  generalize cut (TL.numL (1000000000 + n).toNat) (some 1) (some (2 + n % 9)) = f at *
  have ml := mul_str (st := st) (a := TL.numL (1 + n % 9).toNat) m1
  generalize reps (TL.numL (1 + n % 9).toNat) d = r at *
  refine ⟨a ++ f ++ b ++ g ++ c, asc_append (asc_append (asc_append (asc_append A.1 e1.1) B.1) G.1) C'.1, by simp only [List.length_append]; omega, ?_⟩
  simp at ea eb ec ed eg
  have w1 := add_str (st := st) (a := a) (b := f) (by unfold lineN; omega)
  have w2 := add_str (st := st) (a := a ++ f) (b := b) (by rw [List.length_append]; unfold lineN; omega)
  have w3 := add_str (st := st) (a := a ++ f ++ b) (b := g) (by simp only [List.length_append]; unfold lineN; omega)
  have w4 := add_str (st := st) (a := a ++ f ++ b ++ g) (b := c) (by simp only [List.length_append]; unfold lineN; omega)
  simp only [List.append_assoc] at w1 w2 w3 w4 ⊢
  simp (disch := first | omega | (apply sm64 <;> omega)) [f__law_text, bin_mod, bin_mul, bin_div, bin_pow, imod_pos, idiv_pos, ea, eb, ec, ed, eg, hp, str_small, sl, ml, w1, w2, w3, w4, lineN]
  exact fin_same rfl
end K01
end
section
set_option Elab.async false
set_option maxRecDepth 100000
set_option linter.all false
set_option maxHeartbeats 1000000
namespace K01
open PC PySem
theorem ninN (st : Store) : cmpB .NotIn .non (.tup [.non, .int 0]) st = .ok false st := by
  show (gd (shp .non = true ∧ shp (.lst [.non, .int 0]) = true) (Res.ok ([D.non, .int 0].any fun z => pyEq z .non) st)).bind (fun b st => Res.ok (!b) st) = _
  rw [gd_pos ⟨rfl, by decide +kernel⟩]
  rfl
theorem ninI (n : Int) (st : Store) : cmpB .NotIn (.int n) (.tup [.non, .int 0]) st = .ok (!decide (n = 0)) st := by
  show (gd (shp (.int n) = true ∧ shp (.lst [.non, .int 0]) = true) (Res.ok ([D.non, .int 0].any fun z => pyEq z (.int n)) st)).bind (fun b st => Res.ok (!b) st) = _
  rw [gd_pos ⟨rfl, by decide +kernel⟩]
  have : ([D.non, .int 0].any fun z => pyEq z (.int n)) = decide (n = 0) := by
    rw [Bool.eq_iff_iff]
    simp [List.any, pyEq]
    exact eq_comm
  rw [this]; rfl
theorem e_textsRight {k : Nat} (hk : 5 ≤ k) (n : Int) (h0 : 0 ≤ n) (h1 : n < 2147483629) (st : Store) : C k "_law_texts_right" [.int n] st = .ok (.bl true) st := by
  obtain ⟨k, rfl⟩ : ∃ j, k = j + 1 := ⟨k - 1, by omega⟩
  rw [C_run t__law_texts_right ⟨rfl, by decide⟩]
  obtain ⟨s, ha, hl, et⟩ := e_text (k := k) (by omega) n h0 h1 st
  have hl2 : s.length ≤ lineN := Nat.le_trans hl (by decide)
  obtain ⟨l1, l2, _⟩ := parts_ok (sep := [47]) (s := s)
  obtain ⟨a1, a2, a3⟩ := parts_asc ha
  have f1 := e_lfigures (k := k) (by omega) _ a1 (by omega) st
  have f2 := e_lfigures (k := k) (by omega) _ a3 (by omega) st
  have f3 := e_figures (k := k) (by omega) _ a3 (by omega) st
  have z0 := cmp_neS (st := st) a2 (show [].all (· < 128) = true from rfl)
  have pt := part_str (st := st) (s := s) (sep := [47]) ⟨hl2, by decide⟩
  have fs := e_shareIn (k := k) (by omega) s ha (by omega) st
  have hsh : shIn s = shOf (parts [47] s) := rfl
  generalize parts [47] s = p at *
  obtain ⟨above, sign, beneath⟩ := p
  unfold shOf at hsh
  simp only at f1 f2 f3 z0 pt hsh
  have tail : ∀ (σ : Slots), True := fun _ => trivial
  have wh := fun d => e_whole (k := k) (by omega) d st
  have li := fun p => e_is (k := k) (by omega) p st
  rcases figs_cases beneath with e' | ⟨b, e', b0, bs⟩
  · have hn : shIn s = .non := by
      rw [hsh, e']
      rcases figs_cases above with e | ⟨a, e, _⟩ <;> rw [e]
    rw [hn] at fs
    rw [e'] at f2 f3
    have ni := ninN st
    by_cases hs : sign = []
    · rw [decide_eq_true hs] at z0
      simp (disch := first | assumption | omega) [f__law_texts_right, s__law_text, et, pt, items, setAll, s__law_figures, f1, f2, f3, z0, s_share_in, fs, s_figures_in]
      exact fin_same rfl
    · rw [decide_eq_false hs] at z0
      rcases figs_cases above with e | ⟨a, e, a0, as⟩
      · rw [e] at f1
        simp (disch := first | assumption | omega) [f__law_texts_right, s__law_text, et, pt, items, setAll, s__law_figures, f1, f2, f3, z0, s_share_in, fs, s_figures_in]
        exact fin_same rfl
      · rw [e] at f1
        simp (disch := first | assumption | omega) [f__law_texts_right, s__law_text, et, pt, items, setAll, s__law_figures, f1, f2, f3, z0, s_share_in, fs, s_figures_in, ni, lineN]
        exact fin_same rfl
  · rw [e'] at f2 f3 hsh
    have ni := ninI b st
    have iw : isInt (.int b) = true := rfl
    have fin : ∀ d, shIn s = d → (d = .non ∨ ∃ p, d = pr p) → True := fun _ _ _ => trivial
    by_cases hs : sign = []
    · have hn : shIn s = .non := by
        rw [hsh]
        rcases figs_cases above with e | ⟨a, e, _⟩ <;> rw [e]
        simp only
        rw [if_neg (fun q => q.1 hs)]
      rw [hn] at fs
      rw [decide_eq_true hs] at z0
      simp (disch := first | assumption | omega) [f__law_texts_right, s__law_text, et, pt, items, setAll, s__law_figures, f1, f2, f3, z0, s_share_in, fs, s_figures_in, s_is_whole, wh, iw]
      exact fin_same rfl
    · rw [decide_eq_false hs] at z0
      rcases figs_cases above with e | ⟨a, e, a0, as⟩
      · rw [e] at f1 hsh
        rw [hsh] at fs
        simp (disch := first | assumption | omega) [f__law_texts_right, s__law_text, et, pt, items, setAll, s__law_figures, f1, f2, f3, z0, s_share_in, fs, s_figures_in, s_is_whole, wh, iw]
        exact fin_same rfl
      · rw [e] at f1 hsh
        simp only at hsh
        by_cases hb : b = 0
        · rw [if_neg (fun q => q.2 hb)] at hsh
          rw [hsh] at fs
          rw [decide_eq_true hb] at ni
          simp (disch := first | assumption | omega) [f__law_texts_right, s__law_text, et, pt, items, setAll, s__law_figures, f1, f2, f3, z0, s_share_in, fs, s_figures_in, s_is_whole, wh, iw, ni, lineN]
          exact fin_same rfl
        · rw [if_pos ⟨hs, hb⟩] at hsh
          rw [hsh] at fs
          rw [decide_eq_false hb] at ni
          have le := e_least (k := k) (by omega) a b hb as bs st
          simp (disch := first | assumption | omega) [f__law_texts_right, s__law_text, et, pt, items, setAll, s__law_figures, f1, f2, f3, z0, s_share_in, fs, s_figures_in, s_is_whole, wh, iw, ni, lineN, s__law_least, le, s__law_is, li]
          exact fin_same rfl
end K01
end
section
set_option Elab.async false
set_option maxRecDepth 100000
set_option linter.all false
set_option maxHeartbeats 1000000
namespace K01
open PC PySem
theorem numL_head : ∀ (n : Nat), 0 < n → (TL.numL n)[0]? ≠ some 48 := by
  intro n
  induction n using Nat.strongRecOn with
  | ind n ih =>
    intro hn h
    by_cases h10 : n < 10
    · rw [TL.numL_lt h10] at h
      simp at h
      omega
    · rw [TL.numL_step (by omega)] at h
      have hne := TL.numL_ne (n / 10)
      have hl : 0 < (TL.numL (n / 10)).length := List.length_pos_iff.mpr hne
      rw [List.getElem?_append_left hl] at h
      exact ih (n / 10) (by omega) (by omega) h
theorem figs_num {n : Nat} (h : n < 10 ^ 100) : figs (TL.numL n) = .int n := by
  unfold figs
  have h1 : (TL.numL n).length ≤ 100 := TL.numL_len (by decide) h
  rw [if_pos]
  · unfold digV
    rw [TL.numL_val]
  · refine ⟨TL.numL_ne n, by omega, numL_dig n, fun q => ?_⟩
    by_cases h0 : n = 0
    · subst h0
      rw [TL.numL_lt (by decide)] at q
      simp at q
    · exact numL_head n (by omega) q.1
theorem shIn_num {a b : Nat} (ha : a < 10 ^ 100) (hb : b < 10 ^ 100) (h0 : b ≠ 0) : shIn (TL.numL a ++ ([47] ++ TL.numL b)) = pr (lw a b) := by
  have h47 : 47 ∉ TL.numL a := TL.numL_free (.inl (by decide))
  have e : TL.par [47] [] (TL.numL a ++ ([47] ++ TL.numL b)) = some (TL.numL a, TL.numL b) := SX.par_head (TL.numL b) h47
  have p : parts [47] (TL.numL a ++ ([47] ++ TL.numL b)) = (TL.numL a, [47], TL.numL b) := by unfold parts; rw [e]
  show shOf (parts [47] (TL.numL a ++ ([47] ++ TL.numL b))) = _
  rw [p]
  unfold shOf
  simp only [figs_num ha, figs_num hb]
  rw [if_pos ⟨by simp, by omega⟩]
theorem lw_same {x y : Int} (hg : Int.gcd x y = 1) (hy : 0 < y) : lw x y = (x, y) := by
  unfold lw
  rw [if_neg (by omega), hg]
  simp
theorem lw_nn {a b : Int} (ha : 0 ≤ a) (hb : 0 < b) : 0 ≤ (lw a b).1 := by
  unfold lw
  rw [if_neg (by omega)]
  exact Int.ediv_nonneg ha (by omega)
theorem e_shareText {k : Nat} (hk : 1 ≤ k) (x y : Int) (hx : 0 ≤ x) (hy : 0 ≤ y) (hx1 : x < 2 ^ 40) (hy1 : y < 2 ^ 40) (st : Store) : C k "share_text" [pr (x, y)] st = .ok (.str (TL.numL x.toNat ++ ([47] ++ TL.numL y.toNat))) st := by
  obtain ⟨k, rfl⟩ : ∃ j, k = j + 1 := ⟨k - 1, by omega⟩
  rw [C_run t_share_text ⟨rfl, by decide⟩]
  have l1 : (TL.numL x.toNat).length ≤ 20 := TL.numL_len (by decide) (by omega)
  have l2 : (TL.numL y.toNat).length ≤ 20 := TL.numL_len (by decide) (by omega)
  have w1 := add_str (st := st) (a := TL.numL x.toNat) (b := [47]) (by simp; unfold lineN; omega)
  have w2 := add_str (st := st) (a := TL.numL x.toNat ++ [47]) (b := TL.numL y.toNat) (by simp; unfold lineN; omega)
  simp only [List.append_assoc] at w2
  simp (disch := first | omega) [f_share_text, atI_0, atI_1, str_small, w1, w2]
  exact fin_same rfl
theorem atI_mem {xs : List D} {i : Int} (h0 : 0 ≤ i) (h1 : i < xs.length) : ∃ d ∈ xs, L2.atI xs i = some d := by
  obtain ⟨n, rfl⟩ := Int.eq_ofNat_of_zero_le h0
  have hn : n < xs.length := by omega
  exact ⟨xs[n], List.getElem_mem hn, by rw [atI_nat hn, List.getElem?_eq_getElem hn]⟩
theorem enum_mem : ∀ {xs : List D} {n : Nat} {x : D}, x ∈ enumD n xs → ∃ (i : Nat) (d : D), x = .tup [.int i, d] ∧ d ∈ xs
  | [], n, x, h => by cases h
  | y :: ys, n, x, h => by
    rw [enumD] at h
    rcases List.mem_cons.mp h with rfl | h
    · exact ⟨n, y, rfl, List.mem_cons_self⟩
    · obtain ⟨i, d, e, hd⟩ := enum_mem h
      exact ⟨i, d, e, List.mem_cons_of_mem _ hd⟩
def odd : List D := [.non, .int 5, .bl true, .tup [.int 1], .tup [.int 1, .int 2, .int 3], .lst [.int 1, .int 2], .tup [.int 2, .int 4], .tup [.int 0, .int 2], .tup [.int 1, .int 0], .tup [.int 1, .int (-2)], .tup [.bl true, .int 2],
  .tup [.int 1, .bl true], .tup [.str [49], .int 2], .str [49, 47, 50], .ref 0]
theorem odd_no : ∀ d ∈ odd, isShare d = false := by
  intro d hd
  simp only [odd, List.mem_cons, List.not_mem_nil, or_false] at hd
  rcases hd with rfl | rfl | rfl | rfl | rfl | rfl | rfl | rfl | rfl | rfl | rfl | rfl | rfl | rfl | rfl <;> decide
def I (s : D) (σ : Slots) (st : Store) : Prop := st = [.dict []] ∧ ∃ x2 x3 x4 x5 x6, σ = [some s, some (.lst odd), x2, x3, x4, x5, x6]
/-- the loop's body -/
def lb : CSs := match f_law.body with
  | .cons _ (.cons _ (.cons (.for_ _ _ b) _)) => b
  | _ => .nil
theorem law_turn {k : Nat} (hk : 6 ≤ k) (s : D) (i : Nat) (c : Int) (σ : Slots) (st : Store) (h : I s σ st) : ∃ σ' st', forStep ge (C k) (.names [2, 3]) lb (.tup [.int i, .int c]) σ st = .nx σ' st' ∧ I s σ' st' := by
  obtain ⟨rfl, x2, x3, x4, x5, x6, rfl⟩ := h
  rw [forStep_eq (σ' := [some s, some (.lst odd), some (.int i), some (.int c), x4, x5, x6]) (st' := [.dict []]) rfl]
  have i5 : 0 ≤ (i : Int) % 5 ∧ (i : Int) % 5 < 5 := by omega
  obtain ⟨n1, a1, a2, m1⟩ := e_mixed (k := k) (by omega) c ((i : Int) % 5) (by omega) (by omega) [.dict []]
  obtain ⟨n2, a3, a4, m2⟩ := e_mixed (k := k) (by omega) c (9 + (i : Int) % 5) (by omega) (by omega) [.dict []]
  obtain ⟨n3, a5, a6, m3⟩ := e_mixed (k := k) (by omega) c 20 (by omega) (by omega) [.dict []]
  obtain ⟨a, b, b1, b2, b3, p1⟩ := e_pair (k := k) (by omega) n1 a1 a2 [.dict []]
  obtain ⟨c', d, d1, d2, d3, p2⟩ := e_pair (k := k) (by omega) n2 a3 a4 [.dict []]
  have r1 := e_right (k := k) (by omega) a b c' d b1 b2 d1 d2 b3 d3 [.dict []]
  have r2 := e_right (k := k) (by omega) c' d a b d1 d2 b1 b2 d3 b3 [.dict []]
  have r3 := e_right (k := k) (by omega) a b a b b1 b2 b1 b2 b3 b3 [.dict []]
  have tr := e_textsRight (k := k) (by omega) n3 a5 a6 [.dict []]
  obtain ⟨o, ho, eo⟩ := atI_mem (xs := odd) (i := (i : Int) % 15) (by omega) (by show (i : Int) % 15 < 15; omega)
  have is := e_isShare (k := k) (by omega) o [.dict []]
  rw [odd_no o ho] at is
  have nb : ((b.natAbs : Nat) : Int) ≠ 0 := by omega
  have q1 : ((a.natAbs : Nat) : Int).natAbs < 2 ^ 40 := by omega
  have q2 : ((b.natAbs : Nat) : Int).natAbs < 2 ^ 40 := by omega
  have le := e_least (k := k) (by omega) (a.natAbs : Int) (b.natAbs : Int) nb (smB 40 q1) (smB 40 q2) [.dict []]
  obtain ⟨u1, u2⟩ := lw_b nb q1 q2
  have u3 := lw_pos (a := (a.natAbs : Int)) nb
  have u4 := lw_gcd (a := (a.natAbs : Int)) nb
  have u5 := lw_nn (a := (a.natAbs : Int)) (b := (b.natAbs : Int)) (by omega) (by omega)
  generalize lw (a.natAbs : Int) (b.natAbs : Int) = w at *
  obtain ⟨x, y⟩ := w
  simp only at u1 u2 u3 u4 u5
  have stx := e_shareText (k := k) (by omega) x y u5 (by omega) (by omega) (by omega) [.dict []]
  have l1 : (TL.numL x.toNat).length ≤ 20 := TL.numL_len (by decide) (by omega)
  have l2 : (TL.numL y.toNat).length ≤ 20 := TL.numL_len (by decide) (by omega)
  have w1 := add_str (st := [.dict []]) (a := TL.numL x.toNat) (b := [47]) (by simp; unfold lineN; omega)
  have w2 := add_str (st := [.dict []]) (a := TL.numL x.toNat ++ [47]) (b := TL.numL y.toNat) (by simp; unfold lineN; omega)
  simp only [List.append_assoc] at w2
  have ac : asc (TL.numL x.toNat ++ ([47] ++ TL.numL y.toNat)) := asc_append (dig_asc (numL_dig _)) (asc_append rfl (dig_asc (numL_dig _)))
  have al : (TL.numL x.toNat ++ ([47] ++ TL.numL y.toNat)).length ≤ 10000 := by simp only [List.length_append, List.length_singleton]; omega
  have sx := e_shareIn (k := k) (by omega) _ ac al [.dict []]
  have big : (2 : Nat) ^ 40 ≤ 10 ^ 100 := by decide
  rw [shIn_num (by omega) (by omega) (by omega), show ((x.toNat : Nat) : Int) = x by omega, show ((y.toNat : Nat) : Int) = y by omega, lw_same u4 u3] at sx
  have li := e_is (k := k) (by omega) (x, y) [.dict []]
  have ne := cmp_neS (st := [.dict []]) ac ac
  rw [decide_eq_true rfl] at ne
  generalize TL.numL x.toNat ++ ([47] ++ TL.numL y.toNat) = z at *
  have s1 : ∀ st, blt1 .str (.int x) st = .ok (.str (TL.numL x.toNat)) st := fun st => str_small u5 (by omega)
  have s2 : ∀ st, blt1 .str (.int y) st = .ok (.str (TL.numL y.toNat)) st := fun st => str_small (by omega) (by omega)
  by_cases hb : 0 < b
  · have eb : ((b.natAbs : Nat) : Int) = b := by omega
    rw [eb] at le
    refine ⟨[some s, some (.lst odd), some (.int i), some (.int c), some (.tup [.int a, .int b]), some (.tup [.int c', .int d]), some (pr (x, y))], [.dict []], ?_, rfl, _, _, _, _, _, rfl⟩
    · simp (disch := first | omega | decide) [lb, f_law, bin_mod, imod_pos, s__law_mixed, s__law_pair, m1, m2, m3, p1, p2, s__law_right, r1, r2, r3, eo, s_is_share, is, s__law_texts_right, tr, atI_0, atI_1, hb, s__law_least, le, s_share_text, stx, s1, s2, w1, w2, ne, s_share_in, sx, s__law_is, li]
  · have eb : ((b.natAbs : Nat) : Int) = -b := by omega
    rw [eb] at le
    refine ⟨[some s, some (.lst odd), some (.int i), some (.int c), some (.tup [.int a, .int b]), some (.tup [.int c', .int d]), some (pr (x, y))], [.dict []], ?_, rfl, _, _, _, _, _, rfl⟩
    · simp (disch := first | omega | decide) [lb, f_law, bin_mod, imod_pos, s__law_mixed, s__law_pair, m1, m2, m3, p1, p2, s__law_right, r1, r2, r3, eo, s_is_share, is, s__law_texts_right, tr, atI_0, atI_1, hb, s__law_least, le, s_share_text, stx, s1, s2, w1, w2, ne, s_share_in, sx, s__law_is, li]
theorem e_law (ns : List Int) (hn : ns.length ≤ 63) : ∃ st, C 40 "law" [.scr (ns.map .int)] [] = .ok (.bl true) st := by
  rw [show (40 : Nat) = 39 + 1 from rfl, C_run t_law ⟨rfl, by decide⟩]
  have hcut : ∃ cs : List Int, cut (ns.map D.int) none (some 63) = cs.map .int ∧ cs.length ≤ 63 := ⟨cut ns none (some 63), by unfold cut; simp [List.map_drop, List.map_take], Nat.le_trans (cut_len _ _ _) hn⟩
  obtain ⟨cs, ec, hc⟩ := hcut
  have hg : cs.length ≤ 16777215 := by omega
  obtain ⟨σ', st', e, hI⟩ := forL_keep (step := forStep ge (C 39) (.names [2, 3]) lb) (I (.scr (ns.map .int))) (xs := enumD 0 (cs.map D.int ++ [.int 7])) (σ := [some (.scr (ns.map .int)), some (.lst odd), none, none, none, none, none]) (st := [.dict []])
    (fun x hx σ st hI => by
      obtain ⟨i, d, rfl, hd⟩ := enum_mem hx
      obtain ⟨c, rfl⟩ : ∃ c : Int, d = .int c := by
        rcases List.mem_append.mp hd with h | h
        · obtain ⟨c, _, rfl⟩ := List.mem_map.mp h
          exact ⟨c, rfl⟩
        · rw [List.mem_singleton.mp h]; exact ⟨7, rfl⟩
      exact law_turn (by decide) _ i c σ st hI) ⟨rfl, _, _, _, _, _, rfl⟩
  obtain ⟨rfl, x2, x3, x4, x5, x6, rfl⟩ := hI
  simp only [lb, f_law, odd] at e
  have g1 : C 39 "share_in" [.int 5] [.dict []] = .ok .non [.dict []] := by
    rw [show (39 : Nat) = 38 + 1 from rfl, C_run t_share_in ⟨rfl, by decide⟩]
    simp [f_share_in, isTy]; exact fin_same (st := [.dict []]) (d := .non) rfl
  have g2 : C 39 "share_in" [.non] [.dict []] = .ok .non [.dict []] := by
    rw [show (39 : Nat) = 38 + 1 from rfl, C_run t_share_in ⟨rfl, by decide⟩]
    simp [f_share_in, isTy]; exact fin_same (st := [.dict []]) (d := .non) rfl
  have g3 : C 39 "share_in" [.lst [.str [49, 47, 50]]] [.dict []] = .ok .non [.dict []] := by
    rw [show (39 : Nat) = 38 + 1 from rfl, C_run t_share_in ⟨rfl, by decide⟩]
    simp [f_share_in, isTy]; exact fin_same (st := [.dict []]) (d := .non) rfl
  have g4 := e_whole (k := 39) (by decide) (.bl true) [.dict []]
  simp [f_law, addD, lineN, ec, hg, e, s_share_in, g1, g2, g3, s_is_whole, g4, isInt]
  exact ⟨_, fin_more (st := []) (ex := [.dict []]) rfl⟩
end K01
theorem PySem.Challenge.cw_faultwood_k01_shares_holds : PySem.Challenge.rw_faultwood_k01_shares.Holds :=
  K01.holds K01.e_law
end
