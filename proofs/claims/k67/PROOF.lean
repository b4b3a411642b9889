import PyProof.Rows.All
import HandS.ForMost
import HandS.IsInst
import HandS.TupAny
import HandS.Style
import HandS.Wide
import HandS.WordsExc
import HandS.Text
import HandS.CallLocal
import HandS.ExcIs
import HandS.Walk
import HandS.TryMany
import HandS.ExcOwn
import HandS.Defaults
import HandS.Head0
import HandS.Head1
import HandS.Head2
import HandS.HeadEnd
import HandS.HeadHook1
import HandS.HeadHook2
import PySem.Challenge.RW_echelon_k67_refused_operators
set_option Elab.async false
set_option linter.all false
set_option maxRecDepth 100000
/-! A pure reading of the small Python that the program is written in: values, a store of what changes, an evaluator. -/
namespace EV
open PySem

inductive D where
  | non | bl (b : Bool) | int (i : Int) | str (x : Str) | tup (l : List D) | ref (n : Nat) | fn (i : Nat) | cls (i : Nat) | kl (ns : List Int)
  deriving Inhabited

inductive Cell where
  | lst (l : List D)
  | fro (l : List D)
  | ins (c : Nat) (fs : List (Nat × D))
  deriving Inhabited

abbrev Store := List Cell
structure Ex where
  c : Nat
  f : Option Int

inductive Res (α : Type) where
  | ok (a : α) (S : Store)
  | err (x : Ex) (S : Store)
  | bad

def Res.bind {α β : Type} (r : Res α) (f : α → Store → Res β) : Res β :=
  match r with
  | .ok a S => f a S
  | .err x S => .err x S
  | .bad => .bad
@[simp] theorem Res.bind_ok {α β : Type} (a : α) (S : Store) (f : α → Store → Res β) : (Res.ok a S).bind f = f a S := rfl
@[simp] theorem Res.bind_err {α β : Type} (x : Ex) (S : Store) (f : α → Store → Res β) : (Res.err x S : Res α).bind f = .err x S := rfl
@[simp] theorem Res.bind_bad {α β : Type} (f : α → Store → Res β) : (Res.bad : Res α).bind f = .bad := rfl

/-- where no exception is carried -/
def Res.noerr {α : Type} (r : Res α) : Res α :=
  match r with
  | .err _ _ => .bad
  | r => r
@[simp] theorem Res.noerr_ok {α : Type} (a : α) (S : Store) : (Res.ok a S).noerr = .ok a S := rfl
@[simp] theorem Res.noerr_bad {α : Type} : (Res.bad : Res α).noerr = .bad := rfl
/-- what a name holds: nothing, a value, a caught exception -/
inductive SV where
  | no | val (d : D) | exc (c : Nat) (f : Option Int)
abbrev Env := List SV
/-- a statement's end -/
inductive RS where
  | next (σ : Env) (S : Store)
  | ret (d : D) (S : Store)
  | brk (σ : Env) (S : Store)
  | cont (σ : Env) (S : Store)
  | err (x : Ex) (σ : Env) (S : Store)
  | bad

inductive Bi where
  | len | int | str | tuple | list | abs | min | max | sum | any | all | sorted
inductive Mt where
  | append | pop | insert | extend | index | split | join | startswith | rjust | replace
/-- a class as isinstance names it -/
inductive Cl where
  | ty (n : String) | own (i : Nat)

mutual
inductive CE where
  | bad
  | slot (i : Nat)
  | lit (d : D)
  | glob (g : Nat)
  | tup (es : CEs)
  | lst (es : CEs)
  | bin (op : Operator) (a b : CE)
  | neg (a : CE)
  | not (a : CE)
  | and (a b : CE)
  | or (a b : CE)
  | cmp (op : CmpOp) (a b : CE)
  | cmp2 (op op' : CmpOp) (a b c : CE)
  | ite (c : CB) (a b : CE)
  | call (i : Nat) (es : CEs)
  | callv (i : Nat) (es : CEs)
  | bi (f : Bi) (es : CEs)
  | bic (f : Bi) (c : CC)
  | isi (a : CE) (t : Cl)
  | isiS (i : Nat) (t : Cl)
  | mth (m : Mt) (a : CE) (es : CEs)
  | fld (a : CE) (f : Nat)
  | ix (a b : CE)
  | sl (a : CE) (lo hi : CO)
  | rev (a : CE)
  | lc (c : CC)
inductive CO where
  | none | some (e : CE)
inductive CEs where
  | nil | cons (e : CE) (es : CEs)
inductive CB where
  | val (e : CE) | not (a : CB) | and (a b : CB) | or (a b : CB) | yes
inductive CC where
  | mk (vs : List Nat) (t : CT) (it : CI) (c : CB) (e : CE)
inductive CI where
  | bad
  | seq (e : CE)
  | range1 (a : CE)
  | range2 (a b : CE)
  | range3 (a b c : CE)
  | enum (e : CE)
inductive CT where
  | bad
  | slot (i : Nat)
  | tup (ts : CTs)
  | ix (o i : CE)
  | fld (o : CE) (f : Nat)
inductive CTs where
  | nil | cons (t : CT) (ts : CTs)
end

mutual
inductive CS where
  | bad
  | asg (t : CT) (e : CE)
  | par (i j : Nat) (a b : CE)
  | aug (i : Nat) (op : Operator) (e : CE)
  | forS (t : CT) (it : CI) (b : CSs)
  | whileS (c : CB) (b : CSs)
  | ite (c : CB) (a b : CSs)
  | ret (e : CE)
  | retN
  | expr (e : CE)
  | raise (c : Nat) (f : Option Int)
  | tryS (b : CSs) (hs : CHs)
  | brk | cont | pass
inductive CSs where
  | nil | cons (s : CS) (ss : CSs)
inductive CHs where
  | nil | cons (c : Cl) (slot : Option Nat) (b : CSs) (hs : CHs)
end

/-! ### values -/
mutual
/-- no references within -/
def D.pure : D → Bool
  | .tup l => D.pures l
  | .ref _ => false
  | _ => true
def D.pures : List D → Bool
  | [] => true
  | d :: l => d.pure && D.pures l
end
mutual
def D.lo (n : Nat) : D → Bool
  | .tup l => D.los n l
  | .ref i => decide (i < n)
  | _ => true
def D.los (n : Nat) : List D → Bool
  | [] => true
  | d :: l => d.lo n && D.los n l
end
def Cell.lo (n : Nat) : Cell → Bool
  | .lst l => D.los n l
  | .fro l => D.los n l
  | .ins _ fs => D.los n (fs.map (·.2))

/-- what == sees: the lists behind references, to a depth -/
def D.py (S : Store) : Nat → D → Option PyData
  | 0, _ => Option.none
  | n + 1, d =>
    match d with
    | .non => some .none
    | .bl b => some (.bool b)
    | .int i => some (.int i)
    | .str x => some (.str x)
    | .tup l => (l.mapM (D.py S n)).map .tuple
    | .ref i => match S[i]? with
      | some (.lst l) => (l.mapM (D.py S n)).map .list
      | some (.fro l) => (l.mapM (D.py S n)).map .list
      | _ => Option.none
    | _ => Option.none
def eqS (S : Store) (x y : D) : Option Bool :=
  match D.py S 70 x, D.py S 70 y with
  | some a, some b => if SeqAt.shaped a = true ∧ SeqAt.shaped b = true then some (PyData.eqv a b) else Option.none
  | _, _ => Option.none

def flat : D → Bool
  | .tup _ => false
  | .ref _ => false
  | .fn _ => false
  | .cls _ => false
  | .kl _ => false
  | _ => true
def eqF : D → D → Bool
  | .non, .non => true
  | .bl a, .bl b => a == b
  | .bl a, .int j => (if a then 1 else 0) == j
  | .int i, .bl b => i == (if b then 1 else 0)
  | .int i, .int j => i == j
  | .str x, .str y => x == y
  | _, _ => false

/-- truth -/
def truth (S : Store) : D → Option Bool
  | .non => some false
  | .bl b => some b
  | .int i => some (i != 0)
  | .str x => if x.length ≤ sizeLine then some (x.length != 0) else Option.none
  | .tup l => some (!l.isEmpty)
  | .ref i => match S[i]? with
    | some (.lst l) => some (!l.isEmpty)
    | some (.fro l) => some (!l.isEmpty)
    | _ => Option.none
  | _ => Option.none

/-- the items of a list or tuple -/
def seqOf (S : Store) : D → Option (List D)
  | .tup l => some l
  | .ref i => match S[i]? with
    | some (.lst l) => some l
    | some (.fro l) => some l
    | _ => Option.none
  | _ => Option.none
def lstOf (S : Store) (i : Nat) : Option (List D) :=
  match S[i]? with
  | some (.lst l) => some l
  | _ => Option.none

def okIf {α : Type} (c : Prop) [Decidable c] (r : Res α) : Res α := if c then r else .bad
@[simp] theorem okIf_true {α : Type} {c : Prop} [Decidable c] {r : Res α} (h : c) : okIf c r = r := by unfold okIf; rw [if_pos h]
def ofO {α β : Type} (o : Option α) (f : α → Res β) : Res β := match o with | some a => f a | Option.none => .bad
@[simp] theorem ofO_some {α β : Type} (a : α) (f : α → Res β) : ofO (some a) f = f a := rfl

def mulG (i j : Int) : Prop := i.natAbs.log2 + j.natAbs.log2 < 1000000
instance (i j : Int) : Decidable (mulG i j) := by unfold mulG; infer_instance

def binop (op : Operator) (x y : D) (S : Store) : Res D :=
  match op, x, y with
  | .Add, .int i, .int j => .ok (.int (i + j)) S
  | .Sub, .int i, .int j => .ok (.int (i - j)) S
  | .Mult, .int i, .int j => okIf (mulG i j) (.ok (.int (i * j)) S)
  | .FloorDiv, .int i, .int j => okIf (j ≠ 0 ∧ Builtin.divisionGoesByPylong i j = false) (.ok (.int (i.fdiv j)) S)
  | .Mod, .int i, .int j => okIf (j ≠ 0) (.ok (.int (i.fmod j)) S)
  | .Pow, .int i, .int j => okIf (0 ≤ j ∧ j ≤ 1000000 ∧ i.natAbs < 2 ^ 64) (.ok (.int (i ^ j.toNat)) S)
  | .LShift, .int i, .int j => okIf (0 ≤ j ∧ j ≤ 1000000 ∧ i.natAbs < 2 ^ 64) (.ok (.int (i * 2 ^ j.toNat)) S)
  | .Add, .str a, .str b => okIf (a.length + b.length ≤ sizeLine) (.ok (.str (a ++ b)) S)
  | .Add, .tup a, .tup b => okIf (a.length + b.length ≤ sizeLine) (.ok (.tup (a ++ b)) S)
  | .Add, .ref i, .ref j => ofO (lstOf S i) fun a => ofO (lstOf S j) fun b => okIf (a.length + b.length ≤ sizeLine) (.ok (.ref S.length) (S ++ [.lst (a ++ b)]))
  | .Mult, .ref i, .int k => ofO (lstOf S i) fun a => okIf (-(2 ^ 63) ≤ k ∧ k < 2 ^ 63 ∧ a.length * k.toNat ≤ sizeLine) (.ok (.ref S.length) (S ++ [.lst (List.replicate k.toNat a).flatten]))
  | _, _, _ => .bad

def isNonD : D → Bool
  | .non => true
  | _ => false
def isBlD (b : Bool) : D → Bool
  | .bl a => decide (a = b)
  | _ => false
def strLt (a b : Str) : Bool := decide (a.cps.toList < b.cps.toList)
def cmpop (op : CmpOp) (x y : D) (S : Store) : Res D :=
  match op with
  | .Eq => ofO (eqS S x y) fun b => .ok (.bl b) S
  | .NotEq => ofO (eqS S x y) fun b => .ok (.bl (!b)) S
  | .Lt => match x, y with
    | .int i, .int j => .ok (.bl (decide (i < j))) S
    | .str a, .str b => .ok (.bl (strLt a b)) S
    | _, _ => .bad
  | .LtE => match x, y with
    | .int i, .int j => .ok (.bl (decide (i ≤ j))) S
    | _, _ => .bad
  | .Gt => match x, y with
    | .int i, .int j => .ok (.bl (decide (j < i))) S
    | _, _ => .bad
  | .GtE => match x, y with
    | .int i, .int j => .ok (.bl (decide (j ≤ i))) S
    | _, _ => .bad
  | .Is => match y with
    | .non => .ok (.bl (isNonD x)) S
    | .bl b => .ok (.bl (isBlD b x)) S
    | _ => .bad
  | .IsNot => match y with
    | .non => .ok (.bl (!isNonD x)) S
    | .bl b => .ok (.bl (!isBlD b x)) S
    | _ => .bad
  | .In => match y with
    | .str b => match x with
      | .str a => .ok (.bl (!(Builtin.Str.occurrences b a 0 b.length 1).isEmpty)) S
      | _ => .bad
    | y => ofO (seqOf S y) fun l => okIf (flat x = true ∧ l.all flat = true) (.ok (.bl (l.any fun z => eqF z x)) S)
  | .NotIn => match y with
    | .str b => match x with
      | .str a => .ok (.bl (!(!(Builtin.Str.occurrences b a 0 b.length 1).isEmpty))) S
      | _ => .bad
    | y => ofO (seqOf S y) fun l => okIf (flat x = true ∧ l.all flat = true) (.ok (.bl (!(l.any fun z => eqF z x))) S)

def intsD : List D → Option (List Int)
  | [] => some []
  | .int i :: l => (intsD l).map (i :: ·)
  | _ :: _ => Option.none
def boolsD : List D → Option (List Bool)
  | [] => some []
  | .bl i :: l => (boolsD l).map (i :: ·)
  | _ :: _ => Option.none
def strsD : List D → Option (List Str)
  | [] => some []
  | .str i :: l => (strsD l).map (i :: ·)
  | _ :: _ => Option.none

/-- a built-in over the items of a list -/
def biL (f : Bi) (l : List D) (S : Store) : Res D :=
  match f with
  | .len => .ok (.int l.length) S
  | .tuple => .ok (.tup l) S
  | .list => .ok (.ref S.length) (S ++ [.lst l])
  | .sum => ofO (intsD l) fun ns => .ok (.int ns.sum) S
  | .any => ofO (boolsD l) fun bs => .ok (.bl (bs.any id)) S
  | .all => ofO (boolsD l) fun bs => .ok (.bl (bs.all id)) S
  | .max => ofO (intsD l) fun ns => match ns with | [] => .bad | n :: r => .ok (.int (r.foldl max n)) S
  | .min => ofO (intsD l) fun ns => match ns with | [] => .bad | n :: r => .ok (.int (r.foldl min n)) S
  | _ => .bad
/-- .. over the items of a tuple -/
def biT (f : Bi) (l : List D) (S : Store) : Res D :=
  match f with
  | .len => .ok (.int l.length) S
  | .tuple => .ok (.tup l) S
  | .list => .ok (.ref S.length) (S ++ [.lst l])
  | _ => .bad
def biI (f : Bi) (i : Int) (S : Store) : Res D :=
  match f with
  | .int => .ok (.int i) S
  | .abs => .ok (.int (if i < 0 then -i else i)) S
  | .str => okIf (i.natAbs.log2 < 1920) (.ok (.str (toString i)) S)
  | _ => .bad
def biB (f : Bi) (b : Bool) (S : Store) : Res D :=
  match f with
  | .int => .ok (.int (if b then 1 else 0)) S
  | _ => .bad
def biS (f : Bi) (x : Str) (S : Store) : Res D :=
  match f with
  | .len => okIf (x.length ≤ sizeLine) (.ok (.int x.length) S)
  | .int => ofO (PySem.intText? x) fun n => okIf (x.length ≤ 640) (.ok (.int n) S)
  | _ => .bad
def biII (f : Bi) (i j : Int) (S : Store) : Res D :=
  match f with
  | .max => .ok (.int (if j > i then j else i)) S
  | .min => .ok (.int (if j < i then j else i)) S
  | _ => .bad
def bi1 (f : Bi) (d : D) (S : Store) : Res D :=
  match d with
  | .tup l => biT f l S
  | .ref i => ofO (seqOf S (.ref i)) fun l => biL f l S
  | .int i => biI f i S
  | .bl b => biB f b S
  | .str x => biS f x S
  | _ => .bad
def bi2 (f : Bi) (d e : D) (S : Store) : Res D :=
  match d, e with
  | .int i, .int j => biII f i j S
  | _, _ => .bad
def biop (f : Bi) (xs : List D) (S : Store) : Res D :=
  match xs with
  | [d] => bi1 f d S
  | [d, e] => bi2 f d e S
  | _ => .bad

def clOf (S : Store) : D → Option String
  | .non => some "NoneType"
  | .bl _ => some "bool"
  | .int _ => some "int"
  | .str _ => some "str"
  | .tup _ => some "tuple"
  | .ref i => match S[i]? with
    | some (.lst _) => some "list"
    | some (.fro _) => some "list"
    | _ => Option.none
  | _ => Option.none

/-- what the program's own classes are: the bases of each, own ones by number -/
structure Ctx where
  isSub : Nat → Cl → Option Bool     -- is the own exception class i under this class
  globs : Nat → D
  call : Nat → List D → Store → Res D
  has : Nat → Bool

def isiop (x : D) (t : Cl) (S : Store) : Res D :=
  match t with
  | .ty n => ofO (clOf S x) fun c => ofO (L2.kitB c n) fun b => .ok (.bl b) S
  | .own _ => .bad

def ixop (x y : D) (S : Store) : Res D :=
  match y with
  | .int i => match x with
    | .str z => okIf (z.length ≤ sizeLine) (ofO (L2.atI z.cps.toList i) fun c => .ok (.str ⟨#[c]⟩) S)
    | x => ofO (seqOf S x) fun l => ofO (L2.atI l i) fun d => .ok d S
  | _ => .bad
/-- a slice of a list of anything -/
def cut {α : Type} (xs : List α) (lo hi : Option Int) : List α := (xs.drop (_root_.HT.sIx xs.length 0 lo)).take (_root_.HT.sIx xs.length xs.length hi - _root_.HT.sIx xs.length 0 lo)
def slop (x : D) (lo hi : Option Int) (S : Store) : Res D :=
  match x with
  | .tup l => .ok (.tup (cut l lo hi)) S
  | .ref i => ofO (seqOf S (.ref i)) fun l => .ok (.ref S.length) (S ++ [.lst (cut l lo hi)])
  | .kl ns => .ok (.ref S.length) (S ++ [.lst (cut (ns.map .int) lo hi)])
  | _ => .bad
def revop (x : D) (S : Store) : Res D :=
  match x with
  | .ref i => ofO (seqOf S (.ref i)) fun l => .ok (.ref S.length) (S ++ [.lst l.reverse])
  | _ => .bad
def mAppend (x : D) (xs : List D) (S : Store) : Res D :=
  match x, xs with
  | .ref i, [d] => ofO (lstOf S i) fun l => okIf (l.length < sizeLine) (.ok .non (S.set i (.lst (l ++ [d]))))
  | _, _ => .bad
def mPop (x : D) (xs : List D) (S : Store) : Res D :=
  match x, xs with
  | .ref i, [] => ofO (lstOf S i) fun l => ofO l.getLast? fun d => .ok d (S.set i (.lst l.dropLast))
  | _, _ => .bad
def mExtend (x : D) (xs : List D) (S : Store) : Res D :=
  match x, xs with
  | .ref i, [.ref j] => ofO (lstOf S i) fun l => ofO (lstOf S j) fun l' => okIf (l.length + l'.length ≤ sizeLine) (.ok .non (S.set i (.lst (l ++ l'))))
  | _, _ => .bad
def mtop (m : Mt) (x : D) (xs : List D) (S : Store) : Res D :=
  match m with
  | .append => mAppend x xs S
  | .pop => mPop x xs S
  | .extend => mExtend x xs S
  | _ => .bad
/-- the receiver is of the method's type -/
def mtChk (m : Mt) (x : D) (S : Store) : Bool :=
  match m with
  | .append | .pop | .extend | .insert | .index => match x with
    | .ref i => (seqOf S (.ref i)).isSome
    | _ => false
  | _ => match x with
    | .str _ => true
    | _ => false
def setop (o i v : D) (S : Store) : Res Unit :=
  match o, i with
  | .ref p, .int k => ofO (lstOf S p) fun l => ofO (L2.ixN l.length k) fun j => .ok () (S.set p (.lst (l.set j v)))
  | _, _ => .bad

/-- x op= y, of ints and texts -/
def augop (op : Operator) (x y : D) (S : Store) : Res D :=
  match x, y with
  | .int i, .int j => binop op (.int i) (.int j) S
  | .str i, .str j => binop op (.str i) (.str j) S
  | _, _ => .bad
/-! ### what is walked -/
structure It where
  src : Option (Nat × List D)
  items : List D
/-- the list that is walked stands as it was -/
def It.still (J : It) (S : Store) : Prop := match J.src with
  | Option.none => True
  | some (i, l) => seqOf S (.ref i) = some l
open Classical in
noncomputable def chk {α : Type} (c : Prop) (r : Res α) : Res α := if c then r else .bad
open Classical in
noncomputable def chkS (c : Prop) (r : RS) : RS := if c then r else .bad
@[simp] theorem chk_true {α : Type} {c : Prop} {r : Res α} (h : c) : chk c r = r := by unfold chk; rw [if_pos h]
@[simp] theorem chkS_true {c : Prop} {r : RS} (h : c) : chkS c r = r := by unfold chkS; rw [if_pos h]

def rangeOf (lo c : Int) (n : Nat) : List D := (List.range n).map fun i => .int (lo + (i : Nat) * c)
def itRange1 (x : D) (S : Store) : Res It :=
  match x with
  | .int j => okIf (-(2 ^ 62) ≤ j ∧ j < 2 ^ 62) (.ok ⟨none, rangeOf 0 1 j.toNat⟩ S)
  | _ => .bad
def itRange2 (x y : D) (S : Store) : Res It :=
  match x, y with
  | .int i, .int j => okIf (-(2 ^ 62) ≤ i ∧ i < 2 ^ 62 ∧ -(2 ^ 62) ≤ j ∧ j < 2 ^ 62) (.ok ⟨none, rangeOf i 1 (j - i).toNat⟩ S)
  | _, _ => .bad
def itRange3 (x y z : D) (S : Store) : Res It :=
  match x, y, z with
  | .int i, .int j, .int c => okIf (c = -1 ∧ -(2 ^ 62) ≤ i ∧ i < 2 ^ 62 ∧ -(2 ^ 62) ≤ j ∧ j < 2 ^ 62) (.ok ⟨none, rangeOf i (-1) (i - j).toNat⟩ S)
  | _, _, _ => .bad
def itSeq (x : D) (S : Store) : Res It :=
  match x with
  | .tup l => .ok ⟨none, l⟩ S
  | .ref i => ofO (seqOf S (.ref i)) fun l => .ok ⟨some (i, l), l⟩ S
  | .str z => .ok ⟨none, z.cps.toList.map fun c => .str ⟨#[c]⟩⟩ S
  | _ => .bad
def enumOf (l : List D) : List D := l.zipIdx.map fun p => .tup [.int (p.2 : Nat), p.1]
def itEnum (x : D) (S : Store) : Res It :=
  match x with
  | .ref i => ofO (seqOf S (.ref i)) fun l => .ok ⟨some (i, l), enumOf l⟩ S
  | _ => .bad

def ofR {α : Type} (r : Res α) (σ : Env) (f : α → Store → RS) : RS :=
  match r with
  | .ok a S => f a S
  | .err x S => .err x σ S
  | .bad => .bad
@[simp] theorem ofR_ok {α : Type} (a : α) (S : Store) (σ : Env) (f : α → Store → RS) : ofR (.ok a S) σ f = f a S := rfl

/-- the turns of a for -/
noncomputable def turns (J : It) (body : D → Env → Store → RS) : List D → Env → Store → RS
  | [], σ, S => chkS (J.still S) (.next σ S)
  | d :: ds, σ, S => chkS (J.still S) (match body d σ S with
    | .next σ' S' => turns J body ds σ' S'
    | .cont σ' S' => turns J body ds σ' S'
    | .brk σ' S' => .next σ' S'
    | .ret d' S' => .ret d' S'
    | .err x σ' S' => .err x σ' S'
    | .bad => .bad)
/-- the turns of a comprehension -/
noncomputable def gather (J : It) (elt : D → Store → Res (Option D)) : List D → Store → Res (List D)
  | [], S => chk (J.still S) (.ok [] S)
  | d :: ds, S => chk (J.still S) ((elt d S).bind fun o S' => (gather J elt ds S').bind fun l S'' => .ok (match o with | some x => x :: l | Option.none => l) S'')

/-- one turn of a comprehension: the target, the test, the element -/
def eltF (T : D → Store → Res Env) (B : Env → Store → Res Bool) (E : Env → Store → Res D) (d : D) (S : Store) : Res (Option D) :=
  ((T d S).bind fun σ' S' => (B σ' S').bind fun b S'' => match b with
    | true => (E σ' S'').bind fun x S3 => .ok (some x) S3
    | false => .ok none S'').noerr
/-! ### while -/
def whileN (c : Env → Store → Res Bool) (b : Env → Store → RS) : Nat → Env → Store → RS
  | 0, _, _ => .bad
  | n + 1, σ, S => match c σ S with
    | .bad => .bad
    | .err x S' => .err x σ S'
    | .ok false S' => .next σ S'
    | .ok true S' => match b σ S' with
      | .next σ' S'' => whileN c b n σ' S''
      | .cont σ' S'' => whileN c b n σ' S''
      | .brk σ' S'' => .next σ' S''
      | .ret d S'' => .ret d S''
      | .err x σ' S'' => .err x σ' S''
      | .bad => .bad
open Classical in
noncomputable def whileR (c : Env → Store → Res Bool) (b : Env → Store → RS) (σ : Env) (S : Store) : RS :=
  if h : ∃ n, whileN c b n σ S ≠ .bad then whileN c b h.choose σ S else .bad
theorem whileN_mono {c : Env → Store → Res Bool} {b : Env → Store → RS} : ∀ (n k : Nat) (σ : Env) (S : Store), whileN c b n σ S ≠ .bad → whileN c b (n + k) σ S = whileN c b n σ S
  | 0, _, _, _, h => absurd rfl h
  | n + 1, k, σ, S, h => by
    have e : n + 1 + k = (n + k) + 1 := by omega
    rw [e]
    unfold whileN at h ⊢
    split
    · rfl
    · rfl
    · rfl
    · rename_i S' hc
      rw [hc] at h
      simp only at h
      split
      · rename_i σ' S'' hb
        rw [hb] at h
        exact whileN_mono n k _ _ h
      · rename_i σ' S'' hb
        rw [hb] at h
        exact whileN_mono n k _ _ h
      all_goals rfl
theorem whileR_of {c : Env → Store → Res Bool} {b : Env → Store → RS} {n : Nat} {σ : Env} {S : Store} {r : RS} (h : whileN c b n σ S = r) (hr : r ≠ .bad) : whileR c b σ S = r := by
  have hx : ∃ n, whileN c b n σ S ≠ .bad := ⟨n, by rw [h]; exact hr⟩
  unfold whileR
  rw [dif_pos hx]
  have h2 := hx.choose_spec
  have e1 := whileN_mono (c := c) (b := b) hx.choose n σ S h2
  have e2 := whileN_mono (c := c) (b := b) n hx.choose σ S (by rw [h]; exact hr)
  rw [← e1, Nat.add_comm, e2, h]
theorem whileR_fuel {c : Env → Store → Res Bool} {b : Env → Store → RS} {σ : Env} {S : Store} (h : whileR c b σ S ≠ .bad) : ∃ n, whileN c b n σ S = whileR c b σ S := by
  unfold whileR at h ⊢
  split
  · rename_i hx
    exact ⟨_, rfl⟩
  · rename_i hx
    rw [dif_neg hx] at h
    exact absurd rfl h
/-- one turn -/
theorem whileR_eq (c : Env → Store → Res Bool) (b : Env → Store → RS) (σ : Env) (S : Store) : whileR c b σ S = match c σ S with
    | .bad => .bad
    | .err x S' => .err x σ S'
    | .ok false S' => .next σ S'
    | .ok true S' => match b σ S' with
      | .next σ' S'' => whileR c b σ' S''
      | .cont σ' S'' => whileR c b σ' S''
      | .brk σ' S'' => .next σ' S''
      | .ret d S'' => .ret d S''
      | .err x σ' S'' => .err x σ' S''
      | .bad => .bad := by
  generalize hr : (match c σ S with
    | .bad => RS.bad
    | .err x S' => .err x σ S'
    | .ok false S' => .next σ S'
    | .ok true S' => match b σ S' with
      | .next σ' S'' => whileR c b σ' S''
      | .cont σ' S'' => whileR c b σ' S''
      | .brk σ' S'' => .next σ' S''
      | .ret d S'' => .ret d S''
      | .err x σ' S'' => .err x σ' S''
      | .bad => .bad) = r
  by_cases hb : r = .bad
  · subst hb
    by_cases hw : whileR c b σ S = .bad
    · exact hw
    · exfalso
      obtain ⟨n, hn⟩ := whileR_fuel hw
      rw [← hn] at hw
      cases n with
      | zero => exact hw rfl
      | succ n =>
        unfold whileN at hw
        split at hw
        · exact hw rfl
        · rename_i x S' hc; rw [hc] at hr; cases hr
        · rename_i S' hc; rw [hc] at hr; cases hr
        · rename_i S' hc
          rw [hc] at hr
          simp only at hr
          split at hw
          · rename_i σ' S'' hb2
            rw [hb2] at hr
            simp only at hr
            exact hw (by
              by_cases q : whileN c b n σ' S'' = .bad
              · exact q
              · exact absurd (hr.symm.trans (whileR_of rfl q)) (fun z => q z.symm))
          · rename_i σ' S'' hb2
            rw [hb2] at hr
            simp only at hr
            exact hw (by
              by_cases q : whileN c b n σ' S'' = .bad
              · exact q
              · exact absurd (hr.symm.trans (whileR_of rfl q)) (fun z => q z.symm))
          · rename_i σ' S'' hb2; rw [hb2] at hr; cases hr
          · rename_i σ' S'' hb2; rw [hb2] at hr; cases hr
          · rename_i σ' S'' hb2; rw [hb2] at hr; cases hr
          · exact hw rfl
  · -- r is reached
    have key : ∃ n, whileN c b n σ S = r := by
      split at hr
      · exact absurd hr.symm hb
      · rename_i x S' hc; exact ⟨1, by unfold whileN; rw [hc]; exact hr⟩
      · rename_i S' hc; exact ⟨1, by unfold whileN; rw [hc]; exact hr⟩
      · rename_i S' hc
        split at hr
        · rename_i σ' S'' hb2
          obtain ⟨n, hn⟩ := whileR_fuel (c := c) (b := b) (σ := σ') (S := S'') (by rw [hr]; exact hb)
          exact ⟨n + 1, by unfold whileN; rw [hc]; simp only [hb2]; rw [hn, hr]⟩
        · rename_i σ' S'' hb2
          obtain ⟨n, hn⟩ := whileR_fuel (c := c) (b := b) (σ := σ') (S := S'') (by rw [hr]; exact hb)
          exact ⟨n + 1, by unfold whileN; rw [hc]; simp only [hb2]; rw [hn, hr]⟩
        · rename_i σ' S'' hb2; exact ⟨1, by unfold whileN; rw [hc]; simp only [hb2]; exact hr⟩
        · rename_i σ' S'' hb2; exact ⟨1, by unfold whileN; rw [hc]; simp only [hb2]; exact hr⟩
        · rename_i σ' S'' hb2; exact ⟨1, by unfold whileN; rw [hc]; simp only [hb2]; exact hr⟩
        · exact absurd hr.symm hb
    obtain ⟨n, hn⟩ := key
    exact whileR_of hn hb

/-! ### the evaluator -/
def SV.plain : SV → Bool
  | .exc _ _ => false
  | _ => true
/-- behind an except suite no name holds an exception -/
def leave (r : RS) : RS :=
  match r with
  | .next σ S => if σ.all SV.plain then .next σ S else .bad
  | .brk σ S => if σ.all SV.plain then .brk σ S else .bad
  | .cont σ S => if σ.all SV.plain then .cont σ S else .bad
  | .ret d S => .ret d S
  | _ => .bad
def forgetAt (i : Nat) (r : RS) : RS :=
  match r with
  | .next σ S => .next (σ.set i .no) S
  | .brk σ S => .brk (σ.set i .no) S
  | .cont σ S => .cont (σ.set i .no) S
  | r => r
def wipeE (σ : Env) : List Nat → Env
  | [] => σ
  | v :: vs => (wipeE σ vs).set v .no

mutual
noncomputable def evE (C : Ctx) : CE → Env → Store → Res D
  | .bad, _, _ => .bad
  | .slot i, σ, S => match σ[i]? with
    | some (.val d) => .ok d S
    | _ => .bad
  | .lit d, _, S => .ok d S
  | .glob g, _, S => .ok (C.globs g) S
  | .tup es, σ, S => (evEs C es σ S).bind fun l S' => .ok (.tup l) S'
  | .lst es, σ, S => (evEs C es σ S).bind fun l S' => .ok (.ref S'.length) (S' ++ [.lst l])
  | .bin op a b, σ, S => (evE C a σ S).bind fun x S1 => (evE C b σ S1).bind fun y S2 => binop op x y S2
  | .neg a, σ, S => (evE C a σ S).bind fun x S1 => match x with
    | .int i => .ok (.int (-i)) S1
    | _ => .bad
  | .not a, σ, S => (evE C a σ S).bind fun x S1 => match x with
    | .bl c => .ok (.bl (!c)) S1
    | _ => .bad
  | .and a b, σ, S => (evE C a σ S).bind fun x S1 => match x with
    | .bl true => evE C b σ S1
    | .bl false => .ok (.bl false) S1
    | _ => .bad
  | .or a b, σ, S => (evE C a σ S).bind fun x S1 => match x with
    | .bl false => evE C b σ S1
    | .bl true => .ok (.bl true) S1
    | _ => .bad
  | .cmp op a b, σ, S => (evE C a σ S).bind fun x S1 => (evE C b σ S1).bind fun y S2 => cmpop op x y S2
  | .cmp2 op op' a b c, σ, S => (evE C a σ S).bind fun x S1 => (evE C b σ S1).bind fun y S2 => (cmpop op x y S2).bind fun r S3 => match r with
    | .bl true => (evE C c σ S3).bind fun z S4 => cmpop op' y z S4
    | .bl false => .ok (.bl false) S3
    | _ => .bad
  | .ite c a b, σ, S => (evB C c σ S).bind fun t S1 => match t with
    | true => evE C a σ S1
    | false => evE C b σ S1
  | .call i es, σ, S => (evEs C es σ S).bind fun l S1 => C.call i l S1
  | .callv i es, σ, S => match σ[i]? with
    | some (.val (.fn f)) => okIf (C.has f = true) ((evEs C es σ S).bind fun l S1 => C.call f l S1)
    | _ => .bad
  | .bi f es, σ, S => (evEs C es σ S).bind fun l S1 => biop f l S1
  | .bic f c, σ, S => (evC C c σ S).bind fun l S1 => biL f l S1
  | .isi a t, σ, S => (evE C a σ S).bind fun x S1 => isiop x t S1
  | .isiS i t, σ, S => match σ[i]? with
    | some (.val x) => isiop x t S
    | some (.exc c _) => ofO (C.isSub c t) fun b => .ok (.bl b) S
    | _ => .bad
  | .mth m a es, σ, S => (evE C a σ S).bind fun x S1 => okIf (mtChk m x S1 = true) <| (evEs C es σ S1).bind fun l S2 => mtop m x l S2
  | .fld a f, σ, S => (evE C a σ S).bind fun x S1 => match x with
    | .ref i => match S1[i]? with
      | some (.ins c fs) => ofO (fs.lookup f) fun d => .ok d S1
      | _ => .bad
    | _ => .bad
  | .ix a b, σ, S => (evE C a σ S).bind fun x S1 => (evE C b σ S1).bind fun y S2 => ixop x y S2
  | .sl a lo hi, σ, S => (evE C a σ S).bind fun x S1 => (evO C lo σ S1).bind fun l S2 => (evO C hi σ S2).bind fun h S3 => slop x l h S3
  | .rev a, σ, S => (evE C a σ S).bind fun x S1 => revop x S1
  | .lc c, σ, S => (evC C c σ S).bind fun l S1 => .ok (.ref S1.length) (S1 ++ [.lst l])
noncomputable def evO (C : Ctx) : CO → Env → Store → Res (Option Int)
  | .none, _, S => .ok none S
  | .some e, σ, S => (evE C e σ S).bind fun x S1 => match x with
    | .int i => .ok (some i) S1
    | _ => .bad
noncomputable def evEs (C : Ctx) : CEs → Env → Store → Res (List D)
  | .nil, _, S => .ok [] S
  | .cons e es, σ, S => (evE C e σ S).bind fun x S1 => (evEs C es σ S1).bind fun l S2 => .ok (x :: l) S2
noncomputable def evB (C : Ctx) : CB → Env → Store → Res Bool
  | .val e, σ, S => (evE C e σ S).bind fun x S1 => ofO (truth S1 x) fun b => .ok b S1
  | .not a, σ, S => (evB C a σ S).bind fun b S1 => .ok (!b) S1
  | .and a b, σ, S => (evB C a σ S).bind fun t S1 => match t with
    | true => evB C b σ S1
    | false => .ok false S1
  | .or a b, σ, S => (evB C a σ S).bind fun t S1 => match t with
    | true => .ok true S1
    | false => evB C b σ S1
  | .yes, _, S => .ok true S
noncomputable def evC (C : Ctx) : CC → Env → Store → Res (List D)
  | .mk vs t it c e, σ, S => (evI C it σ S).bind fun J S1 => okIf (J.items.length ≤ sizeLine) <|
      gather J (eltF (fun d S => evT C t d (wipeE σ vs) S) (fun σ' S => evB C c σ' S) (fun σ' S => evE C e σ' S)) J.items S1
noncomputable def evI (C : Ctx) : CI → Env → Store → Res It
  | .bad, _, _ => .bad
  | .seq e, σ, S => (evE C e σ S).bind fun x S1 => itSeq x S1
  | .range1 a, σ, S => (evE C a σ S).bind fun x S1 => itRange1 x S1
  | .range2 a b, σ, S => (evE C a σ S).bind fun x S1 => (evE C b σ S1).bind fun y S2 => itRange2 x y S2
  | .range3 a b c, σ, S => (evE C a σ S).bind fun x S1 => (evE C b σ S1).bind fun y S2 => (evE C c σ S2).bind fun z S3 => itRange3 x y z S3
  | .enum e, σ, S => (evE C e σ S).bind fun x S1 => itEnum x S1
noncomputable def evT (C : Ctx) : CT → D → Env → Store → Res Env
  | .bad, _, _, _ => .bad
  | .slot i, d, σ, S => .ok (σ.set i (.val d)) S
  | .tup ts, d, σ, S => ofO (match d with | .tup l => some l | _ => none) fun l => evTs C ts l σ S
  | .ix o i, d, σ, S => ((evE C o σ S).bind fun x S1 => (evE C i σ S1).bind fun y S2 => (setop x y d S2).bind fun _ S3 => .ok σ S3).noerr
  | .fld o f, d, σ, S => .bad
noncomputable def evTs (C : Ctx) : CTs → List D → Env → Store → Res Env
  | .nil, [], σ, S => .ok σ S
  | .cons t ts, d :: l, σ, S => (evT C t d σ S).bind fun σ' S' => evTs C ts l σ' S'
  | _, _, _, _ => .bad
end

mutual
noncomputable def evS (C : Ctx) : CS → Env → Store → RS
  | .bad, _, _ => .bad
  | .asg t e, σ, S => ofR (evE C e σ S) σ fun d S1 => ofR (evT C t d σ S1) σ fun σ' S2 => .next σ' S2
  | .par i j a b, σ, S => ofR (evE C a σ S) σ fun x S1 => ofR (evE C b σ S1) σ fun y S2 => .next ((σ.set i (.val x)).set j (.val y)) S2
  | .aug i op e, σ, S => match σ[i]? with
    | some (.val x) => ofR (evE C e σ S) σ fun y S1 => ofR (augop op x y S1) σ fun z S2 => .next (σ.set i (.val z)) S2
    | _ => .bad
  | .forS t it b, σ, S => ofR (evI C it σ S) σ fun J S1 =>
      turns J (fun d σ S => ofR (evT C t d σ S) σ fun σ' S' => evSs C b σ' S') J.items σ S1
  | .whileS c b, σ, S => whileR (fun σ S => evB C c σ S) (fun σ S => evSs C b σ S) σ S
  | .ite c a b, σ, S => ofR (evB C c σ S) σ fun t S1 => match t with
    | true => evSs C a σ S1
    | false => evSs C b σ S1
  | .ret e, σ, S => ofR (evE C e σ S) σ fun d S1 => .ret d S1
  | .retN, _, S => .ret .non S
  | .expr e, σ, S => ofR (evE C e σ S) σ fun _ S1 => .next σ S1
  | .raise c f, σ, S => .err ⟨c, f⟩ σ S
  | .tryS b hs, σ, S => match evSs C b σ S with
    | .err x σ' S' => evHs C hs x σ' S'
    | r => r
  | .brk, σ, S => .brk σ S
  | .cont, σ, S => .cont σ S
  | .pass, σ, S => .next σ S
noncomputable def evSs (C : Ctx) : CSs → Env → Store → RS
  | .nil, σ, S => .next σ S
  | .cons s ss, σ, S => match evS C s σ S with
    | .next σ' S' => evSs C ss σ' S'
    | r => r
noncomputable def evHs (C : Ctx) : CHs → Ex → Env → Store → RS
  | .nil, x, σ, S => .err x σ S
  | .cons c slot b hs, x, σ, S => match C.isSub x.c c with
    | some true => match slot with
      | none => leave (evSs C b σ S)
      | some i => if x.f = none then leave (forgetAt i (evSs C b (σ.set i (.exc x.c x.f)) S)) else .bad
    | some false => evHs C hs x σ S
    | none => .bad
end

/-! ### defs -/
structure Fn where
  np : Nat
  ns : Nat
  body : CSs
/-- behind a call: what it laid and nobody sees is dropped -/
def trimOk (S S' : Store) : Prop := ∀ i, i < S.length → S'[i]? = S[i]? ∨ ∃ c, S'[i]? = some c ∧ c.lo S.length = true
open Classical in
noncomputable def trim (S S' : Store) (d : D) : Store := if d.pure = true ∧ trimOk S S' then S'.take S.length else S'
open Classical in
noncomputable def trimX (S S' : Store) : Store := if trimOk S S' then S'.take S.length else S'
structure Prog where
  fns : Nat → Option Fn
  isSub : Nat → Cl → Option Bool
  globs : Nat → D
noncomputable def callF (P : Prog) : Nat → Nat → List D → Store → Res D
  | 0, _, _, _ => .bad
  | k + 1, i, ds, S => match P.fns i with
    | none => .bad
    | some f => if ds.length = f.np then
        match evSs ⟨P.isSub, P.globs, callF P k, fun i => (P.fns i).isSome⟩ f.body (ds.map .val ++ List.replicate (f.ns - f.np) .no) S with
        | .ret d S' => .ok d (trim S S' d)
        | .next _ S' => .ok .non (trim S S' .non)
        | .err x _ S' => .err x (trimX S S')
        | _ => .bad
      else .bad
noncomputable abbrev Prog.ctx (P : Prog) (k : Nat) : Ctx := ⟨P.isSub, P.globs, callF P k, fun i => (P.fns i).isSome⟩
end EV

/-! How the evaluator's values and store lie in the machine's heap. -/
namespace EV
open PySem L2

/-- the written part, where the defs and own classes stand, what a caught exception is -/
structure GS where
  K : PySem.W.Frag
  fa : Nat → Addr
  ca : Nat → Addr
  xr : Addr → Nat → Option Int → Prop

mutual
def RV (G : GS) (m : List Addr) (H : Hp) : V → D → Prop
  | v, .non => v = .non
  | v, .bl b => v = .bl b
  | v, .int i => v = .int i
  | v, .str x => v = .str x
  | v, .tup l => ∃ a xs, v = .ref a ∧ SqT G.K H a xs ∧ RVs G m H xs l ∧ xs.length ≤ sizeLine
  | v, .ref i => ∃ a, v = .ref a ∧ m[i]? = some a
  | v, .fn i => v = .ref (G.fa i)
  | v, .cls i => v = .ref (G.ca i)
  | v, .kl ns => ∃ a, v = .ref a ∧ (∀ H, SqL G.K H a (ns.map V.int)) ∧ ns.length ≤ sizeLine
def RVs (G : GS) (m : List Addr) (H : Hp) : List V → List D → Prop
  | [], [] => True
  | v :: vs, d :: ds => RV G m H v d ∧ RVs G m H vs ds
  | _, _ => False
end

def putFs (fs : List (Nat × D)) (f : Nat) (d : D) : List (Nat × D) := fs  -- (not yet)

def RC (G : GS) (m : List Addr) (H : Hp) (a : Addr) : Cell → Prop
  | .lst l => ∃ xs, H a = some (.lst xs) ∧ RVs G m H xs l ∧ xs.length ≤ sizeLine
  | .fro l => ∃ o xs, H a = some (.frz o (.lst xs)) ∧ RVs G m H xs l ∧ xs.length ≤ sizeLine
  | .ins _ _ => False

structure Rep (G : GS) (m : List Addr) (S : Store) (H : Hp) : Prop where
  len : m.length = S.length
  nd : m.Nodup
  cell : ∀ (i : Nat) (a : Addr) (c : Cell), m[i]? = some a → S[i]? = some c → RC G m H a c

/-- the store has grown, what is not the store's is kept -/
structure Grow (m : List Addr) (H : Hp) (m1 : List Addr) (H1 : Hp) : Prop where
  ex : ∃ m', m1 = m ++ m' ∧ ∀ a ∈ m', a ∉ m ∧ H a = none
  keep : ∀ a o, a ∉ m → H a = some o → H1 a = some o

theorem Grow.refl (m : List Addr) (H : Hp) : Grow m H m H := ⟨⟨[], by simp, by simp⟩, fun _ _ _ h => h⟩
theorem Grow.trans {m m1 m2 : List Addr} {H H1 H2 : Hp} (a : Grow m H m1 H1) (b : Grow m1 H1 m2 H2) : Grow m H m2 H2 := by
  obtain ⟨m', rfl, h1⟩ := a.ex
  obtain ⟨m'', rfl, h2⟩ := b.ex
  refine ⟨⟨m' ++ m'', by simp, fun c hc => ?_⟩, fun c o hn hc => ?_⟩
  · rcases List.mem_append.mp hc with q | q
    · exact h1 c q
    · obtain ⟨n1, n2⟩ := h2 c q
      have n3 : c ∉ m := fun z => n1 (List.mem_append_left _ z)
      refine ⟨n3, ?_⟩
      cases e : H c with
      | none => rfl
      | some o => rw [a.keep c o n3 e] at n2; cases n2
  · have hn' : c ∉ m' := fun z => by
      have := (h1 c z).2
      rw [hc] at this; cases this
    exact b.keep c o (fun z => (List.mem_append.mp z).elim hn hn') (a.keep c o hn hc)
theorem Grow.get {m m1 : List Addr} {H H1 : Hp} (g : Grow m H m1 H1) {i : Nat} {a : Addr} (h : m[i]? = some a) : m1[i]? = some a := by
  obtain ⟨m', rfl, _⟩ := g.ex
  have hi : i < m.length := (List.getElem?_eq_some_iff.mp h).1
  rw [List.getElem?_append_left hi]; exact h

variable {G : GS} {m m1 : List Addr} {S S1 : Store} {H H1 : Hp}

/-- a tuple's address is none of the store's -/
theorem Rep.noTup (R : Rep G m S H) {a : Addr} {xs : List V} (h : Rd H a (.tup xs)) : a ∉ m := fun hm => by
  obtain ⟨i, hi⟩ := List.getElem?_of_mem hm
  have hl : i < S.length := by rw [← R.len]; exact (List.getElem?_eq_some_iff.mp hi).1
  have q := R.cell i a S[i] hi (List.getElem?_eq_getElem hl)
  cases e : S[i] with
  | lst l =>
    rw [e] at q
    obtain ⟨ys, h1, _⟩ := q
    rcases h with h | ⟨o, h⟩ <;> rw [h1] at h <;> cases h
  | fro l =>
    rw [e] at q
    obtain ⟨o, ys, h1, _⟩ := q
    rcases h with h | ⟨o', h⟩ <;> rw [h1] at h <;> cases h
  | ins c fs => rw [e] at q; exact q.elim
theorem SqT.grow {K : PySem.W.Frag} (R : Rep G m S H) (g : Grow m H m1 H1) {a : Addr} {xs : List V} (h : SqT K H a xs) : SqT K H1 a xs := by
  rcases h with h | h
  · have hn := R.noTup h
    rcases h with h | ⟨o, h⟩
    · exact .inl (.inl (g.keep a _ hn h))
    · exact .inl (.inr ⟨o, g.keep a _ hn h⟩)
  · exact .inr h

mutual
theorem RV.mono {G : GS} {m m1 : List Addr} {H H1 : Hp} (ht : ∀ a xs, SqT G.K H a xs → SqT G.K H1 a xs) (hm : ∀ (i : Nat) (a : Addr), m[i]? = some a → m1[i]? = some a) : ∀ {v : V} {d : D}, RV G m H v d → RV G m1 H1 v d
  | v, .non, h => h
  | v, .bl b, h => h
  | v, .int i, h => h
  | v, .str x, h => h
  | v, .tup l, h => by
    unfold RV at h ⊢
    obtain ⟨a, xs, e, h1, h2, h3⟩ := h
    exact ⟨a, xs, e, ht a xs h1, RVs.mono ht hm h2, h3⟩
  | v, .ref i, h => by
    unfold RV at h ⊢
    obtain ⟨a, e, h1⟩ := h
    exact ⟨a, e, hm i a h1⟩
  | v, .fn i, h => h
  | v, .cls i, h => h
  | v, .kl ns, h => h
theorem RVs.mono {G : GS} {m m1 : List Addr} {H H1 : Hp} (ht : ∀ a xs, SqT G.K H a xs → SqT G.K H1 a xs) (hm : ∀ (i : Nat) (a : Addr), m[i]? = some a → m1[i]? = some a) : ∀ {vs : List V} {ds : List D}, RVs G m H vs ds → RVs G m1 H1 vs ds
  | [], [], h => trivial
  | v :: vs, d :: ds, h => by
    unfold RVs at h ⊢
    exact ⟨RV.mono ht hm h.1, RVs.mono ht hm h.2⟩
  | [], _ :: _, h => by unfold RVs at h; exact h.elim
  | _ :: _, [], h => by unfold RVs at h; exact h.elim
end
theorem RV.grow (R : Rep G m S H) (g : Grow m H m1 H1) {v : V} {d : D} (h : RV G m H v d) : RV G m1 H1 v d := h.mono (fun _ _ q => SqT.grow R g q) fun _ _ q => g.get q
theorem RVs.grow (R : Rep G m S H) (g : Grow m H m1 H1) {v : List V} {d : List D} (h : RVs G m H v d) : RVs G m1 H1 v d := h.mono (fun _ _ q => SqT.grow R g q) fun _ _ q => g.get q

theorem RVs.length : ∀ {vs : List V} {ds : List D}, RVs G m H vs ds → vs.length = ds.length
  | [], [], _ => rfl
  | v :: vs, d :: ds, h => by
    unfold RVs at h
    rw [List.length_cons, List.length_cons, RVs.length h.2]
  | [], _ :: _, h => by unfold RVs at h; exact h.elim
  | _ :: _, [], h => by unfold RVs at h; exact h.elim
theorem RVs.get : ∀ {vs : List V} {ds : List D} {i : Nat} {d : D}, RVs G m H vs ds → ds[i]? = some d → ∃ v, vs[i]? = some v ∧ RV G m H v d
  | [], [], _, _, _, e => by simp at e
  | v :: vs, d :: ds, 0, _, h, e => by
    unfold RVs at h
    simp at e; subst e
    exact ⟨v, rfl, h.1⟩
  | v :: vs, d :: ds, i + 1, _, h, e => by
    unfold RVs at h
    obtain ⟨w, h1, h2⟩ := RVs.get (i := i) h.2 (by simpa using e)
    exact ⟨w, by simpa using h1, h2⟩
  | [], _ :: _, _, _, h, _ => by unfold RVs at h; exact h.elim
  | _ :: _, [], _, _, h, _ => by unfold RVs at h; exact h.elim
theorem RVs.get' {vs : List V} {ds : List D} {i : Nat} {v : V} (h : RVs G m H vs ds) (e : vs[i]? = some v) : ∃ d, ds[i]? = some d ∧ RV G m H v d := by
  have hi : i < vs.length := (List.getElem?_eq_some_iff.mp e).1
  have hi' : i < ds.length := by rw [← h.length]; exact hi
  obtain ⟨w, h1, h2⟩ := h.get (List.getElem?_eq_getElem hi')
  rw [e] at h1; cases h1
  exact ⟨_, List.getElem?_eq_getElem hi', h2⟩
theorem RVs.append : ∀ {vs ws : List V} {ds es : List D}, RVs G m H vs ds → RVs G m H ws es → RVs G m H (vs ++ ws) (ds ++ es)
  | [], _, [], _, _, h => h
  | v :: vs, _, d :: ds, _, h, h' => by
    unfold RVs at h
    show RVs G m H (v :: (vs ++ _)) (d :: (ds ++ _))
    unfold RVs
    exact ⟨h.1, RVs.append h.2 h'⟩
  | [], _, _ :: _, _, h, _ => by unfold RVs at h; exact h.elim
  | _ :: _, _, [], _, h, _ => by unfold RVs at h; exact h.elim
theorem RVs.of {vs : List V} : ∀ {ds : List D}, vs.length = ds.length → (∀ (i : Nat) (v : V) (d : D), vs[i]? = some v → ds[i]? = some d → RV G m H v d) → RVs G m H vs ds := by
  induction vs with
  | nil => intro ds hl h; cases ds with
    | nil => trivial
    | cons _ _ => cases hl
  | cons v vs ih =>
    intro ds hl h
    cases ds with
    | nil => cases hl
    | cons d ds =>
      unfold RVs
      refine ⟨h 0 v d rfl rfl, ih (by simpa using hl) fun i v' d' e1 e2 => h (i + 1) v' d' (by simpa using e1) (by simpa using e2)⟩
theorem RVs.take {vs : List V} {ds : List D} (h : RVs G m H vs ds) (n : Nat) : RVs G m H (vs.take n) (ds.take n) := by
  refine .of (by simp [h.length]) fun i v d e1 e2 => ?_
  rw [List.getElem?_take] at e1 e2
  split at e1
  · rename_i hi
    rw [if_pos hi] at e2
    obtain ⟨w, h1, h2⟩ := h.get e2
    rw [e1] at h1; cases h1; exact h2
  · cases e1
theorem RVs.drop {vs : List V} {ds : List D} (h : RVs G m H vs ds) (n : Nat) : RVs G m H (vs.drop n) (ds.drop n) := by
  refine .of (by simp [h.length]) fun i v d e1 e2 => ?_
  rw [List.getElem?_drop] at e1 e2
  obtain ⟨w, h1, h2⟩ := h.get e2
  rw [e1] at h1; cases h1; exact h2
theorem RVs.set {vs : List V} {ds : List D} (h : RVs G m H vs ds) (n : Nat) {v : V} {d : D} (hd : RV G m H v d) : RVs G m H (vs.set n v) (ds.set n d) := by
  refine .of (by simp [h.length]) fun i w e e1 e2 => ?_
  by_cases hn : n = i
  · subst hn
    by_cases hl : n < vs.length
    · rw [List.getElem?_set_self hl] at e1
      rw [List.getElem?_set_self (by rw [← h.length]; exact hl)] at e2
      cases e1; cases e2; exact hd
    · rw [List.getElem?_eq_none (by simpa using hl)] at e1; cases e1
  · rw [List.getElem?_set_ne hn] at e1 e2
    obtain ⟨w', h1, h2⟩ := h.get e2
    rw [e1] at h1; cases h1; exact h2
theorem RVs.reverse {vs : List V} {ds : List D} (h : RVs G m H vs ds) : RVs G m H vs.reverse ds.reverse := by
  have hl := h.length
  refine .of (by simp [hl]) fun i v d e1 e2 => ?_
  have hi : i < vs.length := by simpa using (List.getElem?_eq_some_iff.mp e1).1
  rw [List.getElem?_reverse hi] at e1
  rw [List.getElem?_reverse (by omega)] at e2
  rw [hl] at e1
  obtain ⟨w, h1, h2⟩ := h.get e2
  rw [e1] at h1; cases h1; exact h2
theorem RVs.ints : ∀ ns : List Int, RVs G m H (ns.map V.int) (ns.map .int)
  | [] => by unfold RVs; trivial
  | n :: ns => by
    rw [List.map_cons, List.map_cons]
    unfold RVs RV
    exact ⟨rfl, RVs.ints ns⟩
theorem RVs.one {v : V} {d : D} (h : RV G m H v d) : RVs G m H [v] [d] := by
  unfold RVs; exact ⟨h, by unfold RVs; trivial⟩
theorem RVs.dropLast {vs : List V} {ds : List D} (h : RVs G m H vs ds) : RVs G m H vs.dropLast ds.dropLast := by
  rw [List.dropLast_eq_take, List.dropLast_eq_take, h.length]; exact h.take _
theorem RVs.cut {vs : List V} {ds : List D} (h : RVs G m H vs ds) (lo hi : Option Int) : RVs G m H (cutV vs lo hi) (cut ds lo hi) := by
  unfold cutV EV.cut; rw [h.length]; exact (h.drop _).take _
theorem RVs.rep {vs : List V} {ds : List D} (h : RVs G m H vs ds) : ∀ k : Nat, RVs G m H (List.replicate k vs).flatten (List.replicate k ds).flatten
  | 0 => by simp [RVs]
  | k + 1 => by
    rw [List.replicate_succ, List.replicate_succ, List.flatten_cons, List.flatten_cons]
    exact h.append (RVs.rep h k)
/-- a tuple of the store's values, in the open -/
theorem RV.mkTup {a : Addr} {xs : List V} {l : List D} (h1 : SqT G.K H a xs) (h2 : RVs G m H xs l) (h3 : xs.length ≤ sizeLine) : RV G m H (.ref a) (.tup l) := by
  unfold RV; exact ⟨a, xs, rfl, h1, h2, h3⟩
theorem RV.mkRef {a : Addr} {i : Nat} (h : m[i]? = some a) : RV G m H (.ref a) (.ref i) := by
  unfold RV; exact ⟨a, rfl, h⟩

/-! ### the store's steps -/
theorem Rep.at (R : Rep G m S H) {i : Nat} {c : Cell} (h : S[i]? = some c) : ∃ a, m[i]? = some a ∧ RC G m H a c := by
  have hi : i < S.length := (List.getElem?_eq_some_iff.mp h).1
  have hi' : i < m.length := by rw [R.len]; exact hi
  exact ⟨m[i], List.getElem?_eq_getElem hi', R.cell i _ c (List.getElem?_eq_getElem hi') h⟩
theorem RC.grow {a : Addr} {c : Cell} (hR : Rep G m S H) (g : Grow m H m1 H1) (ha : H1 a = H a) (h : RC G m H a c) : RC G m1 H1 a c := by
  cases c with
  | lst l =>
    obtain ⟨xs, h1, h2, h3⟩ := h
    exact ⟨xs, ha.trans h1, h2.grow hR g, h3⟩
  | fro l =>
    obtain ⟨o, xs, h1, h2, h3⟩ := h
    exact ⟨o, xs, ha.trans h1, h2.grow hR g, h3⟩
  | ins _ _ => exact h.elim
/-- what is tracked at the store's addresses is there -/
theorem Rep.there (R : Rep G m S H) {a : Addr} (h : a ∈ m) : ∃ o, H a = some o := by
  obtain ⟨i, hi⟩ := List.getElem?_of_mem h
  have hl : i < S.length := by rw [← R.len]; exact (List.getElem?_eq_some_iff.mp hi).1
  have q := R.cell i a S[i] hi (List.getElem?_eq_getElem hl)
  cases e : S[i] with
  | lst l => rw [e] at q; obtain ⟨ys, h1, _⟩ := q; exact ⟨_, h1⟩
  | fro l => rw [e] at q; obtain ⟨o, ys, h1, _⟩ := q; exact ⟨_, h1⟩
  | ins c fs => rw [e] at q; exact q.elim
/-- a new object that the store does not hold -/
theorem Grow.new {p : Addr} {o : HO} (hp : H p = none) : Grow m H m (upd H p o) :=
  ⟨⟨[], by simp, by simp⟩, fun a u _ h => by rw [upd_ne (ne_of_none h hp)]; exact h⟩
theorem Rep.new (R : Rep G m S H) {p : Addr} {o : HO} (hp : H p = none) : Rep G m S (upd H p o) :=
  ⟨R.len, R.nd, fun i a c h1 h2 => by
    have hne : a ≠ p := by
      obtain ⟨u, hu⟩ := R.there (List.mem_of_getElem? h1)
      exact ne_of_none hu hp
    exact (R.cell i a c h1 h2).grow R (Grow.new hp) (upd_ne hne)⟩
/-- a new list of the store -/
theorem Grow.alloc {p : Addr} {o : HO} (R : Rep G m S H) (hp : H p = none) : Grow m H (m ++ [p]) (upd H p o) := by
  have hn : p ∉ m := fun z => by obtain ⟨u, hu⟩ := R.there z; rw [hp] at hu; cases hu
  exact ⟨⟨[p], rfl, fun a ha => by rw [List.mem_singleton] at ha; subst ha; exact ⟨hn, hp⟩⟩, fun a u _ h => by rw [upd_ne (ne_of_none h hp)]; exact h⟩
theorem Rep.alloc (R : Rep G m S H) {p : Addr} {xs : List V} {l : List D} (hp : H p = none) (hx : RVs G m H xs l) (hz : xs.length ≤ sizeLine) : Rep G (m ++ [p]) (S ++ [.lst l]) (upd H p (.lst xs)) := by
  have g := Grow.alloc (o := .lst xs) R hp
  have hn : p ∉ m := fun z => by obtain ⟨u, hu⟩ := R.there z; rw [hp] at hu; cases hu
  refine ⟨by simp [R.len], List.nodup_append.mpr ⟨R.nd, by simp, fun a ha b hb => by rw [List.mem_singleton] at hb; subst hb; rintro rfl; exact hn ha⟩, fun i a c h1 h2 => ?_⟩
  by_cases hi : i < m.length
  · rw [List.getElem?_append_left hi] at h1
    rw [List.getElem?_append_left (by rw [← R.len]; exact hi)] at h2
    have hne : a ≠ p := fun e => hn (e ▸ List.mem_of_getElem? h1)
    exact (R.cell i a c h1 h2).grow R g (upd_ne hne)
  · have e : i = m.length := by
      have := (List.getElem?_eq_some_iff.mp h1).1
      simp at this; omega
    subst e
    rw [List.getElem?_append_right (Nat.le_refl _)] at h1
    rw [List.getElem?_append_right (by rw [R.len]; exact Nat.le_refl _)] at h2
    simp at h1
    rw [R.len] at h2
    simp at h2
    subst h1 h2
    exact ⟨xs, upd_same, hx.grow R g, hz⟩
theorem Rep.allocAt (R : Rep G m S H) (p : Addr) : (m ++ [p])[S.length]? = some p := by
  rw [← R.len]; simp
/-- a list of the store is written -/
theorem Grow.setL {a : Addr} {o : HO} {i : Nat} (h : m[i]? = some a) : Grow m H m (upd H a o) :=
  ⟨⟨[], by simp, by simp⟩, fun b u hb e => by
    have hne : b ≠ a := fun z => hb (by rw [z]; exact List.mem_of_getElem? h)
    rw [upd_ne hne]; exact e⟩
theorem nodup_get {i j : Nat} {a : Addr} (R : Rep G m S H) (h1 : m[i]? = some a) (h2 : m[j]? = some a) : i = j := by
  obtain ⟨l1, e1⟩ := List.getElem?_eq_some_iff.mp h1
  obtain ⟨l2, e2⟩ := List.getElem?_eq_some_iff.mp h2
  exact (List.getElem_inj R.nd).mp (e1.trans e2.symm)
theorem Rep.setL (R : Rep G m S H) {i : Nat} {a : Addr} {xs : List V} {l : List D} (h : m[i]? = some a) (hx : RVs G m H xs l) (hz : xs.length ≤ sizeLine) : Rep G m (S.set i (.lst l)) (upd H a (.lst xs)) := by
  have g := Grow.setL (H := H) (o := .lst xs) h
  refine ⟨by simp [R.len], R.nd, fun j b c h1 h2 => ?_⟩
  by_cases hj : i = j
  · subst hj
    have hl : i < S.length := by rw [← R.len]; exact (List.getElem?_eq_some_iff.mp h).1
    rw [List.getElem?_set_self hl] at h2
    cases h2
    rw [h] at h1; cases h1
    exact ⟨xs, upd_same, hx.grow R g, hz⟩
  · rw [List.getElem?_set_ne hj] at h2
    have hne : b ≠ a := fun e => hj (nodup_get R h (e ▸ h1))
    exact (R.cell j b c h1 h2).grow R g (upd_ne hne)

/-! ### forgetting what a call laid -/
mutual
theorem RV.down {G : GS} {H : Hp} {m' : List Addr} {n : Nat} (hn : ∀ i, i < n → (m'.take n)[i]? = m'[i]?) : ∀ {v : V} {d : D}, d.lo n = true → RV G m' H v d → RV G (m'.take n) H v d
  | v, .non, _, h => h
  | v, .bl b, _, h => h
  | v, .int i, _, h => h
  | v, .str x, _, h => h
  | v, .tup l, hl, h => by
    unfold RV at h ⊢
    obtain ⟨a, xs, e, h1, h2, h3⟩ := h
    exact ⟨a, xs, e, h1, RVs.down hn (by unfold D.lo at hl; exact hl) h2, h3⟩
  | v, .ref i, hl, h => by
    unfold RV at h ⊢
    obtain ⟨a, e, h1⟩ := h
    unfold D.lo at hl
    exact ⟨a, e, (hn i (of_decide_eq_true hl)).trans h1⟩
  | v, .fn i, _, h => h
  | v, .cls i, _, h => h
  | v, .kl ns, _, h => h
theorem RVs.down {G : GS} {H : Hp} {m' : List Addr} {n : Nat} (hn : ∀ i, i < n → (m'.take n)[i]? = m'[i]?) : ∀ {v : List V} {d : List D}, D.los n d = true → RVs G m' H v d → RVs G (m'.take n) H v d
  | [], [], _, h => by unfold RVs; trivial
  | v :: vs, d :: ds, hl, h => by
    unfold RVs at h ⊢
    unfold D.los at hl
    rw [Bool.and_eq_true] at hl
    exact ⟨RV.down hn hl.1 h.1, RVs.down hn hl.2 h.2⟩
  | [], _ :: _, _, h => by unfold RVs at h; exact h.elim
  | _ :: _, [], _, h => by unfold RVs at h; exact h.elim
end
mutual
theorem D.lo_of_pure : ∀ {d : D}, d.pure = true → ∀ n, d.lo n = true
  | .non, _, _ => by unfold D.lo; rfl
  | .bl _, _, _ => by unfold D.lo; rfl
  | .int _, _, _ => by unfold D.lo; rfl
  | .str _, _, _ => by unfold D.lo; rfl
  | .tup l, h, n => by unfold D.pure at h; unfold D.lo; exact D.los_of_pure h n
  | .ref _, h, _ => by unfold D.pure at h; cases h
  | .fn _, _, _ => by unfold D.lo; rfl
  | .cls _, _, _ => by unfold D.lo; rfl
  | .kl _, _, _ => by unfold D.lo; rfl
theorem D.los_of_pure : ∀ {l : List D}, D.pures l = true → ∀ n, D.los n l = true
  | [], _, _ => by unfold D.los; rfl
  | d :: l, h, n => by
    unfold D.pures at h
    rw [Bool.and_eq_true] at h
    unfold D.los
    rw [D.lo_of_pure h.1 n, D.los_of_pure h.2 n]; rfl
end
mutual
theorem RV.back {G : GS} {m mx : List Addr} {H H' : Hp} : ∀ {y x : V} {d : D}, RV G m H y d → RV G (m ++ mx) H' x d → RV G m H' x d
  | _, _, .non, _, h => h
  | _, _, .bl _, _, h => h
  | _, _, .int _, _, h => h
  | _, _, .str _, _, h => h
  | _, _, .tup l, h, h' => by
    unfold RV at h h' ⊢
    obtain ⟨_, ys, _, _, h2, _⟩ := h
    obtain ⟨a', xs', e', h1', h2', h3'⟩ := h'
    exact ⟨a', xs', e', h1', RVs.back h2 h2', h3'⟩
  | _, _, .ref i, h, h' => by
    unfold RV at h h' ⊢
    obtain ⟨b, _, hb⟩ := h
    obtain ⟨a', e', h1'⟩ := h'
    have hi : i < m.length := (List.getElem?_eq_some_iff.mp hb).1
    rw [List.getElem?_append_left hi] at h1'
    exact ⟨a', e', h1'⟩
  | _, _, .fn _, _, h => h
  | _, _, .cls _, _, h => h
  | _, _, .kl _, _, h => h
theorem RVs.back {G : GS} {m mx : List Addr} {H H' : Hp} : ∀ {y x : List V} {d : List D}, RVs G m H y d → RVs G (m ++ mx) H' x d → RVs G m H' x d
  | [], [], [], _, _ => by unfold RVs; trivial
  | y :: ys, x :: xs, d :: ds, h, h' => by
    unfold RVs at h h' ⊢
    exact ⟨RV.back h.1 h'.1, RVs.back h.2 h'.2⟩
  | [], _, _ :: _, h, _ => by unfold RVs at h; exact h.elim
  | _ :: _, _, [], h, _ => by unfold RVs at h; exact h.elim
  | _, [], _ :: _, _, h => by unfold RVs at h; exact h.elim
  | _, _ :: _, [], _, h => by unfold RVs at h; exact h.elim
end
/-- the cells that a call left as they were, or that hold nothing new, stand over the old addresses -/
theorem Rep.trim {S' : Store} {m' : List Addr} {H' : Hp} (R : Rep G m S H) (R' : Rep G m' S' H') (g : Grow m H m' H') (t : trimOk S S') : Rep G m (S'.take S.length) H' := by
  obtain ⟨mx, rfl, hx⟩ := g.ex
  have hl' : S.length ≤ S'.length := by
    have := R'.len; have := R.len; simp at *; omega
  have take : (m ++ mx).take S.length = m := by rw [← R.len]; simp
  refine ⟨by rw [List.length_take, R.len]; omega, R.nd, fun i a c h1 h2 => ?_⟩
  have hi : i < S.length := by rw [← R.len]; exact (List.getElem?_eq_some_iff.mp h1).1
  rw [List.getElem?_take_of_lt hi] at h2
  have h1' : (m ++ mx)[i]? = some a := by rw [List.getElem?_append_left (by rw [R.len]; exact hi)]; exact h1
  have q := R'.cell i a c h1' h2
  have hn : ∀ j, j < S.length → ((m ++ mx).take S.length)[j]? = (m ++ mx)[j]? := fun j hj => List.getElem?_take_of_lt hj
  -- the cell's values speak of old addresses alone
  have fin : ∀ l : List D, (c = .lst l ∨ c = .fro l) → ∀ xs, RVs G (m ++ mx) H' xs l → RVs G m H' xs l := fun l hc xs hxs => by
    rcases t i hi with e | ⟨c', e, hb⟩
    · -- unchanged: it was held by the old addresses
      rw [h2] at e
      have q0 := R.cell i a c h1 e.symm
      have lo : ∃ ys, RVs G m H ys l := by
        rcases hc with rfl | rfl
        · obtain ⟨ys, _, y2, _⟩ := q0; exact ⟨ys, y2⟩
        · obtain ⟨o, ys, _, y2, _⟩ := q0; exact ⟨ys, y2⟩
      obtain ⟨ys, hys⟩ := lo
      exact RVs.back hys hxs
    · rw [h2] at e; cases e
      have hb' : D.los S.length l = true := by
        rcases hc with rfl | rfl <;> (unfold Cell.lo at hb; exact hb)
      have := RVs.down hn hb' hxs
      rw [take] at this
      exact this
  cases c with
  | lst l =>
    obtain ⟨xs, q1, q2, q3⟩ := q
    exact ⟨xs, q1, fin l (.inl rfl) xs q2, q3⟩
  | fro l =>
    obtain ⟨o, xs, q1, q2, q3⟩ := q
    exact ⟨o, xs, q1, fin l (.inr rfl) xs q2, q3⟩
  | ins _ _ => exact q.elim
theorem Grow.trim {m' : List Addr} {H' : Hp} (g : Grow m H m' H') : Grow m H m H' := ⟨⟨[], by simp, by simp⟩, g.keep⟩
theorem RV.trim {m' : List Addr} {H' : Hp} {v : V} {d : D} (g : Grow m H m' H') (hp : d.pure = true) (h : RV G m' H' v d) : RV G m H' v d := by
  obtain ⟨mx, rfl, hx⟩ := g.ex
  have := RV.down (n := m.length) (fun i hi => List.getElem?_take_of_lt hi) (D.lo_of_pure hp _) h
  rw [List.take_left] at this
  exact this
end EV

/-! The evaluator's operators are the machine's. -/
namespace EV
open PySem L2 PyProof.Rows

/-- an exception of the evaluator, as it lies -/
def RX (G : GS) (x : Ex) (cls : Value) (dd : Option Addr) (H : Hp) : Prop :=
  cls = .ref (G.ca x.c) ∧ match x.f with
    | none => dd = none
    | some n => ∃ d, dd = some d ∧ H d = some (.xd [("line", .int n)])

def Post {α : Type} (G : GS) (W : WX) (σ : L2.St) (m : List Addr) (H : Hp) (P : α → List Addr → Store → Hp → Prop) : Res α → Prop
  | .ok a S' => ∀ m1 H1, Grow m H m1 H1 → Rep G m1 S' H1 → P a m1 S' H1
  | .err x S' => ∀ m1 H1 cls dd, Grow m H m1 H1 → Rep G m1 S' H1 → RX G x cls dd H1 → W cls dd σ H1
  | .bad => False

variable {G : GS} {W : WX} {σ : L2.St} {m : List Addr} {H : Hp} {S : Store}
theorem Post.mono {α : Type} {P P' : α → List Addr → Store → Hp → Prop} {r : Res α} (h : Post G W σ m H P r)
    (k : ∀ a m1 S1 H1, Grow m H m1 H1 → Rep G m1 S1 H1 → P a m1 S1 H1 → P' a m1 S1 H1) : Post G W σ m H P' r := by
  cases r with
  | ok a S' => exact fun m1 H1 g R => k a m1 S' H1 g R (h m1 H1 g R)
  | err x S' => exact h
  | bad => exact h
theorem Post.bind {α β : Type} {P : β → List Addr → Store → Hp → Prop} {r : Res α} {f : α → Store → Res β} (h : Post G W σ m H P (r.bind f)) :
    Post G W σ m H (fun a m1 S1 H1 => Post G W σ m1 H1 P (f a S1)) r := by
  cases r with
  | ok a S' =>
    intro m1 H1 g R
    have h : Post G W σ m H P (f a S') := h
    show Post G W σ m1 H1 P (f a S')
    generalize f a S' = q at h ⊢
    cases q with
    | ok b S'' => exact fun m2 H2 g2 R2 => h m2 H2 (g.trans g2) R2
    | err x S'' => exact fun m2 H2 cls dd g2 R2 rx => h m2 H2 cls dd (g.trans g2) R2 rx
    | bad => exact h
  | err x S' => exact h
  | bad => exact h
/-- a value is wanted -/
abbrev PQ (G : GS) (Q : VK) : D → List Addr → Store → Hp → Prop := fun d m1 _ H1 => ∀ v, RV G m1 H1 v d → Q v H1
theorem Post.here {Q : VK} {d : D} {v : V} (h : Post G W σ m H (PQ G Q) (.ok d S)) (R : Rep G m S H) (r : RV G m H v d) : Q v H := h m H (Grow.refl _ _) R v r
theorem okIf_inv {α : Type} {c : Prop} [Decidable c] {r : Res α} {P : α → List Addr → Store → Hp → Prop} (h : Post G W σ m H P (okIf c r)) : c ∧ Post G W σ m H P r := by
  unfold okIf at h
  split at h
  · rename_i hc; exact ⟨hc, h⟩
  · exact h.elim
theorem ofO_inv {α β : Type} {o : Option α} {f : α → Res β} {P : β → List Addr → Store → Hp → Prop} (h : Post G W σ m H P (ofO o f)) : ∃ a, o = some a ∧ Post G W σ m H P (f a) := by
  cases o with
  | none => exact h.elim
  | some a => exact ⟨a, rfl, h⟩

/-! ### reading lists -/
theorem lstOf_inv {i : Nat} {l : List D} (R : Rep G m S H) (h : lstOf S i = some l) {a : Addr} (ha : m[i]? = some a) : ∃ xs, H a = some (.lst xs) ∧ RVs G m H xs l ∧ xs.length ≤ sizeLine := by
  unfold lstOf at h
  split at h
  · rename_i l' e
    cases h
    exact R.cell i a _ ha e
  · cases h
theorem seqRef_inv {i : Nat} {l : List D} (R : Rep G m S H) (h : seqOf S (.ref i) = some l) {a : Addr} (ha : m[i]? = some a) : ∃ xs, SqL G.K H a xs ∧ RVs G m H xs l ∧ xs.length ≤ sizeLine := by
  simp only [seqOf] at h
  split at h
  · rename_i l' e
    cases h
    obtain ⟨xs, h1, h2, h3⟩ := R.cell _ a _ ha e
    exact ⟨xs, .inl (.inl h1), h2, h3⟩
  · rename_i l' e
    cases h
    obtain ⟨o, xs, h1, h2, h3⟩ := R.cell _ a _ ha e
    exact ⟨xs, .inl (.inr ⟨o, h1⟩), h2, h3⟩
  · cases h
/-- the items of a list or a tuple -/
theorem seq_inv {d : D} {l : List D} {v : V} (R : Rep G m S H) (h : seqOf S d = some l) (r : RV G m H v d) : ∃ a xs, v = .ref a ∧ (SqL G.K H a xs ∨ SqT G.K H a xs) ∧ RVs G m H xs l ∧ xs.length ≤ sizeLine := by
  cases d with
  | tup l' =>
    cases h
    unfold RV at r
    obtain ⟨a, xs, e, h1, h2, h3⟩ := r
    exact ⟨a, xs, e, .inr h1, h2, h3⟩
  | ref i =>
    unfold RV at r
    obtain ⟨a, e, ha⟩ := r
    obtain ⟨xs, h1, h2, h3⟩ := seqRef_inv R h ha
    exact ⟨a, xs, e, .inl h1, h2, h3⟩
  | _ => simp [seqOf] at h
theorem RV.ofRef {v : V} {i : Nat} (r : RV G m H v (.ref i)) : ∃ a, v = .ref a ∧ m[i]? = some a := by unfold RV at r; exact r
theorem RV.ofTup {v : V} {l : List D} (r : RV G m H v (.tup l)) : ∃ a xs, v = .ref a ∧ SqT G.K H a xs ∧ RVs G m H xs l ∧ xs.length ≤ sizeLine := by unfold RV at r; exact r
theorem RV.ofInt {v : V} {i : Int} (r : RV G m H v (.int i)) : v = .int i := by unfold RV at r; exact r
theorem RV.ofBl {v : V} {i : Bool} (r : RV G m H v (.bl i)) : v = .bl i := by unfold RV at r; exact r
theorem RV.ofStr {v : V} {i : Str} (r : RV G m H v (.str i)) : v = .str i := by unfold RV at r; exact r
theorem RV.ofNon {v : V} (r : RV G m H v .non) : v = .non := by unfold RV at r; exact r
theorem RV.int {i : Int} : RV G m H (.int i) (.int i) := by unfold RV; rfl
theorem RV.bl {i : Bool} : RV G m H (.bl i) (.bl i) := by unfold RV; rfl
theorem RV.str {i : Str} : RV G m H (.str i) (.str i) := by unfold RV; rfl
theorem RV.non : RV G m H .non .non := by unfold RV; rfl

/-- a new tuple, a new list -/
theorem Post.newTup {Q : VK} {xs : List V} {l : List D} (h : Post G W σ m H (PQ G Q) (.ok (.tup l) S)) (R : Rep G m S H) (rx : RVs G m H xs l) (hz : xs.length ≤ sizeLine) {p : Addr} (hp : H p = none) : Q (.ref p) (upd H p (.tup xs)) :=
  h m _ (Grow.new hp) (R.new hp) _ (RV.mkTup (.inl (.inl upd_same)) (rx.grow R (Grow.new hp)) hz)
theorem Post.newLst {Q : VK} {xs : List V} {l : List D} (h : Post G W σ m H (PQ G Q) (.ok (.ref S.length) (S ++ [.lst l]))) (R : Rep G m S H) (rx : RVs G m H xs l) (hz : xs.length ≤ sizeLine) {p : Addr} (hp : H p = none) : Q (.ref p) (upd H p (.lst xs)) :=
  h (m ++ [p]) _ (Grow.alloc R hp) (R.alloc hp rx hz) _ (RV.mkRef (R.allocAt p))

/-! ### binary operators -/
section
variable {X : Cx}
theorem fdiv_op : OpR X (binaryOp .FloorDiv) (rI (fun i j => j ≠ 0 ∧ Builtin.divisionGoesByPylong i j = false) fun i j => .int (i.fdiv j)) := opI fun _ _ _ _ _ _ _ hc q => floordiv_int hc.1 q (.inl hc.2)
def rNo : R2 := fun _ _ _ _ => False
theorem op_no {f : Value → Value → Sem Value} : OpR X f rNo := fun _ _ _ _ _ _ _ _ _ _ _ _ h => h.elim
theorem bin_ok (hK : X.K = G.K) (op : Operator) : ∃ r : R2, OpR X (binaryOp op) r ∧ ∀ {W : WX} {σ : L2.St} {m : List Addr} {S : Store} {H : Hp} {Q : VK} {x y : V} {d e : D},
    Rep G m S H → RV G m H x d → RV G m H y e → Post G W σ m H (PQ G Q) (binop op d e S) → r x y H Q := by
  cases op with
  | Add =>
    refine ⟨_, op_add.or (op_add_str.or ((op_catA (X := X)).or op_cat)), fun {W σ m S H Q x y d e} R rx ry h => ?_⟩
    unfold binop at h
    cases d <;> cases e <;> first | exact h.elim | skip
    · exact .inl ⟨_, _, rx.ofInt, ry.ofInt, h.here R RV.int⟩
    · obtain ⟨hz, h⟩ := okIf_inv h
      exact .inr (.inl ⟨_, _, rx.ofStr, ry.ofStr, hz, h.here R RV.str⟩)
    · obtain ⟨hz, h⟩ := okIf_inv h
      obtain ⟨a, xs, rfl, hx, rxs, zx⟩ := rx.ofTup
      obtain ⟨b, ys, rfl, hy, rys, zy⟩ := ry.ofTup
      have hz' : xs.length + ys.length ≤ sizeLine := by rw [rxs.length, rys.length]; exact hz
      refine .inr (.inr (.inl ⟨a, b, xs, ys, rfl, rfl, hK ▸ hx, hK ▸ hy, hz', fun e => ?_, fun _ e => ?_, fun _ _ p hp => ?_⟩))
      · subst e
        refine h.here R (RV.mkTup hy ?_ zy)
        have := rxs.length
        rw [List.length_nil] at this
        rw [List.eq_nil_of_length_eq_zero this.symm]
        exact rys
      · subst e
        refine h.here R (RV.mkTup hx ?_ zx)
        have := rys.length
        rw [List.length_nil] at this
        rw [List.eq_nil_of_length_eq_zero this.symm, List.append_nil]
        exact rxs
      · exact h.newTup R (rxs.append rys) (by rw [List.length_append]; exact hz') hp
    · obtain ⟨l, e1, h⟩ := ofO_inv h
      obtain ⟨l', e2, h⟩ := ofO_inv h
      obtain ⟨hz, h⟩ := okIf_inv h
      obtain ⟨a, rfl, ha⟩ := rx.ofRef
      obtain ⟨b, rfl, hb⟩ := ry.ofRef
      obtain ⟨xs, h1, r1, z1⟩ := lstOf_inv R e1 ha
      obtain ⟨ys, h2, r2, z2⟩ := lstOf_inv R e2 hb
      have hz' : xs.length + ys.length ≤ sizeLine := by rw [r1.length, r2.length]; exact hz
      exact .inr (.inr (.inr ⟨a, b, xs, ys, rfl, rfl, h1, h2, hz', fun p hp => h.newLst R (r1.append r2) (by rw [List.length_append]; exact hz') hp⟩))
  | Sub =>
    refine ⟨_, op_sub, fun {W σ m S H Q x y d e} R rx ry h => ?_⟩
    unfold binop at h
    cases d <;> cases e <;> first | exact h.elim | skip
    exact ⟨_, _, rx.ofInt, ry.ofInt, h.here R RV.int⟩
  | Mult =>
    refine ⟨_, (op_mulW (X := X)).or op_rep, fun {W σ m S H Q x y d e} R rx ry h => ?_⟩
    unfold binop at h
    cases d <;> cases e <;> first | exact h.elim | skip
    · obtain ⟨hz, h⟩ := okIf_inv h
      exact .inl ⟨_, _, rx.ofInt, ry.ofInt, hz, h.here R RV.int⟩
    · obtain ⟨l, e1, h⟩ := ofO_inv h
      obtain ⟨⟨h1, h2, h3⟩, h⟩ := okIf_inv h
      obtain ⟨a, rfl, ha⟩ := rx.ofRef
      obtain ⟨xs, q1, r1, z1⟩ := lstOf_inv R e1 ha
      refine .inr ⟨a, _, xs, rfl, ry.ofInt, q1, h1, h2, by rw [r1.length]; exact h3, fun p hp => h.newLst R (r1.rep _) ?_ hp⟩
      rw [(r1.rep _).length]
      simp only [List.length_flatten, List.map_replicate, List.sum_replicate_nat]
      rw [Nat.mul_comm]; exact h3
  | FloorDiv =>
    refine ⟨_, fdiv_op, fun {W σ m S H Q x y d e} R rx ry h => ?_⟩
    unfold binop at h
    cases d <;> cases e <;> first | exact h.elim | skip
    obtain ⟨hz, h⟩ := okIf_inv h
    exact ⟨_, _, rx.ofInt, ry.ofInt, hz, h.here R RV.int⟩
  | Mod =>
    refine ⟨_, op_modN, fun {W σ m S H Q x y d e} R rx ry h => ?_⟩
    unfold binop at h
    cases d <;> cases e <;> first | exact h.elim | skip
    obtain ⟨hz, h⟩ := okIf_inv h
    exact ⟨_, _, rx.ofInt, ry.ofInt, hz, h.here R RV.int⟩
  | Pow =>
    refine ⟨_, op_pow, fun {W σ m S H Q x y d e} R rx ry h => ?_⟩
    unfold binop at h
    cases d <;> cases e <;> first | exact h.elim | skip
    obtain ⟨hz, h⟩ := okIf_inv h
    exact ⟨_, _, rx.ofInt, ry.ofInt, hz, h.here R RV.int⟩
  | LShift =>
    refine ⟨_, op_shl, fun {W σ m S H Q x y d e} R rx ry h => ?_⟩
    unfold binop at h
    cases d <;> cases e <;> first | exact h.elim | skip
    obtain ⟨hz, h⟩ := okIf_inv h
    exact ⟨_, _, rx.ofInt, ry.ofInt, hz, h.here R RV.int⟩
  | MatMult => exact ⟨rNo, op_no, fun R rx ry h => by unfold binop at h; rename_i d e; cases d <;> cases e <;> exact h.elim⟩
  | Div => exact ⟨rNo, op_no, fun R rx ry h => by unfold binop at h; rename_i d e; cases d <;> cases e <;> exact h.elim⟩
  | RShift => exact ⟨rNo, op_no, fun R rx ry h => by unfold binop at h; rename_i d e; cases d <;> cases e <;> exact h.elim⟩
  | BitOr => exact ⟨rNo, op_no, fun R rx ry h => by unfold binop at h; rename_i d e; cases d <;> cases e <;> exact h.elim⟩
  | BitXor => exact ⟨rNo, op_no, fun R rx ry h => by unfold binop at h; rename_i d e; cases d <;> cases e <;> exact h.elim⟩
  | BitAnd => exact ⟨rNo, op_no, fun R rx ry h => by unfold binop at h; rename_i d e; cases d <;> cases e <;> exact h.elim⟩
end
end EV

/-! comparisons, subscripts, slices, truth -/
namespace EV
open PySem L2 PyProof.Rows
variable {G : GS} {W : WX} {σ : L2.St} {m : List Addr} {H : Hp} {S : Store}

/-! ### deep == -/
theorem mapM_cons_inv {α β : Type} {f : α → Option β} {x : α} {l : List α} {r : List β} (h : (x :: l).mapM f = some r) : ∃ y r', r = y :: r' ∧ f x = some y ∧ l.mapM f = some r' := by
  rw [List.mapM_cons] at h
  cases e : f x with
  | none => rw [e] at h; simp at h
  | some y =>
    rw [e] at h
    cases e2 : l.mapM f with
    | none => rw [e2] at h; simp at h
    | some r' =>
      rw [e2] at h
      simp at h
      exact ⟨y, r', h.symm, rfl, rfl⟩
theorem dpAll_of {n : Nat} (ih : ∀ (d : D) (v : V) (pd : PyData), D.py S n d = some pd → RV G m H v d → Dp G.K H v pd) : ∀ (l : List D) (vs : List V) (ps : List PyData), l.mapM (D.py S n) = some ps → RVs G m H vs l → DpAll G.K H vs ps
  | [], [], ps, h, _ => by
    simp at h; subst h; exact .nil
  | d :: l, v :: vs, ps, h, r => by
    obtain ⟨y, r', rfl, h1, h2⟩ := mapM_cons_inv h
    unfold RVs at r
    exact .cons (ih d v y h1 r.1) (dpAll_of ih l vs r' h2 r.2)
  | [], _ :: _, _, _, r => by unfold RVs at r; exact r.elim
  | _ :: _, [], _, _, r => by unfold RVs at r; exact r.elim
theorem py_dp (R : Rep G m S H) : ∀ (n : Nat) (d : D) (v : V) (pd : PyData), D.py S n d = some pd → RV G m H v d → Dp G.K H v pd
  | 0, d, v, pd, h, _ => by unfold D.py at h; cases h
  | n + 1, d, v, pd, h, r => by
    unfold D.py at h
    cases d with
    | non => cases h; rw [r.ofNon]; exact .non
    | bl b => cases h; rw [r.ofBl]; exact .bl b
    | int i => cases h; rw [r.ofInt]; exact .int i
    | str x => cases h; rw [r.ofStr]; exact .str x
    | tup l =>
      simp only [Option.map_eq_some_iff] at h
      obtain ⟨ps, h1, rfl⟩ := h
      obtain ⟨a, xs, rfl, q1, q2, _⟩ := r.ofTup
      exact .tup q1 (dpAll_of (py_dp R n) l xs ps h1 q2)
    | ref i =>
      obtain ⟨a, rfl, ha⟩ := r.ofRef
      simp only at h
      split at h
      · rename_i l e
        simp only [Option.map_eq_some_iff] at h
        obtain ⟨ps, h1, rfl⟩ := h
        obtain ⟨xs, q1, q2, _⟩ := R.cell i a _ ha e
        exact .lst (.inl (.inl q1)) (dpAll_of (py_dp R n) l xs ps h1 q2)
      · rename_i l e
        simp only [Option.map_eq_some_iff] at h
        obtain ⟨ps, h1, rfl⟩ := h
        obtain ⟨o, xs, q1, q2, _⟩ := R.cell i a _ ha e
        exact .lst (.inl (.inr ⟨o, q1⟩)) (dpAll_of (py_dp R n) l xs ps h1 q2)
      · cases h
    | fn _ => cases h
    | cls _ => cases h
    | kl _ => cases h
theorem eqS_inv {x y : D} {b : Bool} (h : eqS S x y = some b) : ∃ p q, D.py S 70 x = some p ∧ D.py S 70 y = some q ∧ SeqAt.shaped p = true ∧ SeqAt.shaped q = true ∧ b = PyData.eqv p q := by
  unfold eqS at h
  split at h
  · rename_i p q e1 e2
    split at h
    · rename_i hs
      cases h
      exact ⟨p, q, e1, e2, hs.1, hs.2, rfl⟩
    · cases h
  · cases h

theorem flat_of {v : V} {d : D} (r : RV G m H v d) (f : flat d = true) : flatV v = true := by
  cases d <;> first | (cases f; done) | skip
  · rw [r.ofNon]; rfl
  · rw [r.ofBl]; rfl
  · rw [r.ofInt]; rfl
  · rw [r.ofStr]; rfl
theorem eqF_of {v w : V} {d e : D} (r : RV G m H v d) (q : RV G m H w e) (f : flat d = true) (g : flat e = true) : eqV v w = eqF d e := by
  cases d <;> first | (cases f; done) | skip
  all_goals (cases e <;> first | (cases g; done) | skip)
  all_goals (unfold RV at r q; rw [r, q]; rfl)
theorem flats_of : ∀ {vs : List V} {l : List D}, RVs G m H vs l → l.all flat = true → vs.all flatV = true
  | [], [], _, _ => rfl
  | v :: vs, d :: l, r, f => by
    unfold RVs at r
    rw [List.all_cons, Bool.and_eq_true] at f ⊢
    exact ⟨flat_of r.1 f.1, flats_of r.2 f.2⟩
  | [], _ :: _, r, _ => by unfold RVs at r; exact r.elim
  | _ :: _, [], r, _ => by unfold RVs at r; exact r.elim
theorem inV_of {v : V} {d : D} (r : RV G m H v d) (f : flat d = true) : ∀ {vs : List V} {l : List D}, RVs G m H vs l → l.all flat = true → inV v vs = l.any fun z => eqF z d
  | [], [], _, _ => rfl
  | w :: vs, e :: l, q, g => by
    unfold RVs at q
    rw [List.all_cons, Bool.and_eq_true] at g
    have ih := inV_of r f q.2 g.2
    unfold inV at ih ⊢
    rw [List.any_cons, List.any_cons, ih, eqF_of q.1 r g.1 f]
  | [], _ :: _, r, _ => by unfold RVs at r; exact r.elim
  | _ :: _, [], r, _ => by unfold RVs at r; exact r.elim

section
variable {X : Cx}
theorem plain_bool {x : V} {v : Value} (r : RelV x v) (b : Bool) : plainIs v (.bool b) = true ∧ (v == Value.bool b) = decide (x = .bl b) := by
  cases x <;> first
    | (cases r; exact ⟨rfl, rfl⟩)
    | (obtain ⟨t, rfl⟩ := r; exact ⟨rfl, rfl⟩)
    | skip
  rename_i c
  cases r
  refine ⟨rfl, ?_⟩
  cases c <;> cases b <;> rfl
theorem op_isAny : OpR X (compareOp .Is) (fun x y H Q => ∃ b, y = .bl b ∧ Q (.bl (decide (x = .bl b))) H) := by
  intro pins s σ H x y v u Q I rx ry h
  obtain ⟨b, rfl, q⟩ := h
  cases (show u = Value.bool b from ry)
  obtain ⟨p1, p2⟩ := plain_bool rx b
  exact wpAny_is_plain p1 (fin_bl I q p2.symm)
theorem op_notAny : OpR X (compareOp .IsNot) (fun x y H Q => ∃ b, y = .bl b ∧ Q (.bl (!decide (x = .bl b))) H) := by
  intro pins s σ H x y v u Q I rx ry h
  obtain ⟨b, rfl, q⟩ := h
  cases (show u = Value.bool b from ry)
  obtain ⟨p1, p2⟩ := plain_bool rx b
  exact wpAny_isNot_plain p1 (fin_bl I q (by rw [p2]))
theorem non_iff {v : V} {d : D} (r : RV G m H v d) : decide (v = .non) = isNonD d := by
  cases d <;> unfold RV at r <;> first
    | (rw [r]; rfl)
    | (obtain ⟨a, xs, rfl, _⟩ := r; rfl)
    | (obtain ⟨a, rfl, _⟩ := r; rfl)
theorem bl_iff {v : V} {d : D} (r : RV G m H v d) (b : Bool) : decide (v = .bl b) = isBlD b d := by
  cases d <;> unfold RV at r <;> first
    | (rw [r]; simp [isBlD])
    | (obtain ⟨a, xs, rfl, _⟩ := r; simp [isBlD])
    | (obtain ⟨a, rfl, _⟩ := r; simp [isBlD])
theorem cmp_ok (hK : X.K = G.K) (hu : X.A.units + 64 < cLine) (op : CmpOp) : ∃ r : R2, OpR X (compareOp op) r ∧ ∀ {W : WX} {σ : L2.St} {m : List Addr} {S : Store} {H : Hp} {Q : VK} {x y : V} {d e : D},
    Rep G m S H → RV G m H x d → RV G m H y e → Post G W σ m H (PQ G Q) (cmpop op d e S) → r x y H Q := by
  cases op with
  | Eq =>
    refine ⟨_, op_eqD hu, fun {W σ m S H Q x y d e} R rx ry h => ?_⟩
    obtain ⟨b, hb, h⟩ := ofO_inv h
    obtain ⟨p, q, e1, e2, s1, s2, rfl⟩ := eqS_inv hb
    exact ⟨p, q, hK ▸ py_dp R _ _ _ _ e1 rx, hK ▸ py_dp R _ _ _ _ e2 ry, s1, s2, h.here R RV.bl⟩
  | NotEq =>
    refine ⟨_, op_neD hu, fun {W σ m S H Q x y d e} R rx ry h => ?_⟩
    obtain ⟨b, hb, h⟩ := ofO_inv h
    obtain ⟨p, q, e1, e2, s1, s2, rfl⟩ := eqS_inv hb
    exact ⟨p, q, hK ▸ py_dp R _ _ _ _ e1 rx, hK ▸ py_dp R _ _ _ _ e2 ry, s1, s2, h.here R RV.bl⟩
  | Lt =>
    refine ⟨_, op_lt.or op_lt_str, fun {W σ m S H Q x y d e} R rx ry h => ?_⟩
    unfold cmpop at h
    cases d <;> cases e <;> first | exact h.elim | skip
    · exact .inl ⟨_, _, rx.ofInt, ry.ofInt, h.here R RV.bl⟩
    · exact .inr ⟨_, _, rx.ofStr, ry.ofStr, h.here R RV.bl⟩
  | LtE =>
    refine ⟨_, op_le, fun {W σ m S H Q x y d e} R rx ry h => ?_⟩
    unfold cmpop at h
    cases d <;> cases e <;> first | exact h.elim | skip
    exact ⟨_, _, rx.ofInt, ry.ofInt, h.here R RV.bl⟩
  | Gt =>
    refine ⟨_, op_gt, fun {W σ m S H Q x y d e} R rx ry h => ?_⟩
    unfold cmpop at h
    cases d <;> cases e <;> first | exact h.elim | skip
    exact ⟨_, _, rx.ofInt, ry.ofInt, h.here R RV.bl⟩
  | GtE =>
    refine ⟨_, op_ge, fun {W σ m S H Q x y d e} R rx ry h => ?_⟩
    unfold cmpop at h
    cases d <;> cases e <;> first | exact h.elim | skip
    exact ⟨_, _, rx.ofInt, ry.ofInt, h.here R RV.bl⟩
  | Is =>
    refine ⟨_, op_isN.or op_isAny, fun {W σ m S H Q x y d e} R rx ry h => ?_⟩
    unfold cmpop at h
    cases e <;> first | exact h.elim | skip
    · exact .inl ⟨ry.ofNon, by rw [non_iff rx]; exact h.here R RV.bl⟩
    · exact .inr ⟨_, ry.ofBl, by rw [bl_iff rx]; exact h.here R RV.bl⟩
  | IsNot =>
    refine ⟨_, op_notN.or op_notAny, fun {W σ m S H Q x y d e} R rx ry h => ?_⟩
    unfold cmpop at h
    cases e <;> first | exact h.elim | skip
    · exact .inl ⟨ry.ofNon, by rw [non_iff rx]; exact h.here R RV.bl⟩
    · exact .inr ⟨_, ry.ofBl, by rw [bl_iff rx]; exact h.here R RV.bl⟩
  | In =>
    refine ⟨_, op_in_str.or op_in_seq, fun {W σ m S H Q x y d e} R rx ry h => ?_⟩
    have seq : ∀ {e : D} {y : V}, RV G m H y e → Post G W σ m H (PQ G Q) (ofO (seqOf S e) fun l => okIf (flat d = true ∧ l.all flat = true) (.ok (.bl (l.any fun z => eqF z d)) S)) → rIn X.K false x y H Q := fun {e y} ry h => by
      obtain ⟨l, hl, h⟩ := ofO_inv h
      obtain ⟨⟨f1, f2⟩, h⟩ := okIf_inv h
      obtain ⟨a, xs, rfl, hx, rxs, _⟩ := seq_inv R hl ry
      refine ⟨a, xs, rfl, hK ▸ hx, flat_of rx f1, flats_of rxs f2, ?_⟩
      show Q (.bl (inV x xs)) H
      rw [inV_of rx f1 rxs f2]
      exact h.here R RV.bl
    unfold cmpop at h
    cases e with
    | str b =>
      cases d <;> first | exact h.elim | skip
      exact .inl ⟨_, _, rx.ofStr, ry.ofStr, h.here R RV.bl⟩
    | _ => exact .inr (seq ry h)
  | NotIn =>
    refine ⟨_, op_notIn_str.or op_notIn_seq, fun {W σ m S H Q x y d e} R rx ry h => ?_⟩
    have seq : ∀ {e : D} {y : V}, RV G m H y e → Post G W σ m H (PQ G Q) (ofO (seqOf S e) fun l => okIf (flat d = true ∧ l.all flat = true) (.ok (.bl (!(l.any fun z => eqF z d))) S)) → rIn X.K true x y H Q := fun {e y} ry h => by
      obtain ⟨l, hl, h⟩ := ofO_inv h
      obtain ⟨⟨f1, f2⟩, h⟩ := okIf_inv h
      obtain ⟨a, xs, rfl, hx, rxs, _⟩ := seq_inv R hl ry
      refine ⟨a, xs, rfl, hK ▸ hx, flat_of rx f1, flats_of rxs f2, ?_⟩
      show Q (.bl (!inV x xs)) H
      rw [inV_of rx f1 rxs f2]
      exact h.here R RV.bl
    unfold cmpop at h
    cases e with
    | str b =>
      cases d <;> first | exact h.elim | skip
      exact .inl ⟨_, _, rx.ofStr, ry.ofStr, h.here R RV.bl⟩
    | _ => exact .inr (seq ry h)
/-- == of a True or False, as a rule's answer -/
theorem cmpop_bl {op : CmpOp} {d e : D} {S : Store} {r : D} {S' : Store} (h : cmpop op d e S = .ok r S') : (∃ b, r = .bl b) ∧ S' = S := by
  have z : ∀ {α : Type} (o : Option α) (f : α → Bool), (ofO o fun a => (Res.ok (D.bl (f a)) S : Res D)) = .ok r S' → (∃ b, r = .bl b) ∧ S' = S := fun o f h => by
    cases o with
    | none => cases h
    | some a => cases h; exact ⟨⟨_, rfl⟩, rfl⟩
  have z2 : ∀ (o : Option (List D)) (c : List D → Prop) [∀ l, Decidable (c l)] (f : List D → Bool), (ofO o fun a => okIf (c a) (Res.ok (D.bl (f a)) S : Res D)) = .ok r S' → (∃ b, r = .bl b) ∧ S' = S := fun o c _ f h => by
    cases o with
    | none => cases h
    | some a =>
      simp only [ofO_some] at h
      unfold okIf at h
      split at h
      · cases h; exact ⟨⟨_, rfl⟩, rfl⟩
      · cases h
  cases op <;> unfold cmpop at h
  · exact z _ (fun b => b) h
  · exact z _ (fun b => !b) h
  · cases d <;> cases e <;> first | (cases h; done) | (cases h; exact ⟨⟨_, rfl⟩, rfl⟩)
  · cases d <;> cases e <;> first | (cases h; done) | (cases h; exact ⟨⟨_, rfl⟩, rfl⟩)
  · cases d <;> cases e <;> first | (cases h; done) | (cases h; exact ⟨⟨_, rfl⟩, rfl⟩)
  · cases d <;> cases e <;> first | (cases h; done) | (cases h; exact ⟨⟨_, rfl⟩, rfl⟩)
  · cases e <;> first | (cases h; done) | (cases h; exact ⟨⟨_, rfl⟩, rfl⟩)
  · cases e <;> first | (cases h; done) | (cases h; exact ⟨⟨_, rfl⟩, rfl⟩)
  · cases e with
    | str b => cases d <;> first | (cases h; done) | (cases h; exact ⟨⟨_, rfl⟩, rfl⟩)
    | _ => exact z2 _ (fun l => flat d = true ∧ l.all flat = true) (fun l => l.any fun z => eqF z d) h
  · cases e with
    | str b => cases d <;> first | (cases h; done) | (cases h; exact ⟨⟨_, rfl⟩, rfl⟩)
    | _ => exact z2 _ (fun l => flat d = true ∧ l.all flat = true) (fun l => !(l.any fun z => eqF z d)) h

/-! ### subscripts -/
theorem atI_rv {xs : List V} {l : List D} {i : Int} {d : D} (r : RVs G m H xs l) (h : atI l i = some d) : ∃ v, atI xs i = some v ∧ RV G m H v d := by
  unfold atI at h ⊢
  rw [r.length]
  cases e : ixN l.length i with
  | none => rw [e] at h; cases h
  | some j =>
    rw [e] at h
    exact r.get h
theorem ix_ok (hK : X.K = G.K) : ∃ r : R2, IxR X r ∧ ∀ {W : WX} {σ : L2.St} {m : List Addr} {S : Store} {H : Hp} {Q : VK} {x y : V} {d e : D},
    Rep G m S H → RV G m H x d → RV G m H y e → Post G W σ m H (PQ G Q) (ixop d e S) → r x y H Q := by
  refine ⟨_, ix_seq, fun {W σ m S H Q x y d e} R rx ry h => ?_⟩
  have seq : ∀ {i : Int}, e = .int i → Post G W σ m H (PQ G Q) (ofO (seqOf S d) fun l => ofO (atI l i) fun d => .ok d S) → rIx X.K x y H Q := fun {i} ee h' => by
    subst ee
    obtain ⟨l, hl, h⟩ := ofO_inv h'
    obtain ⟨a, xs, rfl, hx, rxs, _⟩ := seq_inv R hl rx
    obtain ⟨d', hd', h⟩ := ofO_inv h
    obtain ⟨v, hv, rv⟩ := atI_rv rxs hd'
    rcases hx with hx | hx
    · exact .inl ⟨a, xs, i, v, rfl, ry.ofInt, hK ▸ hx, hv, h.here R rv⟩
    · exact .inr (.inl ⟨a, xs, i, v, rfl, ry.ofInt, hK ▸ hx, hv, h.here R rv⟩)
  unfold ixop at h
  cases e <;> first | exact h.elim | skip
  cases d with
  | str z =>
    obtain ⟨hz, h⟩ := okIf_inv h
    obtain ⟨c, hc, h⟩ := ofO_inv h
    exact .inr (.inr ⟨z, _, c, rx.ofStr, ry.ofInt, hz, hc, h.here R RV.str⟩)
  | _ => exact seq rfl h

/-! ### slices -/
theorem sl_ok (hK : X.K = G.K) : ∃ r : V → Option Int → Option Int → Hp → VK → Prop, SlR X r ∧ ∀ {W : WX} {σ : L2.St} {m : List Addr} {S : Store} {H : Hp} {Q : VK} {x : V} {d : D} {lo hi : Option Int},
    Rep G m S H → RV G m H x d → Post G W σ m H (PQ G Q) (slop d lo hi S) → r x lo hi H Q := by
  refine ⟨_, sl_list.or sl_tupA, fun {W σ m S H Q x d lo hi} R rx h => ?_⟩
  unfold slop at h
  cases d <;> first | exact h.elim | skip
  · obtain ⟨a, xs, rfl, hx, rxs, hz⟩ := rx.ofTup
    refine .inr ⟨a, xs, rfl, hK ▸ hx, fun hw => ?_, fun _ p hp => h.newTup R (rxs.cut lo hi) (Nat.le_trans (cutV_length xs lo hi) hz) hp⟩
    refine h.here R (RV.mkTup hx ?_ hz)
    have e := rxs.cut lo hi
    have : cutV xs lo hi = xs := by
      unfold cutV
      rw [hw.1, hw.2]
      simp
    rw [this] at e
    exact e
  · obtain ⟨l, hl, h⟩ := ofO_inv h
    obtain ⟨a, rfl, ha⟩ := rx.ofRef
    obtain ⟨xs, h1, h2, h3⟩ := seqRef_inv R hl ha
    exact .inl ⟨a, xs, rfl, hK ▸ h1, fun p hp => h.newLst R (h2.cut lo hi) (Nat.le_trans (cutV_length xs lo hi) h3) hp⟩
  · rename_i ns
    unfold RV at rx
    obtain ⟨a, rfl, h1, h3⟩ := rx
    exact .inl ⟨a, ns.map V.int, rfl, hK ▸ h1 H, fun p hp => h.newLst R ((RVs.ints ns).cut lo hi) (Nat.le_trans (cutV_length _ lo hi) (by rw [List.length_map]; exact h3)) hp⟩

/-! ### truth -/
theorem isEmpty_rv {xs : List V} {l : List D} (r : RVs G m H xs l) : xs.isEmpty = l.isEmpty := by
  have := r.length
  cases xs <;> cases l <;> simp at this ⊢
theorem truth_ok (hK : X.K = G.K) {d : D} {v : V} {b : Bool} (R : Rep G m S H) (r : RV G m H v d) (h : truth S d = some b) : TruV X.K v H b := by
  unfold truth at h
  cases d with
  | non => cases h; rw [r.ofNon]; rfl
  | bl c => cases h; rw [r.ofBl]; rfl
  | int i => cases h; rw [r.ofInt]; rfl
  | str x =>
    simp only at h
    split at h
    · rename_i hz
      cases h; rw [r.ofStr]
      refine ⟨hz, ?_⟩
      cases hx : x.length with
      | zero => rfl
      | succ n =>
        have e1 : (n + 1 != 0) = true := by simp
        have e2 : (((n + 1 : Nat) : Int) != 0) = true := by simp; omega
        rw [e1, e2]
    · cases h
  | tup l =>
    cases h
    obtain ⟨a, xs, rfl, hx, rxs, hz⟩ := r.ofTup
    exact .inr (.inl ⟨xs, hK ▸ hx, by rw [isEmpty_rv rxs]⟩)
  | ref i =>
    obtain ⟨a, rfl, ha⟩ := r.ofRef
    have key : ∀ l, seqOf S (.ref i) = some l → b = !l.isEmpty → TruV X.K (.ref a) H b := fun l hl hb => by
      obtain ⟨xs, h1, h2, h3⟩ := seqRef_inv R hl ha
      exact .inl ⟨xs, hK ▸ h1, by rw [hb, isEmpty_rv h2]⟩
    simp only at h
    split at h
    · rename_i l e
      cases h
      exact key l (by simp only [seqOf, e]) rfl
    · rename_i l e
      cases h
      exact key l (by simp only [seqOf, e]) rfl
    · cases h
  | _ => cases h
end
end EV

/-! built-ins, methods, isinstance, stores -/
namespace EV
open PySem L2 PyProof.Rows
variable {G : GS} {W : WX} {σ : L2.St} {m : List Addr} {H : Hp} {S : Store}

def biV : Bi → Value
  | .len => .builtin "len"
  | .int => .type "int"
  | .str => .type "str"
  | .tuple => .type "tuple"
  | .list => .type "list"
  | .abs => .builtin "abs"
  | .min => .builtin "min"
  | .max => .builtin "max"
  | .sum => .builtin "sum"
  | .any => .builtin "any"
  | .all => .builtin "all"
  | .sorted => .builtin "sorted"
def biName : Bi → Str
  | .len => "len"
  | .int => "int"
  | .str => "str"
  | .tuple => "tuple"
  | .list => "list"
  | .abs => "abs"
  | .min => "min"
  | .max => "max"
  | .sum => "sum"
  | .any => "any"
  | .all => "all"
  | .sorted => "sorted"
theorem biBoot (f : Bi) : bootBuiltins (biName f) = some (biV f) := by cases f <;> decide +kernel

theorem intsD_rv : ∀ {l : List D} {ns : List Int} {xs : List V}, intsD l = some ns → RVs G m H xs l → xs = ns.map V.int
  | [], ns, [], h, _ => by cases h; rfl
  | .int i :: l, ns, x :: xs, h, r => by
    unfold RVs at r
    simp only [intsD, Option.map_eq_some_iff] at h
    obtain ⟨ns', h1, rfl⟩ := h
    rw [r.1.ofInt, intsD_rv h1 r.2]; rfl
  | [], _, _ :: _, _, r => by unfold RVs at r; exact r.elim
  | _ :: _, _, [], _, r => by unfold RVs at r; exact r.elim
  | .non :: _, _, _ :: _, h, _ => by simp [intsD] at h
  | .bl _ :: _, _, _ :: _, h, _ => by simp [intsD] at h
  | .str _ :: _, _, _ :: _, h, _ => by simp [intsD] at h
  | .tup _ :: _, _, _ :: _, h, _ => by simp [intsD] at h
  | .ref _ :: _, _, _ :: _, h, _ => by simp [intsD] at h
  | .fn _ :: _, _, _ :: _, h, _ => by simp [intsD] at h
  | .cls _ :: _, _, _ :: _, h, _ => by simp [intsD] at h
theorem boolsD_rv : ∀ {l : List D} {ns : List Bool} {xs : List V}, boolsD l = some ns → RVs G m H xs l → xs = ns.map V.bl
  | [], ns, [], h, _ => by cases h; rfl
  | .bl i :: l, ns, x :: xs, h, r => by
    unfold RVs at r
    simp only [boolsD, Option.map_eq_some_iff] at h
    obtain ⟨ns', h1, rfl⟩ := h
    rw [r.1.ofBl, boolsD_rv h1 r.2]; rfl
  | [], _, _ :: _, _, r => by unfold RVs at r; exact r.elim
  | _ :: _, _, [], _, r => by unfold RVs at r; exact r.elim
  | .non :: _, _, _ :: _, h, _ => by simp [boolsD] at h
  | .int _ :: _, _, _ :: _, h, _ => by simp [boolsD] at h
  | .str _ :: _, _, _ :: _, h, _ => by simp [boolsD] at h
  | .tup _ :: _, _, _ :: _, h, _ => by simp [boolsD] at h
  | .ref _ :: _, _, _ :: _, h, _ => by simp [boolsD] at h
  | .fn _ :: _, _, _ :: _, h, _ => by simp [boolsD] at h
  | .cls _ :: _, _, _ :: _, h, _ => by simp [boolsD] at h

theorem foldl_max : ∀ (l : List Int) (n : Int), l.foldl max n = n ∨ l.foldl max n ∈ l
  | [], n => .inl rfl
  | x :: l, n => by
    rw [List.foldl_cons]
    rcases foldl_max l (max n x) with h | h
    · rw [h]
      by_cases hx : n ≤ x
      · right; rw [show max n x = x by omega]; exact List.mem_cons_self
      · left; omega
    · right; exact List.mem_cons_of_mem _ h
theorem foldl_max_le : ∀ (l : List Int) (n : Int), n ≤ l.foldl max n ∧ ∀ y ∈ l, y ≤ l.foldl max n
  | [], n => ⟨Int.le_refl _, fun _ h => nomatch h⟩
  | x :: l, n => by
    rw [List.foldl_cons]
    obtain ⟨h1, h2⟩ := foldl_max_le l (max n x)
    refine ⟨by omega, fun y hy => ?_⟩
    rcases List.mem_cons.mp hy with rfl | hy
    · omega
    · exact h2 y hy
theorem foldl_min : ∀ (l : List Int) (n : Int), l.foldl min n = n ∨ l.foldl min n ∈ l
  | [], n => .inl rfl
  | x :: l, n => by
    rw [List.foldl_cons]
    rcases foldl_min l (min n x) with h | h
    · rw [h]
      by_cases hx : x ≤ n
      · right; rw [show min n x = x by omega]; exact List.mem_cons_self
      · left; omega
    · right; exact List.mem_cons_of_mem _ h
theorem foldl_min_le : ∀ (l : List Int) (n : Int), l.foldl min n ≤ n ∧ ∀ y ∈ l, l.foldl min n ≤ y
  | [], n => ⟨Int.le_refl _, fun _ h => nomatch h⟩
  | x :: l, n => by
    rw [List.foldl_cons]
    obtain ⟨h1, h2⟩ := foldl_min_le l (min n x)
    refine ⟨by omega, fun y hy => ?_⟩
    rcases List.mem_cons.mp hy with rfl | hy
    · omega
    · exact h2 y hy

section
variable {X : Cx}
abbrev rNoC : List V → Hp → VK → Prop := fun _ _ _ => False
theorem call_no {f : Value} : CallR X f rNoC := fun _ _ _ _ _ _ _ _ _ h => h.elim
/-- what one of these built-ins asks -/
structure BiOk (X : Cx) (G : GS) (f : Bi) (r : List V → Hp → VK → Prop) : Prop where
  ok : CallR X (biV f) r
  lst : ∀ (W : WX) (σ : L2.St) (m : List Addr) (S : Store) (H : Hp) (Q : VK) (a : Addr) (xs : List V) (l : List D), Rep G m S H → SqL X.K H a xs → RVs G m H xs l → xs.length ≤ sizeLine → Post G W σ m H (PQ G Q) (biL f l S) → r [.ref a] H Q
  tup : ∀ (W : WX) (σ : L2.St) (m : List Addr) (S : Store) (H : Hp) (Q : VK) (a : Addr) (xs : List V) (l : List D), Rep G m S H → SqT X.K H a xs → RVs G m H xs l → xs.length ≤ sizeLine → Post G W σ m H (PQ G Q) (biT f l S) → r [.ref a] H Q
  int : ∀ (W : WX) (σ : L2.St) (m : List Addr) (S : Store) (H : Hp) (Q : VK) (i : Int), Rep G m S H → Post G W σ m H (PQ G Q) (biI f i S) → r [.int i] H Q
  bl : ∀ (W : WX) (σ : L2.St) (m : List Addr) (S : Store) (H : Hp) (Q : VK) (b : Bool), Rep G m S H → Post G W σ m H (PQ G Q) (biB f b S) → r [.bl b] H Q
  str : ∀ (W : WX) (σ : L2.St) (m : List Addr) (S : Store) (H : Hp) (Q : VK) (x : Str), Rep G m S H → Post G W σ m H (PQ G Q) (biS f x S) → r [.str x] H Q
  ii : ∀ (W : WX) (σ : L2.St) (m : List Addr) (S : Store) (H : Hp) (Q : VK) (i j : Int), Rep G m S H → Post G W σ m H (PQ G Q) (biII f i j S) → r [.int i, .int j] H Q
theorem vs1 {xs : List V} {d : D} (r : RVs G m H xs [d]) : ∃ v, xs = [v] ∧ RV G m H v d := by
  match xs, r with
  | [v], r => unfold RVs at r; exact ⟨v, rfl, r.1⟩
  | [], r => unfold RVs at r; exact r.elim
  | _ :: _ :: _, r => unfold RVs at r; have := r.2; unfold RVs at this; exact this.elim
theorem vs2 {xs : List V} {d e : D} (r : RVs G m H xs [d, e]) : ∃ v w, xs = [v, w] ∧ RV G m H v d ∧ RV G m H w e := by
  match xs, r with
  | v :: ws, r =>
    unfold RVs at r
    obtain ⟨w, rfl, h⟩ := vs1 r.2
    exact ⟨v, w, rfl, r.1, h⟩
  | [], r => unfold RVs at r; exact r.elim
/-- of anything -/
theorem BiOk.any (hK : X.K = G.K) {f : Bi} {r : List V → Hp → VK → Prop} (B : BiOk X G f r) {Q : VK} {xs : List V} {l : List D} (R : Rep G m S H) (rx : RVs G m H xs l) (h : Post G W σ m H (PQ G Q) (biop f l S)) : r xs H Q := by
  unfold biop at h
  split at h
  · obtain ⟨v, rfl, rv⟩ := vs1 rx
    unfold bi1 at h
    split at h
    · obtain ⟨a, ys, rfl, hx, rxs, hz⟩ := rv.ofTup
      exact B.tup _ _ _ _ _ _ _ _ _ R (hK ▸ hx) rxs hz h
    · obtain ⟨l, hl, h⟩ := ofO_inv h
      obtain ⟨a, rfl, ha⟩ := rv.ofRef
      obtain ⟨ys, h1, h2, h3⟩ := seqRef_inv R hl ha
      exact B.lst _ _ _ _ _ _ _ _ _ R (hK ▸ h1) h2 h3 h
    · rw [rv.ofInt]; exact B.int _ _ _ _ _ _ _ R h
    · rw [rv.ofBl]; exact B.bl _ _ _ _ _ _ _ R h
    · rw [rv.ofStr]; exact B.str _ _ _ _ _ _ _ R h
    · exact h.elim
  · obtain ⟨v, w, rfl, rv, rw'⟩ := vs2 rx
    unfold bi2 at h
    split at h
    · rw [rv.ofInt, rw'.ofInt]; exact B.ii _ _ _ _ _ _ _ _ R h
    · exact h.elim
  · exact h.elim
theorem bi_ok (hK : X.K = G.K) (hc : X.calm = true) (f : Bi) : ∃ r, BiOk X G f r := by
  cases f with
  | len => exact ⟨_, call_len, fun _ _ _ _ _ _ a xs _ R hq rx hz h => ⟨.ref a, xs.length, rfl, .inl ⟨xs, hq, rfl⟩, by rw [rx.length]; exact h.here R RV.int⟩,
      fun _ _ _ _ _ _ a xs _ R hq rx hz h => ⟨.ref a, xs.length, rfl, .inr ⟨xs, hq, rfl⟩, by rw [rx.length]; exact h.here R RV.int⟩, fun _ _ _ _ _ _ _ _ h => h.elim, fun _ _ _ _ _ _ _ _ h => h.elim,
      fun _ _ _ _ _ _ x R h => ⟨_, _, rfl, ⟨(okIf_inv h).1, rfl⟩, (okIf_inv h).2.here R RV.int⟩, fun _ _ _ _ _ _ _ _ _ h => h.elim⟩
  | int => exact ⟨_, (call_int1 (X := X)).or call_int_str, fun _ _ _ _ _ _ _ _ _ _ _ _ _ h => h.elim, fun _ _ _ _ _ _ _ _ _ _ _ _ _ h => h.elim, fun _ _ _ _ _ _ i R h => .inl (.inl ⟨i, rfl, h.here R RV.int⟩),
      fun _ _ _ _ _ _ b R h => .inl (.inr ⟨b, rfl, h.here R RV.int⟩), fun _ _ _ _ _ _ x R h => by
        obtain ⟨n, hn, h⟩ := ofO_inv h
        obtain ⟨hz, h⟩ := okIf_inv h
        exact .inr ⟨x, n, rfl, hn, hz, h.here R RV.int⟩, fun _ _ _ _ _ _ _ _ _ h => h.elim⟩
  | str => exact ⟨_, call_str_int (X := X), fun _ _ _ _ _ _ _ _ _ _ _ _ _ h => h.elim, fun _ _ _ _ _ _ _ _ _ _ _ _ _ h => h.elim, fun _ _ _ _ _ _ i R h => ⟨i, rfl, (okIf_inv h).1, (okIf_inv h).2.here R RV.str⟩,
      fun _ _ _ _ _ _ _ _ h => h.elim, fun _ _ _ _ _ _ _ _ h => h.elim, fun _ _ _ _ _ _ _ _ _ h => h.elim⟩
  | tuple => exact ⟨_, call_tuple_of, fun _ _ _ _ _ _ a xs _ R hq rx hz h => ⟨a, xs, rfl, .inl ⟨hq, fun p hp => h.newTup R rx hz hp⟩⟩,
      fun _ _ _ _ _ _ a xs _ R hq rx hz h => ⟨a, xs, rfl, .inr ⟨hq, h.here R (RV.mkTup (hK ▸ hq) rx hz)⟩⟩, fun _ _ _ _ _ _ _ _ h => h.elim, fun _ _ _ _ _ _ _ _ h => h.elim, fun _ _ _ _ _ _ _ _ h => h.elim, fun _ _ _ _ _ _ _ _ _ h => h.elim⟩
  | list => exact ⟨_, call_list_of, fun _ _ _ _ _ _ a xs _ R hq rx hz h => ⟨a, xs, rfl, .inl hq, fun p hp => h.newLst R rx hz hp⟩,
      fun _ _ _ _ _ _ a xs _ R hq rx hz h => ⟨a, xs, rfl, .inr hq, fun p hp => h.newLst R rx hz hp⟩, fun _ _ _ _ _ _ _ _ h => h.elim, fun _ _ _ _ _ _ _ _ h => h.elim, fun _ _ _ _ _ _ _ _ h => h.elim, fun _ _ _ _ _ _ _ _ _ h => h.elim⟩
  | abs => exact ⟨_, call_abs (X := X), fun _ _ _ _ _ _ _ _ _ _ _ _ _ h => h.elim, fun _ _ _ _ _ _ _ _ _ _ _ _ _ h => h.elim, fun _ _ _ _ _ _ i R h => ⟨i, rfl, h.here R RV.int⟩,
      fun _ _ _ _ _ _ _ _ h => h.elim, fun _ _ _ _ _ _ _ _ h => h.elim, fun _ _ _ _ _ _ _ _ _ h => h.elim⟩
  | min =>
    refine ⟨_, (call_min2 (X := X) hc).or (cr_min hc), fun _ _ _ _ _ _ a xs l R hq rx hz h => ?_, fun _ _ _ _ _ _ _ _ _ _ _ _ _ h => h.elim, fun _ _ _ _ _ _ _ _ h => h.elim, fun _ _ _ _ _ _ _ _ h => h.elim, fun _ _ _ _ _ _ _ _ h => h.elim,
      fun _ _ _ _ _ _ i j R h => .inl ⟨i, j, rfl, h.here R RV.int⟩⟩
    obtain ⟨ns, hn, h⟩ := ofO_inv h
    have e := intsD_rv hn rx
    subst e
    cases ns with
    | nil => exact h.elim
    | cons n r =>
      refine .inr ⟨a, n :: r, rfl, hq, by simp, fun z hm hl => ?_⟩
      have e : z = r.foldl min n := by
        have h1 := foldl_min r n
        obtain ⟨h2, h3⟩ := foldl_min_le r n
        have h4 : z ≤ r.foldl min n := by
          rcases h1 with q | q
          · rw [q]; exact hl n List.mem_cons_self
          · exact hl _ (List.mem_cons_of_mem _ q)
        rcases List.mem_cons.mp hm with rfl | q
        · omega
        · have := h3 z q; omega
      rw [e]
      exact h.here R RV.int
  | max =>
    refine ⟨_, (call_max2 (X := X) hc).or (cr_max hc), fun _ _ _ _ _ _ a xs l R hq rx hz h => ?_, fun _ _ _ _ _ _ _ _ _ _ _ _ _ h => h.elim, fun _ _ _ _ _ _ _ _ h => h.elim, fun _ _ _ _ _ _ _ _ h => h.elim, fun _ _ _ _ _ _ _ _ h => h.elim,
      fun _ _ _ _ _ _ i j R h => .inl ⟨i, j, rfl, h.here R RV.int⟩⟩
    obtain ⟨ns, hn, h⟩ := ofO_inv h
    have e := intsD_rv hn rx
    subst e
    cases ns with
    | nil => exact h.elim
    | cons n r =>
      refine .inr ⟨a, n :: r, rfl, hq, by simp, fun z hm hl => ?_⟩
      have e : z = r.foldl max n := by
        have h1 := foldl_max r n
        obtain ⟨h2, h3⟩ := foldl_max_le r n
        have h4 : r.foldl max n ≤ z := by
          rcases h1 with q | q
          · rw [q]; exact hl n List.mem_cons_self
          · exact hl _ (List.mem_cons_of_mem _ q)
        rcases List.mem_cons.mp hm with rfl | q
        · omega
        · have := h3 z q; omega
      rw [e]
      exact h.here R RV.int
  | sum => exact ⟨_, cr_sum hc, fun _ _ _ _ _ _ a xs l R hq rx hz h => by
        obtain ⟨ns, hn, h⟩ := ofO_inv h
        have e := intsD_rv hn rx
        subst e
        exact ⟨a, ns, rfl, hq, h.here R RV.int⟩, fun _ _ _ _ _ _ _ _ _ _ _ _ _ h => h.elim, fun _ _ _ _ _ _ _ _ h => h.elim, fun _ _ _ _ _ _ _ _ h => h.elim, fun _ _ _ _ _ _ _ _ h => h.elim, fun _ _ _ _ _ _ _ _ _ h => h.elim⟩
  | any => exact ⟨_, cr_any hc, fun _ _ _ _ _ _ a xs l R hq rx hz h => by
        obtain ⟨ns, hn, h⟩ := ofO_inv h
        have e := boolsD_rv hn rx
        subst e
        exact ⟨a, ns, rfl, hq, h.here R RV.bl⟩, fun _ _ _ _ _ _ _ _ _ _ _ _ _ h => h.elim, fun _ _ _ _ _ _ _ _ h => h.elim, fun _ _ _ _ _ _ _ _ h => h.elim, fun _ _ _ _ _ _ _ _ h => h.elim, fun _ _ _ _ _ _ _ _ _ h => h.elim⟩
  | all => exact ⟨_, cr_all hc, fun _ _ _ _ _ _ a xs l R hq rx hz h => by
        obtain ⟨ns, hn, h⟩ := ofO_inv h
        have e := boolsD_rv hn rx
        subst e
        exact ⟨a, ns, rfl, hq, h.here R RV.bl⟩, fun _ _ _ _ _ _ _ _ _ _ _ _ _ h => h.elim, fun _ _ _ _ _ _ _ _ h => h.elim, fun _ _ _ _ _ _ _ _ h => h.elim, fun _ _ _ _ _ _ _ _ h => h.elim, fun _ _ _ _ _ _ _ _ _ h => h.elim⟩
  | sorted => exact ⟨rNoC, call_no, fun _ _ _ _ _ _ _ _ _ _ _ _ _ h => h.elim, fun _ _ _ _ _ _ _ _ _ _ _ _ _ h => h.elim, fun _ _ _ _ _ _ _ _ h => h.elim, fun _ _ _ _ _ _ _ _ h => h.elim, fun _ _ _ _ _ _ _ _ h => h.elim, fun _ _ _ _ _ _ _ _ _ h => h.elim⟩

/-! ### isinstance with a built-in type -/
theorem ty_of (hK : X.K = G.K) {d : D} {v : V} {c : String} (R : Rep G m S H) (r : RV G m H v d) (h : clOf S d = some c) : TyX X.K H v (.type c) := by
  unfold clOf at h
  cases d with
  | non => cases h; rw [r.ofNon]; exact .base .non
  | bl c => cases h; rw [r.ofBl]; exact .base (.bl _)
  | int i => cases h; rw [r.ofInt]; exact .base (.int _)
  | str x => cases h; rw [r.ofStr]; exact .base (.str _)
  | tup l =>
    cases h
    obtain ⟨a, xs, rfl, hx, rxs, hz⟩ := r.ofTup
    rcases hx with (hx | ⟨o, hx⟩) | ⟨o, its, n, h1, h2, _⟩
    · exact .base (.tup hx)
    · exact .fTuple hx
    · exact .kTuple (hK ▸ h1) h2
  | ref i =>
    obtain ⟨a, rfl, ha⟩ := r.ofRef
    simp only at h
    split at h
    · rename_i l e
      cases h
      obtain ⟨xs, q1, _⟩ := R.cell i a _ ha e
      exact .base (.lst q1)
    · rename_i l e
      cases h
      obtain ⟨o, xs, q1, _⟩ := R.cell i a _ ha e
      exact .base (.frz q1)
    · cases h
  | _ => cases h

/-! ### methods of lists -/
theorem getLast_rv {xs : List V} {l : List D} {d : D} (r : RVs G m H xs l) (h : l.getLast? = some d) : ∃ v, xs[xs.length - 1]? = some v ∧ RV G m H v d := by
  rw [List.getLast?_eq_getElem?] at h
  rw [r.length]
  exact r.get h
theorem append_sem (hK : X.K = G.K) {x : V} {ys : List V} {d : D} {l : List D} {Q : VK} (R : Rep G m S H) (r : RV G m H x d) (rs : RVs G m H ys l) (h : Post G W σ m H (PQ G Q) (mAppend d l S)) :
    tyV X.K "list" x H ∧ rAppend x ys H Q := by
  unfold mAppend at h
  split at h <;> first | exact h.elim | skip
  obtain ⟨v, rfl, rv⟩ := vs1 rs
  obtain ⟨xs0, hl, h⟩ := ofO_inv h
  obtain ⟨hz, h⟩ := okIf_inv h
  obtain ⟨a, rfl, ha⟩ := r.ofRef
  obtain ⟨xs, h1, h2, h3⟩ := lstOf_inv R hl ha
  have hz' : xs.length < sizeLine := by rw [h2.length]; exact hz
  refine ⟨.inl ⟨rfl, xs, .inl (.inl h1)⟩, a, xs, v, rfl, rfl, h1, hz', ?_⟩
  exact h m _ (Grow.setL ha) (R.setL ha (h2.append (RVs.one rv)) (by rw [List.length_append]; exact hz')) _ RV.non
theorem vs0 {xs : List V} (r : RVs G m H xs []) : xs = [] := by
  match xs, r with
  | [], _ => rfl
  | _ :: _, r => unfold RVs at r; exact r.elim
theorem pop_sem (hK : X.K = G.K) {x : V} {d : D} {Q : VK} (R : Rep G m S H) (r : RV G m H x d) (h : Post G W σ m H (PQ G Q) (mPop d [] S)) :
    tyV X.K "list" x H ∧ rPop x [] H Q := by
  unfold mPop at h
  split at h <;> first | exact h.elim | skip
  obtain ⟨xs0, hl, h⟩ := ofO_inv h
  obtain ⟨e, he, h⟩ := ofO_inv h
  obtain ⟨a, rfl, ha⟩ := r.ofRef
  obtain ⟨xs, h1, h2, h3⟩ := lstOf_inv R hl ha
  obtain ⟨v, hv, rv⟩ := getLast_rv h2 he
  refine ⟨.inl ⟨rfl, xs, .inl (.inl h1)⟩, a, xs, v, rfl, rfl, h1, hv, ?_⟩
  have g := Grow.setL (H := H) (o := .lst xs.dropLast) ha
  exact h m _ g (R.setL ha h2.dropLast (by rw [List.length_dropLast]; omega)) _ (rv.grow R g)
theorem extend_sem (hK : X.K = G.K) {x : V} {ys : List V} {d : D} {l : List D} {Q : VK} (R : Rep G m S H) (r : RV G m H x d) (rs : RVs G m H ys l) (h : Post G W σ m H (PQ G Q) (mExtend d l S)) :
    tyV X.K "list" x H ∧ rExtend x ys H Q := by
  unfold mExtend at h
  split at h <;> first | exact h.elim | skip
  obtain ⟨v, rfl, rv⟩ := vs1 rs
  obtain ⟨xs0, hl, h⟩ := ofO_inv h
  obtain ⟨xs1, hl1, h⟩ := ofO_inv h
  obtain ⟨hz, h⟩ := okIf_inv h
  obtain ⟨a, rfl, ha⟩ := r.ofRef
  obtain ⟨b, rfl, hb⟩ := rv.ofRef
  obtain ⟨xs, h1, h2, h3⟩ := lstOf_inv R hl ha
  obtain ⟨zs, k1, k2, k3⟩ := lstOf_inv R hl1 hb
  have hz' : xs.length + zs.length ≤ sizeLine := by rw [h2.length, k2.length]; exact hz
  refine ⟨.inl ⟨rfl, xs, .inl (.inl h1)⟩, a, b, xs, zs, rfl, rfl, h1, k1, hz', ?_⟩
  exact h m _ (Grow.setL ha) (R.setL ha (h2.append k2) (by rw [List.length_append]; exact hz')) _ RV.non
/-- o[i] = v -/
theorem set_sem {o i v : V} {d e f : D} {Qh : Hp → Prop} (R : Rep G m S H) (ro : RV G m H o d) (ri : RV G m H i e) (rv : RV G m H v f)
    (h : Post G W σ m H (fun _ m1 S1 H1 => Qh H1) (setop d e f S)) : rSetL o i v H Qh := by
  unfold setop at h
  split at h <;> first | exact h.elim | skip
  obtain ⟨l, hl, h⟩ := ofO_inv h
  obtain ⟨j, hj, h⟩ := ofO_inv h
  obtain ⟨a, rfl, ha⟩ := ro.ofRef
  obtain ⟨xs, h1, h2, h3⟩ := lstOf_inv R hl ha
  refine ⟨a, xs, _, j, rfl, ri.ofInt, h1, by rw [h2.length]; exact hj, ?_⟩
  exact h m _ (Grow.setL ha) (R.setL ha (h2.set j rv) (by rw [List.length_set]; exact h3))
end
end EV

/-! From the machine's syntax to the evaluator's. -/
namespace EV
open PySem L2

def sEq (x y : Str) : Bool := x.cps.toList == y.cps.toList
theorem sEq_iff {x y : Str} : sEq x y = true ↔ x = y := by
  unfold sEq
  constructor
  · intro h
    have h1 : x.cps.toList = y.cps.toList := by simpa using h
    cases x; cases y
    simp at h1
    simp [h1]
  · rintro rfl; simp

inductive GR where
  | fn (i : Nat) | glob (g : Nat) | cls (i : Nat) | blt
structure Cc where
  N : List Str
  gn : List (Str × GR)
  hot : Bool

def lookL {α : Type} : List (Str × α) → Str → Option α
  | [], _ => none
  | (k, v) :: r, x => if sEq x k then some v else lookL r x
theorem lookL_eq {α : Type} : ∀ (l : List (Str × α)) (x : Str), lookL l x = l.lookup x
  | [], _ => rfl
  | (k, v) :: r, x => by
    unfold lookL
    rw [List.lookup_cons, lookL_eq r x]
    by_cases e : x = k
    · subst e
      rw [if_pos (sEq_iff.mpr rfl)]
      simp
    · rw [if_neg (fun z => e (sEq_iff.mp z))]
      have : (x == k) = false := by simpa using e
      rw [this]
abbrev lookK (sc : Scope) (x : Str) : Option NameKind := lookL sc.names x
def slotGo (x : Str) : List Str → Nat → Option Nat
  | [], _ => none
  | y :: r, i => if sEq x y then some i else slotGo x r (i + 1)
abbrev slotOf (N : List Str) (x : Str) : Option Nat := slotGo x N 0
theorem slotGo_get : ∀ {N : List Str} {x : Str} {i j : Nat}, slotGo x N i = some j → i ≤ j ∧ N[j - i]? = some x
  | [], _, _, _, h => by simp [slotGo] at h
  | y :: r, x, i, j, h => by
    unfold slotGo at h
    split at h
    · rename_i e
      cases h
      rw [sEq_iff.mp e]
      simp
    · obtain ⟨h1, h2⟩ := slotGo_get h
      refine ⟨by omega, ?_⟩
      have e : j - i = (j - (i + 1)) + 1 := by omega
      rw [e]; simpa using h2
theorem slotOf_get {N : List Str} {x : Str} {j : Nat} (h : slotOf N x = some j) : N[j]? = some x := by simpa using (slotGo_get h).2
def isVis : Option NameKind → Bool
  | some .local => true
  | some .cell => true
  | some .free => true
  | _ => false
theorem vis_of {sc : Scope} {x : Str} (h : isVis (lookK sc x) = true) : Vis sc x := by
  unfold lookK at h
  rw [lookL_eq] at h
  unfold Vis
  cases e : sc.names.lookup x with
  | none => rw [e] at h; cases h
  | some k => rw [e] at h; cases k <;> first | (cases h; done) | simp
def isGl (sc : Scope) (x : Str) : Bool := match lookK sc x with
  | some .globalImplicit => true
  | _ => false
theorem gl_of {sc : Scope} {x : Str} (h : isGl sc x = true) : sc.names.lookup x = some .globalImplicit := by
  unfold isGl lookK at h
  rw [lookL_eq] at h
  cases e : sc.names.lookup x with
  | none => rw [e] at h; cases h
  | some k => rw [e] at h; cases k <;> first | (cases h; done) | rfl
def okName (x : Str) : Bool := !(x == ("__debug__" : Str)) && !(x == ("__classdict__" : Str)) && !(x == ("__name__" : Str))

def notStar : Expr → Bool
  | .Starred _ _ => false
  | _ => true
def notSet : Expr → Bool
  | .Set _ _ _ => false
  | _ => true
def notSlice : Expr → Bool
  | .Slice _ _ _ _ => false
  | _ => true
def notComp : Expr → Bool
  | .ListComp _ _ _ _ => false
  | .SetComp _ _ _ _ => false
  | .DictComp _ _ _ _ _ => false
  | _ => true
def notSup : Expr → Bool
  | .Call (.Name _ _) [] [] _ => false
  | _ => true
/-- tests that are asked by their value -/
def plainT : Expr → Bool
  | .UnaryOp .Not _ _ => false
  | .BoolOp _ _ _ => false
  | .IfExp _ _ _ _ => false
  | .Compare _ _ _ _ => false
  | _ => true

def biOf (x : Str) : Option Bi :=
  lookL [("len", Bi.len), ("int", .int), ("str", .str), ("tuple", .tuple), ("list", .list), ("abs", .abs), ("min", .min), ("max", .max), ("sum", .sum), ("any", .any), ("all", .all)] x
def tyNames : List (Str × String) := [("int", "int"), ("str", "str"), ("tuple", "tuple"), ("list", "list"), ("bool", "bool"), ("ValueError", "ValueError")]
def mtOf (x : Str) : Option Mt := lookL [("append", Mt.append), ("pop", .pop), ("extend", .extend)] x

def compName (cc : Cc) (sc : Scope) (x : Str) : CE :=
  if isVis (lookK sc x) then (match slotOf cc.N x with | some i => .slot i | none => .bad)
  else if isGl sc x then
    match lookL cc.gn x with
    | some (.fn i) => .lit (.fn i)
    | some (.glob g) => .glob g
    | some (.cls i) => .lit (.cls i)
    | _ => .bad
  else .bad
def isiAt (cc : Cc) (sc : Scope) (a : Expr) (ca : CE) (cl : Cl) : CE :=
  match a with
  | .Name x _ => if isVis (lookK sc x) then (match slotOf cc.N x with | some i => .isiS i cl | none => .bad) else .isi ca cl
  | _ => .isi ca cl
def ownOf (N : List Str) : List (Str × NameKind) → List (Str × Nat)
  | [] => []
  | (x, .local) :: r => (match slotOf N x with | some i => (x, i) :: ownOf N r | none => ownOf N r)
  | (x, .cell) :: r => (match slotOf N x with | some i => (x, i) :: ownOf N r | none => ownOf N r)
  | _ :: r => ownOf N r
/-- a name that a target of this block may be -/
def okLoc (sc : Scope) (x : Str) : Bool := match lookK sc x with
  | some .local => true
  | some .cell => true
  | _ => false
/-- a comprehension's own block, as it runs within sc -/
def relS' (scope sc : Scope) : Scope := L2.relS scope sc

mutual
def comp (cc : Cc) : Nat → Scope → Expr → CE
  | 0, _, _ => .bad
  | n + 1, sc, e => match e with
    | .Name x _ => compName cc sc x
    | .Constant (.int i) _ _ => .lit (.int i)
    | .Constant (.bool b) _ _ => .lit (.bl b)
    | .Constant .none _ _ => .lit .non
    | .Constant (.str x) _ _ => .lit (.str x)
    | .Tuple es _ _ => if es.all notStar && decide (es.length ≤ 1000) then .tup (compEs cc n sc es) else .bad
    | .List es _ => if es.all notStar && decide (es.length ≤ 1000) then .lst (compEs cc n sc es) else .bad
    | .BinOp a op b _ => .bin op (comp cc n sc a) (comp cc n sc b)
    | .UnaryOp .USub a _ => .neg (comp cc n sc a)
    | .UnaryOp .Not a _ => .not (comp cc n sc a)
    | .BoolOp .And vs _ => compAnd cc n sc vs
    | .BoolOp .Or vs _ => compOr cc n sc vs
    | .Compare a [op] [b] _ => if notSet b then .cmp op (comp cc n sc a) (comp cc n sc b) else .bad
    | .Compare a [op, op'] [b, c] _ => if notSet b && notSet c then .cmp2 op op' (comp cc n sc a) (comp cc n sc b) (comp cc n sc c) else .bad
    | .IfExp t a b _ => .ite (compB cc n sc t) (comp cc n sc a) (comp cc n sc b)
    | .Call (.Name f _) es [] _ => if es.all notStar then compCall cc n sc f es else .bad
    | .Call (.Attribute o f apos) es [] cpos => if es.all notStar && notSup o && decide (es.length < 20) && (apos.endLine == cpos.line) then compMeth cc n sc f o es else .bad
    | .Subscript a (.Slice lo hi none _) _ => .sl (comp cc n sc a) (compO cc n sc lo) (compO cc n sc hi)
    | .Subscript a (.Slice none none (some (.UnaryOp .USub (.Constant (.int 1) _ _) _)) _) _ => .rev (comp cc n sc a)
    | .Subscript a b _ => if notSlice b then .ix (comp cc n sc a) (comp cc n sc b) else .bad
    | .ListComp elt gs scope _ => if cc.hot then .bad else compL cc n sc elt gs scope
    | _ => .bad
def compL (cc : Cc) : Nat → Scope → Expr → List Comprehension → Scope → CE
  | 0, _, _, _, _ => .bad
  | n + 1, sc, elt, gs, scope => match compC cc n sc elt gs scope with
    | some c => .lc c
    | none => .bad
def compO (cc : Cc) : Nat → Scope → Option Expr → CO
  | 0, _, _ => .some .bad
  | _ + 1, _, none => .none
  | n + 1, sc, some e => .some (comp cc n sc e)
def compEs (cc : Cc) : Nat → Scope → List Expr → CEs
  | 0, _, _ => .cons .bad .nil
  | _ + 1, _, [] => .nil
  | n + 1, sc, e :: es => .cons (comp cc n sc e) (compEs cc n sc es)
def compAnd (cc : Cc) : Nat → Scope → List Expr → CE
  | 0, _, _ => .bad
  | _ + 1, _, [] => .bad
  | n + 1, sc, [e] => comp cc n sc e
  | n + 1, sc, e :: es => .and (comp cc n sc e) (compAnd cc n sc es)
def compOr (cc : Cc) : Nat → Scope → List Expr → CE
  | 0, _, _ => .bad
  | _ + 1, _, [] => .bad
  | n + 1, sc, [e] => comp cc n sc e
  | n + 1, sc, e :: es => .or (comp cc n sc e) (compOr cc n sc es)
def compCall (cc : Cc) : Nat → Scope → Str → List Expr → CE
  | 0, _, _, _ => .bad
  | n + 1, sc, f, es =>
    if isVis (lookK sc f) then
      (match slotOf cc.N f, es with
      | some i, e :: r => if cc.hot then .bad else .callv i (compEs cc n sc (e :: r))
      | _, _ => .bad)
    else if isGl sc f then
      match lookL cc.gn f with
      | some (.fn i) => if cc.hot then .bad else .call i (compEs cc n sc es)
      | some .blt => if sEq f "isinstance" then compIsi cc n sc es else compBi cc n sc f es
      | _ => .bad
    else .bad
def compIsi (cc : Cc) : Nat → Scope → List Expr → CE
  | 0, _, _ => .bad
  | n + 1, sc, es => match es with
    | [a, .Name t _] => if isGl sc t then
        (match lookL cc.gn t with
        | some (.cls i) => isiAt cc sc a (comp cc n sc a) (.own i)
        | some .blt => (match lookL tyNames t with | some s => isiAt cc sc a (comp cc n sc a) (.ty s) | none => .bad)
        | _ => .bad) else .bad
    | _ => .bad
def compBi (cc : Cc) : Nat → Scope → Str → List Expr → CE
  | 0, _, _, _ => .bad
  | n + 1, sc, f, es => if cc.hot then .bad else match biOf f with
    | none => .bad
    | some b => if sEq f (biName b) then (match es with
      | [.ListComp elt gs scope _] => (match compC cc n sc elt gs scope with | some c => .bic b c | none => .bad)
      | [] => .bad
      | es => .bi b (compEs cc n sc es)) else .bad
def compMeth (cc : Cc) : Nat → Scope → Str → Expr → List Expr → CE
  | 0, _, _, _, _ => .bad
  | n + 1, sc, f, o, es => match mtOf f with
    | some .append => if sEq f "append" && !es.isEmpty then .mth .append (comp cc n sc o) (compEs cc n sc es) else .bad
    | some .extend => if sEq f "extend" && !es.isEmpty then .mth .extend (comp cc n sc o) (compEs cc n sc es) else .bad
    | some .pop => if sEq f "pop" && es.isEmpty then .mth .pop (comp cc n sc o) .nil else .bad
    | _ => .bad
def compB (cc : Cc) : Nat → Scope → Expr → CB
  | 0, _, _ => .val .bad
  | n + 1, sc, e => match e with
    | .UnaryOp .Not a _ => .not (compB cc n sc a)
    | .BoolOp .And vs _ => compBA cc n sc vs
    | .BoolOp .Or vs _ => compBO cc n sc vs
    | .IfExp _ _ _ _ => .val .bad
    | .Compare a [op] [b] _ => if notSet b then .val (.cmp op (comp cc n sc a) (comp cc n sc b)) else .val .bad
    | .Compare a [op, op'] [b, c] _ => if notSet b && notSet c then .val (.cmp2 op op' (comp cc n sc a) (comp cc n sc b) (comp cc n sc c)) else .val .bad
    | e => if plainT e then .val (comp cc n sc e) else .val .bad
def compBA (cc : Cc) : Nat → Scope → List Expr → CB
  | 0, _, _ => .val .bad
  | _ + 1, _, [] => .val .bad
  | n + 1, sc, [e] => compB cc n sc e
  | n + 1, sc, e :: es => .and (compB cc n sc e) (compBA cc n sc es)
def compBO (cc : Cc) : Nat → Scope → List Expr → CB
  | 0, _, _ => .val .bad
  | _ + 1, _, [] => .val .bad
  | n + 1, sc, [e] => compB cc n sc e
  | n + 1, sc, e :: es => .or (compB cc n sc e) (compBO cc n sc es)
def compC (cc : Cc) : Nat → Scope → Expr → List Comprehension → Scope → Option CC
  | 0, _, _, _, _ => none
  | n + 1, sc, elt, gs, scope => match gs with
    | [⟨t, it, ifs, 0⟩] =>
      if blkC cc.N sc scope (ownOf cc.N scope.names) then
        (match ifs with
        | [] => some (.mk ((ownOf cc.N scope.names).map (·.2)) (compT cc (okLoc scope) n (L2.relS scope sc) t) (compI cc n sc t it) .yes (comp cc n (L2.relS scope sc) elt))
        | [c] => some (.mk ((ownOf cc.N scope.names).map (·.2)) (compT cc (okLoc scope) n (L2.relS scope sc) t) (compI cc n sc t it) (compB cc n (L2.relS scope sc) c) (comp cc n (L2.relS scope sc) elt))
        | _ => none)
      else none
    | _ => none
def compI (cc : Cc) : Nat → Scope → Expr → Expr → CI
  | 0, _, _, _ => .bad
  | n + 1, sc, t, it => match it with
    | .Set _ _ _ => .bad
    | .Call (.Name f _) es [] _ => if isGl sc f && es.all notStar then
        (match lookL cc.gn f with
        | some .blt => if sEq f "range" then
            (match es with
            | [a] => .range1 (comp cc n sc a)
            | [a, b] => .range2 (comp cc n sc a) (comp cc n sc b)
            | [a, b, c] => .range3 (comp cc n sc a) (comp cc n sc b) (comp cc n sc c)
            | _ => .bad)
          else if sEq f "enumerate" then
            (match es, t with
            | [a], .Tuple _ _ _ => .enum (comp cc n sc a)
            | _, _ => .bad)
          else .seq (comp cc n sc it)
        | _ => .seq (comp cc n sc it)) else .seq (comp cc n sc it)
    | it => .seq (comp cc n sc it)
def compT (cc : Cc) (ok : Str → Bool) : Nat → Scope → Expr → CT
  | 0, _, _ => .bad
  | n + 1, sc, t => match t with
    | .Name x _ => if ok x then (match slotOf cc.N x with | some i => .slot i | none => .bad) else .bad
    | .Tuple ts _ _ => if ts.all notStar && !cc.hot then .tup (compTs cc ok n sc ts) else .bad
    | .Subscript o i _ => if notSlice i then .ix (comp cc n sc o) (comp cc n sc i) else .bad
    | _ => .bad
def compTs (cc : Cc) (ok : Str → Bool) : Nat → Scope → List Expr → CTs
  | 0, _, _ => .cons .bad .nil
  | _ + 1, _, [] => .nil
  | n + 1, sc, t :: ts => .cons (compT cc ok n sc t) (compTs cc ok n sc ts)
end

def okTg : Expr → Bool
  | .Name _ _ => true
  | .Tuple _ _ _ => true
  | .Subscript _ _ _ => true
  | _ => false
def augOk : Operator → Bool
  | .Add => true
  | .Sub => true
  | _ => false
/-- the local names among these targets that stand on the first one's line -/
def namesOf (sc : Scope) (ts : List Expr) : List Str :=
  ts.filterMap fun
    | .Name id pos => if lookK sc id == some .local && pos.line == (ts.head?.map (·.pos.line)).getD 0 then some id else none
    | _ => none
def clV' (cc : Cc) (x : Str) : Option Cl := match lookL cc.gn x with
  | some (.cls i) => some (.own i)
  | _ => none
mutual
def compS (cc : Cc) : Nat → Scope → Stmt → CS
  | 0, _, _ => .bad
  | n + 1, sc, s => match s with
    | .Assign [.Name x px] (.ListComp elt gs scope p) pos =>
      if cc.hot then .bad else
      if okLoc sc x && (lookK sc x == some .local) && (px.line == p.line) && !(scope.names.any fun (m, k) => m == x && (k == .local || k == .cell)) then
        (match compC cc n sc elt gs scope, slotOf cc.N x with
        | some c, some i => .asg (.slot i) (.lc c)
        | _, _ => .bad)
      else .bad
    | .Assign [.Tuple ts k p] (.Tuple vs k2 p2) _ =>
      if cc.hot then .bad else
      if (ts.length == 2 || ts.length == 3) && vs.length == ts.length && (namesOf sc ts).length == ts.length then
        (match ts, vs with
        | [.Name x _, .Name y _], [a, b] =>
          if vs.all notStar && !(sEq x y) && (lookK sc x == some .local) && (lookK sc y == some .local) && !(vs.all (foldedForSure 8)) && !(vs.all (constantsAlone 8)) && ((namesOf sc ts).eraseDups.length == 2) then
            (match slotOf cc.N x, slotOf cc.N y with
            | some i, some j => .par i j (comp cc n sc a) (comp cc n sc b)
            | _, _ => .bad)
          else .bad
        | _, _ => .bad)
      else .asg (compT cc (okLoc sc) n sc (.Tuple ts k p)) (comp cc n sc (.Tuple vs k2 p2))
    | .Assign [t] e _ => if notComp e && okTg t then .asg (compT cc (okLoc sc) n sc t) (comp cc n sc e) else .bad
    | .AugAssign (.Name x _) op e _ => if okLoc sc x && augOk op then (match slotOf cc.N x with | some i => .aug i op (comp cc n sc e) | none => .bad) else .bad
    | .For t it body [] _ => if cc.hot then .bad else .forS (compT cc (okLoc sc) n sc t) (compI cc n sc t it) (compSs cc n sc body)
    | .While c body [] _ => if cc.hot then .bad else .whileS (compB cc n sc c) (compSs cc n sc body)
    | .If c a b _ => .ite (compB cc n sc c) (compSs cc n sc a) (compSs cc n sc b)
    | .Return (some e) _ => .ret (comp cc n sc e)
    | .Return none _ => .retN
    | .Expr e _ => if notComp e then .expr (comp cc n sc e) else .bad
    | .Raise (some (.Call (.Name x _) [.Constant (.str _) _ _] [] _)) none _ => if cc.hot then .bad else if isGl sc x then (match lookL cc.gn x with | some (.cls i) => .raise i none | _ => .bad) else .bad
    | .Try body hs [] [] _ => if cc.hot || hs.isEmpty then .bad else (match compHs cc n sc hs with | some l => .tryS (compSs cc n sc body) l | none => .bad)
    | .Pass _ => .pass
    | .Break _ => .brk
    | .Continue _ => .cont
    | _ => .bad
def compSs (cc : Cc) : Nat → Scope → List Stmt → CSs
  | 0, _, _ => .cons .bad .nil
  | _ + 1, _, [] => .nil
  | n + 1, sc, s :: ss => .cons (compS cc n sc s) (compSs cc n sc ss)
def compHs (cc : Cc) : Nat → Scope → List ExceptHandler → Option CHs
  | 0, _, _ => none
  | _ + 1, _, [] => some .nil
  | n + 1, sc, .ExceptHandler t nm body _ :: hs => match t, body with
    | some (.Name x _), b₀ :: bs => if isGl sc x then
        (match clV' cc x, compHs cc n sc hs with
        | some c, some l => (match nm with
          | none => some (.cons c none (compSs { cc with hot := true } n sc (b₀ :: bs)) l)
          | some m => if lookK sc m == some .local then (match slotOf cc.N m with | some i => some (.cons c (some i) (compSs { cc with hot := true } n sc (b₀ :: bs)) l) | none => none) else none)
        | _, _ => none) else none
    | _, _ => none
end
end EV

/-! The machine does what the evaluator says: expressions. -/
namespace EV
open PySem L2 PyProof.Rows

structure Gam where
  gn : List (Str × GR)
  P : Prog

structure SR (G : GS) (m : List Addr) (S : Store) (σd : Env) (σ : L2.St) (H : Hp) : Prop where
  rep : Rep G m S H
  len : σ.length = σd.length
  env : ∀ (i : Nat) (d : D), σd[i]? = some (.val d) → ∃ v, σ[i]? = some (some v) ∧ RV G m H v d
  exc : ∀ (i c : Nat) (f : Option Int), σd[i]? = some (.exc c f) → ∃ a, σ[i]? = some (some (.ref a)) ∧ G.xr a c f
theorem SR.grow {G : GS} {m m1 : List Addr} {S S1 : Store} {σd : Env} {σ : L2.St} {H H1 : Hp} (s : SR G m S σd σ H) (g : Grow m H m1 H1) (R : Rep G m1 S1 H1) : SR G m1 S1 σd σ H1 :=
  ⟨R, s.len, fun i d h => let ⟨v, h1, h2⟩ := s.env i d h; ⟨v, h1, h2.grow s.rep g⟩, s.exc⟩
theorem SR.put {G : GS} {m : List Addr} {S : Store} {σd : Env} {σ : L2.St} {H : Hp} (s : SR G m S σd σ H) {i : Nat} {v : Option V} {d : SV} (hv : ∀ e, d = .val e → ∃ w, v = some w ∧ RV G m H w e) (hx : ∀ c f, d = .exc c f → ∃ a, v = some (.ref a) ∧ G.xr a c f) : SR G m S (σd.set i d) (σ.set i v) H := by
  refine ⟨s.rep, by simp [s.len], fun j e h => ?_, fun j c f h => ?_⟩
  · by_cases hj : i = j
    · subst hj
      by_cases hl : i < σd.length
      · rw [List.getElem?_set_self hl] at h
        obtain ⟨w, rfl, r⟩ := hv e (Option.some.inj h)
        exact ⟨w, List.getElem?_set_self (by rw [s.len]; exact hl), r⟩
      · rw [List.getElem?_eq_none (by simpa using hl)] at h; cases h
    · rw [List.getElem?_set_ne hj] at h ⊢
      exact s.env j e h
  · by_cases hj : i = j
    · subst hj
      by_cases hl : i < σd.length
      · rw [List.getElem?_set_self hl] at h
        obtain ⟨w, rfl, r⟩ := hx c f (Option.some.inj h)
        exact ⟨w, List.getElem?_set_self (by rw [s.len]; exact hl), r⟩
      · rw [List.getElem?_eq_none (by simpa using hl)] at h; cases h
    · rw [List.getElem?_set_ne hj] at h ⊢
      exact s.exc j c f h
theorem SR.set {G : GS} {m : List Addr} {S : Store} {σd : Env} {σ : L2.St} {H : Hp} (s : SR G m S σd σ H) {i : Nat} {v : V} {d : D} (r : RV G m H v d) : SR G m S (σd.set i (.val d)) (σ.set i (some v)) H :=
  s.put (fun e h => by cases h; exact ⟨v, rfl, r⟩) (fun c f h => by cases h)
theorem SR.forget {G : GS} {m : List Addr} {S : Store} {σd : Env} {σ : L2.St} {H : Hp} (s : SR G m S σd σ H) (i : Nat) : SR G m S (σd.set i .no) (σ.set i none) H :=
  s.put (fun e h => by cases h) (fun c f h => by cases h)
theorem SR.wipe {G : GS} {m : List Addr} {S : Store} {σd : Env} {σ : L2.St} {H : Hp} (s : SR G m S σd σ H) : ∀ vs : List Nat, SR G m S (wipeE σd vs) (L2.wipe σ vs) H
  | [] => s
  | v :: vs => by
    unfold wipeE L2.wipe
    exact (SR.wipe s vs).forget v

def clV (G : GS) : Cl → Value
  | .ty n => .type n
  | .own i => .ref (G.ca i)
def spF (Γ : Gam) (G : GS) (k i : Nat) : Sp := fun vs H Q E => (∃ f, Γ.P.fns i = some f ∧ vs.length = f.np) ∧
  ∃ m S ds, Rep G m S H ∧ RVs G m H vs ds ∧ Post G (fun c d _ H => E c d H) [] m H (PQ G Q) (callF Γ.P k i ds S)
structure XOk (Γ : Gam) (G : GS) (X : Cx) (W : WX) (k : Nat) (hot : Bool) : Prop where
  hK : X.K = G.K
  nd : X.N.Nodup
  kind : X.env.scope.kind = .function
  nm : ∀ x ∈ X.N, okName x = true
  gnm : ∀ (x : Str) (r : GR), lookL Γ.gn x = some r → okName x = true
  tk : Takes X W
  po : PassesOwn (model X.prog X.w) X.A X.env X.xe
  un : X.A.units + 64 < cLine
  calm : hot = false → X.calm = true
  room : hot = false → Room (2 * k + 1) X.A
  gFn : ∀ x i, lookL Γ.gn x = some (.fn i) → X.mg x = some (.ref (G.fa i)) ∧ PySem.W.keepIn X.K (.ref (G.fa i)) = true
  gGlob : ∀ x g, lookL Γ.gn x = some (.glob g) → ∃ u v, X.mg x = some u ∧ RelV v u ∧ ∀ m H, RV G m H v (Γ.P.globs g)
  gCls : ∀ x i, lookL Γ.gn x = some (.cls i) → X.mg x = some (.ref (G.ca i))
  gBlt : ∀ x, lookL Γ.gn x = some .blt → X.mg x = none
  fns : hot = false → ∀ i f, Γ.P.fns i = some f → (∃ fd ps, FnOk X.prog X.w X.K X.mg X.base (L2.CX X.prog X.w) (2 * k) (G.fa i) fd ps (spF Γ G k i) ∧ Binds X.K fd ps []) ∧ PySem.W.keepIn X.K (.ref (G.fa i)) = true
  sub : ∀ c cl b, Γ.P.isSub c cl = some b → PySem.W.kitOne X.K (.ref (G.ca c)) (clV G cl) = some b ∧ PySem.W.exmOne X.K (.ref (G.ca c)) (clV G cl) = some b
  exc : ∀ c cl b, Γ.P.isSub c cl = some b → ExcC X.K (G.ca c)
  exi : ∀ b c f, G.xr b c f → CallR X (.builtin "isinstance") (rIsE X.K (G.ca c) b)
  xr0 : hot = false → ∀ b c f, ¬ G.xr b c f
  exm : ∀ x i, lookL Γ.gn x = some (.cls i) → (∃ bmB B newId initId, ExcBaseFacts B newId initId bmB ∧ PySem.W.excIn X.K (G.ca i) bmB newId = true) ∧ PySem.W.keepIn X.K (.ref (G.ca i)) = true ∧ Raises X (.ref (G.ca i))

section
variable (G : GS) (W : WX) (C : Ctx)
def tE (c : CE) : TE := fun σ H Q => ∃ m S σd, SR G m S σd σ H ∧ Post G W σ m H (PQ G Q) (evE C c σd S)
def tEs (c : CEs) : TA := fun σ H Q => ∃ m S σd, SR G m S σd σ H ∧ Post G W σ m H (fun ds m1 _ H1 => ∀ vs, RVs G m1 H1 vs ds → Q vs H1) (evEs C c σd S)
def tB (c : CB) : TT := fun σ H Q => ∃ m S σd, SR G m S σd σ H ∧ Post G W σ m H (fun b _ _ H1 => Q b H1) (evB C c σd S)
def tO (c : CO) : TO := fun σ H Q => ∃ m S σd, SR G m S σd σ H ∧ Post G W σ m H (fun b _ _ H1 => Q b H1) (evO C c σd S)
def tT (vs : List Nat) (c : CT) : TG := fun v σ H Q => ∃ m S σd d, SR G m S σd σ H ∧ RV G m H v d ∧ Post G W σ m H (fun σd' m1 S1 H1 => ∀ σ', SR G m1 S1 σd' σ' H1 → L2.wipe σ' vs = L2.wipe σ vs → Q σ' H1) (evT C c d σd S)
def tTs (ws : List Nat) (c : CTs) : TGs := fun vs σ H Q => ∃ m S σd ds, SR G m S σd σ H ∧ RVs G m H vs ds ∧ Post G W σ m H (fun σd' m1 S1 H1 => ∀ σ', SR G m1 S1 σd' σ' H1 → L2.wipe σ' ws = L2.wipe σ ws → Q σ' H1) (evTs C c ds σd S)
/-- a walk of the machine's is one of the evaluator's -/
def WOk (Jh : L2.It) (J : EV.It) (m : List Addr) (H : Hp) : Prop :=
  ∀ m' S' H' i, Grow m H m' H' → Rep G m' S' H' → J.still S' → (i < J.items.length → Jh.go i H') ∧ Jh.stop J.items.length H' ∧
    ∀ x H'', i < J.items.length → Jh.yld i H' x H'' → Grow m' H' m' H'' ∧ Rep G m' S' H'' ∧ ∃ d, J.items[i]? = some d ∧ RV G m' H'' x d
def tI (c : CI) : TI := fun σ H R => ∃ m S σd, SR G m S σd σ H ∧ Post G W σ m H (fun J m1 S1 H1 => ∀ Jh, WOk G Jh J m1 H1 → R Jh H1) (evI C c σd S)
end

theorem wipe_none : ∀ (σ : L2.St) (vs : List Nat) (i : Nat), i ∈ vs → i < σ.length → (L2.wipe σ vs)[i]? = some none
  | σ, [], i, h, _ => nomatch h
  | σ, v :: vs, i, h, hl => by
    unfold L2.wipe
    by_cases e : v = i
    · subst e
      exact List.getElem?_set_self (by rw [L2.wipe_length]; exact hl)
    · rw [List.getElem?_set_ne e]
      rcases List.mem_cons.mp h with z | z
      · exact absurd z.symm e
      · exact wipe_none σ vs i z hl
theorem wipe_get : ∀ (σ : L2.St) (vs : List Nat) (i : Nat), i ∉ vs → (L2.wipe σ vs)[i]? = σ[i]?
  | σ, [], i, _ => rfl
  | σ, v :: vs, i, h => by
    unfold L2.wipe
    have e : v ≠ i := fun e => h (e ▸ List.mem_cons_self)
    rw [List.getElem?_set_ne e]
    exact wipe_get σ vs i fun z => h (List.mem_cons_of_mem _ z)
theorem wipe_set {σ : L2.St} {vs : List Nat} {i : Nat} {v : Option V} (h : i ∈ vs) : L2.wipe (σ.set i v) vs = L2.wipe σ vs := by
  refine List.ext_getElem? fun j => ?_
  by_cases hj : j ∈ vs
  · by_cases hl : j < σ.length
    · rw [wipe_none _ _ _ hj (by simpa using hl), wipe_none _ _ _ hj hl]
    · rw [List.getElem?_eq_none (by rw [L2.wipe_length]; simpa using hl), List.getElem?_eq_none (by rw [L2.wipe_length]; omega)]
  · have hne : i ≠ j := fun e => hj (by rw [← e]; exact h)
    rw [wipe_get _ _ _ hj, wipe_get _ _ _ hj, List.getElem?_set_ne hne]
theorem wipe_idem (σ : L2.St) (vs : List Nat) : L2.wipe (L2.wipe σ vs) vs = L2.wipe σ vs := by
  refine List.ext_getElem? fun j => ?_
  by_cases hj : j ∈ vs
  · by_cases hl : j < σ.length
    · rw [wipe_none _ _ _ hj (by rw [L2.wipe_length]; exact hl), wipe_none _ _ _ hj hl]
    · rw [List.getElem?_eq_none (by rw [L2.wipe_length, L2.wipe_length]; omega), List.getElem?_eq_none (by rw [L2.wipe_length]; omega)]
  · rw [wipe_get _ _ _ hj]
/-! ### weakening -/
section
variable {X : Cx}
theorem _root_.L2.PE.wk {e : Expr} {t t' : TE} (h : PE X e t) (k : ∀ σ H Q, t' σ H Q → t σ H Q) : PE X e t' := ⟨fun pins s σ H Q I q => h.run pins s σ H Q I (k σ H Q q)⟩
theorem _root_.L2.PT.wk {e : Expr} {t t' : TT} (h : PT X e t) (k : ∀ σ H Q, t' σ H Q → t σ H Q) : PT X e t' := ⟨fun pins s σ H Q I q => h.run pins s σ H Q I (k σ H Q q)⟩
theorem _root_.L2.PW.wk {e : Expr} {t t' : TT} (h : PW X e t) (k : ∀ σ H Q, t' σ H Q → t σ H Q) : PW X e t' := ⟨fun w pins s σ H Q I q => h.run w pins s σ H Q I (k σ H Q q)⟩
theorem _root_.L2.PA.wk {e : List Expr} {t t' : TA} (h : PA X e t) (k : ∀ σ H Q, t' σ H Q → t σ H Q) : PA X e t' := ⟨fun pos pins s σ H Q I q => h.run pos pins s σ H Q I (k σ H Q q)⟩
theorem _root_.L2.PO.wk {e : Option Expr} {t t' : TO} (h : PO X e t) (k : ∀ σ H Q, t' σ H Q → t σ H Q) : PO X e t' := ⟨fun pins s σ H Q I q => h.run pins s σ H Q I (k σ H Q q)⟩
theorem _root_.L2.PG.wk {e : Expr} {t t' : TG} (h : PG X e t) (k : ∀ v σ H Q, t' v σ H Q → t v σ H Q) : PG X e t' := ⟨fun pins s σ H v u Q I r q => h.run pins s σ H v u Q I r (k v σ H Q q)⟩
theorem _root_.L2.PGs.wk {e : List Expr} {t t' : TGs} (h : PGs X e t) (k : ∀ v σ H Q, t' v σ H Q → t v σ H Q) : PGs X e t' := ⟨fun pins s σ H v u Q I r q => h.run pins s σ H v u Q I r (k v σ H Q q)⟩
theorem _root_.L2.PI.wk {tg e : Expr} {t t' : TI} (h : PI X tg e t) (k : ∀ σ H Q, t' σ H Q → t σ H Q) : PI X tg e t' := ⟨fun pins s σ H Q I q => h.run pins s σ H Q I (k σ H Q q)⟩
theorem _root_.L2.PI.or {tg e : Expr} {t t' : TI} (h : PI X tg e t) (h' : PI X tg e t') : PI X tg e (fun σ H R => t σ H R ∨ t' σ H R) := ⟨fun pins s σ H Q I q => q.elim (h.run pins s σ H Q I) (h'.run pins s σ H Q I)⟩
theorem _root_.L2.PE.no {e : Expr} {t : TE} (k : ∀ σ H Q, ¬ t σ H Q) : PE X e t := ⟨fun pins s σ H Q I q => (k σ H Q q).elim⟩
theorem _root_.L2.PT.no {e : Expr} {t : TT} (k : ∀ σ H Q, ¬ t σ H Q) : PT X e t := ⟨fun pins s σ H Q I q => (k σ H Q q).elim⟩
theorem _root_.L2.PA.no {e : List Expr} {t : TA} (k : ∀ σ H Q, ¬ t σ H Q) : PA X e t := ⟨fun pos pins s σ H Q I q => (k σ H Q q).elim⟩
theorem _root_.L2.PO.no {e : Option Expr} {t : TO} (k : ∀ σ H Q, ¬ t σ H Q) : PO X e t := ⟨fun pins s σ H Q I q => (k σ H Q q).elim⟩
theorem _root_.L2.PG.no {e : Expr} {t : TG} (k : ∀ v σ H Q, ¬ t v σ H Q) : PG X e t := ⟨fun pins s σ H v u Q I r q => (k v σ H Q q).elim⟩
theorem _root_.L2.PGs.no {e : List Expr} {t : TGs} (k : ∀ v σ H Q, ¬ t v σ H Q) : PGs X e t := ⟨fun pins s σ H v u Q I r q => (k v σ H Q q).elim⟩
theorem _root_.L2.PI.no {tg e : Expr} {t : TI} (k : ∀ σ H Q, ¬ t σ H Q) : PI X tg e t := ⟨fun pins s σ H Q I q => (k σ H Q q).elim⟩
variable {G : GS} {W : WX} {C : Ctx}
theorem tE_bad {σ H Q} : ¬ tE G W C .bad σ H Q := fun ⟨_, _, _, _, h⟩ => h
theorem tT_bad {vs v σ H Q} : ¬ tT G W C vs .bad v σ H Q := fun ⟨_, _, _, _, _, _, h⟩ => h
theorem tI_bad {σ H Q} : ¬ tI G W C .bad σ H Q := fun ⟨_, _, _, _, h⟩ => h
theorem tB_bad {σ H Q} : ¬ tB G W C (.val .bad) σ H Q := fun ⟨_, _, _, _, h⟩ => h
theorem tO_bad {σ H Q} : ¬ tO G W C (.some .bad) σ H Q := fun ⟨_, _, _, _, h⟩ => h
theorem tEs_bad {σ H Q} : ¬ tEs G W C (.cons .bad .nil) σ H Q := fun ⟨_, _, _, _, h⟩ => h
theorem tTs_bad {vs v σ H Q} : ¬ tTs G W C vs (.cons .bad .nil) v σ H Q := fun ⟨_, _, _, ds, _, _, h⟩ => by
  cases ds with
  | nil => exact h
  | cons d ds => exact h

/-! ### one part, then another -/
/-- a first part is evaluated, what is wanted behind it follows -/
theorem tE_step {c : CE} {σ : L2.St} {H : Hp} {m : List Addr} {S : Store} {σd : Env} {α : Type} {f : D → Store → Res α} {P : α → List Addr → Store → Hp → Prop} (s : SR G m S σd σ H) (h : Post G W σ m H P ((evE C c σd S).bind f))
    {R : V → Hp → Prop} (k : ∀ d m1 S1 H1, Grow m H m1 H1 → SR G m1 S1 σd σ H1 → Post G W σ m1 H1 P (f d S1) → ∀ v, RV G m1 H1 v d → R v H1) : tE G W C c σ H R :=
  ⟨m, S, σd, s, h.bind.mono fun d m1 S1 H1 g R1 q v r => k d m1 S1 H1 g (s.grow g R1) q v r⟩
theorem tEs_step {c : CEs} {σ : L2.St} {H : Hp} {m : List Addr} {S : Store} {σd : Env} {α : Type} {f : List D → Store → Res α} {P : α → List Addr → Store → Hp → Prop} (s : SR G m S σd σ H) (h : Post G W σ m H P ((evEs C c σd S).bind f))
    {R : List V → Hp → Prop} (k : ∀ d m1 S1 H1, Grow m H m1 H1 → SR G m1 S1 σd σ H1 → Post G W σ m1 H1 P (f d S1) → ∀ v, RVs G m1 H1 v d → R v H1) : tEs G W C c σ H R :=
  ⟨m, S, σd, s, h.bind.mono fun d m1 S1 H1 g R1 q v r => k d m1 S1 H1 g (s.grow g R1) q v r⟩
theorem tB_step {c : CB} {σ : L2.St} {H : Hp} {m : List Addr} {S : Store} {σd : Env} {α : Type} {f : Bool → Store → Res α} {P : α → List Addr → Store → Hp → Prop} (s : SR G m S σd σ H) (h : Post G W σ m H P ((evB C c σd S).bind f))
    {R : Bool → Hp → Prop} (k : ∀ d m1 S1 H1, Grow m H m1 H1 → SR G m1 S1 σd σ H1 → Post G W σ m1 H1 P (f d S1) → R d H1) : tB G W C c σ H R :=
  ⟨m, S, σd, s, h.bind.mono fun d m1 S1 H1 g R1 q => k d m1 S1 H1 g (s.grow g R1) q⟩
theorem tO_step {c : CO} {σ : L2.St} {H : Hp} {m : List Addr} {S : Store} {σd : Env} {α : Type} {f : Option Int → Store → Res α} {P : α → List Addr → Store → Hp → Prop} (s : SR G m S σd σ H) (h : Post G W σ m H P ((evO C c σd S).bind f))
    {R : Option Int → Hp → Prop} (k : ∀ d m1 S1 H1, Grow m H m1 H1 → SR G m1 S1 σd σ H1 → Post G W σ m1 H1 P (f d S1) → R d H1) : tO G W C c σ H R :=
  ⟨m, S, σd, s, h.bind.mono fun d m1 S1 H1 g R1 q => k d m1 S1 H1 g (s.grow g R1) q⟩

/-! ### shapes -/
theorem star_cons {e : Expr} (h : notStar e = true) (es : List Expr) (env : PySem.Env) : starEach (e :: es) env = (false, eval e env) :: starEach es env := by
  cases e <;> first | rfl | (simp [notStar] at h)
theorem star_any : ∀ {es : List Expr} (h : es.all notStar = true) (pos : Pos) (env : PySem.Env), (backTo pos (starEach es env)).any (·.1) = false
  | [], _, _, _ => rfl
  | e :: es, h, pos, env => by
    rw [List.all_cons, Bool.and_eq_true] at h
    rw [star_cons h.1]
    show (false || (backTo pos (starEach es env)).any (·.1)) = false
    rw [star_any h.2]; rfl
theorem noSet_marks {e : Expr} (h : notSet e = true) (op : CmpOp) : behindInMarks op e = false := by
  cases e <;> first | rfl | (simp [notSet] at h)
theorem plain_ix {e : Expr} (h : notSlice e = true) : PlainIx e := fun o i => by
  cases e <;> first | rfl | (simp [notSlice] at h)
theorem fold_set {e : Expr} (h : notSet e = true) (env : PySem.Env) (x : Value) : foldedSetIterable e env x = pure x := by
  cases e <;> first | rfl | (simp [notSet] at h)
theorem plain_test {e : Expr} (h : plainT e = true) (env : PySem.Env) (whole : Sem Value) : isTrue e env whole = (do let v ← whole; standAt e.pos; holding [v] (truthy v)) := by
  cases e <;> first | rfl | (simp [plainT] at h; done) | skip
  rename_i op a p
  cases op <;> first | rfl | (simp [plainT] at h)
theorem base_of {o : Expr} (h : notSup o = true) (f : Str) (env : PySem.Env) : attributeBase o f env (eval o env) = eval o env := by
  cases o <;> first | rfl | skip
  rename_i g as ks p
  cases g <;> first | rfl | skip
  cases as <;> first | rfl | skip
  cases ks <;> first | rfl | (simp [notSup] at h)
end
end EV

/-! one form of expression after another -/
namespace EV
open PySem L2 PyProof.Rows
section
variable {Γ : Gam} {G : GS} {X : Cx} {W : WX} {k : Nat} {hot : Bool}

theorem s_slot {C : Ctx} (O : XOk Γ G X W k hot) {x : Str} {i : Nat} {pos : Pos} (hs : slotOf X.N x = some i) (hv : isVis (lookK X.env.scope x) = true) : PE X (.Name x pos) (tE G W C (.slot i)) := by
  have hN := slotOf_get hs
  have hx := O.nm x (List.mem_of_getElem? hN)
  simp only [okName, Bool.and_eq_true, Bool.not_eq_true'] at hx
  refine (pe_var hN (vis_of hv) hx.1.1 hx.1.2).wk fun σ H Q ⟨m, S, σd, s, h⟩ => ?_
  unfold evE at h
  split at h
  · rename_i d e
    obtain ⟨v, h1, h2⟩ := s.env i d e
    exact ⟨v, h1, h.here s.rep h2⟩
  · exact h.elim
theorem s_glob {C : Ctx} (hC : C = Γ.P.ctx k) (O : XOk Γ G X W k hot) {x : Str} {g : Nat} {pos : Pos} (hg : lookL Γ.gn x = some (.glob g)) (hv : isGl X.env.scope x = true) : PE X (.Name x pos) (tE G W C (.glob g)) := by
  subst hC
  obtain ⟨u, v, h1, h2, h3⟩ := O.gGlob x g hg
  have hx := O.gnm x _ hg
  simp only [okName, Bool.and_eq_true, Bool.not_eq_true'] at hx
  refine (pe_glob (show Gl X x from gl_of hv) h1 h2 hx.1.1).wk fun σ H Q ⟨m, S, σd, s, h⟩ => ?_
  exact h.here s.rep (h3 m H)
theorem s_fnv {C : Ctx} (O : XOk Γ G X W k hot) {x : Str} {g : Nat} {pos : Pos} (hg : lookL Γ.gn x = some (.fn g)) (hv : isGl X.env.scope x = true) : PE X (.Name x pos) (tE G W C (.lit (.fn g))) := by
  have h1 := (O.gFn x g hg).1
  have hx := O.gnm x _ hg
  simp only [okName, Bool.and_eq_true, Bool.not_eq_true'] at hx
  refine (pe_glob (v := .ref (G.fa g)) (show Gl X x from gl_of hv) h1 rfl hx.1.1).wk fun σ H Q ⟨m, S, σd, s, h⟩ => ?_
  exact h.here s.rep (by unfold RV; rfl)
theorem s_clsv {C : Ctx} (O : XOk Γ G X W k hot) {x : Str} {g : Nat} {pos : Pos} (hg : lookL Γ.gn x = some (.cls g)) (hv : isGl X.env.scope x = true) : PE X (.Name x pos) (tE G W C (.lit (.cls g))) := by
  have h1 := O.gCls x g hg
  have hx := O.gnm x _ hg
  simp only [okName, Bool.and_eq_true, Bool.not_eq_true'] at hx
  refine (pe_glob (v := .ref (G.ca g)) (show Gl X x from gl_of hv) h1 rfl hx.1.1).wk fun σ H Q ⟨m, S, σd, s, h⟩ => ?_
  exact h.here s.rep (by unfold RV; rfl)
theorem s_name (O : XOk Γ G X W k hot) {x : Str} {pos : Pos} (b : Bool) : PE X (.Name x pos) (tE G W (Γ.P.ctx k) (compName ⟨X.N, Γ.gn, b⟩ X.env.scope x)) := by
  unfold compName
  split
  · rename_i hv
    split
    · rename_i i hs; exact s_slot O hs hv
    · exact .no fun _ _ _ => tE_bad
  · split
    · rename_i hv
      split
      · rename_i i hg; exact s_fnv O hg hv
      · rename_i i hg; exact s_glob rfl O hg hv
      · rename_i i hg; exact s_clsv O hg hv
      · exact .no fun _ _ _ => tE_bad
    · exact .no fun _ _ _ => tE_bad
theorem s_int {C : Ctx} {i j pos} : PE X (.Constant (.int i) j pos) (tE G W C (.lit (.int i))) := pe_int.wk fun σ H Q ⟨m, S, σd, s, h⟩ => h.here s.rep RV.int
theorem s_bl {C : Ctx} {i j pos} : PE X (.Constant (.bool i) j pos) (tE G W C (.lit (.bl i))) := pe_bl.wk fun σ H Q ⟨m, S, σd, s, h⟩ => h.here s.rep RV.bl
theorem s_non {C : Ctx} {j pos} : PE X (.Constant .none j pos) (tE G W C (.lit .non)) := pe_non.wk fun σ H Q ⟨m, S, σd, s, h⟩ => h.here s.rep RV.non
theorem s_str {C : Ctx} {i j pos} : PE X (.Constant (.str i) j pos) (tE G W C (.lit (.str i))) := pe_str.wk fun σ H Q ⟨m, S, σd, s, h⟩ => h.here s.rep RV.str

variable {C : Ctx} {a b c : Expr} {ca cb cc : CE} {es : List Expr} {ces : CEs} {pos : Pos}
theorem s_nil : PA X [] (tEs G W C .nil) := pa_nil.wk fun σ H Q ⟨m, S, σd, s, h⟩ => h m H (Grow.refl _ _) s.rep [] (by unfold RVs; trivial)
theorem s_cons (hs : notStar a = true) (ha : PE X a (tE G W C ca)) (hr : PA X es (tEs G W C ces)) : PA X (a :: es) (tEs G W C (.cons ca ces)) := by
  refine (pa_cons ha hr (star_cons hs _ _)).wk fun σ H Q ⟨m, S, σd, s, h⟩ => ?_
  unfold evEs at h
  refine tE_step s h fun d m1 S1 H1 g1 s1 h1 v rv => ?_
  refine tEs_step s1 h1 fun l m2 S2 H2 g2 s2 h2 vs rvs => ?_
  exact h2 m2 H2 (Grow.refl _ _) s2.rep (v :: vs) (by unfold RVs; exact ⟨rv.grow s1.rep g2, rvs⟩)
theorem s_tup {n : Nat} {x1 : Nat} (hn : ∀ (σd : Env) (S S' : Store) (l : List D), evEs C ces σd S = .ok l S' → l.length ≤ 1000) (h : PA X es (tEs G W C ces)) : PE X (.Tuple es x1 pos) (tE G W C (.tup ces)) := by
  refine (pe_tup h).wk fun σ H Q ⟨m, S, σd, s, h⟩ => ?_
  unfold evE at h
  have hz : Post G W σ m H (fun l m1 S1 H1 => l.length ≤ 1000) (evEs C ces σd S) := by
    have q := h
    generalize hr : evEs C ces σd S = r at q
    cases r with
    | ok l S' => exact fun _ _ _ _ => hn σd S S' l hr
    | err x S' => exact q
    | bad => exact q
  refine ⟨m, S, σd, s, ?_⟩
  have hb := h.bind
  generalize evEs C ces σd S = r at hb hz
  cases r with
  | ok l S' =>
    intro m1 H1 g R vs rvs
    have z := hz m1 H1 g R
    have hlen : vs.length ≤ sizeLine := by rw [rvs.length, sizeLine_eq]; omega
    exact ⟨hlen, fun p hp => (hb m1 H1 g R).newTup R rvs hlen hp⟩
  | err x S' => exact hb
  | bad => exact hb
theorem s_lst (hn : ∀ (σd : Env) (S S' : Store) (l : List D), evEs C ces σd S = .ok l S' → l.length ≤ 1000) (h : PA X es (tEs G W C ces)) : PE X (.List es pos) (tE G W C (.lst ces)) := by
  refine (pe_lst h).wk fun σ H Q ⟨m, S, σd, s, h⟩ => ?_
  unfold evE at h
  have hz : Post G W σ m H (fun l m1 S1 H1 => l.length ≤ 1000) (evEs C ces σd S) := by
    have q := h
    generalize hr : evEs C ces σd S = r at q
    cases r with
    | ok l S' => exact fun _ _ _ _ => hn σd S S' l hr
    | err x S' => exact q
    | bad => exact q
  refine ⟨m, S, σd, s, ?_⟩
  have hb := h.bind
  generalize evEs C ces σd S = r at hb hz
  cases r with
  | ok l S' =>
    intro m1 H1 g R vs rvs
    have z := hz m1 H1 g R
    have hlen : vs.length ≤ sizeLine := by rw [rvs.length, sizeLine_eq]; omega
    exact ⟨hlen, fun p hp => (hb m1 H1 g R).newLst R rvs hlen hp⟩
  | err x S' => exact hb
  | bad => exact hb
theorem s_bin (hK : X.K = G.K) {op : Operator} (ha : PE X a (tE G W C ca)) (hb : PE X b (tE G W C cb)) : PE X (.BinOp a op b pos) (tE G W C (.bin op ca cb)) := by
  obtain ⟨r, ho, hr⟩ := bin_ok (X := X) hK op
  refine (pe_op ho ha hb).wk fun σ H Q ⟨m, S, σd, s, h⟩ => ?_
  unfold evE at h
  refine tE_step s h fun d m1 S1 H1 g1 s1 h1 v rv => ?_
  refine tE_step s1 h1 fun e m2 S2 H2 g2 s2 h2 w rw' => ?_
  exact hr s2.rep (rv.grow s1.rep g2) rw' h2
theorem s_neg (ha : PE X a (tE G W C ca)) : PE X (.UnaryOp .USub a pos) (tE G W C (.neg ca)) := by
  refine (pe_un un_neg ha).wk fun σ H Q ⟨m, S, σd, s, h⟩ => ?_
  unfold evE at h
  refine tE_step s h fun d m1 S1 H1 g1 s1 h1 v rv => ?_
  split at h1
  · exact ⟨_, rv.ofInt, h1.here s1.rep RV.int⟩
  · exact h1.elim
theorem s_not (ha : PE X a (tE G W C ca)) : PE X (.UnaryOp .Not a pos) (tE G W C (.not ca)) := by
  refine (pe_not ha).wk fun σ H Q ⟨m, S, σd, s, h⟩ => ?_
  unfold evE at h
  refine tE_step s h fun d m1 S1 H1 g1 s1 h1 v rv => ?_
  split at h1
  · exact ⟨_, rv.ofBl, h1.here s1.rep RV.bl⟩
  · exact h1.elim
theorem s_and1 {e : Expr} {ce : CE} (ha : PE X e (tE G W C ce)) : PE X (.BoolOp .And [e] pos) (tE G W C ce) := pe_one ha
theorem s_or1 {e : Expr} {ce : CE} (ha : PE X e (tE G W C ce)) : PE X (.BoolOp .Or [e] pos) (tE G W C ce) := pe_one ha
theorem s_and (ha : PE X a (tE G W C ca)) (hb : PE X (.BoolOp .And (b :: es) pos) (tE G W C cb)) : PE X (.BoolOp .And (a :: b :: es) pos) (tE G W C (.and ca cb)) := by
  refine (pe_and ha hb).wk fun σ H Q ⟨m, S, σd, s, h⟩ => ?_
  unfold evE at h
  refine tE_step s h fun d m1 S1 H1 g1 s1 h1 v rv => ?_
  split at h1
  · refine ⟨true, rv.ofBl, ?_⟩
    rw [if_pos rfl]
    exact ⟨m1, S1, σd, s1, h1⟩
  · refine ⟨false, rv.ofBl, ?_⟩
    rw [if_neg Bool.false_ne_true]
    exact h1.here s1.rep RV.bl
  · exact h1.elim
theorem s_or (ha : PE X a (tE G W C ca)) (hb : PE X (.BoolOp .Or (b :: es) pos) (tE G W C cb)) : PE X (.BoolOp .Or (a :: b :: es) pos) (tE G W C (.or ca cb)) := by
  refine (pe_or ha hb).wk fun σ H Q ⟨m, S, σd, s, h⟩ => ?_
  unfold evE at h
  refine tE_step s h fun d m1 S1 H1 g1 s1 h1 v rv => ?_
  split at h1
  · refine ⟨false, rv.ofBl, ?_⟩
    rw [if_neg Bool.false_ne_true]
    exact ⟨m1, S1, σd, s1, h1⟩
  · refine ⟨true, rv.ofBl, ?_⟩
    rw [if_pos rfl]
    exact h1.here s1.rep RV.bl
  · exact h1.elim
theorem s_cmp (hK : X.K = G.K) (hu : X.A.units + 64 < cLine) {op : CmpOp} (hs : notSet b = true) (ha : PE X a (tE G W C ca)) (hb : PE X b (tE G W C cb)) : PE X (.Compare a [op] [b] pos) (tE G W C (.cmp op ca cb)) := by
  obtain ⟨r, ho, hr⟩ := cmp_ok (X := X) hK hu op
  refine (pe_cmpR ho ha hb (noSet_marks hs op)).wk fun σ H Q ⟨m, S, σd, s, h⟩ => ?_
  unfold evE at h
  refine tE_step s h fun d m1 S1 H1 g1 s1 h1 v rv => ?_
  refine tE_step s1 h1 fun e m2 S2 H2 g2 s2 h2 w rw' => ?_
  exact hr s2.rep (rv.grow s1.rep g2) rw' h2
/-- what a comparison gives is True or False -/
theorem Post.isBl {σ : L2.St} {m : List Addr} {H : Hp} {S : Store} {op : CmpOp} {d e : D} {P : D → List Addr → Store → Hp → Prop} (h : Post G W σ m H P (cmpop op d e S)) :
    Post G W σ m H (fun d m1 S1 H1 => ∃ b, d = .bl b ∧ P d m1 S1 H1) (cmpop op d e S) := by
  generalize hr : cmpop op d e S = r at h
  cases r with
  | ok a S' =>
    obtain ⟨⟨b, rfl⟩, rfl⟩ := cmpop_bl hr
    exact fun m1 H1 g R => ⟨b, rfl, h m1 H1 g R⟩
  | err x S' => exact h
  | bad => exact h
theorem s_cmp2 (hK : X.K = G.K) (hu : X.A.units + 64 < cLine) {op op' : CmpOp} (hs : notSet b = true) (hs' : notSet c = true) (ha : PE X a (tE G W C ca)) (hb : PE X b (tE G W C cb)) (hc : PE X c (tE G W C cc)) :
    PE X (.Compare a [op, op'] [b, c] pos) (tE G W C (.cmp2 op op' ca cb cc)) := by
  obtain ⟨r, ho, hr⟩ := cmp_ok (X := X) hK hu op
  obtain ⟨r', ho', hr'⟩ := cmp_ok (X := X) hK hu op'
  refine (pe_chain ho ho' ha hb hc (by show behindInMarks op' c = false; exact noSet_marks hs' op')).wk fun σ H Q ⟨m, S, σd, s, h⟩ => ?_
  unfold evE at h
  refine tE_step s h fun d m1 S1 H1 g1 s1 h1 v rv => ?_
  refine tE_step s1 h1 fun e m2 S2 H2 g2 s2 h2 w rw' => ?_
  refine hr (W := W) (σ := σ) s2.rep (rv.grow s1.rep g2) rw' ?_
  refine (h2.bind).isBl.mono fun z m3 S3 H3 g3 R3 q u ru => ?_
  obtain ⟨bb, rfl, q⟩ := q
  refine ⟨bb, ru.ofBl, ?_⟩
  have s3 := s2.grow g3 R3
  cases bb with
  | true =>
    rw [if_pos rfl]
    refine tE_step s3 q fun z m4 S4 H4 g4 s4 h4 u ru => ?_
    exact hr' s4.rep ((rw'.grow s2.rep g3).grow s3.rep g4) ru h4
  | false =>
    rw [if_neg Bool.false_ne_true]
    exact Post.here q s3.rep RV.bl
theorem s_ite {t : Expr} {ct : CB} (ht : PT X t (tB G W C ct)) (ha : PE X a (tE G W C ca)) (hb : PE X b (tE G W C cb)) : PE X (.IfExp t a b pos) (tE G W C (.ite ct ca cb)) := by
  refine (pe_ifExp ht ha hb).wk fun σ H Q ⟨m, S, σd, s, h⟩ => ?_
  unfold evE at h
  refine tB_step s h fun d m1 S1 H1 g1 s1 h1 => ?_
  cases d with
  | true => rw [if_pos rfl]; exact ⟨m1, S1, σd, s1, h1⟩
  | false => rw [if_neg Bool.false_ne_true]; exact ⟨m1, S1, σd, s1, h1⟩
theorem s_ix (hK : X.K = G.K) (hs : notSlice b = true) (ha : PE X a (tE G W C ca)) (hb : PE X b (tE G W C cb)) : PE X (.Subscript a b pos) (tE G W C (.ix ca cb)) := by
  obtain ⟨r, ho, hr⟩ := ix_ok (X := X) hK
  refine (pe_ix ho ha hb (plain_ix hs)).wk fun σ H Q ⟨m, S, σd, s, h⟩ => ?_
  unfold evE at h
  refine tE_step s h fun d m1 S1 H1 g1 s1 h1 v rv => ?_
  refine tE_step s1 h1 fun e m2 S2 H2 g2 s2 h2 w rw' => ?_
  exact hr s2.rep (rv.grow s1.rep g2) rw' h2
theorem s_po0 : PO X none (tO G W C .none) := po_none.wk fun σ H Q ⟨m, S, σd, s, h⟩ => h m H (Grow.refl _ _) s.rep
theorem s_po1 (ha : PE X a (tE G W C ca)) : PO X (some a) (tO G W C (.some ca)) := by
  refine (po_some ha).wk fun σ H Q ⟨m, S, σd, s, h⟩ => ?_
  unfold evO at h
  refine tE_step s h fun d m1 S1 H1 g1 s1 h1 v rv => ?_
  split at h1
  · exact ⟨_, rv.ofInt, h1 m1 H1 (Grow.refl _ _) s1.rep⟩
  · exact h1.elim
theorem s_sl (hK : X.K = G.K) {lo hi : Option Expr} {cl ch : CO} {p2 : Pos} (ha : PE X a (tE G W C ca)) (hl : PO X lo (tO G W C cl)) (hh : PO X hi (tO G W C ch)) : PE X (.Subscript a (.Slice lo hi none p2) pos) (tE G W C (.sl ca cl ch)) := by
  obtain ⟨r, ho, hr⟩ := sl_ok (X := X) hK
  refine (pe_slice ho ha hl hh).wk fun σ H Q ⟨m, S, σd, s, h⟩ => ?_
  unfold evE at h
  refine tE_step s h fun d m1 S1 H1 g1 s1 h1 v rv => ?_
  refine tO_step s1 h1 fun l m2 S2 H2 g2 s2 h2 => ?_
  refine tO_step s2 h2 fun u m3 S3 H3 g3 s3 h3 => ?_
  exact hr s3.rep ((rv.grow s1.rep g2).grow s2.rep g3) h3
theorem s_rev (hK : X.K = G.K) {kk : Nat} {p1 p2 p3 : Pos} (ha : PE X a (tE G W C ca)) : PE X (.Subscript a (.Slice none none (some (.UnaryOp .USub (.Constant (.int 1) kk p1) p2)) p3) pos) (tE G W C (.rev ca)) := by
  refine (pe_revL ha).wk fun σ H Q ⟨m, S, σd, s, h⟩ => ?_
  unfold evE at h
  refine tE_step s h fun d m1 S1 H1 g1 s1 h1 v rv => ?_
  unfold revop at h1
  split at h1
  · obtain ⟨l, hl, h1⟩ := ofO_inv h1
    obtain ⟨p, rfl, hp⟩ := rv.ofRef
    obtain ⟨xs, q1, q2, q3⟩ := seqRef_inv s1.rep hl hp
    exact ⟨p, xs, rfl, hK ▸ q1, fun p hp => h1.newLst s1.rep q2.reverse (by rw [List.length_reverse]; exact q3) hp⟩
  · exact h1.elim

/-! ### calls -/
theorem call_wx {X : Cx} {W : WX} (tk : Takes X W) (σ : L2.St) : PassesAt (L2.CX X.prog X.w) X σ (WE W σ) := passAt tk σ
/-- what a def's promise asks, from what the evaluator says of it -/
theorem sp_of {f : Fn} {i : Nat} {m : List Addr} {S : Store} {H : Hp} {σ : L2.St} {Q : VK} {vs : List V} {ds : List D} (hf : Γ.P.fns i = some f) (hl : ds.length = f.np) (R : Rep G m S H) (rvs : RVs G m H vs ds)
    (h : Post G W σ m H (PQ G Q) (callF Γ.P k i ds S)) : spF Γ G k i vs H Q (WE W σ) := by
  refine ⟨⟨f, hf, rvs.length.trans hl⟩, m, S, ds, R, rvs, ?_⟩
  generalize callF Γ.P k i ds S = r at h ⊢
  cases r with
  | ok d S' => exact h
  | err x S' => exact h
  | bad => exact h
theorem callF_np {k i : Nat} {ds : List D} {S : Store} {P : Prog} (h : callF P k i ds S ≠ .bad) : ∃ f, P.fns i = some f ∧ ds.length = f.np := by
  cases k with
  | zero => exact absurd rfl h
  | succ k =>
    unfold callF at h
    split at h
    · exact absurd rfl h
    · rename_i f hf
      split at h
      · rename_i hl; exact ⟨f, hf, hl⟩
      · exact absurd rfl h
theorem Post.ne_bad {α : Type} {σ : L2.St} {m : List Addr} {H : Hp} {P : α → List Addr → Store → Hp → Prop} {r : Res α} (h : Post G W σ m H P r) : r ≠ .bad := by rintro rfl; exact h
theorem s_fin (O : XOk Γ G X W k false) {i : Nat} {pins : List (Addr × Obj)} {σ : L2.St} {Q : VK} {us : List Value} {s1 : Shared} {vs : List V} {H1 : Hp} (I1 : Inv X pins σ H1 s1) (r : Vals vs us) (h : ∃ f, Γ.P.fns i = some f ∧ spF Γ G k i vs H1 Q (WE W σ)) :
    wpAny (model X.prog X.w) X.A (call (.ref (G.fa i)) us) (EP X pins σ Q) X.xe s1 := by
  obtain ⟨f, hf, q⟩ := h
  obtain ⟨⟨fd, ps, F, hb⟩, hk⟩ := O.fns rfl i f hf
  exact run_fnS (E := WE W) F ((O.room rfl).mono (by omega)) hb (fun pins H s e s' => passAt O.tk σ pins H s e s') I1 r q
theorem s_call (O : XOk Γ G X W k false) {x : Str} {i : Nat} {p : Pos} (hg : lookL Γ.gn x = some (.fn i)) (hv : isGl X.env.scope x = true) (hs : notStar a = true) (hss : es.all notStar = true) (ha : PA X (a :: es) (tEs G W (Γ.P.ctx k) ces)) :
    PE X (.Call (.Name x p) (a :: es) [] pos) (tE G W (Γ.P.ctx k) (.call i ces)) := by
  refine ⟨fun pins s σ H Q I h => ?_⟩
  obtain ⟨m, S, σd, sr, h⟩ := h
  have hx := O.gnm x _ hg
  simp only [okName, Bool.and_eq_true, Bool.not_eq_true'] at hx
  unfold evE at h
  have ht : tEs G W (Γ.P.ctx k) ces σ H fun vs H1 => ∃ f, Γ.P.fns i = some f ∧ spF Γ G k i vs H1 Q (WE W σ) := tEs_step sr h fun l m1 S1 H1 g1 s1 h1 vs rvs => by
    obtain ⟨f, hf, hl⟩ := callF_np h1.ne_bad
    exact ⟨f, hf, sp_of hf hl s1.rep rvs h1⟩
  obtain ⟨h1, hk⟩ := O.gFn x i hg
  refine wpAny_Call_Name_kw (ld_glob I (show Gl X x from gl_of hv) h1 ?_ hx.1.1)
  exact PySem.W.callWith_K (h₀ := X.base) I.ok.mod.kin hk (thn (ha.run pos pins s σ H _ I ht) fun us s1 ⟨vs, H1, I1, r, q⟩ => ⟨I1.kIn, s_fin O I1 r q⟩) (star_cons hs _ _) (star_any hss _ _)
theorem s_call0 (O : XOk Γ G X W k false) {x : Str} {i : Nat} {p : Pos} (hg : lookL Γ.gn x = some (.fn i)) (hv : isGl X.env.scope x = true) :
    PE X (.Call (.Name x p) [] [] pos) (tE G W (Γ.P.ctx k) (.call i .nil)) := by
  refine ⟨fun pins s σ H Q I h => ?_⟩
  obtain ⟨m, S, σd, sr, h⟩ := h
  have hx := O.gnm x _ hg
  simp only [okName, Bool.and_eq_true, Bool.not_eq_true'] at hx
  unfold evE evEs at h
  have h : Post G W σ m H (PQ G Q) (callF Γ.P k i [] S) := h
  obtain ⟨f, hf, hl⟩ := callF_np h.ne_bad
  obtain ⟨h1, hk⟩ := O.gFn x i hg
  refine wpAny_Call_Name_kw (ld_glob I (show Gl X x from gl_of hv) h1 ?_ hx.1.1)
  exact PySem.W.callWith_K0 I.kIn hk (s_fin (us := []) (vs := []) O I .nil ⟨f, hf, sp_of hf hl sr.rep (by unfold RVs; trivial) h⟩)
/-- a call of what a slot holds -/
theorem s_callv (O : XOk Γ G X W k false) {x : Str} {i : Nat} {p : Pos} (hN : slotOf X.N x = some i) (hv : isVis (lookK X.env.scope x) = true) (hs : notStar a = true) (hss : es.all notStar = true) (ha : PA X (a :: es) (tEs G W (Γ.P.ctx k) ces))
    : PE X (.Call (.Name x p) (a :: es) [] pos) (tE G W (Γ.P.ctx k) (.callv i ces)) := by
  refine ⟨fun pins s σ H Q I h => ?_⟩
  obtain ⟨m, S, σd, sr, h⟩ := h
  have hN := slotOf_get hN
  have hx := O.nm x (List.mem_of_getElem? hN)
  simp only [okName, Bool.and_eq_true, Bool.not_eq_true'] at hx
  unfold evE at h
  split at h <;> first | exact h.elim | skip
  rename_i j ej
  obtain ⟨v, h1, h2⟩ := sr.env i _ ej
  have ev : v = .ref (G.fa j) := by unfold RV at h2; exact h2
  subst ev
  obtain ⟨hh, h⟩ := okIf_inv h
  obtain ⟨f, hf⟩ := Option.isSome_iff_exists.mp hh
  obtain ⟨_, hk⟩ := O.fns rfl j f hf
  have ht : tEs G W (Γ.P.ctx k) ces σ H fun vs H1 => ∃ f, Γ.P.fns j = some f ∧ spF Γ G k j vs H1 Q (WE W σ) := tEs_step sr h fun l m1 S1 H1 g1 s1 h1 vs rvs => by
    obtain ⟨f, hf, hl⟩ := callF_np h1.ne_bad
    exact ⟨f, hf, sp_of hf hl s1.rep rvs h1⟩
  refine wpAny_Call_Name_kw (thn ((pe_var (pos := p) hN (vis_of hv) hx.1.1 hx.1.2).run pins s σ H (fun v H1 => v = .ref (G.fa j) ∧ H1 = H) I ⟨_, h1, rfl, rfl⟩) fun u s1 ⟨v, H1, I1, r1, q1⟩ => ?_)
  obtain ⟨rfl, rfl⟩ := q1
  cases r1
  exact PySem.W.callWith_K (h₀ := X.base) I.ok.mod.kin hk (thn (ha.run pos pins s1 σ _ _ I1 ht) fun us s1 ⟨vs, H1, I1, r, q⟩ => ⟨I1.kIn, s_fin O I1 r q⟩) (star_cons hs _ _) (star_any hss _ _)
theorem bi_go (O : XOk Γ G X W k hot) {f : Bi} {r : List V → Hp → VK → Prop} (ok : CallR X (biV f) r) {p : Pos} {t : TA} (hg : lookL Γ.gn (biName f) = some .blt) (hv : isGl X.env.scope (biName f) = true) (hs : notStar a = true) (hss : es.all notStar = true) (ha : PA X (a :: es) t) :
    PE X (.Call (.Name (biName f) p) (a :: es) [] pos) (tCB r t) := by
  have hx := O.gnm _ _ hg
  simp only [okName, Bool.and_eq_true, Bool.not_eq_true'] at hx
  have hn : biName f ≠ "__name__" := fun e => by have := hx.2; rw [e] at this; simp at this
  have hb := biBoot f
  have hgl : Gl X (biName f) := gl_of hv
  have hm := O.gBlt _ hg
  have hty : (∃ T, biV f = .type T) ∨ ∃ T, biV f = .builtin T := by cases f <;> first | exact .inl ⟨_, rfl⟩ | exact .inr ⟨_, rfl⟩
  refine ⟨fun pins s σ H Q I h => ?_⟩
  refine wpAny_Call_Name_kw (ld_blt I hgl hm hb ?_ hn hx.1.1)
  generalize biV f = u at ok hty
  rcases hty with ⟨T, rfl⟩ | ⟨T, rfl⟩
  · exact PyProof.Rows.callWith_type1 (thn (ha.run pos pins s σ H _ I h) fun us s1 ⟨vs, H1, I1, r1, q1⟩ => ok pins s1 σ H1 vs us Q I1 r1 q1) (star_cons hs _ _) (star_any hss _ _)
  · exact PyProof.Rows.callWith_builtin1 (thn (ha.run pos pins s σ H _ I h) fun us s1 ⟨vs, H1, I1, r1, q1⟩ => ok pins s1 σ H1 vs us Q I1 r1 q1) (star_cons hs _ _) (star_any hss _ _)
theorem s_bi (O : XOk Γ G X W k hot) (hc : X.calm = true) {f : Bi} {p : Pos} (hg : lookL Γ.gn (biName f) = some .blt) (hv : isGl X.env.scope (biName f) = true) (hs : notStar a = true) (hss : es.all notStar = true) (ha : PA X (a :: es) (tEs G W C ces)) :
    PE X (.Call (.Name (biName f) p) (a :: es) [] pos) (tE G W C (.bi f ces)) := by
  obtain ⟨r, B⟩ := bi_ok (X := X) O.hK hc f
  refine (bi_go O B.ok hg hv hs hss ha).wk fun σ H Q ⟨m, S, σd, s, h⟩ => ?_
  unfold evE at h
  exact tEs_step s h fun l m1 S1 H1 g1 s1 h1 vs rvs => B.any O.hK s1.rep rvs h1
theorem ty_boot : ∀ (t : Str) (n : String), lookL tyNames t = some n → bootBuiltins t = some (.type n) := fun t n h => by
  unfold tyNames at h
  simp only [lookL] at h
  split at h
  · rename_i e; cases h; rw [sEq_iff.mp e]; decide +kernel
  split at h
  · rename_i e; cases h; rw [sEq_iff.mp e]; decide +kernel
  split at h
  · rename_i e; cases h; rw [sEq_iff.mp e]; decide +kernel
  split at h
  · rename_i e; cases h; rw [sEq_iff.mp e]; decide +kernel
  split at h
  · rename_i e; cases h; rw [sEq_iff.mp e]; decide +kernel
  split at h
  · rename_i e; cases h; rw [sEq_iff.mp e]; decide +kernel
  · cases h
/-- a class's name, as a value -/
theorem cls_val (O : XOk Γ G X W k hot) {p2 : Pos} {t : Str} {cl : Cl} (hvt : isGl X.env.scope t = true)
    (ht : (∃ i, lookL Γ.gn t = some (.cls i) ∧ cl = .own i) ∨ (∃ n, lookL Γ.gn t = some .blt ∧ lookL tyNames t = some n ∧ cl = .ty n)) :
    ∃ cv : V, (∀ u, RelV cv u → u = clV G cl) ∧ ClsV cv (clV G cl) ∧ PE X (.Name t p2) (tC cv) := by
  rcases ht with ⟨i, h1, rfl⟩ | ⟨n, h1, h2, rfl⟩
  · have hx2 := O.gnm _ _ h1
    simp only [okName, Bool.and_eq_true, Bool.not_eq_true'] at hx2
    exact ⟨.ref (G.ca i), fun u hu => hu, .own _, pe_glob (show Gl X t from gl_of hvt) (O.gCls t i h1) rfl hx2.1.1⟩
  · have hx2 := O.gnm _ _ h1
    simp only [okName, Bool.and_eq_true, Bool.not_eq_true'] at hx2
    exact ⟨.ty n, fun u hu => hu, .ty _, pe_bltn (show Gl X t from gl_of hvt) (O.gBlt t h1) (ty_boot t n h2) rfl (fun e => by have := hx2.2; rw [e] at this; simp at this) hx2.1.1⟩
theorem isi_sem (O : XOk Γ G X W k hot) {σ : L2.St} {m : List Addr} {S : Store} {H : Hp} {Q : VK} {d : D} {v cv : V} {cl : Cl} (R : Rep G m S H) (rv : RV G m H v d) (rcv : ClsV cv (clV G cl)) (h : Post G W σ m H (PQ G Q) (isiop d cl S)) : rIsi X.K [v, cv] H Q := by
  unfold isiop at h
  split at h
  · obtain ⟨c, hc, h⟩ := ofO_inv h
    obtain ⟨b, hb, h⟩ := ofO_inv h
    exact ⟨v, cv, .type c, _, b, rfl, rcv, ty_of O.hK R rv hc, kit_ty hb, h.here R RV.bl⟩
  · exact h.elim
/-- isinstance(a, T) -/
theorem s_isi (hC : C = Γ.P.ctx k) (O : XOk Γ G X W k hot) {p p2 : Pos} {t : Str} {cl : Cl} (hg : lookL Γ.gn "isinstance" = some .blt) (hv : isGl X.env.scope "isinstance" = true) (hvt : isGl X.env.scope t = true)
    (ht : (∃ i, lookL Γ.gn t = some (.cls i) ∧ cl = .own i) ∨ (∃ n, lookL Γ.gn t = some .blt ∧ lookL tyNames t = some n ∧ cl = .ty n)) (hs : notStar a = true) (ha : PE X a (tE G W C ca)) :
    PE X (.Call (.Name "isinstance" p) [a, .Name t p2] [] pos) (tE G W C (.isi ca cl)) := by
  subst hC
  have hx := O.gnm _ _ hg
  simp only [okName, Bool.and_eq_true, Bool.not_eq_true'] at hx
  obtain ⟨cv, hcv, rcv, pT⟩ := cls_val O hvt ht (p2 := p2)
  have pA : PA X [a, .Name t p2] (tCons (tE G W (Γ.P.ctx k) ca) (tCons (tC cv) tNil)) := pa_cons ha (pa_cons pT pa_nil (star_cons rfl _ _)) (star_cons hs _ _)
  have boot : bootBuiltins "isinstance" = some (.builtin "isinstance") := by decide +kernel
  -- what the call itself answers
  have two : ∀ r : List V → Hp → VK → Prop, CallR X (.builtin "isinstance") r → PE X (.Call (.Name "isinstance" p) [a, .Name t p2] [] pos) (tCB r (tCons (tE G W (Γ.P.ctx k) ca) (tCons (tC cv) tNil))) := fun r hr =>
    pe_callB hr (show Gl X "isinstance" from gl_of hv) (O.gBlt _ hg) boot pA (by decide) hx.1.1 (star_cons hs _ _) (star_any (es := [.Name t p2]) (by simp [notStar]) _ _)
  refine ⟨fun pins s σ H Q I h => ?_⟩
  obtain ⟨m, S, σd, sr, h⟩ := h
  unfold evE at h
  refine (two _ call_isi).run pins s σ H Q I ?_
  refine tE_step sr h fun d m1 S1 H1 g1 s1 h1 v rv => ?_
  exact isi_sem O s1.rep rv rcv h1
/-- isinstance(x, T), x a name: a caught exception too -/
theorem s_isiS (hC : C = Γ.P.ctx k) (O : XOk Γ G X W k hot) {p p2 px : Pos} {t x : Str} {cl : Cl} {i : Nat} (hg : lookL Γ.gn "isinstance" = some .blt) (hv : isGl X.env.scope "isinstance" = true) (hvt : isGl X.env.scope t = true)
    (ht : (∃ i, lookL Γ.gn t = some (.cls i) ∧ cl = .own i) ∨ (∃ n, lookL Γ.gn t = some .blt ∧ lookL tyNames t = some n ∧ cl = .ty n)) (hN : slotOf X.N x = some i) (hvx : isVis (lookK X.env.scope x) = true) :
    PE X (.Call (.Name "isinstance" p) [.Name x px, .Name t p2] [] pos) (tE G W C (.isiS i cl)) := by
  subst hC
  have hx := O.gnm _ _ hg
  simp only [okName, Bool.and_eq_true, Bool.not_eq_true'] at hx
  have hNx := slotOf_get hN
  have hxx := O.nm x (List.mem_of_getElem? hNx)
  simp only [okName, Bool.and_eq_true, Bool.not_eq_true'] at hxx
  obtain ⟨cv, hcv, rcv, pT⟩ := cls_val O hvt ht (p2 := p2)
  have pA : PA X [.Name x px, .Name t p2] (tCons (tVar i) (tCons (tC cv) tNil)) := pa_cons (pe_var hNx (vis_of hvx) hxx.1.1 hxx.1.2) (pa_cons pT pa_nil (star_cons rfl _ _)) (star_cons rfl _ _)
  have boot : bootBuiltins "isinstance" = some (.builtin "isinstance") := by decide +kernel
  have two : ∀ r : List V → Hp → VK → Prop, CallR X (.builtin "isinstance") r → PE X (.Call (.Name "isinstance" p) [.Name x px, .Name t p2] [] pos) (tCB r (tCons (tVar i) (tCons (tC cv) tNil))) := fun r hr =>
    pe_callB hr (show Gl X "isinstance" from gl_of hv) (O.gBlt _ hg) boot pA (by decide) hx.1.1 (star_cons rfl _ _) (star_any (es := [.Name t p2]) (by simp [notStar]) _ _)
  refine ⟨fun pins s σ H Q I h => ?_⟩
  obtain ⟨m, S, σd, sr, h⟩ := h
  unfold evE at h
  split at h
  · rename_i d e
    obtain ⟨v, h1, h2⟩ := sr.env i d e
    exact (two _ call_isi).run pins s σ H Q I ⟨v, h1, isi_sem O sr.rep h2 rcv h⟩
  · rename_i c f e
    obtain ⟨a, h1, h2⟩ := sr.exc i c f e
    obtain ⟨b, hb, h⟩ := ofO_inv h
    exact (two _ (O.exi a c f h2)).run pins s σ H Q I ⟨.ref a, h1, cv, clV G cl, b, rfl, hcv, (O.sub c cl b hb).1, h.here sr.rep RV.bl⟩
  · exact h.elim
/-! ### methods of lists -/
theorem star_all : ∀ {es : List Expr} (h : es.all notStar = true) (pos : Pos) (env : PySem.Env), (backTo pos (starEach es env)).all (fun x => !x.1) = true
  | [], _, _, _ => rfl
  | e :: es, h, pos, env => by
    rw [List.all_cons, Bool.and_eq_true] at h
    rw [star_cons h.1]
    show (!false && (backTo pos (starEach es env)).all (fun x => !x.1)) = true
    rw [star_all h.2]; rfl
theorem few_of {es : List Expr} (h : es.all notStar = true) (hn : es.length < 20) {pos : Pos} {env : PySem.Env} : ((backTo pos (starEach es env)).all (fun x => !x.1) && (backToKw pos (keywordEach [] env)).all (fun x => x.1.isSome)
      && decide (es.length + ([] : List Keyword).length + (if ([] : List Keyword).isEmpty then 0 else 1) < 30)) = true := by
  rw [star_all h]
  have : decide (es.length + ([] : List Keyword).length + (if ([] : List Keyword).isEmpty then 0 else 1) < 30) = true := decide_eq_true (by simp; omega)
  rw [this]; rfl
theorem chk_list {S : Store} {H : Hp} {m : List Addr} {d : D} {v : V} (hK : X.K = G.K) (R : Rep G m S H) (r : RV G m H v d) (h : ∃ i, d = .ref i ∧ (seqOf S (.ref i)).isSome = true) : tyV X.K "list" v H := by
  obtain ⟨i, rfl, h⟩ := h
  obtain ⟨l, hl⟩ := Option.isSome_iff_exists.mp h
  obtain ⟨a, rfl, ha⟩ := r.ofRef
  obtain ⟨xs, q, _⟩ := seqRef_inv R hl ha
  exact .inl ⟨rfl, xs, hK ▸ q⟩
theorem chk_ref {S : Store} {d : D} {mt : Mt} (hm : mt = .append ∨ mt = .pop ∨ mt = .extend) (h : mtChk mt d S = true) : ∃ i, d = .ref i ∧ (seqOf S (.ref i)).isSome = true := by
  rcases hm with rfl | rfl | rfl <;> (cases d <;> first | (simp [mtChk] at h; done) | exact ⟨_, rfl, h⟩)
theorem s_append (O : XOk Γ G X W k hot) {o : Expr} {co : CE} {apos cpos : Pos} (hb : notSup o = true) (hl : (apos.endLine == cpos.line) = true) (hn : (a :: es).length < 20) (hs : notStar a = true) (hss : es.all notStar = true)
    (ho : PE X o (tE G W C co)) (ha : PA X (a :: es) (tEs G W C ces)) : PE X (.Call (.Attribute o "append" apos) (a :: es) [] cpos) (tE G W C (.mth .append co ces)) := by
  refine (pe_bm PySem.F.plainAttrs_list PySem.F.slot_list_append PySem.F.type_list_append mt_append ho ha (base_of hb _ _) (few_of (by rw [List.all_cons, hs, hss]; rfl) hn) hl (star_cons hs _ _) (star_any hss _ _)).wk fun σ H Q ⟨m, S, σd, s, h⟩ => ?_
  unfold evE at h
  refine tE_step s h fun d m1 S1 H1 g1 s1 h1 v rv => ?_
  obtain ⟨hc, h1⟩ := okIf_inv h1
  refine ⟨chk_list O.hK s1.rep rv (chk_ref (.inl rfl) hc), ?_⟩
  exact tEs_step s1 h1 fun l m2 S2 H2 g2 s2 h2 vs rvs => (append_sem O.hK s2.rep (rv.grow s1.rep g2) rvs h2).2
theorem s_extend (O : XOk Γ G X W k hot) {o : Expr} {co : CE} {apos cpos : Pos} (hb : notSup o = true) (hl : (apos.endLine == cpos.line) = true) (hn : (a :: es).length < 20) (hs : notStar a = true) (hss : es.all notStar = true)
    (ho : PE X o (tE G W C co)) (ha : PA X (a :: es) (tEs G W C ces)) : PE X (.Call (.Attribute o "extend" apos) (a :: es) [] cpos) (tE G W C (.mth .extend co ces)) := by
  refine (pe_bm PySem.F.plainAttrs_list PySem.F.slot_list_extend PySem.F.type_list_extend mt_extend ho ha (base_of hb _ _) (few_of (by rw [List.all_cons, hs, hss]; rfl) hn) hl (star_cons hs _ _) (star_any hss _ _)).wk fun σ H Q ⟨m, S, σd, s, h⟩ => ?_
  unfold evE at h
  refine tE_step s h fun d m1 S1 H1 g1 s1 h1 v rv => ?_
  obtain ⟨hc, h1⟩ := okIf_inv h1
  refine ⟨chk_list O.hK s1.rep rv (chk_ref (.inr (.inr rfl)) hc), ?_⟩
  exact tEs_step s1 h1 fun l m2 S2 H2 g2 s2 h2 vs rvs => (extend_sem O.hK s2.rep (rv.grow s1.rep g2) rvs h2).2
theorem s_pop (O : XOk Γ G X W k hot) {o : Expr} {co : CE} {apos cpos : Pos} (hb : notSup o = true) (hl : (apos.endLine == cpos.line) = true)
    (ho : PE X o (tE G W C co)) : PE X (.Call (.Attribute o "pop" apos) [] [] cpos) (tE G W C (.mth .pop co .nil)) := by
  refine (pe_bm0 PySem.F.plainAttrs_list PySem.F.slot_list_pop PySem.F.type_list_pop mt_pop ho (base_of hb _ _) hl).wk fun σ H Q ⟨m, S, σd, s, h⟩ => ?_
  unfold evE at h
  refine tE_step s h fun d m1 S1 H1 g1 s1 h1 v rv => ?_
  obtain ⟨hc, h1⟩ := okIf_inv h1
  unfold evEs at h1
  exact ⟨chk_list O.hK s1.rep rv (chk_ref (.inr (.inl rfl)) hc), (pop_sem O.hK s1.rep rv h1).2⟩

/-! ### tests -/
theorem s_yes : PTs X [] (tB G W C .yes) := ⟨fun pins s σ H Q I ⟨m, S, σd, sr, h⟩ => pts_nil.run pins s σ H Q I (h m H (Grow.refl _ _) sr.rep)⟩
theorem s_val (hK : X.K = G.K) (hp : plainT a = true) (ha : PE X a (tE G W C ca)) : PT X a (tB G W C (.val ca)) := by
  refine (pt_truth ha (plain_test hp X.env)).wk fun σ H Q ⟨m, S, σd, s, h⟩ => ?_
  unfold evB at h
  refine tE_step s h fun d m1 S1 H1 g1 s1 h1 v rv => ?_
  obtain ⟨b, hb, h1⟩ := ofO_inv h1
  exact ⟨b, truth_ok hK s1.rep rv hb, h1 m1 H1 (Grow.refl _ _) s1.rep⟩
theorem s_valcmp (hK : X.K = G.K) (hu : X.A.units + 64 < cLine) {op : CmpOp} (hs : notSet b = true) (ha : PE X a (tE G W C ca)) (hb : PE X b (tE G W C cb)) : PT X (.Compare a [op] [b] pos) (tB G W C (.val (.cmp op ca cb))) := by
  obtain ⟨r, ho, hr⟩ := cmp_ok (X := X) hK hu op
  refine (pt_cmpR ho ha hb (noSet_marks hs op)).wk fun σ H Q ⟨m, S, σd, s, h⟩ => ?_
  unfold evB evE at h
  have e : ∀ {α : Type} (r : Res α) (f : α → Store → Res D) (g : D → Store → Res Bool), (r.bind f).bind g = r.bind fun x S => (f x S).bind g := fun r f g => by cases r <;> rfl
  rw [e] at h
  refine tE_step s h fun d m1 S1 H1 g1 s1 h1 v rv => ?_
  rw [e] at h1
  refine tE_step s1 h1 fun e m2 S2 H2 g2 s2 h2 w rw' => ?_
  refine hr (W := W) (σ := σ) s2.rep (rv.grow s1.rep g2) rw' ?_
  refine (h2.bind).isBl.mono fun z m3 S3 H3 g3 R3 q u ru => ?_
  obtain ⟨bb, rfl, q⟩ := q
  exact ⟨bb, ru.ofBl, q m3 H3 (Grow.refl _ _) R3⟩
theorem s_valcmp2 (hK : X.K = G.K) (hu : X.A.units + 64 < cLine) {op op' : CmpOp} (hs : notSet b = true) (hs' : notSet c = true) (ha : PE X a (tE G W C ca)) (hb : PE X b (tE G W C cb)) (hc : PE X c (tE G W C cc)) :
    PT X (.Compare a [op, op'] [b, c] pos) (tB G W C (.val (.cmp2 op op' ca cb cc))) := by
  obtain ⟨r, ho, hr⟩ := cmp_ok (X := X) hK hu op
  obtain ⟨r', ho', hr'⟩ := cmp_ok (X := X) hK hu op'
  refine (pt_chain ho ho' ha hb hc (by show behindInMarks op' c = false; exact noSet_marks hs' op')).wk fun σ H Q ⟨m, S, σd, s, h⟩ => ?_
  have e : ∀ {α : Type} (r : Res α) (f : α → Store → Res D) (g : D → Store → Res Bool), (r.bind f).bind g = r.bind fun x S => (f x S).bind g := fun r f g => by cases r <;> rfl
  unfold evB evE at h
  rw [e] at h
  refine tE_step s h fun d m1 S1 H1 g1 s1 h1 v rv => ?_
  rw [e] at h1
  refine tE_step s1 h1 fun y m2 S2 H2 g2 s2 h2 w rw' => ?_
  refine hr (W := W) (σ := σ) s2.rep (rv.grow s1.rep g2) rw' ?_
  rw [e] at h2
  refine (h2.bind).isBl.mono fun z m3 S3 H3 g3 R3 q u ru => ?_
  obtain ⟨bb, rfl, q⟩ := q
  refine ⟨bb, ru.ofBl, ?_⟩
  have s3 := s2.grow g3 R3
  cases bb with
  | true =>
    rw [if_pos rfl]
    have q : Post G W σ m3 H3 _ (((evE C cc σd S3).bind fun z S4 => cmpop op' y z S4).bind fun x S1 => ofO (truth S1 x) fun b => .ok b S1) := q
    rw [e] at q
    refine tE_step s3 q fun z m4 S4 H4 g4 s4 h4 u ru => ?_
    refine hr' (W := W) (σ := σ) s4.rep ((rw'.grow s2.rep g3).grow s3.rep g4) ru ?_
    refine (h4.bind).isBl.mono fun z m5 S5 H5 g5 R5 q u ru => ?_
    obtain ⟨bb, rfl, q⟩ := q
    exact ⟨bb, ru.ofBl, q m5 H5 (Grow.refl _ _) R5⟩
  | false =>
    rw [if_neg Bool.false_ne_true]
    exact ⟨false, rfl, q m3 H3 (Grow.refl _ _) R3⟩
theorem s_bnot {t : CB} (ha : PT X a (tB G W C t)) : PT X (.UnaryOp .Not a pos) (tB G W C (.not t)) := by
  refine (pt_not ha).wk fun σ H Q ⟨m, S, σd, s, h⟩ => ?_
  unfold evB at h
  exact tB_step s h fun d m1 S1 H1 g1 s1 h1 => h1 m1 H1 (Grow.refl _ _) s1.rep
theorem s_band1 {t : CB} (ha : PT X a (tB G W C t)) : PW X (.BoolOp .And [a] pos) (tB G W C t) := pw_and1 ha
theorem s_bor1 {t : CB} (ha : PT X a (tB G W C t)) : PW X (.BoolOp .Or [a] pos) (tB G W C t) := pw_or1 ha
theorem s_band {t u : CB} (ha : PT X a (tB G W C t)) (hb : PW X (.BoolOp .And (b :: es) pos) (tB G W C u)) : PW X (.BoolOp .And (a :: b :: es) pos) (tB G W C (.and t u)) := by
  refine (pw_and ha hb).wk fun σ H Q ⟨m, S, σd, s, h⟩ => ?_
  unfold evB at h
  refine tB_step s h fun d m1 S1 H1 g1 s1 h1 => ?_
  cases d with
  | true => rw [if_pos rfl]; exact ⟨m1, S1, σd, s1, h1⟩
  | false => rw [if_neg Bool.false_ne_true]; exact h1 m1 H1 (Grow.refl _ _) s1.rep
theorem s_bor {t u : CB} (ha : PT X a (tB G W C t)) (hb : PW X (.BoolOp .Or (b :: es) pos) (tB G W C u)) : PW X (.BoolOp .Or (a :: b :: es) pos) (tB G W C (.or t u)) := by
  refine (pw_or ha hb).wk fun σ H Q ⟨m, S, σd, s, h⟩ => ?_
  unfold evB at h
  refine tB_step s h fun d m1 S1 H1 g1 s1 h1 => ?_
  cases d with
  | true => rw [if_pos rfl]; exact h1 m1 H1 (Grow.refl _ _) s1.rep
  | false => rw [if_neg Bool.false_ne_true]; exact ⟨m1, S1, σd, s1, h1⟩

/-! ### targets -/
theorem s_tslot {vs : List Nat} {x : Str} {i : Nat} (hvs : i ∈ vs) (O : XOk Γ G X W k hot) (hN : slotOf X.N x = some i) (hx : Loc X.env.scope x) (hf : X.fn x = true ∨ X.env.scope.names.lookup x = some .local) : PG X (.Name x pos) (tT G W C vs (.slot i)) := by
  refine (pg_name O.nd (slotOf_get hN) hx hf).wk fun v σ H Q ⟨m, S, σd, d, s, r, h⟩ => ?_
  exact h m H (Grow.refl _ _) s.rep _ (s.set r) (wipe_set hvs)
theorem s_tnil {ws : List Nat} : PGs X [] (tTs G W C ws .nil) := by
  refine pgs_nil.wk fun v σ H Q ⟨m, S, σd, ds, s, r, h⟩ => ?_
  unfold evTs at h
  cases ds with
  | nil => exact ⟨vs0 r, h m H (Grow.refl _ _) s.rep _ s rfl⟩
  | cons d ds => exact h.elim
theorem as_cons {e : Expr} (h : notStar e = true) (es : List Expr) (env : PySem.Env) : (assignEach (e :: es) env).map (·.2) = assign e env :: (assignEach es env).map (·.2) := by
  cases e <;> first | rfl | (simp [notStar] at h)
theorem as_len : ∀ {es : List Expr} (h : es.all notStar = true) (env : PySem.Env), (assignEach es env).length = es.length ∧ (assignEach es env).findIdx? (·.1) = none
  | [], _, _ => ⟨rfl, rfl⟩
  | e :: es, h, env => by
    rw [List.all_cons, Bool.and_eq_true] at h
    obtain ⟨h1, h2⟩ := as_len h.2 env
    have hc : assignEach (e :: es) env = (false, assign e env) :: assignEach es env := by
      cases e <;> first | rfl | (simp [notStar] at h)
    rw [hc]
    refine ⟨by simp [h1], ?_⟩
    rw [List.findIdx?_cons, h2]
    rfl
/-- no exception, no matter what is wished of one -/
theorem Post.reW {α : Type} {σ σ' : L2.St} {W W' : WX} {m : List Addr} {H : Hp} {P : α → List Addr → Store → Hp → Prop} {r : Res α} (hr : ∀ x S, r ≠ .err x S) (h : Post G W σ m H P r) : Post G W' σ' m H P r := by
  cases r with
  | ok a S' => exact h
  | err x S' => exact absurd rfl (hr x S')
  | bad => exact h
theorem noerr_ne {α : Type} (r : Res α) : ∀ x S, r.noerr ≠ .err x S := fun x S h => by
  cases r <;> (unfold Res.noerr at h; cases h)
theorem bind_ne {α β : Type} {r : Res α} {f : α → Store → Res β} (h1 : ∀ x S, r ≠ .err x S) (h2 : ∀ a S' x S, f a S' ≠ .err x S) : ∀ x S, r.bind f ≠ .err x S := fun x S h => by
  cases r with
  | ok a S' => exact h2 a S' x S h
  | err y S' => exact h1 y S' rfl
  | bad => cases h
theorem Post.ofNoerr {α : Type} {σ : L2.St} {W : WX} {m : List Addr} {H : Hp} {P : α → List Addr → Store → Hp → Prop} {r : Res α} (h : Post G W σ m H P r.noerr) : Post G W σ m H P r := by
  cases r with
  | ok a S' => exact h
  | err x S' => exact h.elim
  | bad => exact h
mutual
theorem evT_ne : ∀ (t : CT) (d : D) (σd : Env) (S : Store) (x : Ex) (S' : Store), evT C t d σd S ≠ .err x S'
  | .bad, d, σd, S, x, S', h => by unfold evT at h; cases h
  | .slot i, d, σd, S, x, S', h => by unfold evT at h; cases h
  | .tup ts, d, σd, S, x, S', h => by
    unfold evT at h
    cases d <;> first | (cases h; done) | exact evTs_ne ts _ σd S x S' h
  | .ix o i, d, σd, S, x, S', h => by unfold evT at h; exact noerr_ne _ x S' h
  | .fld o f, d, σd, S, x, S', h => by unfold evT at h; cases h
theorem evTs_ne : ∀ (t : CTs) (d : List D) (σd : Env) (S : Store) (x : Ex) (S' : Store), evTs C t d σd S ≠ .err x S'
  | .nil, [], σd, S, x, S', h => by unfold evTs at h; cases h
  | .nil, _ :: _, σd, S, x, S', h => by unfold evTs at h; cases h
  | .cons t ts, [], σd, S, x, S', h => by unfold evTs at h; cases h
  | .cons t ts, d :: ds, σd, S, x, S', h => by
    unfold evTs at h
    exact bind_ne (fun x S' => evT_ne t d σd S x S') (fun a S1 x S' => evTs_ne ts ds a S1 x S') x S' h
end
theorem s_tcons {ws : List Nat} {t : Expr} {ts : List Expr} {ct : CT} {cts : CTs} (hs : notStar t = true) (h1 : PG X t (tT G W C ws ct)) (h2 : PGs X ts (tTs G W C ws cts)) : PGs X (t :: ts) (tTs G W C ws (.cons ct cts)) := by
  refine (pgs_cons h1 h2 (as_cons hs _ _)).wk fun v σ H Q ⟨m, S, σd, ds, s, r, h⟩ => ?_
  unfold evTs at h
  cases ds with
  | nil => exact h.elim
  | cons d ds =>
    match v, r with
    | [], r => unfold RVs at r; exact r.elim
    | v :: vs, r =>
      unfold RVs at r
      refine ⟨v, vs, rfl, m, S, σd, d, s, r.1, h.bind.mono fun σd' m1 S1 H1 g R q σ' s' hw => ?_⟩
      exact ⟨m1, S1, σd', ds, s', r.2.grow s.rep g, Post.reW (fun x S' => evTs_ne cts ds σd' S1 x S') (q.mono fun σe m2 S2 H2 g2 R2 z σ2 s2 hw2 => z σ2 s2 (hw2.trans hw))⟩
theorem s_ttup {ws : List Nat} (hK : X.K = G.K) (hc : X.calm = true) {ts : List Expr} {kk : Nat} {cts : CTs} (hs : ts.all notStar = true) (h : PGs X ts (tTs G W C ws cts)) (hl : ∀ ds σd S, evTs C cts ds σd S ≠ .bad → ds.length = ts.length) : PG X (.Tuple ts kk pos) (tT G W C ws (.tup cts)) := by
  obtain ⟨l1, l2⟩ := as_len hs X.env
  refine (pg_tup hc h l1 l2).wk fun v σ H Q ⟨m, S, σd, d, s, r, q⟩ => ?_
  unfold evT at q
  obtain ⟨l, hl', q⟩ := ofO_inv q
  cases d <;> first | (cases hl'; done) | skip
  cases hl'
  obtain ⟨a, xs, rfl, hx, rxs, hz⟩ := r.ofTup
  exact ⟨a, xs, rfl, hK ▸ hx, rxs.length.trans (hl _ _ _ q.ne_bad), m, S, σd, l, s, rxs, q⟩
theorem s_tix {ws : List Nat} (hK : X.K = G.K) {o i : Expr} {co ci : CE} (hs : notSlice i = true) (ho : PE X o (tE G W C co)) (hi : PE X i (tE G W C ci)) : PG X (.Subscript o i pos) (tT G W C ws (.ix co ci)) := by
  refine (pg_sub ho hi set_list (fun v => by
    cases i <;> first | rfl | (simp [notSlice] at hs))).wk fun v σ H Q ⟨m, S, σd, d, s, r, h⟩ => ?_
  unfold evT at h
  have h := h.ofNoerr
  refine tE_step s h fun x m1 S1 H1 g1 s1 h1 xv rx => ?_
  refine tE_step s1 h1 fun y m2 S2 H2 g2 s2 h2 yv ry => ?_
  refine set_sem (W := W) (σ := σ) s2.rep (rx.grow s1.rep g2) ry (r.grow s.rep (g1.trans g2)) ?_
  refine h2.bind.mono fun _ m3 S3 H3 g3 R3 q => ?_
  exact q m3 H3 (Grow.refl _ _) R3 σ (s2.grow g3 R3) rfl
end
end EV

/-! what is walked; comprehensions -/
namespace EV
open PySem L2 PyProof.Rows
section
variable {Γ : Gam} {G : GS} {X : Cx} {W : WX} {k : Nat} {hot : Bool} {C : Ctx} {a b c : Expr} {ca cb cc : CE} {es : List Expr} {ces : CEs} {pos : Pos}

/-! ### the machine's walks are the evaluator's -/
theorem wok_tup {m : List Addr} {S : Store} {H : Hp} {p : Addr} {xs : List V} {l : List D} (R : Rep G m S H) (hx : SqT G.K H p xs) (rx : RVs G m H xs l) : WOk G (Itt G.K p) ⟨none, l⟩ m H := by
  intro m' S' H' i g R' _
  have hx' := SqT.grow R g hx
  have rx' := rx.grow R g
  have hl := rx.length
  refine ⟨fun hi => ⟨xs, xs[i]'(by rw [hl]; exact hi), hx', by simp⟩, ⟨xs, hx', by rw [hl]; exact Nat.le_refl _⟩, fun x H'' hi y => ?_⟩
  obtain ⟨rfl, y⟩ := y
  obtain ⟨d, h1, h2⟩ := rx'.get' (y xs hx')
  exact ⟨Grow.refl _ _, R', d, h1, h2⟩
theorem wok_lst {m : List Addr} {H : Hp} {j : Nat} {p : Addr} {l : List D} (hp : m[j]? = some p) : WOk G (Itl G.K p) ⟨some (j, l), l⟩ m H := by
  intro m' S' H' i g R' st
  have st : seqOf S' (.ref j) = some l := st
  obtain ⟨xs, hx, rx, _⟩ := seqRef_inv R' st (g.get hp)
  have hl := rx.length
  refine ⟨fun hi => ⟨xs, xs[i]'(by rw [hl]; exact hi), hx, by simp⟩, ⟨xs, hx, by rw [hl]; exact Nat.le_refl _⟩, fun x H'' hi y => ?_⟩
  obtain ⟨rfl, y⟩ := y
  obtain ⟨d, h1, h2⟩ := rx.get' (y xs hx)
  exact ⟨Grow.refl _ _, R', d, h1, h2⟩
theorem wok_str {m : List Addr} {H : Hp} {z : Str} : WOk G (Its z) ⟨none, z.cps.toList.map fun c => .str ⟨#[c]⟩⟩ m H := by
  intro m' S' H' i g R' _
  refine ⟨fun hi => ?_, ?_, fun x H'' hi y => ?_⟩
  · have hi : i < (z.cps.toList.map fun c => D.str ⟨#[c]⟩).length := hi
    show i < z.cps.size
    simpa using hi
  · show z.cps.size ≤ (z.cps.toList.map fun c => D.str ⟨#[c]⟩).length
    simp
  · obtain ⟨rfl, c, hc, rfl⟩ := y
    exact ⟨Grow.refl _ _, R', .str ⟨#[c]⟩, by simp [hc], RV.str⟩
theorem range_get {lo c : Int} {n i : Nat} (h : i < n) : (rangeOf lo c n)[i]? = some (.int (lo + (i : Nat) * c)) := by
  unfold rangeOf
  rw [List.getElem?_map, List.getElem?_range h]; rfl
theorem range_len {lo c : Int} {n : Nat} : (rangeOf lo c n).length = n := by unfold rangeOf; simp
theorem wok_range {m : List Addr} {H : Hp} {lo : Int} {n : Nat} : WOk G (Itr lo n) ⟨none, rangeOf lo 1 n⟩ m H := by
  intro m' S' H' i g R' _
  refine ⟨fun hi => ?_, ?_, fun x H'' hi y => ?_⟩
  · have hi : i < (rangeOf lo 1 n).length := hi
    rw [range_len] at hi; exact hi
  · show n ≤ (rangeOf lo 1 n).length
    rw [range_len]; exact Nat.le_refl _
  · have hi : i < (rangeOf lo 1 n).length := hi
    rw [range_len] at hi
    obtain ⟨rfl, rfl⟩ := y
    refine ⟨Grow.refl _ _, R', _, range_get hi, ?_⟩
    rw [Int.mul_one]; exact RV.int
theorem wok_rangeC {m : List Addr} {H : Hp} {lo c : Int} {n : Nat} : WOk G (Itc lo c n) ⟨none, rangeOf lo c n⟩ m H := by
  intro m' S' H' i g R' _
  refine ⟨fun hi => ?_, ?_, fun x H'' hi y => ?_⟩
  · have hi : i < (rangeOf lo c n).length := hi
    rw [range_len] at hi; exact hi
  · show n ≤ (rangeOf lo c n).length
    rw [range_len]; exact Nat.le_refl _
  · have hi : i < (rangeOf lo c n).length := hi
    rw [range_len] at hi
    obtain ⟨rfl, rfl⟩ := y
    exact ⟨Grow.refl _ _, R', _, range_get hi, RV.int⟩
theorem enum_get {l : List D} {i : Nat} {d : D} (h : l[i]? = some d) : (enumOf l)[i]? = some (.tup [.int (i : Nat), d]) := by
  unfold enumOf
  rw [List.getElem?_map, List.getElem?_zipIdx, h]; simp
theorem enum_len {l : List D} : (enumOf l).length = l.length := by unfold enumOf; simp
theorem wok_enum {m : List Addr} {H : Hp} {j : Nat} {p : Addr} {l : List D} (hp : m[j]? = some p) : WOk G (Ite G.K p) ⟨some (j, l), enumOf l⟩ m H := by
  intro m' S' H' i g R' st
  have st : seqOf S' (.ref j) = some l := st
  obtain ⟨xs, hx, rx, _⟩ := seqRef_inv R' st (g.get hp)
  have hl := rx.length
  refine ⟨fun hi => ?_, ⟨xs, hx, ?_⟩, fun x H'' hi y => ?_⟩
  · have hi : i < (enumOf l).length := hi
    rw [enum_len] at hi
    exact ⟨xs, xs[i]'(by rw [hl]; exact hi), hx, by simp⟩
  · show xs.length ≤ (enumOf l).length
    rw [enum_len, hl]; exact Nat.le_refl _
  · obtain ⟨T, w, rfl, hT, rfl, y⟩ := y
    obtain ⟨d, h1, h2⟩ := rx.get' (y xs hx)
    refine ⟨Grow.new hT, R'.new hT, _, enum_get h1, RV.mkTup (xs := [.int (i : Nat), w]) (.inl (.inl upd_same)) ?_ (by show 2 ≤ sizeLine; decide)⟩
    unfold RVs
    refine ⟨RV.int, RVs.one (h2.grow R' (Grow.new hT))⟩

/-! ### what a for or a comprehension walks -/
theorem s_seq (hK : X.K = G.K) {t : Expr} (ha : PE X a (tE G W C ca)) : PI X t a (tI G W C (.seq ca)) := by
  refine (PI.or (PI.or (pi_list ha) (pi_tup ha)) (pi_str ha)).wk fun σ H R ⟨m, S, σd, s, h⟩ => ?_
  unfold evI at h
  -- the value decides
  generalize hr : evE C ca σd S = r at h
  have no : ∀ x S', r = .err x S' → tE G W C ca σ H (fun _ _ => False) := fun x S' e => ⟨m, S, σd, s, by rw [hr]; subst e; exact h⟩
  cases r with
  | err x S' =>
    have q := no x S' rfl
    refine .inl (.inl ?_)
    obtain ⟨m, S, σd, s, q⟩ := q
    exact ⟨m, S, σd, s, q.mono fun d m1 S1 H1 g R1 z v rv => (z v rv).elim⟩
  | bad => exact h.elim
  | ok d S' =>
    have step : ∀ {R' : V → Hp → Prop}, (∀ m1 H1, Grow m H m1 H1 → SR G m1 S' σd σ H1 → Post G W σ m1 H1 (fun J m1 S1 H1 => ∀ Jh, WOk G Jh J m1 H1 → R Jh H1) (itSeq d S') → ∀ v, RV G m1 H1 v d → R' v H1) → tE G W C ca σ H R' := fun {R'} k => by
      refine ⟨m, S, σd, s, ?_⟩
      rw [hr]
      intro m1 H1 g R1 v rv
      have hb : Post G W σ m1 H1 _ (itSeq d S') := h.bind m1 H1 g R1
      exact k m1 H1 g (s.grow g R1) hb v rv
    cases d with
    | tup l =>
      refine .inl (.inr (step fun m1 H1 g s1 q v rv => ?_))
      obtain ⟨p, xs, rfl, hx, rx, hz⟩ := rv.ofTup
      exact ⟨p, rfl, ⟨xs, hK ▸ hx⟩, q m1 H1 (Grow.refl _ _) s1.rep _ (hK ▸ wok_tup s1.rep hx rx)⟩
    | ref i =>
      refine .inl (.inl (step fun m1 H1 g s1 q v rv => ?_))
      obtain ⟨l, hl, q⟩ := ofO_inv q
      obtain ⟨p, rfl, hp⟩ := rv.ofRef
      obtain ⟨xs, hx, rx, _⟩ := seqRef_inv s1.rep hl hp
      exact ⟨p, rfl, ⟨xs, hK ▸ hx⟩, q m1 H1 (Grow.refl _ _) s1.rep _ (hK ▸ wok_lst hp)⟩
    | str z =>
      refine .inr (step fun m1 H1 g s1 q v rv => ?_)
      exact ⟨z, rv.ofStr, q m1 H1 (Grow.refl _ _) s1.rep _ wok_str⟩
    | _ => exact False.elim h
theorem s_range1 (O : XOk Γ G X W k hot) {t : Expr} {p : Pos} (hg : lookL Γ.gn "range" = some .blt) (hv : isGl X.env.scope "range" = true) (hs : notStar a = true) (ha : PE X a (tE G W C ca)) : PI X t (.Call (.Name "range" p) [a] [] pos) (tI G W C (.range1 ca)) := by
  refine (pi_range1 (show Gl X "range" from gl_of hv) (O.gBlt _ hg) (pa_cons ha pa_nil (star_cons hs _ _)) (star_cons hs _ _)).wk fun σ H R ⟨m, S, σd, s, h⟩ => ?_
  unfold evI at h
  refine tE_step s h fun d m1 S1 H1 g1 s1 h1 v rv => ?_
  unfold itRange1 at h1
  split at h1 <;> first | exact h1.elim | skip
  obtain ⟨⟨z1, z2⟩, h1⟩ := okIf_inv h1
  exact ⟨_, by rw [rv.ofInt], z1, z2, h1 m1 H1 (Grow.refl _ _) s1.rep _ wok_range⟩
theorem s_range2 (O : XOk Γ G X W k hot) {t : Expr} {p : Pos} (hg : lookL Γ.gn "range" = some .blt) (hv : isGl X.env.scope "range" = true) (hs : notStar a = true) (hs' : notStar b = true) (ha : PE X a (tE G W C ca)) (hb : PE X b (tE G W C cb)) :
    PI X t (.Call (.Name "range" p) [a, b] [] pos) (tI G W C (.range2 ca cb)) := by
  refine (pi_range2 (show Gl X "range" from gl_of hv) (O.gBlt _ hg) (pa_cons ha (pa_cons hb pa_nil (star_cons hs' _ _)) (star_cons hs _ _)) (by rw [star_cons hs, star_cons hs']; rfl) (star_cons hs' _ _)).wk fun σ H R ⟨m, S, σd, s, h⟩ => ?_
  unfold evI at h
  refine tE_step s h fun d m1 S1 H1 g1 s1 h1 v rv => ?_
  refine tE_step s1 h1 fun e m2 S2 H2 g2 s2 h2 w rw' => ?_
  unfold itRange2 at h2
  split at h2 <;> first | exact h2.elim | skip
  obtain ⟨z, h2⟩ := okIf_inv h2
  exact ⟨_, _, by rw [rv.ofInt, rw'.ofInt], z, h2 m2 H2 (Grow.refl _ _) s2.rep _ wok_range⟩
theorem s_range3 (O : XOk Γ G X W k hot) {t : Expr} {p : Pos} (hg : lookL Γ.gn "range" = some .blt) (hv : isGl X.env.scope "range" = true) (hs : notStar a = true) (hs' : notStar b = true) (hs'' : notStar c = true) (ha : PE X a (tE G W C ca)) (hb : PE X b (tE G W C cb))
    (hc : PE X c (tE G W C cc)) : PI X t (.Call (.Name "range" p) [a, b, c] [] pos) (tI G W C (.range3 ca cb cc)) := by
  refine (pi_range3 (show Gl X "range" from gl_of hv) (O.gBlt _ hg) (pa_cons ha (pa_cons hb (pa_cons hc pa_nil (star_cons hs'' _ _)) (star_cons hs' _ _)) (star_cons hs _ _)) (star_cons hs _ _) (star_any (es := [b, c]) (by simp [hs', hs'']) _ _)).wk fun σ H R ⟨m, S, σd, s, h⟩ => ?_
  unfold evI at h
  refine tE_step s h fun d m1 S1 H1 g1 s1 h1 v rv => ?_
  refine tE_step s1 h1 fun e m2 S2 H2 g2 s2 h2 w rw' => ?_
  refine tE_step s2 h2 fun f m3 S3 H3 g3 s3 h3 u ru => ?_
  unfold itRange3 at h3
  split at h3 <;> first | exact h3.elim | skip
  obtain ⟨⟨hc1, z1, z2, z3, z4⟩, h4⟩ := okIf_inv h3
  exact ⟨_, _, -1, _, by rw [rv.ofInt, rw'.ofInt, ru.ofInt, hc1], RgC.neg z1 z2 z3 z4, h4 m3 H3 (Grow.refl _ _) s3.rep _ wok_rangeC⟩
theorem s_enum (O : XOk Γ G X W k hot) {p tpos : Pos} {elts : List Expr} {kk : Nat} (hg : lookL Γ.gn "enumerate" = some .blt) (hv : isGl X.env.scope "enumerate" = true) (hs : notStar a = true) (ha : PE X a (tE G W C ca)) :
    PI X (.Tuple elts kk tpos) (.Call (.Name "enumerate" p) [a] [] pos) (tI G W C (.enum ca)) := by
  refine (pi_enum (show Gl X "enumerate" from gl_of hv) (O.gBlt _ hg) (pa_cons ha pa_nil (star_cons hs _ _)) (star_cons hs _ _)).wk fun σ H R ⟨m, S, σd, s, h⟩ => ?_
  unfold evI at h
  refine tE_step s h fun d m1 S1 H1 g1 s1 h1 v rv => ?_
  unfold itEnum at h1
  split at h1 <;> first | exact h1.elim | skip
  obtain ⟨l, hl, h1⟩ := ofO_inv h1
  obtain ⟨p, rfl, hp⟩ := rv.ofRef
  obtain ⟨xs, hx, rx, _⟩ := seqRef_inv s1.rep hl hp
  exact ⟨p, xs, rfl, O.hK ▸ hx, h1 m1 H1 (Grow.refl _ _) s1.rep _ (O.hK ▸ wok_enum hp)⟩

/-! ### comprehensions -/
abbrev WF : WX := fun _ _ _ _ => False
theorem chk_inv {α : Type} {c : Prop} {r : Res α} {a : α} {S : Store} (h : chk c r = .ok a S) : c ∧ r = .ok a S := by
  unfold chk at h
  split at h
  · rename_i hc; exact ⟨hc, h⟩
  · cases h
theorem bind_inv {α β : Type} {r : Res α} {f : α → Store → Res β} {b : β} {S : Store} (h : r.bind f = .ok b S) : ∃ a S1, r = .ok a S1 ∧ f a S1 = .ok b S := by
  cases r with
  | ok a S1 => exact ⟨a, S1, rfl, h⟩
  | err x S1 => cases h
  | bad => cases h
theorem noerr_inv {α : Type} {r : Res α} {a : α} {S : Store} (h : r.noerr = .ok a S) : r = .ok a S := by
  cases r with
  | ok a S1 => exact h
  | err x S1 => cases h
  | bad => cases h
theorem gather_ne {J : EV.It} {f : D → Store → Res (Option D)} (hf : ∀ d S x S', f d S ≠ .err x S') : ∀ (ds : List D) (S : Store) (x : Ex) (S' : Store), gather J f ds S ≠ .err x S'
  | [], S, x, S', h => by
    unfold gather chk at h
    split at h <;> cases h
  | d :: ds, S, x, S', h => by
    unfold gather chk at h
    split at h
    · exact bind_ne (fun x S' => hf d S x S') (fun o S1 => bind_ne (fun x S' => gather_ne hf ds S1 x S') (fun l S2 x S' z => by cases z)) x S' h
    · cases h
theorem ok_post {α : Type} {σ : L2.St} {W : WX} {m : List Addr} {H : Hp} {P : α → List Addr → Store → Hp → Prop} {r : Res α} {a : α} {S' : Store} (hr : r = .ok a S') (h : ∀ m1 H1, Grow m H m1 H1 → Rep G m1 S' H1 → P a m1 S' H1) : Post G W σ m H P r := by
  subst hr; exact h
/-- an object that the store does not hold is changed -/
theorem Grow.poke {m m1 : List Addr} {H H1 : Hp} {D : Addr} {o : HO} (g : Grow m H m1 H1) (hD : H D = none) : Grow m H m1 (upd H1 D o) :=
  ⟨g.ex, fun a u hn hu => by rw [upd_ne (ne_of_none hu hD)]; exact g.keep a u hn hu⟩
theorem SqT.poke {K : PySem.W.Frag} {H : Hp} {D : Addr} {xs : List V} {o : HO} (h : H D = some (.lst xs)) {a : Addr} {ys : List V} (q : SqT K H a ys) : SqT K (upd H D o) a ys := by
  rcases q with (q | ⟨u, q⟩) | q
  · exact .inl (.inl (by rw [upd_ne (ne_of q h (by intro z; cases z))]; exact q))
  · exact .inl (.inr ⟨u, by rw [upd_ne (ne_of q h (by intro z; cases z))]; exact q⟩)
  · exact .inr q
theorem Rep.poke {m : List Addr} {S : Store} {H : Hp} {D : Addr} {xs : List V} {o : HO} (R : Rep G m S H) (h : H D = some (.lst xs)) (hn : D ∉ m) : Rep G m S (upd H D o) :=
  ⟨R.len, R.nd, fun i a c h1 h2 => by
    have hne : a ≠ D := fun e => hn (e ▸ List.mem_of_getElem? h1)
    have q := R.cell i a c h1 h2
    cases c with
    | lst l =>
      obtain ⟨ys, q1, q2, q3⟩ := q
      exact ⟨ys, (upd_ne hne).trans q1, q2.mono (fun _ _ z => SqT.poke h z) fun _ _ z => z, q3⟩
    | fro l =>
      obtain ⟨u, ys, q1, q2, q3⟩ := q
      exact ⟨u, ys, (upd_ne hne).trans q1, q2.mono (fun _ _ z => SqT.poke h z) fun _ _ z => z, q3⟩
    | ins _ _ => exact q.elim⟩
theorem RV.poke {m : List Addr} {H : Hp} {D : Addr} {xs : List V} {o : HO} (h : H D = some (.lst xs)) {v : V} {d : EV.D} (r : RV G m H v d) : RV G m (upd H D o) v d := r.mono (fun _ _ z => SqT.poke h z) fun _ _ z => z
theorem RVs.poke {m : List Addr} {H : Hp} {D : Addr} {xs : List V} {o : HO} (h : H D = some (.lst xs)) {v : List V} {d : List EV.D} (r : RVs G m H v d) : RVs G m (upd H D o) v d := r.mono (fun _ _ z => SqT.poke h z) fun _ _ z => z
theorem SR.poke {m : List Addr} {S : Store} {σd : Env} {σ : L2.St} {H : Hp} {D : Addr} {xs : List V} {o : HO} (s : SR G m S σd σ H) (h : H D = some (.lst xs)) (hn : D ∉ m) : SR G m S σd σ (upd H D o) :=
  ⟨s.rep.poke h hn, s.len, fun i d e => let ⟨v, h1, h2⟩ := s.env i d e; ⟨v, h1, h2.poke h⟩, s.exc⟩
theorem Grow.notin {m m1 : List Addr} {H H1 : Hp} {D : Addr} {o : HO} (g : Grow m H m1 H1) (hn : D ∉ m) (hD : H D = some o) : D ∉ m1 ∧ H1 D = some o := by
  obtain ⟨m', rfl, h⟩ := g.ex
  refine ⟨fun z => ?_, g.keep D o hn hD⟩
  rcases List.mem_append.mp z with z | z
  · exact hn z
  · have := (h D z).2
    rw [hD] at this; cases this
/-- the reading of a comprehension -/
theorem lc_read {vs : List Nat} {ct : CT} {ci : CI} {cb : CB} {ce : CE} {σ : L2.St} {H : Hp} {m : List Addr} {S : Store} {σd : Env} {Q : VK} (s : SR G m S σd σ H) (h : Post G W σ m H (fun _ _ _ _ => True) (evC C (.mk vs ct ci cb ce) σd S))
    (fin : ∀ l S', evC C (.mk vs ct ci cb ce) σd S = .ok l S' → ∀ m1 H1 D xs, Grow m H m1 H1 → Rep G m1 S' H1 → D ∉ m1 → H D = none → H1 D = some (.lst xs) → RVs G m1 H1 xs l → xs.length ≤ sizeLine → Q (.ref D) H1) :
    tLc (tI G W C ci) (tT G WF C vs ct) (tB G WF C cb) (tE G WF C ce) vs σ H Q := by
  generalize hr : evC C (.mk vs ct ci cb ce) σd S = r at h
  have hr' := hr
  unfold evC at hr
  generalize hI : evI C ci σd S = ri at hr
  refine ⟨m, S, σd, s, ?_⟩
  rw [hI]
  cases ri with
  | bad => subst hr; exact h.elim
  | err x S1 => subst hr; exact h
  | ok J S1 =>
    have hr : okIf (J.items.length ≤ sizeLine) (gather J (eltF (fun d S => evT C ct d (wipeE σd vs) S) (fun σ' S => evB C cb σ' S) (fun σ' S => evE C ce σ' S)) J.items S1) = r := hr
    intro m1 H1 g1 R1 Jh wok
    -- the gathering ends
    by_cases hz : J.items.length ≤ sizeLine
    rotate_left
    · unfold okIf at hr
      rw [if_neg hz] at hr
      subst hr; exact h.elim
    rw [okIf_true hz] at hr
    obtain ⟨l, S', hok⟩ : ∃ l S', r = .ok l S' := by
      cases r with
      | ok l S' => exact ⟨l, S', rfl⟩
      | bad => exact h.elim
      | err x S' => exact absurd hr (gather_ne (fun d S x S' => noerr_ne _ x S') _ _ x S')
    subst hok
    intro D hD
    have hDm : H D = none := by
      cases e : H D with
      | none => rfl
      | some o =>
        by_cases hm : D ∈ m
        · obtain ⟨m', rfl, _⟩ := g1.ex
          obtain ⟨u, hu⟩ := R1.there (List.mem_append_left _ hm)
          rw [hD] at hu; cases hu
        · have := g1.keep D o hm e
          rw [hD] at this; cases this
    have hDn : D ∉ m1 := fun z => by obtain ⟨u, hu⟩ := R1.there z; rw [hD] at hu; cases hu
    let Pv : Nat → Hp → Prop := fun i H' => ∃ m' Si acc xs lr, Grow m1 H1 m' H' ∧ Grow m H m' H' ∧ SR G m' Si σd σ H' ∧ D ∉ m' ∧ H' D = some (.lst xs) ∧ RVs G m' H' xs acc ∧ xs.length ≤ i ∧ gather J (eltF (fun d S => evT C ct d (wipeE σd vs) S) (fun σ' S => evB C cb σ' S) (fun σ' S => evE C ce σ' S)) (J.items.drop i) Si = .ok lr S' ∧ l = acc ++ lr
    have s1 := s.grow g1 R1
    refine ⟨fun i n H' => n = J.items.length - i ∧ i ≤ J.items.length ∧ Pv i H', ⟨_, rfl, Nat.zero_le _, m1, S1, [], [], l, ?_, ?_, ?_, hDn, upd_same, by unfold RVs; trivial, Nat.le_refl _, hr, rfl⟩, ?_⟩
    · exact Grow.new hD
    · exact g1.trans (Grow.new hD)
    · exact s1.grow (Grow.new hD) (R1.new hD)
    rintro i n H' ⟨rfl, hi, m', Si, acc, xs, lr, gg, ggm, sr, hnD, hHD, rxs, hxl, hg, rfl⟩
    by_cases hlt : i < J.items.length
    · have hdrop : J.items.drop i = J.items[i] :: J.items.drop (i + 1) := by rw [List.drop_eq_getElem_cons hlt]
      rw [hdrop] at hg
      unfold gather at hg
      obtain ⟨still, hg⟩ := chk_inv hg
      obtain ⟨o, S2, he, hg⟩ := bind_inv hg
      unfold eltF at he
      have he := noerr_inv he
      obtain ⟨lr2, S3, hg2, hfin⟩ := bind_inv hg
      have hS3 : S3 = S' := by cases o <;> (cases hfin; rfl)
      subst hS3
      obtain ⟨go, _, yld⟩ := wok m' Si H' i gg sr.rep still
      refine .inr ⟨go hlt, Pv (i + 1), fun H2 p2 => ⟨J.items.length - (i + 1), by omega, rfl, hlt, p2⟩, fun x H2 y => ?_⟩
      obtain ⟨gy, Ry, d, hd, rx⟩ := yld x H2 hlt y
      have hd' : d = J.items[i] := by rw [List.getElem?_eq_getElem hlt] at hd; cases hd; rfl
      subst hd'
      obtain ⟨hnD2, hHD2⟩ := gy.notin hnD hHD
      have sy := (sr.grow gy Ry).wipe vs
      obtain ⟨σe, S4, hT, he⟩ := bind_inv he
      obtain ⟨bb, S5, hB, he⟩ := bind_inv he
      refine ⟨m', Si, wipeE σd vs, _, sy, rx, ok_post hT fun m4 H4 g4 R4 σ2 s2 hw => ⟨by rw [hw]; exact wipe_idem σ vs, m4, S4, σe, s2, ok_post hB fun m5 H5 g5 R5 => ?_⟩⟩
      have gall : Grow m' H' m5 H5 := gy.trans (g4.trans g5)
      obtain ⟨hnD5, hHD5⟩ := gall.notin hnD hHD
      have sr5 : SR G m5 S5 σd σ H5 := sr.grow gall R5
      have rxs5 := rxs.grow sr.rep gall
      cases bb with
      | false =>
        refine iteF ?_
        cases he
        cases hfin
        exact ⟨m5, S2, acc, xs, _, gg.trans gall, ggm.trans gall, sr5, hnD5, hHD5, rxs5, by omega, hg2, rfl⟩
      | true =>
        refine iteT ?_
        obtain ⟨e, S6, hE, he⟩ := bind_inv he
        cases he
        cases hfin
        refine ⟨m5, S5, σe, s2.grow g5 R5, ok_post hE fun m6 H6 g6 R6 v rv => ?_⟩
        have gall6 := gall.trans g6
        obtain ⟨hnD6, hHD6⟩ := gall6.notin hnD hHD
        have sr6 : SR G m6 S2 σd σ H6 := sr.grow gall6 R6
        have rxs6 := rxs.grow sr.rep gall6
        refine ⟨xs, hHD6, by omega, m6, S2, acc ++ [e], xs ++ [v], lr2, (gg.trans gall6).poke hD, (ggm.trans gall6).poke hDm, sr6.poke hHD6 hnD6, hnD6, upd_same, ?_, by rw [List.length_append]; exact Nat.succ_le_succ hxl, hg2, by simp⟩
        exact ((rxs6.append (RVs.one rv))).poke hHD6
    · have e : i = J.items.length := by omega
      subst e
      rw [List.drop_length] at hg
      unfold gather at hg
      obtain ⟨still, hg⟩ := chk_inv hg
      cases hg
      obtain ⟨_, stop, _⟩ := wok m' S' H' J.items.length gg sr.rep still
      refine .inl ⟨stop, fin (acc ++ []) S' hr' m' H' D xs ggm sr.rep hnD hDm hHD ?_ (by omega)⟩
      rw [List.append_nil]; exact rxs
end
end EV

/-! all expressions -/
namespace EV
open PySem L2 PyProof.Rows

theorem compEs_len {C : Ctx} {cc : Cc} {sc : Scope} : ∀ (n : Nat) (es : List Expr) (σd : Env) (S S' : Store) (l : List D), evEs C (compEs cc n sc es) σd S = .ok l S' → l.length = es.length
  | 0, es, σd, S, S', l, h => by unfold compEs evEs evE at h; cases h
  | n + 1, [], σd, S, S', l, h => by unfold compEs evEs at h; cases h; rfl
  | n + 1, e :: es, σd, S, S', l, h => by
    unfold compEs evEs at h
    obtain ⟨x, S1, _, h⟩ := bind_inv h
    obtain ⟨l', S2, h2, h⟩ := bind_inv h
    cases h
    rw [List.length_cons, List.length_cons, compEs_len n es σd S1 _ l' h2]
theorem compTs_len {C : Ctx} {cc : Cc} {ok : Str → Bool} {sc : Scope} : ∀ (n : Nat) (ts : List Expr) (ds : List D) (σd : Env) (S : Store), evTs C (compTs cc ok n sc ts) ds σd S ≠ .bad → ds.length = ts.length
  | 0, ts, ds, σd, S, h => by
    unfold compTs at h
    cases ds with
    | nil => unfold evTs at h; exact absurd rfl h
    | cons d ds => unfold evTs evT at h; exact absurd rfl h
  | n + 1, [], ds, σd, S, h => by
    unfold compTs at h
    cases ds with
    | nil => rfl
    | cons d ds => unfold evTs at h; exact absurd rfl h
  | n + 1, t :: ts, ds, σd, S, h => by
    unfold compTs at h
    cases ds with
    | nil => unfold evTs at h; exact absurd rfl h
    | cons d ds =>
      unfold evTs at h
      cases hr : evT C (compT cc ok n sc t) d σd S with
      | ok σ' S' =>
        rw [hr] at h
        rw [List.length_cons, List.length_cons, compTs_len n ts ds σ' S' h]
      | err x S' => exact absurd hr (evT_ne _ _ _ _ _ _)
      | bad => rw [hr] at h; exact absurd rfl h

section
variable {Γ : Gam} {G : GS} {X : Cx} {W : WX} {k : Nat}
/-- a comprehension's block is such a context again, that lets nothing out -/
theorem XOk.blk (O : XOk Γ G X W k false) {scope : Scope} {own : List (Str × Nat)} (ok : BlkOk X.N X.env.scope scope own) (s : Shared) (H : Hp) (Ca : Addr) (cl : List (Str × Addr)) (fp : List Addr) :
    XOk Γ G (X.blk s H scope (compEnvC scope cl Ca X.env) fp) WF k false where
  hK := O.hK
  nd := O.nd
  kind := ok.kind
  nm := O.nm
  gnm := O.gnm
  tk := takes0
  po := PassesOwn.never
  un := O.un
  calm := O.calm
  room := O.room
  gFn := O.gFn
  gGlob := O.gGlob
  gCls := O.gCls
  gBlt := O.gBlt
  fns := O.fns
  sub := O.sub
  exc := O.exc
  exi := fun b c f h => absurd h (O.xr0 rfl b c f)
  xr0 := O.xr0
  exm := fun x i h => let ⟨a, b, c⟩ := O.exm x i h; ⟨a, b, fun M h hk => c M h hk⟩
theorem ownOf_mem {N : List Str} : ∀ {l : List (Str × NameKind)} {x : Str} {i : Nat} {kk : NameKind}, lookL l x = some kk → (kk = .local ∨ kk = .cell) → slotOf N x = some i → (x, i) ∈ ownOf N l
  | [], _, _, _, h, _, _ => by simp [lookL] at h
  | (y, j) :: r, x, i, kk, h, hk, hs => by
    unfold lookL at h
    split at h
    · rename_i e
      have e := sEq_iff.mp e
      subst e
      cases h
      rcases hk with rfl | rfl <;> (unfold ownOf; rw [hs]; exact List.mem_cons_self)
    · have ih := ownOf_mem h hk hs
      cases j <;> (unfold ownOf) <;> first | exact ih | (split <;> first | exact List.mem_cons_of_mem _ ih | exact ih)
theorem okLoc_iff {sc : Scope} {x : Str} (h : okLoc sc x = true) : sc.names.lookup x = some .local ∨ sc.names.lookup x = some .cell := by
  unfold okLoc lookK at h
  rw [lookL_eq] at h
  cases e : sc.names.lookup x with
  | none => rw [e] at h; cases h
  | some kk => rw [e] at h; cases kk <;> first | (cases h; done) | exact .inl rfl | exact .inr rfl
/-- what the names of a block's targets must be -/
structure TOk (X : Cx) (ok : Str → Bool) (vs : List Nat) : Prop where
  loc : ∀ x, ok x = true → Loc X.env.scope x ∧ (X.fn x = true ∨ X.env.scope.names.lookup x = some .local)
  own : ∀ x i, ok x = true → slotOf X.N x = some i → i ∈ vs
theorem TOk.blk {scope : Scope} (s : Shared) (H : Hp) (Ca : Addr) (cl : List (Str × Addr)) (fp : List Addr) : TOk (X.blk s H scope (compEnvC scope cl Ca X.env) fp) (okLoc scope) ((ownOf X.N scope.names).map (·.2)) where
  loc := fun x h => by
    rcases okLoc_iff h with e | e
    · have e2 : (L2.relS scope X.env.scope).names.lookup x = some .local := lookup_relS_keep (by decide) e
      exact ⟨.inl e2, .inr e2⟩
    · have e2 : (L2.relS scope X.env.scope).names.lookup x = some .cell := lookup_relS_keep (by decide) e
      refine ⟨.inr e2, .inl ?_⟩
      show (scope.names.lookup x == some .cell) = true
      rw [e]; rfl
  own := fun x i h hs => by
    have e : ∃ kk, lookL scope.names x = some kk ∧ (kk = .local ∨ kk = .cell) := by
      rw [lookL_eq]
      rcases okLoc_iff h with e | e
      · exact ⟨_, e, .inl rfl⟩
      · exact ⟨_, e, .inr rfl⟩
    obtain ⟨kk, e1, e2⟩ := e
    exact List.mem_map.mpr ⟨(x, i), ownOf_mem e1 e2 hs, rfl⟩
end

/-- everything at one fuel -/
structure Snd (n : Nat) : Prop where
  e : ∀ {Γ : Gam} {G : GS} {X : Cx} {W : WX} {k : Nat} {hot : Bool}, XOk Γ G X W k hot → ∀ e : Expr, PE X e (tE G W (Γ.P.ctx k) (comp ⟨X.N, Γ.gn, hot⟩ n X.env.scope e))
  es : ∀ {Γ : Gam} {G : GS} {X : Cx} {W : WX} {k : Nat} {hot : Bool}, XOk Γ G X W k hot → ∀ es : List Expr, es.all notStar = true → PA X es (tEs G W (Γ.P.ctx k) (compEs ⟨X.N, Γ.gn, hot⟩ n X.env.scope es))
  o : ∀ {Γ : Gam} {G : GS} {X : Cx} {W : WX} {k : Nat} {hot : Bool}, XOk Γ G X W k hot → ∀ e : Option Expr, PO X e (tO G W (Γ.P.ctx k) (compO ⟨X.N, Γ.gn, hot⟩ n X.env.scope e))
  b : ∀ {Γ : Gam} {G : GS} {X : Cx} {W : WX} {k : Nat} {hot : Bool}, XOk Γ G X W k hot → ∀ e : Expr, PT X e (tB G W (Γ.P.ctx k) (compB ⟨X.N, Γ.gn, hot⟩ n X.env.scope e))
  ba : ∀ {Γ : Gam} {G : GS} {X : Cx} {W : WX} {k : Nat} {hot : Bool}, XOk Γ G X W k hot → ∀ (vs : List Expr) (pos : Pos), PW X (.BoolOp .And vs pos) (tB G W (Γ.P.ctx k) (compBA ⟨X.N, Γ.gn, hot⟩ n X.env.scope vs))
  bo : ∀ {Γ : Gam} {G : GS} {X : Cx} {W : WX} {k : Nat} {hot : Bool}, XOk Γ G X W k hot → ∀ (vs : List Expr) (pos : Pos), PW X (.BoolOp .Or vs pos) (tB G W (Γ.P.ctx k) (compBO ⟨X.N, Γ.gn, hot⟩ n X.env.scope vs))
  la : ∀ {Γ : Gam} {G : GS} {X : Cx} {W : WX} {k : Nat} {hot : Bool}, XOk Γ G X W k hot → ∀ (vs : List Expr) (pos : Pos), PE X (.BoolOp .And vs pos) (tE G W (Γ.P.ctx k) (compAnd ⟨X.N, Γ.gn, hot⟩ n X.env.scope vs))
  lo : ∀ {Γ : Gam} {G : GS} {X : Cx} {W : WX} {k : Nat} {hot : Bool}, XOk Γ G X W k hot → ∀ (vs : List Expr) (pos : Pos), PE X (.BoolOp .Or vs pos) (tE G W (Γ.P.ctx k) (compOr ⟨X.N, Γ.gn, hot⟩ n X.env.scope vs))
  i : ∀ {Γ : Gam} {G : GS} {X : Cx} {W : WX} {k : Nat} {hot : Bool}, XOk Γ G X W k hot → ∀ t it : Expr, PI X t it (tI G W (Γ.P.ctx k) (compI ⟨X.N, Γ.gn, hot⟩ n X.env.scope t it))
  t : ∀ {Γ : Gam} {G : GS} {X : Cx} {W : WX} {k : Nat} {hot : Bool} {ok : Str → Bool} {vs : List Nat}, XOk Γ G X W k hot → TOk X ok vs → ∀ t : Expr, PG X t (tT G W (Γ.P.ctx k) vs (compT ⟨X.N, Γ.gn, hot⟩ ok n X.env.scope t))
  ts : ∀ {Γ : Gam} {G : GS} {X : Cx} {W : WX} {k : Nat} {hot : Bool} {ok : Str → Bool} {vs : List Nat}, XOk Γ G X W k hot → TOk X ok vs → ∀ ts : List Expr, ts.all notStar = true → PGs X ts (tTs G W (Γ.P.ctx k) vs (compTs ⟨X.N, Γ.gn, hot⟩ ok n X.env.scope ts))
  c : ∀ {Γ : Gam} {G : GS} {X : Cx} {W : WX} {k : Nat}, XOk Γ G X W k false → ∀ (elt : Expr) (gs : List Comprehension) (scope : Scope) (vs : List Nat) (ct : CT) (ci : CI) (cb : CB) (ce : CE), compC ⟨X.N, Γ.gn, false⟩ n X.env.scope elt gs scope = some (.mk vs ct ci cb ce) →
    ∃ (own : List (Str × Nat)) (t it : Expr) (ifs : List Expr), gs = [⟨t, it, ifs, 0⟩] ∧ vs = own.map (·.2) ∧ BlkOk X.N X.env.scope scope own ∧ PI X t it (tI G W (Γ.P.ctx k) ci) ∧ (∀ env x, foldedSetIterable it env x = pure x ∨ ∀ σ H R, ¬ tI G W (Γ.P.ctx k) ci σ H R) ∧
      (∀ (s : Shared) (H : Hp) (C : Addr) (cl : List (Str × Addr)) (fp : List Addr), PG (X.blk s H scope (compEnvC scope cl C X.env) fp) t (tT G WF (Γ.P.ctx k) vs ct)) ∧
      (∀ (s : Shared) (H : Hp) (C : Addr) (cl : List (Str × Addr)) (fp : List Addr), PTs (X.blk s H scope (compEnvC scope cl C X.env) fp) ifs (tB G WF (Γ.P.ctx k) cb)) ∧
      (∀ (s : Shared) (H : Hp) (C : Addr) (cl : List (Str × Addr)) (fp : List Addr), PE (X.blk s H scope (compEnvC scope cl C X.env) fp) elt (tE G WF (Γ.P.ctx k) ce))
  call : ∀ {Γ : Gam} {G : GS} {X : Cx} {W : WX} {k : Nat} {hot : Bool}, XOk Γ G X W k hot → ∀ (f : Str) (p pos : Pos) (es : List Expr), es.all notStar = true → PE X (.Call (.Name f p) es [] pos) (tE G W (Γ.P.ctx k) (compCall ⟨X.N, Γ.gn, hot⟩ n X.env.scope f es))
  isi : ∀ {Γ : Gam} {G : GS} {X : Cx} {W : WX} {k : Nat} {hot : Bool}, XOk Γ G X W k hot → ∀ (p pos : Pos) (es : List Expr), es.all notStar = true → lookL Γ.gn "isinstance" = some .blt → isGl X.env.scope "isinstance" = true →
    PE X (.Call (.Name "isinstance" p) es [] pos) (tE G W (Γ.P.ctx k) (compIsi ⟨X.N, Γ.gn, hot⟩ n X.env.scope es))
  bi : ∀ {Γ : Gam} {G : GS} {X : Cx} {W : WX} {k : Nat} {hot : Bool}, XOk Γ G X W k hot → ∀ (f : Str) (p pos : Pos) (es : List Expr), es.all notStar = true → lookL Γ.gn f = some .blt → isGl X.env.scope f = true →
    PE X (.Call (.Name f p) es [] pos) (tE G W (Γ.P.ctx k) (compBi ⟨X.N, Γ.gn, hot⟩ n X.env.scope f es))
  meth : ∀ {Γ : Gam} {G : GS} {X : Cx} {W : WX} {k : Nat} {hot : Bool}, XOk Γ G X W k hot → ∀ (f : Str) (o : Expr) (apos pos : Pos) (es : List Expr), es.all notStar = true → notSup o = true → es.length < 20 → (apos.endLine == pos.line) = true →
    PE X (.Call (.Attribute o f apos) es [] pos) (tE G W (Γ.P.ctx k) (compMeth ⟨X.N, Γ.gn, hot⟩ n X.env.scope f o es))
  l : ∀ {Γ : Gam} {G : GS} {X : Cx} {W : WX} {k : Nat}, XOk Γ G X W k false → ∀ (elt : Expr) (gs : List Comprehension) (scope : Scope) (pos : Pos), PE X (.ListComp elt gs scope pos) (tE G W (Γ.P.ctx k) (compL ⟨X.N, Γ.gn, false⟩ n X.env.scope elt gs scope))

theorem PW.no' {X : Cx} {e : Expr} {t : TT} (k : ∀ σ H Q, ¬ t σ H Q) : PW X e t := ⟨fun w pins s σ H Q I q => (k σ H Q q).elim⟩
theorem snd0 : Snd 0 where
  e O e := .no fun _ _ _ => tE_bad
  es O es _ := .no fun _ _ _ => tEs_bad
  o O e := .no fun _ _ _ => tO_bad
  b O e := .no fun _ _ _ => tB_bad
  ba O vs pos := PW.no' fun _ _ _ => tB_bad
  bo O vs pos := PW.no' fun _ _ _ => tB_bad
  la O vs pos := .no fun _ _ _ => tE_bad
  lo O vs pos := .no fun _ _ _ => tE_bad
  i O t it := .no fun _ _ _ => tI_bad
  t O _ t := .no fun _ _ _ _ => tT_bad
  ts O _ ts _ := .no fun _ _ _ _ => tTs_bad
  c O elt gs scope vs ct ci cb ce h := by unfold compC at h; cases h
  call O f p pos es _ := .no fun _ _ _ => tE_bad
  isi O p pos es _ _ _ := .no fun _ _ _ => tE_bad
  bi O f p pos es _ _ _ := .no fun _ _ _ => tE_bad
  meth O f o apos pos es _ _ _ _ := .no fun _ _ _ => tE_bad
  l O elt gs scope pos := .no fun _ _ _ => tE_bad

section
variable {n : Nat} (ih : Snd n) {Γ : Gam} {G : GS} {X : Cx} {W : WX} {k : Nat} {hot : Bool}
include ih
theorem snd_es (O : XOk Γ G X W k hot) (es : List Expr) (hs : es.all notStar = true) : PA X es (tEs G W (Γ.P.ctx k) (compEs ⟨X.N, Γ.gn, hot⟩ (n + 1) X.env.scope es)) := by
  cases es with
  | nil => unfold compEs; exact s_nil
  | cons e es =>
    rw [List.all_cons, Bool.and_eq_true] at hs
    unfold compEs
    exact s_cons hs.1 (ih.e O e) (ih.es O es hs.2)
theorem snd_o (O : XOk Γ G X W k hot) (e : Option Expr) : PO X e (tO G W (Γ.P.ctx k) (compO ⟨X.N, Γ.gn, hot⟩ (n + 1) X.env.scope e)) := by
  cases e with
  | none => unfold compO; exact s_po0
  | some e => unfold compO; exact s_po1 (ih.e O e)
theorem snd_la (O : XOk Γ G X W k hot) (vs : List Expr) (pos : Pos) : PE X (.BoolOp .And vs pos) (tE G W (Γ.P.ctx k) (compAnd ⟨X.N, Γ.gn, hot⟩ (n + 1) X.env.scope vs)) := by
  match vs with
  | [] => unfold compAnd; exact .no fun _ _ _ => tE_bad
  | [e] => unfold compAnd; exact s_and1 (ih.e O e)
  | e :: e2 :: r => unfold compAnd; exact s_and (ih.e O e) (ih.la O (e2 :: r) pos)
theorem snd_lo (O : XOk Γ G X W k hot) (vs : List Expr) (pos : Pos) : PE X (.BoolOp .Or vs pos) (tE G W (Γ.P.ctx k) (compOr ⟨X.N, Γ.gn, hot⟩ (n + 1) X.env.scope vs)) := by
  match vs with
  | [] => unfold compOr; exact .no fun _ _ _ => tE_bad
  | [e] => unfold compOr; exact s_or1 (ih.e O e)
  | e :: e2 :: r => unfold compOr; exact s_or (ih.e O e) (ih.lo O (e2 :: r) pos)
theorem snd_ba (O : XOk Γ G X W k hot) (vs : List Expr) (pos : Pos) : PW X (.BoolOp .And vs pos) (tB G W (Γ.P.ctx k) (compBA ⟨X.N, Γ.gn, hot⟩ (n + 1) X.env.scope vs)) := by
  match vs with
  | [] => unfold compBA; exact PW.no' fun _ _ _ => tB_bad
  | [e] => unfold compBA; exact s_band1 (ih.b O e)
  | e :: e2 :: r => unfold compBA; exact s_band (ih.b O e) (ih.ba O (e2 :: r) pos)
theorem snd_bo (O : XOk Γ G X W k hot) (vs : List Expr) (pos : Pos) : PW X (.BoolOp .Or vs pos) (tB G W (Γ.P.ctx k) (compBO ⟨X.N, Γ.gn, hot⟩ (n + 1) X.env.scope vs)) := by
  match vs with
  | [] => unfold compBO; exact PW.no' fun _ _ _ => tB_bad
  | [e] => unfold compBO; exact s_bor1 (ih.b O e)
  | e :: e2 :: r => unfold compBO; exact s_bor (ih.b O e) (ih.bo O (e2 :: r) pos)
theorem snd_b (O : XOk Γ G X W k hot) (e : Expr) : PT X e (tB G W (Γ.P.ctx k) (compB ⟨X.N, Γ.gn, hot⟩ (n + 1) X.env.scope e)) := by
  unfold compB
  split
  · exact s_bnot (ih.b O _)
  · exact (ih.ba O _ _).pt
  · exact (ih.bo O _ _).pt
  · exact .no fun _ _ _ => tB_bad
  · split
    · rename_i h; exact s_valcmp O.hK O.un h (ih.e O _) (ih.e O _)
    · exact .no fun _ _ _ => tB_bad
  · split
    · rename_i h
      rw [Bool.and_eq_true] at h
      exact s_valcmp2 O.hK O.un h.1 h.2 (ih.e O _) (ih.e O _) (ih.e O _)
    · exact .no fun _ _ _ => tB_bad
  · split
    · rename_i h; exact s_val O.hK h (ih.e O _)
    · exact .no fun _ _ _ => tB_bad
theorem snd_t {ok : Str → Bool} {vs : List Nat} (O : XOk Γ G X W k hot) (T : TOk X ok vs) (t : Expr) : PG X t (tT G W (Γ.P.ctx k) vs (compT ⟨X.N, Γ.gn, hot⟩ ok (n + 1) X.env.scope t)) := by
  unfold compT
  split
  · split
    · rename_i h
      split
      · rename_i i hs
        obtain ⟨h1, h2⟩ := T.loc _ h
        exact s_tslot (T.own _ _ h hs) O hs h1 h2
      · exact .no fun _ _ _ _ => tT_bad
    · exact .no fun _ _ _ _ => tT_bad
  · split
    · rename_i h
      rw [Bool.and_eq_true] at h
      have hh : hot = false := by simpa using h.2
      exact s_ttup O.hK (O.calm hh) h.1 (ih.ts O T _ h.1) fun ds σd S hb => compTs_len _ _ _ _ _ hb
    · exact .no fun _ _ _ _ => tT_bad
  · split
    · rename_i h; exact s_tix O.hK h (ih.e O _) (ih.e O _)
    · exact .no fun _ _ _ _ => tT_bad
  · exact .no fun _ _ _ _ => tT_bad
theorem snd_ts {ok : Str → Bool} {vs : List Nat} (O : XOk Γ G X W k hot) (T : TOk X ok vs) (ts : List Expr) (hs : ts.all notStar = true) : PGs X ts (tTs G W (Γ.P.ctx k) vs (compTs ⟨X.N, Γ.gn, hot⟩ ok (n + 1) X.env.scope ts)) := by
  cases ts with
  | nil => unfold compTs; exact s_tnil
  | cons t ts =>
    rw [List.all_cons, Bool.and_eq_true] at hs
    unfold compTs
    exact s_tcons hs.1 (ih.t O T t) (ih.ts O T ts hs.2)
theorem snd_i (O : XOk Γ G X W k hot) (t it : Expr) : PI X t it (tI G W (Γ.P.ctx k) (compI ⟨X.N, Γ.gn, hot⟩ (n + 1) X.env.scope t it)) := by
  unfold compI
  split
  · exact .no fun _ _ _ => tI_bad
  · rename_i f p es pos
    split
    · rename_i h
      rw [Bool.and_eq_true] at h
      split
      · rename_i hg
        split
        · rename_i hf
          have hf := sEq_iff.mp hf
          subst hf
          split
          · have h2 := h.2
            simp only [List.all_cons, List.all_nil, Bool.and_true] at h2
            exact s_range1 O hg h.1 h2 (ih.e O _)
          · have h2 := h.2
            simp only [List.all_cons, List.all_nil, Bool.and_true, Bool.and_eq_true] at h2
            exact s_range2 O hg h.1 h2.1 h2.2 (ih.e O _) (ih.e O _)
          · have h2 := h.2
            simp only [List.all_cons, List.all_nil, Bool.and_true, Bool.and_eq_true] at h2
            exact s_range3 O hg h.1 h2.1 h2.2.1 h2.2.2 (ih.e O _) (ih.e O _) (ih.e O _)
          · exact .no fun _ _ _ => tI_bad
        · split
          · rename_i hf
            have hf := sEq_iff.mp hf
            subst hf
            split
            · have h2 := h.2
              simp only [List.all_cons, List.all_nil, Bool.and_true] at h2
              exact s_enum O hg h.1 h2 (ih.e O _)
            · exact .no fun _ _ _ => tI_bad
          · exact s_seq O.hK (ih.e O _)
      · exact s_seq O.hK (ih.e O _)
    · exact s_seq O.hK (ih.e O _)
  · exact s_seq O.hK (ih.e O _)
theorem compI_fold (cc : Cc) (sc : Scope) (t it : Expr) : notSet it = true ∨ compI cc (n + 1) sc t it = .bad := by
  cases it <;> first | exact .inl rfl | exact .inr rfl
theorem s_isiAt (O : XOk Γ G X W k hot) {p p2 pos : Pos} {t : Str} {cl : Cl} {a : Expr} (hg : lookL Γ.gn "isinstance" = some .blt) (hv : isGl X.env.scope "isinstance" = true) (hvt : isGl X.env.scope t = true)
    (ht : (∃ i, lookL Γ.gn t = some (.cls i) ∧ cl = .own i) ∨ (∃ n, lookL Γ.gn t = some .blt ∧ lookL tyNames t = some n ∧ cl = .ty n)) (hs : notStar a = true) :
    PE X (.Call (.Name "isinstance" p) [a, .Name t p2] [] pos) (tE G W (Γ.P.ctx k) (isiAt ⟨X.N, Γ.gn, hot⟩ X.env.scope a (comp ⟨X.N, Γ.gn, hot⟩ n X.env.scope a) cl)) := by
  unfold isiAt
  split
  · split
    · rename_i hvx
      split
      · rename_i i hN; exact s_isiS rfl O hg hv hvt ht hN hvx
      · exact .no fun _ _ _ => tE_bad
    · exact s_isi rfl O hg hv hvt ht hs (ih.e O _)
  · exact s_isi rfl O hg hv hvt ht hs (ih.e O _)
theorem snd_isi (O : XOk Γ G X W k hot) (p pos : Pos) (es : List Expr) (hs : es.all notStar = true) (hg : lookL Γ.gn "isinstance" = some .blt) (hv : isGl X.env.scope "isinstance" = true) :
    PE X (.Call (.Name "isinstance" p) es [] pos) (tE G W (Γ.P.ctx k) (compIsi ⟨X.N, Γ.gn, hot⟩ (n + 1) X.env.scope es)) := by
  unfold compIsi
  split
  · rename_i a t p2
    simp only [List.all_cons, List.all_nil, Bool.and_true, Bool.and_eq_true] at hs
    split
    · rename_i hvt
      split
      · rename_i i hg2; exact s_isiAt ih O hg hv hvt (.inl ⟨i, hg2, rfl⟩) hs.1
      · rename_i hg2
        split
        · rename_i nn hn; exact s_isiAt ih O hg hv hvt (.inr ⟨nn, hg2, hn, rfl⟩) hs.1
        · exact .no fun _ _ _ => tE_bad
      · exact .no fun _ _ _ => tE_bad
    · exact .no fun _ _ _ => tE_bad
  · exact .no fun _ _ _ => tE_bad
theorem snd_meth (O : XOk Γ G X W k hot) (f : Str) (o : Expr) (apos pos : Pos) (es : List Expr) (hs : es.all notStar = true) (hb : notSup o = true) (hn : es.length < 20) (hl : (apos.endLine == pos.line) = true) :
    PE X (.Call (.Attribute o f apos) es [] pos) (tE G W (Γ.P.ctx k) (compMeth ⟨X.N, Γ.gn, hot⟩ (n + 1) X.env.scope f o es)) := by
  unfold compMeth
  split
  · split
    · rename_i h
      rw [Bool.and_eq_true] at h
      have hf := sEq_iff.mp h.1
      subst hf
      cases es with
      | nil => simp at h
      | cons a es =>
        have hs2 := hs
        rw [List.all_cons, Bool.and_eq_true] at hs2
        exact s_append O hb hl hn hs2.1 hs2.2 (ih.e O _) (ih.es O _ hs)
    · exact .no fun _ _ _ => tE_bad
  · split
    · rename_i h
      rw [Bool.and_eq_true] at h
      have hf := sEq_iff.mp h.1
      subst hf
      cases es with
      | nil => simp at h
      | cons a es =>
        have hs2 := hs
        rw [List.all_cons, Bool.and_eq_true] at hs2
        exact s_extend O hb hl hn hs2.1 hs2.2 (ih.e O _) (ih.es O _ hs)
    · exact .no fun _ _ _ => tE_bad
  · split
    · rename_i h
      rw [Bool.and_eq_true] at h
      have hf := sEq_iff.mp h.1
      subst hf
      cases es with
      | nil => exact s_pop O hb hl (ih.e O _)
      | cons a es => simp at h
    · exact .no fun _ _ _ => tE_bad
  · exact .no fun _ _ _ => tE_bad
theorem snd_call (O : XOk Γ G X W k hot) (f : Str) (p pos : Pos) (es : List Expr) (hs : es.all notStar = true) : PE X (.Call (.Name f p) es [] pos) (tE G W (Γ.P.ctx k) (compCall ⟨X.N, Γ.gn, hot⟩ (n + 1) X.env.scope f es)) := by
  unfold compCall
  split
  · rename_i hv
    split
    · rename_i i e r hN
      split
      · exact .no fun _ _ _ => tE_bad
      · rename_i hh
        have hh : hot = false := by simpa using hh
        subst hh
        have hs2 := hs
        rw [List.all_cons, Bool.and_eq_true] at hs2
        exact s_callv O hN hv hs2.1 hs2.2 (ih.es O _ hs)
    · exact .no fun _ _ _ => tE_bad
  · split
    · rename_i hv
      split
      · rename_i i hg
        split
        · exact .no fun _ _ _ => tE_bad
        · rename_i hh
          have hh : hot = false := by simpa using hh
          subst hh
          cases es with
          | nil =>
            cases n with
            | zero => exact ⟨fun pins s σ H Q I ⟨_, _, _, _, h⟩ => (show False from h).elim⟩
            | succ n => unfold compEs; exact s_call0 O hg hv
          | cons a es =>
            have hs2 := hs
            rw [List.all_cons, Bool.and_eq_true] at hs2
            exact s_call O hg hv hs2.1 hs2.2 (ih.es O _ hs)
      · rename_i hg
        split
        · rename_i hf
          have hf := sEq_iff.mp hf
          subst hf
          exact ih.isi O p pos es hs hg hv
        · exact ih.bi O f p pos es hs hg hv
      · exact .no fun _ _ _ => tE_bad
    · exact .no fun _ _ _ => tE_bad
theorem snd_c (O : XOk Γ G X W k false) (elt : Expr) (gs : List Comprehension) (scope : Scope) (vs : List Nat) (ct : CT) (ci : CI) (cb : CB) (ce : CE) (h : compC ⟨X.N, Γ.gn, false⟩ (n + 1) X.env.scope elt gs scope = some (.mk vs ct ci cb ce)) :
    ∃ (own : List (Str × Nat)) (t it : Expr) (ifs : List Expr), gs = [⟨t, it, ifs, 0⟩] ∧ vs = own.map (·.2) ∧ BlkOk X.N X.env.scope scope own ∧ PI X t it (tI G W (Γ.P.ctx k) ci) ∧ (∀ env x, foldedSetIterable it env x = pure x ∨ ∀ σ H R, ¬ tI G W (Γ.P.ctx k) ci σ H R) ∧
      (∀ (s : Shared) (H : Hp) (C : Addr) (cl : List (Str × Addr)) (fp : List Addr), PG (X.blk s H scope (compEnvC scope cl C X.env) fp) t (tT G WF (Γ.P.ctx k) vs ct)) ∧
      (∀ (s : Shared) (H : Hp) (C : Addr) (cl : List (Str × Addr)) (fp : List Addr), PTs (X.blk s H scope (compEnvC scope cl C X.env) fp) ifs (tB G WF (Γ.P.ctx k) cb)) ∧
      (∀ (s : Shared) (H : Hp) (C : Addr) (cl : List (Str × Addr)) (fp : List Addr), PE (X.blk s H scope (compEnvC scope cl C X.env) fp) elt (tE G WF (Γ.P.ctx k) ce)) := by
  unfold compC at h
  split at h
  · rename_i t it ifs
    split at h
    · rename_i hb
      have ok := blkOk_by hb
      have fold : ∀ env x, foldedSetIterable it env x = pure x ∨ ∀ σ H R, ¬ tI G W (Γ.P.ctx k) (compI ⟨X.N, Γ.gn, false⟩ n X.env.scope t it) σ H R := fun env x => by
        by_cases hn : notSet it = true
        · exact .inl (fold_set hn env x)
        · right
          have : compI ⟨X.N, Γ.gn, false⟩ n X.env.scope t it = .bad := by
            cases n with
            | zero => rfl
            | succ n =>
              cases it <;> first | rfl | exact absurd rfl hn
          rw [this]
          exact fun _ _ _ => tI_bad
      split at h
      · cases h
        exact ⟨_, t, it, [], rfl, rfl, ok, ih.i O t it, fold, fun s H C cl fp => ih.t (O.blk ok s H C cl fp) (TOk.blk s H C cl fp) t, fun s H C cl fp => s_yes, fun s H C cl fp => ih.e (O.blk ok s H C cl fp) elt⟩
      · rename_i c
        cases h
        exact ⟨_, t, it, [c], rfl, rfl, ok, ih.i O t it, fold, fun s H C cl fp => ih.t (O.blk ok s H C cl fp) (TOk.blk s H C cl fp) t, fun s H C cl fp => pts_one (ih.b (O.blk ok s H C cl fp) c), fun s H C cl fp => ih.e (O.blk ok s H C cl fp) elt⟩
      · cases h
    · cases h
  · cases h
omit ih in
theorem Post.base {α : Type} {σ : L2.St} {W : WX} {m m1 : List Addr} {H H1 : Hp} {P : α → List Addr → Store → Hp → Prop} {r : Res α} (g : Grow m H m1 H1) (h : Post G W σ m H P r) : Post G W σ m1 H1 P r := by
  cases r with
  | ok a S' => exact fun m2 H2 g2 R2 => h m2 H2 (g.trans g2) R2
  | err x S' => exact fun m2 H2 c d g2 R2 rx => h m2 H2 c d (g.trans g2) R2 rx
  | bad => exact h
omit ih in
theorem tI_of {α : Type} {C : Ctx} {vs : List Nat} {ct : CT} {ci : CI} {cb : CB} {ce : CE} {σ : L2.St} {H : Hp} {m : List Addr} {S : Store} {σd : Env} {f : List D → Store → Res α} {P : α → List Addr → Store → Hp → Prop} (s : SR G m S σd σ H)
    (h : Post G W σ m H P ((evC C (.mk vs ct ci cb ce) σd S).bind f)) : tI G W C ci σ H (fun _ _ => True) := by
  have h := h.bind
  unfold evC at h
  exact ⟨m, S, σd, s, h.bind.mono fun _ _ _ _ _ _ _ _ _ => trivial⟩
omit ih in
/-- [..], as a part of something -/
theorem s_lcT (O : XOk Γ G X W k false) {C : Ctx} {elt t it : Expr} {ifs : List Expr} {scope : Scope} {own : List (Str × Nat)} {pos : Pos} {ct : CT} {ci : CI} {cb : CB} {ce : CE} (ok : BlkOk X.N X.env.scope scope own) (hi : PI X t it (tI G W C ci))
    (fold : ∀ env x, foldedSetIterable it env x = pure x ∨ ∀ σ H R, ¬ tI G W C ci σ H R)
    (hg : ∀ (s : Shared) (H : Hp) (Ca : Addr) (cl : List (Str × Addr)) (fp : List Addr), PG (X.blk s H scope (compEnvC scope cl Ca X.env) fp) t (tT G WF C (own.map (·.2)) ct))
    (ht : ∀ (s : Shared) (H : Hp) (Ca : Addr) (cl : List (Str × Addr)) (fp : List Addr), PTs (X.blk s H scope (compEnvC scope cl Ca X.env) fp) ifs (tB G WF C cb))
    (he : ∀ (s : Shared) (H : Hp) (Ca : Addr) (cl : List (Str × Addr)) (fp : List Addr), PE (X.blk s H scope (compEnvC scope cl Ca X.env) fp) elt (tE G WF C ce)) :
    PE X (.ListComp elt [⟨t, it, ifs, 0⟩] scope pos) (fun σ H Q => tI G W C ci σ H (fun _ _ => True) ∧ tLc (tI G W C ci) (tT G WF C (own.map (·.2)) ct) (tB G WF C cb) (tE G WF C ce) (own.map (·.2)) σ H Q) := by
  by_cases hf : ∀ x, foldedSetIterable it X.env x = pure x
  · exact (pe_lc (O.calm rfl) O.nd hi ok hg ht he hf).wk fun σ H Q h => h.2
  · refine .no fun σ H Q h => ?_
    have : ∃ x, ¬ foldedSetIterable it X.env x = pure x := Classical.not_forall.mp hf
    obtain ⟨x, hx⟩ := this
    rcases fold X.env x with z | z
    · exact hx z
    · exact z _ _ _ h.1
omit ih in
theorem Post.triv {α : Type} {σ : L2.St} {W : WX} {m : List Addr} {H : Hp} {P : α → List Addr → Store → Hp → Prop} {r : Res α} (h : Post G W σ m H P r) : Post G W σ m H (fun _ _ _ _ => True) r := h.mono fun _ _ _ _ _ _ _ => trivial
omit ih in
theorem Grow.found {m m1 : List Addr} {H H1 : Hp} {D : Addr} (g : Grow m H m1 H1) (hn : D ∉ m1) (hD : H D = none) : Grow m H (m1 ++ [D]) H1 := by
  obtain ⟨m', rfl, h1⟩ := g.ex
  refine ⟨⟨m' ++ [D], by simp, fun a ha => ?_⟩, g.keep⟩
  rcases List.mem_append.mp ha with z | z
  · exact h1 a z
  · rw [List.mem_singleton] at z
    subst z
    exact ⟨fun z => hn (List.mem_append_left _ z), hD⟩
omit ih in
theorem Rep.found {m1 : List Addr} {S' : Store} {H1 : Hp} {D : Addr} {xs : List V} {l : List EV.D} (R : Rep G m1 S' H1) (hn : D ∉ m1) (hxs : H1 D = some (.lst xs)) (rx : RVs G m1 H1 xs l) (hz : xs.length ≤ sizeLine) : Rep G (m1 ++ [D]) (S' ++ [.lst l]) H1 := by
  refine ⟨?_, ?_, ?_⟩
  · simp [R.len]
  · exact List.nodup_append.mpr ⟨R.nd, by simp, fun a ha b hb => by rw [List.mem_singleton] at hb; subst hb; rintro rfl; exact hn ha⟩
  · intro i a c h1 h2
    have hm : ∀ {v : List V} {d : List EV.D}, RVs G m1 H1 v d → RVs G (m1 ++ [D]) H1 v d := fun r => r.mono (fun _ _ z => z) fun i a z => by
      rw [List.getElem?_append_left (List.getElem?_eq_some_iff.mp z).1]; exact z
    by_cases hi : i < m1.length
    · rw [List.getElem?_append_left hi] at h1
      rw [List.getElem?_append_left (by rw [← R.len]; exact hi)] at h2
      have q := R.cell i a c h1 h2
      cases c with
      | lst l => obtain ⟨ys, q1, q2, q3⟩ := q; exact ⟨ys, q1, hm q2, q3⟩
      | fro l => obtain ⟨o, ys, q1, q2, q3⟩ := q; exact ⟨o, ys, q1, hm q2, q3⟩
      | ins _ _ => exact q.elim
    · have e : i = m1.length := by
        have := (List.getElem?_eq_some_iff.mp h1).1
        simp at this; omega
      subst e
      rw [List.getElem?_append_right (Nat.le_refl _)] at h1
      rw [List.getElem?_append_right (by rw [R.len]; exact Nat.le_refl _)] at h2
      simp at h1
      rw [R.len] at h2
      simp at h2
      subst h1 h2
      exact ⟨xs, hxs, hm rx, hz⟩
theorem snd_l (O : XOk Γ G X W k false) (elt : Expr) (gs : List Comprehension) (scope : Scope) (pos : Pos) : PE X (.ListComp elt gs scope pos) (tE G W (Γ.P.ctx k) (compL ⟨X.N, Γ.gn, false⟩ (n + 1) X.env.scope elt gs scope)) := by
  unfold compL
  split
  · rename_i c hc
    cases c with
    | mk vs ct ci cb ce =>
      obtain ⟨own, t, it, ifs, rfl, rfl, ok, hi, fold, hg, ht, he⟩ := ih.c O elt gs scope vs ct ci cb ce hc
      refine (s_lcT O ok hi fold hg ht he).wk fun σ H Q ⟨m, S, σd, s, h⟩ => ?_
      unfold evE at h
      refine ⟨tI_of s h, lc_read s h.bind.triv fun l S' hr m1 H1 D xs g R hn hD hxs rx hz => ?_⟩
      rw [hr] at h
      exact h (m1 ++ [D]) H1 (g.found hn hD) (R.found hn hxs rx hz) _ (RV.mkRef (R.allocAt D))
  · exact .no fun _ _ _ => tE_bad
theorem snd_bi (O : XOk Γ G X W k hot) (f : Str) (p pos : Pos) (es : List Expr) (hs : es.all notStar = true) (hg : lookL Γ.gn f = some .blt) (hv : isGl X.env.scope f = true) :
    PE X (.Call (.Name f p) es [] pos) (tE G W (Γ.P.ctx k) (compBi ⟨X.N, Γ.gn, hot⟩ (n + 1) X.env.scope f es)) := by
  unfold compBi
  split
  · exact .no fun _ _ _ => tE_bad
  rename_i hh
  have hh : hot = false := by simpa using hh
  subst hh
  split
  · exact .no fun _ _ _ => tE_bad
  rename_i b _
  split
  rotate_left
  · exact .no fun _ _ _ => tE_bad
  rename_i hf
  have hf := sEq_iff.mp hf
  subst hf
  split
  · rename_i elt gs scope pos2
    split
    · rename_i c hc
      cases c with
      | mk vs ct ci cb ce =>
        obtain ⟨own, t, it, ifs, rfl, rfl, ok, hi, fold, hg2, ht, he⟩ := ih.c O elt gs scope vs ct ci cb ce hc
        obtain ⟨r, B⟩ := bi_ok (X := X) O.hK (O.calm rfl) b
        refine (bi_go O B.ok hg hv rfl (by rfl) (pa_cons (s_lcT O ok hi fold hg2 ht he) pa_nil (star_cons rfl _ _))).wk fun σ H Q ⟨m, S, σd, s, h⟩ => ?_
        unfold evE at h
        refine ⟨tI_of s h, lc_read s h.bind.triv fun l S' hr m1 H1 D xs g R hn hD hxs rx hz => ?_⟩
        rw [hr] at h
        exact B.lst _ _ _ _ _ _ _ _ _ R (.inl (.inl hxs)) rx hz (Post.base g h)
    · exact .no fun _ _ _ => tE_bad
  · exact .no fun _ _ _ => tE_bad
  · rename_i es2 _ hne
    rename_i x2 x1
    match es, hs, hne with
    | [], _, hne => exact (hne rfl).elim
    | a :: es, hs, _ =>
      have hs2 := hs
      rw [List.all_cons, Bool.and_eq_true] at hs2
      exact s_bi O (O.calm rfl) hg hv hs2.1 hs2.2 (ih.es O _ hs)
theorem snd_e (O : XOk Γ G X W k hot) (e : Expr) : PE X e (tE G W (Γ.P.ctx k) (comp ⟨X.N, Γ.gn, hot⟩ (n + 1) X.env.scope e)) := by
  unfold comp
  split
  · exact s_name O hot
  · exact s_int
  · exact s_bl
  · exact s_non
  · exact s_str
  · split
    · rename_i h
      rw [Bool.and_eq_true, decide_eq_true_eq] at h
      exact s_tup (n := 0) (fun σd S S' l hr => by rw [compEs_len _ _ _ _ _ _ hr]; exact h.2) (ih.es O _ h.1)
    · exact .no fun _ _ _ => tE_bad
  · split
    · rename_i h
      rw [Bool.and_eq_true, decide_eq_true_eq] at h
      exact s_lst (fun σd S S' l hr => by rw [compEs_len _ _ _ _ _ _ hr]; exact h.2) (ih.es O _ h.1)
    · exact .no fun _ _ _ => tE_bad
  · exact s_bin O.hK (ih.e O _) (ih.e O _)
  · exact s_neg (ih.e O _)
  · exact s_not (ih.e O _)
  · exact ih.la O _ _
  · exact ih.lo O _ _
  · split
    · rename_i h; exact s_cmp O.hK O.un h (ih.e O _) (ih.e O _)
    · exact .no fun _ _ _ => tE_bad
  · split
    · rename_i h
      rw [Bool.and_eq_true] at h
      exact s_cmp2 O.hK O.un h.1 h.2 (ih.e O _) (ih.e O _) (ih.e O _)
    · exact .no fun _ _ _ => tE_bad
  · exact s_ite (ih.b O _) (ih.e O _) (ih.e O _)
  · split
    · rename_i h; exact ih.call O _ _ _ _ h
    · exact .no fun _ _ _ => tE_bad
  · split
    · rename_i h
      simp only [Bool.and_eq_true, decide_eq_true_eq] at h
      exact ih.meth O _ _ _ _ _ h.1.1.1 h.1.1.2 h.1.2 h.2
    · exact .no fun _ _ _ => tE_bad
  · exact s_sl O.hK (ih.e O _) (ih.o O _) (ih.o O _)
  · exact s_rev O.hK (ih.e O _)
  · split
    · rename_i h; exact s_ix O.hK h (ih.e O _) (ih.e O _)
    · exact .no fun _ _ _ => tE_bad
  · split
    · exact .no fun _ _ _ => tE_bad
    · rename_i hh
      have hh : hot = false := by simpa using hh
      subst hh
      exact ih.l O _ _ _ _
  · exact .no fun _ _ _ => tE_bad
end
theorem snd : ∀ n, Snd n
  | 0 => snd0
  | n + 1 =>
    have ih := snd n
    { e := snd_e ih, es := snd_es ih, o := snd_o ih, b := snd_b ih, ba := snd_ba ih, bo := snd_bo ih, la := snd_la ih, lo := snd_lo ih, i := snd_i ih, t := snd_t ih, ts := snd_ts ih, c := snd_c ih, call := snd_call ih, isi := snd_isi ih, bi := snd_bi ih, meth := snd_meth ih, l := snd_l ih }
end EV

/-! statements -/
namespace EV
open PySem L2 PyProof.Rows

/-! ### several except clauses, each with or without a name -/
abbrev HC := Value × Option Nat × (Addr → Value → Option Addr → TS)
/-- the ends of a suite whose clause names the slot i -/
abbrev endsAt (i : Nat) (D : Ends) : Ends := { nx := fun σ H => D.nx (σ.set i none) H, rt := D.rt, bk := fun σ H => D.bk (σ.set i none) H, ct := fun σ H => D.ct (σ.set i none) H }
def runH (so : Option Nat) (ts : TS) (a : Addr) (D : Ends) (σ : L2.St) (H : Hp) : Prop := match so with
  | none => ts D σ H
  | some i => ts (endsAt i D) (σ.set i (some (.ref a))) H
def wHs (K : PySem.W.Frag) (Wo : WX) (D : Ends) : List HC → WX
  | [] => Wo
  | (c, so, ts) :: r => fun cls dd σ H => ∃ b, PySem.W.exmOne K cls c = some b ∧ (b = true → ∀ a, H a = none → runH so (ts a cls dd) a D σ H) ∧ (b = false → wHs K Wo D r cls dd σ H)
def SuOk (X : Cx) (st : List Stmt) (ts : Addr → Value → Option Addr → TS) : Prop :=
  ∀ (a : Addr) (ob : Obj) (cls : Value) (dd : Option Addr) (pn : List (Addr × Obj)), Zc cls dd ob → (∃ vs, ob.data = .fields vs) → PSs (X.suite a ((a, ob) :: pn)) st (ts a cls dd)
inductive HsOk (X : Cx) : List ExceptHandler → List HC → Prop
  | nil : HsOk X [] []
  | one {x : Str} {c : Value} {ts : Addr → Value → Option Addr → TS} {s₀ : Stmt} {ss : List Stmt} {np hp : Pos} {hds : List ExceptHandler} {l : List HC} (hc : Names X x c) (su : SuOk X (s₀ :: ss) ts) (r : HsOk X hds l) :
      HsOk X (.ExceptHandler (some (.Name x np)) none (s₀ :: ss) hp :: hds) ((c, none, ts) :: l)
  | as {x n : Str} {i : Nat} {c : Value} {ts : Addr → Value → Option Addr → TS} {s₀ : Stmt} {ss : List Stmt} {np hp : Pos} {hds : List ExceptHandler} {l : List HC} (hN : X.N.Nodup) (hi : X.N[i]? = some n) (hl : X.env.kindOf n = some .local) (hc : Names X x c)
      (su : SuOk X (s₀ :: ss) ts) (r : HsOk X hds l) : HsOk X (.ExceptHandler (some (.Name x np)) (some n) (s₀ :: ss) hp :: hds) ((c, some i, ts) :: l)
/-- where an exception has landed -/
structure Landed (X : Cx) (pins : List (Addr × Obj)) (σ : L2.St) (H : Hp) (a : Addr) (cls : Value) (dd : Option Addr) (B : Heap) (sI s : Shared) : Prop where
  inv : Inv X pins σ H sI
  nb : ∀ b o, sI.heap.get? b = some o → b ∉ frs X.stack → B.get? b = some o
  up : sI.heap.UpToSlots s.heap
  fly : HandSPX.FlyingZ B (X.env :: X.outer) a (Zc cls dd) s.heap
  na : H a = none
  os : s.os = sI.os
  ag : AllBare s.gens
section
variable {X : Cx} {pins : List (Addr × Obj)} {σ : L2.St} {H : Hp} {a : Addr} {cls : Value} {dd : Option Addr} {B : Heap} {sI s : Shared}
theorem Landed.now (L : Landed X pins σ H a cls dd B sI s) : Inv X pins σ H s := L.inv.landed L.nb L.fly.1 L.up L.os L.ag
theorem Landed.out (hf : X.env.frame = some X.env.locals) (L : Landed X pins σ H a cls dd B sI s) : ∃ ob, s.heap.get? a = some ob ∧ Zc cls dd ob ∧ (∃ vs, ob.data = .fields vs) ∧ Inv (X.suite a ((a, ob) :: (X.pn ++ pins))) [] σ H s := by
  obtain ⟨ob, vs, eo, zo, dt⟩ := L.fly.there
  have far : a ∉ frs (X.env :: X.outer) := fun hm => by
    obtain ⟨_, o', eo', hq⟩ := L.fly.2.2.1.mem hm
    rw [eo] at eo'
    cases eo'
    exact hq _ dt
  have n1 : a ≠ X.env.locals := fun z => far (List.mem_filterMap.mpr ⟨X.env, List.mem_cons_self, hf.trans (congrArg some z.symm)⟩)
  have n2 : a ∉ X.fs := fun hm => by
    obtain ⟨e, he, q⟩ := List.mem_filterMap.mp hm
    exact far (List.mem_filterMap.mpr ⟨e, List.mem_cons_of_mem _ he, q⟩)
  exact ⟨ob, eo, zo, ⟨_, dt⟩, L.now.suite eo dt L.na n1 n2⟩
theorem handle_ok (ok : X.Ok) (st : X.stack = X.env :: X.outer) (hf : X.env.frame = some X.env.locals) {Wo : WX} (tk : Takes X Wo) {D : Ends} {hds : List ExceptHandler} {l : List HC} (hk : HsOk X hds l) (L : Landed X pins σ H a cls dd B sI s) (w : wHs X.K Wo D l cls dd σ H) :
    wpAny (model X.prog X.w) X.A (handleBy (.ref a) X.env hds) (SP X pins D) X.xe s := by
  -- the clause's test
  have ask : ∀ {x : Str} {c : Value} {b : Bool} {np : Pos} {Q : Value → Shared → Prop} {E : Value → Shared → Prop}, Names X x c → PySem.W.exmOne X.K cls c = some b → Q (.bool b) s → True := fun _ _ _ => trivial
  have look : ∀ {x : Str} {c : Value} {np : Pos} {Q : Value → Shared → Prop} {E : Value → Shared → Prop}, Names X x c → Q c s → wpAny (model X.prog X.w) (X.A.mark (some (.ref a))) (eval (.Name x np) X.env) Q E s := by
    rintro x c np Q E ⟨g1, g2, g3⟩ q
    obtain ⟨ob, _, _, _, J⟩ := L.out hf
    rcases g3 with g3 | ⟨g3, g4, g5⟩
    · exact ld_glob (X := X.suite a ((a, ob) :: (X.pn ++ pins))) J g1 g3 q g2
    · exact ld_blt (X := X.suite a ((a, ob) :: (X.pn ++ pins))) J g1 g3 g4 q g5 g2
  have lk : PySem.W.Looks (model X.prog X.w) s.heap (typeOf (.ref a)) cls := by
    obtain ⟨ob, eo, zo, _, _⟩ := L.out hf
    exact fun A Q E s' kk q => wpAny_typeOf_ref (kk _ _ eo) (by rw [zo.1]; exact q)
  -- the suite's ground
  have down : ∀ {Q : Unit → Shared → Prop} {E : Value → Shared → Prop}, (∀ s', Landed X pins σ H a cls dd B sI s' → Q () s') → wpAny (model X.prog X.w) (X.A.mark (some (.ref a))) (setFlight (.ref a) none) Q E s := fun {Q E} q =>
    HandSPX.lands_againZ L.fly fun hh fl2 up2 => q _ ⟨L.inv, L.nb, L.up.trans up2, fl2, L.na, L.os, L.ag⟩
  induction hk with
  | nil =>
    refine wpAny_handleBy_nil ?_
    obtain ⟨y1, y2, y3, ob, vs, T, oT, tsq, eo, zo, dt, v1, rr⟩ := id L.fly
    unfold PySem.passOn
    refine wpAny_bind (wpAny_field eo dt v1 ?_)
    rw [if_neg (show ¬ ((Value.ref T == Value.none) = true) by simp)]
    have onward : wpAny (model X.prog X.w) X.A (setFlight (.ref a) X.env.frame) (fun _ s4 => wpAny (model X.prog X.w) X.A (throw (.ref a) : Sem Flow) (SP X pins D) X.xe s4) X.xe s := by
      rw [hf]
      refine HandSPX.setFlight_upZ L.fly fun hh held up2 => wpAny_throw (tk _ _ ?_)
      exact ⟨a, B, sI, pins, σ, H, cls, dd, rfl, L.inv, L.nb, L.up.trans up2, .inr (.inr (by rw [st]; exact held)), L.na, L.os, L.ag, w⟩
    first
      | exact wpAny_bind onward
      | exact wpAny_bind (wpAny_pure (wpAny_bind onward))
  | one hc su r ih =>
    obtain ⟨b, eb, yes, no⟩ := w
    refine wpAny_handleBy_cons (codeAny_handlers_test (look hc ((PySem.W.exm_one (M := model X.prog X.w) L.now.kIn lk eb).here ?_))) (fun z => nomatch z)
    cases b with
    | false => exact ih (no rfl)
    | true =>
      refine codeAny_handlers_suite (down fun s2 L2 => ?_)
      obtain ⟨ob, eo, zo, dt, J⟩ := L2.out hf
      refine wpAny_mono ((su a ob cls dd (X.pn ++ pins) zo dt).run [] _ _ _ D J (yes rfl a L.na)) (fun f s3 e3 => ?_) fun _ _ z => z.elim
      cases f with
      | ret u => exact let ⟨v, σ3, H3, J3, r3, q3⟩ := e3; ⟨v, σ3, H3, J3.unsuite ok, r3, q3⟩
      | brk => exact let ⟨σ3, H3, J3, q3⟩ := e3; ⟨σ3, H3, J3.unsuite ok, q3⟩
      | cont => exact let ⟨σ3, H3, J3, q3⟩ := e3; ⟨σ3, H3, J3.unsuite ok, q3⟩
      | next => exact let ⟨σ3, H3, J3, q3⟩ := e3; ⟨σ3, H3, J3.unsuite ok, q3⟩
  | as hN hi hl hc su r ih =>
    obtain ⟨b, eb, yes, no⟩ := w
    refine wpAny_handleBy_cons (codeAny_handlers_test (look hc ((PySem.W.exm_one (M := model X.prog X.w) L.now.kIn lk eb).here ?_))) (fun z => nomatch z)
    cases b with
    | false => exact ih (no rfl)
    | true =>
      refine codeAny_handlers_suite_as (down fun s2 L2 => ?_)
      obtain ⟨ob, eo, zo, dt, J⟩ := L2.out hf
      refine store_ok (X := X.suite a ((a, ob) :: (X.pn ++ pins))) (v := .ref a) J hN hi (.inl hl) rfl (fun s3 J3 => ?_) (.inr hl)
      refine wpAny_mono ((su a ob cls dd (X.pn ++ pins) zo dt).run [] _ _ _ _ J3 (yes rfl a L.na)) (fun f s4 e4 => ?_) fun _ _ z => z.elim
      cases f with
      | ret u => exact let ⟨v, σ4, H4, J4, r4, q4⟩ := e4; gone_ok (J4.unsuite ok) hN hi hl fun s5 J5 => ⟨v, _, H4, J5, r4, q4⟩
      | brk => exact let ⟨σ4, H4, J4, q4⟩ := e4; gone_ok (J4.unsuite ok) hN hi hl fun s5 J5 => ⟨_, H4, J5, q4⟩
      | cont => exact let ⟨σ4, H4, J4, q4⟩ := e4; gone_ok (J4.unsuite ok) hN hi hl fun s5 J5 => ⟨_, H4, J5, q4⟩
      | next => exact let ⟨σ4, H4, J4, q4⟩ := e4; gone_ok (J4.unsuite ok) hN hi hl fun s5 J5 => ⟨_, H4, J5, q4⟩
end
theorem try_ok {X : Cx} {body : List Stmt} {h₀ : ExceptHandler} {hds : List ExceptHandler} {l : List HC} {pos : Pos} {tb : WX → TS} {Wo : WX} (st : X.stack = X.env :: X.outer) (hf : X.env.frame = some X.env.locals) (tk : Takes X Wo)
    (hb : ∀ (W : WX) (pn : List (Addr × Obj)) (xe : Value → Shared → Prop), Takes (X.tr pn xe) W → PassesOwn (model X.prog X.w) X.A X.env xe → PSs (X.tr pn xe) body (tb W)) (hh : HsOk X (h₀ :: hds) l) :
    PS X (.Try body (h₀ :: hds) [] [] pos) (fun D σ H => tb (wHs X.K Wo D l) D σ H) := by
  refine ⟨fun pins s σ H D I w => wpAny_Try_except ?_⟩
  have ok := I.ok
  let caught : Value → Shared → Prop := fun e s₁ => wpAny (model X.prog X.w) X.A (noteFrame e X.env) (fun _ s₂ => wpAny (model X.prog X.w) X.A (setFlight e none) (fun _ s₃ => wpAny (model X.prog X.w) X.A (handleBy e X.env (h₀ :: hds)) (SP X pins D) X.xe s₃) X.xe s₂) X.xe s₁
  have T : Takes (X.tr (X.pn ++ pins) caught) (wHs X.K Wo D l) := by
    rintro u s2 ⟨a, B, sI, pins2, σ2, H2, cls, dd, rfl, J, nb, up, sky, na, os, ag, w2⟩
    show wpAny (model X.prog X.w) X.A (noteFrame (.ref a) X.env) _ _ _
    have sky2 : Sky B (X.env :: X.outer) a (Zc cls dd) X.env.locals s2.heap := by rw [← st]; exact sky
    refine Sky.land Zc.steady (by rw [ok.frames, st]) hf sky2 fun hh2 fly up2 => ?_
    exact handle_ok ok st hf tk hh (s := { s2 with heap := hh2 }) ⟨J.ofTry ok, nb, up.trans up2, fly, na, os, ag⟩ w2
  refine wpAny_mono ((hb _ _ caught T PassesOwn.looking).run [] s σ H D (I.toTry _) w) (fun f s2 e2 => ?_) fun _ _ z => z
  cases f with
  | ret u => exact let ⟨v, σ2, H2, J, r, q⟩ := e2; ⟨v, σ2, H2, J.ofTry ok, r, q⟩
  | brk => exact let ⟨σ2, H2, J, q⟩ := e2; ⟨σ2, H2, J.ofTry ok, q⟩
  | cont => exact let ⟨σ2, H2, J, q⟩ := e2; ⟨σ2, H2, J.ofTry ok, q⟩
  | next => exact let ⟨σ2, H2, J, q⟩ := e2; wpAny_execs_nil ⟨σ2, H2, J.ofTry ok, q⟩
end EV

/-! what the evaluator's statements say -/
namespace EV
open PySem L2 PyProof.Rows

theorem _root_.L2.PS.wk {X : Cx} {e : Stmt} {t t' : TS} (h : PS X e t) (k : ∀ D σ H, t' D σ H → t D σ H) : PS X e t' := ⟨fun pins s σ H D I q => h.run pins s σ H D I (k D σ H q)⟩
theorem _root_.L2.PSs.wk {X : Cx} {e : List Stmt} {t t' : TS} (h : PSs X e t) (k : ∀ D σ H, t' D σ H → t D σ H) : PSs X e t' := ⟨fun pins s σ H D I q => h.run pins s σ H D I (k D σ H q)⟩
theorem _root_.L2.PS.no {X : Cx} {e : Stmt} {t : TS} (k : ∀ D σ H, ¬ t D σ H) : PS X e t := ⟨fun pins s σ H D I q => (k D σ H q).elim⟩
theorem _root_.L2.PSs.no {X : Cx} {e : List Stmt} {t : TS} (k : ∀ D σ H, ¬ t D σ H) : PSs X e t := ⟨fun pins s σ H D I q => (k D σ H q).elim⟩

def PostS (G : GS) (W : WX) (D : Ends) (m : List Addr) (H : Hp) : RS → Prop
  | .next σd S => ∀ m1 σ' H1, Grow m H m1 H1 → SR G m1 S σd σ' H1 → D.nx σ' H1
  | .brk σd S => ∀ m1 σ' H1, Grow m H m1 H1 → SR G m1 S σd σ' H1 → D.bk σ' H1
  | .cont σd S => ∀ m1 σ' H1, Grow m H m1 H1 → SR G m1 S σd σ' H1 → D.ct σ' H1
  | .ret d S => ∀ m1 H1 v, Grow m H m1 H1 → Rep G m1 S H1 → RV G m1 H1 v d → D.rt v H1
  | .err x σd S => ∀ m1 σ' H1 cls dd, Grow m H m1 H1 → SR G m1 S σd σ' H1 → RX G x cls dd H1 → W cls dd σ' H1
  | .bad => False
section
variable {G : GS} {W : WX} {D : Ends} {m m1 : List Addr} {H H1 : Hp} {S : Store} {σd : Env} {σ : L2.St} {C : Ctx}
theorem PostS.grow {r : RS} (g : Grow m H m1 H1) (h : PostS G W D m H r) : PostS G W D m1 H1 r := by
  cases r with
  | next σd S => exact fun m2 σ' H2 g2 => h m2 σ' H2 (g.trans g2)
  | brk σd S => exact fun m2 σ' H2 g2 => h m2 σ' H2 (g.trans g2)
  | cont σd S => exact fun m2 σ' H2 g2 => h m2 σ' H2 (g.trans g2)
  | ret d S => exact fun m2 H2 v g2 => h m2 H2 v (g.trans g2)
  | err x σd S => exact fun m2 σ' H2 cls dd g2 => h m2 σ' H2 cls dd (g.trans g2)
  | bad => exact h
theorem postR {α : Type} {r : Res α} {f : α → Store → RS} (s : SR G m S σd σ H) (h : PostS G W D m H (ofR r σd f)) : Post G W σ m H (fun a m1 S1 H1 => PostS G W D m1 H1 (f a S1)) r := by
  cases r with
  | ok a S1 => exact fun m1 H1 g _ => PostS.grow g h
  | err x S1 => exact fun m1 H1 cls dd g R rx => h m1 σ H1 cls dd g (s.grow g R) rx
  | bad => exact h
theorem tE_stepS {c : CE} {f : EV.D → Store → RS} (s : SR G m S σd σ H) (h : PostS G W D m H (ofR (evE C c σd S) σd f)) {R : V → Hp → Prop}
    (k : ∀ d m1 S1 H1, Grow m H m1 H1 → SR G m1 S1 σd σ H1 → PostS G W D m1 H1 (f d S1) → ∀ v, RV G m1 H1 v d → R v H1) : tE G W C c σ H R :=
  ⟨m, S, σd, s, (postR s h).mono fun d m1 S1 H1 g R1 q v r => k d m1 S1 H1 g (s.grow g R1) q v r⟩
theorem chkS_inv {c : Prop} {r : RS} (h : PostS G W D m H (chkS c r)) : c ∧ PostS G W D m H r := by
  unfold chkS at h
  split at h
  · rename_i hc; exact ⟨hc, h⟩
  · exact h.elim
end
section
variable (G : GS) (W : WX) (C : Ctx)
def tSt (c : CS) : TS := fun D σ H => ∃ m S σd, SR G m S σd σ H ∧ PostS G W D m H (evS C c σd S)
def tSs (c : CSs) : TS := fun D σ H => ∃ m S σd, SR G m S σd σ H ∧ PostS G W D m H (evSs C c σd S)
end
theorem tSt_bad {G : GS} {W : WX} {C : Ctx} {D σ H} : ¬ tSt G W C .bad D σ H := fun ⟨_, _, _, _, h⟩ => by unfold evS at h; exact h
theorem tSs_bad {G : GS} {W : WX} {C : Ctx} {D σ H} : ¬ tSs G W C (.cons .bad .nil) D σ H := fun ⟨_, _, _, _, h⟩ => by unfold evSs evS at h; exact h

/-! ### the pair of names -/
theorem sw_no {e : Expr} (h : notComp e = true) (t : Option Expr) (l : Nat) (env : PySem.Env) : swapsWith e t l env = pure false := by
  cases e <;> first | rfl | (simp [notComp] at h)
theorem each_one {t : Expr} (h : okTg t = true) (env : PySem.Env) : (assignEach [t] env).map (·.2) = [assign t env] := by
  cases t <;> first | rfl | (simp [okTg] at h)
theorem blk_fn {env : PySem.Env} (hk : env.scope.kind = .function) : env.blockKind = .function := by unfold PySem.Env.blockKind; rw [hk]; rfl
def nameF (sc : Scope) (ts : List Expr) (x : Expr) : Option Str := match x with
  | .Name id pos => if lookK sc id == some .local && pos.line == (ts.head?.map (·.pos.line)).getD 0 then some id else none
  | _ => none
theorem names_eq {sc : Scope} {ts : List Expr} {f : Expr → Option Str} (hf : ∀ x, f x = nameF sc ts x) : ts.filterMap f = namesOf sc ts := by
  unfold namesOf
  congr 1
  funext x
  rw [hf x]
  cases x <;> rfl
theorem kind_look (env : PySem.Env) (id : Str) : env.kindOf id = lookK env.scope id := by unfold lookK; rw [lookL_eq]; rfl
theorem sw_none {env : PySem.Env} {ts vs : List Expr} {k k2 : Nat} {p p2 : Pos} (hk : env.scope.kind = .function)
    (h : ((ts.length == 2 || ts.length == 3) && vs.length == ts.length && (namesOf env.scope ts).length == ts.length) = false) :
    swappedStores [.Tuple ts k p] (.Tuple vs k2 p2) env = pure none := by
  unfold swappedStores
  simp only [blk_fn hk]
  rw [names_eq (sc := env.scope) (fun x => by cases x <;> first | rfl | (simp only [kind_look, nameF]))]
  by_cases h1 : (!(ts.length == 2 || ts.length == 3) || vs.length != ts.length) = true
  · rw [h1]; rfl
  · have h1 : (!(ts.length == 2 || ts.length == 3) || vs.length != ts.length) = false := by simpa using h1
    rw [h1]
    simp only [Bool.or_eq_false_iff, Bool.not_eq_false', bne_eq_false_iff_eq] at h1
    have h3 : ((namesOf env.scope ts).length != ts.length) = true := by
      rw [h1.1] at h
      rw [beq_iff_eq.mpr h1.2] at h
      simpa using h
    rw [h3]
    split
    · rfl
    split
    · rfl
    · rfl
theorem noStar_any : ∀ {vs : List Expr} {f : Expr → Bool} (hf : ∀ e, notStar e = true → f e = false), vs.all notStar = true → vs.any f = false
  | [], _, _, _ => rfl
  | e :: vs, f, hf, h => by
    rw [List.all_cons, Bool.and_eq_true] at h
    rw [List.any_cons, hf e h.1, noStar_any hf h.2]; rfl
theorem sw_two {env : PySem.Env} {x y : Str} {px py p p2 : Pos} {a b : Expr} {k k2 : Nat} (hk : env.scope.kind = .function) (hx : lookK env.scope x = some .local) (hy : lookK env.scope y = some .local)
    (hn : (namesOf env.scope [.Name x px, .Name y py]).length = 2) (hs : [a, b].all notStar = true) (h1 : [a, b].all (foldedForSure 8) = false) (h2 : [a, b].all (constantsAlone 8) = false) (h3 : (namesOf env.scope [.Name x px, .Name y py]).eraseDups.length = 2) :
    swappedStores [.Tuple [.Name x px, .Name y py] k p] (.Tuple [a, b] k2 p2) env = pure (some [x, y]) := by
  unfold swappedStores
  simp only [blk_fn hk]
  rw [names_eq (sc := env.scope) (fun x => by cases x <;> first | rfl | (simp only [kind_look, nameF]))]
  have hxy : namesOf env.scope [.Name x px, .Name y py] = [x, y] := by
    unfold namesOf at hn ⊢
    simp only [List.filterMap_cons, List.filterMap_nil, List.head?_cons, Option.map_some, Option.getD_some, hx, hy] at hn ⊢
    have e1 : (px.line == (Expr.Name x px).pos.line) = true := by show (px.line == px.line) = true; simp
    rw [e1] at hn ⊢
    by_cases e2 : (py.line == (Expr.Name x px).pos.line) = true
    · rw [e2]; simp
    · have e2 : (py.line == (Expr.Name x px).pos.line) = false := by simpa using e2
      rw [e2] at hn
      simp at hn
  rw [noStar_any (fun e he => by cases e <;> first | rfl | (simp [notStar] at he)) hs, hn, h3, h1, h2, hxy]
  rfl
end EV

/-! statements, each -/
namespace EV
open PySem L2 PyProof.Rows
structure SOk (Γ : Gam) (G : GS) (X : Cx) (W : WX) (k : Nat) (hot : Bool) : Prop where
  o : XOk Γ G X W k hot
  stk : X.stack = X.env :: X.outer
  frm : X.env.frame = some X.env.locals
  fn : ∀ x, X.fn x = true
section
variable {Γ : Gam} {G : GS} {X : Cx} {W : WX} {k : Nat} {hot : Bool} {C : Ctx} {e : Expr} {ce : CE} {pos : Pos}
theorem SOk.tg (O : SOk Γ G X W k hot) : TOk X (okLoc X.env.scope) (List.range X.N.length) where
  loc := fun x h => ⟨okLoc_iff h, .inl (O.fn x)⟩
  own := fun x i _ hs => List.mem_range.mpr (List.getElem?_eq_some_iff.mp (slotOf_get hs)).1

/-! ### simple statements -/
theorem q_pass : PS X (.Pass pos) (tSt G W C .pass) := ps_pass.wk fun D σ H ⟨m, S, σd, s, h⟩ => by
  unfold evS at h
  exact h m σ H (Grow.refl _ _) s
theorem q_brk : PS X (.Break pos) (tSt G W C .brk) := ps_break.wk fun D σ H ⟨m, S, σd, s, h⟩ => by
  unfold evS at h
  exact h m σ H (Grow.refl _ _) s
theorem q_cont : PS X (.Continue pos) (tSt G W C .cont) := ps_continue.wk fun D σ H ⟨m, S, σd, s, h⟩ => by
  unfold evS at h
  exact h m σ H (Grow.refl _ _) s
theorem q_retN : PS X (.Return none pos) (tSt G W C .retN) := ps_retN.wk fun D σ H ⟨m, S, σd, s, h⟩ => by
  unfold evS at h
  exact h m H .non (Grow.refl _ _) s.rep RV.non
theorem q_ret (he : PE X e (tE G W C ce)) : PS X (.Return (some e) pos) (tSt G W C (.ret ce)) := (ps_ret he).wk fun D σ H ⟨m, S, σd, s, h⟩ => by
  unfold evS at h
  exact tE_stepS s h fun d m1 S1 H1 g s1 h1 v rv => h1 m1 H1 v (Grow.refl _ _) s1.rep rv
theorem q_expr (hc : notComp e = true) (he : PE X e (tE G W C ce)) : PS X (.Expr e pos) (tSt G W C (.expr ce)) := (ps_expr he (sw_no hc _ _ _)).wk fun D σ H ⟨m, S, σd, s, h⟩ => by
  unfold evS at h
  exact tE_stepS s h fun d m1 S1 H1 g s1 h1 v rv => h1 m1 σ H1 (Grow.refl _ _) s1
theorem q_ite {c : Expr} {a b : List Stmt} {cc : CB} {ca cb : CSs} (hc : PT X c (tB G W C cc)) (ha : PSs X a (tSs G W C ca)) (hb : PSs X b (tSs G W C cb)) : PS X (.If c a b pos) (tSt G W C (.ite cc ca cb)) := (ps_if hc ha hb).wk fun D σ H ⟨m, S, σd, s, h⟩ => by
  unfold evS at h
  refine ⟨m, S, σd, s, (postR s h).mono fun d m1 S1 H1 g R1 q => ?_⟩
  cases d with
  | true => exact iteT ⟨m1, S1, σd, s.grow g R1, q⟩
  | false => exact iteF ⟨m1, S1, σd, s.grow g R1, q⟩
theorem q_nil : PSs X [] (tSs G W C .nil) := pss_nil.wk fun D σ H ⟨m, S, σd, s, h⟩ => by
  unfold evSs at h
  exact h m σ H (Grow.refl _ _) s
theorem q_cons {st : Stmt} {sts : List Stmt} {cs : CS} {css : CSs} (h1 : PS X st (tSt G W C cs)) (h2 : PSs X sts (tSs G W C css)) : PSs X (st :: sts) (tSs G W C (.cons cs css)) := (pss_cons h1 h2).wk fun D σ H ⟨m, S, σd, s, h⟩ => by
  unfold evSs at h
  refine ⟨m, S, σd, s, ?_⟩
  generalize evS C cs σd S = r at h
  cases r with
  | next σ1 S1 => exact fun m1 σ' H1 g s1 => ⟨m1, S1, σ1, s1, PostS.grow g h⟩
  | _ => exact h

/-! ### assignments -/
theorem asg_read {vs : List Nat} {t : CT} {D : Ends} {σ : L2.St} {H : Hp} {m : List Addr} {S : Store} {σd : Env} (s : SR G m S σd σ H) {d : EV.D} {v : V} (rv : RV G m H v d) (h : PostS G W D m H (ofR (evT C t d σd S) σd fun σ' S2 => .next σ' S2)) : tT G W C vs t v σ H D.nx :=
  ⟨m, S, σd, d, s, rv, (postR s h).mono fun σe m1 S1 H1 g R1 q σ' s' _ => q m1 σ' H1 (Grow.refl _ _) s'⟩
theorem q_asg {vs : List Nat} {t : Expr} {ct : CT} (hc : notComp e = true) (ht : okTg t = true) (hw : swappedStores [t] e X.env = pure none) (he : PE X e (tE G W C ce)) (hg : PG X t (tT G W C vs ct)) : PS X (.Assign [t] e pos) (tSt G W C (.asg ct ce)) :=
  (ps_asg he hg (sw_no hc _ _ _) hw (each_one ht _)).wk fun D σ H ⟨m, S, σd, s, h⟩ => by
    unfold evS at h
    exact tE_stepS s h fun d m1 S1 H1 g s1 h1 v rv => asg_read s1 rv h1
theorem q_par {i j : Nat} {x y : Str} {px py p p2 : Pos} {kt k2 : Nat} {a b : Expr} {ca cb : CE} (O : SOk Γ G X W k false) (hi : slotOf X.N x = some i) (hj : slotOf X.N y = some j) (hxy : sEq x y = false) (hx : lookK X.env.scope x = some .local) (hy : lookK X.env.scope y = some .local)
    (hs : [a, b].all notStar = true) (hn : (namesOf X.env.scope [.Name x px, .Name y py]).length = 2) (h1 : [a, b].all (foldedForSure 8) = false) (h2 : [a, b].all (constantsAlone 8) = false) (h3 : (namesOf X.env.scope [.Name x px, .Name y py]).eraseDups.length = 2)
    (ha : PE X a (tE G W C ca)) (hb : PE X b (tE G W C cb)) : PS X (.Assign [.Tuple [.Name x px, .Name y py] kt p] (.Tuple [a, b] k2 p2) pos) (tSt G W C (.par i j ca cb)) := by
  have gi := slotOf_get hi
  have gj := slotOf_get hj
  have hij : i ≠ j := by
    rintro rfl
    rw [gi] at gj
    cases gj
    rw [show sEq x x = true from sEq_iff.mpr rfl] at hxy
    cases hxy
  have lx : ∀ {x : Str}, lookK X.env.scope x = some .local → X.env.scope.names.lookup x = some .local := fun {x} h => by unfold lookK at h; rw [lookL_eq] at h; exact h
  have hs' := hs
  simp only [List.all_cons, List.all_nil, Bool.and_true, Bool.and_eq_true] at hs'
  refine (ps_par (O.o.calm rfl) O.o.nd gi gj hij (lx hx) (lx hy) (pa_cons ha (pa_cons hb pa_nil (star_cons hs'.2 _ _)) (star_cons hs'.1 _ _)) (sw_two O.o.kind hx hy hn hs h1 h2 h3)).wk fun D σ H ⟨m, S, σd, s, h⟩ => ?_
  unfold evS at h
  refine tE_stepS s h fun d m1 S1 H1 g1 s1 h1 v rv => ?_
  refine tE_stepS s1 h1 fun d2 m2 S2 H2 g2 s2 h2 w rw' => ?_
  exact ⟨v, w, rfl, h2 m2 _ H2 (Grow.refl _ _) ((s2.set (rv.grow s1.rep g2)).set rw')⟩
theorem PIp.or {op : Operator} {t t' : TIp} (h : PIp X op t) (h' : PIp X op t') : PIp X op (fun x y H Q => t x y H Q ∨ t' x y H Q) := fun pins s σ H x y v u Q I rx ry q => q.elim (h pins s σ H x y v u Q I rx ry) (h' pins s σ H x y v u Q I rx ry)
theorem aug_ok (op : Operator) (ho : augOk op = true) : ∃ t : TIp, PIp X op t ∧ ∀ {W : WX} {σ : L2.St} {m : List Addr} {S : Store} {H : Hp} {Q : VK} {x y : V} {d e : EV.D}, Rep G m S H → RV G m H x d → RV G m H y e → Post G W σ m H (PQ G Q) (augop op d e S) → t x y H Q := by
  cases op <;> first | (cases ho; done) | skip
  · refine ⟨_, PIp.or iop_add iop_add_str, fun {W σ m S H Q x y d e} R rx ry h => ?_⟩
    unfold augop at h
    split at h <;> first | exact h.elim | skip
    · exact .inl ⟨_, _, rx.ofInt, ry.ofInt, Post.here h R RV.int⟩
    · unfold binop at h
      obtain ⟨z, h⟩ := okIf_inv h
      exact .inr ⟨_, _, rx.ofStr, ry.ofStr, z, Post.here h R RV.str⟩
  · refine ⟨_, iop_sub, fun {W σ m S H Q x y d e} R rx ry h => ?_⟩
    unfold augop at h
    split at h <;> first | exact h.elim | skip
    · exact ⟨_, _, rx.ofInt, ry.ofInt, Post.here h R RV.int⟩
theorem q_aug {i : Nat} {x : Str} {px : Pos} {op : Operator} (O : SOk Γ G X W k hot) (hi : slotOf X.N x = some i) (hx : okLoc X.env.scope x = true) (ho : augOk op = true) (he : PE X e (tE G W C ce)) : PS X (.AugAssign (.Name x px) op e pos) (tSt G W C (.aug i op ce)) := by
  obtain ⟨t, ht, read⟩ := aug_ok (X := X) (G := G) op ho
  refine (ps_aug O.o.nd (slotOf_get hi) (okLoc_iff hx) he ht (.inl (O.fn x))).wk fun D σ H ⟨m, S, σd, s, h⟩ => ?_
  unfold evS at h
  split at h <;> first | exact h.elim | skip
  rename_i d0 e0
  obtain ⟨v0, ev0, rv0⟩ := s.env i d0 e0
  refine ⟨v0, ev0, tE_stepS s h fun d m1 S1 H1 g1 s1 h1 v rv => ?_⟩
  refine read (W := W) (σ := σ) s1.rep (rv0.grow s.rep g1) rv ((postR s1 h1).mono fun z m2 S2 H2 g2 R2 q w rw' => ?_)
  exact q m2 _ H2 (Grow.refl _ _) ((s1.grow g2 R2).set rw')

/-! ### loops -/
theorem q_while {c : Expr} {body : List Stmt} {cc : CB} {cb : CSs} (O : SOk Γ G X W k hot) (hc : PT X c (tB G W C cc)) (hb : PSs X body (tSs G W C cb)) : PS X (.While c body [] pos) (tSt G W C (.whileS cc cb)) := by
  refine (ps_while O.o.po hc hb).wk fun D σ H ⟨m, S, σd, s, h⟩ => ?_
  unfold evS at h
  have hn : whileR (fun σ S => evB C cc σ S) (fun σ S => evSs C cb σ S) σd S ≠ .bad := fun z => by rw [z] at h; exact h
  obtain ⟨n, en⟩ := whileR_fuel hn
  rw [← en] at h
  refine ⟨fun n σ H => ∃ m S σd, SR G m S σd σ H ∧ PostS G W D m H (whileN (fun σ S => evB C cc σ S) (fun σ S => evSs C cb σ S) n σd S), ⟨n, m, S, σd, s, h⟩, ?_⟩
  rintro n σ H ⟨m, S, σd, s, h⟩
  cases n with
  | zero => exact h.elim
  | succ n =>
    unfold whileN at h
    refine ⟨m, S, σd, s, ?_⟩
    generalize evB C cc σd S = r at h
    cases r with
    | bad => exact h
    | err x S1 => exact fun m1 H1 cls dd g R rx => h m1 σ H1 cls dd g (s.grow g R) rx
    | ok b S1 =>
      intro m1 H1 g R
      have s1 := s.grow g R
      cases b with
      | false => exact iteF (h m1 σ H1 g s1)
      | true =>
        refine iteT ⟨fun σ H => ∃ m S σd, SR G m S σd σ H ∧ PostS G W D m H (whileN (fun σ S => evB C cc σ S) (fun σ S => evSs C cb σ S) n σd S), fun σ' H' q => ⟨n, Nat.lt_succ_self _, q⟩, m1, S1, σd, s1, ?_⟩
        have h := PostS.grow g h
        simp only at h
        generalize evSs C cb σd S1 = r2 at h
        cases r2 with
        | next σ2 S2 => exact fun m2 σ' H2 g2 s2 => ⟨m2, S2, σ2, s2, PostS.grow g2 h⟩
        | cont σ2 S2 => exact fun m2 σ' H2 g2 s2 => ⟨m2, S2, σ2, s2, PostS.grow g2 h⟩
        | _ => exact h
theorem q_for {vs : List Nat} {t it : Expr} {body : List Stmt} {ct : CT} {ci : CI} {cb : CSs} (O : SOk Γ G X W k false) (hf : ∀ x, foldedSetIterable it X.env x = pure x) (hi : PI X t it (tI G W C ci)) (hg : PG X t (tT G W C vs ct)) (hb : PSs X body (tSs G W C cb)) :
    PS X (.For t it body [] pos) (tSt G W C (.forS ct ci cb)) := by
  refine (ps_for O.o.po (O.o.calm rfl) hi hg hb hf).wk fun D σ H ⟨m, S, σd, s, h⟩ => ?_
  unfold evS at h
  refine ⟨m, S, σd, s, (postR s h).mono fun J m1 S1 H1 g1 R1 h1 Jh wok => ?_⟩
  have s1 := s.grow g1 R1
  let body' : EV.D → Env → Store → RS := fun d σ S => ofR (evT C ct d σ S) σ fun σ' S' => evSs C cb σ' S'
  let Pv : Nat → L2.St → Hp → Prop := fun i σ' H' => i ≤ J.items.length ∧ ∃ m' S' σd', Grow m1 H1 m' H' ∧ SR G m' S' σd' σ' H' ∧ PostS G W D m' H' (turns J body' (J.items.drop i) σd' S')
  refine ⟨fun i n σ' H' => n = J.items.length - i ∧ Pv i σ' H', ⟨_, rfl, Nat.zero_le _, m1, S1, σd, Grow.refl _ _, s1, h1⟩, ?_⟩
  rintro i n σ' H' ⟨rfl, hi, m', S', σd', gg, sr, h⟩
  by_cases hlt : i < J.items.length
  · have hdrop : J.items.drop i = J.items[i] :: J.items.drop (i + 1) := by rw [List.drop_eq_getElem_cons hlt]
    rw [hdrop] at h
    unfold turns at h
    obtain ⟨still, h⟩ := chkS_inv h
    obtain ⟨go, _, yld⟩ := wok m' S' H' i gg sr.rep still
    refine .inr ⟨go hlt, Pv (i + 1), fun σ2 H2 p2 => ⟨J.items.length - (i + 1), by omega, rfl, p2⟩, fun x H2 y => ?_⟩
    obtain ⟨gy, Ry, d, hd, rx⟩ := yld x H2 hlt y
    have hd' : d = J.items[i] := by rw [List.getElem?_eq_getElem hlt] at hd; cases hd; rfl
    subst hd'
    have sy := sr.grow gy Ry
    have h := PostS.grow gy h
    refine ⟨m', S', σd', _, sy, rx, ?_⟩
    have eb : body' J.items[i] σd' S' = ofR (evT C ct J.items[i] σd' S') σd' fun σ' S' => evSs C cb σ' S' := rfl
    rw [eb] at h
    generalize hr : evT C ct J.items[i] σd' S' = r at h
    cases r with
    | bad => exact h
    | err x S2 => exact absurd hr (evT_ne _ _ _ _ _ _)
    | ok σe S2 =>
      intro m3 H3 g3 R3 σ3 s3 _
      refine ⟨m3, S2, σe, s3, ?_⟩
      have h := PostS.grow g3 h
      have g13 := gg.trans (gy.trans g3)
      simp only [ofR_ok] at h
      generalize evSs C cb σe S2 = r2 at h
      cases r2 with
      | next σ4 S4 => exact fun m4 σ' H4 g4 s4 => ⟨hlt, m4, S4, σ4, g13.trans g4, s4, PostS.grow g4 h⟩
      | cont σ4 S4 => exact fun m4 σ' H4 g4 s4 => ⟨hlt, m4, S4, σ4, g13.trans g4, s4, PostS.grow g4 h⟩
      | _ => exact h
  · have e : i = J.items.length := by omega
    subst e
    rw [List.drop_length] at h
    unfold turns at h
    obtain ⟨still, h⟩ := chkS_inv h
    obtain ⟨_, stop, _⟩ := wok m' S' H' J.items.length gg sr.rep still
    exact .inl ⟨stop, h m' σ' H' (Grow.refl _ _) sr⟩
/-- x = [.. for ..] -/
theorem q_setLc {i : Nat} {x : Str} {px pos' : Pos} {elt t it : Expr} {ifs : List Expr} {scope : Scope} {own : List (Str × Nat)} {ct : CT} {ci : CI} {cb : CB} {ce : CE} (O : SOk Γ G X W k false) (hi : slotOf X.N x = some i) (hx : lookK X.env.scope x = some .local)
    (hl : (px.line == pos'.line) = true) (ha : (scope.names.any fun (n, k) => n == x && (k == .local || k == .cell)) = false) (ok : BlkOk X.N X.env.scope scope own) (hit : PI X t it (tI G W C ci)) (fold : ∀ x, foldedSetIterable it X.env x = pure x)
    (hg : ∀ (s : Shared) (H : Hp) (Ca : Addr) (cl : List (Str × Addr)) (fp : List Addr), PG (X.blk s H scope (compEnvC scope cl Ca X.env) fp) t (tT G WF C (own.map (·.2)) ct))
    (ht : ∀ (s : Shared) (H : Hp) (Ca : Addr) (cl : List (Str × Addr)) (fp : List Addr), PTs (X.blk s H scope (compEnvC scope cl Ca X.env) fp) ifs (tB G WF C cb))
    (he : ∀ (s : Shared) (H : Hp) (Ca : Addr) (cl : List (Str × Addr)) (fp : List Addr), PE (X.blk s H scope (compEnvC scope cl Ca X.env) fp) elt (tE G WF C ce)) :
    PS X (.Assign [.Name x px] (.ListComp elt [⟨t, it, ifs, 0⟩] scope pos') pos) (tSt G W C (.asg (.slot i) (.lc (.mk (own.map (·.2)) ct ci cb ce)))) := by
  have hx' : X.env.scope.names.lookup x = some .local := by unfold lookK at hx; rw [lookL_eq] at hx; exact hx
  refine (ps_setLc (O.o.calm rfl) O.o.nd (slotOf_get hi) hx' (sw_true O.o.kind hx' hl ha) hit ok hg ht he fold).wk fun D σ H ⟨m, S, σd, s, h⟩ => ?_
  unfold evS at h
  have h' := postR s h
  unfold evE at h'
  refine lc_read s h'.bind.triv fun l S' hr m1 H1 A xs g R hn hD hxs rx hz => ?_
  rw [hr] at h'
  have h2 := h' (m1 ++ [A]) H1 (g.found hn hD) (R.found hn hxs rx hz)
  unfold evT at h2
  exact h2 _ _ _ (Grow.refl _ _) ((s.grow (g.found hn hD) (R.found hn hxs rx hz)).set (RV.mkRef (R.allocAt A)))
theorem q_raise {x msg : Str} {i j : Nat} {p p2 p3 : Pos} (O : SOk Γ G X W k false) (hv : isGl X.env.scope x = true) (hx : lookL Γ.gn x = some (.cls i)) : PS X (.Raise (some (.Call (.Name x p) [.Constant (.str msg) j p2] [] p3)) none pos) (tSt G W C (.raise i none)) := by
  obtain ⟨⟨bmB, B, newId, initId, F, q⟩, kC, r⟩ := O.o.exm x i hx
  have hn := O.o.gnm x _ hx
  simp only [okName, Bool.and_eq_true, Bool.not_eq_true'] at hn
  refine (ps_raise (O.o.calm rfl) O.o.tk (pmk_own F q (O.o.gCls x i hx) kC r (show Gl X x from gl_of hv) hn.1.1)).wk fun D σ H ⟨m, S, σd, s, h⟩ => ?_
  unfold evS at h
  exact h m σ H _ none (Grow.refl _ _) s ⟨rfl, rfl⟩
end
end EV

/-! try; all statements -/
namespace EV
open PySem L2 PyProof.Rows
/-- the same, seen from within an except suite -/
abbrev gSu (G : GS) (K : PySem.W.Frag) (a : Addr) (cls : Value) (dd : Option Addr) : GS := { G with xr := fun b c f => b = a ∧ cls = .ref (G.ca c) ∧ dd = none ∧ f = none ∧ ExcC K (G.ca c) }
section
variable {G : GS} {xf : Addr → Nat → Option Int → Prop} {m : List Addr} {S : Store} {H : Hp} {σd : Env} {σ : L2.St}
mutual
theorem RV.xr : ∀ {v : V} {d : D}, RV G m H v d ↔ RV { G with xr := xf } m H v d
  | v, .non => Iff.rfl
  | v, .bl b => Iff.rfl
  | v, .int i => Iff.rfl
  | v, .str x => Iff.rfl
  | v, .tup l => by
    unfold RV
    exact ⟨fun ⟨a, xs, e, h1, h2, h3⟩ => ⟨a, xs, e, h1, RVs.xr.mp h2, h3⟩, fun ⟨a, xs, e, h1, h2, h3⟩ => ⟨a, xs, e, h1, RVs.xr.mpr h2, h3⟩⟩
  | v, .ref i => Iff.rfl
  | v, .fn i => Iff.rfl
  | v, .cls i => Iff.rfl
  | v, .kl ns => Iff.rfl
theorem RVs.xr : ∀ {vs : List V} {ds : List D}, RVs G m H vs ds ↔ RVs { G with xr := xf } m H vs ds
  | [], [] => by unfold RVs; exact Iff.rfl
  | [], d :: ds => by unfold RVs; exact Iff.rfl
  | v :: vs, [] => by unfold RVs; exact Iff.rfl
  | v :: vs, d :: ds => by
    unfold RVs
    exact ⟨fun ⟨a, b⟩ => ⟨RV.xr.mp a, RVs.xr.mp b⟩, fun ⟨a, b⟩ => ⟨RV.xr.mpr a, RVs.xr.mpr b⟩⟩
end
theorem RC.xr {a : Addr} {c : Cell} : RC G m H a c ↔ RC { G with xr := xf } m H a c := by
  cases c with
  | lst l => exact ⟨fun ⟨x, h1, h2, h3⟩ => ⟨x, h1, RVs.xr.mp h2, h3⟩, fun ⟨x, h1, h2, h3⟩ => ⟨x, h1, RVs.xr.mpr h2, h3⟩⟩
  | fro l => exact ⟨fun ⟨o, x, h1, h2, h3⟩ => ⟨o, x, h1, RVs.xr.mp h2, h3⟩, fun ⟨o, x, h1, h2, h3⟩ => ⟨o, x, h1, RVs.xr.mpr h2, h3⟩⟩
  | ins _ _ => exact Iff.rfl
theorem Rep.xr : Rep G m S H ↔ Rep { G with xr := xf } m S H :=
  ⟨fun ⟨a, b, c⟩ => ⟨a, b, fun i x y h1 h2 => RC.xr.mp (c i x y h1 h2)⟩, fun ⟨a, b, c⟩ => ⟨a, b, fun i x y h1 h2 => RC.xr.mpr (c i x y h1 h2)⟩⟩
theorem SR.into (s : SR G m S σd σ H) (no : ∀ (i c : Nat) (f : Option Int), σd[i]? ≠ some (.exc c f)) : SR { G with xr := xf } m S σd σ H :=
  ⟨Rep.xr.mp s.rep, s.len, fun i d h => let ⟨v, h1, h2⟩ := s.env i d h; ⟨v, h1, RV.xr.mp h2⟩, fun i c f h => absurd h (no i c f)⟩
theorem plain_no {σd : Env} (h : σd.all SV.plain = true) (i c : Nat) (f : Option Int) : σd[i]? ≠ some (.exc c f) := fun e => by
  have := List.all_eq_true.mp h _ (List.mem_of_getElem? e)
  cases this
theorem SR.back (s : SR { G with xr := xf } m S σd σ H) (h : σd.all SV.plain = true) : SR G m S σd σ H :=
  ⟨Rep.xr.mpr s.rep, s.len, fun i d h => let ⟨v, h1, h2⟩ := s.env i d h; ⟨v, h1, RV.xr.mpr h2⟩, fun i c f e => absurd e (plain_no h i c f)⟩
end
section
variable {Γ : Gam} {G : GS} {X : Cx} {W : WX} {k : Nat} {hot : Bool} {C : Ctx}
theorem XOk.tr (O : XOk Γ G X W k false) {W' : WX} {pn : List (Addr × Obj)} {xe : Value → Shared → Prop} (tk : Takes (X.tr pn xe) W') (po : PassesOwn (model X.prog X.w) X.A X.env xe) : XOk Γ G (X.tr pn xe) W' k false where
  hK := O.hK
  nd := O.nd
  kind := O.kind
  nm := O.nm
  gnm := O.gnm
  tk := tk
  po := po
  un := O.un
  calm := O.calm
  room := O.room
  gFn := O.gFn
  gGlob := O.gGlob
  gCls := O.gCls
  gBlt := O.gBlt
  fns := O.fns
  sub := O.sub
  exc := O.exc
  exi := fun b c f h => absurd h (O.xr0 rfl b c f)
  xr0 := O.xr0
  exm := fun x i h => let ⟨a, b, c⟩ := O.exm x i h; ⟨a, b, fun M h hk => c M h hk⟩
theorem XOk.su (O : XOk Γ G X W k false) {a : Addr} {ob : Obj} {cls : Value} {dd : Option Addr} {pn : List (Addr × Obj)} (zo : Zc cls dd ob) (dt : ∃ vs, ob.data = .fields vs) : XOk Γ (gSu G X.K a cls dd) (X.suite a ((a, ob) :: pn)) WF k true where
  hK := O.hK
  nd := O.nd
  kind := O.kind
  nm := O.nm
  gnm := O.gnm
  tk := takes0
  po := PassesOwn.never
  un := O.un
  calm := fun z => nomatch z
  room := fun z => nomatch z
  gFn := O.gFn
  gGlob := fun x g h => let ⟨u, v, h1, h2, h3⟩ := O.gGlob x g h; ⟨u, v, h1, h2, fun m H => RV.xr.mp (h3 m H)⟩
  gCls := O.gCls
  gBlt := O.gBlt
  fns := fun z => nomatch z
  sub := O.sub
  exc := O.exc
  exi := fun b c f ⟨e1, e2, e3, e4, e5⟩ => by
    subst e1 e2 e3 e4
    exact call_isE e5 zo dt
  xr0 := fun z => nomatch z
  exm := fun x i h => let ⟨a, b, c⟩ := O.exm x i h; ⟨a, b, fun M h hk => c M h hk⟩
theorem SOk.tr (O : SOk Γ G X W k false) {W' : WX} {pn : List (Addr × Obj)} {xe : Value → Shared → Prop} (tk : Takes (X.tr pn xe) W') (po : PassesOwn (model X.prog X.w) X.A X.env xe) : SOk Γ G (X.tr pn xe) W' k false := ⟨O.o.tr tk po, O.stk, O.frm, O.fn⟩
theorem SOk.su (O : SOk Γ G X W k false) {a : Addr} {ob : Obj} {cls : Value} {dd : Option Addr} {pn : List (Addr × Obj)} (zo : Zc cls dd ob) (dt : ∃ vs, ob.data = .fields vs) : SOk Γ (gSu G X.K a cls dd) (X.suite a ((a, ob) :: pn)) WF k true := ⟨O.o.su zo dt, O.stk, O.frm, O.fn⟩
def hList (G : GS) (K : PySem.W.Frag) (C : Ctx) : CHs → List HC
  | .nil => []
  | .cons c so b hs => (clV G c, so, fun a cls dd => tSs (gSu G K a cls dd) WF C b) :: hList G K C hs
theorem leave_read {K : PySem.W.Frag} {a : Addr} {cls : Value} {dd : Option Addr} {D : Ends} {m : List Addr} {H : Hp} {r : RS} (h : PostS G W D m H (leave r)) : PostS (gSu G K a cls dd) WF D m H r := by
  cases r with
  | next σd S =>
    unfold leave at h
    simp only at h
    split at h
    · rename_i hp; exact fun m1 σ' H1 g s => h m1 σ' H1 g (s.back hp)
    · exact h.elim
  | brk σd S =>
    unfold leave at h
    simp only at h
    split at h
    · rename_i hp; exact fun m1 σ' H1 g s => h m1 σ' H1 g (s.back hp)
    · exact h.elim
  | cont σd S =>
    unfold leave at h
    simp only at h
    split at h
    · rename_i hp; exact fun m1 σ' H1 g s => h m1 σ' H1 g (s.back hp)
    · exact h.elim
  | ret d S => exact fun m1 H1 v g R rv => h m1 H1 v g (Rep.xr.mpr R) (RV.xr.mpr rv)
  | err x σd S => exact h.elim
  | bad => exact h.elim
theorem forget_read {i : Nat} {D : Ends} {m : List Addr} {H : Hp} {r : RS} (h : PostS G W D m H (forgetAt i r)) : PostS G W (endsAt i D) m H r := by
  cases r with
  | next σd S => exact fun m1 σ' H1 g s => h m1 _ H1 g (s.forget i)
  | brk σd S => exact fun m1 σ' H1 g s => h m1 _ H1 g (s.forget i)
  | cont σd S => exact fun m1 σ' H1 g s => h m1 _ H1 g (s.forget i)
  | ret d S => exact h
  | err x σd S => exact h
  | bad => exact h
theorem hs_read' (O : XOk Γ G X W k false) {D : Ends} {x : Ex} {cls : Value} {dd : Option Addr} {m : List Addr} {S : Store} {H : Hp} {σd : Env} {σ : L2.St} (s : SR G m S σd σ H) (rx : RX G x cls dd H) :
    ∀ hs : CHs, PostS G W D m H (evHs (Γ.P.ctx k) hs x σd S) → wHs X.K W D (hList G X.K (Γ.P.ctx k) hs) cls dd σ H
  | .nil, h => by
    unfold evHs at h
    exact h m σ H cls dd (Grow.refl _ _) s rx
  | .cons c so b hs, h => by
    unfold evHs at h
    have no : ∀ (i c : Nat) (f : Option Int), σd[i]? ≠ some (.exc c f) := fun i c f e => by
      obtain ⟨a, _, q⟩ := s.exc i c f e
      exact O.xr0 rfl _ _ _ q
    cases hb : (Γ.P.ctx k).isSub x.c c with
    | none => rw [hb] at h; exact h.elim
    | some b' =>
      rw [hb] at h
      have e := (O.sub x.c c b' hb).2
      refine ⟨b', rx.1 ▸ e, fun eb a na => ?_, fun eb => ?_⟩
      · subst eb
        simp only at h
        cases so with
        | none => exact ⟨m, S, σd, s.into no, leave_read h⟩
        | some i =>
          simp only at h
          split at h
          rotate_left
          · exact h.elim
          rename_i hf
          have hd : dd = none := by have := rx.2; rw [hf] at this; exact this
          refine ⟨m, S, σd.set i (.exc x.c x.f), SR.put (s.into no) (fun e he => nomatch he) (fun c f he => ?_), forget_read (leave_read h)⟩
          cases he
          exact ⟨a, rfl, rfl, rx.1, hd, hf, O.exc _ _ _ hb⟩
      · subst eb
        exact hs_read' O s rx hs h
theorem q_try {body : List Stmt} {h₀ : ExceptHandler} {hds : List ExceptHandler} {pos : Pos} {cb : CSs} {chs : CHs} (O : SOk Γ G X W k false) (hC : C = Γ.P.ctx k)
    (hb : ∀ (W' : WX) (pn : List (Addr × Obj)) (xe : Value → Shared → Prop), Takes (X.tr pn xe) W' → PassesOwn (model X.prog X.w) X.A X.env xe → PSs (X.tr pn xe) body (tSs G W' C cb)) (hh : HsOk X (h₀ :: hds) (hList G X.K C chs)) :
    PS X (.Try body (h₀ :: hds) [] [] pos) (tSt G W C (.tryS cb chs)) := by
  subst hC
  refine (try_ok (tb := fun W' => tSs G W' (Γ.P.ctx k) cb) O.stk O.frm O.o.tk hb hh).wk fun D σ H ⟨m, S, σd, s, h⟩ => ?_
  unfold evS at h
  refine ⟨m, S, σd, s, ?_⟩
  generalize evSs (Γ.P.ctx k) cb σd S = r at h
  cases r with
  | err x σ1 S1 => exact fun m1 σ' H1 cls dd g s1 rx => hs_read' O.o s1 rx chs (PostS.grow g h)
  | _ => exact h
end

/-- all statements at one fuel -/
structure Sts (n : Nat) : Prop where
  s : ∀ {Γ : Gam} {G : GS} {X : Cx} {W : WX} {k : Nat} {hot : Bool}, SOk Γ G X W k hot → ∀ st : Stmt, PS X st (tSt G W (Γ.P.ctx k) (compS ⟨X.N, Γ.gn, hot⟩ n X.env.scope st))
  ss : ∀ {Γ : Gam} {G : GS} {X : Cx} {W : WX} {k : Nat} {hot : Bool}, SOk Γ G X W k hot → ∀ st : List Stmt, PSs X st (tSs G W (Γ.P.ctx k) (compSs ⟨X.N, Γ.gn, hot⟩ n X.env.scope st))
  hs : ∀ {Γ : Gam} {G : GS} {X : Cx} {W : WX} {k : Nat}, SOk Γ G X W k false → ∀ (hds : List ExceptHandler) (l : CHs), compHs ⟨X.N, Γ.gn, false⟩ n X.env.scope hds = some l → HsOk X hds (hList G X.K (Γ.P.ctx k) l)
theorem sts0 : Sts 0 where
  s O st := .no fun _ _ _ => tSt_bad
  ss O st := .no fun _ _ _ => tSs_bad
  hs O hds l h := by unfold compHs at h; cases h
section
variable {n : Nat} (ih : Sts n) {Γ : Gam} {G : GS} {X : Cx} {W : WX} {k : Nat} {hot : Bool}
include ih
theorem sts_ss (O : SOk Γ G X W k hot) (st : List Stmt) : PSs X st (tSs G W (Γ.P.ctx k) (compSs ⟨X.N, Γ.gn, hot⟩ (n + 1) X.env.scope st)) := by
  cases st with
  | nil => unfold compSs; exact q_nil
  | cons s ss => unfold compSs; exact q_cons (ih.s O s) (ih.ss O ss)
theorem sts_hs (O : SOk Γ G X W k false) (hds : List ExceptHandler) (l : CHs) (h : compHs ⟨X.N, Γ.gn, false⟩ (n + 1) X.env.scope hds = some l) : HsOk X hds (hList G X.K (Γ.P.ctx k) l) := by
  cases hds with
  | nil => unfold compHs at h; cases h; exact .nil
  | cons hd hds =>
    cases hd with
    | ExceptHandler t nm body p =>
      unfold compHs at h
      split at h <;> first | (cases h; done) | skip
      rename_i x np s₀ ss
      split at h
      rotate_left
      · cases h
      rename_i hv
      split at h
      rotate_left
      · cases h
      rename_i c l' hc hl
      unfold clV' at hc
      split at hc
      rotate_left
      · cases hc
      rename_i i hx
      cases hc
      have hn := O.o.gnm x _ hx
      simp only [okName, Bool.and_eq_true, Bool.not_eq_true'] at hn
      have nms : Names X x (clV G (.own i)) := ⟨gl_of hv, hn.1.1, .inl (O.o.gCls x i hx)⟩
      split at h
      · cases h
        exact .one nms (fun a ob cls dd pn zo dt => ih.ss (O.su zo dt) _) (ih.hs O _ _ hl)
      · split at h
        rotate_left
        · cases h
        rename_i m hm
        split at h
        rotate_left
        · cases h
        rename_i i hi
        cases h
        exact .as O.o.nd (slotOf_get hi) (by rw [kind_look]; exact beq_iff_eq.mp hm) nms (fun a ob cls dd pn zo dt => ih.ss (O.su zo dt) _) (ih.hs O _ _ hl)
theorem notSet_fold {it : Expr} (h : notSet it = true) (env : PySem.Env) (x : Value) : foldedSetIterable it env x = pure x := fold_set h env x
omit ih in
theorem compI_set {cc : Cc} {sc : Scope} {t it : Expr} (h : notSet it = false) (n : Nat) : compI cc n sc t it = .bad := by
  cases n with
  | zero => unfold compI; rfl
  | succ n =>
    cases it <;> first | (simp [notSet] at h; done) | skip
    unfold compI; rfl
omit ih in
theorem forS_bad {G : GS} {W : WX} {C : Ctx} {ct : CT} {cb : CSs} {D σ H} : ¬ tSt G W C (.forS ct .bad cb) D σ H := fun ⟨_, _, _, _, h⟩ => by unfold evS evI at h; exact h
theorem sts_s (O : SOk Γ G X W k hot) (st : Stmt) : PS X st (tSt G W (Γ.P.ctx k) (compS ⟨X.N, Γ.gn, hot⟩ (n + 1) X.env.scope st)) := by
  have E := snd n
  unfold compS
  split
  · -- x = [.. for ..]
    rename_i x px elt gs scope p pos
    split
    · exact .no fun _ _ _ => tSt_bad
    rename_i hh
    have hh : hot = false := by simpa using hh
    subst hh
    split
    rotate_left
    · exact .no fun _ _ _ => tSt_bad
    rename_i hc
    simp only [Bool.and_eq_true, Bool.not_eq_true', beq_iff_eq] at hc
    obtain ⟨⟨⟨h1, h2⟩, h3⟩, h4⟩ := hc
    split
    rotate_left
    · exact .no fun _ _ _ => tSt_bad
    rename_i c i hcc hs
    cases c with
    | mk vs ct ci cb ce =>
      obtain ⟨own, t, it, ifs, rfl, rfl, ok, hi, fold, hg, ht, he⟩ := E.c O.o elt gs scope vs ct ci cb ce hcc
      by_cases hf : ∀ x, foldedSetIterable it X.env x = pure x
      · exact q_setLc O hs h2 (by rw [h3]; simp) h4 ok hi hf hg ht he
      · refine .no fun D σ H ⟨m, S, σd, s, h⟩ => ?_
        obtain ⟨x, hx⟩ : ∃ x, ¬ foldedSetIterable it X.env x = pure x := Classical.not_forall.mp hf
        rcases fold X.env x with z | z
        · exact hx z
        · unfold evS at h
          have h' := postR s h
          unfold evE at h'
          exact z _ _ _ (tI_of s h')
  · -- (x, y) = (a, b)
    split
    · exact .no fun _ _ _ => tSt_bad
    rename_i hh
    have hh : hot = false := by simpa using hh
    subst hh
    rename_i ts kk p vs k2 p2 pos
    split
    · rename_i hc
      split
      rotate_left
      · exact .no fun _ _ _ => tSt_bad
      rename_i x px y py a b
      split
      rotate_left
      · exact .no fun _ _ _ => tSt_bad
      rename_i h2
      simp only [Bool.and_eq_true, Bool.not_eq_true', beq_iff_eq] at h2 hc
      obtain ⟨⟨⟨⟨⟨⟨q1, q2⟩, q3⟩, q4⟩, q5⟩, q6⟩, q7⟩ := h2
      split
      rotate_left
      · exact .no fun _ _ _ => tSt_bad
      rename_i i j hi hj
      exact q_par O hi hj q2 q3 q4 q1 (by rw [hc.2]; rfl) q5 q6 q7 (E.e O.o _) (E.e O.o _)
    · rename_i hc
      exact q_asg rfl rfl (sw_none O.o.kind (by simpa using hc)) (E.e O.o _) (E.t O.o O.tg _)
  · -- t = e
    rename_i t e pos hx1 hx2
    split
    rotate_left
    · exact .no fun _ _ _ => tSt_bad
    rename_i hc
    rw [Bool.and_eq_true] at hc
    refine q_asg hc.1 hc.2 ?_ (E.e O.o _) (E.t O.o O.tg _)
    cases t <;> first | (simp [okTg] at hc; done) | rfl | skip
    cases e <;> first | rfl | skip
    exact (hx2 _ _ _ _ _ _ rfl rfl).elim
  · -- x op= e
    split
    rotate_left
    · exact .no fun _ _ _ => tSt_bad
    rename_i hc
    rw [Bool.and_eq_true] at hc
    split
    rotate_left
    · exact .no fun _ _ _ => tSt_bad
    rename_i i hi
    exact q_aug O hi hc.1 hc.2 (E.e O.o _)
  · -- for
    split
    · exact .no fun _ _ _ => tSt_bad
    rename_i hh
    have hh : hot = false := by simpa using hh
    subst hh
    rename_i t it body pos
    cases hs : notSet it with
    | true => exact q_for O (fun x => fold_set hs _ _) (E.i O.o _ _) (E.t O.o O.tg _) (ih.ss O _)
    | false => rw [compI_set hs]; exact .no fun _ _ _ => forS_bad
  · -- while
    split
    · exact .no fun _ _ _ => tSt_bad
    exact q_while O (E.b O.o _) (ih.ss O _)
  · exact q_ite (E.b O.o _) (ih.ss O _) (ih.ss O _)
  · exact q_ret (E.e O.o _)
  · exact q_retN
  · split
    · rename_i hc; exact q_expr hc (E.e O.o _)
    · exact .no fun _ _ _ => tSt_bad
  · -- raise
    split
    · exact .no fun _ _ _ => tSt_bad
    rename_i hh
    have hh : hot = false := by simpa using hh
    subst hh
    split
    rotate_left
    · exact .no fun _ _ _ => tSt_bad
    rename_i hv
    split
    rotate_left
    · exact .no fun _ _ _ => tSt_bad
    rename_i i hx
    exact q_raise O hv hx
  · -- try
    split
    · exact .no fun _ _ _ => tSt_bad
    rename_i hh
    simp only [Bool.or_eq_true, not_or] at hh
    have h1 : hot = false := by simpa using hh.1
    subst h1
    split
    rotate_left
    · exact .no fun _ _ _ => tSt_bad
    rename_i body hs pos _ l hl
    cases hs with
    | nil => simp at hh
    | cons h₀ hds => exact q_try O rfl (fun W' pn xe tk po => ih.ss (O.tr tk po) _) (ih.hs O _ _ hl)
  · exact q_pass
  · exact q_brk
  · exact q_cont
  · exact .no fun _ _ _ => tSt_bad
end
theorem sts : ∀ n, Sts n
  | 0 => sts0
  | n + 1 => have ih := sts n; { s := sts_s ih, ss := sts_ss ih, hs := sts_hs ih }
end EV

/-! defs -/
namespace EV
open PySem L2 PyProof.Rows
/-- the text of a def, as the evaluator has it -/
structure DefOk (K : PySem.W.Frag) (gn : List (Str × GR)) (a : Addr) (f : Fn) : Prop where
  ex : ∃ (x qual : Str) (st : Stmt) (fd : FuncData) (N ps : List Str) (n : Nat), Fun K x qual st a fd ∧ FnScope N ps (defScope st) ∧ (∀ y ∈ N, okName y = true) ∧ compSs ⟨N, gn, false⟩ n (defScope st) (defBody st) = f.body ∧ ps.length = f.np ∧ N.length = f.ns ∧ Binds K fd ps []
def RaisesK (K : PySem.W.Frag) (cls : Value) : Prop := ∀ (M : Model) (h : Heap), K.In h → PySem.W.Looks M h (isSubtype cls (.type "BaseException")) true ∧ PySem.W.Looks M h (typeOf cls) (.type "type")
structure POk (K : PySem.W.Frag) (mg : Str → Option Value) (Γ : Gam) (G : GS) : Prop where
  hK : K = G.K
  gnm : ∀ (x : Str) (r : GR), lookL Γ.gn x = some r → okName x = true
  gFn : ∀ x i, lookL Γ.gn x = some (.fn i) → mg x = some (.ref (G.fa i)) ∧ PySem.W.keepIn K (.ref (G.fa i)) = true
  gGlob : ∀ x g, lookL Γ.gn x = some (.glob g) → ∃ u v, mg x = some u ∧ RelV v u ∧ ∀ m H, RV G m H v (Γ.P.globs g)
  gCls : ∀ x i, lookL Γ.gn x = some (.cls i) → mg x = some (.ref (G.ca i))
  gBlt : ∀ x, lookL Γ.gn x = some .blt → mg x = none
  fns : ∀ i f, Γ.P.fns i = some f → DefOk K Γ.gn (G.fa i) f ∧ PySem.W.keepIn K (.ref (G.fa i)) = true
  sub : ∀ c cl b, Γ.P.isSub c cl = some b → PySem.W.kitOne K (.ref (G.ca c)) (clV G cl) = some b ∧ PySem.W.exmOne K (.ref (G.ca c)) (clV G cl) = some b
  exc : ∀ c cl b, Γ.P.isSub c cl = some b → ExcC K (G.ca c)
  xr0 : ∀ b c f, ¬ G.xr b c f
  exm : ∀ x i, lookL Γ.gn x = some (.cls i) → (∃ bmB B newId initId, ExcBaseFacts B newId initId bmB ∧ PySem.W.excIn K (G.ca i) bmB newId = true) ∧ PySem.W.keepIn K (.ref (G.ca i)) = true ∧ RaisesK K (.ref (G.ca i))
theorem start_sr {G : GS} {m : List Addr} {S : Store} {H : Hp} {N : List Str} {vs : List V} {ds : List D} {f : Fn} (R : Rep G m S H) (rv : RVs G m H vs ds) (h1 : ds.length = f.np) (h2 : N.length = f.ns) : SR G m S (ds.map .val ++ List.replicate (f.ns - f.np) .no) (L2.start N vs) H := by
  have hl := rv.length
  refine ⟨R, ?_, fun i d h => ?_, fun i c g h => ?_⟩
  · unfold L2.start
    simp only [List.length_append, List.length_map, List.length_replicate]
    omega
  · unfold L2.start
    by_cases hi : i < ds.length
    · rw [List.getElem?_append_left (by simpa using hi), List.getElem?_map] at h
      cases e : ds[i]? with
      | none => rw [e] at h; cases h
      | some d' =>
        rw [e] at h
        cases h
        obtain ⟨v, e2, r⟩ := rv.get e
        exact ⟨v, by rw [List.getElem?_append_left (by simp; omega), List.getElem?_map, e2]; rfl, r⟩
    · rw [List.getElem?_append_right (by simpa using hi)] at h
      have := List.mem_of_getElem? h
      rw [List.mem_replicate] at this
      cases this.2
  · by_cases hi : i < ds.length
    · rw [List.getElem?_append_left (by simpa using hi), List.getElem?_map] at h
      cases e : ds[i]? with
      | none => rw [e] at h; cases h
      | some d' => rw [e] at h; cases h
    · rw [List.getElem?_append_right (by simpa using hi)] at h
      have := List.mem_of_getElem? h
      rw [List.mem_replicate] at this
      cases this.2
section
variable {Pg : Program} {w : World} {K : PySem.W.Frag} {mg : Str → Option Value} {base : Heap} {Γ : Gam} {G : GS}
theorem call_read {k i : Nat} {f : Fn} {m : List Addr} {S : Store} {H : Hp} {ds : List D} {Q : VK} {E : XK} (hf : Γ.P.fns i = some f) (hl : ds.length = f.np) (R : Rep G m S H)
    (h : Post G (fun c d _ H => E c d H) [] m H (PQ G Q) (callF Γ.P (k + 1) i ds S)) :
    PostS G (fun c d _ H => E c d H) { nx := fun _ H' => Q .non H', rt := Q } m H (evSs (Γ.P.ctx k) f.body (ds.map .val ++ List.replicate (f.ns - f.np) .no) S) := by
  unfold callF at h
  rw [hf] at h
  simp only [if_pos hl] at h
  generalize evSs (Γ.P.ctx k) f.body (ds.map .val ++ List.replicate (f.ns - f.np) .no) S = r at h ⊢
  have fin : ∀ {d : D} {S' : Store} {m1 : List Addr} {H1 : Hp} {v : V}, Post G (fun c d _ H => E c d H) [] m H (PQ G Q) (.ok d (trim S S' d)) → Grow m H m1 H1 → Rep G m1 S' H1 → RV G m1 H1 v d → Q v H1 := fun {d S' m1 H1 v} h g R1 rv => by
    unfold trim at h
    split at h
    · rename_i t; exact h m H1 g.trim (R.trim R1 g t.2) v (rv.trim g t.1)
    · exact h m1 H1 g R1 v rv
  cases r with
  | next σ S' => exact fun m1 σ' H1 g s1 => fin h g s1.rep RV.non
  | ret d S' => exact fun m1 H1 v g R1 rv => fin h g R1 rv
  | err x σ S' =>
    intro m1 σ' H1 cls dd g s1 rx
    have h : Post G (fun c d _ H => E c d H) [] m H (PQ G Q) (.err x (trimX S S')) := h
    unfold trimX at h
    split at h
    · rename_i t; exact h m H1 cls dd g.trim (R.trim s1.rep g t) rx
    · exact h m1 H1 cls dd g s1.rep rx
  | brk σ S' => exact h.elim
  | cont σ S' => exact h.elim
  | bad => exact h.elim
theorem fn_all (O : POk K mg Γ G) : ∀ (k i : Nat) (f : Fn), Γ.P.fns i = some f → ∃ fd ps, FnOk Pg w K mg base (L2.CX Pg w) (2 * k) (G.fa i) fd ps (spF Γ G k i) ∧ Binds K fd ps []
  | 0, i, f, hf => by
    obtain ⟨⟨x, qual, st, fd, N, ps, n, F, _, _, _, _, _, hb⟩, _⟩ := O.fns i f hf |>.1 |>.ex |> fun h => (⟨h, trivial⟩ : _ ∧ True)
    exact ⟨fd, ps, ⟨fun vs H Q E ⟨_, m, S, ds, _, _, h⟩ => h.elim, fun A outer s H args us vs Q E _ _ _ _ ⟨_, m, S, ds, _, _, h⟩ => h.elim⟩, hb⟩
  | k + 1, i, f, hf => by
    obtain ⟨x, qual, st, fd, N, ps, n, F, S, nm, hcomp, hp, hN, hb⟩ := (O.fns i f hf).1.ex
    refine ⟨fd, ps, ?_, hb⟩
    refine Fun.okX (k := 2 * k + 1) F S (fun vs H Q E ⟨⟨f', hf', hl⟩, _⟩ => ?_) fun cdv A outer s H vs Q E hr ⟨⟨f', hf', hl⟩, m, S0, ds, R, rv, h⟩ => ?_
    · rw [hf] at hf'; cases hf'; rw [hl, hp]
    · rw [hf] at hf'; cases hf'
      have hds : ds.length = f.np := by rw [← rv.length]; exact hl
      let X : Cx := cxOf (L2.CX Pg w) Pg w K mg base N qual (defScope st) (G.fa i) cdv A outer s H E
      have OX : XOk Γ G X (fun cls d _ H => E cls d H) k false :=
        { hK := O.hK
          nd := S.nd
          kind := S.kind
          nm := nm
          gnm := O.gnm
          tk := takes_of (X := X) rfl rfl rfl rfl
          po := passes_of (X := X) (K := fun e s'' => L2.CX Pg w outer H s E e s'') (E₁ := fun e s'' => L2.CX Pg w outer H s E e s'') rfl
          un := by have := hr.un; show (A.deeper _).units + 64 < cLine; omega
          calm := fun _ => rfl
          room := fun _ => hr
          gFn := O.gFn
          gGlob := O.gGlob
          gCls := O.gCls
          gBlt := O.gBlt
          fns := fun _ j g hj => ⟨fn_all O k j g hj, (O.fns j g hj).2⟩
          sub := O.sub
          exc := O.exc
          exi := fun b c f h => absurd h (O.xr0 b c f)
          xr0 := fun _ => O.xr0
          exm := fun x i h => let ⟨a, b, c⟩ := O.exm x i h; ⟨a, b, fun M h hk => c M h hk⟩ }
      have OS : SOk Γ G X (fun cls d _ H => E cls d H) k false := ⟨OX, rfl, rfl, fun _ => rfl⟩
      refine ⟨_, (sts n).ss OS (defBody st), m, S0, _, start_sr R rv hds hN, ?_⟩
      have e : compSs ⟨X.N, Γ.gn, false⟩ n X.env.scope (defBody st) = f.body := hcomp
      rw [e]
      exact call_read hf hds R h
end
end EV

/-! from the top's heap to the evaluator -/
namespace EV
open PySem L2 PyProof.Rows
theorem fn_one {Pg : Program} {w : World} {K : PySem.W.Frag} {mg : Str → Option Value} {base : Heap} {Γ : Gam} {G : GS} (O : POk K mg Γ G) {k i : Nat} {f : Fn} (hf : Γ.P.fns i = some f) {x qual : Str} {st : Stmt} {fd : FuncData} {N ps : List Str} {n : Nat}
    (F : Fun K x qual st (G.fa i) fd) (S : FnScope N ps (defScope st)) (nm : ∀ y ∈ N, okName y = true) (hcomp : compSs ⟨N, Γ.gn, false⟩ n (defScope st) (defBody st) = f.body) (hp : ps.length = f.np) (hN : N.length = f.ns) : FnOk Pg w K mg base (L2.CX Pg w) (2 * (k + 1)) (G.fa i) fd ps (spF Γ G (k + 1) i) := by
  refine Fun.okX (k := 2 * k + 1) F S (fun vs H Q E ⟨⟨f', hf', hl⟩, _⟩ => ?_) fun cdv A outer s H vs Q E hr ⟨⟨f', hf', hl⟩, m, S0, ds, R, rv, h⟩ => ?_
  · rw [hf] at hf'; cases hf'; rw [hl, hp]
  · rw [hf] at hf'; cases hf'
    have hds : ds.length = f.np := by rw [← rv.length]; exact hl
    let X : Cx := cxOf (L2.CX Pg w) Pg w K mg base N qual (defScope st) (G.fa i) cdv A outer s H E
    have OX : XOk Γ G X (fun cls d _ H => E cls d H) k false :=
      { hK := O.hK, nd := S.nd, kind := S.kind, nm := nm, gnm := O.gnm
        tk := takes_of (X := X) rfl rfl rfl rfl
        po := passes_of (X := X) (K := fun e s'' => L2.CX Pg w outer H s E e s'') (E₁ := fun e s'' => L2.CX Pg w outer H s E e s'') rfl
        un := by have := hr.un; show (A.deeper _).units + 64 < cLine; omega
        calm := fun _ => rfl, room := fun _ => hr, gFn := O.gFn, gGlob := O.gGlob, gCls := O.gCls, gBlt := O.gBlt
        fns := fun _ j g hj => ⟨fn_all O k j g hj, (O.fns j g hj).2⟩
        sub := O.sub, exc := O.exc, exi := fun b c f h => absurd h (O.xr0 b c f), xr0 := fun _ => O.xr0
        exm := fun x i h => let ⟨a, b, c⟩ := O.exm x i h; ⟨a, b, fun M h hk => c M h hk⟩ }
    have OS : SOk Γ G X (fun cls d _ H => E cls d H) k false := ⟨OX, rfl, rfl, fun _ => rfl⟩
    refine ⟨_, (sts n).ss OS (defBody st), m, S0, _, start_sr R rv hds hN, ?_⟩
    have e : compSs ⟨X.N, Γ.gn, false⟩ n X.env.scope (defBody st) = f.body := hcomp
    rw [e]
    exact call_read hf hds R h

/-! ### a def that the top has written -/
structure FnAt (K : PySem.W.Frag) (mg : Str → Option Value) (x : Str) (st : Stmt) (a : Addr) : Prop where
  m : mg x = some (.ref a)
  k : PySem.W.keepIn K (.ref a) = true
  ex : ∃ fd, Fun K x x st a fd
theorem FnAt.of {K : PySem.W.Frag} {h : Heap} {mg : Str → Option Value} {x : Str} {st : Stmt} {f : Addr} {oc : Value} {od an : Option Addr} {osl : Array (Option Value)} {kV doc pm cdv ct : Value} (X : K.In h) (NS : h.Ns mainGlobals mg)
    (a : PySem.W.nsIn K mainGlobals x = some (some (.ref f))) (l : K.lookup f = some ⟨oc, od, .func (PySem.W.fnOf x x (defArgs st) (defBody st) (defScope st) .none kV doc pm an cdv ct), osl⟩) (c : PySem.W.codeIn K cdv x = true) (k : PySem.W.keepIn K (.ref f) = true) : FnAt K mg x st f :=
  ⟨PySem.W.mg_of X NS a, k, _, fun_mk l c k⟩
theorem FnAt.ok {K : PySem.W.Frag} {mg : Str → Option Value} {x : Str} {st : Stmt} {a : Addr} {N ps : List Str} {gn : List (Str × GR)} {n : Nat} {f : Fn} (h : FnAt K mg x st a) (S : FnScope N ps (defScope st)) (nm : N.all okName = true) (hcomp : compSs ⟨N, gn, false⟩ n (defScope st) (defBody st) = f.body) (hp : ps.length = f.np) (hN : N.length = f.ns)
    (b : ∀ (kV doc pm : Value) (an : Option Addr) (cdv ct : Value) (us : List Value), us.length = ps.length → bindArgs (PySem.W.fnOf x x (defArgs st) (defBody st) (defScope st) .none kV doc pm an cdv ct) ⟨us, []⟩ = pure (ps.zip us)) : DefOk K gn a f := by
  obtain ⟨fd, F⟩ := h.ex
  exact ⟨x, x, st, fd, N, ps, n, F, S, fun y hy => List.all_eq_true.mp nm y hy, hcomp, hp, hN, F.binds b⟩

/-! ### all that the program names -/
def EntOk (K : PySem.W.Frag) (mg : Str → Option Value) (G : GS) (P : Prog) (x : Str) : GR → Prop
  | .fn i => mg x = some (.ref (G.fa i)) ∧ PySem.W.keepIn K (.ref (G.fa i)) = true
  | .glob g => ∃ u v, mg x = some u ∧ RelV v u ∧ ∀ m H, RV G m H v (P.globs g)
  | .cls i => mg x = some (.ref (G.ca i)) ∧ (∃ bmB B newId initId, ExcBaseFacts B newId initId bmB ∧ PySem.W.excIn K (G.ca i) bmB newId = true) ∧ PySem.W.keepIn K (.ref (G.ca i)) = true ∧ RaisesK K (.ref (G.ca i))
  | .blt => mg x = none
def GnOk (K : PySem.W.Frag) (mg : Str → Option Value) (G : GS) (P : Prog) : List (Str × GR) → Prop
  | [] => True
  | (x, r) :: l => EntOk K mg G P x r ∧ GnOk K mg G P l
def FsOk (K : PySem.W.Frag) (gn : List (Str × GR)) (fa : Nat → Addr) : List (Nat × Fn) → Prop
  | [] => True
  | (i, f) :: l => (DefOk K gn (fa i) f ∧ PySem.W.keepIn K (.ref (fa i)) = true) ∧ FsOk K gn fa l
theorem gn_look {K : PySem.W.Frag} {mg : Str → Option Value} {G : GS} {P : Prog} : ∀ {l : List (Str × GR)} {x : Str} {r : GR}, GnOk K mg G P l → lookL l x = some r → EntOk K mg G P x r
  | [], _, _, _, h => by simp [lookL] at h
  | (y, q) :: l, x, r, o, h => by
    unfold lookL at h
    split at h
    · rename_i e
      have e := sEq_iff.mp e
      subst e
      cases h
      exact o.1
    · exact gn_look o.2 h
theorem nm_look {l : List (Str × GR)} {x : Str} {r : GR} (o : l.all (fun p => okName p.1) = true) (h : lookL l x = some r) : okName x = true := by
  induction l with
  | nil => simp [lookL] at h
  | cons p l ih =>
    obtain ⟨y, q⟩ := p
    rw [List.all_cons, Bool.and_eq_true] at o
    unfold lookL at h
    split at h
    · rename_i e
      have e := sEq_iff.mp e
      subst e
      exact o.1
    · exact ih o.2 h
theorem fs_look {K : PySem.W.Frag} {gn : List (Str × GR)} {fa : Nat → Addr} : ∀ {l : List (Nat × Fn)} {i : Nat} {f : Fn}, FsOk K gn fa l → l.lookup i = some f → DefOk K gn (fa i) f ∧ PySem.W.keepIn K (.ref (fa i)) = true
  | [], _, _, _, h => by simp at h
  | (j, g) :: l, i, f, o, h => by
    rw [List.lookup_cons] at h
    split at h
    · rename_i e
      have e : i = j := by simpa using e
      subst e
      cases h
      exact o.1
    · exact fs_look o.2 h
theorem POk.of {K : PySem.W.Frag} {mg : Str → Option Value} {Γ : Gam} {G : GS} {fs : List (Nat × Fn)} (hK : K = G.K) (nm : Γ.gn.all (fun p => okName p.1) = true) (gn : GnOk K mg G Γ.P Γ.gn) (hfs : ∀ i, Γ.P.fns i = fs.lookup i) (fo : FsOk K Γ.gn G.fa fs)
    (sub : ∀ c cl b, Γ.P.isSub c cl = some b → PySem.W.kitOne K (.ref (G.ca c)) (clV G cl) = some b ∧ PySem.W.exmOne K (.ref (G.ca c)) (clV G cl) = some b) (exc : ∀ c cl b, Γ.P.isSub c cl = some b → ExcC K (G.ca c)) (xr0 : ∀ b c f, ¬ G.xr b c f) : POk K mg Γ G where
  hK := hK
  gnm := fun x r h => nm_look nm h
  gFn := fun x i h => gn_look gn h
  gGlob := fun x i h => gn_look gn h
  gCls := fun x i h => (gn_look gn h).1
  gBlt := fun x h => gn_look gn h
  fns := fun i f h => fs_look fo ((hfs i).symm.trans h)
  sub := sub
  exc := exc
  xr0 := xr0
  exm := fun x i h => (gn_look gn h).2
theorem raisesK {K : PySem.W.Frag} {c : Value} (h1 : PySem.W.subIn K c (.type "BaseException") = some true) (h2 : PySem.W.typeIn K c = some (.type "type")) : RaisesK K c := fun _ _ k => ⟨PySem.W.looks_subIn k h1, PySem.W.looks_typeIn k h2⟩

/-! ### the law -/
/-- how the script stands -/
def Scr (S : Store) (s : D) (ns : List Int) : Prop := (S = [.fro (ns.map .int)] ∧ s = .ref 0) ∨ (S = [] ∧ s = .kl ns)
theorem sp_law {Γ : Gam} {G : GS} {k i : Nat} {f : Fn} (hf : Γ.P.fns i = some f) (hnp : f.np = 1) {ns : List Int} (hl : ns.length ≤ sizeLine) {H : Hp} {a : Addr} (hO : Only H) (hS : SqL G.K H a (ns.map V.int))
    (res : ∀ S s, Scr S s ns → ∃ S', callF Γ.P k i [s] S = .ok (.bl true) S') : spF Γ G k i [.ref a] H (fun v _ => v = .bl true) (fun _ _ _ => False) := by
  refine ⟨⟨f, hf, hnp.symm⟩, ?_⟩
  have fin : ∀ {S S' : Store} {m : List Addr} {s : D}, callF Γ.P k i [s] S = .ok (.bl true) S' → Post G (fun c d _ H => False) [] m H (PQ G fun v _ => v = .bl true) (callF Γ.P k i [s] S) := fun {S S' m s} e => by
    rw [e]
    intro m1 H1 g R v rv
    exact rv.ofBl
  rcases hS with hS | ⟨o, its, n, h1, h2, h3, h4, h5, h6⟩
  · have hS : ∃ o, H a = some (.frz o (.lst (ns.map V.int))) := by
      rcases hS with hS | hS
      · rcases hO a with q | ⟨o, xs, q⟩ <;> (rw [hS] at q; cases q)
      · exact hS
    obtain ⟨o, ho⟩ := hS
    obtain ⟨S', e⟩ := res [.fro (ns.map .int)] (.ref 0) (.inl ⟨rfl, rfl⟩)
    refine ⟨[a], [.fro (ns.map .int)], [.ref 0], ⟨rfl, by simp, fun i b c h1 h2 => ?_⟩, RVs.one (RV.mkRef rfl), fin e⟩
    cases i with
    | zero =>
      cases h1
      cases h2
      exact ⟨o, _, ho, RVs.ints ns, by rw [List.length_map]; exact hl⟩
    | succ i => cases h1
  · obtain ⟨S', e⟩ := res [] (.kl ns) (.inr ⟨rfl, rfl⟩)
    refine ⟨[], [], [.kl ns], ⟨rfl, by simp, fun i b c h1 h2 => by cases h1⟩, RVs.one ?_, fin e⟩
    unfold RV
    exact ⟨a, rfl, fun H' => .inr ⟨o, its, n, h1, h2, h3, h4, h5, h6⟩, hl⟩
/-- what a law promises of a script -/
def spLaw (K : PySem.W.Frag) (n : Nat) : Sp := fun vs H Q _ => ∃ (a : Addr) (ns : List Int), vs = [.ref a] ∧ ns.length ≤ n ∧ Only H ∧ SqL K H a (ns.map V.int) ∧ ∀ H', Q (.bl true) H'
theorem sp_law' {Γ : Gam} {G : GS} {k i n : Nat} {f : Fn} (hf : Γ.P.fns i = some f) (hnp : f.np = 1) (hn : n ≤ sizeLine) (res : ∀ (ns : List Int) (S : Store) (s : D), ns.length ≤ n → Scr S s ns → ∃ S', callF Γ.P k i [s] S = .ok (.bl true) S') :
    ∀ vs H Q E, spLaw G.K n vs H Q E → spF Γ G k i vs H Q E := by
  rintro vs H Q E ⟨a, ns, rfl, hl, hO, hS, hq⟩
  obtain ⟨q1, m, S, ds, R, rv, h⟩ := sp_law (G := G) (k := k) hf hnp (Nat.le_trans hl hn) hO hS fun S s hs => res ns S s hl hs
  refine ⟨q1, m, S, ds, R, rv, ?_⟩
  generalize callF Γ.P k i ds S = r at h ⊢
  cases r with
  | ok d S' => exact fun m1 H1 g R1 v rv => by rw [h m1 H1 g R1 v rv]; exact hq H1
  | err x S' => exact fun m1 H1 cls dd g R1 rx => (h m1 H1 cls dd g R1 rx).elim
  | bad => exact h.elim
theorem law_at {Pg : Program} {w : World} {K : PySem.W.Frag} {mg : Str → Option Value} {fa : Addr} {Γ : Gam} {G : GS} {k i n m : Nat} {f : Fn} {x : Str} {st : Stmt} {N : List Str} (hfa : mg "law" = some (.ref fa)) (O : POk K mg Γ G) (hf : Γ.P.fns i = some f) (hL : FnAt K mg "law" st (G.fa i))
    (S : FnScope N [x] (defScope st)) (nm : N.all okName = true) (hcomp : compSs ⟨N, Γ.gn, false⟩ m (defScope st) (defBody st) = f.body) (hp : f.np = 1) (hN : N.length = f.ns) (hn : n ≤ sizeLine)
    (b : ∀ (kV doc pm : Value) (an : Option Addr) (cdv ct : Value) (us : List Value), us.length = ([x] : List Str).length → bindArgs (PySem.W.fnOf "law" "law" (defArgs st) (defBody st) (defScope st) .none kV doc pm an cdv ct) ⟨us, []⟩ = pure (([x] : List Str).zip us))
    (res : ∀ (ns : List Int) (S : Store) (s : D), ns.length ≤ n → Scr S s ns → ∃ S', callF Γ.P (k + 1) i [s] S = .ok (.bl true) S') :
    ∃ fd : FuncData, (∀ (s : Shared) (u : Value), BindsTo s fd ⟨[u], []⟩ [(x, u)]) ∧ ∀ base : Heap, K.In base → base.Ns mainGlobals mg → FnOk Pg w K mg base (L2.CX Pg w) (2 * (k + 1)) fa fd [x] (spLaw K n) := by
  obtain ⟨fd, F⟩ := hL.ex
  have e := hfa.symm.trans hL.m
  cases e
  have F' := F
  obtain ⟨oc, od, kV, doc, pm, an, cdv, ct, osl, rfl, _, _⟩ := F.ex
  refine ⟨_, fun s u => .of_eq (b kV doc pm an cdv ct [u] rfl), fun base _ _ => ?_⟩
  have e2 : K = G.K := O.hK
  exact (fn_one O hf F' S (fun y hy => List.all_eq_true.mp nm y hy) hcomp (by rw [hp]; rfl) hN).imp fun vs H Q E q => sp_law' hf hp hn res vs H Q E (e2 ▸ q)
theorem EntOk.fn' {K : PySem.W.Frag} {mg : Str → Option Value} {G : GS} {P : Prog} {x : Str} {st : Stmt} {i : Nat} (h : FnAt K mg x st (G.fa i)) : EntOk K mg G P x (.fn i) := ⟨h.m, h.k⟩
theorem EntOk.none {K : PySem.W.Frag} {mg : Str → Option Value} {G : GS} {P : Prog} {x : Str} (h : mg x = Option.none) : EntOk K mg G P x .blt := h
theorem EntOk.int {K : PySem.W.Frag} {mg : Str → Option Value} {G : GS} {P : Prog} {x : Str} {g : Nat} {i : Int} {t : Tok} (h : mg x = some (.int i t)) (e : P.globs g = .int i) : EntOk K mg G P x (.glob g) := ⟨_, .int i, h, ⟨_, rfl⟩, fun m H => by rw [e]; exact RV.int⟩
/-- an own exception class -/
structure ClsAt (K : PySem.W.Frag) (mg : Str → Option Value) (x : Str) (c : Addr) : Prop where
  m : mg x = some (.ref c)
  ex : PySem.W.excIn K c [.type "ValueError", .type "Exception", .type "BaseException", .type "object"] "ValueError.__new__" = true
  k : PySem.W.keepIn K (.ref c) = true
  b : PySem.W.subIn K (.ref c) (.type "BaseException") = some true
  t : PySem.W.typeIn K (.ref c) = some (.type "type")
theorem EntOk.cls' {K : PySem.W.Frag} {mg : Str → Option Value} {G : GS} {P : Prog} {x : Str} {i : Nat} (h : ClsAt K mg x (G.ca i)) : EntOk K mg G P x (.cls i) := ⟨h.m, ⟨_, _, _, _, PySem.F.excBase_ValueError, h.ex⟩, h.k, raisesK h.b h.t⟩
theorem GnOk.cons {K : PySem.W.Frag} {mg : Str → Option Value} {G : GS} {P : Prog} {x : Str} {r : GR} {l : List (Str × GR)} (a : EntOk K mg G P x r) (b : GnOk K mg G P l) : GnOk K mg G P ((x, r) :: l) := ⟨a, b⟩
theorem FsOk.cons {K : PySem.W.Frag} {gn : List (Str × GR)} {fa : Nat → Addr} {i : Nat} {f : Fn} {l : List (Nat × Fn)} (a : DefOk K gn (fa i) f) (k : PySem.W.keepIn K (.ref (fa i)) = true) (b : FsOk K gn fa l) : FsOk K gn fa ((i, f) :: l) := ⟨⟨a, k⟩, b⟩
theorem noCX {Pg : Program} {w : World} {H : Hp} {s s' : Shared} {e : Value} (h : L2.CX Pg w [] H s (fun _ _ _ => False) e s') : False := by
  obtain ⟨_, _, _, _, _, _, _, _, _, _, _, _, z⟩ := h
  exact z
end EV

/-! the top, read by one run -/
namespace EV
open PySem L2 PyProof.Rows
/-- what is looked at behind the top: a test over the written part, the defs -/
def lookX (ck : PySem.W.Frag → Bool) (fn : List He.DefD) (K : PySem.W.Frag) : He.AlD := (ck K && fn.all fun d => d.ok K, fn.map fun d => He.fnW K d.at_)
/-- what these objects name -/
def nextX (g : Addr → Option Obj) (l : List Addr) : List Addr := l.flatMap fun a => match g a with
  | some o => He.refsD o
  | none => []
/-- the module's names, what their objects name, so often -/
def reachX (g : Addr → Option Obj) : Nat → List Addr → List Addr
  | 0, l => l
  | n + 1, l => l ++ reachX g n (nextX g l)
def partX (n : Nat) (names : List Str) (g : Addr → Option Obj) : PySem.W.Frag := He.frG g (mainGlobals :: reachX g n (names.map (He.ga (He.frG g [mainGlobals]))))
def seesX (n : Nat) (names : List Str) (ck : PySem.W.Frag → Bool) (fn : List He.DefD) (g : Addr → Option Obj) : He.AlD := lookX ck fn (partX n names g)
def hookX (n : Nat) (names : List Str) (ck : PySem.W.Frag → Bool) (fn : List He.DefD) : PySem.W.Hook :=
  { α := He.AlD, obs := fun s => seesX n names ck fn s.heap.get?, val := fun _ => He.valD fn, says := fun _ hp => ∃ K : PySem.W.Frag, K.In hp ∧ lookX ck fn K = He.valD fn
    of := fun w s e => ⟨partX n names s.heap.get?, He.frG_in, e⟩, keeps := fun w hp hp' ⟨K, q, c⟩ kk => ⟨K, q.keeps kk, c⟩ }
theorem seesX_eq {n : Nat} {names : List Str} {ck : PySem.W.Frag → Bool} {fn : List He.DefD} {g : Addr → Option Obj} {s : Shared} (h : ∀ a, g a = s.heap.get? a) : seesX n names ck fn g = (hookX n names ck fn).obs s := by
  rw [show g = s.heap.get? from funext h]
  rfl
section
variable {K : PySem.W.Frag} {ck : PySem.W.Frag → Bool} {fn : List He.DefD}
theorem saysX_ck (c : lookX ck fn K = He.valD fn) : ck K = true := (He.ba (show (ck K && fn.all fun d => d.ok K) = true from congrArg Prod.fst c)).1
theorem saysX_def (c : lookX ck fn K = He.valD fn) (i : Nat) {d : He.DefD} (h : fn[i]? = some d) : ∃ fd, FunD K d.name d.qual d.params d.body d.scope (d.dvs K) (d.kws K) (He.fAd K d.at_) fd := by
  have c1 := (He.ba (show (ck K && fn.all fun d => d.ok K) = true from congrArg Prod.fst c)).2
  have c2 : (fn.map fun d => He.fnW K d.at_)[i]? = (fn.map He.DefD.val)[i]? := by rw [show (fn.map fun d => He.fnW K d.at_) = fn.map He.DefD.val from congrArg Prod.snd c]
  rw [List.getElem?_map, List.getElem?_map, h] at c2
  exact He.DefD.funD (Option.some.inj c2) (List.all_eq_true.mp c1 d (List.mem_of_getElem? h))
end
abbrev dOf (x : Str) (st : Stmt) : He.DefD := ⟨(x, none), x, x, defArgs st, defBody st, defScope st, [], []⟩
theorem FnAt.ofX {K : PySem.W.Frag} {h : Heap} {mg : Str → Option Value} {ck : PySem.W.Frag → Bool} {fn : List He.DefD} {x : Str} {st : Stmt} (X : K.In h) (NS : h.Ns mainGlobals mg) (c : lookX ck fn K = He.valD fn) (i : Nat) (hi : fn[i]? = some (dOf x st)) (g : (He.Fa.glo x).ok K = true) : FnAt K mg x st (He.ga K x) := by
  obtain ⟨fd, F⟩ := saysX_def c i hi
  refine ⟨He.glo_ok X NS g, F.kp, fd, ⟨?_, F.kp⟩⟩
  obtain ⟨oc, od, dV, kV, doc, pm, an, cdv, ct, osl, e, lk, q, dv, kw⟩ := F.ex
  have e1 : dV = .none := by
    rcases dv with ⟨_, e⟩ | ⟨ne, _⟩
    · exact e
    · exact absurd rfl ne
  subst e1
  exact ⟨oc, od, kV, doc, pm, an, cdv, ct, osl, e, lk, q⟩
/-- an own class over ValueError -/
def excB (K : PySem.W.Frag) (D : Addr) : Bool :=
  He.eqO (PySem.W.findIn K (.ref D) "__getattribute__") (some (some (.builtin "BaseException.__getattribute__"))) && (He.eqO (PySem.W.findIn K (.ref D) "__getattr__") (some none) && (decide (PySem.W.subIn K (.ref D) (.type "BaseException") = some true) && (PySem.W.hasDictIn K D &&
  (He.eqO (PySem.W.findIn K (.ref D) "__class__") (some (some (.builtin "object.__class__"))) && (He.eqO (PySem.W.specialIn K (.builtin "object.__class__") "__get__") (some (some (.builtin "getset_descriptor.__get__"))) && (decide (PySem.W.takesIn K (.builtin "object.__class__") = some true) && decide (PySem.W.mroIn K D (.type "object") = some true)))))))
theorem excB_ok {K : PySem.W.Frag} {D : Addr} (h : excB K D = true) : ExcC K D := by
  unfold excB at h
  simp only [Bool.and_eq_true, decide_eq_true_eq] at h
  obtain ⟨h1, h2, h3, h4, h5, h6, h7, h8⟩ := h
  exact ⟨He.eqO_ok h1, He.eqO_ok h2, h3, h4, He.eqO_ok h5, He.eqO_ok h6, h7, h8⟩
def subB (K : PySem.W.Frag) (C : Addr) (c : Value) (b : Bool) : Bool := decide (PySem.W.kitOne K (.ref C) c = some b) && decide (PySem.W.exmOne K (.ref C) c = some b)
theorem subB_ok {K : PySem.W.Frag} {C : Addr} {c : Value} {b : Bool} (h : subB K C c b = true) : PySem.W.kitOne K (.ref C) c = some b ∧ PySem.W.exmOne K (.ref C) c = some b := by
  unfold subB at h
  simpa only [Bool.and_eq_true, decide_eq_true_eq] using h
theorem ClsAt.ofX {K : PySem.W.Frag} {h : Heap} {mg : Str → Option Value} {x : Str} (X : K.In h) (NS : h.Ns mainGlobals mg) (g : (He.Fa.glo x).ok K = true) (e : (He.Fa.exc x).ok K = true) : ClsAt K mg x (He.ga K x) := by
  obtain ⟨e1, e2, e3, e4⟩ := He.exc_ok e
  exact ⟨He.glo_ok X NS g, e1, e2, e3, e4⟩
/-- the end: all that a world's run has left, a promise for each base -/
theorem walkX {law : PySem.W.OpenLaw} {most lvl : Nat} {q : Program} {loose : List Str} {XP : (Str → Option Value) → Heap → Prop} {YP : World → Heap → Prop} {d : DefRec} {x : Str} (e1 : law.most = some most) (e2 : most ≤ sizeLine) (e3 : d.params.defaults = []) (e4 : Room lvl callerA)
    (F : ∀ (w : World) (mg : Str → Option Value) (fa : Addr) (hp : Heap), YP w hp → hp.Ns mainGlobals mg → mg d.name = some (.ref fa) → ∃ (K : PySem.W.Frag) (fd : FuncData), K.In hp ∧ (∀ (s : Shared) (u : Value), BindsTo s fd ⟨[u], []⟩ [(x, u)]) ∧
      ∀ bs : Heap, K.In bs → bs.Ns mainGlobals mg → FnOk law.prog w K mg bs (L2.CX law.prog w) lvl fa fd [x] (spLaw K most)) : PySem.W.WalkO q loose XP YP law.row.toRowW d [] (fun f vs => PySem.call f vs) :=
  Att.attach_call e1 e3 fun w t0 t1 mg mb fa o pm cd doc a vs ns T Y b1 b2 b3 b4 b5 b6 b7 b8 =>
    let ⟨K, fd, q1, q2, q3⟩ := F w mg fa _ Y T.T.g b4
    law_call q1 T.T.g T.T.b T.T.builtins T.T.nolimit b8 b5 b6 (Nat.le_trans b7 e2) e4 q3 q2 (fun H o1 o2 => ⟨a, ns, rfl, b7, o1, o2, fun _ => rfl⟩) fun H e s' h => noCX h
end EV

/-! running the evaluator by rewriting: only what is run next is rewritten -/
namespace EV
open PySem

/-! ### the joints -/
def Pin {α : Type} (_ : α) : Type := Unit
def pin {α : Type} (a : α) : Pin a := ()
def Res.bnd {α β : Type} (r : Res α) (f : α → Store → Res β) (_ : Pin f := pin f) : Res β := r.bind f
theorem bnd_ok {α β : Type} (a : α) (S : Store) (f : α → Store → Res β) (p : Pin f) : (Res.ok a S).bnd f p = f a S := Eq.trans rfl rfl
theorem bnd_err {α β : Type} (x : Ex) (S : Store) (f : α → Store → Res β) (p : Pin f) : (Res.err x S : Res α).bnd f p = .err x S := Eq.trans rfl rfl
theorem bnd_bad {α β : Type} (f : α → Store → Res β) (p : Pin f) : (Res.bad : Res α).bnd f p = .bad := Eq.trans rfl rfl
def on {α : Type} (r : Res α) (σ : Env) (f : α → Store → RS) (_ : Pin f := pin f) : RS := ofR r σ f
theorem on_ok {α : Type} (a : α) (S : Store) (σ : Env) (f : α → Store → RS) (p : Pin f) : on (.ok a S) σ f p = f a S := Eq.trans rfl rfl
theorem on_err {α : Type} (x : Ex) (S : Store) (σ : Env) (f : α → Store → RS) (p : Pin f) : on (.err x S) σ f p = .err x σ S := Eq.trans rfl rfl
theorem on_bad {α : Type} (σ : Env) (f : α → Store → RS) (p : Pin f) : on .bad σ f p = .bad := Eq.trans rfl rfl
def sel {α : Type} (b : Bool) (x y : α) (_ : Pin (x, y) := pin (x, y)) : α := match b with | true => x | false => y
theorem sel_true {α : Type} (x y : α) (p : Pin (x, y)) : sel true x y p = x := Eq.trans rfl rfl
theorem sel_false {α : Type} (x y : α) (p : Pin (x, y)) : sel false x y p = y := Eq.trans rfl rfl
def slotR (o : Option SV) (S : Store) : Res D := match o with | some (.val d) => .ok d S | _ => .bad
theorem slotR_val (d : D) (S : Store) : slotR (some (.val d)) S = .ok d S := Eq.trans rfl rfl
def fnR (o : Option SV) (f : Nat → Res D) : Res D := match o with | some (.val (.fn i)) => f i | _ => .bad
theorem fnR_fn (i : Nat) (f : Nat → Res D) : fnR (some (.val (.fn i))) f = f i := Eq.trans rfl rfl
def isR (o : Option SV) (t : Cl) (C : Ctx) (S : Store) : Res D := match o with
  | some (.val x) => isiop x t S
  | some (.exc c _) => ofO (C.isSub c t) fun b => .ok (.bl b) S
  | _ => .bad
theorem isR_val (x : D) (t : Cl) (C : Ctx) (S : Store) : isR (some (.val x)) t C S = isiop x t S := Eq.trans rfl rfl
theorem isR_excP (c : Nat) (f : Option Int) (t : Cl) (P : Prog) (k : Nat) (S : Store) : isR (some (.exc c f)) t (P.ctx k) S = ofO (P.isSub c t) fun b => .ok (.bl b) S := Eq.trans rfl rfl
theorem isR_exc (c : Nat) (f : Option Int) (t : Cl) (C : Ctx) (S : Store) : isR (some (.exc c f)) t C S = ofO (C.isSub c t) fun b => .ok (.bl b) S := Eq.trans rfl rfl
def negR (x : D) (S : Store) : Res D := match x with | .int i => .ok (.int (-i)) S | _ => .bad
theorem negR_int (i : Int) (S : Store) : negR (.int i) S = .ok (.int (-i)) S := Eq.trans rfl rfl
def notR (x : D) (S : Store) : Res D := match x with | .bl c => .ok (.bl (!c)) S | _ => .bad
theorem notR_bl (c : Bool) (S : Store) : notR (.bl c) S = .ok (.bl (!c)) S := Eq.trans rfl rfl
def blSel {α : Type} (x : D) (t f : Res α) (_ : Pin (t, f) := pin (t, f)) : Res α := match x with | .bl true => t | .bl false => f | _ => .bad
theorem blSel_bl {α : Type} (b : Bool) (t f : Res α) (p : Pin (t, f)) : blSel (.bl b) t f p = sel b t f p := by cases b <;> rfl
def optR (x : D) (S : Store) : Res (Option Int) := match x with | .int i => .ok (some i) S | _ => .bad
theorem optR_int (i : Int) (S : Store) : optR (.int i) S = .ok (some i) S := Eq.trans rfl rfl
def augR (o : Option SV) (f : D → RS) : RS := match o with | some (.val x) => f x | _ => .bad
theorem augR_val (x : D) (f : D → RS) : augR (some (.val x)) f = f x := Eq.trans rfl rfl
def RS.thn (r : RS) (f : Env → Store → RS) (_ : Pin f := pin f) : RS := match r with | .next σ S => f σ S | r => r
theorem thn_next (σ : Env) (S : Store) (f : Env → Store → RS) (p : Pin f) : (RS.next σ S).thn f p = f σ S := Eq.trans rfl rfl
theorem thn_ret (d : D) (S : Store) (f : Env → Store → RS) (p : Pin f) : (RS.ret d S).thn f p = .ret d S := Eq.trans rfl rfl
theorem thn_err (x : Ex) (σ : Env) (S : Store) (f : Env → Store → RS) (p : Pin f) : (RS.err x σ S).thn f p = .err x σ S := Eq.trans rfl rfl
theorem thn_brk (σ : Env) (S : Store) (f : Env → Store → RS) (p : Pin f) : (RS.brk σ S).thn f p = .brk σ S := Eq.trans rfl rfl
theorem thn_cont (σ : Env) (S : Store) (f : Env → Store → RS) (p : Pin f) : (RS.cont σ S).thn f p = .cont σ S := Eq.trans rfl rfl
def RS.again (r : RS) (f : Env → Store → RS) (_ : Pin f := pin f) : RS := match r with | .next σ S => f σ S | .cont σ S => f σ S | .brk σ S => .next σ S | .ret d S => .ret d S | .err x σ S => .err x σ S | .bad => .bad
theorem again_next (σ : Env) (S : Store) (f : Env → Store → RS) (p : Pin f) : (RS.next σ S).again f p = f σ S := Eq.trans rfl rfl
theorem again_cont (σ : Env) (S : Store) (f : Env → Store → RS) (p : Pin f) : (RS.cont σ S).again f p = f σ S := Eq.trans rfl rfl
theorem again_brk (σ : Env) (S : Store) (f : Env → Store → RS) (p : Pin f) : (RS.brk σ S).again f p = .next σ S := Eq.trans rfl rfl
theorem again_ret (d : D) (S : Store) (f : Env → Store → RS) (p : Pin f) : (RS.ret d S).again f p = .ret d S := Eq.trans rfl rfl
theorem again_err (x : Ex) (σ : Env) (S : Store) (f : Env → Store → RS) (p : Pin f) : (RS.err x σ S).again f p = .err x σ S := Eq.trans rfl rfl
def RS.ctch (r : RS) (f : Ex → Env → Store → RS) (_ : Pin f := pin f) : RS := match r with | .err x σ S => f x σ S | r => r
theorem ctch_next (σ : Env) (S : Store) (f : Ex → Env → Store → RS) (p : Pin f) : (RS.next σ S).ctch f p = .next σ S := Eq.trans rfl rfl
theorem ctch_ret (d : D) (S : Store) (f : Ex → Env → Store → RS) (p : Pin f) : (RS.ret d S).ctch f p = .ret d S := Eq.trans rfl rfl
theorem ctch_err (x : Ex) (σ : Env) (S : Store) (f : Ex → Env → Store → RS) (p : Pin f) : (RS.err x σ S).ctch f p = f x σ S := Eq.trans rfl rfl
noncomputable def fin (S : Store) (r : RS) : Res D := match r with
  | .ret d S' => .ok d (trim S S' d)
  | .next _ S' => .ok .non (trim S S' .non)
  | .err x _ S' => .err x (trimX S S')
  | _ => .bad
theorem fin_ret (S S' : Store) (d : D) : fin S (.ret d S') = .ok d (trim S S' d) := Eq.trans rfl rfl
theorem fin_next (S S' : Store) (σ : Env) : fin S (.next σ S') = .ok .non (trim S S' .non) := Eq.trans rfl rfl
theorem fin_err (S S' : Store) (x : Ex) (σ : Env) : fin S (.err x σ S') = .err x (trimX S S') := Eq.trans rfl rfl

/-! only the head is rewritten -/
theorem sel_cg {α : Type} {b b' : Bool} {x y : α} {p : Pin (x, y)} (h : b = b') : sel b x y p = sel b' x y p := by rw [h]
theorem bnd_cg {α β : Type} {r r' : Res α} {f : α → Store → Res β} {p : Pin f} (h : r = r') : r.bnd f p = r'.bnd f p := by rw [h]
theorem on_cg {α : Type} {r r' : Res α} {σ : Env} {f : α → Store → RS} {p : Pin f} (h : r = r') : on r σ f p = on r' σ f p := by rw [h]
theorem thn_cg {r r' : RS} {f : Env → Store → RS} {p : Pin f} (h : r = r') : r.thn f p = r'.thn f p := by rw [h]
theorem again_cg {r r' : RS} {f : Env → Store → RS} {p : Pin f} (h : r = r') : r.again f p = r'.again f p := by rw [h]
theorem ctch_cg {r r' : RS} {f : Ex → Env → Store → RS} {p : Pin f} (h : r = r') : r.ctch f p = r'.ctch f p := by rw [h]
theorem okIf_cg {α : Type} {c c' : Prop} [Decidable c] [Decidable c'] {r : Res α} (h : c = c') : okIf c r = okIf c' r := by
  subst h
  unfold okIf
  by_cases hc : c
  · rw [if_pos hc, if_pos hc]
  · rw [if_neg hc, if_neg hc]
theorem okIf_t {α : Type} {r : Res α} : okIf True r = r := Eq.trans rfl rfl
theorem blSel_cg {α : Type} {x x' : D} {t f : Res α} {p : Pin (t, f)} (h : x = x') : blSel x t f p = blSel x' t f p := by rw [h]

/-! ### loops, kept whole -/
noncomputable def forG (C : Ctx) (t : CT) (b : CSs) (J : It) (ds : List D) (σ : Env) (S : Store) : RS := turns J (fun d σ S => ofR (evT C t d σ S) σ fun σ' S' => evSs C b σ' S') ds σ S
noncomputable def genG (C : Ctx) (vs : List Nat) (t : CT) (c : CB) (e : CE) (σ : Env) (J : It) (ds : List D) (S : Store) : Res (List D) :=
  gather J (eltF (fun d S => evT C t d (wipeE σ vs) S) (fun σ' S => evB C c σ' S) (fun σ' S => evE C e σ' S)) ds S
noncomputable def loopG (C : Ctx) (c : CB) (b : CSs) (σ : Env) (S : Store) : RS := whileR (fun σ S => evB C c σ S) (fun σ S => evSs C b σ S) σ S
section
variable {C : Ctx} {σ : Env} {S : Store}
theorem forG_nil {t : CT} {b : CSs} {J : It} (h : J.still S) : forG C t b J [] σ S = .next σ S := by unfold forG turns; rw [chkS_true h]
theorem forG_cons {t : CT} {b : CSs} {J : It} {d : D} {ds : List D} (h : J.still S) : forG C t b J (d :: ds) σ S = (on (evT C t d σ S) σ fun σ' S' => evSs C b σ' S').again fun σ' S' => forG C t b J ds σ' S' := by
  unfold forG
  rw [turns]
  rw [chkS_true h]
  unfold on
  generalize (ofR (evT C t d σ S) σ fun σ' S' => evSs C b σ' S') = r
  cases r <;> rfl
theorem genG_nil {vs : List Nat} {t : CT} {c : CB} {e : CE} {J : It} (h : J.still S) : genG C vs t c e σ J [] S = .ok [] S := by unfold genG gather; rw [chk_true h]
/-- one turn of a comprehension -/
noncomputable def eltG (C : Ctx) (vs : List Nat) (t : CT) (c : CB) (e : CE) (σ : Env) (d : D) (S : Store) : Res (Option D) :=
  ((evT C t d (wipeE σ vs) S).bnd fun σ' S' => (evB C c σ' S').bnd fun b S'' => sel b ((evE C e σ' S'').bnd fun x S3 => .ok (some x) S3) (.ok none S'')).noerr
def tack (o : Option D) (l : List D) : List D := match o with | some x => x :: l | none => l
theorem genG_cons {vs : List Nat} {t : CT} {c : CB} {e : CE} {J : It} {d : D} {ds : List D} (h : J.still S) : genG C vs t c e σ J (d :: ds) S = (eltG C vs t c e σ d S).bnd fun o S' => (genG C vs t c e σ J ds S').bnd fun l S'' => .ok (tack o l) S'' := by
  unfold genG
  rw [gather]
  rw [chk_true h]
  have e1 : eltF (fun d S => evT C t d (wipeE σ vs) S) (fun σ' S => evB C c σ' S) (fun σ' S => evE C e σ' S) d S = eltG C vs t c e σ d S := by
    rfl
  rw [e1]
  rfl
theorem loopG_eq {c : CB} {b : CSs} : loopG C c b σ S = on (evB C c σ S) σ fun t S' => sel t ((evSs C b σ S').again fun σ' S'' => loopG C c b σ' S'') (.next σ S') := by
  unfold loopG on
  rw [whileR_eq]
  generalize evB C c σ S = r
  cases r with
  | ok b' S' =>
    cases b' with
    | true =>
      simp only [ofR_ok, sel_true]
      generalize evSs C b σ S' = q
      cases q <;> rfl
    | false => rfl
  | _ => rfl

/-! ### expressions -/
theorem e_slot {i : Nat} : evE C (.slot i) σ S = slotR σ[i]? S := by unfold evE slotR; rfl
theorem e_lit {d : D} : evE C (.lit d) σ S = .ok d S := by unfold evE; rfl
theorem e_glob {g : Nat} : evE C (.glob g) σ S = .ok (C.globs g) S := by unfold evE; rfl
theorem e_globP {P : Prog} {k g : Nat} : evE (P.ctx k) (.glob g) σ S = .ok (P.globs g) S := by unfold evE; rfl
theorem e_tup {es : CEs} : evE C (.tup es) σ S = (evEs C es σ S).bnd fun l S' => .ok (.tup l) S' := by rw [evE] <;> rfl
theorem e_lst {es : CEs} : evE C (.lst es) σ S = (evEs C es σ S).bnd fun l S' => .ok (.ref S'.length) (S' ++ [.lst l]) := by rw [evE] <;> rfl
theorem e_bin {op : Operator} {a b : CE} : evE C (.bin op a b) σ S = (evE C a σ S).bnd fun x S1 => (evE C b σ S1).bnd fun y S2 => binop op x y S2 := by rw [evE] <;> rfl
theorem e_neg {a : CE} : evE C (.neg a) σ S = (evE C a σ S).bnd fun x S1 => negR x S1 := by rw [evE] <;> rfl
theorem e_not {a : CE} : evE C (.not a) σ S = (evE C a σ S).bnd fun x S1 => notR x S1 := by rw [evE] <;> rfl
theorem e_and {a b : CE} : evE C (.and a b) σ S = (evE C a σ S).bnd fun x S1 => blSel x (evE C b σ S1) (.ok (.bl false) S1) := by rw [evE] <;> rfl
theorem e_or {a b : CE} : evE C (.or a b) σ S = (evE C a σ S).bnd fun x S1 => blSel x (.ok (.bl true) S1) (evE C b σ S1) := by
  rw [evE]
  unfold Res.bnd
  congr 1
  funext x S1
  cases x <;> first | rfl | (rename_i b; cases b <;> rfl)
theorem e_cmp {op : CmpOp} {a b : CE} : evE C (.cmp op a b) σ S = (evE C a σ S).bnd fun x S1 => (evE C b σ S1).bnd fun y S2 => cmpop op x y S2 := by rw [evE] <;> rfl
theorem e_cmp2 {op op' : CmpOp} {a b c : CE} : evE C (.cmp2 op op' a b c) σ S = (evE C a σ S).bnd fun x S1 => (evE C b σ S1).bnd fun y S2 => (cmpop op x y S2).bnd fun r S3 => blSel r ((evE C c σ S3).bnd fun z S4 => cmpop op' y z S4) (.ok (.bl false) S3) := by rw [evE] <;> rfl
theorem e_ite {c : CB} {a b : CE} : evE C (.ite c a b) σ S = (evB C c σ S).bnd fun t S1 => sel t (evE C a σ S1) (evE C b σ S1) := by rw [evE] <;> rfl
theorem e_call {P : Prog} {k i : Nat} {es : CEs} : evE (P.ctx k) (.call i es) σ S = (evEs (P.ctx k) es σ S).bnd fun l S1 => callF P k i l S1 := by rw [evE] <;> rfl
theorem e_callv {P : Prog} {k i : Nat} {es : CEs} : evE (P.ctx k) (.callv i es) σ S = fnR σ[i]? fun f => okIf ((P.fns f).isSome = true) ((evEs (P.ctx k) es σ S).bnd fun l S1 => callF P k f l S1) := by rw [evE] <;> rfl
theorem e_bi {f : Bi} {es : CEs} : evE C (.bi f es) σ S = (evEs C es σ S).bnd fun l S1 => biop f l S1 := by rw [evE] <;> rfl
theorem e_bic {f : Bi} {c : CC} : evE C (.bic f c) σ S = (evC C c σ S).bnd fun l S1 => biL f l S1 := by rw [evE] <;> rfl
theorem e_isi {a : CE} {t : Cl} : evE C (.isi a t) σ S = (evE C a σ S).bnd fun x S1 => isiop x t S1 := by rw [evE] <;> rfl
theorem e_isiS {i : Nat} {t : Cl} : evE C (.isiS i t) σ S = isR σ[i]? t C S := by rw [evE] <;> rfl
theorem e_mth {m : Mt} {a : CE} {es : CEs} : evE C (.mth m a es) σ S = (evE C a σ S).bnd fun x S1 => okIf (mtChk m x S1 = true) <| (evEs C es σ S1).bnd fun l S2 => mtop m x l S2 := by rw [evE] <;> rfl
theorem e_ix {a b : CE} : evE C (.ix a b) σ S = (evE C a σ S).bnd fun x S1 => (evE C b σ S1).bnd fun y S2 => ixop x y S2 := by rw [evE] <;> rfl
theorem e_sl {a : CE} {lo hi : CO} : evE C (.sl a lo hi) σ S = (evE C a σ S).bnd fun x S1 => (evO C lo σ S1).bnd fun l S2 => (evO C hi σ S2).bnd fun h S3 => slop x l h S3 := by rw [evE] <;> rfl
theorem e_rev {a : CE} : evE C (.rev a) σ S = (evE C a σ S).bnd fun x S1 => revop x S1 := by rw [evE] <;> rfl
theorem e_lc {c : CC} : evE C (.lc c) σ S = (evC C c σ S).bnd fun l S1 => .ok (.ref S1.length) (S1 ++ [.lst l]) := by rw [evE] <;> rfl
theorem o_none : evO C .none σ S = .ok none S := by rw [evO] <;> rfl
theorem o_some {e : CE} : evO C (.some e) σ S = (evE C e σ S).bnd fun x S1 => optR x S1 := by rw [evO] <;> rfl
theorem es_nil : evEs C .nil σ S = .ok [] S := by rw [evEs] <;> rfl
theorem es_cons {e : CE} {es : CEs} : evEs C (.cons e es) σ S = (evE C e σ S).bnd fun x S1 => (evEs C es σ S1).bnd fun l S2 => .ok (x :: l) S2 := by rw [evEs] <;> rfl
theorem b_val {e : CE} : evB C (.val e) σ S = (evE C e σ S).bnd fun x S1 => ofO (truth S1 x) fun b => .ok b S1 := by rw [evB] <;> rfl
theorem b_not {a : CB} : evB C (.not a) σ S = (evB C a σ S).bnd fun b S1 => .ok (!b) S1 := by rw [evB] <;> rfl
theorem b_and {a b : CB} : evB C (.and a b) σ S = (evB C a σ S).bnd fun t S1 => sel t (evB C b σ S1) (.ok false S1) := by rw [evB] <;> rfl
theorem b_or {a b : CB} : evB C (.or a b) σ S = (evB C a σ S).bnd fun t S1 => sel t (.ok true S1) (evB C b σ S1) := by rw [evB] <;> rfl
theorem b_yes : evB C .yes σ S = .ok true S := by rw [evB] <;> rfl
theorem c_mk {vs : List Nat} {t : CT} {it : CI} {c : CB} {e : CE} : evC C (.mk vs t it c e) σ S = (evI C it σ S).bnd fun J S1 => okIf (J.items.length ≤ sizeLine) (genG C vs t c e σ J J.items S1) := by rw [evC] <;> rfl
theorem i_seq {e : CE} : evI C (.seq e) σ S = (evE C e σ S).bnd fun x S1 => itSeq x S1 := by rw [evI] <;> rfl
theorem i_range1 {a : CE} : evI C (.range1 a) σ S = (evE C a σ S).bnd fun x S1 => itRange1 x S1 := by rw [evI] <;> rfl
theorem i_range2 {a b : CE} : evI C (.range2 a b) σ S = (evE C a σ S).bnd fun x S1 => (evE C b σ S1).bnd fun y S2 => itRange2 x y S2 := by rw [evI] <;> rfl
theorem i_range3 {a b c : CE} : evI C (.range3 a b c) σ S = (evE C a σ S).bnd fun x S1 => (evE C b σ S1).bnd fun y S2 => (evE C c σ S2).bnd fun z S3 => itRange3 x y z S3 := by rw [evI] <;> rfl
theorem i_enum {e : CE} : evI C (.enum e) σ S = (evE C e σ S).bnd fun x S1 => itEnum x S1 := by rw [evI] <;> rfl
theorem t_slot {i : Nat} {d : D} : evT C (.slot i) d σ S = .ok (σ.set i (.val d)) S := by rw [evT] <;> rfl
theorem t_tup {ts : CTs} {l : List D} : evT C (.tup ts) (.tup l) σ S = evTs C ts l σ S := by rw [evT] <;> rfl
theorem t_ix {o i : CE} {d : D} : evT C (.ix o i) d σ S = ((evE C o σ S).bnd fun x S1 => (evE C i σ S1).bnd fun y S2 => (setop x y d S2).bnd fun _ S3 => .ok σ S3).noerr := by rw [evT] <;> rfl
theorem ts_nil : evTs C .nil [] σ S = .ok σ S := by rw [evTs] <;> rfl
theorem ts_cons {t : CT} {ts : CTs} {d : D} {l : List D} : evTs C (.cons t ts) (d :: l) σ S = (evT C t d σ S).bnd fun σ' S' => evTs C ts l σ' S' := by rw [evTs] <;> rfl

/-! ### statements -/
theorem s_asg {t : CT} {e : CE} : evS C (.asg t e) σ S = on (evE C e σ S) σ fun d S1 => on (evT C t d σ S1) σ fun σ' S2 => .next σ' S2 := by rw [evS] <;> rfl
theorem s_par {i j : Nat} {a b : CE} : evS C (.par i j a b) σ S = on (evE C a σ S) σ fun x S1 => on (evE C b σ S1) σ fun y S2 => .next ((σ.set i (.val x)).set j (.val y)) S2 := by rw [evS] <;> rfl
theorem s_aug {i : Nat} {op : Operator} {e : CE} : evS C (.aug i op e) σ S = augR σ[i]? fun x => on (evE C e σ S) σ fun y S1 => on (augop op x y S1) σ fun z S2 => .next (σ.set i (.val z)) S2 := by rw [evS] <;> rfl
theorem s_for {t : CT} {it : CI} {b : CSs} : evS C (.forS t it b) σ S = on (evI C it σ S) σ fun J S1 => forG C t b J J.items σ S1 := by rw [evS] <;> rfl
theorem s_while {c : CB} {b : CSs} : evS C (.whileS c b) σ S = loopG C c b σ S := by rw [evS] <;> rfl
theorem s_if {c : CB} {a b : CSs} : evS C (.ite c a b) σ S = on (evB C c σ S) σ fun t S1 => sel t (evSs C a σ S1) (evSs C b σ S1) := by rw [evS] <;> rfl
theorem s_ret {e : CE} : evS C (.ret e) σ S = on (evE C e σ S) σ fun d S1 => .ret d S1 := by rw [evS] <;> rfl
theorem s_retN : evS C .retN σ S = .ret .non S := by rw [evS] <;> rfl
theorem s_expr {e : CE} : evS C (.expr e) σ S = on (evE C e σ S) σ fun _ S1 => .next σ S1 := by rw [evS] <;> rfl
theorem s_raise {c : Nat} {f : Option Int} : evS C (.raise c f) σ S = .err ⟨c, f⟩ σ S := by rw [evS] <;> rfl
theorem s_try {b : CSs} {hs : CHs} : evS C (.tryS b hs) σ S = (evSs C b σ S).ctch fun x σ' S' => evHs C hs x σ' S' := by rw [evS] <;> rfl
theorem s_brk : evS C .brk σ S = .brk σ S := by rw [evS] <;> rfl
theorem s_cont : evS C .cont σ S = .cont σ S := by rw [evS] <;> rfl
theorem s_pass : evS C .pass σ S = .next σ S := by rw [evS] <;> rfl
theorem ss_nil : evSs C .nil σ S = .next σ S := by rw [evSs] <;> rfl
theorem ss_cons {s : CS} {ss : CSs} : evSs C (.cons s ss) σ S = (evS C s σ S).thn fun σ' S' => evSs C ss σ' S' := by
  rw [evSs]
  generalize evS C s σ S = r
  cases r <;> rfl
end
theorem callF_of {P : Prog} {k i : Nat} {f : Fn} {ds : List D} {S : Store} (hf : P.fns i = some f) (hl : ds.length = f.np) : callF P (k + 1) i ds S = fin S (evSs (P.ctx k) f.body (ds.map .val ++ List.replicate (f.ns - f.np) .no) S) := by
  unfold callF fin
  rw [hf]
  simp only [if_pos hl] <;> rfl
theorem trim_len {S S' : Store} {d : D} (h : S'.length = S.length) : trim S S' d = S' := by
  unfold trim
  split
  · rw [← h, List.take_length]
  · rfl
theorem trim_self {S : Store} {d : D} : trim S S d = S := trim_len rfl
theorem trimX_len {S S' : Store} (h : S'.length = S.length) : trimX S S' = S' := by
  unfold trimX
  split
  · rw [← h, List.take_length]
  · rfl
theorem trimX_self {S : Store} : trimX S S = S := trimX_len rfl
/-- what was laid at the end goes -/
theorem trim_cut {S S1 X : Store} {d : D} (hd : d.pure = true) (hl : S1.length = S.length) (h : ∀ i, i < S.length → S1[i]? = S[i]? ∨ ∃ c, S1[i]? = some c ∧ c.lo S.length = true) : trim S (S1 ++ X) d = S1 := by
  unfold trim
  rw [if_pos ⟨hd, fun i hi => by rw [List.getElem?_append_left (by omega)]; exact h i hi⟩, ← hl, List.take_left']
  rfl
theorem trimX_cut {S S1 X : Store} (hl : S1.length = S.length) (h : ∀ i, i < S.length → S1[i]? = S[i]? ∨ ∃ c, S1[i]? = some c ∧ c.lo S.length = true) : trimX S (S1 ++ X) = S1 := by
  unfold trimX
  rw [if_pos (show trimOk S (S1 ++ X) from fun i hi => by rw [List.getElem?_append_left (by omega)]; exact h i hi), ← hl, List.take_left']
  rfl
end EV

/-! the operators, by rewriting -/
namespace EV
open PySem
section
variable {S : Store} {i j : Int} {a b : Bool} {x y : Str}
theorem bin_add : binop .Add (.int i) (.int j) S = .ok (.int (i + j)) S := Eq.trans rfl rfl
theorem bin_sub : binop .Sub (.int i) (.int j) S = .ok (.int (i - j)) S := Eq.trans rfl rfl
theorem bin_mul : binop .Mult (.int i) (.int j) S = okIf (mulG i j) (.ok (.int (i * j)) S) := Eq.trans rfl rfl
theorem bin_div : binop .FloorDiv (.int i) (.int j) S = okIf (j ≠ 0 ∧ Builtin.divisionGoesByPylong i j = false) (.ok (.int (i.fdiv j)) S) := Eq.trans rfl rfl
theorem bin_mod : binop .Mod (.int i) (.int j) S = okIf (j ≠ 0) (.ok (.int (i.fmod j)) S) := Eq.trans rfl rfl
theorem bin_pow : binop .Pow (.int i) (.int j) S = okIf (0 ≤ j ∧ j ≤ 1000000 ∧ i.natAbs < 2 ^ 64) (.ok (.int (i ^ j.toNat)) S) := Eq.trans rfl rfl
theorem bin_addS : binop .Add (.str x) (.str y) S = okIf (x.length + y.length ≤ sizeLine) (.ok (.str (x ++ y)) S) := Eq.trans rfl rfl
theorem bin_addT {l l' : List D} : binop .Add (.tup l) (.tup l') S = okIf (l.length + l'.length ≤ sizeLine) (.ok (.tup (l ++ l')) S) := Eq.trans rfl rfl
theorem bin_addL {p q : Nat} : binop .Add (.ref p) (.ref q) S = ofO (lstOf S p) fun a => ofO (lstOf S q) fun b => okIf (a.length + b.length ≤ sizeLine) (.ok (.ref S.length) (S ++ [.lst (a ++ b)])) := Eq.trans rfl rfl
theorem bin_mulL {p : Nat} : binop .Mult (.ref p) (.int i) S = ofO (lstOf S p) fun a => okIf (-(2 ^ 63) ≤ i ∧ i < 2 ^ 63 ∧ a.length * i.toNat ≤ sizeLine) (.ok (.ref S.length) (S ++ [.lst (List.replicate i.toNat a).flatten])) := Eq.trans rfl rfl
theorem aug_add : augop .Add (.int i) (.int j) S = .ok (.int (i + j)) S := Eq.trans rfl rfl
theorem aug_sub : augop .Sub (.int i) (.int j) S = .ok (.int (i - j)) S := Eq.trans rfl rfl
theorem eqS_of {d e : D} {u v : PyData} (h1 : D.py S 70 d = some u) (h2 : D.py S 70 e = some v) (h3 : SeqAt.shaped u = true) (h4 : SeqAt.shaped v = true) : eqS S d e = some (PyData.eqv u v) := by
  unfold eqS
  rw [h1, h2]
  simp only [h3, h4, and_self, if_true]
theorem eqS_int : eqS S (.int i) (.int j) = some (decide (i = j)) := eqS_of (u := .int i) (v := .int j) rfl rfl rfl rfl
theorem eqS_bl : eqS S (.bl a) (.bl b) = some (decide (a = b)) := by rw [eqS_of (u := .bool a) (v := .bool b) rfl rfl rfl rfl]; cases a <;> cases b <;> rfl
theorem shaped_str (h : PyData.strOk x = true) : SeqAt.shaped (.str x) = true := by unfold SeqAt.shaped PyData.canLay0 PyData.depth; rw [h]; rfl
theorem eqS_str (h1 : PyData.strOk x = true) (h2 : PyData.strOk y = true) : eqS S (.str x) (.str y) = some (decide (x = y)) := by
  rw [eqS_of (u := .str x) (v := .str y) rfl rfl (shaped_str h1) (shaped_str h2)]
  rfl
theorem c_eq {d e : D} : cmpop .Eq d e S = ofO (eqS S d e) fun b => .ok (.bl b) S := Eq.trans rfl rfl
theorem c_ne {d e : D} : cmpop .NotEq d e S = ofO (eqS S d e) fun b => .ok (.bl (!b)) S := Eq.trans rfl rfl
theorem c_lt : cmpop .Lt (.int i) (.int j) S = .ok (.bl (decide (i < j))) S := Eq.trans rfl rfl
theorem c_le : cmpop .LtE (.int i) (.int j) S = .ok (.bl (decide (i ≤ j))) S := Eq.trans rfl rfl
theorem c_gt : cmpop .Gt (.int i) (.int j) S = .ok (.bl (decide (j < i))) S := Eq.trans rfl rfl
theorem c_ge : cmpop .GtE (.int i) (.int j) S = .ok (.bl (decide (j ≤ i))) S := Eq.trans rfl rfl
theorem c_isN {d : D} : cmpop .Is d .non S = .ok (.bl (isNonD d)) S := Eq.trans rfl rfl
theorem c_isntN {d : D} : cmpop .IsNot d .non S = .ok (.bl (!isNonD d)) S := Eq.trans rfl rfl
theorem bi_one {f : Bi} {d : D} : biop f [d] S = bi1 f d S := Eq.trans rfl rfl
theorem bi_two {f : Bi} {d e : D} : biop f [d, e] S = bi2 f d e S := Eq.trans rfl rfl
theorem bi1_int {f : Bi} : bi1 f (.int i) S = biI f i S := Eq.trans rfl rfl
theorem bi1_bl {f : Bi} : bi1 f (.bl a) S = biB f a S := Eq.trans rfl rfl
theorem bi1_str {f : Bi} : bi1 f (.str x) S = biS f x S := Eq.trans rfl rfl
theorem bi1_tup {f : Bi} {l : List D} : bi1 f (.tup l) S = biT f l S := Eq.trans rfl rfl
theorem bi1_ref {f : Bi} {p : Nat} : bi1 f (.ref p) S = ofO (seqOf S (.ref p)) fun l => biL f l S := Eq.trans rfl rfl
theorem bi2_int {f : Bi} : bi2 f (.int i) (.int j) S = biII f i j S := Eq.trans rfl rfl
theorem biI_int : biI .int i S = .ok (.int i) S := Eq.trans rfl rfl
theorem biB_int : biB .int a S = .ok (.int (if a then 1 else 0)) S := Eq.trans rfl rfl
theorem biI_abs : biI .abs i S = .ok (.int i.natAbs) S := by
  show Res.ok (D.int (if i < 0 then -i else i)) S = _
  have e : (if i < 0 then -i else i) = (i.natAbs : Int) := by split <;> omega
  rw [e]
theorem biT_len {l : List D} : biT .len l S = .ok (.int l.length) S := Eq.trans rfl rfl
theorem biT_tuple {l : List D} : biT .tuple l S = .ok (.tup l) S := Eq.trans rfl rfl
theorem biT_list {l : List D} : biT .list l S = .ok (.ref S.length) (S ++ [.lst l]) := Eq.trans rfl rfl
theorem biL_len {l : List D} : biL .len l S = .ok (.int l.length) S := Eq.trans rfl rfl
theorem biL_tuple {l : List D} : biL .tuple l S = .ok (.tup l) S := Eq.trans rfl rfl
theorem biL_list {l : List D} : biL .list l S = .ok (.ref S.length) (S ++ [.lst l]) := Eq.trans rfl rfl
theorem biL_sum {l : List D} : biL .sum l S = ofO (intsD l) fun ns => .ok (.int ns.sum) S := Eq.trans rfl rfl
theorem biL_any {l : List D} : biL .any l S = ofO (boolsD l) fun bs => .ok (.bl (bs.any id)) S := Eq.trans rfl rfl
theorem biL_all {l : List D} : biL .all l S = ofO (boolsD l) fun bs => .ok (.bl (bs.all id)) S := Eq.trans rfl rfl
theorem biII_max : biII .max i j S = .ok (.int (if j > i then j else i)) S := Eq.trans rfl rfl
theorem biII_min : biII .min i j S = .ok (.int (if j < i then j else i)) S := Eq.trans rfl rfl
theorem truth_bl : truth S (.bl a) = some a := Eq.trans rfl rfl
theorem truth_int : truth S (.int i) = some (i != 0) := Eq.trans rfl rfl
theorem truth_tup {l : List D} : truth S (.tup l) = some (!l.isEmpty) := Eq.trans rfl rfl
theorem truth_non : truth S .non = some false := Eq.trans rfl rfl
theorem truth_lst {p : Nat} {l : List D} (h : S[p]? = some (.lst l)) : truth S (.ref p) = some (!l.isEmpty) := by unfold truth; simp only [h]
theorem seq_tup {l : List D} : seqOf S (.tup l) = some l := Eq.trans rfl rfl
theorem seq_lst {p : Nat} {l : List D} (h : S[p]? = some (.lst l)) : seqOf S (.ref p) = some l := by unfold seqOf; simp only [h]
theorem seq_fro {p : Nat} {l : List D} (h : S[p]? = some (.fro l)) : seqOf S (.ref p) = some l := by unfold seqOf; simp only [h]
theorem lst_lst {p : Nat} {l : List D} (h : S[p]? = some (.lst l)) : lstOf S p = some l := by unfold lstOf; simp only [h]
theorem ix_ref {p : Nat} : ixop (.ref p) (.int i) S = ofO (seqOf S (.ref p)) fun l => ofO (L2.atI l i) fun d => .ok d S := Eq.trans rfl rfl
theorem ix_tup {l : List D} : ixop (.tup l) (.int i) S = ofO (L2.atI l i) fun d => .ok d S := Eq.trans rfl rfl
theorem sl_tup {l : List D} {lo hi : Option Int} : slop (.tup l) lo hi S = .ok (.tup (cut l lo hi)) S := Eq.trans rfl rfl
theorem sl_ref {p : Nat} {lo hi : Option Int} : slop (.ref p) lo hi S = ofO (seqOf S (.ref p)) fun l => .ok (.ref S.length) (S ++ [.lst (cut l lo hi)]) := Eq.trans rfl rfl
theorem set_ref {p : Nat} {d : D} : setop (.ref p) (.int i) d S = ofO (lstOf S p) fun l => ofO (L2.ixN l.length i) fun j => .ok () (S.set p (.lst (l.set j d))) := Eq.trans rfl rfl
theorem mt_app {p : Nat} {d : D} : mtop .append (.ref p) [d] S = ofO (lstOf S p) fun l => okIf (l.length < sizeLine) (.ok .non (S.set p (.lst (l ++ [d])))) := Eq.trans rfl rfl
theorem it_tup {l : List D} : itSeq (.tup l) S = .ok ⟨none, l⟩ S := Eq.trans rfl rfl
theorem it_ref {p : Nat} : itSeq (.ref p) S = ofO (seqOf S (.ref p)) fun l => .ok ⟨some (p, l), l⟩ S := Eq.trans rfl rfl
theorem it_r1 : itRange1 (.int j) S = okIf (-(2 ^ 62) ≤ j ∧ j < 2 ^ 62) (.ok ⟨none, rangeOf 0 1 j.toNat⟩ S) := Eq.trans rfl rfl
theorem it_r2 : itRange2 (.int i) (.int j) S = okIf (-(2 ^ 62) ≤ i ∧ i < 2 ^ 62 ∧ -(2 ^ 62) ≤ j ∧ j < 2 ^ 62) (.ok ⟨none, rangeOf i 1 (j - i).toNat⟩ S) := Eq.trans rfl rfl
theorem isi_ty {d : D} {n : String} : isiop d (.ty n) S = ofO (clOf S d) fun c => ofO (L2.kitB c n) fun b => .ok (.bl b) S := Eq.trans rfl rfl
theorem noerr_err {α : Type} (x : Ex) : (Res.err x S : Res α).noerr = .bad := Eq.trans rfl rfl
theorem atI_of {α : Type} {l : List α} (h : 0 ≤ i) : L2.atI l i = l[i.toNat]? := by
  unfold L2.atI L2.ixN
  rw [if_pos h]
  split
  · rfl
  · exact (List.getElem?_eq_none (by omega)).symm
theorem atI_0 {α : Type} {l : List α} : L2.atI l 0 = l[0]? := atI_of (by decide)
theorem atI_1 {α : Type} {l : List α} : L2.atI l 1 = l[1]? := atI_of (by decide)
theorem atI_2 {α : Type} {l : List α} : L2.atI l 2 = l[2]? := atI_of (by decide)
theorem atI_3 {α : Type} {l : List α} : L2.atI l 3 = l[3]? := atI_of (by decide)
theorem atI_l {α : Type} {l : List α} : L2.atI l (-1) = l.getLast? := by
  unfold L2.atI L2.ixN
  rw [if_neg (by decide), List.getLast?_eq_getElem?]
  cases l with
  | nil => rfl
  | cons x l =>
    rw [if_pos (by rw [List.length_cons]; omega)]
    show (x :: l)[(-1 + ((x :: l).length : Int)).toNat]? = _
    congr 1
    rw [List.length_cons]; omega
theorem ixN_of {n : Nat} (h : 0 ≤ i) (h2 : i < n) : L2.ixN n i = some i.toNat := by unfold L2.ixN; rw [if_pos h, if_pos h2]
theorem atI_cast {α : Type} {l : List α} {n : Nat} : L2.atI l (n : Int) = l[n]? := by rw [atI_of (by omega)]; rfl
theorem bin_modp (h : 0 < j) : binop .Mod (.int i) (.int j) S = .ok (.int (i % j)) S := by
  rw [bin_mod]
  unfold okIf
  rw [if_pos (by omega), Int.fmod_eq_emod_of_nonneg _ (by omega)]
theorem log2_sm {n : Nat} (h : n ≤ 1000000000000000000000000000000000000000000000000000000000000) : n.log2 < 250 := by
  by_cases hz : n = 0
  · subst hz; decide
  · exact (Nat.log2_lt hz).mpr (Nat.lt_of_le_of_lt h (by decide))
theorem noPyl {i j : Int} (h : j.natAbs ≤ 1000000000000000000000000000000000000000000000000000000000000) : Builtin.divisionGoesByPylong i j = false := by
  have := log2_sm h
  unfold Builtin.divisionGoesByPylong
  simp only [Bool.and_eq_false_iff, decide_eq_false_iff_not]
  refine .inl ?_
  split <;> omega
theorem bin_divp (h : 0 < j) (h2 : j ≤ 1000000000000000000000000000000000000000000000000000000000000) : binop .FloorDiv (.int i) (.int j) S = .ok (.int (i / j)) S := by
  rw [bin_div]
  unfold okIf
  rw [if_pos ⟨by omega, noPyl (by omega)⟩, Int.fdiv_eq_ediv_of_nonneg _ (by omega)]
theorem mulG_sm {i j : Int} (h : -1000000000000000000000000000000000000000000000000000000000000 ≤ i ∧ i ≤ 1000000000000000000000000000000000000000000000000000000000000) (h' : -1000000000000000000000000000000000000000000000000000000000000 ≤ j ∧ j ≤ 1000000000000000000000000000000000000000000000000000000000000) : mulG i j := by
  unfold mulG
  have h1 := log2_sm (n := i.natAbs) (by omega)
  have h2 := log2_sm (n := j.natAbs) (by omega)
  omega
theorem bin_mulp (h : -1000000000000000000000000000000000000000000000000000000000000 ≤ i ∧ i ≤ 1000000000000000000000000000000000000000000000000000000000000) (h' : -1000000000000000000000000000000000000000000000000000000000000 ≤ j ∧ j ≤ 1000000000000000000000000000000000000000000000000000000000000) : binop .Mult (.int i) (.int j) S = .ok (.int (i * j)) S := by
  rw [bin_mul]
  unfold okIf
  rw [if_pos (mulG_sm h h')]
theorem bin_powp {n : Nat} (h : n ≤ 1000000) (h2 : i.natAbs < 18446744073709551616) : binop .Pow (.int i) (.int n) S = .ok (.int (i ^ n)) S := by
  rw [bin_pow]
  unfold okIf
  rw [if_pos ⟨by omega, by omega, by omega⟩]
  rfl
theorem pow_10_18 : binop .Pow (.int 10) (.int 18) S = .ok (.int 1000000000000000000) S := Eq.trans rfl rfl
theorem ixN_40 : L2.ixN 4 0 = some 0 := Eq.trans rfl rfl
theorem ixN_41 : L2.ixN 4 1 = some 1 := Eq.trans rfl rfl
theorem ixN_42 : L2.ixN 4 2 = some 2 := Eq.trans rfl rfl
theorem ixN_43 : L2.ixN 4 3 = some 3 := Eq.trans rfl rfl
theorem get_set_self {c : Nat} {x : Cell} (h : c < S.length) : (S.set c x)[c]? = some x := List.getElem?_set_self h
theorem get_set_ne {c d : Nat} {x : Cell} (h : d ≠ c) : (S.set c x)[d]? = S[d]? := List.getElem?_set_ne (fun e => h e.symm)
theorem seq_set_self {c : Nat} {l : List D} (h : c < S.length) : seqOf (S.set c (.lst l)) (.ref c) = some l := seq_lst (get_set_self h)
theorem seq_set_ne {c d : Nat} {x : Cell} (h : d ≠ c) : seqOf (S.set c x) (.ref d) = seqOf S (.ref d) := by simp only [seqOf, get_set_ne h]
theorem lst_set_self {c : Nat} {l : List D} (h : c < S.length) : lstOf (S.set c (.lst l)) c = some l := lst_lst (get_set_self h)
theorem lst_set_ne {c d : Nat} {x : Cell} (h : d ≠ c) : lstOf (S.set c x) d = lstOf S d := by simp only [lstOf, get_set_ne h]
theorem truth_set_self {c : Nat} {l : List D} (h : c < S.length) : truth (S.set c (.lst l)) (.ref c) = some (!l.isEmpty) := truth_lst (get_set_self h)
theorem truth_set_ne {c d : Nat} {x : Cell} (h : d ≠ c) : truth (S.set c x) (.ref d) = truth S (.ref d) := by simp only [truth, get_set_ne h]
end
theorem mulG_of' {i j : Int} (h : i.natAbs < 2 ^ 500000) (h' : j.natAbs < 2 ^ 400000) : mulG i j := by
  unfold mulG
  have l : ∀ {n k : Nat}, 0 < k → n < 2 ^ k → n.log2 < k := fun {n k} hk h => by
    by_cases hz : n = 0
    · subst hz; exact hk
    · exact (Nat.log2_lt hz).mpr h
  have h1 := l (by omega) h
  have h2 := l (by omega) h'
  omega
end EV

/-! the laws' own helpers -/
namespace EV
open PySem

def L_start : Fn := ⟨1, 2,
  (.cons (.ret (.lst (.cons (.lc (.mk [1] (.slot 1) (.seq (.sl (.slot 0) .none (.some (.lit (.int 63))))) .yes (.bi .int (.cons (.slot 1) .nil)))) (.cons (.lit (.int 0)) (.cons (.lit (.int 0)) (.cons (.lit (.int 0)) .nil))))))
  .nil)⟩
def L_fill : Fn := ⟨1, 2,
  (.cons (.asg (.ix (.slot 0) (.lit (.int 3))) (.bin .Add (.ix (.slot 0) (.lit (.int 3))) (.lit (.int 1))))
  (.cons (.asg (.slot 1) (.bin .Add (.bin .Mult (.ix (.slot 0) (.lit (.int 3))) (.lit (.int 69621))) (.lit (.int 12345))))
  (.cons (.ite (.val (.cmp .Lt (.ix (.slot 0) (.lit (.int 1))) (.bi .len (.cons (.ix (.slot 0) (.lit (.int 0))) .nil)))) (.cons (.asg (.slot 1) (.ix (.ix (.slot 0) (.lit (.int 0))) (.ix (.slot 0) (.lit (.int 1)))))
   (.cons (.asg (.ix (.slot 0) (.lit (.int 1))) (.bin .Add (.ix (.slot 0) (.lit (.int 1))) (.lit (.int 1))))
   (.cons (.ite (.val (.cmp .Lt (.slot 1) (.lit (.int 0)))) (.cons (.asg (.slot 1) (.bin .Sub (.bin .Sub (.lit (.int 0)) (.lit (.int 1))) (.slot 1)))
    .nil) .nil)
   (.cons (.ite (.val (.cmp .GtE (.slot 1) (.bin .Pow (.lit (.int 10)) (.lit (.int 18))))) (.cons (.ret (.slot 1))
    .nil) .nil)
   .nil)))) .nil)
  (.cons (.ite (.and (.val (.ix (.slot 0) (.lit (.int 0)))) (.val (.cmp .GtE (.ix (.slot 0) (.lit (.int 1))) (.bi .len (.cons (.ix (.slot 0) (.lit (.int 0))) .nil))))) (.cons (.asg (.slot 1) (.bin .Add (.slot 1) (.bin .Mod (.bi .int (.cons (.ix (.ix (.slot 0) (.lit (.int 0))) (.neg (.lit (.int 1)))) .nil)) (.lit (.int 1000003)))))
   .nil) .nil)
  (.cons (.asg (.slot 1) (.bin .Mod (.bi .int (.cons (.bin .Add (.bin .Mult (.slot 1) (.lit (.int 48271))) (.bin .Mult (.ix (.slot 0) (.lit (.int 3))) (.lit (.int 69621)))) .nil)) (.lit (.int 2147483647))))
  (.cons (.ret (.bin .Add (.bin .Mod (.bi .int (.cons (.bin .Add (.bin .Add (.bin .Mult (.slot 1) (.slot 1)) (.bin .Mult (.ix (.slot 0) (.lit (.int 3))) (.lit (.int 7919)))) (.lit (.int 11))) .nil)) (.lit (.int 2305843009213693951))) (.lit (.int 2305843009213693951))))
  .nil))))))⟩
def L_take : Fn := ⟨2, 3,
  (.cons (.ite (.val (.cmp .Lt (.ix (.slot 0) (.lit (.int 2))) (.slot 1))) (.cons (.asg (.ix (.slot 0) (.lit (.int 2))) (.call 1 (.cons (.slot 0) .nil)))
   .nil) .nil)
  (.cons (.asg (.slot 2) (.bin .Mod (.bi .int (.cons (.ix (.slot 0) (.lit (.int 2))) .nil)) (.slot 1)))
  (.cons (.asg (.ix (.slot 0) (.lit (.int 2))) (.bin .FloorDiv (.ix (.slot 0) (.lit (.int 2))) (.slot 1)))
  (.cons (.ret (.slot 2))
  .nil))))⟩
theorem fill_run {P : Prog} {k : Nat} {S : Store} {c l0 : Nat} {ns : List Int} {pos cnt : Nat} {num : Int} (hf : P.fns 1 = some L_fill) (hc : S[c]? = some (.lst [.ref l0, .int pos, .int num, .int cnt])) (hl : S[l0]? = some (.lst (ns.map .int))) (hcl : l0 ≠ c) (hp : pos ≤ ns.length) (hT : cnt ≤ 1000000000) :
    ∃ (v : Int) (pos' : Nat), callF P (k + 1) 1 [.ref c] S = .ok (.int v) (S.set c (.lst [.ref l0, .int pos', .int num, .int (cnt + 1 : Nat)])) ∧ pos' ≤ ns.length := by
  rw [callF_of hf rfl]
  have hlt : c < S.length := (List.getElem?_eq_some_iff.mp hc).1
  have tail : ∀ (pos' : Nat) (v : Int), pos' ≤ ns.length → -1000000000000000000000 < v → v < 1000000000000000000000 → ∃ (v' : Int),
      fin S (evSs (P.ctx k) (match L_fill.body with | .cons _ (.cons _ (.cons _ r)) => r | r => r) [.val (.ref c), .val (.int v)] (S.set c (.lst [.ref l0, .int pos', .int num, .int (cnt + 1 : Nat)]))) = .ok (.int v') (S.set c (.lst [.ref l0, .int pos', .int num, .int (cnt + 1 : Nat)])) := by
    intro pos' v h1 h2 h3
    have last : ∀ v : Int, -1000000000000000000000000 < v → v < 1000000000000000000000000 → ∃ (v' : Int),
      fin S (evSs (P.ctx k) (match L_fill.body with | .cons _ (.cons _ (.cons _ (.cons _ r))) => r | r => r) [.val (.ref c), .val (.int v)] (S.set c (.lst [.ref l0, .int pos', .int num, .int (cnt + 1 : Nat)]))) = .ok (.int v') (S.set c (.lst [.ref l0, .int pos', .int num, .int (cnt + 1 : Nat)])) := by
      intro v h2 h3
      simp (disch := omega) only [Int.natCast_zero, Int.natCast_one, Int.cast_ofNat_Int, Int.reduceEq, Int.reduceLT, Int.reduceLE, decide_true, decide_false, List.length_cons, List.length_nil, List.set_set, List.map_cons, List.map_nil, List.replicate_zero, List.replicate_succ, List.cons_append, List.nil_append, List.getElem?_cons_zero, List.getElem?_cons_succ, List.set_cons_zero, List.set_cons_succ, Nat.reduceSub, Nat.reduceAdd, Bool.not_true, Bool.not_false, wipeE, bnd_ok, bnd_err, bnd_bad, on_ok, on_err, on_bad, sel_true, sel_false, slotR_val, fnR_fn, isR_val, negR_int, notR_bl, blSel_bl, optR_int, augR_val, thn_next, thn_ret, thn_err, thn_brk, thn_cont, again_next, again_cont, again_brk, again_ret, again_err, ctch_next, ctch_ret, ctch_err, fin_ret, fin_next, fin_err, okIf_t, e_slot, e_lit, e_globP, e_tup, e_lst, e_bin, e_neg, e_not, e_and, e_or, e_cmp, e_cmp2, e_ite, e_call, e_callv, e_bi, e_bic, e_isi, e_isiS, e_mth, e_ix, e_sl, e_rev, e_lc, o_none, o_some, es_nil, es_cons, b_val, b_not, b_and, b_or, b_yes, c_mk, i_seq, i_range1, i_range2, i_range3, i_enum, t_slot, t_tup, t_ix, ts_nil, ts_cons, s_asg, s_par, s_aug, s_for, s_while, s_if, s_ret, s_retN, s_expr, s_raise, s_try, s_brk, s_cont, s_pass, ss_nil, ss_cons, bin_add, bin_sub, bin_addS, bin_addT, bin_addL, bin_mulL, aug_add, aug_sub, eqS_int, eqS_bl, c_eq, c_ne, c_lt, c_le, c_gt, c_ge, c_isN, c_isntN, bi_one, bi_two, bi1_int, bi1_bl, bi1_str, bi1_tup, bi1_ref, bi2_int, biI_int, biB_int, biI_abs, biT_len, biT_tuple, biT_list, biL_len, biL_tuple, biL_list, biL_sum, biL_any, biL_all, biII_max, biII_min, truth_bl, truth_int, truth_tup, truth_non, seq_tup, ix_ref, ix_tup, sl_tup, sl_ref, set_ref, mt_app, it_tup, it_ref, it_r1, it_r2, noerr_err, atI_0, atI_1, atI_2, atI_3, atI_l, bin_modp, bin_divp, bin_mulp, ixN_40, ixN_41, ixN_42, ixN_43, isR_excP, pow_10_18, atI_cast, List.length_map, Res.noerr_ok, Res.noerr_bad, ofO_some, L_fill, seq_set_self hlt]
      exact ⟨_, by rw [trim_len (List.length_set ..)]⟩
    cases hns : ns with
    | nil =>
      subst hns
      have e := last v (by omega) (by omega)
      simp (disch := omega) only [Int.natCast_zero, Int.natCast_one, Int.cast_ofNat_Int, Int.reduceEq, Int.reduceLT, Int.reduceLE, decide_true, decide_false, List.length_cons, List.length_nil, List.set_set, List.map_cons, List.map_nil, List.replicate_zero, List.replicate_succ, List.cons_append, List.nil_append, List.getElem?_cons_zero, List.getElem?_cons_succ, List.set_cons_zero, List.set_cons_succ, Nat.reduceSub, Nat.reduceAdd, Bool.not_true, Bool.not_false, wipeE, bnd_ok, bnd_err, bnd_bad, on_ok, on_err, on_bad, sel_true, sel_false, slotR_val, fnR_fn, isR_val, negR_int, notR_bl, blSel_bl, optR_int, augR_val, thn_next, thn_ret, thn_err, thn_brk, thn_cont, again_next, again_cont, again_brk, again_ret, again_err, ctch_next, ctch_ret, ctch_err, fin_ret, fin_next, fin_err, okIf_t, e_slot, e_lit, e_globP, e_tup, e_lst, e_bin, e_neg, e_not, e_and, e_or, e_cmp, e_cmp2, e_ite, e_call, e_callv, e_bi, e_bic, e_isi, e_isiS, e_mth, e_ix, e_sl, e_rev, e_lc, o_none, o_some, es_nil, es_cons, b_val, b_not, b_and, b_or, b_yes, c_mk, i_seq, i_range1, i_range2, i_range3, i_enum, t_slot, t_tup, t_ix, ts_nil, ts_cons, s_asg, s_par, s_aug, s_for, s_while, s_if, s_ret, s_retN, s_expr, s_raise, s_try, s_brk, s_cont, s_pass, ss_nil, ss_cons, bin_add, bin_sub, bin_addS, bin_addT, bin_addL, bin_mulL, aug_add, aug_sub, eqS_int, eqS_bl, c_eq, c_ne, c_lt, c_le, c_gt, c_ge, c_isN, c_isntN, bi_one, bi_two, bi1_int, bi1_bl, bi1_str, bi1_tup, bi1_ref, bi2_int, biI_int, biB_int, biI_abs, biT_len, biT_tuple, biT_list, biL_len, biL_tuple, biL_list, biL_sum, biL_any, biL_all, biII_max, biII_min, truth_bl, truth_int, truth_tup, truth_non, seq_tup, ix_ref, ix_tup, sl_tup, sl_ref, set_ref, mt_app, it_tup, it_ref, it_r1, it_r2, noerr_err, atI_0, atI_1, atI_2, atI_3, atI_l, bin_modp, bin_divp, bin_mulp, ixN_40, ixN_41, ixN_42, ixN_43, isR_excP, pow_10_18, atI_cast, List.length_map, Res.noerr_ok, Res.noerr_bad, ofO_some, L_fill, seq_set_self hlt, seq_set_ne hcl, truth_set_ne hcl, seq_lst hl, truth_lst hl, List.isEmpty_nil] at e ⊢
      exact e
    | cons n0 r =>
      subst hns
      by_cases hq : ((r.length + 1 : Nat) : Int) ≤ (pos' : Int)
      · obtain ⟨v', e⟩ := last (v + (n0 :: r).getLast (List.cons_ne_nil _ _) % 1000003) (by omega) (by omega)
        refine ⟨v', ?_⟩
        have gl : (D.int n0 :: List.map D.int r).getLast? = some (.int ((n0 :: r).getLast (List.cons_ne_nil _ _))) := by
          rw [← List.map_cons, List.getLast?_map, List.getLast?_eq_some_getLast (List.cons_ne_nil _ _)]; rfl
        simp (disch := omega) only [Int.natCast_zero, Int.natCast_one, Int.cast_ofNat_Int, Int.reduceEq, Int.reduceLT, Int.reduceLE, decide_true, decide_false, List.length_cons, List.length_nil, List.set_set, List.map_cons, List.map_nil, List.replicate_zero, List.replicate_succ, List.cons_append, List.nil_append, List.getElem?_cons_zero, List.getElem?_cons_succ, List.set_cons_zero, List.set_cons_succ, Nat.reduceSub, Nat.reduceAdd, Bool.not_true, Bool.not_false, wipeE, bnd_ok, bnd_err, bnd_bad, on_ok, on_err, on_bad, sel_true, sel_false, slotR_val, fnR_fn, isR_val, negR_int, notR_bl, blSel_bl, optR_int, augR_val, thn_next, thn_ret, thn_err, thn_brk, thn_cont, again_next, again_cont, again_brk, again_ret, again_err, ctch_next, ctch_ret, ctch_err, fin_ret, fin_next, fin_err, okIf_t, e_slot, e_lit, e_globP, e_tup, e_lst, e_bin, e_neg, e_not, e_and, e_or, e_cmp, e_cmp2, e_ite, e_call, e_callv, e_bi, e_bic, e_isi, e_isiS, e_mth, e_ix, e_sl, e_rev, e_lc, o_none, o_some, es_nil, es_cons, b_val, b_not, b_and, b_or, b_yes, c_mk, i_seq, i_range1, i_range2, i_range3, i_enum, t_slot, t_tup, t_ix, ts_nil, ts_cons, s_asg, s_par, s_aug, s_for, s_while, s_if, s_ret, s_retN, s_expr, s_raise, s_try, s_brk, s_cont, s_pass, ss_nil, ss_cons, bin_add, bin_sub, bin_addS, bin_addT, bin_addL, bin_mulL, aug_add, aug_sub, eqS_int, eqS_bl, c_eq, c_ne, c_lt, c_le, c_gt, c_ge, c_isN, c_isntN, bi_one, bi_two, bi1_int, bi1_bl, bi1_str, bi1_tup, bi1_ref, bi2_int, biI_int, biB_int, biI_abs, biT_len, biT_tuple, biT_list, biL_len, biL_tuple, biL_list, biL_sum, biL_any, biL_all, biII_max, biII_min, truth_bl, truth_int, truth_tup, truth_non, seq_tup, ix_ref, ix_tup, sl_tup, sl_ref, set_ref, mt_app, it_tup, it_ref, it_r1, it_r2, noerr_err, atI_0, atI_1, atI_2, atI_3, atI_l, bin_modp, bin_divp, bin_mulp, ixN_40, ixN_41, ixN_42, ixN_43, isR_excP, pow_10_18, atI_cast, List.length_map, Res.noerr_ok, Res.noerr_bad, ofO_some, L_fill, seq_set_self hlt, seq_set_ne hcl, truth_set_ne hcl, seq_lst hl, truth_lst hl, List.isEmpty_cons, hq, decide_true, gl] at e ⊢
        exact e
      · have e := last v (by omega) (by omega)
        simp (disch := omega) only [Int.natCast_zero, Int.natCast_one, Int.cast_ofNat_Int, Int.reduceEq, Int.reduceLT, Int.reduceLE, decide_true, decide_false, List.length_cons, List.length_nil, List.set_set, List.map_cons, List.map_nil, List.replicate_zero, List.replicate_succ, List.cons_append, List.nil_append, List.getElem?_cons_zero, List.getElem?_cons_succ, List.set_cons_zero, List.set_cons_succ, Nat.reduceSub, Nat.reduceAdd, Bool.not_true, Bool.not_false, wipeE, bnd_ok, bnd_err, bnd_bad, on_ok, on_err, on_bad, sel_true, sel_false, slotR_val, fnR_fn, isR_val, negR_int, notR_bl, blSel_bl, optR_int, augR_val, thn_next, thn_ret, thn_err, thn_brk, thn_cont, again_next, again_cont, again_brk, again_ret, again_err, ctch_next, ctch_ret, ctch_err, fin_ret, fin_next, fin_err, okIf_t, e_slot, e_lit, e_globP, e_tup, e_lst, e_bin, e_neg, e_not, e_and, e_or, e_cmp, e_cmp2, e_ite, e_call, e_callv, e_bi, e_bic, e_isi, e_isiS, e_mth, e_ix, e_sl, e_rev, e_lc, o_none, o_some, es_nil, es_cons, b_val, b_not, b_and, b_or, b_yes, c_mk, i_seq, i_range1, i_range2, i_range3, i_enum, t_slot, t_tup, t_ix, ts_nil, ts_cons, s_asg, s_par, s_aug, s_for, s_while, s_if, s_ret, s_retN, s_expr, s_raise, s_try, s_brk, s_cont, s_pass, ss_nil, ss_cons, bin_add, bin_sub, bin_addS, bin_addT, bin_addL, bin_mulL, aug_add, aug_sub, eqS_int, eqS_bl, c_eq, c_ne, c_lt, c_le, c_gt, c_ge, c_isN, c_isntN, bi_one, bi_two, bi1_int, bi1_bl, bi1_str, bi1_tup, bi1_ref, bi2_int, biI_int, biB_int, biI_abs, biT_len, biT_tuple, biT_list, biL_len, biL_tuple, biL_list, biL_sum, biL_any, biL_all, biII_max, biII_min, truth_bl, truth_int, truth_tup, truth_non, seq_tup, ix_ref, ix_tup, sl_tup, sl_ref, set_ref, mt_app, it_tup, it_ref, it_r1, it_r2, noerr_err, atI_0, atI_1, atI_2, atI_3, atI_l, bin_modp, bin_divp, bin_mulp, ixN_40, ixN_41, ixN_42, ixN_43, isR_excP, pow_10_18, atI_cast, List.length_map, Res.noerr_ok, Res.noerr_bad, ofO_some, L_fill, seq_set_self hlt, seq_set_ne hcl, truth_set_ne hcl, seq_lst hl, truth_lst hl, List.isEmpty_cons, hq, decide_false] at e ⊢
        exact e
  by_cases h1 : (pos : Int) < (ns.length : Int)
  · have hget : (List.map D.int ns)[pos]? = some (.int ns[pos]) := by rw [List.getElem?_map, List.getElem?_eq_getElem (by omega)]; rfl
    generalize ns[pos] = n at hget
    have e1 : ∀ v, (∃ v', fin S (evSs (P.ctx k) (match L_fill.body with | .cons _ (.cons _ (.cons _ r)) => r | r => r) [.val (.ref c), .val (.int v)] (S.set c (.lst [.ref l0, .int (pos + 1 : Nat), .int num, .int (cnt + 1 : Nat)]))) = .ok (.int v') (S.set c (.lst [.ref l0, .int (pos + 1 : Nat), .int num, .int (cnt + 1 : Nat)]))) →
      ∃ v' pos', fin S (evSs (P.ctx k) (match L_fill.body with | .cons _ (.cons _ (.cons _ r)) => r | r => r) [.val (.ref c), .val (.int v)] (S.set c (.lst [.ref l0, .int (pos + 1 : Nat), .int num, .int (cnt + 1 : Nat)]))) = .ok (.int v') (S.set c (.lst [.ref l0, .int (pos' : Nat), .int num, .int (cnt + 1 : Nat)])) ∧ pos' ≤ ns.length := fun v ⟨v', h⟩ => ⟨v', pos + 1, h, by omega⟩
    by_cases h2 : n < 0
    · by_cases h3 : (1000000000000000000 : Int) ≤ 0 - 1 - n
      · refine ⟨0 - 1 - n, pos + 1, ?_, by omega⟩
        simp (disch := omega) only [Int.natCast_zero, Int.natCast_one, Int.cast_ofNat_Int, Int.reduceEq, Int.reduceLT, Int.reduceLE, decide_true, decide_false, List.length_cons, List.length_nil, List.set_set, List.map_cons, List.map_nil, List.replicate_zero, List.replicate_succ, List.cons_append, List.nil_append, List.getElem?_cons_zero, List.getElem?_cons_succ, List.set_cons_zero, List.set_cons_succ, Nat.reduceSub, Nat.reduceAdd, Bool.not_true, Bool.not_false, wipeE, bnd_ok, bnd_err, bnd_bad, on_ok, on_err, on_bad, sel_true, sel_false, slotR_val, fnR_fn, isR_val, negR_int, notR_bl, blSel_bl, optR_int, augR_val, thn_next, thn_ret, thn_err, thn_brk, thn_cont, again_next, again_cont, again_brk, again_ret, again_err, ctch_next, ctch_ret, ctch_err, fin_ret, fin_next, fin_err, okIf_t, e_slot, e_lit, e_globP, e_tup, e_lst, e_bin, e_neg, e_not, e_and, e_or, e_cmp, e_cmp2, e_ite, e_call, e_callv, e_bi, e_bic, e_isi, e_isiS, e_mth, e_ix, e_sl, e_rev, e_lc, o_none, o_some, es_nil, es_cons, b_val, b_not, b_and, b_or, b_yes, c_mk, i_seq, i_range1, i_range2, i_range3, i_enum, t_slot, t_tup, t_ix, ts_nil, ts_cons, s_asg, s_par, s_aug, s_for, s_while, s_if, s_ret, s_retN, s_expr, s_raise, s_try, s_brk, s_cont, s_pass, ss_nil, ss_cons, bin_add, bin_sub, bin_addS, bin_addT, bin_addL, bin_mulL, aug_add, aug_sub, eqS_int, eqS_bl, c_eq, c_ne, c_lt, c_le, c_gt, c_ge, c_isN, c_isntN, bi_one, bi_two, bi1_int, bi1_bl, bi1_str, bi1_tup, bi1_ref, bi2_int, biI_int, biB_int, biI_abs, biT_len, biT_tuple, biT_list, biL_len, biL_tuple, biL_list, biL_sum, biL_any, biL_all, biII_max, biII_min, truth_bl, truth_int, truth_tup, truth_non, seq_tup, ix_ref, ix_tup, sl_tup, sl_ref, set_ref, mt_app, it_tup, it_ref, it_r1, it_r2, noerr_err, atI_0, atI_1, atI_2, atI_3, atI_l, bin_modp, bin_divp, bin_mulp, ixN_40, ixN_41, ixN_42, ixN_43, isR_excP, pow_10_18, atI_cast, List.length_map, Res.noerr_ok, Res.noerr_bad, ofO_some, L_fill, seq_set_self hlt, seq_set_ne hcl, lst_set_self hlt, truth_set_ne hcl, seq_lst hl, seq_lst hc, lst_lst hc, truth_lst hl, h1, h2, h3, decide_true, hget]
        rw [trim_len (List.length_set ..)]
        rfl
      · have e := e1 _ (tail (pos + 1) (0 - 1 - n) (by omega) (by omega) (by omega))
        simp (disch := omega) only [Int.natCast_zero, Int.natCast_one, Int.cast_ofNat_Int, Int.reduceEq, Int.reduceLT, Int.reduceLE, decide_true, decide_false, List.length_cons, List.length_nil, List.set_set, List.map_cons, List.map_nil, List.replicate_zero, List.replicate_succ, List.cons_append, List.nil_append, List.getElem?_cons_zero, List.getElem?_cons_succ, List.set_cons_zero, List.set_cons_succ, Nat.reduceSub, Nat.reduceAdd, Bool.not_true, Bool.not_false, wipeE, bnd_ok, bnd_err, bnd_bad, on_ok, on_err, on_bad, sel_true, sel_false, slotR_val, fnR_fn, isR_val, negR_int, notR_bl, blSel_bl, optR_int, augR_val, thn_next, thn_ret, thn_err, thn_brk, thn_cont, again_next, again_cont, again_brk, again_ret, again_err, ctch_next, ctch_ret, ctch_err, fin_ret, fin_next, fin_err, okIf_t, e_slot, e_lit, e_globP, e_tup, e_lst, e_bin, e_neg, e_not, e_and, e_or, e_cmp, e_cmp2, e_ite, e_call, e_callv, e_bi, e_bic, e_isi, e_isiS, e_mth, e_ix, e_sl, e_rev, e_lc, o_none, o_some, es_nil, es_cons, b_val, b_not, b_and, b_or, b_yes, c_mk, i_seq, i_range1, i_range2, i_range3, i_enum, t_slot, t_tup, t_ix, ts_nil, ts_cons, s_asg, s_par, s_aug, s_for, s_while, s_if, s_ret, s_retN, s_expr, s_raise, s_try, s_brk, s_cont, s_pass, ss_nil, ss_cons, bin_add, bin_sub, bin_addS, bin_addT, bin_addL, bin_mulL, aug_add, aug_sub, eqS_int, eqS_bl, c_eq, c_ne, c_lt, c_le, c_gt, c_ge, c_isN, c_isntN, bi_one, bi_two, bi1_int, bi1_bl, bi1_str, bi1_tup, bi1_ref, bi2_int, biI_int, biB_int, biI_abs, biT_len, biT_tuple, biT_list, biL_len, biL_tuple, biL_list, biL_sum, biL_any, biL_all, biII_max, biII_min, truth_bl, truth_int, truth_tup, truth_non, seq_tup, ix_ref, ix_tup, sl_tup, sl_ref, set_ref, mt_app, it_tup, it_ref, it_r1, it_r2, noerr_err, atI_0, atI_1, atI_2, atI_3, atI_l, bin_modp, bin_divp, bin_mulp, ixN_40, ixN_41, ixN_42, ixN_43, isR_excP, pow_10_18, atI_cast, List.length_map, Res.noerr_ok, Res.noerr_bad, ofO_some, L_fill, seq_set_self hlt, seq_set_ne hcl, lst_set_self hlt, truth_set_ne hcl, seq_lst hl, seq_lst hc, lst_lst hc, truth_lst hl, h1, h2, h3, decide_true, decide_false, hget] at e ⊢
        exact e
    · by_cases h3 : (1000000000000000000 : Int) ≤ n
      · refine ⟨n, pos + 1, ?_, by omega⟩
        simp (disch := omega) only [Int.natCast_zero, Int.natCast_one, Int.cast_ofNat_Int, Int.reduceEq, Int.reduceLT, Int.reduceLE, decide_true, decide_false, List.length_cons, List.length_nil, List.set_set, List.map_cons, List.map_nil, List.replicate_zero, List.replicate_succ, List.cons_append, List.nil_append, List.getElem?_cons_zero, List.getElem?_cons_succ, List.set_cons_zero, List.set_cons_succ, Nat.reduceSub, Nat.reduceAdd, Bool.not_true, Bool.not_false, wipeE, bnd_ok, bnd_err, bnd_bad, on_ok, on_err, on_bad, sel_true, sel_false, slotR_val, fnR_fn, isR_val, negR_int, notR_bl, blSel_bl, optR_int, augR_val, thn_next, thn_ret, thn_err, thn_brk, thn_cont, again_next, again_cont, again_brk, again_ret, again_err, ctch_next, ctch_ret, ctch_err, fin_ret, fin_next, fin_err, okIf_t, e_slot, e_lit, e_globP, e_tup, e_lst, e_bin, e_neg, e_not, e_and, e_or, e_cmp, e_cmp2, e_ite, e_call, e_callv, e_bi, e_bic, e_isi, e_isiS, e_mth, e_ix, e_sl, e_rev, e_lc, o_none, o_some, es_nil, es_cons, b_val, b_not, b_and, b_or, b_yes, c_mk, i_seq, i_range1, i_range2, i_range3, i_enum, t_slot, t_tup, t_ix, ts_nil, ts_cons, s_asg, s_par, s_aug, s_for, s_while, s_if, s_ret, s_retN, s_expr, s_raise, s_try, s_brk, s_cont, s_pass, ss_nil, ss_cons, bin_add, bin_sub, bin_addS, bin_addT, bin_addL, bin_mulL, aug_add, aug_sub, eqS_int, eqS_bl, c_eq, c_ne, c_lt, c_le, c_gt, c_ge, c_isN, c_isntN, bi_one, bi_two, bi1_int, bi1_bl, bi1_str, bi1_tup, bi1_ref, bi2_int, biI_int, biB_int, biI_abs, biT_len, biT_tuple, biT_list, biL_len, biL_tuple, biL_list, biL_sum, biL_any, biL_all, biII_max, biII_min, truth_bl, truth_int, truth_tup, truth_non, seq_tup, ix_ref, ix_tup, sl_tup, sl_ref, set_ref, mt_app, it_tup, it_ref, it_r1, it_r2, noerr_err, atI_0, atI_1, atI_2, atI_3, atI_l, bin_modp, bin_divp, bin_mulp, ixN_40, ixN_41, ixN_42, ixN_43, isR_excP, pow_10_18, atI_cast, List.length_map, Res.noerr_ok, Res.noerr_bad, ofO_some, L_fill, seq_set_self hlt, seq_set_ne hcl, lst_set_self hlt, truth_set_ne hcl, seq_lst hl, seq_lst hc, lst_lst hc, truth_lst hl, h1, h2, h3, decide_true, decide_false, hget]
        rw [trim_len (List.length_set ..)]
        rfl
      · have e := e1 _ (tail (pos + 1) n (by omega) (by omega) (by omega))
        simp (disch := omega) only [Int.natCast_zero, Int.natCast_one, Int.cast_ofNat_Int, Int.reduceEq, Int.reduceLT, Int.reduceLE, decide_true, decide_false, List.length_cons, List.length_nil, List.set_set, List.map_cons, List.map_nil, List.replicate_zero, List.replicate_succ, List.cons_append, List.nil_append, List.getElem?_cons_zero, List.getElem?_cons_succ, List.set_cons_zero, List.set_cons_succ, Nat.reduceSub, Nat.reduceAdd, Bool.not_true, Bool.not_false, wipeE, bnd_ok, bnd_err, bnd_bad, on_ok, on_err, on_bad, sel_true, sel_false, slotR_val, fnR_fn, isR_val, negR_int, notR_bl, blSel_bl, optR_int, augR_val, thn_next, thn_ret, thn_err, thn_brk, thn_cont, again_next, again_cont, again_brk, again_ret, again_err, ctch_next, ctch_ret, ctch_err, fin_ret, fin_next, fin_err, okIf_t, e_slot, e_lit, e_globP, e_tup, e_lst, e_bin, e_neg, e_not, e_and, e_or, e_cmp, e_cmp2, e_ite, e_call, e_callv, e_bi, e_bic, e_isi, e_isiS, e_mth, e_ix, e_sl, e_rev, e_lc, o_none, o_some, es_nil, es_cons, b_val, b_not, b_and, b_or, b_yes, c_mk, i_seq, i_range1, i_range2, i_range3, i_enum, t_slot, t_tup, t_ix, ts_nil, ts_cons, s_asg, s_par, s_aug, s_for, s_while, s_if, s_ret, s_retN, s_expr, s_raise, s_try, s_brk, s_cont, s_pass, ss_nil, ss_cons, bin_add, bin_sub, bin_addS, bin_addT, bin_addL, bin_mulL, aug_add, aug_sub, eqS_int, eqS_bl, c_eq, c_ne, c_lt, c_le, c_gt, c_ge, c_isN, c_isntN, bi_one, bi_two, bi1_int, bi1_bl, bi1_str, bi1_tup, bi1_ref, bi2_int, biI_int, biB_int, biI_abs, biT_len, biT_tuple, biT_list, biL_len, biL_tuple, biL_list, biL_sum, biL_any, biL_all, biII_max, biII_min, truth_bl, truth_int, truth_tup, truth_non, seq_tup, ix_ref, ix_tup, sl_tup, sl_ref, set_ref, mt_app, it_tup, it_ref, it_r1, it_r2, noerr_err, atI_0, atI_1, atI_2, atI_3, atI_l, bin_modp, bin_divp, bin_mulp, ixN_40, ixN_41, ixN_42, ixN_43, isR_excP, pow_10_18, atI_cast, List.length_map, Res.noerr_ok, Res.noerr_bad, ofO_some, L_fill, seq_set_self hlt, seq_set_ne hcl, lst_set_self hlt, truth_set_ne hcl, seq_lst hl, seq_lst hc, lst_lst hc, truth_lst hl, h1, h2, h3, decide_true, decide_false, hget] at e ⊢
        exact e
  · obtain ⟨v', e⟩ := tail pos ((cnt + 1 : Nat) * 69621 + 12345) hp (by omega) (by omega)
    refine ⟨v', pos, ?_, hp⟩
    simp (disch := omega) only [Int.natCast_zero, Int.natCast_one, Int.cast_ofNat_Int, Int.reduceEq, Int.reduceLT, Int.reduceLE, decide_true, decide_false, List.length_cons, List.length_nil, List.set_set, List.map_cons, List.map_nil, List.replicate_zero, List.replicate_succ, List.cons_append, List.nil_append, List.getElem?_cons_zero, List.getElem?_cons_succ, List.set_cons_zero, List.set_cons_succ, Nat.reduceSub, Nat.reduceAdd, Bool.not_true, Bool.not_false, wipeE, bnd_ok, bnd_err, bnd_bad, on_ok, on_err, on_bad, sel_true, sel_false, slotR_val, fnR_fn, isR_val, negR_int, notR_bl, blSel_bl, optR_int, augR_val, thn_next, thn_ret, thn_err, thn_brk, thn_cont, again_next, again_cont, again_brk, again_ret, again_err, ctch_next, ctch_ret, ctch_err, fin_ret, fin_next, fin_err, okIf_t, e_slot, e_lit, e_globP, e_tup, e_lst, e_bin, e_neg, e_not, e_and, e_or, e_cmp, e_cmp2, e_ite, e_call, e_callv, e_bi, e_bic, e_isi, e_isiS, e_mth, e_ix, e_sl, e_rev, e_lc, o_none, o_some, es_nil, es_cons, b_val, b_not, b_and, b_or, b_yes, c_mk, i_seq, i_range1, i_range2, i_range3, i_enum, t_slot, t_tup, t_ix, ts_nil, ts_cons, s_asg, s_par, s_aug, s_for, s_while, s_if, s_ret, s_retN, s_expr, s_raise, s_try, s_brk, s_cont, s_pass, ss_nil, ss_cons, bin_add, bin_sub, bin_addS, bin_addT, bin_addL, bin_mulL, aug_add, aug_sub, eqS_int, eqS_bl, c_eq, c_ne, c_lt, c_le, c_gt, c_ge, c_isN, c_isntN, bi_one, bi_two, bi1_int, bi1_bl, bi1_str, bi1_tup, bi1_ref, bi2_int, biI_int, biB_int, biI_abs, biT_len, biT_tuple, biT_list, biL_len, biL_tuple, biL_list, biL_sum, biL_any, biL_all, biII_max, biII_min, truth_bl, truth_int, truth_tup, truth_non, seq_tup, ix_ref, ix_tup, sl_tup, sl_ref, set_ref, mt_app, it_tup, it_ref, it_r1, it_r2, noerr_err, atI_0, atI_1, atI_2, atI_3, atI_l, bin_modp, bin_divp, bin_mulp, ixN_40, ixN_41, ixN_42, ixN_43, isR_excP, pow_10_18, atI_cast, List.length_map, Res.noerr_ok, Res.noerr_bad, ofO_some, L_fill, seq_set_self hlt, seq_set_ne hcl, lst_set_self hlt, truth_set_ne hcl, seq_lst hl, seq_lst hc, lst_lst hc, truth_lst hl, h1, decide_false] at e ⊢
    exact e
/-- the draws' list stands at c, the law's own cells at l0 -/
structure Dr (c l0 T : Nat) (S : Store) : Prop where
  ne : l0 ≠ c
  ex : ∃ (ns : List Int) (pos : Nat) (num : Int) (cnt : Nat), S[c]? = some (.lst [.ref l0, .int pos, .int num, .int cnt]) ∧ S[l0]? = some (.lst (ns.map .int)) ∧ pos ≤ ns.length ∧ cnt ≤ T
/-- all but c stands as it stood -/
structure Ext (c : Nat) (S S' : Store) : Prop where
  len : S.length ≤ S'.length
  same : ∀ i, i < S.length → i ≠ c → S'[i]? = S[i]?
theorem Ext.refl (c : Nat) (S : Store) : Ext c S S := ⟨Nat.le_refl _, fun _ _ _ => rfl⟩
theorem Ext.trans {c : Nat} {S S1 S2 : Store} (a : Ext c S S1) (b : Ext c S1 S2) : Ext c S S2 :=
  ⟨Nat.le_trans a.len b.len, fun i h1 h2 => (b.same i (Nat.lt_of_lt_of_le h1 a.len) h2).trans (a.same i h1 h2)⟩
theorem Ext.app {c : Nat} {S : Store} (X : Store) : Ext c S (S ++ X) := ⟨by rw [List.length_append]; omega, fun i h _ => List.getElem?_append_left h⟩
theorem Ext.set {c : Nat} {S : Store} (x : Cell) : Ext c S (S.set c x) := ⟨by rw [List.length_set]; omega, fun i _ h => get_set_ne h⟩
theorem Ext.at {c i : Nat} {S S' : Store} {x : Cell} (e : Ext c S S') (hi : i ≠ c) (h : S[i]? = some x) : S'[i]? = some x := (e.same i (List.getElem?_eq_some_iff.mp h).1 hi).trans h
theorem Dr.le {c l0 T T' : Nat} {S : Store} (h : Dr c l0 T S) (hT : T ≤ T') : Dr c l0 T' S :=
  ⟨h.ne, let ⟨ns, pos, num, cnt, h1, h2, h3, h4⟩ := h.ex; ⟨ns, pos, num, cnt, h1, h2, h3, Nat.le_trans h4 hT⟩⟩
theorem Dr.app {c l0 T : Nat} {S : Store} (h : Dr c l0 T S) (X : Store) : Dr c l0 T (S ++ X) :=
  ⟨h.ne, let ⟨ns, pos, num, cnt, h1, h2, h3, h4⟩ := h.ex; ⟨ns, pos, num, cnt, by rw [List.getElem?_append_left (List.getElem?_eq_some_iff.mp h1).1]; exact h1, by rw [List.getElem?_append_left (List.getElem?_eq_some_iff.mp h2).1]; exact h2, h3, h4⟩⟩
theorem Dr.lt {c l0 T : Nat} {S : Store} (h : Dr c l0 T S) : c < S.length ∧ l0 < S.length := let ⟨_, _, _, _, h1, h2, _⟩ := h.ex; ⟨(List.getElem?_eq_some_iff.mp h1).1, (List.getElem?_eq_some_iff.mp h2).1⟩
/-- behind a call that answers something plain -/
theorem Dr.trim {c l0 T : Nat} {S S' : Store} {d : D} (h0 : c < S.length ∧ l0 < S.length) (h : Dr c l0 T S') (e : Ext c S S') (hd : d.pure = true) : Dr c l0 T (trim S S' d) ∧ Ext c S (EV.trim S S' d) := by
  obtain ⟨ns, pos, num, cnt, h1, h2, h3, h4⟩ := h.ex
  have t : trimOk S S' := fun i hi => by
    by_cases hc : i = c
    · subst hc
      exact .inr ⟨_, h1, by simp [Cell.lo, D.los, D.lo, h0.2]⟩
    · exact .inl (e.same i hi hc)
  have e1 : EV.trim S S' d = S'.take S.length := by unfold EV.trim; rw [if_pos ⟨hd, t⟩]
  rw [e1]
  exact ⟨⟨h.ne, ns, pos, num, cnt, by rw [List.getElem?_take_of_lt h0.1]; exact h1, by rw [List.getElem?_take_of_lt h0.2]; exact h2, h3, h4⟩, by rw [List.length_take]; have := e.len; omega, fun i hi hc => by rw [List.getElem?_take_of_lt hi]; exact e.same i hi hc⟩
theorem take_spec {P : Prog} {k : Nat} {S : Store} {c l0 T : Nat} {many : Int} (hf : P.fns 1 = some L_fill) (ht : P.fns 2 = some L_take) (hd : Dr c l0 T S) (hT : T ≤ 1000000) (hm : 0 < many) (hm2 : many ≤ 1000000000000000000000000000000) :
    ∃ (d : Int) (S' : Store), callF P (k + 2) 2 [.ref c, .int many] S = .ok (.int d) S' ∧ 0 ≤ d ∧ d < many ∧ Dr c l0 (T + 1) S' ∧ Ext c S S' := by
  obtain ⟨ns, pos, num, cnt, h1, h2, h3, h4⟩ := hd.ex
  have hlt := hd.lt.1
  rw [callF_of ht rfl]
  have tail : ∀ (S1 : Store) (pos' cnt' : Nat) (num' : Int), S1.length = S.length → S1[c]? = some (.lst [.ref l0, .int pos', .int num', .int cnt']) → ∃ x, fin S (evSs (P.ctx (k + 1)) (match L_take.body with | .cons _ r => r | r => r) [.val (.ref c), .val (.int many), .no] S1) = .ok (.int (num' % many)) (S1.set c (.lst [.ref l0, .int pos', .int x, .int cnt'])) := by
    intro S1 pos' cnt' num' e1 e2
    have hlt' : c < S1.length := by omega
    simp (disch := omega) only [Int.natCast_zero, Int.natCast_one, Int.cast_ofNat_Int, Int.reduceEq, Int.reduceLT, Int.reduceLE, decide_true, decide_false, List.length_cons, List.length_nil, List.set_set, List.map_cons, List.map_nil, List.replicate_zero, List.replicate_succ, List.cons_append, List.nil_append, List.getElem?_cons_zero, List.getElem?_cons_succ, List.set_cons_zero, List.set_cons_succ, Nat.reduceSub, Nat.reduceAdd, Bool.not_true, Bool.not_false, wipeE, bnd_ok, bnd_err, bnd_bad, on_ok, on_err, on_bad, sel_true, sel_false, slotR_val, fnR_fn, isR_val, negR_int, notR_bl, blSel_bl, optR_int, augR_val, thn_next, thn_ret, thn_err, thn_brk, thn_cont, again_next, again_cont, again_brk, again_ret, again_err, ctch_next, ctch_ret, ctch_err, fin_ret, fin_next, fin_err, okIf_t, e_slot, e_lit, e_globP, e_tup, e_lst, e_bin, e_neg, e_not, e_and, e_or, e_cmp, e_cmp2, e_ite, e_call, e_callv, e_bi, e_bic, e_isi, e_isiS, e_mth, e_ix, e_sl, e_rev, e_lc, o_none, o_some, es_nil, es_cons, b_val, b_not, b_and, b_or, b_yes, c_mk, i_seq, i_range1, i_range2, i_range3, i_enum, t_slot, t_tup, t_ix, ts_nil, ts_cons, s_asg, s_par, s_aug, s_for, s_while, s_if, s_ret, s_retN, s_expr, s_raise, s_try, s_brk, s_cont, s_pass, ss_nil, ss_cons, bin_add, bin_sub, bin_addS, bin_addT, bin_addL, bin_mulL, aug_add, aug_sub, eqS_int, eqS_bl, c_eq, c_ne, c_lt, c_le, c_gt, c_ge, c_isN, c_isntN, bi_one, bi_two, bi1_int, bi1_bl, bi1_str, bi1_tup, bi1_ref, bi2_int, biI_int, biB_int, biI_abs, biT_len, biT_tuple, biT_list, biL_len, biL_tuple, biL_list, biL_sum, biL_any, biL_all, biII_max, biII_min, truth_bl, truth_int, truth_tup, truth_non, seq_tup, ix_ref, ix_tup, sl_tup, sl_ref, set_ref, mt_app, it_tup, it_ref, it_r1, it_r2, noerr_err, atI_0, atI_1, atI_2, atI_3, atI_l, bin_modp, bin_divp, bin_mulp, ixN_40, ixN_41, ixN_42, ixN_43, isR_excP, pow_10_18, atI_cast, List.length_map, Res.noerr_ok, Res.noerr_bad, ofO_some, L_take, seq_lst e2, lst_lst e2, seq_set_self hlt']
    rw [trim_len (by rw [List.length_set]; exact e1)]
    exact ⟨_, rfl⟩
  have b1 := Int.emod_nonneg num (show many ≠ 0 by omega)
  have b2 := Int.emod_lt_of_pos num hm
  by_cases hq : num < many
  · obtain ⟨v, pos', e, h5⟩ := fill_run (k := k) hf h1 h2 hd.ne h3 (by omega)
    obtain ⟨x, e2⟩ := tail ((S.set c (.lst [.ref l0, .int pos', .int num, .int (cnt + 1 : Nat)])).set c (.lst [.ref l0, .int pos', .int v, .int (cnt + 1 : Nat)])) pos' (cnt + 1) v (by simp) (by rw [List.set_set]; exact get_set_self hlt)
    refine ⟨v % many, S.set c (.lst [.ref l0, .int pos', .int x, .int (cnt + 1 : Nat)]), ?_, Int.emod_nonneg v (by omega), Int.emod_lt_of_pos v hm, ⟨hd.ne, ns, pos', x, cnt + 1, get_set_self hlt, (get_set_ne hd.ne).trans h2, h5, by omega⟩, Ext.set _⟩
    rw [List.set_set, List.set_set] at e2
    simp (disch := omega) only [Int.natCast_zero, Int.natCast_one, Int.cast_ofNat_Int, Int.reduceEq, Int.reduceLT, Int.reduceLE, decide_true, decide_false, List.length_cons, List.length_nil, List.set_set, List.map_cons, List.map_nil, List.replicate_zero, List.replicate_succ, List.cons_append, List.nil_append, List.getElem?_cons_zero, List.getElem?_cons_succ, List.set_cons_zero, List.set_cons_succ, Nat.reduceSub, Nat.reduceAdd, Bool.not_true, Bool.not_false, wipeE, bnd_ok, bnd_err, bnd_bad, on_ok, on_err, on_bad, sel_true, sel_false, slotR_val, fnR_fn, isR_val, negR_int, notR_bl, blSel_bl, optR_int, augR_val, thn_next, thn_ret, thn_err, thn_brk, thn_cont, again_next, again_cont, again_brk, again_ret, again_err, ctch_next, ctch_ret, ctch_err, fin_ret, fin_next, fin_err, okIf_t, e_slot, e_lit, e_globP, e_tup, e_lst, e_bin, e_neg, e_not, e_and, e_or, e_cmp, e_cmp2, e_ite, e_call, e_callv, e_bi, e_bic, e_isi, e_isiS, e_mth, e_ix, e_sl, e_rev, e_lc, o_none, o_some, es_nil, es_cons, b_val, b_not, b_and, b_or, b_yes, c_mk, i_seq, i_range1, i_range2, i_range3, i_enum, t_slot, t_tup, t_ix, ts_nil, ts_cons, s_asg, s_par, s_aug, s_for, s_while, s_if, s_ret, s_retN, s_expr, s_raise, s_try, s_brk, s_cont, s_pass, ss_nil, ss_cons, bin_add, bin_sub, bin_addS, bin_addT, bin_addL, bin_mulL, aug_add, aug_sub, eqS_int, eqS_bl, c_eq, c_ne, c_lt, c_le, c_gt, c_ge, c_isN, c_isntN, bi_one, bi_two, bi1_int, bi1_bl, bi1_str, bi1_tup, bi1_ref, bi2_int, biI_int, biB_int, biI_abs, biT_len, biT_tuple, biT_list, biL_len, biL_tuple, biL_list, biL_sum, biL_any, biL_all, biII_max, biII_min, truth_bl, truth_int, truth_tup, truth_non, seq_tup, ix_ref, ix_tup, sl_tup, sl_ref, set_ref, mt_app, it_tup, it_ref, it_r1, it_r2, noerr_err, atI_0, atI_1, atI_2, atI_3, atI_l, bin_modp, bin_divp, bin_mulp, ixN_40, ixN_41, ixN_42, ixN_43, isR_excP, pow_10_18, atI_cast, List.length_map, Res.noerr_ok, Res.noerr_bad, ofO_some, L_take, seq_lst h1, lst_lst h1, hq, decide_true, e, lst_set_self hlt, seq_set_self hlt] at e2 ⊢
    exact e2
  · obtain ⟨x, e2⟩ := tail S pos cnt num rfl h1
    refine ⟨num % many, _, ?_, b1, b2, ⟨hd.ne, ns, pos, x, cnt, get_set_self hlt, (get_set_ne hd.ne).trans h2, h3, by omega⟩, Ext.set _⟩
    simp (disch := omega) only [Int.natCast_zero, Int.natCast_one, Int.cast_ofNat_Int, Int.reduceEq, Int.reduceLT, Int.reduceLE, decide_true, decide_false, List.length_cons, List.length_nil, List.set_set, List.map_cons, List.map_nil, List.replicate_zero, List.replicate_succ, List.cons_append, List.nil_append, List.getElem?_cons_zero, List.getElem?_cons_succ, List.set_cons_zero, List.set_cons_succ, Nat.reduceSub, Nat.reduceAdd, Bool.not_true, Bool.not_false, wipeE, bnd_ok, bnd_err, bnd_bad, on_ok, on_err, on_bad, sel_true, sel_false, slotR_val, fnR_fn, isR_val, negR_int, notR_bl, blSel_bl, optR_int, augR_val, thn_next, thn_ret, thn_err, thn_brk, thn_cont, again_next, again_cont, again_brk, again_ret, again_err, ctch_next, ctch_ret, ctch_err, fin_ret, fin_next, fin_err, okIf_t, e_slot, e_lit, e_globP, e_tup, e_lst, e_bin, e_neg, e_not, e_and, e_or, e_cmp, e_cmp2, e_ite, e_call, e_callv, e_bi, e_bic, e_isi, e_isiS, e_mth, e_ix, e_sl, e_rev, e_lc, o_none, o_some, es_nil, es_cons, b_val, b_not, b_and, b_or, b_yes, c_mk, i_seq, i_range1, i_range2, i_range3, i_enum, t_slot, t_tup, t_ix, ts_nil, ts_cons, s_asg, s_par, s_aug, s_for, s_while, s_if, s_ret, s_retN, s_expr, s_raise, s_try, s_brk, s_cont, s_pass, ss_nil, ss_cons, bin_add, bin_sub, bin_addS, bin_addT, bin_addL, bin_mulL, aug_add, aug_sub, eqS_int, eqS_bl, c_eq, c_ne, c_lt, c_le, c_gt, c_ge, c_isN, c_isntN, bi_one, bi_two, bi1_int, bi1_bl, bi1_str, bi1_tup, bi1_ref, bi2_int, biI_int, biB_int, biI_abs, biT_len, biT_tuple, biT_list, biL_len, biL_tuple, biL_list, biL_sum, biL_any, biL_all, biII_max, biII_min, truth_bl, truth_int, truth_tup, truth_non, seq_tup, ix_ref, ix_tup, sl_tup, sl_ref, set_ref, mt_app, it_tup, it_ref, it_r1, it_r2, noerr_err, atI_0, atI_1, atI_2, atI_3, atI_l, bin_modp, bin_divp, bin_mulp, ixN_40, ixN_41, ixN_42, ixN_43, isR_excP, pow_10_18, atI_cast, List.length_map, Res.noerr_ok, Res.noerr_bad, ofO_some, L_take, seq_lst h1, lst_lst h1, hq, decide_false] at e2 ⊢
    exact e2
end EV

/-! the laws' own helpers: fields, small elements -/
namespace EV
open PySem
theorem q_F_F {S : Store} : eqS S (.str "F") (.str "F") = some true := (eqS_str (by decide +kernel) (by decide +kernel)).trans (congrArg some (by decide +kernel))
theorem q_F_P {S : Store} : eqS S (.str "F") (.str "P") = some false := (eqS_str (by decide +kernel) (by decide +kernel)).trans (congrArg some (by decide +kernel))
theorem q_F_Q {S : Store} : eqS S (.str "F") (.str "Q") = some false := (eqS_str (by decide +kernel) (by decide +kernel)).trans (congrArg some (by decide +kernel))
theorem q_F_Z {S : Store} : eqS S (.str "F") (.str "Z") = some false := (eqS_str (by decide +kernel) (by decide +kernel)).trans (congrArg some (by decide +kernel))
theorem q_P_F {S : Store} : eqS S (.str "P") (.str "F") = some false := (eqS_str (by decide +kernel) (by decide +kernel)).trans (congrArg some (by decide +kernel))
theorem q_P_P {S : Store} : eqS S (.str "P") (.str "P") = some true := (eqS_str (by decide +kernel) (by decide +kernel)).trans (congrArg some (by decide +kernel))
theorem q_P_Q {S : Store} : eqS S (.str "P") (.str "Q") = some false := (eqS_str (by decide +kernel) (by decide +kernel)).trans (congrArg some (by decide +kernel))
theorem q_P_Z {S : Store} : eqS S (.str "P") (.str "Z") = some false := (eqS_str (by decide +kernel) (by decide +kernel)).trans (congrArg some (by decide +kernel))
theorem q_Q_F {S : Store} : eqS S (.str "Q") (.str "F") = some false := (eqS_str (by decide +kernel) (by decide +kernel)).trans (congrArg some (by decide +kernel))
theorem q_Q_P {S : Store} : eqS S (.str "Q") (.str "P") = some false := (eqS_str (by decide +kernel) (by decide +kernel)).trans (congrArg some (by decide +kernel))
theorem q_Q_Q {S : Store} : eqS S (.str "Q") (.str "Q") = some true := (eqS_str (by decide +kernel) (by decide +kernel)).trans (congrArg some (by decide +kernel))
theorem q_Q_Z {S : Store} : eqS S (.str "Q") (.str "Z") = some false := (eqS_str (by decide +kernel) (by decide +kernel)).trans (congrArg some (by decide +kernel))
theorem q_R_F {S : Store} : eqS S (.str "R") (.str "F") = some false := (eqS_str (by decide +kernel) (by decide +kernel)).trans (congrArg some (by decide +kernel))
theorem q_R_P {S : Store} : eqS S (.str "R") (.str "P") = some false := (eqS_str (by decide +kernel) (by decide +kernel)).trans (congrArg some (by decide +kernel))
theorem q_R_Q {S : Store} : eqS S (.str "R") (.str "Q") = some false := (eqS_str (by decide +kernel) (by decide +kernel)).trans (congrArg some (by decide +kernel))
theorem q_R_Z {S : Store} : eqS S (.str "R") (.str "Z") = some false := (eqS_str (by decide +kernel) (by decide +kernel)).trans (congrArg some (by decide +kernel))
theorem q_Z_F {S : Store} : eqS S (.str "Z") (.str "F") = some false := (eqS_str (by decide +kernel) (by decide +kernel)).trans (congrArg some (by decide +kernel))
theorem q_Z_P {S : Store} : eqS S (.str "Z") (.str "P") = some false := (eqS_str (by decide +kernel) (by decide +kernel)).trans (congrArg some (by decide +kernel))
theorem q_Z_Q {S : Store} : eqS S (.str "Z") (.str "Q") = some false := (eqS_str (by decide +kernel) (by decide +kernel)).trans (congrArg some (by decide +kernel))
theorem q_Z_Z {S : Store} : eqS S (.str "Z") (.str "Z") = some true := (eqS_str (by decide +kernel) (by decide +kernel)).trans (congrArg some (by decide +kernel))
theorem isi_of {S : Store} {d : D} {c n : String} {b : Bool} (h : clOf S d = some c) (h2 : L2.kitB c n = some b) : isiop d (.ty n) S = .ok (.bl b) S := by
  rw [isi_ty, h, ofO_some, h2, ofO_some]
theorem isi_tuple_tuple {S : Store} {l : List D} : isiop (.tup l) (.ty "tuple") S = .ok (.bl true) S := isi_of rfl (by kernel_rfl)
theorem isi_tuple_str {S : Store} {l : List D} : isiop (.tup l) (.ty "str") S = .ok (.bl false) S := isi_of rfl (by kernel_rfl)
theorem isi_tuple_int {S : Store} {l : List D} : isiop (.tup l) (.ty "int") S = .ok (.bl false) S := isi_of rfl (by kernel_rfl)
theorem isi_tuple_bool {S : Store} {l : List D} : isiop (.tup l) (.ty "bool") S = .ok (.bl false) S := isi_of rfl (by kernel_rfl)
theorem isi_str_tuple {S : Store} {x : Str} : isiop (.str x) (.ty "tuple") S = .ok (.bl false) S := isi_of rfl (by kernel_rfl)
theorem isi_str_str {S : Store} {x : Str} : isiop (.str x) (.ty "str") S = .ok (.bl true) S := isi_of rfl (by kernel_rfl)
theorem isi_str_int {S : Store} {x : Str} : isiop (.str x) (.ty "int") S = .ok (.bl false) S := isi_of rfl (by kernel_rfl)
theorem isi_str_bool {S : Store} {x : Str} : isiop (.str x) (.ty "bool") S = .ok (.bl false) S := isi_of rfl (by kernel_rfl)
theorem isi_int_tuple {S : Store} {i : Int} : isiop (.int i) (.ty "tuple") S = .ok (.bl false) S := isi_of rfl (by kernel_rfl)
theorem isi_int_str {S : Store} {i : Int} : isiop (.int i) (.ty "str") S = .ok (.bl false) S := isi_of rfl (by kernel_rfl)
theorem isi_int_int {S : Store} {i : Int} : isiop (.int i) (.ty "int") S = .ok (.bl true) S := isi_of rfl (by kernel_rfl)
theorem isi_int_bool {S : Store} {i : Int} : isiop (.int i) (.ty "bool") S = .ok (.bl false) S := isi_of rfl (by kernel_rfl)
theorem isi_bool_tuple {S : Store} {a : Bool} : isiop (.bl a) (.ty "tuple") S = .ok (.bl false) S := isi_of rfl (by kernel_rfl)
theorem isi_bool_str {S : Store} {a : Bool} : isiop (.bl a) (.ty "str") S = .ok (.bl false) S := isi_of rfl (by kernel_rfl)
theorem isi_bool_int {S : Store} {a : Bool} : isiop (.bl a) (.ty "int") S = .ok (.bl true) S := isi_of rfl (by kernel_rfl)
theorem isi_bool_bool {S : Store} {a : Bool} : isiop (.bl a) (.ty "bool") S = .ok (.bl true) S := isi_of rfl (by kernel_rfl)
theorem isi_NoneType_tuple {S : Store}  : isiop .non (.ty "tuple") S = .ok (.bl false) S := isi_of rfl (by kernel_rfl)
theorem isi_NoneType_str {S : Store}  : isiop .non (.ty "str") S = .ok (.bl false) S := isi_of rfl (by kernel_rfl)
theorem isi_NoneType_int {S : Store}  : isiop .non (.ty "int") S = .ok (.bl false) S := isi_of rfl (by kernel_rfl)
theorem isi_NoneType_bool {S : Store}  : isiop .non (.ty "bool") S = .ok (.bl false) S := isi_of rfl (by kernel_rfl)
theorem still_none {l : List D} {S : Store} : (It.mk none l).still S := trivial
theorem genG_map {C : Ctx} {σ : Env} {vs : List Nat} {t : CT} {c : CB} {e : CE} {J : It} {S : Store} {g : D → D} (st : J.still S) : ∀ {ds : List D}, (∀ d ∈ ds, eltG C vs t c e σ d S = .ok (some (g d)) S) → genG C vs t c e σ J ds S = .ok (ds.map g) S
  | [], _ => genG_nil st
  | d :: ds, h => by
    rw [genG_cons st, h d List.mem_cons_self, bnd_ok, genG_map st fun x hx => h x (List.mem_cons_of_mem _ hx), bnd_ok]
    rfl
/-- a comprehension that draws -/
theorem genG_dr {C : Ctx} {σ : Env} {vs : List Nat} {t : CT} {cb : CB} {e : CE} {J : It} {c l0 n B : Nat} {S0 : Store} {Q : D → Prop} (still : ∀ S, Ext c S0 S → J.still S)
    (h : ∀ (d : D) (T : Nat) (S : Store), T ≤ B → Dr c l0 T S → Ext c S0 S → ∃ x S', eltG C vs t cb e σ d S = .ok (some x) S' ∧ Q x ∧ Dr c l0 (T + n) S' ∧ Ext c S S') :
    ∀ (ds : List D) (T : Nat) (S : Store), Dr c l0 T S → Ext c S0 S → T + n * ds.length ≤ B → ∃ l S', genG C vs t cb e σ J ds S = .ok l S' ∧ l.length = ds.length ∧ (∀ x ∈ l, Q x) ∧ Dr c l0 (T + n * ds.length) S' ∧ Ext c S S'
  | [], T, S, dr, ex, _ => ⟨[], S, genG_nil (still S ex), rfl, by simp, by simpa using dr, Ext.refl _ _⟩
  | d :: ds, T, S, dr, ex, hB => by
    rw [List.length_cons, Nat.mul_succ] at hB
    obtain ⟨x, S1, e1, q1, dr1, ex1⟩ := h d T S (by omega) dr ex
    obtain ⟨l, S2, e2, hl, q2, dr2, ex2⟩ := genG_dr still h ds (T + n) S1 dr1 (ex.trans ex1) (by omega)
    refine ⟨x :: l, S2, ?_, by simp [hl], fun y hy => ?_, dr2.le (by rw [List.length_cons, Nat.mul_succ]; omega), ex1.trans ex2⟩
    · rw [genG_cons (still S ex), e1, bnd_ok, e2, bnd_ok]; rfl
    · rcases List.mem_cons.mp hy with rfl | hy
      · exact q1
      · exact q2 y hy
theorem range_length {lo c : Int} {n : Nat} : (rangeOf lo c n).length = n := by unfold rangeOf; simp
theorem seq_app_self {S : Store} {l : List D} : seqOf (S ++ [.lst l]) (.ref S.length) = some l := seq_lst (by simp)
theorem lst_app_self {S : Store} {l : List D} : lstOf (S ++ [.lst l]) S.length = some l := lst_lst (by simp)
theorem noerr_bnd {α : Type} {P : Prog} {k i : Nat} {ds : List D} {S : Store} {f : D → Store → Res α} : ((callF P k i ds S).bnd f).noerr = ((callF P k i ds S).bnd f).noerr := rfl
theorem trim_ref {S S' : Store} {i : Nat} : trim S S' (.ref i) = S' := by
  unfold trim
  rw [if_neg (fun h => by have := h.1; unfold D.pure at this; cases this)]
/-! ### the start -/
theorem cut_63 {ns : List Int} : cut (ns.map D.int) none (some 63) = (ns.take 63).map .int := by
  unfold cut
  have h0 : _root_.HT.sIx (ns.map D.int).length 0 none = 0 := HT.sIx_none ..
  have h1 : _root_.HT.sIx (ns.map D.int).length (ns.map D.int).length (some 63) = min 63 (ns.map D.int).length := HT.sIx_nat _ _ 63
  rw [h0, h1, List.drop_zero, Nat.sub_zero, List.map_take]
  by_cases h : 63 ≤ (ns.map D.int).length
  · rw [Nat.min_eq_left h]
  · rw [Nat.min_eq_right (by omega), List.take_length, List.take_of_length_le (by omega)]
theorem start_spec {P : Prog} {k : Nat} {S : Store} {s : D} {ns : List Int} (h0 : P.fns 0 = some L_start) (hs : (S = [.fro (ns.map .int)] ∧ s = .ref 0) ∨ (S = [] ∧ s = .kl ns)) : ∃ (c l0 : Nat) (S' : Store), callF P (k + 1) 0 [s] S = .ok (.ref c) S' ∧ Dr c l0 0 S' := by
  rw [callF_of h0 rfl]
  have gen : ∀ S : Store, ∀ l : List Int, genG (P.ctx k) [1] (CT.slot 1) CB.yes (CE.bi Bi.int (CEs.cons (CE.slot 1) CEs.nil)) [.val s, .no] ⟨some (S.length, l.map .int), l.map .int⟩ (l.map .int) (S ++ [.lst (l.map .int)]) = .ok (l.map .int) (S ++ [.lst (l.map .int)]) := by
    intro S l
    rw [genG_map (g := id) (show (It.mk (some (S.length, l.map .int)) (l.map .int)).still _ from seq_app_self)]
    · simp
    · intro d hd
      obtain ⟨n, _, rfl⟩ := List.mem_map.mp hd
      unfold eltG
      simp (disch := omega) only [Int.natCast_zero, Int.natCast_one, Int.cast_ofNat_Int, Int.reduceEq, Int.reduceLT, Int.reduceLE, decide_true, decide_false, List.length_cons, List.length_nil, List.set_set, List.map_cons, List.map_nil, List.replicate_zero, List.replicate_succ, List.cons_append, List.nil_append, List.getElem?_cons_zero, List.getElem?_cons_succ, List.set_cons_zero, List.set_cons_succ, Nat.reduceSub, Nat.reduceAdd, Bool.not_true, Bool.not_false, wipeE, bnd_ok, bnd_err, bnd_bad, on_ok, on_err, on_bad, sel_true, sel_false, slotR_val, fnR_fn, isR_val, negR_int, notR_bl, blSel_bl, optR_int, augR_val, thn_next, thn_ret, thn_err, thn_brk, thn_cont, again_next, again_cont, again_brk, again_ret, again_err, ctch_next, ctch_ret, ctch_err, fin_ret, fin_next, fin_err, okIf_t, e_slot, e_lit, e_globP, e_tup, e_lst, e_bin, e_neg, e_not, e_and, e_or, e_cmp, e_cmp2, e_ite, e_call, e_callv, e_bi, e_bic, e_isi, e_isiS, e_mth, e_ix, e_sl, e_rev, e_lc, o_none, o_some, es_nil, es_cons, b_val, b_not, b_and, b_or, b_yes, c_mk, i_seq, i_range1, i_range2, i_range3, i_enum, t_slot, t_tup, t_ix, ts_nil, ts_cons, s_asg, s_par, s_aug, s_for, s_while, s_if, s_ret, s_retN, s_expr, s_raise, s_try, s_brk, s_cont, s_pass, ss_nil, ss_cons, bin_add, bin_sub, bin_addS, bin_addT, bin_addL, bin_mulL, aug_add, aug_sub, eqS_int, eqS_bl, c_eq, c_ne, c_lt, c_le, c_gt, c_ge, c_isN, c_isntN, bi_one, bi_two, bi1_int, bi1_bl, bi1_str, bi1_tup, bi1_ref, bi2_int, biI_int, biB_int, biI_abs, biT_len, biT_tuple, biT_list, biL_len, biL_tuple, biL_list, biL_sum, biL_any, biL_all, biII_max, biII_min, truth_bl, truth_int, truth_tup, truth_non, seq_tup, ix_ref, ix_tup, sl_tup, sl_ref, set_ref, mt_app, it_tup, it_ref, it_r1, it_r2, noerr_err, atI_0, atI_1, atI_2, atI_3, atI_l, bin_modp, bin_divp, bin_mulp, ixN_40, ixN_41, ixN_42, ixN_43, isR_excP, pow_10_18, atI_cast, List.length_map, Res.noerr_ok, Res.noerr_bad, ofO_some, q_F_F, q_F_P, q_F_Q, q_F_Z, q_P_F, q_P_P, q_P_Q, q_P_Z, q_Q_F, q_Q_P, q_Q_Q, q_Q_Z, q_R_F, q_R_P, q_R_Q, q_R_Z, q_Z_F, q_Z_P, q_Z_Q, q_Z_Z, isi_tuple_tuple, isi_tuple_str, isi_tuple_int, isi_tuple_bool, isi_str_tuple, isi_str_str, isi_str_int, isi_str_bool, isi_int_tuple, isi_int_str, isi_int_int, isi_int_bool, isi_bool_tuple, isi_bool_str, isi_bool_int, isi_bool_bool, isi_NoneType_tuple, isi_NoneType_str, isi_NoneType_int, isi_NoneType_bool, ]
      rfl
  have len : (ns.take 63).length ≤ sizeLine := by
    rw [List.length_take]
    exact Nat.le_trans (Nat.min_le_left _ _) (by decide)
  have slice : slop s none (some 63) S = .ok (.ref S.length) (S ++ [.lst ((ns.take 63).map .int)]) := by
    rcases hs with ⟨rfl, rfl⟩ | ⟨rfl, rfl⟩
    · rw [sl_ref, seq_fro (l := ns.map .int) rfl, ofO_some, cut_63]
    · show Res.ok _ _ = _
      rw [cut_63]
  simp (disch := omega) only [Int.natCast_zero, Int.natCast_one, Int.cast_ofNat_Int, Int.reduceEq, Int.reduceLT, Int.reduceLE, decide_true, decide_false, List.length_cons, List.length_nil, List.set_set, List.map_cons, List.map_nil, List.replicate_zero, List.replicate_succ, List.cons_append, List.nil_append, List.getElem?_cons_zero, List.getElem?_cons_succ, List.set_cons_zero, List.set_cons_succ, Nat.reduceSub, Nat.reduceAdd, Bool.not_true, Bool.not_false, wipeE, bnd_ok, bnd_err, bnd_bad, on_ok, on_err, on_bad, sel_true, sel_false, slotR_val, fnR_fn, isR_val, negR_int, notR_bl, blSel_bl, optR_int, augR_val, thn_next, thn_ret, thn_err, thn_brk, thn_cont, again_next, again_cont, again_brk, again_ret, again_err, ctch_next, ctch_ret, ctch_err, fin_ret, fin_next, fin_err, okIf_t, e_slot, e_lit, e_globP, e_tup, e_lst, e_bin, e_neg, e_not, e_and, e_or, e_cmp, e_cmp2, e_ite, e_call, e_callv, e_bi, e_bic, e_isi, e_isiS, e_mth, e_ix, e_sl, e_rev, e_lc, o_none, o_some, es_nil, es_cons, b_val, b_not, b_and, b_or, b_yes, c_mk, i_seq, i_range1, i_range2, i_range3, i_enum, t_slot, t_tup, t_ix, ts_nil, ts_cons, s_asg, s_par, s_aug, s_for, s_while, s_if, s_ret, s_retN, s_expr, s_raise, s_try, s_brk, s_cont, s_pass, ss_nil, ss_cons, bin_add, bin_sub, bin_addS, bin_addT, bin_addL, bin_mulL, aug_add, aug_sub, eqS_int, eqS_bl, c_eq, c_ne, c_lt, c_le, c_gt, c_ge, c_isN, c_isntN, bi_one, bi_two, bi1_int, bi1_bl, bi1_str, bi1_tup, bi1_ref, bi2_int, biI_int, biB_int, biI_abs, biT_len, biT_tuple, biT_list, biL_len, biL_tuple, biL_list, biL_sum, biL_any, biL_all, biII_max, biII_min, truth_bl, truth_int, truth_tup, truth_non, seq_tup, ix_ref, ix_tup, sl_tup, sl_ref, set_ref, mt_app, it_tup, it_ref, it_r1, it_r2, noerr_err, atI_0, atI_1, atI_2, atI_3, atI_l, bin_modp, bin_divp, bin_mulp, ixN_40, ixN_41, ixN_42, ixN_43, isR_excP, pow_10_18, atI_cast, List.length_map, Res.noerr_ok, Res.noerr_bad, ofO_some, q_F_F, q_F_P, q_F_Q, q_F_Z, q_P_F, q_P_P, q_P_Q, q_P_Z, q_Q_F, q_Q_P, q_Q_Q, q_Q_Z, q_R_F, q_R_P, q_R_Q, q_R_Z, q_Z_F, q_Z_P, q_Z_Q, q_Z_Z, isi_tuple_tuple, isi_tuple_str, isi_tuple_int, isi_tuple_bool, isi_str_tuple, isi_str_str, isi_str_int, isi_str_bool, isi_int_tuple, isi_int_str, isi_int_int, isi_int_bool, isi_bool_tuple, isi_bool_str, isi_bool_int, isi_bool_bool, isi_NoneType_tuple, isi_NoneType_str, isi_NoneType_int, isi_NoneType_bool, L_start, slice, seq_app_self, gen, okIf, len, if_true, trim_len]
  rw [trim_ref]
  refine ⟨_, (S ++ [Cell.lst ((ns.take 63).map .int)]).length, _, rfl, ⟨?_, ⟨ns.take 63, 0, 0, 0, ?_, ?_, Nat.zero_le _, Nat.le_refl _⟩⟩⟩
  · simp
  · rw [List.getElem?_append_right (Nat.le_refl _), Nat.sub_self]; rfl
  · rw [List.getElem?_append_left (by simp), List.getElem?_append_right (Nat.le_refl _), Nat.sub_self]; rfl
def L_common : Fn := ⟨2, 3,
  (.cons (.asg (.slot 0) (.bi .abs (.cons (.slot 0) .nil)))
  (.cons (.asg (.slot 1) (.bi .abs (.cons (.slot 1) .nil)))
  (.cons (.whileS (.val (.cmp .NotEq (.slot 1) (.lit (.int 0)))) (.cons (.asg (.slot 2) (.bin .Mod (.bi .int (.cons (.slot 0) .nil)) (.slot 1)))
   (.cons (.asg (.slot 0) (.slot 1))
   (.cons (.asg (.slot 1) (.slot 2))
   .nil))))
  (.cons (.ret (.slot 0))
  .nil))))⟩
def L_fraction : Fn := ⟨2, 3,
  (.cons (.asg (.slot 2) (.call 5 (.cons (.slot 0) (.cons (.slot 1) .nil))))
  (.cons (.ite (.val (.cmp .Lt (.slot 1) (.lit (.int 0)))) (.cons (.asg (.slot 2) (.bin .Sub (.lit (.int 0)) (.slot 2)))
   .nil) .nil)
  (.cons (.ret (.tup (.cons (.bin .FloorDiv (.slot 0) (.slot 2)) (.cons (.bin .FloorDiv (.slot 1) (.slot 2)) .nil))))
  .nil)))⟩
def L_zero : Fn := ⟨1, 1,
  (.cons (.ite (.val (.cmp .Eq (.ix (.slot 0) (.lit (.int 0))) (.lit (.str "Q")))) (.cons (.ret (.tup (.cons (.lit (.int 0)) (.cons (.lit (.int 1)) .nil))))
   .nil) .nil)
  (.cons (.ite (.val (.cmp .Eq (.ix (.slot 0) (.lit (.int 0))) (.lit (.str "P")))) (.cons (.ret (.tup .nil))
   .nil) .nil)
  (.cons (.ret (.lit (.int 0)))
  .nil)))⟩
def L_strip : Fn := ⟨2, 3,
  (.cons (.asg (.slot 2) (.bi .len (.cons (.slot 1) .nil)))
  (.cons (.whileS (.and (.val (.cmp .Gt (.slot 2) (.lit (.int 0)))) (.val (.cmp .Eq (.ix (.slot 1) (.bin .Sub (.slot 2) (.lit (.int 1)))) (.call 7 (.cons (.slot 0) .nil))))) (.cons (.asg (.slot 2) (.bin .Sub (.slot 2) (.lit (.int 1))))
   .nil))
  (.cons (.ret (.bi .tuple (.cons (.sl (.slot 1) .none (.some (.slot 2))) .nil)))
  .nil)))⟩
def L_number : Fn := ⟨2, 2,
  (.cons (.ite (.val (.cmp .Eq (.ix (.slot 0) (.lit (.int 0))) (.lit (.str "Q")))) (.cons (.ret (.tup (.cons (.slot 1) (.cons (.lit (.int 1)) .nil))))
   .nil) .nil)
  (.cons (.ite (.val (.cmp .Eq (.ix (.slot 0) (.lit (.int 0))) (.lit (.str "F")))) (.cons (.ret (.bin .Mod (.bi .int (.cons (.slot 1) .nil)) (.ix (.slot 0) (.lit (.int 1)))))
   .nil) .nil)
  (.cons (.ite (.val (.cmp .Eq (.ix (.slot 0) (.lit (.int 0))) (.lit (.str "P")))) (.cons (.ret (.call 8 (.cons (.ix (.slot 0) (.lit (.int 1))) (.cons (.lst (.cons (.call 14 (.cons (.ix (.slot 0) (.lit (.int 1))) (.cons (.slot 1) .nil))) .nil)) .nil))))
   .nil) .nil)
  (.cons (.ret (.slot 1))
  .nil))))⟩
def L_small : Fn := ⟨2, 3,
  (.cons (.ite (.val (.cmp .Eq (.ix (.slot 1) (.lit (.int 0))) (.lit (.str "F")))) (.cons (.ret (.bin .Mod (.bi .int (.cons (.call 2 (.cons (.slot 0) (.cons (.lit (.int 65536)) .nil))) .nil)) (.ix (.slot 1) (.lit (.int 1)))))
   .nil) .nil)
  (.cons (.ite (.val (.cmp .Eq (.ix (.slot 1) (.lit (.int 0))) (.lit (.str "Q")))) (.cons (.ret (.call 6 (.cons (.bin .Sub (.call 2 (.cons (.slot 0) (.cons (.lit (.int 9)) .nil))) (.lit (.int 4))) (.cons (.bin .Add (.lit (.int 1)) (.call 2 (.cons (.slot 0) (.cons (.lit (.int 3)) .nil)))) .nil))))
   .nil) .nil)
  (.cons (.ite (.val (.cmp .Eq (.ix (.slot 1) (.lit (.int 0))) (.lit (.str "P")))) (.cons (.ret (.call 8 (.cons (.ix (.slot 1) (.lit (.int 1))) (.cons (.lc (.mk [2] (.slot 2) (.range1 (.call 2 (.cons (.slot 0) (.cons (.lit (.int 3)) .nil)))) .yes (.call 9 (.cons (.slot 0) (.cons (.ix (.slot 1) (.lit (.int 1))) .nil))))) .nil))))
   .nil) .nil)
  (.cons (.ret (.ix (.lst (.cons (.bin .Sub (.call 2 (.cons (.slot 0) (.cons (.lit (.int 9)) .nil))) (.lit (.int 4))) (.cons (.lit (.int 0)) (.cons (.lit (.int 0)) (.cons (.lit (.int 1)) (.cons (.bin .Sub (.call 2 (.cons (.slot 0) (.cons (.lit (.int 99)) .nil))) (.lit (.int 49))) .nil)))))) (.call 2 (.cons (.slot 0) (.cons (.lit (.int 5)) .nil)))))
  .nil))))⟩
def L_matrix : Fn := ⟨4, 6,
  (.cons (.ret (.tup (.cons (.slot 2) (.cons (.slot 3) (.cons (.bic .tuple (.mk [4] (.slot 4) (.range1 (.slot 2)) .yes (.bic .tuple (.mk [5] (.slot 5) (.range1 (.slot 3)) .yes (.call 9 (.cons (.slot 0) (.cons (.slot 1) .nil))))))) .nil)))))
  .nil)⟩
def L_some_prime : Fn := ⟨1, 3,
  (.cons (.asg (.slot 1) (.bin .Add (.lit (.int 2)) (.call 2 (.cons (.slot 0) (.cons (.lit (.int 65520)) .nil)))))
  (.cons (.whileS (.val (.bic .any (.mk [2] (.slot 2) (.range2 (.lit (.int 2)) (.lit (.int 257))) (.val (.cmp .LtE (.bin .Mult (.slot 2) (.slot 2)) (.slot 1))) (.cmp .Eq (.bin .Mod (.bi .int (.cons (.slot 1) .nil)) (.slot 2)) (.lit (.int 0)))))) (.cons (.asg (.slot 1) (.bin .Add (.slot 1) (.lit (.int 1))))
   .nil))
  (.cons (.ret (.slot 1))
  .nil)))⟩
def L_field : Fn := ⟨1, 3,
  (.cons (.asg (.slot 1) (.lst (.cons (.lit (.int 2)) (.cons (.lit (.int 3)) (.cons (.lit (.int 5)) (.cons (.lit (.int 7)) (.cons (.lit (.int 11)) (.cons (.lit (.int 101)) (.cons (.lit (.int 65521)) .nil)))))))))
  (.cons (.asg (.slot 2) (.call 2 (.cons (.slot 0) (.cons (.lit (.int 14)) .nil))))
  (.cons (.ite (.val (.cmp .Lt (.slot 2) (.lit (.int 4)))) (.cons (.ret (.tup (.cons (.lit (.str "Q")) .nil)))
   .nil) .nil)
  (.cons (.ite (.val (.cmp .Gt (.slot 2) (.lit (.int 10)))) (.cons (.ret (.tup (.cons (.lit (.str "F")) (.cons (.call 3 (.cons (.slot 0) .nil)) .nil))))
   .nil) .nil)
  (.cons (.ret (.tup (.cons (.lit (.str "F")) (.cons (.ix (.slot 1) (.bin .Sub (.slot 2) (.lit (.int 4)))) .nil))))
  .nil)))))⟩
def nth : Nat → CSs → CS
  | 0, .cons s _ => s
  | n + 1, .cons _ r => nth n r
  | _, .nil => .pass
/-! ### the greatest common divisor -/
theorem common_loop {P : Prog} {k : Nat} {S : Store} : ∀ (n a b : Nat) (x : SV), b ≤ n → ∃ y, evS (P.ctx k) (nth 2 L_common.body) [.val (.int a), .val (.int b), x] S = .next [.val (.int (Nat.gcd a b : Nat)), .val (.int 0), y] S
  | n, a, b, x, h => by
    by_cases hb : b = 0
    · subst hb
      refine ⟨x, ?_⟩
      simp (disch := omega) only [Int.natCast_zero, Int.natCast_one, Int.cast_ofNat_Int, Int.reduceEq, Int.reduceLT, Int.reduceLE, decide_true, decide_false, List.length_cons, List.length_nil, List.set_set, List.map_cons, List.map_nil, List.replicate_zero, List.replicate_succ, List.cons_append, List.nil_append, List.getElem?_cons_zero, List.getElem?_cons_succ, List.set_cons_zero, List.set_cons_succ, Nat.reduceSub, Nat.reduceAdd, Bool.not_true, Bool.not_false, wipeE, bnd_ok, bnd_err, bnd_bad, on_ok, on_err, on_bad, sel_true, sel_false, slotR_val, fnR_fn, isR_val, negR_int, notR_bl, blSel_bl, optR_int, augR_val, thn_next, thn_ret, thn_err, thn_brk, thn_cont, again_next, again_cont, again_brk, again_ret, again_err, ctch_next, ctch_ret, ctch_err, fin_ret, fin_next, fin_err, okIf_t, e_slot, e_lit, e_globP, e_tup, e_lst, e_bin, e_neg, e_not, e_and, e_or, e_cmp, e_cmp2, e_ite, e_call, e_callv, e_bi, e_bic, e_isi, e_isiS, e_mth, e_ix, e_sl, e_rev, e_lc, o_none, o_some, es_nil, es_cons, b_val, b_not, b_and, b_or, b_yes, c_mk, i_seq, i_range1, i_range2, i_range3, i_enum, t_slot, t_tup, t_ix, ts_nil, ts_cons, s_asg, s_par, s_aug, s_for, s_while, s_if, s_ret, s_retN, s_expr, s_raise, s_try, s_brk, s_cont, s_pass, ss_nil, ss_cons, bin_add, bin_sub, bin_addS, bin_addT, bin_addL, bin_mulL, aug_add, aug_sub, eqS_int, eqS_bl, c_eq, c_ne, c_lt, c_le, c_gt, c_ge, c_isN, c_isntN, bi_one, bi_two, bi1_int, bi1_bl, bi1_str, bi1_tup, bi1_ref, bi2_int, biI_int, biB_int, biI_abs, biT_len, biT_tuple, biT_list, biL_len, biL_tuple, biL_list, biL_sum, biL_any, biL_all, biII_max, biII_min, truth_bl, truth_int, truth_tup, truth_non, seq_tup, ix_ref, ix_tup, sl_tup, sl_ref, set_ref, mt_app, it_tup, it_ref, it_r1, it_r2, noerr_err, atI_0, atI_1, atI_2, atI_3, atI_l, bin_modp, bin_divp, bin_mulp, ixN_40, ixN_41, ixN_42, ixN_43, isR_excP, pow_10_18, atI_cast, List.length_map, Res.noerr_ok, Res.noerr_bad, ofO_some, q_F_F, q_F_P, q_F_Q, q_F_Z, q_P_F, q_P_P, q_P_Q, q_P_Z, q_Q_F, q_Q_P, q_Q_Q, q_Q_Z, q_R_F, q_R_P, q_R_Q, q_R_Z, q_Z_F, q_Z_P, q_Z_Q, q_Z_Z, isi_tuple_tuple, isi_tuple_str, isi_tuple_int, isi_tuple_bool, isi_str_tuple, isi_str_str, isi_str_int, isi_str_bool, isi_int_tuple, isi_int_str, isi_int_int, isi_int_bool, isi_bool_tuple, isi_bool_str, isi_bool_int, isi_bool_bool, isi_NoneType_tuple, isi_NoneType_str, isi_NoneType_int, isi_NoneType_bool, L_common, nth]
      rw [loopG_eq]
      simp (disch := omega) only [Int.natCast_zero, Int.natCast_one, Int.cast_ofNat_Int, Int.reduceEq, Int.reduceLT, Int.reduceLE, decide_true, decide_false, List.length_cons, List.length_nil, List.set_set, List.map_cons, List.map_nil, List.replicate_zero, List.replicate_succ, List.cons_append, List.nil_append, List.getElem?_cons_zero, List.getElem?_cons_succ, List.set_cons_zero, List.set_cons_succ, Nat.reduceSub, Nat.reduceAdd, Bool.not_true, Bool.not_false, wipeE, bnd_ok, bnd_err, bnd_bad, on_ok, on_err, on_bad, sel_true, sel_false, slotR_val, fnR_fn, isR_val, negR_int, notR_bl, blSel_bl, optR_int, augR_val, thn_next, thn_ret, thn_err, thn_brk, thn_cont, again_next, again_cont, again_brk, again_ret, again_err, ctch_next, ctch_ret, ctch_err, fin_ret, fin_next, fin_err, okIf_t, e_slot, e_lit, e_globP, e_tup, e_lst, e_bin, e_neg, e_not, e_and, e_or, e_cmp, e_cmp2, e_ite, e_call, e_callv, e_bi, e_bic, e_isi, e_isiS, e_mth, e_ix, e_sl, e_rev, e_lc, o_none, o_some, es_nil, es_cons, b_val, b_not, b_and, b_or, b_yes, c_mk, i_seq, i_range1, i_range2, i_range3, i_enum, t_slot, t_tup, t_ix, ts_nil, ts_cons, s_asg, s_par, s_aug, s_for, s_while, s_if, s_ret, s_retN, s_expr, s_raise, s_try, s_brk, s_cont, s_pass, ss_nil, ss_cons, bin_add, bin_sub, bin_addS, bin_addT, bin_addL, bin_mulL, aug_add, aug_sub, eqS_int, eqS_bl, c_eq, c_ne, c_lt, c_le, c_gt, c_ge, c_isN, c_isntN, bi_one, bi_two, bi1_int, bi1_bl, bi1_str, bi1_tup, bi1_ref, bi2_int, biI_int, biB_int, biI_abs, biT_len, biT_tuple, biT_list, biL_len, biL_tuple, biL_list, biL_sum, biL_any, biL_all, biII_max, biII_min, truth_bl, truth_int, truth_tup, truth_non, seq_tup, ix_ref, ix_tup, sl_tup, sl_ref, set_ref, mt_app, it_tup, it_ref, it_r1, it_r2, noerr_err, atI_0, atI_1, atI_2, atI_3, atI_l, bin_modp, bin_divp, bin_mulp, ixN_40, ixN_41, ixN_42, ixN_43, isR_excP, pow_10_18, atI_cast, List.length_map, Res.noerr_ok, Res.noerr_bad, ofO_some, q_F_F, q_F_P, q_F_Q, q_F_Z, q_P_F, q_P_P, q_P_Q, q_P_Z, q_Q_F, q_Q_P, q_Q_Q, q_Q_Z, q_R_F, q_R_P, q_R_Q, q_R_Z, q_Z_F, q_Z_P, q_Z_Q, q_Z_Z, isi_tuple_tuple, isi_tuple_str, isi_tuple_int, isi_tuple_bool, isi_str_tuple, isi_str_str, isi_str_int, isi_str_bool, isi_int_tuple, isi_int_str, isi_int_int, isi_int_bool, isi_bool_tuple, isi_bool_str, isi_bool_int, isi_bool_bool, isi_NoneType_tuple, isi_NoneType_str, isi_NoneType_int, isi_NoneType_bool, decide_true, Int.natCast_zero, Int.cast_ofNat_Int, Nat.gcd_zero_right]
    · have hb' : ((b : Int) = 0) = False := eq_false (by omega)
      cases n with
      | zero => omega
      | succ n =>
        have hlt : a % b < b := Nat.mod_lt _ (by omega)
        obtain ⟨y, e⟩ := common_loop (P := P) (k := k) (S := S) n b (a % b) (.val (.int (a % b : Nat))) (by omega)
        refine ⟨y, ?_⟩
        have eg : Nat.gcd b (a % b) = Nat.gcd a b := by rw [Nat.gcd_comm b, ← Nat.gcd_rec b a, Nat.gcd_comm]
        rw [eg] at e
        simp (disch := omega) only [Int.natCast_zero, Int.natCast_one, Int.cast_ofNat_Int, Int.reduceEq, Int.reduceLT, Int.reduceLE, decide_true, decide_false, List.length_cons, List.length_nil, List.set_set, List.map_cons, List.map_nil, List.replicate_zero, List.replicate_succ, List.cons_append, List.nil_append, List.getElem?_cons_zero, List.getElem?_cons_succ, List.set_cons_zero, List.set_cons_succ, Nat.reduceSub, Nat.reduceAdd, Bool.not_true, Bool.not_false, wipeE, bnd_ok, bnd_err, bnd_bad, on_ok, on_err, on_bad, sel_true, sel_false, slotR_val, fnR_fn, isR_val, negR_int, notR_bl, blSel_bl, optR_int, augR_val, thn_next, thn_ret, thn_err, thn_brk, thn_cont, again_next, again_cont, again_brk, again_ret, again_err, ctch_next, ctch_ret, ctch_err, fin_ret, fin_next, fin_err, okIf_t, e_slot, e_lit, e_globP, e_tup, e_lst, e_bin, e_neg, e_not, e_and, e_or, e_cmp, e_cmp2, e_ite, e_call, e_callv, e_bi, e_bic, e_isi, e_isiS, e_mth, e_ix, e_sl, e_rev, e_lc, o_none, o_some, es_nil, es_cons, b_val, b_not, b_and, b_or, b_yes, c_mk, i_seq, i_range1, i_range2, i_range3, i_enum, t_slot, t_tup, t_ix, ts_nil, ts_cons, s_asg, s_par, s_aug, s_for, s_while, s_if, s_ret, s_retN, s_expr, s_raise, s_try, s_brk, s_cont, s_pass, ss_nil, ss_cons, bin_add, bin_sub, bin_addS, bin_addT, bin_addL, bin_mulL, aug_add, aug_sub, eqS_int, eqS_bl, c_eq, c_ne, c_lt, c_le, c_gt, c_ge, c_isN, c_isntN, bi_one, bi_two, bi1_int, bi1_bl, bi1_str, bi1_tup, bi1_ref, bi2_int, biI_int, biB_int, biI_abs, biT_len, biT_tuple, biT_list, biL_len, biL_tuple, biL_list, biL_sum, biL_any, biL_all, biII_max, biII_min, truth_bl, truth_int, truth_tup, truth_non, seq_tup, ix_ref, ix_tup, sl_tup, sl_ref, set_ref, mt_app, it_tup, it_ref, it_r1, it_r2, noerr_err, atI_0, atI_1, atI_2, atI_3, atI_l, bin_modp, bin_divp, bin_mulp, ixN_40, ixN_41, ixN_42, ixN_43, isR_excP, pow_10_18, atI_cast, List.length_map, Res.noerr_ok, Res.noerr_bad, ofO_some, q_F_F, q_F_P, q_F_Q, q_F_Z, q_P_F, q_P_P, q_P_Q, q_P_Z, q_Q_F, q_Q_P, q_Q_Q, q_Q_Z, q_R_F, q_R_P, q_R_Q, q_R_Z, q_Z_F, q_Z_P, q_Z_Q, q_Z_Z, isi_tuple_tuple, isi_tuple_str, isi_tuple_int, isi_tuple_bool, isi_str_tuple, isi_str_str, isi_str_int, isi_str_bool, isi_int_tuple, isi_int_str, isi_int_int, isi_int_bool, isi_bool_tuple, isi_bool_str, isi_bool_int, isi_bool_bool, isi_NoneType_tuple, isi_NoneType_str, isi_NoneType_int, isi_NoneType_bool, L_common, nth, Int.natCast_emod] at e
        simp (disch := omega) only [Int.natCast_zero, Int.natCast_one, Int.cast_ofNat_Int, Int.reduceEq, Int.reduceLT, Int.reduceLE, decide_true, decide_false, List.length_cons, List.length_nil, List.set_set, List.map_cons, List.map_nil, List.replicate_zero, List.replicate_succ, List.cons_append, List.nil_append, List.getElem?_cons_zero, List.getElem?_cons_succ, List.set_cons_zero, List.set_cons_succ, Nat.reduceSub, Nat.reduceAdd, Bool.not_true, Bool.not_false, wipeE, bnd_ok, bnd_err, bnd_bad, on_ok, on_err, on_bad, sel_true, sel_false, slotR_val, fnR_fn, isR_val, negR_int, notR_bl, blSel_bl, optR_int, augR_val, thn_next, thn_ret, thn_err, thn_brk, thn_cont, again_next, again_cont, again_brk, again_ret, again_err, ctch_next, ctch_ret, ctch_err, fin_ret, fin_next, fin_err, okIf_t, e_slot, e_lit, e_globP, e_tup, e_lst, e_bin, e_neg, e_not, e_and, e_or, e_cmp, e_cmp2, e_ite, e_call, e_callv, e_bi, e_bic, e_isi, e_isiS, e_mth, e_ix, e_sl, e_rev, e_lc, o_none, o_some, es_nil, es_cons, b_val, b_not, b_and, b_or, b_yes, c_mk, i_seq, i_range1, i_range2, i_range3, i_enum, t_slot, t_tup, t_ix, ts_nil, ts_cons, s_asg, s_par, s_aug, s_for, s_while, s_if, s_ret, s_retN, s_expr, s_raise, s_try, s_brk, s_cont, s_pass, ss_nil, ss_cons, bin_add, bin_sub, bin_addS, bin_addT, bin_addL, bin_mulL, aug_add, aug_sub, eqS_int, eqS_bl, c_eq, c_ne, c_lt, c_le, c_gt, c_ge, c_isN, c_isntN, bi_one, bi_two, bi1_int, bi1_bl, bi1_str, bi1_tup, bi1_ref, bi2_int, biI_int, biB_int, biI_abs, biT_len, biT_tuple, biT_list, biL_len, biL_tuple, biL_list, biL_sum, biL_any, biL_all, biII_max, biII_min, truth_bl, truth_int, truth_tup, truth_non, seq_tup, ix_ref, ix_tup, sl_tup, sl_ref, set_ref, mt_app, it_tup, it_ref, it_r1, it_r2, noerr_err, atI_0, atI_1, atI_2, atI_3, atI_l, bin_modp, bin_divp, bin_mulp, ixN_40, ixN_41, ixN_42, ixN_43, isR_excP, pow_10_18, atI_cast, List.length_map, Res.noerr_ok, Res.noerr_bad, ofO_some, q_F_F, q_F_P, q_F_Q, q_F_Z, q_P_F, q_P_P, q_P_Q, q_P_Z, q_Q_F, q_Q_P, q_Q_Q, q_Q_Z, q_R_F, q_R_P, q_R_Q, q_R_Z, q_Z_F, q_Z_P, q_Z_Q, q_Z_Z, isi_tuple_tuple, isi_tuple_str, isi_tuple_int, isi_tuple_bool, isi_str_tuple, isi_str_str, isi_str_int, isi_str_bool, isi_int_tuple, isi_int_str, isi_int_int, isi_int_bool, isi_bool_tuple, isi_bool_str, isi_bool_int, isi_bool_bool, isi_NoneType_tuple, isi_NoneType_str, isi_NoneType_int, isi_NoneType_bool, L_common, nth]
        rw [loopG_eq]
        simp (disch := omega) only [Int.natCast_zero, Int.natCast_one, Int.cast_ofNat_Int, Int.reduceEq, Int.reduceLT, Int.reduceLE, decide_true, decide_false, List.length_cons, List.length_nil, List.set_set, List.map_cons, List.map_nil, List.replicate_zero, List.replicate_succ, List.cons_append, List.nil_append, List.getElem?_cons_zero, List.getElem?_cons_succ, List.set_cons_zero, List.set_cons_succ, Nat.reduceSub, Nat.reduceAdd, Bool.not_true, Bool.not_false, wipeE, bnd_ok, bnd_err, bnd_bad, on_ok, on_err, on_bad, sel_true, sel_false, slotR_val, fnR_fn, isR_val, negR_int, notR_bl, blSel_bl, optR_int, augR_val, thn_next, thn_ret, thn_err, thn_brk, thn_cont, again_next, again_cont, again_brk, again_ret, again_err, ctch_next, ctch_ret, ctch_err, fin_ret, fin_next, fin_err, okIf_t, e_slot, e_lit, e_globP, e_tup, e_lst, e_bin, e_neg, e_not, e_and, e_or, e_cmp, e_cmp2, e_ite, e_call, e_callv, e_bi, e_bic, e_isi, e_isiS, e_mth, e_ix, e_sl, e_rev, e_lc, o_none, o_some, es_nil, es_cons, b_val, b_not, b_and, b_or, b_yes, c_mk, i_seq, i_range1, i_range2, i_range3, i_enum, t_slot, t_tup, t_ix, ts_nil, ts_cons, s_asg, s_par, s_aug, s_for, s_while, s_if, s_ret, s_retN, s_expr, s_raise, s_try, s_brk, s_cont, s_pass, ss_nil, ss_cons, bin_add, bin_sub, bin_addS, bin_addT, bin_addL, bin_mulL, aug_add, aug_sub, eqS_int, eqS_bl, c_eq, c_ne, c_lt, c_le, c_gt, c_ge, c_isN, c_isntN, bi_one, bi_two, bi1_int, bi1_bl, bi1_str, bi1_tup, bi1_ref, bi2_int, biI_int, biB_int, biI_abs, biT_len, biT_tuple, biT_list, biL_len, biL_tuple, biL_list, biL_sum, biL_any, biL_all, biII_max, biII_min, truth_bl, truth_int, truth_tup, truth_non, seq_tup, ix_ref, ix_tup, sl_tup, sl_ref, set_ref, mt_app, it_tup, it_ref, it_r1, it_r2, noerr_err, atI_0, atI_1, atI_2, atI_3, atI_l, bin_modp, bin_divp, bin_mulp, ixN_40, ixN_41, ixN_42, ixN_43, isR_excP, pow_10_18, atI_cast, List.length_map, Res.noerr_ok, Res.noerr_bad, ofO_some, q_F_F, q_F_P, q_F_Q, q_F_Z, q_P_F, q_P_P, q_P_Q, q_P_Z, q_Q_F, q_Q_P, q_Q_Q, q_Q_Z, q_R_F, q_R_P, q_R_Q, q_R_Z, q_Z_F, q_Z_P, q_Z_Q, q_Z_Z, isi_tuple_tuple, isi_tuple_str, isi_tuple_int, isi_tuple_bool, isi_str_tuple, isi_str_str, isi_str_int, isi_str_bool, isi_int_tuple, isi_int_str, isi_int_int, isi_int_bool, isi_bool_tuple, isi_bool_str, isi_bool_int, isi_bool_bool, isi_NoneType_tuple, isi_NoneType_str, isi_NoneType_int, isi_NoneType_bool, hb', decide_false]
        exact e
theorem common_spec {P : Prog} {k : Nat} {S : Store} {a b : Int} (h5 : P.fns 5 = some L_common) : callF P (k + 1) 5 [.int a, .int b] S = .ok (.int (Int.gcd a b : Nat)) S := by
  rw [callF_of h5 rfl]
  obtain ⟨y, e⟩ := common_loop (P := P) (k := k) (S := S) b.natAbs a.natAbs b.natAbs .no (Nat.le_refl _)
  simp (disch := omega) only [Int.natCast_zero, Int.natCast_one, Int.cast_ofNat_Int, Int.reduceEq, Int.reduceLT, Int.reduceLE, decide_true, decide_false, List.length_cons, List.length_nil, List.set_set, List.map_cons, List.map_nil, List.replicate_zero, List.replicate_succ, List.cons_append, List.nil_append, List.getElem?_cons_zero, List.getElem?_cons_succ, List.set_cons_zero, List.set_cons_succ, Nat.reduceSub, Nat.reduceAdd, Bool.not_true, Bool.not_false, wipeE, bnd_ok, bnd_err, bnd_bad, on_ok, on_err, on_bad, sel_true, sel_false, slotR_val, fnR_fn, isR_val, negR_int, notR_bl, blSel_bl, optR_int, augR_val, thn_next, thn_ret, thn_err, thn_brk, thn_cont, again_next, again_cont, again_brk, again_ret, again_err, ctch_next, ctch_ret, ctch_err, fin_ret, fin_next, fin_err, okIf_t, e_slot, e_lit, e_globP, e_tup, e_lst, e_bin, e_neg, e_not, e_and, e_or, e_cmp, e_cmp2, e_ite, e_call, e_callv, e_bi, e_bic, e_isi, e_isiS, e_mth, e_ix, e_sl, e_rev, e_lc, o_none, o_some, es_nil, es_cons, b_val, b_not, b_and, b_or, b_yes, c_mk, i_seq, i_range1, i_range2, i_range3, i_enum, t_slot, t_tup, t_ix, ts_nil, ts_cons, s_asg, s_par, s_aug, s_for, s_while, s_if, s_ret, s_retN, s_expr, s_raise, s_try, s_brk, s_cont, s_pass, ss_nil, ss_cons, bin_add, bin_sub, bin_addS, bin_addT, bin_addL, bin_mulL, aug_add, aug_sub, eqS_int, eqS_bl, c_eq, c_ne, c_lt, c_le, c_gt, c_ge, c_isN, c_isntN, bi_one, bi_two, bi1_int, bi1_bl, bi1_str, bi1_tup, bi1_ref, bi2_int, biI_int, biB_int, biI_abs, biT_len, biT_tuple, biT_list, biL_len, biL_tuple, biL_list, biL_sum, biL_any, biL_all, biII_max, biII_min, truth_bl, truth_int, truth_tup, truth_non, seq_tup, ix_ref, ix_tup, sl_tup, sl_ref, set_ref, mt_app, it_tup, it_ref, it_r1, it_r2, noerr_err, atI_0, atI_1, atI_2, atI_3, atI_l, bin_modp, bin_divp, bin_mulp, ixN_40, ixN_41, ixN_42, ixN_43, isR_excP, pow_10_18, atI_cast, List.length_map, Res.noerr_ok, Res.noerr_bad, ofO_some, q_F_F, q_F_P, q_F_Q, q_F_Z, q_P_F, q_P_P, q_P_Q, q_P_Z, q_Q_F, q_Q_P, q_Q_Q, q_Q_Z, q_R_F, q_R_P, q_R_Q, q_R_Z, q_Z_F, q_Z_P, q_Z_Q, q_Z_Z, isi_tuple_tuple, isi_tuple_str, isi_tuple_int, isi_tuple_bool, isi_str_tuple, isi_str_str, isi_str_int, isi_str_bool, isi_int_tuple, isi_int_str, isi_int_int, isi_int_bool, isi_bool_tuple, isi_bool_str, isi_bool_int, isi_bool_bool, isi_NoneType_tuple, isi_NoneType_str, isi_NoneType_int, isi_NoneType_bool, L_common, nth] at e
  simp (disch := omega) only [Int.natCast_zero, Int.natCast_one, Int.cast_ofNat_Int, Int.reduceEq, Int.reduceLT, Int.reduceLE, decide_true, decide_false, List.length_cons, List.length_nil, List.set_set, List.map_cons, List.map_nil, List.replicate_zero, List.replicate_succ, List.cons_append, List.nil_append, List.getElem?_cons_zero, List.getElem?_cons_succ, List.set_cons_zero, List.set_cons_succ, Nat.reduceSub, Nat.reduceAdd, Bool.not_true, Bool.not_false, wipeE, bnd_ok, bnd_err, bnd_bad, on_ok, on_err, on_bad, sel_true, sel_false, slotR_val, fnR_fn, isR_val, negR_int, notR_bl, blSel_bl, optR_int, augR_val, thn_next, thn_ret, thn_err, thn_brk, thn_cont, again_next, again_cont, again_brk, again_ret, again_err, ctch_next, ctch_ret, ctch_err, fin_ret, fin_next, fin_err, okIf_t, e_slot, e_lit, e_globP, e_tup, e_lst, e_bin, e_neg, e_not, e_and, e_or, e_cmp, e_cmp2, e_ite, e_call, e_callv, e_bi, e_bic, e_isi, e_isiS, e_mth, e_ix, e_sl, e_rev, e_lc, o_none, o_some, es_nil, es_cons, b_val, b_not, b_and, b_or, b_yes, c_mk, i_seq, i_range1, i_range2, i_range3, i_enum, t_slot, t_tup, t_ix, ts_nil, ts_cons, s_asg, s_par, s_aug, s_for, s_while, s_if, s_ret, s_retN, s_expr, s_raise, s_try, s_brk, s_cont, s_pass, ss_nil, ss_cons, bin_add, bin_sub, bin_addS, bin_addT, bin_addL, bin_mulL, aug_add, aug_sub, eqS_int, eqS_bl, c_eq, c_ne, c_lt, c_le, c_gt, c_ge, c_isN, c_isntN, bi_one, bi_two, bi1_int, bi1_bl, bi1_str, bi1_tup, bi1_ref, bi2_int, biI_int, biB_int, biI_abs, biT_len, biT_tuple, biT_list, biL_len, biL_tuple, biL_list, biL_sum, biL_any, biL_all, biII_max, biII_min, truth_bl, truth_int, truth_tup, truth_non, seq_tup, ix_ref, ix_tup, sl_tup, sl_ref, set_ref, mt_app, it_tup, it_ref, it_r1, it_r2, noerr_err, atI_0, atI_1, atI_2, atI_3, atI_l, bin_modp, bin_divp, bin_mulp, ixN_40, ixN_41, ixN_42, ixN_43, isR_excP, pow_10_18, atI_cast, List.length_map, Res.noerr_ok, Res.noerr_bad, ofO_some, q_F_F, q_F_P, q_F_Q, q_F_Z, q_P_F, q_P_P, q_P_Q, q_P_Z, q_Q_F, q_Q_P, q_Q_Q, q_Q_Z, q_R_F, q_R_P, q_R_Q, q_R_Z, q_Z_F, q_Z_P, q_Z_Q, q_Z_Z, isi_tuple_tuple, isi_tuple_str, isi_tuple_int, isi_tuple_bool, isi_str_tuple, isi_str_str, isi_str_int, isi_str_bool, isi_int_tuple, isi_int_str, isi_int_int, isi_int_bool, isi_bool_tuple, isi_bool_str, isi_bool_int, isi_bool_bool, isi_NoneType_tuple, isi_NoneType_str, isi_NoneType_int, isi_NoneType_bool, L_common, e, trim_self]
  rfl
/-- n / m in lowest terms -/
theorem fraction_spec {P : Prog} {k : Nat} {S : Store} {n m : Int} (h5 : P.fns 5 = some L_common) (h6 : P.fns 6 = some L_fraction) (hm : 0 < m) (hm2 : m ≤ 1000000000000000000000000000000) :
    ∃ x y : Int, callF P (k + 2) 6 [.int n, .int m] S = .ok (.tup [.int x, .int y]) S := by
  rw [callF_of h6 rfl]
  have hg : 0 < Int.gcd n m := Int.gcd_pos_of_ne_zero_right _ (by omega)
  have hg2 : (Int.gcd n m : Int) ≤ m := Int.le_of_dvd hm (Int.gcd_dvd_right ..)
  have hn : (m < 0) = False := eq_false (by omega)
  simp (disch := omega) only [Int.natCast_zero, Int.natCast_one, Int.cast_ofNat_Int, Int.reduceEq, Int.reduceLT, Int.reduceLE, decide_true, decide_false, List.length_cons, List.length_nil, List.set_set, List.map_cons, List.map_nil, List.replicate_zero, List.replicate_succ, List.cons_append, List.nil_append, List.getElem?_cons_zero, List.getElem?_cons_succ, List.set_cons_zero, List.set_cons_succ, Nat.reduceSub, Nat.reduceAdd, Bool.not_true, Bool.not_false, wipeE, bnd_ok, bnd_err, bnd_bad, on_ok, on_err, on_bad, sel_true, sel_false, slotR_val, fnR_fn, isR_val, negR_int, notR_bl, blSel_bl, optR_int, augR_val, thn_next, thn_ret, thn_err, thn_brk, thn_cont, again_next, again_cont, again_brk, again_ret, again_err, ctch_next, ctch_ret, ctch_err, fin_ret, fin_next, fin_err, okIf_t, e_slot, e_lit, e_globP, e_tup, e_lst, e_bin, e_neg, e_not, e_and, e_or, e_cmp, e_cmp2, e_ite, e_call, e_callv, e_bi, e_bic, e_isi, e_isiS, e_mth, e_ix, e_sl, e_rev, e_lc, o_none, o_some, es_nil, es_cons, b_val, b_not, b_and, b_or, b_yes, c_mk, i_seq, i_range1, i_range2, i_range3, i_enum, t_slot, t_tup, t_ix, ts_nil, ts_cons, s_asg, s_par, s_aug, s_for, s_while, s_if, s_ret, s_retN, s_expr, s_raise, s_try, s_brk, s_cont, s_pass, ss_nil, ss_cons, bin_add, bin_sub, bin_addS, bin_addT, bin_addL, bin_mulL, aug_add, aug_sub, eqS_int, eqS_bl, c_eq, c_ne, c_lt, c_le, c_gt, c_ge, c_isN, c_isntN, bi_one, bi_two, bi1_int, bi1_bl, bi1_str, bi1_tup, bi1_ref, bi2_int, biI_int, biB_int, biI_abs, biT_len, biT_tuple, biT_list, biL_len, biL_tuple, biL_list, biL_sum, biL_any, biL_all, biII_max, biII_min, truth_bl, truth_int, truth_tup, truth_non, seq_tup, ix_ref, ix_tup, sl_tup, sl_ref, set_ref, mt_app, it_tup, it_ref, it_r1, it_r2, noerr_err, atI_0, atI_1, atI_2, atI_3, atI_l, bin_modp, bin_divp, bin_mulp, ixN_40, ixN_41, ixN_42, ixN_43, isR_excP, pow_10_18, atI_cast, List.length_map, Res.noerr_ok, Res.noerr_bad, ofO_some, q_F_F, q_F_P, q_F_Q, q_F_Z, q_P_F, q_P_P, q_P_Q, q_P_Z, q_Q_F, q_Q_P, q_Q_Q, q_Q_Z, q_R_F, q_R_P, q_R_Q, q_R_Z, q_Z_F, q_Z_P, q_Z_Q, q_Z_Z, isi_tuple_tuple, isi_tuple_str, isi_tuple_int, isi_tuple_bool, isi_str_tuple, isi_str_str, isi_str_int, isi_str_bool, isi_int_tuple, isi_int_str, isi_int_int, isi_int_bool, isi_bool_tuple, isi_bool_str, isi_bool_int, isi_bool_bool, isi_NoneType_tuple, isi_NoneType_str, isi_NoneType_int, isi_NoneType_bool, L_fraction, common_spec h5, hn, decide_false, trim_self]
  exact ⟨_, _, rfl⟩
/-! ### fields -/
def IsP (p : Int) : Prop := 2 ≤ p ∧ p ≤ 65521 ∧ ∀ k : Int, 2 ≤ k → k * k ≤ p → p % k ≠ 0
def IsF (f : D) : Prop := f = .tup [.str "Q"] ∨ ∃ p, IsP p ∧ f = .tup [.str "F", .int p]
/-- an element of a field, as the laws hold it -/
def ElF (f x : D) : Prop := (f = .tup [.str "Q"] ∧ ∃ a b, x = .tup [.int a, .int b]) ∨ ((∃ p, f = .tup [.str "F", .int p]) ∧ ∃ a, x = .int a)
theorem pure_int {i : Int} : (D.int i).pure = true := by unfold D.pure; rfl
theorem pure_bl {i : Bool} : (D.bl i).pure = true := by unfold D.pure; rfl
theorem pure_str {i : Str} : (D.str i).pure = true := by unfold D.pure; rfl
theorem pure_pair {a b : Int} : (D.tup [.int a, .int b]).pure = true := by unfold D.pure D.pures D.pures D.pures D.pure; rfl
theorem pures_of {l : List D} (h : ∀ x ∈ l, x.pure = true) : D.pures l = true := by
  induction l with
  | nil => unfold D.pures; rfl
  | cons d l ih =>
    unfold D.pures
    rw [h d List.mem_cons_self, ih fun x hx => h x (List.mem_cons_of_mem _ hx)]; rfl
theorem pure_tup {l : List D} (h : ∀ x ∈ l, x.pure = true) : (D.tup l).pure = true := by unfold D.pure; exact pures_of h
theorem ElF.pure {f x : D} (h : ElF f x) : x.pure = true := by
  rcases h with ⟨_, a, b, rfl⟩ | ⟨_, a, rfl⟩
  · exact pure_pair
  · exact pure_int
theorem eqS_pair {S : Store} {a b c d : Int} : eqS S (.tup [.int a, .int b]) (.tup [.int c, .int d]) = some (PyData.eqv (.tuple [.int a, .int b]) (.tuple [.int c, .int d])) := eqS_of rfl rfl rfl rfl
theorem zero_Q {P : Prog} {k : Nat} {S : Store} (h7 : P.fns 7 = some L_zero) : callF P (k + 1) 7 [.tup [.str "Q"]] S = .ok (.tup [.int 0, .int 1]) S := by
  rw [callF_of h7 rfl]
  simp (disch := omega) only [Int.natCast_zero, Int.natCast_one, Int.cast_ofNat_Int, Int.reduceEq, Int.reduceLT, Int.reduceLE, decide_true, decide_false, List.length_cons, List.length_nil, List.set_set, List.map_cons, List.map_nil, List.replicate_zero, List.replicate_succ, List.cons_append, List.nil_append, List.getElem?_cons_zero, List.getElem?_cons_succ, List.set_cons_zero, List.set_cons_succ, Nat.reduceSub, Nat.reduceAdd, Bool.not_true, Bool.not_false, wipeE, bnd_ok, bnd_err, bnd_bad, on_ok, on_err, on_bad, sel_true, sel_false, slotR_val, fnR_fn, isR_val, negR_int, notR_bl, blSel_bl, optR_int, augR_val, thn_next, thn_ret, thn_err, thn_brk, thn_cont, again_next, again_cont, again_brk, again_ret, again_err, ctch_next, ctch_ret, ctch_err, fin_ret, fin_next, fin_err, okIf_t, e_slot, e_lit, e_globP, e_tup, e_lst, e_bin, e_neg, e_not, e_and, e_or, e_cmp, e_cmp2, e_ite, e_call, e_callv, e_bi, e_bic, e_isi, e_isiS, e_mth, e_ix, e_sl, e_rev, e_lc, o_none, o_some, es_nil, es_cons, b_val, b_not, b_and, b_or, b_yes, c_mk, i_seq, i_range1, i_range2, i_range3, i_enum, t_slot, t_tup, t_ix, ts_nil, ts_cons, s_asg, s_par, s_aug, s_for, s_while, s_if, s_ret, s_retN, s_expr, s_raise, s_try, s_brk, s_cont, s_pass, ss_nil, ss_cons, bin_add, bin_sub, bin_addS, bin_addT, bin_addL, bin_mulL, aug_add, aug_sub, eqS_int, eqS_bl, c_eq, c_ne, c_lt, c_le, c_gt, c_ge, c_isN, c_isntN, bi_one, bi_two, bi1_int, bi1_bl, bi1_str, bi1_tup, bi1_ref, bi2_int, biI_int, biB_int, biI_abs, biT_len, biT_tuple, biT_list, biL_len, biL_tuple, biL_list, biL_sum, biL_any, biL_all, biII_max, biII_min, truth_bl, truth_int, truth_tup, truth_non, seq_tup, ix_ref, ix_tup, sl_tup, sl_ref, set_ref, mt_app, it_tup, it_ref, it_r1, it_r2, noerr_err, atI_0, atI_1, atI_2, atI_3, atI_l, bin_modp, bin_divp, bin_mulp, ixN_40, ixN_41, ixN_42, ixN_43, isR_excP, pow_10_18, atI_cast, List.length_map, Res.noerr_ok, Res.noerr_bad, ofO_some, q_F_F, q_F_P, q_F_Q, q_F_Z, q_P_F, q_P_P, q_P_Q, q_P_Z, q_Q_F, q_Q_P, q_Q_Q, q_Q_Z, q_R_F, q_R_P, q_R_Q, q_R_Z, q_Z_F, q_Z_P, q_Z_Q, q_Z_Z, isi_tuple_tuple, isi_tuple_str, isi_tuple_int, isi_tuple_bool, isi_str_tuple, isi_str_str, isi_str_int, isi_str_bool, isi_int_tuple, isi_int_str, isi_int_int, isi_int_bool, isi_bool_tuple, isi_bool_str, isi_bool_int, isi_bool_bool, isi_NoneType_tuple, isi_NoneType_str, isi_NoneType_int, isi_NoneType_bool, L_zero, trim_self]
theorem zero_F {P : Prog} {k : Nat} {S : Store} {p : Int} (h7 : P.fns 7 = some L_zero) : callF P (k + 1) 7 [.tup [.str "F", .int p]] S = .ok (.int 0) S := by
  rw [callF_of h7 rfl]
  simp (disch := omega) only [Int.natCast_zero, Int.natCast_one, Int.cast_ofNat_Int, Int.reduceEq, Int.reduceLT, Int.reduceLE, decide_true, decide_false, List.length_cons, List.length_nil, List.set_set, List.map_cons, List.map_nil, List.replicate_zero, List.replicate_succ, List.cons_append, List.nil_append, List.getElem?_cons_zero, List.getElem?_cons_succ, List.set_cons_zero, List.set_cons_succ, Nat.reduceSub, Nat.reduceAdd, Bool.not_true, Bool.not_false, wipeE, bnd_ok, bnd_err, bnd_bad, on_ok, on_err, on_bad, sel_true, sel_false, slotR_val, fnR_fn, isR_val, negR_int, notR_bl, blSel_bl, optR_int, augR_val, thn_next, thn_ret, thn_err, thn_brk, thn_cont, again_next, again_cont, again_brk, again_ret, again_err, ctch_next, ctch_ret, ctch_err, fin_ret, fin_next, fin_err, okIf_t, e_slot, e_lit, e_globP, e_tup, e_lst, e_bin, e_neg, e_not, e_and, e_or, e_cmp, e_cmp2, e_ite, e_call, e_callv, e_bi, e_bic, e_isi, e_isiS, e_mth, e_ix, e_sl, e_rev, e_lc, o_none, o_some, es_nil, es_cons, b_val, b_not, b_and, b_or, b_yes, c_mk, i_seq, i_range1, i_range2, i_range3, i_enum, t_slot, t_tup, t_ix, ts_nil, ts_cons, s_asg, s_par, s_aug, s_for, s_while, s_if, s_ret, s_retN, s_expr, s_raise, s_try, s_brk, s_cont, s_pass, ss_nil, ss_cons, bin_add, bin_sub, bin_addS, bin_addT, bin_addL, bin_mulL, aug_add, aug_sub, eqS_int, eqS_bl, c_eq, c_ne, c_lt, c_le, c_gt, c_ge, c_isN, c_isntN, bi_one, bi_two, bi1_int, bi1_bl, bi1_str, bi1_tup, bi1_ref, bi2_int, biI_int, biB_int, biI_abs, biT_len, biT_tuple, biT_list, biL_len, biL_tuple, biL_list, biL_sum, biL_any, biL_all, biII_max, biII_min, truth_bl, truth_int, truth_tup, truth_non, seq_tup, ix_ref, ix_tup, sl_tup, sl_ref, set_ref, mt_app, it_tup, it_ref, it_r1, it_r2, noerr_err, atI_0, atI_1, atI_2, atI_3, atI_l, bin_modp, bin_divp, bin_mulp, ixN_40, ixN_41, ixN_42, ixN_43, isR_excP, pow_10_18, atI_cast, List.length_map, Res.noerr_ok, Res.noerr_bad, ofO_some, q_F_F, q_F_P, q_F_Q, q_F_Z, q_P_F, q_P_P, q_P_Q, q_P_Z, q_Q_F, q_Q_P, q_Q_Q, q_Q_Z, q_R_F, q_R_P, q_R_Q, q_R_Z, q_Z_F, q_Z_P, q_Z_Q, q_Z_Z, isi_tuple_tuple, isi_tuple_str, isi_tuple_int, isi_tuple_bool, isi_str_tuple, isi_str_str, isi_str_int, isi_str_bool, isi_int_tuple, isi_int_str, isi_int_int, isi_int_bool, isi_bool_tuple, isi_bool_str, isi_bool_int, isi_bool_bool, isi_NoneType_tuple, isi_NoneType_str, isi_NoneType_int, isi_NoneType_bool, L_zero, trim_self]
theorem zero_eq {P : Prog} {k : Nat} {S : Store} {f x : D} (h7 : P.fns 7 = some L_zero) (h : ElF f x) : ∃ z b, callF P (k + 1) 7 [f] S = .ok z S ∧ eqS S x z = some b := by
  rcases h with ⟨rfl, a, b, rfl⟩ | ⟨⟨p, rfl⟩, a, rfl⟩
  · exact ⟨_, _, zero_Q h7, eqS_pair⟩
  · exact ⟨_, _, zero_F h7, eqS_int⟩
theorem cut_take {l : List D} {m : Nat} (h : m ≤ l.length) : cut l none (some (m : Int)) = l.take m := by
  unfold cut
  have h0 : _root_.HT.sIx l.length 0 none = 0 := HT.sIx_none ..
  have h1 : _root_.HT.sIx l.length l.length (some (m : Int)) = min m l.length := HT.sIx_nat _ _ m
  rw [h0, h1, List.drop_zero, Nat.sub_zero, Nat.min_eq_left h]
theorem strip_loop {P : Prog} {k : Nat} {S : Store} {f : D} {p : Nat} {l : List D} (h7 : P.fns 7 = some L_zero) (hp : S[p]? = some (.lst l)) (he : ∀ x ∈ l, ElF f x) :
    ∀ m : Nat, m ≤ l.length → ∃ m' : Nat, m' ≤ m ∧ evS (P.ctx (k + 1)) (nth 1 L_strip.body) [.val f, .val (.ref p), .val (.int m)] S = .next [.val f, .val (.ref p), .val (.int m')] S
  | 0, _ => by
    refine ⟨0, Nat.le_refl _, ?_⟩
    simp (disch := omega) only [Int.natCast_zero, Int.natCast_one, Int.cast_ofNat_Int, Int.reduceEq, Int.reduceLT, Int.reduceLE, decide_true, decide_false, List.length_cons, List.length_nil, List.set_set, List.map_cons, List.map_nil, List.replicate_zero, List.replicate_succ, List.cons_append, List.nil_append, List.getElem?_cons_zero, List.getElem?_cons_succ, List.set_cons_zero, List.set_cons_succ, Nat.reduceSub, Nat.reduceAdd, Bool.not_true, Bool.not_false, wipeE, bnd_ok, bnd_err, bnd_bad, on_ok, on_err, on_bad, sel_true, sel_false, slotR_val, fnR_fn, isR_val, negR_int, notR_bl, blSel_bl, optR_int, augR_val, thn_next, thn_ret, thn_err, thn_brk, thn_cont, again_next, again_cont, again_brk, again_ret, again_err, ctch_next, ctch_ret, ctch_err, fin_ret, fin_next, fin_err, okIf_t, e_slot, e_lit, e_globP, e_tup, e_lst, e_bin, e_neg, e_not, e_and, e_or, e_cmp, e_cmp2, e_ite, e_call, e_callv, e_bi, e_bic, e_isi, e_isiS, e_mth, e_ix, e_sl, e_rev, e_lc, o_none, o_some, es_nil, es_cons, b_val, b_not, b_and, b_or, b_yes, c_mk, i_seq, i_range1, i_range2, i_range3, i_enum, t_slot, t_tup, t_ix, ts_nil, ts_cons, s_asg, s_par, s_aug, s_for, s_while, s_if, s_ret, s_retN, s_expr, s_raise, s_try, s_brk, s_cont, s_pass, ss_nil, ss_cons, bin_add, bin_sub, bin_addS, bin_addT, bin_addL, bin_mulL, aug_add, aug_sub, eqS_int, eqS_bl, c_eq, c_ne, c_lt, c_le, c_gt, c_ge, c_isN, c_isntN, bi_one, bi_two, bi1_int, bi1_bl, bi1_str, bi1_tup, bi1_ref, bi2_int, biI_int, biB_int, biI_abs, biT_len, biT_tuple, biT_list, biL_len, biL_tuple, biL_list, biL_sum, biL_any, biL_all, biII_max, biII_min, truth_bl, truth_int, truth_tup, truth_non, seq_tup, ix_ref, ix_tup, sl_tup, sl_ref, set_ref, mt_app, it_tup, it_ref, it_r1, it_r2, noerr_err, atI_0, atI_1, atI_2, atI_3, atI_l, bin_modp, bin_divp, bin_mulp, ixN_40, ixN_41, ixN_42, ixN_43, isR_excP, pow_10_18, atI_cast, List.length_map, Res.noerr_ok, Res.noerr_bad, ofO_some, q_F_F, q_F_P, q_F_Q, q_F_Z, q_P_F, q_P_P, q_P_Q, q_P_Z, q_Q_F, q_Q_P, q_Q_Q, q_Q_Z, q_R_F, q_R_P, q_R_Q, q_R_Z, q_Z_F, q_Z_P, q_Z_Q, q_Z_Z, isi_tuple_tuple, isi_tuple_str, isi_tuple_int, isi_tuple_bool, isi_str_tuple, isi_str_str, isi_str_int, isi_str_bool, isi_int_tuple, isi_int_str, isi_int_int, isi_int_bool, isi_bool_tuple, isi_bool_str, isi_bool_int, isi_bool_bool, isi_NoneType_tuple, isi_NoneType_str, isi_NoneType_int, isi_NoneType_bool, L_strip, nth]
    rw [loopG_eq]
    simp (disch := omega) only [Int.natCast_zero, Int.natCast_one, Int.cast_ofNat_Int, Int.reduceEq, Int.reduceLT, Int.reduceLE, decide_true, decide_false, List.length_cons, List.length_nil, List.set_set, List.map_cons, List.map_nil, List.replicate_zero, List.replicate_succ, List.cons_append, List.nil_append, List.getElem?_cons_zero, List.getElem?_cons_succ, List.set_cons_zero, List.set_cons_succ, Nat.reduceSub, Nat.reduceAdd, Bool.not_true, Bool.not_false, wipeE, bnd_ok, bnd_err, bnd_bad, on_ok, on_err, on_bad, sel_true, sel_false, slotR_val, fnR_fn, isR_val, negR_int, notR_bl, blSel_bl, optR_int, augR_val, thn_next, thn_ret, thn_err, thn_brk, thn_cont, again_next, again_cont, again_brk, again_ret, again_err, ctch_next, ctch_ret, ctch_err, fin_ret, fin_next, fin_err, okIf_t, e_slot, e_lit, e_globP, e_tup, e_lst, e_bin, e_neg, e_not, e_and, e_or, e_cmp, e_cmp2, e_ite, e_call, e_callv, e_bi, e_bic, e_isi, e_isiS, e_mth, e_ix, e_sl, e_rev, e_lc, o_none, o_some, es_nil, es_cons, b_val, b_not, b_and, b_or, b_yes, c_mk, i_seq, i_range1, i_range2, i_range3, i_enum, t_slot, t_tup, t_ix, ts_nil, ts_cons, s_asg, s_par, s_aug, s_for, s_while, s_if, s_ret, s_retN, s_expr, s_raise, s_try, s_brk, s_cont, s_pass, ss_nil, ss_cons, bin_add, bin_sub, bin_addS, bin_addT, bin_addL, bin_mulL, aug_add, aug_sub, eqS_int, eqS_bl, c_eq, c_ne, c_lt, c_le, c_gt, c_ge, c_isN, c_isntN, bi_one, bi_two, bi1_int, bi1_bl, bi1_str, bi1_tup, bi1_ref, bi2_int, biI_int, biB_int, biI_abs, biT_len, biT_tuple, biT_list, biL_len, biL_tuple, biL_list, biL_sum, biL_any, biL_all, biII_max, biII_min, truth_bl, truth_int, truth_tup, truth_non, seq_tup, ix_ref, ix_tup, sl_tup, sl_ref, set_ref, mt_app, it_tup, it_ref, it_r1, it_r2, noerr_err, atI_0, atI_1, atI_2, atI_3, atI_l, bin_modp, bin_divp, bin_mulp, ixN_40, ixN_41, ixN_42, ixN_43, isR_excP, pow_10_18, atI_cast, List.length_map, Res.noerr_ok, Res.noerr_bad, ofO_some, q_F_F, q_F_P, q_F_Q, q_F_Z, q_P_F, q_P_P, q_P_Q, q_P_Z, q_Q_F, q_Q_P, q_Q_Q, q_Q_Z, q_R_F, q_R_P, q_R_Q, q_R_Z, q_Z_F, q_Z_P, q_Z_Q, q_Z_Z, isi_tuple_tuple, isi_tuple_str, isi_tuple_int, isi_tuple_bool, isi_str_tuple, isi_str_str, isi_str_int, isi_str_bool, isi_int_tuple, isi_int_str, isi_int_int, isi_int_bool, isi_bool_tuple, isi_bool_str, isi_bool_int, isi_bool_bool, isi_NoneType_tuple, isi_NoneType_str, isi_NoneType_int, isi_NoneType_bool, Int.natCast_zero, Int.cast_ofNat_Int, Int.lt_irrefl, decide_false]
  | m + 1, hm => by
    have e1 : ((m + 1 : Nat) : Int) - 1 = (m : Int) := by omega
    have e2 : ((0 : Int) < ((m + 1 : Nat) : Int)) = True := eq_true (by omega)
    have hx : l[m]? = some l[m] := List.getElem?_eq_getElem (by omega)
    obtain ⟨z, b, ez, eb⟩ := zero_eq (P := P) (k := k) (S := S) h7 (he _ (List.getElem_mem (show m < l.length by omega)))
    cases b with
    | true =>
      obtain ⟨m', h1, e⟩ := strip_loop h7 hp he m (by omega)
      refine ⟨m', by omega, ?_⟩
      simp (disch := omega) only [Int.natCast_zero, Int.natCast_one, Int.cast_ofNat_Int, Int.reduceEq, Int.reduceLT, Int.reduceLE, decide_true, decide_false, List.length_cons, List.length_nil, List.set_set, List.map_cons, List.map_nil, List.replicate_zero, List.replicate_succ, List.cons_append, List.nil_append, List.getElem?_cons_zero, List.getElem?_cons_succ, List.set_cons_zero, List.set_cons_succ, Nat.reduceSub, Nat.reduceAdd, Bool.not_true, Bool.not_false, wipeE, bnd_ok, bnd_err, bnd_bad, on_ok, on_err, on_bad, sel_true, sel_false, slotR_val, fnR_fn, isR_val, negR_int, notR_bl, blSel_bl, optR_int, augR_val, thn_next, thn_ret, thn_err, thn_brk, thn_cont, again_next, again_cont, again_brk, again_ret, again_err, ctch_next, ctch_ret, ctch_err, fin_ret, fin_next, fin_err, okIf_t, e_slot, e_lit, e_globP, e_tup, e_lst, e_bin, e_neg, e_not, e_and, e_or, e_cmp, e_cmp2, e_ite, e_call, e_callv, e_bi, e_bic, e_isi, e_isiS, e_mth, e_ix, e_sl, e_rev, e_lc, o_none, o_some, es_nil, es_cons, b_val, b_not, b_and, b_or, b_yes, c_mk, i_seq, i_range1, i_range2, i_range3, i_enum, t_slot, t_tup, t_ix, ts_nil, ts_cons, s_asg, s_par, s_aug, s_for, s_while, s_if, s_ret, s_retN, s_expr, s_raise, s_try, s_brk, s_cont, s_pass, ss_nil, ss_cons, bin_add, bin_sub, bin_addS, bin_addT, bin_addL, bin_mulL, aug_add, aug_sub, eqS_int, eqS_bl, c_eq, c_ne, c_lt, c_le, c_gt, c_ge, c_isN, c_isntN, bi_one, bi_two, bi1_int, bi1_bl, bi1_str, bi1_tup, bi1_ref, bi2_int, biI_int, biB_int, biI_abs, biT_len, biT_tuple, biT_list, biL_len, biL_tuple, biL_list, biL_sum, biL_any, biL_all, biII_max, biII_min, truth_bl, truth_int, truth_tup, truth_non, seq_tup, ix_ref, ix_tup, sl_tup, sl_ref, set_ref, mt_app, it_tup, it_ref, it_r1, it_r2, noerr_err, atI_0, atI_1, atI_2, atI_3, atI_l, bin_modp, bin_divp, bin_mulp, ixN_40, ixN_41, ixN_42, ixN_43, isR_excP, pow_10_18, atI_cast, List.length_map, Res.noerr_ok, Res.noerr_bad, ofO_some, q_F_F, q_F_P, q_F_Q, q_F_Z, q_P_F, q_P_P, q_P_Q, q_P_Z, q_Q_F, q_Q_P, q_Q_Q, q_Q_Z, q_R_F, q_R_P, q_R_Q, q_R_Z, q_Z_F, q_Z_P, q_Z_Q, q_Z_Z, isi_tuple_tuple, isi_tuple_str, isi_tuple_int, isi_tuple_bool, isi_str_tuple, isi_str_str, isi_str_int, isi_str_bool, isi_int_tuple, isi_int_str, isi_int_int, isi_int_bool, isi_bool_tuple, isi_bool_str, isi_bool_int, isi_bool_bool, isi_NoneType_tuple, isi_NoneType_str, isi_NoneType_int, isi_NoneType_bool, L_strip, nth] at e
      simp (disch := omega) only [Int.natCast_zero, Int.natCast_one, Int.cast_ofNat_Int, Int.reduceEq, Int.reduceLT, Int.reduceLE, decide_true, decide_false, List.length_cons, List.length_nil, List.set_set, List.map_cons, List.map_nil, List.replicate_zero, List.replicate_succ, List.cons_append, List.nil_append, List.getElem?_cons_zero, List.getElem?_cons_succ, List.set_cons_zero, List.set_cons_succ, Nat.reduceSub, Nat.reduceAdd, Bool.not_true, Bool.not_false, wipeE, bnd_ok, bnd_err, bnd_bad, on_ok, on_err, on_bad, sel_true, sel_false, slotR_val, fnR_fn, isR_val, negR_int, notR_bl, blSel_bl, optR_int, augR_val, thn_next, thn_ret, thn_err, thn_brk, thn_cont, again_next, again_cont, again_brk, again_ret, again_err, ctch_next, ctch_ret, ctch_err, fin_ret, fin_next, fin_err, okIf_t, e_slot, e_lit, e_globP, e_tup, e_lst, e_bin, e_neg, e_not, e_and, e_or, e_cmp, e_cmp2, e_ite, e_call, e_callv, e_bi, e_bic, e_isi, e_isiS, e_mth, e_ix, e_sl, e_rev, e_lc, o_none, o_some, es_nil, es_cons, b_val, b_not, b_and, b_or, b_yes, c_mk, i_seq, i_range1, i_range2, i_range3, i_enum, t_slot, t_tup, t_ix, ts_nil, ts_cons, s_asg, s_par, s_aug, s_for, s_while, s_if, s_ret, s_retN, s_expr, s_raise, s_try, s_brk, s_cont, s_pass, ss_nil, ss_cons, bin_add, bin_sub, bin_addS, bin_addT, bin_addL, bin_mulL, aug_add, aug_sub, eqS_int, eqS_bl, c_eq, c_ne, c_lt, c_le, c_gt, c_ge, c_isN, c_isntN, bi_one, bi_two, bi1_int, bi1_bl, bi1_str, bi1_tup, bi1_ref, bi2_int, biI_int, biB_int, biI_abs, biT_len, biT_tuple, biT_list, biL_len, biL_tuple, biL_list, biL_sum, biL_any, biL_all, biII_max, biII_min, truth_bl, truth_int, truth_tup, truth_non, seq_tup, ix_ref, ix_tup, sl_tup, sl_ref, set_ref, mt_app, it_tup, it_ref, it_r1, it_r2, noerr_err, atI_0, atI_1, atI_2, atI_3, atI_l, bin_modp, bin_divp, bin_mulp, ixN_40, ixN_41, ixN_42, ixN_43, isR_excP, pow_10_18, atI_cast, List.length_map, Res.noerr_ok, Res.noerr_bad, ofO_some, q_F_F, q_F_P, q_F_Q, q_F_Z, q_P_F, q_P_P, q_P_Q, q_P_Z, q_Q_F, q_Q_P, q_Q_Q, q_Q_Z, q_R_F, q_R_P, q_R_Q, q_R_Z, q_Z_F, q_Z_P, q_Z_Q, q_Z_Z, isi_tuple_tuple, isi_tuple_str, isi_tuple_int, isi_tuple_bool, isi_str_tuple, isi_str_str, isi_str_int, isi_str_bool, isi_int_tuple, isi_int_str, isi_int_int, isi_int_bool, isi_bool_tuple, isi_bool_str, isi_bool_int, isi_bool_bool, isi_NoneType_tuple, isi_NoneType_str, isi_NoneType_int, isi_NoneType_bool, L_strip, nth]
      rw [loopG_eq]
      simp (disch := omega) only [Int.natCast_zero, Int.natCast_one, Int.cast_ofNat_Int, Int.reduceEq, Int.reduceLT, Int.reduceLE, decide_true, decide_false, List.length_cons, List.length_nil, List.set_set, List.map_cons, List.map_nil, List.replicate_zero, List.replicate_succ, List.cons_append, List.nil_append, List.getElem?_cons_zero, List.getElem?_cons_succ, List.set_cons_zero, List.set_cons_succ, Nat.reduceSub, Nat.reduceAdd, Bool.not_true, Bool.not_false, wipeE, bnd_ok, bnd_err, bnd_bad, on_ok, on_err, on_bad, sel_true, sel_false, slotR_val, fnR_fn, isR_val, negR_int, notR_bl, blSel_bl, optR_int, augR_val, thn_next, thn_ret, thn_err, thn_brk, thn_cont, again_next, again_cont, again_brk, again_ret, again_err, ctch_next, ctch_ret, ctch_err, fin_ret, fin_next, fin_err, okIf_t, e_slot, e_lit, e_globP, e_tup, e_lst, e_bin, e_neg, e_not, e_and, e_or, e_cmp, e_cmp2, e_ite, e_call, e_callv, e_bi, e_bic, e_isi, e_isiS, e_mth, e_ix, e_sl, e_rev, e_lc, o_none, o_some, es_nil, es_cons, b_val, b_not, b_and, b_or, b_yes, c_mk, i_seq, i_range1, i_range2, i_range3, i_enum, t_slot, t_tup, t_ix, ts_nil, ts_cons, s_asg, s_par, s_aug, s_for, s_while, s_if, s_ret, s_retN, s_expr, s_raise, s_try, s_brk, s_cont, s_pass, ss_nil, ss_cons, bin_add, bin_sub, bin_addS, bin_addT, bin_addL, bin_mulL, aug_add, aug_sub, eqS_int, eqS_bl, c_eq, c_ne, c_lt, c_le, c_gt, c_ge, c_isN, c_isntN, bi_one, bi_two, bi1_int, bi1_bl, bi1_str, bi1_tup, bi1_ref, bi2_int, biI_int, biB_int, biI_abs, biT_len, biT_tuple, biT_list, biL_len, biL_tuple, biL_list, biL_sum, biL_any, biL_all, biII_max, biII_min, truth_bl, truth_int, truth_tup, truth_non, seq_tup, ix_ref, ix_tup, sl_tup, sl_ref, set_ref, mt_app, it_tup, it_ref, it_r1, it_r2, noerr_err, atI_0, atI_1, atI_2, atI_3, atI_l, bin_modp, bin_divp, bin_mulp, ixN_40, ixN_41, ixN_42, ixN_43, isR_excP, pow_10_18, atI_cast, List.length_map, Res.noerr_ok, Res.noerr_bad, ofO_some, q_F_F, q_F_P, q_F_Q, q_F_Z, q_P_F, q_P_P, q_P_Q, q_P_Z, q_Q_F, q_Q_P, q_Q_Q, q_Q_Z, q_R_F, q_R_P, q_R_Q, q_R_Z, q_Z_F, q_Z_P, q_Z_Q, q_Z_Z, isi_tuple_tuple, isi_tuple_str, isi_tuple_int, isi_tuple_bool, isi_str_tuple, isi_str_str, isi_str_int, isi_str_bool, isi_int_tuple, isi_int_str, isi_int_int, isi_int_bool, isi_bool_tuple, isi_bool_str, isi_bool_int, isi_bool_bool, isi_NoneType_tuple, isi_NoneType_str, isi_NoneType_int, isi_NoneType_bool, e1, e2, decide_true, seq_lst hp, hx, ez, eb]
      exact e
    | false =>
      refine ⟨m + 1, Nat.le_refl _, ?_⟩
      simp (disch := omega) only [Int.natCast_zero, Int.natCast_one, Int.cast_ofNat_Int, Int.reduceEq, Int.reduceLT, Int.reduceLE, decide_true, decide_false, List.length_cons, List.length_nil, List.set_set, List.map_cons, List.map_nil, List.replicate_zero, List.replicate_succ, List.cons_append, List.nil_append, List.getElem?_cons_zero, List.getElem?_cons_succ, List.set_cons_zero, List.set_cons_succ, Nat.reduceSub, Nat.reduceAdd, Bool.not_true, Bool.not_false, wipeE, bnd_ok, bnd_err, bnd_bad, on_ok, on_err, on_bad, sel_true, sel_false, slotR_val, fnR_fn, isR_val, negR_int, notR_bl, blSel_bl, optR_int, augR_val, thn_next, thn_ret, thn_err, thn_brk, thn_cont, again_next, again_cont, again_brk, again_ret, again_err, ctch_next, ctch_ret, ctch_err, fin_ret, fin_next, fin_err, okIf_t, e_slot, e_lit, e_globP, e_tup, e_lst, e_bin, e_neg, e_not, e_and, e_or, e_cmp, e_cmp2, e_ite, e_call, e_callv, e_bi, e_bic, e_isi, e_isiS, e_mth, e_ix, e_sl, e_rev, e_lc, o_none, o_some, es_nil, es_cons, b_val, b_not, b_and, b_or, b_yes, c_mk, i_seq, i_range1, i_range2, i_range3, i_enum, t_slot, t_tup, t_ix, ts_nil, ts_cons, s_asg, s_par, s_aug, s_for, s_while, s_if, s_ret, s_retN, s_expr, s_raise, s_try, s_brk, s_cont, s_pass, ss_nil, ss_cons, bin_add, bin_sub, bin_addS, bin_addT, bin_addL, bin_mulL, aug_add, aug_sub, eqS_int, eqS_bl, c_eq, c_ne, c_lt, c_le, c_gt, c_ge, c_isN, c_isntN, bi_one, bi_two, bi1_int, bi1_bl, bi1_str, bi1_tup, bi1_ref, bi2_int, biI_int, biB_int, biI_abs, biT_len, biT_tuple, biT_list, biL_len, biL_tuple, biL_list, biL_sum, biL_any, biL_all, biII_max, biII_min, truth_bl, truth_int, truth_tup, truth_non, seq_tup, ix_ref, ix_tup, sl_tup, sl_ref, set_ref, mt_app, it_tup, it_ref, it_r1, it_r2, noerr_err, atI_0, atI_1, atI_2, atI_3, atI_l, bin_modp, bin_divp, bin_mulp, ixN_40, ixN_41, ixN_42, ixN_43, isR_excP, pow_10_18, atI_cast, List.length_map, Res.noerr_ok, Res.noerr_bad, ofO_some, q_F_F, q_F_P, q_F_Q, q_F_Z, q_P_F, q_P_P, q_P_Q, q_P_Z, q_Q_F, q_Q_P, q_Q_Q, q_Q_Z, q_R_F, q_R_P, q_R_Q, q_R_Z, q_Z_F, q_Z_P, q_Z_Q, q_Z_Z, isi_tuple_tuple, isi_tuple_str, isi_tuple_int, isi_tuple_bool, isi_str_tuple, isi_str_str, isi_str_int, isi_str_bool, isi_int_tuple, isi_int_str, isi_int_int, isi_int_bool, isi_bool_tuple, isi_bool_str, isi_bool_int, isi_bool_bool, isi_NoneType_tuple, isi_NoneType_str, isi_NoneType_int, isi_NoneType_bool, L_strip, nth]
      rw [loopG_eq]
      simp (disch := omega) only [Int.natCast_zero, Int.natCast_one, Int.cast_ofNat_Int, Int.reduceEq, Int.reduceLT, Int.reduceLE, decide_true, decide_false, List.length_cons, List.length_nil, List.set_set, List.map_cons, List.map_nil, List.replicate_zero, List.replicate_succ, List.cons_append, List.nil_append, List.getElem?_cons_zero, List.getElem?_cons_succ, List.set_cons_zero, List.set_cons_succ, Nat.reduceSub, Nat.reduceAdd, Bool.not_true, Bool.not_false, wipeE, bnd_ok, bnd_err, bnd_bad, on_ok, on_err, on_bad, sel_true, sel_false, slotR_val, fnR_fn, isR_val, negR_int, notR_bl, blSel_bl, optR_int, augR_val, thn_next, thn_ret, thn_err, thn_brk, thn_cont, again_next, again_cont, again_brk, again_ret, again_err, ctch_next, ctch_ret, ctch_err, fin_ret, fin_next, fin_err, okIf_t, e_slot, e_lit, e_globP, e_tup, e_lst, e_bin, e_neg, e_not, e_and, e_or, e_cmp, e_cmp2, e_ite, e_call, e_callv, e_bi, e_bic, e_isi, e_isiS, e_mth, e_ix, e_sl, e_rev, e_lc, o_none, o_some, es_nil, es_cons, b_val, b_not, b_and, b_or, b_yes, c_mk, i_seq, i_range1, i_range2, i_range3, i_enum, t_slot, t_tup, t_ix, ts_nil, ts_cons, s_asg, s_par, s_aug, s_for, s_while, s_if, s_ret, s_retN, s_expr, s_raise, s_try, s_brk, s_cont, s_pass, ss_nil, ss_cons, bin_add, bin_sub, bin_addS, bin_addT, bin_addL, bin_mulL, aug_add, aug_sub, eqS_int, eqS_bl, c_eq, c_ne, c_lt, c_le, c_gt, c_ge, c_isN, c_isntN, bi_one, bi_two, bi1_int, bi1_bl, bi1_str, bi1_tup, bi1_ref, bi2_int, biI_int, biB_int, biI_abs, biT_len, biT_tuple, biT_list, biL_len, biL_tuple, biL_list, biL_sum, biL_any, biL_all, biII_max, biII_min, truth_bl, truth_int, truth_tup, truth_non, seq_tup, ix_ref, ix_tup, sl_tup, sl_ref, set_ref, mt_app, it_tup, it_ref, it_r1, it_r2, noerr_err, atI_0, atI_1, atI_2, atI_3, atI_l, bin_modp, bin_divp, bin_mulp, ixN_40, ixN_41, ixN_42, ixN_43, isR_excP, pow_10_18, atI_cast, List.length_map, Res.noerr_ok, Res.noerr_bad, ofO_some, q_F_F, q_F_P, q_F_Q, q_F_Z, q_P_F, q_P_P, q_P_Q, q_P_Z, q_Q_F, q_Q_P, q_Q_Q, q_Q_Z, q_R_F, q_R_P, q_R_Q, q_R_Z, q_Z_F, q_Z_P, q_Z_Q, q_Z_Z, isi_tuple_tuple, isi_tuple_str, isi_tuple_int, isi_tuple_bool, isi_str_tuple, isi_str_str, isi_str_int, isi_str_bool, isi_int_tuple, isi_int_str, isi_int_int, isi_int_bool, isi_bool_tuple, isi_bool_str, isi_bool_int, isi_bool_bool, isi_NoneType_tuple, isi_NoneType_str, isi_NoneType_int, isi_NoneType_bool, e1, e2, decide_true, seq_lst hp, hx, ez, eb]
theorem strip_spec {P : Prog} {k : Nat} {S : Store} {f : D} {p : Nat} {l : List D} (h7 : P.fns 7 = some L_zero) (h8 : P.fns 8 = some L_strip) (hp : S[p]? = some (.lst l)) (he : ∀ x ∈ l, ElF f x) :
    ∃ m : Nat, callF P (k + 2) 8 [f, .ref p] S = .ok (.tup (l.take m)) S := by
  rw [callF_of h8 rfl]
  obtain ⟨m, h1, e⟩ := strip_loop (k := k) h7 hp he l.length (Nat.le_refl _)
  refine ⟨m, ?_⟩
  simp (disch := omega) only [Int.natCast_zero, Int.natCast_one, Int.cast_ofNat_Int, Int.reduceEq, Int.reduceLT, Int.reduceLE, decide_true, decide_false, List.length_cons, List.length_nil, List.set_set, List.map_cons, List.map_nil, List.replicate_zero, List.replicate_succ, List.cons_append, List.nil_append, List.getElem?_cons_zero, List.getElem?_cons_succ, List.set_cons_zero, List.set_cons_succ, Nat.reduceSub, Nat.reduceAdd, Bool.not_true, Bool.not_false, wipeE, bnd_ok, bnd_err, bnd_bad, on_ok, on_err, on_bad, sel_true, sel_false, slotR_val, fnR_fn, isR_val, negR_int, notR_bl, blSel_bl, optR_int, augR_val, thn_next, thn_ret, thn_err, thn_brk, thn_cont, again_next, again_cont, again_brk, again_ret, again_err, ctch_next, ctch_ret, ctch_err, fin_ret, fin_next, fin_err, okIf_t, e_slot, e_lit, e_globP, e_tup, e_lst, e_bin, e_neg, e_not, e_and, e_or, e_cmp, e_cmp2, e_ite, e_call, e_callv, e_bi, e_bic, e_isi, e_isiS, e_mth, e_ix, e_sl, e_rev, e_lc, o_none, o_some, es_nil, es_cons, b_val, b_not, b_and, b_or, b_yes, c_mk, i_seq, i_range1, i_range2, i_range3, i_enum, t_slot, t_tup, t_ix, ts_nil, ts_cons, s_asg, s_par, s_aug, s_for, s_while, s_if, s_ret, s_retN, s_expr, s_raise, s_try, s_brk, s_cont, s_pass, ss_nil, ss_cons, bin_add, bin_sub, bin_addS, bin_addT, bin_addL, bin_mulL, aug_add, aug_sub, eqS_int, eqS_bl, c_eq, c_ne, c_lt, c_le, c_gt, c_ge, c_isN, c_isntN, bi_one, bi_two, bi1_int, bi1_bl, bi1_str, bi1_tup, bi1_ref, bi2_int, biI_int, biB_int, biI_abs, biT_len, biT_tuple, biT_list, biL_len, biL_tuple, biL_list, biL_sum, biL_any, biL_all, biII_max, biII_min, truth_bl, truth_int, truth_tup, truth_non, seq_tup, ix_ref, ix_tup, sl_tup, sl_ref, set_ref, mt_app, it_tup, it_ref, it_r1, it_r2, noerr_err, atI_0, atI_1, atI_2, atI_3, atI_l, bin_modp, bin_divp, bin_mulp, ixN_40, ixN_41, ixN_42, ixN_43, isR_excP, pow_10_18, atI_cast, List.length_map, Res.noerr_ok, Res.noerr_bad, ofO_some, q_F_F, q_F_P, q_F_Q, q_F_Z, q_P_F, q_P_P, q_P_Q, q_P_Z, q_Q_F, q_Q_P, q_Q_Q, q_Q_Z, q_R_F, q_R_P, q_R_Q, q_R_Z, q_Z_F, q_Z_P, q_Z_Q, q_Z_Z, isi_tuple_tuple, isi_tuple_str, isi_tuple_int, isi_tuple_bool, isi_str_tuple, isi_str_str, isi_str_int, isi_str_bool, isi_int_tuple, isi_int_str, isi_int_int, isi_int_bool, isi_bool_tuple, isi_bool_str, isi_bool_int, isi_bool_bool, isi_NoneType_tuple, isi_NoneType_str, isi_NoneType_int, isi_NoneType_bool, L_strip, nth] at e
  simp (disch := omega) only [Int.natCast_zero, Int.natCast_one, Int.cast_ofNat_Int, Int.reduceEq, Int.reduceLT, Int.reduceLE, decide_true, decide_false, List.length_cons, List.length_nil, List.set_set, List.map_cons, List.map_nil, List.replicate_zero, List.replicate_succ, List.cons_append, List.nil_append, List.getElem?_cons_zero, List.getElem?_cons_succ, List.set_cons_zero, List.set_cons_succ, Nat.reduceSub, Nat.reduceAdd, Bool.not_true, Bool.not_false, wipeE, bnd_ok, bnd_err, bnd_bad, on_ok, on_err, on_bad, sel_true, sel_false, slotR_val, fnR_fn, isR_val, negR_int, notR_bl, blSel_bl, optR_int, augR_val, thn_next, thn_ret, thn_err, thn_brk, thn_cont, again_next, again_cont, again_brk, again_ret, again_err, ctch_next, ctch_ret, ctch_err, fin_ret, fin_next, fin_err, okIf_t, e_slot, e_lit, e_globP, e_tup, e_lst, e_bin, e_neg, e_not, e_and, e_or, e_cmp, e_cmp2, e_ite, e_call, e_callv, e_bi, e_bic, e_isi, e_isiS, e_mth, e_ix, e_sl, e_rev, e_lc, o_none, o_some, es_nil, es_cons, b_val, b_not, b_and, b_or, b_yes, c_mk, i_seq, i_range1, i_range2, i_range3, i_enum, t_slot, t_tup, t_ix, ts_nil, ts_cons, s_asg, s_par, s_aug, s_for, s_while, s_if, s_ret, s_retN, s_expr, s_raise, s_try, s_brk, s_cont, s_pass, ss_nil, ss_cons, bin_add, bin_sub, bin_addS, bin_addT, bin_addL, bin_mulL, aug_add, aug_sub, eqS_int, eqS_bl, c_eq, c_ne, c_lt, c_le, c_gt, c_ge, c_isN, c_isntN, bi_one, bi_two, bi1_int, bi1_bl, bi1_str, bi1_tup, bi1_ref, bi2_int, biI_int, biB_int, biI_abs, biT_len, biT_tuple, biT_list, biL_len, biL_tuple, biL_list, biL_sum, biL_any, biL_all, biII_max, biII_min, truth_bl, truth_int, truth_tup, truth_non, seq_tup, ix_ref, ix_tup, sl_tup, sl_ref, set_ref, mt_app, it_tup, it_ref, it_r1, it_r2, noerr_err, atI_0, atI_1, atI_2, atI_3, atI_l, bin_modp, bin_divp, bin_mulp, ixN_40, ixN_41, ixN_42, ixN_43, isR_excP, pow_10_18, atI_cast, List.length_map, Res.noerr_ok, Res.noerr_bad, ofO_some, q_F_F, q_F_P, q_F_Q, q_F_Z, q_P_F, q_P_P, q_P_Q, q_P_Z, q_Q_F, q_Q_P, q_Q_Q, q_Q_Z, q_R_F, q_R_P, q_R_Q, q_R_Z, q_Z_F, q_Z_P, q_Z_Q, q_Z_Z, isi_tuple_tuple, isi_tuple_str, isi_tuple_int, isi_tuple_bool, isi_str_tuple, isi_str_str, isi_str_int, isi_str_bool, isi_int_tuple, isi_int_str, isi_int_int, isi_int_bool, isi_bool_tuple, isi_bool_str, isi_bool_int, isi_bool_bool, isi_NoneType_tuple, isi_NoneType_str, isi_NoneType_int, isi_NoneType_bool, L_strip, seq_lst hp, e, cut_take h1, seq_app_self]
  rw [trim_cut (S1 := S) (pure_tup fun x hx => (he x (List.mem_of_mem_take hx)).pure) rfl fun i _ => .inl rfl]
structure Lw (P : Prog) : Prop where
  h0 : P.fns 0 = some L_start
  h1 : P.fns 1 = some L_fill
  h2 : P.fns 2 = some L_take
  h3 : P.fns 3 = some L_some_prime
  h4 : P.fns 4 = some L_field
  h5 : P.fns 5 = some L_common
  h6 : P.fns 6 = some L_fraction
  h7 : P.fns 7 = some L_zero
  h8 : P.fns 8 = some L_strip
  h9 : P.fns 9 = some L_small
  h10 : P.fns 10 = some L_matrix
  h14 : P.fns 14 = some L_number
/-- a small element of a field -/
theorem small_F {P : Prog} {k : Nat} {S : Store} {c l0 T : Nat} {f : D} (L : Lw P) (hf : IsF f) (dr : Dr c l0 T S) (hT : T ≤ 900000) :
    ∃ x S', callF P (k + 4) 9 [.ref c, f] S = .ok x S' ∧ ElF f x ∧ Dr c l0 (T + 3) S' ∧ Ext c S S' := by
  rw [callF_of L.h9 rfl]
  rcases hf with rfl | ⟨p, hp, rfl⟩
  · obtain ⟨d1, S1, e1, b1, b2, dr1, ex1⟩ := take_spec (k := k + 1) (many := 9) L.h1 L.h2 dr (by omega) (by omega) (by omega)
    obtain ⟨d2, S2, e2, b3, b4, dr2, ex2⟩ := take_spec (k := k + 1) (many := 3) L.h1 L.h2 dr1 (by omega) (by omega) (by omega)
    obtain ⟨x, y, e3⟩ := fraction_spec (k := k + 1) (S := S2) (n := d1 - 4) (m := 1 + d2) L.h5 L.h6 (by omega) (by omega)
    simp (disch := omega) only [Int.natCast_zero, Int.natCast_one, Int.cast_ofNat_Int, Int.reduceEq, Int.reduceLT, Int.reduceLE, decide_true, decide_false, List.length_cons, List.length_nil, List.set_set, List.map_cons, List.map_nil, List.replicate_zero, List.replicate_succ, List.cons_append, List.nil_append, List.getElem?_cons_zero, List.getElem?_cons_succ, List.set_cons_zero, List.set_cons_succ, Nat.reduceSub, Nat.reduceAdd, Bool.not_true, Bool.not_false, wipeE, bnd_ok, bnd_err, bnd_bad, on_ok, on_err, on_bad, sel_true, sel_false, slotR_val, fnR_fn, isR_val, negR_int, notR_bl, blSel_bl, optR_int, augR_val, thn_next, thn_ret, thn_err, thn_brk, thn_cont, again_next, again_cont, again_brk, again_ret, again_err, ctch_next, ctch_ret, ctch_err, fin_ret, fin_next, fin_err, okIf_t, e_slot, e_lit, e_globP, e_tup, e_lst, e_bin, e_neg, e_not, e_and, e_or, e_cmp, e_cmp2, e_ite, e_call, e_callv, e_bi, e_bic, e_isi, e_isiS, e_mth, e_ix, e_sl, e_rev, e_lc, o_none, o_some, es_nil, es_cons, b_val, b_not, b_and, b_or, b_yes, c_mk, i_seq, i_range1, i_range2, i_range3, i_enum, t_slot, t_tup, t_ix, ts_nil, ts_cons, s_asg, s_par, s_aug, s_for, s_while, s_if, s_ret, s_retN, s_expr, s_raise, s_try, s_brk, s_cont, s_pass, ss_nil, ss_cons, bin_add, bin_sub, bin_addS, bin_addT, bin_addL, bin_mulL, aug_add, aug_sub, eqS_int, eqS_bl, c_eq, c_ne, c_lt, c_le, c_gt, c_ge, c_isN, c_isntN, bi_one, bi_two, bi1_int, bi1_bl, bi1_str, bi1_tup, bi1_ref, bi2_int, biI_int, biB_int, biI_abs, biT_len, biT_tuple, biT_list, biL_len, biL_tuple, biL_list, biL_sum, biL_any, biL_all, biII_max, biII_min, truth_bl, truth_int, truth_tup, truth_non, seq_tup, ix_ref, ix_tup, sl_tup, sl_ref, set_ref, mt_app, it_tup, it_ref, it_r1, it_r2, noerr_err, atI_0, atI_1, atI_2, atI_3, atI_l, bin_modp, bin_divp, bin_mulp, ixN_40, ixN_41, ixN_42, ixN_43, isR_excP, pow_10_18, atI_cast, List.length_map, Res.noerr_ok, Res.noerr_bad, ofO_some, q_F_F, q_F_P, q_F_Q, q_F_Z, q_P_F, q_P_P, q_P_Q, q_P_Z, q_Q_F, q_Q_P, q_Q_Q, q_Q_Z, q_R_F, q_R_P, q_R_Q, q_R_Z, q_Z_F, q_Z_P, q_Z_Q, q_Z_Z, isi_tuple_tuple, isi_tuple_str, isi_tuple_int, isi_tuple_bool, isi_str_tuple, isi_str_str, isi_str_int, isi_str_bool, isi_int_tuple, isi_int_str, isi_int_int, isi_int_bool, isi_bool_tuple, isi_bool_str, isi_bool_int, isi_bool_bool, isi_NoneType_tuple, isi_NoneType_str, isi_NoneType_int, isi_NoneType_bool, L_small, e1, e2, e3]
    exact ⟨_, _, rfl, .inl ⟨rfl, x, y, rfl⟩, (Dr.trim dr.lt (dr2.le (by omega)) (ex1.trans ex2) pure_pair).1, (Dr.trim dr.lt dr2 (ex1.trans ex2) pure_pair).2⟩
  · obtain ⟨d1, S1, e1, b1, b2, dr1, ex1⟩ := take_spec (k := k + 1) (many := 65536) L.h1 L.h2 dr (by omega) (by omega) (by omega)
    have hp0 : 0 < p := by have := hp.1; omega
    simp (disch := omega) only [Int.natCast_zero, Int.natCast_one, Int.cast_ofNat_Int, Int.reduceEq, Int.reduceLT, Int.reduceLE, decide_true, decide_false, List.length_cons, List.length_nil, List.set_set, List.map_cons, List.map_nil, List.replicate_zero, List.replicate_succ, List.cons_append, List.nil_append, List.getElem?_cons_zero, List.getElem?_cons_succ, List.set_cons_zero, List.set_cons_succ, Nat.reduceSub, Nat.reduceAdd, Bool.not_true, Bool.not_false, wipeE, bnd_ok, bnd_err, bnd_bad, on_ok, on_err, on_bad, sel_true, sel_false, slotR_val, fnR_fn, isR_val, negR_int, notR_bl, blSel_bl, optR_int, augR_val, thn_next, thn_ret, thn_err, thn_brk, thn_cont, again_next, again_cont, again_brk, again_ret, again_err, ctch_next, ctch_ret, ctch_err, fin_ret, fin_next, fin_err, okIf_t, e_slot, e_lit, e_globP, e_tup, e_lst, e_bin, e_neg, e_not, e_and, e_or, e_cmp, e_cmp2, e_ite, e_call, e_callv, e_bi, e_bic, e_isi, e_isiS, e_mth, e_ix, e_sl, e_rev, e_lc, o_none, o_some, es_nil, es_cons, b_val, b_not, b_and, b_or, b_yes, c_mk, i_seq, i_range1, i_range2, i_range3, i_enum, t_slot, t_tup, t_ix, ts_nil, ts_cons, s_asg, s_par, s_aug, s_for, s_while, s_if, s_ret, s_retN, s_expr, s_raise, s_try, s_brk, s_cont, s_pass, ss_nil, ss_cons, bin_add, bin_sub, bin_addS, bin_addT, bin_addL, bin_mulL, aug_add, aug_sub, eqS_int, eqS_bl, c_eq, c_ne, c_lt, c_le, c_gt, c_ge, c_isN, c_isntN, bi_one, bi_two, bi1_int, bi1_bl, bi1_str, bi1_tup, bi1_ref, bi2_int, biI_int, biB_int, biI_abs, biT_len, biT_tuple, biT_list, biL_len, biL_tuple, biL_list, biL_sum, biL_any, biL_all, biII_max, biII_min, truth_bl, truth_int, truth_tup, truth_non, seq_tup, ix_ref, ix_tup, sl_tup, sl_ref, set_ref, mt_app, it_tup, it_ref, it_r1, it_r2, noerr_err, atI_0, atI_1, atI_2, atI_3, atI_l, bin_modp, bin_divp, bin_mulp, ixN_40, ixN_41, ixN_42, ixN_43, isR_excP, pow_10_18, atI_cast, List.length_map, Res.noerr_ok, Res.noerr_bad, ofO_some, q_F_F, q_F_P, q_F_Q, q_F_Z, q_P_F, q_P_P, q_P_Q, q_P_Z, q_Q_F, q_Q_P, q_Q_Q, q_Q_Z, q_R_F, q_R_P, q_R_Q, q_R_Z, q_Z_F, q_Z_P, q_Z_Q, q_Z_Z, isi_tuple_tuple, isi_tuple_str, isi_tuple_int, isi_tuple_bool, isi_str_tuple, isi_str_str, isi_str_int, isi_str_bool, isi_int_tuple, isi_int_str, isi_int_int, isi_int_bool, isi_bool_tuple, isi_bool_str, isi_bool_int, isi_bool_bool, isi_NoneType_tuple, isi_NoneType_str, isi_NoneType_int, isi_NoneType_bool, L_small, e1]
    exact ⟨_, _, rfl, .inr ⟨⟨p, rfl⟩, _, rfl⟩, (Dr.trim dr.lt (dr1.le (by omega)) ex1 pure_int).1, (Dr.trim dr.lt dr1 ex1 pure_int).2⟩
/-- where the laws' small elements lie -/
def IsD (d : D) : Prop := IsF d ∨ d = .tup [.str "Z"] ∨ ∃ f, IsF f ∧ d = .tup [.str "P", f]
theorem small_D {P : Prog} {k : Nat} {S : Store} {c l0 T : Nat} {d : D} (L : Lw P) (hd : IsD d) (dr : Dr c l0 T S) (hT : T ≤ 800000) :
    ∃ x S', callF P (k + 5) 9 [.ref c, d] S = .ok x S' ∧ x.pure = true ∧ Dr c l0 (T + 10) S' ∧ Ext c S S' := by
  rcases hd with hf | rfl | ⟨f, hf, rfl⟩
  · obtain ⟨x, S', e, el, dr', ex⟩ := small_F (k := k + 1) L hf dr (by omega)
    exact ⟨x, S', e, el.pure, dr'.le (by omega), ex⟩
  · rw [callF_of L.h9 rfl]
    obtain ⟨d1, S1, e1, b1, b2, dr1, ex1⟩ := take_spec (k := k + 2) (many := 9) L.h1 L.h2 dr (by omega) (by omega) (by omega)
    obtain ⟨d2, S2, e2, b3, b4, dr2, ex2⟩ := take_spec (k := k + 2) (many := 99) L.h1 L.h2 dr1 (by omega) (by omega) (by omega)
    have dr2' := dr2.app [.lst [.int (d1 - 4), .int 0, .int 0, .int 1, .int (d2 - 49)]]
    obtain ⟨d3, S3, e3, b5, b6, dr3, ex3⟩ := take_spec (k := k + 2) (many := 5) L.h1 L.h2 dr2' (by omega) (by omega) (by omega)
    have hne : S2.length ≠ c := by have := dr2.lt.1; omega
    have hs := seq_lst (ex3.at hne (show (S2 ++ [.lst [.int (d1 - 4), .int 0, .int 0, .int 1, .int (d2 - 49)]])[S2.length]? = some _ by rw [List.getElem?_append_right (Nat.le_refl _), Nat.sub_self]; rfl))
    have ex : Ext c S S3 := (ex1.trans ex2).trans ((Ext.app _).trans ex3)
    have hi : ∃ v : Int, L2.atI [D.int (d1 - 4), .int 0, .int 0, .int 1, .int (d2 - 49)] d3 = some (.int v) := by
      rw [atI_of b5]
      have : d3.toNat = 0 ∨ d3.toNat = 1 ∨ d3.toNat = 2 ∨ d3.toNat = 3 ∨ d3.toNat = 4 := by omega
      rcases this with h | h | h | h | h <;> rw [h] <;> exact ⟨_, rfl⟩
    obtain ⟨v, hi⟩ := hi
    simp (disch := omega) only [Int.natCast_zero, Int.natCast_one, Int.cast_ofNat_Int, Int.reduceEq, Int.reduceLT, Int.reduceLE, decide_true, decide_false, List.length_cons, List.length_nil, List.set_set, List.map_cons, List.map_nil, List.replicate_zero, List.replicate_succ, List.cons_append, List.nil_append, List.getElem?_cons_zero, List.getElem?_cons_succ, List.set_cons_zero, List.set_cons_succ, Nat.reduceSub, Nat.reduceAdd, Bool.not_true, Bool.not_false, wipeE, bnd_ok, bnd_err, bnd_bad, on_ok, on_err, on_bad, sel_true, sel_false, slotR_val, fnR_fn, isR_val, negR_int, notR_bl, blSel_bl, optR_int, augR_val, thn_next, thn_ret, thn_err, thn_brk, thn_cont, again_next, again_cont, again_brk, again_ret, again_err, ctch_next, ctch_ret, ctch_err, fin_ret, fin_next, fin_err, okIf_t, e_slot, e_lit, e_globP, e_tup, e_lst, e_bin, e_neg, e_not, e_and, e_or, e_cmp, e_cmp2, e_ite, e_call, e_callv, e_bi, e_bic, e_isi, e_isiS, e_mth, e_ix, e_sl, e_rev, e_lc, o_none, o_some, es_nil, es_cons, b_val, b_not, b_and, b_or, b_yes, c_mk, i_seq, i_range1, i_range2, i_range3, i_enum, t_slot, t_tup, t_ix, ts_nil, ts_cons, s_asg, s_par, s_aug, s_for, s_while, s_if, s_ret, s_retN, s_expr, s_raise, s_try, s_brk, s_cont, s_pass, ss_nil, ss_cons, bin_add, bin_sub, bin_addS, bin_addT, bin_addL, bin_mulL, aug_add, aug_sub, eqS_int, eqS_bl, c_eq, c_ne, c_lt, c_le, c_gt, c_ge, c_isN, c_isntN, bi_one, bi_two, bi1_int, bi1_bl, bi1_str, bi1_tup, bi1_ref, bi2_int, biI_int, biB_int, biI_abs, biT_len, biT_tuple, biT_list, biL_len, biL_tuple, biL_list, biL_sum, biL_any, biL_all, biII_max, biII_min, truth_bl, truth_int, truth_tup, truth_non, seq_tup, ix_ref, ix_tup, sl_tup, sl_ref, set_ref, mt_app, it_tup, it_ref, it_r1, it_r2, noerr_err, atI_0, atI_1, atI_2, atI_3, atI_l, bin_modp, bin_divp, bin_mulp, ixN_40, ixN_41, ixN_42, ixN_43, isR_excP, pow_10_18, atI_cast, List.length_map, Res.noerr_ok, Res.noerr_bad, ofO_some, q_F_F, q_F_P, q_F_Q, q_F_Z, q_P_F, q_P_P, q_P_Q, q_P_Z, q_Q_F, q_Q_P, q_Q_Q, q_Q_Z, q_R_F, q_R_P, q_R_Q, q_R_Z, q_Z_F, q_Z_P, q_Z_Q, q_Z_Z, isi_tuple_tuple, isi_tuple_str, isi_tuple_int, isi_tuple_bool, isi_str_tuple, isi_str_str, isi_str_int, isi_str_bool, isi_int_tuple, isi_int_str, isi_int_int, isi_int_bool, isi_bool_tuple, isi_bool_str, isi_bool_int, isi_bool_bool, isi_NoneType_tuple, isi_NoneType_str, isi_NoneType_int, isi_NoneType_bool, L_small, e1, e2, e3, hs, hi]
    exact ⟨_, _, rfl, pure_int, (Dr.trim dr.lt (dr3.le (by omega)) ex pure_int).1, (Dr.trim dr.lt dr3 ex pure_int).2⟩
  · rw [callF_of L.h9 rfl]
    obtain ⟨d1, S1, e1, b1, b2, dr1, ex1⟩ := take_spec (k := k + 2) (many := 3) L.h1 L.h2 dr (by omega) (by omega) (by omega)
    have hlen : (rangeOf 0 1 d1.toNat).length ≤ 2 := by rw [range_length]; omega
    obtain ⟨l, S2, e2, hl, q, dr2, ex2⟩ := genG_dr (C := P.ctx (k + 4)) (σ := [.val (.ref c), .val (.tup [.str "P", f]), .no]) (vs := [2]) (t := CT.slot 2) (cb := CB.yes) (e := CE.call 9 (CEs.cons (CE.slot 0) (CEs.cons (CE.ix (CE.slot 1) (CE.lit (D.int 1))) CEs.nil))) (J := ⟨none, rangeOf 0 1 d1.toNat⟩) (n := 3) (B := 900000) (S0 := S1) (Q := ElF f) (fun _ _ => trivial) (fun d T S hT dr ex => by
      obtain ⟨x, S', e, el, dr', ex'⟩ := small_F (k := k) L hf dr hT
      refine ⟨x, S', ?_, el, dr', ex'⟩
      unfold eltG
      simp (disch := omega) only [Int.natCast_zero, Int.natCast_one, Int.cast_ofNat_Int, Int.reduceEq, Int.reduceLT, Int.reduceLE, decide_true, decide_false, List.length_cons, List.length_nil, List.set_set, List.map_cons, List.map_nil, List.replicate_zero, List.replicate_succ, List.cons_append, List.nil_append, List.getElem?_cons_zero, List.getElem?_cons_succ, List.set_cons_zero, List.set_cons_succ, Nat.reduceSub, Nat.reduceAdd, Bool.not_true, Bool.not_false, wipeE, bnd_ok, bnd_err, bnd_bad, on_ok, on_err, on_bad, sel_true, sel_false, slotR_val, fnR_fn, isR_val, negR_int, notR_bl, blSel_bl, optR_int, augR_val, thn_next, thn_ret, thn_err, thn_brk, thn_cont, again_next, again_cont, again_brk, again_ret, again_err, ctch_next, ctch_ret, ctch_err, fin_ret, fin_next, fin_err, okIf_t, e_slot, e_lit, e_globP, e_tup, e_lst, e_bin, e_neg, e_not, e_and, e_or, e_cmp, e_cmp2, e_ite, e_call, e_callv, e_bi, e_bic, e_isi, e_isiS, e_mth, e_ix, e_sl, e_rev, e_lc, o_none, o_some, es_nil, es_cons, b_val, b_not, b_and, b_or, b_yes, c_mk, i_seq, i_range1, i_range2, i_range3, i_enum, t_slot, t_tup, t_ix, ts_nil, ts_cons, s_asg, s_par, s_aug, s_for, s_while, s_if, s_ret, s_retN, s_expr, s_raise, s_try, s_brk, s_cont, s_pass, ss_nil, ss_cons, bin_add, bin_sub, bin_addS, bin_addT, bin_addL, bin_mulL, aug_add, aug_sub, eqS_int, eqS_bl, c_eq, c_ne, c_lt, c_le, c_gt, c_ge, c_isN, c_isntN, bi_one, bi_two, bi1_int, bi1_bl, bi1_str, bi1_tup, bi1_ref, bi2_int, biI_int, biB_int, biI_abs, biT_len, biT_tuple, biT_list, biL_len, biL_tuple, biL_list, biL_sum, biL_any, biL_all, biII_max, biII_min, truth_bl, truth_int, truth_tup, truth_non, seq_tup, ix_ref, ix_tup, sl_tup, sl_ref, set_ref, mt_app, it_tup, it_ref, it_r1, it_r2, noerr_err, atI_0, atI_1, atI_2, atI_3, atI_l, bin_modp, bin_divp, bin_mulp, ixN_40, ixN_41, ixN_42, ixN_43, isR_excP, pow_10_18, atI_cast, List.length_map, Res.noerr_ok, Res.noerr_bad, ofO_some, q_F_F, q_F_P, q_F_Q, q_F_Z, q_P_F, q_P_P, q_P_Q, q_P_Z, q_Q_F, q_Q_P, q_Q_Q, q_Q_Z, q_R_F, q_R_P, q_R_Q, q_R_Z, q_Z_F, q_Z_P, q_Z_Q, q_Z_Z, isi_tuple_tuple, isi_tuple_str, isi_tuple_int, isi_tuple_bool, isi_str_tuple, isi_str_str, isi_str_int, isi_str_bool, isi_int_tuple, isi_int_str, isi_int_int, isi_int_bool, isi_bool_tuple, isi_bool_str, isi_bool_int, isi_bool_bool, isi_NoneType_tuple, isi_NoneType_str, isi_NoneType_int, isi_NoneType_bool, e]) (rangeOf 0 1 d1.toNat) (T + 1) S1 dr1 (Ext.refl _ _) (by omega)
    have hp : (S2 ++ [Cell.lst l])[S2.length]? = some (.lst l) := by rw [List.getElem?_append_right (Nat.le_refl _), Nat.sub_self]; rfl
    obtain ⟨m, e3⟩ := strip_spec (k := k + 2) L.h7 L.h8 hp q
    have ex : Ext c S (S2 ++ [Cell.lst l]) := (ex1.trans ex2).trans (Ext.app _)
    have dr3 := dr2.app [Cell.lst l]
    have hs : (rangeOf 0 1 d1.toNat).length ≤ sizeLine := Nat.le_trans hlen (by decide)
    have hr : -(2 ^ 62) ≤ d1 ∧ d1 < 2 ^ 62 := by omega
    simp (disch := omega) only [Int.natCast_zero, Int.natCast_one, Int.cast_ofNat_Int, Int.reduceEq, Int.reduceLT, Int.reduceLE, decide_true, decide_false, List.length_cons, List.length_nil, List.set_set, List.map_cons, List.map_nil, List.replicate_zero, List.replicate_succ, List.cons_append, List.nil_append, List.getElem?_cons_zero, List.getElem?_cons_succ, List.set_cons_zero, List.set_cons_succ, Nat.reduceSub, Nat.reduceAdd, Bool.not_true, Bool.not_false, wipeE, bnd_ok, bnd_err, bnd_bad, on_ok, on_err, on_bad, sel_true, sel_false, slotR_val, fnR_fn, isR_val, negR_int, notR_bl, blSel_bl, optR_int, augR_val, thn_next, thn_ret, thn_err, thn_brk, thn_cont, again_next, again_cont, again_brk, again_ret, again_err, ctch_next, ctch_ret, ctch_err, fin_ret, fin_next, fin_err, okIf_t, e_slot, e_lit, e_globP, e_tup, e_lst, e_bin, e_neg, e_not, e_and, e_or, e_cmp, e_cmp2, e_ite, e_call, e_callv, e_bi, e_bic, e_isi, e_isiS, e_mth, e_ix, e_sl, e_rev, e_lc, o_none, o_some, es_nil, es_cons, b_val, b_not, b_and, b_or, b_yes, c_mk, i_seq, i_range1, i_range2, i_range3, i_enum, t_slot, t_tup, t_ix, ts_nil, ts_cons, s_asg, s_par, s_aug, s_for, s_while, s_if, s_ret, s_retN, s_expr, s_raise, s_try, s_brk, s_cont, s_pass, ss_nil, ss_cons, bin_add, bin_sub, bin_addS, bin_addT, bin_addL, bin_mulL, aug_add, aug_sub, eqS_int, eqS_bl, c_eq, c_ne, c_lt, c_le, c_gt, c_ge, c_isN, c_isntN, bi_one, bi_two, bi1_int, bi1_bl, bi1_str, bi1_tup, bi1_ref, bi2_int, biI_int, biB_int, biI_abs, biT_len, biT_tuple, biT_list, biL_len, biL_tuple, biL_list, biL_sum, biL_any, biL_all, biII_max, biII_min, truth_bl, truth_int, truth_tup, truth_non, seq_tup, ix_ref, ix_tup, sl_tup, sl_ref, set_ref, mt_app, it_tup, it_ref, it_r1, it_r2, noerr_err, atI_0, atI_1, atI_2, atI_3, atI_l, bin_modp, bin_divp, bin_mulp, ixN_40, ixN_41, ixN_42, ixN_43, isR_excP, pow_10_18, atI_cast, List.length_map, Res.noerr_ok, Res.noerr_bad, ofO_some, q_F_F, q_F_P, q_F_Q, q_F_Z, q_P_F, q_P_P, q_P_Q, q_P_Z, q_Q_F, q_Q_P, q_Q_Q, q_Q_Z, q_R_F, q_R_P, q_R_Q, q_R_Z, q_Z_F, q_Z_P, q_Z_Q, q_Z_Z, isi_tuple_tuple, isi_tuple_str, isi_tuple_int, isi_tuple_bool, isi_str_tuple, isi_str_str, isi_str_int, isi_str_bool, isi_int_tuple, isi_int_str, isi_int_int, isi_int_bool, isi_bool_tuple, isi_bool_str, isi_bool_int, isi_bool_bool, isi_NoneType_tuple, isi_NoneType_str, isi_NoneType_int, isi_NoneType_bool, L_small, e1, okIf, hr, and_self, if_true, hs, e2, e3]
    have hpu : (D.tup (l.take m)).pure = true := pure_tup fun x hx => (q x (List.mem_of_mem_take hx)).pure
    exact ⟨_, _, rfl, hpu, (Dr.trim dr.lt (dr3.le (by omega)) ex hpu).1, (Dr.trim dr.lt dr3 ex hpu).2⟩
/-- a row of small elements; e calls _law_small -/
theorem row_gen {P : Prog} {k : Nat} {c l0 : Nat} {d : D} (L : Lw P) (hd : IsD d) {σ : Env} {vs : List Nat} {t : CT} {e : CE} {n : Nat}
    (he : ∀ (x : D) (S : Store), eltG (P.ctx (k + 5)) vs t .yes e σ x S = ((callF P (k + 5) 9 [.ref c, d] S).bnd fun y S' => .ok (some y) S').noerr) {T : Nat} {S : Store} (dr : Dr c l0 T S) (hT : T ≤ 700000) (hn : n ≤ 1000) :
    ∃ l S', genG (P.ctx (k + 5)) vs t .yes e σ ⟨none, rangeOf 0 1 n⟩ (rangeOf 0 1 n) S = .ok l S' ∧ l.length = n ∧ (∀ x ∈ l, x.pure = true) ∧ Dr c l0 (T + 10 * n) S' ∧ Ext c S S' := by
  obtain ⟨l, S', h1, h2, h3, h4, h5⟩ := genG_dr (S0 := S) (n := 10) (B := 800000) (Q := fun x => x.pure = true) (fun _ _ => still_none) (fun x T S hT dr ex => by
    obtain ⟨y, S', e', el, dr', ex'⟩ := small_D (k := k) L hd dr (by omega)
    exact ⟨y, S', by rw [he, e', bnd_ok, Res.noerr_ok], el, dr', ex'⟩) (rangeOf 0 1 n) T S dr (Ext.refl _ _) (by rw [range_length]; omega)
  rw [range_length] at h2 h4
  exact ⟨l, S', h1, h2, h3, h4, h5⟩
theorem range_ok {n : Nat} (h : n ≤ 1000) : (rangeOf 0 1 n).length ≤ sizeLine := by rw [range_length]; exact Nat.le_trans h (by decide)
end EV

namespace EV
open PySem
theorem matrix_spec {P : Prog} {k : Nat} {S : Store} {c l0 T : Nat} {d : D} (L : Lw P) (hd : IsD d) (dr : Dr c l0 T S) (hT : T ≤ 500000) {m n : Nat} (hm : m ≤ 20) (hn : n ≤ 20) :
    ∃ rows S', callF P (k + 6) 10 [.ref c, d, .int m, .int n] S = .ok (.tup [.int m, .int n, .tup rows]) S' ∧ rows.length = m ∧ (∀ r ∈ rows, r.pure = true) ∧ Dr c l0 (T + 10 * n * m) S' ∧ Ext c S S' := by
  rw [callF_of L.h10 rfl]
  have hrm : -(2 ^ 62) ≤ (m : Int) ∧ (m : Int) < 2 ^ 62 := by omega
  have hrn : -(2 ^ 62) ≤ (n : Int) ∧ (n : Int) < 2 ^ 62 := by omega
  have hn20 : 10 * n ≤ 200 := by omega
  have hnm : 10 * n * m ≤ 200 * 20 := Nat.mul_le_mul hn20 hm
  obtain ⟨rows, S1, e1, hl, q, dr1, ex1⟩ := genG_dr (C := P.ctx (k + 5)) (σ := [.val (.ref c), .val d, .val (.int m), .val (.int n), .no, .no]) (vs := [4]) (t := CT.slot 4) (cb := CB.yes) (e := CE.bic Bi.tuple (CC.mk [5] (CT.slot 5) (CI.range1 (CE.slot 3)) CB.yes (CE.call 9 (CEs.cons (CE.slot 0) (CEs.cons (CE.slot 1) CEs.nil))))) (J := ⟨none, rangeOf 0 1 m⟩) (n := 10 * n) (B := 600000) (S0 := S) (Q := fun x => x.pure = true) (fun _ _ => still_none) (fun x T S hT dr ex => by
      obtain ⟨l, S', e, hl, q, dr', ex'⟩ := row_gen (k := k) (n := n) L hd (σ := [.val (.ref c), .val d, .val (.int m), .val (.int n), .val x, .no]) (vs := [5]) (t := CT.slot 5) (e := CE.call 9 (CEs.cons (CE.slot 0) (CEs.cons (CE.slot 1) CEs.nil))) (fun y S => by
        unfold eltG
        simp (disch := omega) only [Int.natCast_zero, Int.natCast_one, Int.cast_ofNat_Int, Int.reduceEq, Int.reduceLT, Int.reduceLE, decide_true, decide_false, List.length_cons, List.length_nil, List.set_set, List.map_cons, List.map_nil, List.replicate_zero, List.replicate_succ, List.cons_append, List.nil_append, List.getElem?_cons_zero, List.getElem?_cons_succ, List.set_cons_zero, List.set_cons_succ, Nat.reduceSub, Nat.reduceAdd, Bool.not_true, Bool.not_false, wipeE, bnd_ok, bnd_err, bnd_bad, on_ok, on_err, on_bad, sel_true, sel_false, slotR_val, fnR_fn, isR_val, negR_int, notR_bl, blSel_bl, optR_int, augR_val, thn_next, thn_ret, thn_err, thn_brk, thn_cont, again_next, again_cont, again_brk, again_ret, again_err, ctch_next, ctch_ret, ctch_err, fin_ret, fin_next, fin_err, okIf_t, e_slot, e_lit, e_globP, e_tup, e_lst, e_bin, e_neg, e_not, e_and, e_or, e_cmp, e_cmp2, e_ite, e_call, e_callv, e_bi, e_bic, e_isi, e_isiS, e_mth, e_ix, e_sl, e_rev, e_lc, o_none, o_some, es_nil, es_cons, b_val, b_not, b_and, b_or, b_yes, c_mk, i_seq, i_range1, i_range2, i_range3, i_enum, t_slot, t_tup, t_ix, ts_nil, ts_cons, s_asg, s_par, s_aug, s_for, s_while, s_if, s_ret, s_retN, s_expr, s_raise, s_try, s_brk, s_cont, s_pass, ss_nil, ss_cons, bin_add, bin_sub, bin_addS, bin_addT, bin_addL, bin_mulL, aug_add, aug_sub, eqS_int, eqS_bl, c_eq, c_ne, c_lt, c_le, c_gt, c_ge, c_isN, c_isntN, bi_one, bi_two, bi1_int, bi1_bl, bi1_str, bi1_tup, bi1_ref, bi2_int, biI_int, biB_int, biI_abs, biT_len, biT_tuple, biT_list, biL_len, biL_tuple, biL_list, biL_sum, biL_any, biL_all, biII_max, biII_min, truth_bl, truth_int, truth_tup, truth_non, seq_tup, ix_ref, ix_tup, sl_tup, sl_ref, set_ref, mt_app, it_tup, it_ref, it_r1, it_r2, noerr_err, atI_0, atI_1, atI_2, atI_3, atI_l, bin_modp, bin_divp, bin_mulp, ixN_40, ixN_41, ixN_42, ixN_43, isR_excP, pow_10_18, atI_cast, List.length_map, Res.noerr_ok, Res.noerr_bad, ofO_some, isi_tuple_tuple, isi_tuple_str, isi_tuple_int, isi_tuple_bool, isi_str_tuple, isi_str_str, isi_str_int, isi_str_bool, isi_int_tuple, isi_int_str, isi_int_int, isi_int_bool, isi_bool_tuple, isi_bool_str, isi_bool_int, isi_bool_bool, isi_NoneType_tuple, isi_NoneType_str, isi_NoneType_int, isi_NoneType_bool, q_F_F, q_F_P, q_F_Q, q_F_Z, q_P_F, q_P_P, q_P_Q, q_P_Z, q_Q_F, q_Q_P, q_Q_Q, q_Q_Z, q_R_F, q_R_P, q_R_Q, q_R_Z, q_Z_F, q_Z_P, q_Z_Q, q_Z_Z, ]) dr (by omega) (by omega)
      refine ⟨.tup l, S', ?_, pure_tup q, dr', ex'⟩
      unfold eltG
      simp (disch := omega) only [Int.natCast_zero, Int.natCast_one, Int.cast_ofNat_Int, Int.reduceEq, Int.reduceLT, Int.reduceLE, decide_true, decide_false, List.length_cons, List.length_nil, List.set_set, List.map_cons, List.map_nil, List.replicate_zero, List.replicate_succ, List.cons_append, List.nil_append, List.getElem?_cons_zero, List.getElem?_cons_succ, List.set_cons_zero, List.set_cons_succ, Nat.reduceSub, Nat.reduceAdd, Bool.not_true, Bool.not_false, wipeE, bnd_ok, bnd_err, bnd_bad, on_ok, on_err, on_bad, sel_true, sel_false, slotR_val, fnR_fn, isR_val, negR_int, notR_bl, blSel_bl, optR_int, augR_val, thn_next, thn_ret, thn_err, thn_brk, thn_cont, again_next, again_cont, again_brk, again_ret, again_err, ctch_next, ctch_ret, ctch_err, fin_ret, fin_next, fin_err, okIf_t, e_slot, e_lit, e_globP, e_tup, e_lst, e_bin, e_neg, e_not, e_and, e_or, e_cmp, e_cmp2, e_ite, e_call, e_callv, e_bi, e_bic, e_isi, e_isiS, e_mth, e_ix, e_sl, e_rev, e_lc, o_none, o_some, es_nil, es_cons, b_val, b_not, b_and, b_or, b_yes, c_mk, i_seq, i_range1, i_range2, i_range3, i_enum, t_slot, t_tup, t_ix, ts_nil, ts_cons, s_asg, s_par, s_aug, s_for, s_while, s_if, s_ret, s_retN, s_expr, s_raise, s_try, s_brk, s_cont, s_pass, ss_nil, ss_cons, bin_add, bin_sub, bin_addS, bin_addT, bin_addL, bin_mulL, aug_add, aug_sub, eqS_int, eqS_bl, c_eq, c_ne, c_lt, c_le, c_gt, c_ge, c_isN, c_isntN, bi_one, bi_two, bi1_int, bi1_bl, bi1_str, bi1_tup, bi1_ref, bi2_int, biI_int, biB_int, biI_abs, biT_len, biT_tuple, biT_list, biL_len, biL_tuple, biL_list, biL_sum, biL_any, biL_all, biII_max, biII_min, truth_bl, truth_int, truth_tup, truth_non, seq_tup, ix_ref, ix_tup, sl_tup, sl_ref, set_ref, mt_app, it_tup, it_ref, it_r1, it_r2, noerr_err, atI_0, atI_1, atI_2, atI_3, atI_l, bin_modp, bin_divp, bin_mulp, ixN_40, ixN_41, ixN_42, ixN_43, isR_excP, pow_10_18, atI_cast, List.length_map, Res.noerr_ok, Res.noerr_bad, ofO_some, isi_tuple_tuple, isi_tuple_str, isi_tuple_int, isi_tuple_bool, isi_str_tuple, isi_str_str, isi_str_int, isi_str_bool, isi_int_tuple, isi_int_str, isi_int_int, isi_int_bool, isi_bool_tuple, isi_bool_str, isi_bool_int, isi_bool_bool, isi_NoneType_tuple, isi_NoneType_str, isi_NoneType_int, isi_NoneType_bool, q_F_F, q_F_P, q_F_Q, q_F_Z, q_P_F, q_P_P, q_P_Q, q_P_Z, q_Q_F, q_Q_P, q_Q_Q, q_Q_Z, q_R_F, q_R_P, q_R_Q, q_R_Z, q_Z_F, q_Z_P, q_Z_Q, q_Z_Z, okIf, hrn, and_self, if_true, Int.toNat_natCast, range_ok (show n ≤ 1000 by omega), e]) (rangeOf 0 1 m) T S dr (Ext.refl _ _) (by rw [range_length]; omega)
  rw [range_length] at hl dr1
  have hpu : (D.tup [.int m, .int n, .tup rows]).pure = true := pure_tup fun x hx => by
    rcases List.mem_cons.mp hx with rfl | hx
    · exact pure_int
    rcases List.mem_cons.mp hx with rfl | hx
    · exact pure_int
    rw [List.mem_singleton] at hx
    subst hx
    exact pure_tup q
  simp (disch := omega) only [Int.natCast_zero, Int.natCast_one, Int.cast_ofNat_Int, Int.reduceEq, Int.reduceLT, Int.reduceLE, decide_true, decide_false, List.length_cons, List.length_nil, List.set_set, List.map_cons, List.map_nil, List.replicate_zero, List.replicate_succ, List.cons_append, List.nil_append, List.getElem?_cons_zero, List.getElem?_cons_succ, List.set_cons_zero, List.set_cons_succ, Nat.reduceSub, Nat.reduceAdd, Bool.not_true, Bool.not_false, wipeE, bnd_ok, bnd_err, bnd_bad, on_ok, on_err, on_bad, sel_true, sel_false, slotR_val, fnR_fn, isR_val, negR_int, notR_bl, blSel_bl, optR_int, augR_val, thn_next, thn_ret, thn_err, thn_brk, thn_cont, again_next, again_cont, again_brk, again_ret, again_err, ctch_next, ctch_ret, ctch_err, fin_ret, fin_next, fin_err, okIf_t, e_slot, e_lit, e_globP, e_tup, e_lst, e_bin, e_neg, e_not, e_and, e_or, e_cmp, e_cmp2, e_ite, e_call, e_callv, e_bi, e_bic, e_isi, e_isiS, e_mth, e_ix, e_sl, e_rev, e_lc, o_none, o_some, es_nil, es_cons, b_val, b_not, b_and, b_or, b_yes, c_mk, i_seq, i_range1, i_range2, i_range3, i_enum, t_slot, t_tup, t_ix, ts_nil, ts_cons, s_asg, s_par, s_aug, s_for, s_while, s_if, s_ret, s_retN, s_expr, s_raise, s_try, s_brk, s_cont, s_pass, ss_nil, ss_cons, bin_add, bin_sub, bin_addS, bin_addT, bin_addL, bin_mulL, aug_add, aug_sub, eqS_int, eqS_bl, c_eq, c_ne, c_lt, c_le, c_gt, c_ge, c_isN, c_isntN, bi_one, bi_two, bi1_int, bi1_bl, bi1_str, bi1_tup, bi1_ref, bi2_int, biI_int, biB_int, biI_abs, biT_len, biT_tuple, biT_list, biL_len, biL_tuple, biL_list, biL_sum, biL_any, biL_all, biII_max, biII_min, truth_bl, truth_int, truth_tup, truth_non, seq_tup, ix_ref, ix_tup, sl_tup, sl_ref, set_ref, mt_app, it_tup, it_ref, it_r1, it_r2, noerr_err, atI_0, atI_1, atI_2, atI_3, atI_l, bin_modp, bin_divp, bin_mulp, ixN_40, ixN_41, ixN_42, ixN_43, isR_excP, pow_10_18, atI_cast, List.length_map, Res.noerr_ok, Res.noerr_bad, ofO_some, isi_tuple_tuple, isi_tuple_str, isi_tuple_int, isi_tuple_bool, isi_str_tuple, isi_str_str, isi_str_int, isi_str_bool, isi_int_tuple, isi_int_str, isi_int_int, isi_int_bool, isi_bool_tuple, isi_bool_str, isi_bool_int, isi_bool_bool, isi_NoneType_tuple, isi_NoneType_str, isi_NoneType_int, isi_NoneType_bool, q_F_F, q_F_P, q_F_Q, q_F_Z, q_P_F, q_P_P, q_P_Q, q_P_Z, q_Q_F, q_Q_P, q_Q_Q, q_Q_Z, q_R_F, q_R_P, q_R_Q, q_R_Z, q_Z_F, q_Z_P, q_Z_Q, q_Z_Z, L_matrix, okIf, hrm, and_self, if_true, Int.toNat_natCast, range_ok (show m ≤ 1000 by omega), e1]
  exact ⟨rows, _, rfl, hl, q, (Dr.trim dr.lt dr1 ex1 hpu).1, (Dr.trim dr.lt dr1 ex1 hpu).2⟩
/-! ### one of a domain -/
theorem number_F {P : Prog} {k : Nat} {S : Store} {f : D} {n : Int} (L : Lw P) (hf : IsF f) : ∃ x, callF P (k + 1) 14 [f, .int n] S = .ok x S ∧ ElF f x := by
  rw [callF_of L.h14 rfl]
  rcases hf with rfl | ⟨p, hp, rfl⟩
  · simp (disch := omega) only [Int.natCast_zero, Int.natCast_one, Int.cast_ofNat_Int, Int.reduceEq, Int.reduceLT, Int.reduceLE, decide_true, decide_false, List.length_cons, List.length_nil, List.set_set, List.map_cons, List.map_nil, List.replicate_zero, List.replicate_succ, List.cons_append, List.nil_append, List.getElem?_cons_zero, List.getElem?_cons_succ, List.set_cons_zero, List.set_cons_succ, Nat.reduceSub, Nat.reduceAdd, Bool.not_true, Bool.not_false, wipeE, bnd_ok, bnd_err, bnd_bad, on_ok, on_err, on_bad, sel_true, sel_false, slotR_val, fnR_fn, isR_val, negR_int, notR_bl, blSel_bl, optR_int, augR_val, thn_next, thn_ret, thn_err, thn_brk, thn_cont, again_next, again_cont, again_brk, again_ret, again_err, ctch_next, ctch_ret, ctch_err, fin_ret, fin_next, fin_err, okIf_t, e_slot, e_lit, e_globP, e_tup, e_lst, e_bin, e_neg, e_not, e_and, e_or, e_cmp, e_cmp2, e_ite, e_call, e_callv, e_bi, e_bic, e_isi, e_isiS, e_mth, e_ix, e_sl, e_rev, e_lc, o_none, o_some, es_nil, es_cons, b_val, b_not, b_and, b_or, b_yes, c_mk, i_seq, i_range1, i_range2, i_range3, i_enum, t_slot, t_tup, t_ix, ts_nil, ts_cons, s_asg, s_par, s_aug, s_for, s_while, s_if, s_ret, s_retN, s_expr, s_raise, s_try, s_brk, s_cont, s_pass, ss_nil, ss_cons, bin_add, bin_sub, bin_addS, bin_addT, bin_addL, bin_mulL, aug_add, aug_sub, eqS_int, eqS_bl, c_eq, c_ne, c_lt, c_le, c_gt, c_ge, c_isN, c_isntN, bi_one, bi_two, bi1_int, bi1_bl, bi1_str, bi1_tup, bi1_ref, bi2_int, biI_int, biB_int, biI_abs, biT_len, biT_tuple, biT_list, biL_len, biL_tuple, biL_list, biL_sum, biL_any, biL_all, biII_max, biII_min, truth_bl, truth_int, truth_tup, truth_non, seq_tup, ix_ref, ix_tup, sl_tup, sl_ref, set_ref, mt_app, it_tup, it_ref, it_r1, it_r2, noerr_err, atI_0, atI_1, atI_2, atI_3, atI_l, bin_modp, bin_divp, bin_mulp, ixN_40, ixN_41, ixN_42, ixN_43, isR_excP, pow_10_18, atI_cast, List.length_map, Res.noerr_ok, Res.noerr_bad, ofO_some, isi_tuple_tuple, isi_tuple_str, isi_tuple_int, isi_tuple_bool, isi_str_tuple, isi_str_str, isi_str_int, isi_str_bool, isi_int_tuple, isi_int_str, isi_int_int, isi_int_bool, isi_bool_tuple, isi_bool_str, isi_bool_int, isi_bool_bool, isi_NoneType_tuple, isi_NoneType_str, isi_NoneType_int, isi_NoneType_bool, q_F_F, q_F_P, q_F_Q, q_F_Z, q_P_F, q_P_P, q_P_Q, q_P_Z, q_Q_F, q_Q_P, q_Q_Q, q_Q_Z, q_R_F, q_R_P, q_R_Q, q_R_Z, q_Z_F, q_Z_P, q_Z_Q, q_Z_Z, L_number, trim_self]
    exact ⟨_, rfl, .inl ⟨rfl, _, _, rfl⟩⟩
  · have hp0 : 0 < p := by have := hp.1; omega
    simp (disch := omega) only [Int.natCast_zero, Int.natCast_one, Int.cast_ofNat_Int, Int.reduceEq, Int.reduceLT, Int.reduceLE, decide_true, decide_false, List.length_cons, List.length_nil, List.set_set, List.map_cons, List.map_nil, List.replicate_zero, List.replicate_succ, List.cons_append, List.nil_append, List.getElem?_cons_zero, List.getElem?_cons_succ, List.set_cons_zero, List.set_cons_succ, Nat.reduceSub, Nat.reduceAdd, Bool.not_true, Bool.not_false, wipeE, bnd_ok, bnd_err, bnd_bad, on_ok, on_err, on_bad, sel_true, sel_false, slotR_val, fnR_fn, isR_val, negR_int, notR_bl, blSel_bl, optR_int, augR_val, thn_next, thn_ret, thn_err, thn_brk, thn_cont, again_next, again_cont, again_brk, again_ret, again_err, ctch_next, ctch_ret, ctch_err, fin_ret, fin_next, fin_err, okIf_t, e_slot, e_lit, e_globP, e_tup, e_lst, e_bin, e_neg, e_not, e_and, e_or, e_cmp, e_cmp2, e_ite, e_call, e_callv, e_bi, e_bic, e_isi, e_isiS, e_mth, e_ix, e_sl, e_rev, e_lc, o_none, o_some, es_nil, es_cons, b_val, b_not, b_and, b_or, b_yes, c_mk, i_seq, i_range1, i_range2, i_range3, i_enum, t_slot, t_tup, t_ix, ts_nil, ts_cons, s_asg, s_par, s_aug, s_for, s_while, s_if, s_ret, s_retN, s_expr, s_raise, s_try, s_brk, s_cont, s_pass, ss_nil, ss_cons, bin_add, bin_sub, bin_addS, bin_addT, bin_addL, bin_mulL, aug_add, aug_sub, eqS_int, eqS_bl, c_eq, c_ne, c_lt, c_le, c_gt, c_ge, c_isN, c_isntN, bi_one, bi_two, bi1_int, bi1_bl, bi1_str, bi1_tup, bi1_ref, bi2_int, biI_int, biB_int, biI_abs, biT_len, biT_tuple, biT_list, biL_len, biL_tuple, biL_list, biL_sum, biL_any, biL_all, biII_max, biII_min, truth_bl, truth_int, truth_tup, truth_non, seq_tup, ix_ref, ix_tup, sl_tup, sl_ref, set_ref, mt_app, it_tup, it_ref, it_r1, it_r2, noerr_err, atI_0, atI_1, atI_2, atI_3, atI_l, bin_modp, bin_divp, bin_mulp, ixN_40, ixN_41, ixN_42, ixN_43, isR_excP, pow_10_18, atI_cast, List.length_map, Res.noerr_ok, Res.noerr_bad, ofO_some, isi_tuple_tuple, isi_tuple_str, isi_tuple_int, isi_tuple_bool, isi_str_tuple, isi_str_str, isi_str_int, isi_str_bool, isi_int_tuple, isi_int_str, isi_int_int, isi_int_bool, isi_bool_tuple, isi_bool_str, isi_bool_int, isi_bool_bool, isi_NoneType_tuple, isi_NoneType_str, isi_NoneType_int, isi_NoneType_bool, q_F_F, q_F_P, q_F_Q, q_F_Z, q_P_F, q_P_P, q_P_Q, q_P_Z, q_Q_F, q_Q_P, q_Q_Q, q_Q_Z, q_R_F, q_R_P, q_R_Q, q_R_Z, q_Z_F, q_Z_P, q_Z_Q, q_Z_Z, L_number, trim_self]
    exact ⟨_, rfl, .inr ⟨⟨p, rfl⟩, _, rfl⟩⟩
theorem number_D {P : Prog} {k : Nat} {S : Store} {d : D} {n : Int} (L : Lw P) (hd : IsD d) : ∃ x, callF P (k + 3) 14 [d, .int n] S = .ok x S ∧ x.pure = true := by
  rcases hd with hf | rfl | ⟨f, hf, rfl⟩
  · obtain ⟨x, e, el⟩ := number_F (k := k + 2) (S := S) (n := n) L hf
    exact ⟨x, e, el.pure⟩
  · rw [callF_of L.h14 rfl]
    simp (disch := omega) only [Int.natCast_zero, Int.natCast_one, Int.cast_ofNat_Int, Int.reduceEq, Int.reduceLT, Int.reduceLE, decide_true, decide_false, List.length_cons, List.length_nil, List.set_set, List.map_cons, List.map_nil, List.replicate_zero, List.replicate_succ, List.cons_append, List.nil_append, List.getElem?_cons_zero, List.getElem?_cons_succ, List.set_cons_zero, List.set_cons_succ, Nat.reduceSub, Nat.reduceAdd, Bool.not_true, Bool.not_false, wipeE, bnd_ok, bnd_err, bnd_bad, on_ok, on_err, on_bad, sel_true, sel_false, slotR_val, fnR_fn, isR_val, negR_int, notR_bl, blSel_bl, optR_int, augR_val, thn_next, thn_ret, thn_err, thn_brk, thn_cont, again_next, again_cont, again_brk, again_ret, again_err, ctch_next, ctch_ret, ctch_err, fin_ret, fin_next, fin_err, okIf_t, e_slot, e_lit, e_globP, e_tup, e_lst, e_bin, e_neg, e_not, e_and, e_or, e_cmp, e_cmp2, e_ite, e_call, e_callv, e_bi, e_bic, e_isi, e_isiS, e_mth, e_ix, e_sl, e_rev, e_lc, o_none, o_some, es_nil, es_cons, b_val, b_not, b_and, b_or, b_yes, c_mk, i_seq, i_range1, i_range2, i_range3, i_enum, t_slot, t_tup, t_ix, ts_nil, ts_cons, s_asg, s_par, s_aug, s_for, s_while, s_if, s_ret, s_retN, s_expr, s_raise, s_try, s_brk, s_cont, s_pass, ss_nil, ss_cons, bin_add, bin_sub, bin_addS, bin_addT, bin_addL, bin_mulL, aug_add, aug_sub, eqS_int, eqS_bl, c_eq, c_ne, c_lt, c_le, c_gt, c_ge, c_isN, c_isntN, bi_one, bi_two, bi1_int, bi1_bl, bi1_str, bi1_tup, bi1_ref, bi2_int, biI_int, biB_int, biI_abs, biT_len, biT_tuple, biT_list, biL_len, biL_tuple, biL_list, biL_sum, biL_any, biL_all, biII_max, biII_min, truth_bl, truth_int, truth_tup, truth_non, seq_tup, ix_ref, ix_tup, sl_tup, sl_ref, set_ref, mt_app, it_tup, it_ref, it_r1, it_r2, noerr_err, atI_0, atI_1, atI_2, atI_3, atI_l, bin_modp, bin_divp, bin_mulp, ixN_40, ixN_41, ixN_42, ixN_43, isR_excP, pow_10_18, atI_cast, List.length_map, Res.noerr_ok, Res.noerr_bad, ofO_some, isi_tuple_tuple, isi_tuple_str, isi_tuple_int, isi_tuple_bool, isi_str_tuple, isi_str_str, isi_str_int, isi_str_bool, isi_int_tuple, isi_int_str, isi_int_int, isi_int_bool, isi_bool_tuple, isi_bool_str, isi_bool_int, isi_bool_bool, isi_NoneType_tuple, isi_NoneType_str, isi_NoneType_int, isi_NoneType_bool, q_F_F, q_F_P, q_F_Q, q_F_Z, q_P_F, q_P_P, q_P_Q, q_P_Z, q_Q_F, q_Q_P, q_Q_Q, q_Q_Z, q_R_F, q_R_P, q_R_Q, q_R_Z, q_Z_F, q_Z_P, q_Z_Q, q_Z_Z, L_number, trim_self]
    exact ⟨_, rfl, pure_int⟩
  · rw [callF_of L.h14 rfl]
    obtain ⟨x, e, el⟩ := number_F (k := k + 1) (S := S) (n := n) L hf
    have q : ∀ y ∈ [x], ElF f y := fun y hy => by rw [List.mem_singleton] at hy; subst hy; exact el
    obtain ⟨m, e3⟩ := strip_spec (k := k) (S := S ++ [.lst [x]]) (p := S.length) L.h7 L.h8 (by rw [List.getElem?_append_right (Nat.le_refl _), Nat.sub_self]; rfl) q
    have hpu : (D.tup (([x] : List D).take m)).pure = true := pure_tup fun y hy => (q y (List.mem_of_mem_take hy)).pure
    simp (disch := omega) only [Int.natCast_zero, Int.natCast_one, Int.cast_ofNat_Int, Int.reduceEq, Int.reduceLT, Int.reduceLE, decide_true, decide_false, List.length_cons, List.length_nil, List.set_set, List.map_cons, List.map_nil, List.replicate_zero, List.replicate_succ, List.cons_append, List.nil_append, List.getElem?_cons_zero, List.getElem?_cons_succ, List.set_cons_zero, List.set_cons_succ, Nat.reduceSub, Nat.reduceAdd, Bool.not_true, Bool.not_false, wipeE, bnd_ok, bnd_err, bnd_bad, on_ok, on_err, on_bad, sel_true, sel_false, slotR_val, fnR_fn, isR_val, negR_int, notR_bl, blSel_bl, optR_int, augR_val, thn_next, thn_ret, thn_err, thn_brk, thn_cont, again_next, again_cont, again_brk, again_ret, again_err, ctch_next, ctch_ret, ctch_err, fin_ret, fin_next, fin_err, okIf_t, e_slot, e_lit, e_globP, e_tup, e_lst, e_bin, e_neg, e_not, e_and, e_or, e_cmp, e_cmp2, e_ite, e_call, e_callv, e_bi, e_bic, e_isi, e_isiS, e_mth, e_ix, e_sl, e_rev, e_lc, o_none, o_some, es_nil, es_cons, b_val, b_not, b_and, b_or, b_yes, c_mk, i_seq, i_range1, i_range2, i_range3, i_enum, t_slot, t_tup, t_ix, ts_nil, ts_cons, s_asg, s_par, s_aug, s_for, s_while, s_if, s_ret, s_retN, s_expr, s_raise, s_try, s_brk, s_cont, s_pass, ss_nil, ss_cons, bin_add, bin_sub, bin_addS, bin_addT, bin_addL, bin_mulL, aug_add, aug_sub, eqS_int, eqS_bl, c_eq, c_ne, c_lt, c_le, c_gt, c_ge, c_isN, c_isntN, bi_one, bi_two, bi1_int, bi1_bl, bi1_str, bi1_tup, bi1_ref, bi2_int, biI_int, biB_int, biI_abs, biT_len, biT_tuple, biT_list, biL_len, biL_tuple, biL_list, biL_sum, biL_any, biL_all, biII_max, biII_min, truth_bl, truth_int, truth_tup, truth_non, seq_tup, ix_ref, ix_tup, sl_tup, sl_ref, set_ref, mt_app, it_tup, it_ref, it_r1, it_r2, noerr_err, atI_0, atI_1, atI_2, atI_3, atI_l, bin_modp, bin_divp, bin_mulp, ixN_40, ixN_41, ixN_42, ixN_43, isR_excP, pow_10_18, atI_cast, List.length_map, Res.noerr_ok, Res.noerr_bad, ofO_some, isi_tuple_tuple, isi_tuple_str, isi_tuple_int, isi_tuple_bool, isi_str_tuple, isi_str_str, isi_str_int, isi_str_bool, isi_int_tuple, isi_int_str, isi_int_int, isi_int_bool, isi_bool_tuple, isi_bool_str, isi_bool_int, isi_bool_bool, isi_NoneType_tuple, isi_NoneType_str, isi_NoneType_int, isi_NoneType_bool, q_F_F, q_F_P, q_F_Q, q_F_Z, q_P_F, q_P_P, q_P_Q, q_P_Z, q_Q_F, q_Q_P, q_Q_Q, q_Q_Z, q_R_F, q_R_P, q_R_Q, q_R_Z, q_Z_F, q_Z_P, q_Z_Q, q_Z_Z, L_number, e, e3]
    rw [trim_cut (S1 := S) hpu rfl fun i _ => .inl rfl]
    exact ⟨_, rfl, hpu⟩
/-! ### a prime -/
theorem genG_filter {C : Ctx} {σ : Env} {vs : List Nat} {t : CT} {c : CB} {e : CE} {J : It} {S : Store} {g : D → Option D} (st : J.still S) : ∀ {ds : List D}, (∀ d ∈ ds, eltG C vs t c e σ d S = .ok (g d) S) → genG C vs t c e σ J ds S = .ok (ds.filterMap g) S
  | [], _ => genG_nil st
  | d :: ds, h => by
    rw [genG_cons st, h d List.mem_cons_self, bnd_ok, genG_filter st fun x hx => h x (List.mem_cons_of_mem _ hx), bnd_ok, List.filterMap_cons]
    cases g d <;> rfl
theorem bools_map : ∀ bs : List Bool, boolsD (bs.map .bl) = some bs
  | [] => rfl
  | b :: bs => by rw [List.map_cons]; unfold boolsD; rw [bools_map bs]; rfl
def noDiv (p : Nat) : Bool := (List.range 257).all fun k => decide (k < 2) || decide (p < k * k) || p % k != 0
theorem isP_of {p : Nat} (h2 : 2 ≤ p) (h3 : p ≤ 65521) (h : noDiv p = true) : IsP p := by
  refine ⟨by omega, by omega, fun k h4 h5 => ?_⟩
  have hk : k.toNat < 257 := by
    by_cases hc : k < 257
    · omega
    · exfalso
      have : 257 * 257 ≤ k * k := Int.mul_le_mul (by omega) (by omega) (by omega) (by omega)
      omega
  have q := List.all_eq_true.mp h k.toNat (List.mem_range.mpr hk)
  obtain ⟨n, rfl⟩ : ∃ n : Nat, k = n := ⟨k.toNat, by omega⟩
  simp only [Int.toNat_natCast, Bool.or_eq_true, decide_eq_true_eq, bne_iff_ne] at q
  have h6 : n * n ≤ p := by exact_mod_cast h5
  rcases q with (q | q) | q
  · omega
  · omega
  · intro hz
    exact q (by exact_mod_cast hz)
theorem noDiv_of {p : Nat} (h : ∀ k : Nat, 2 ≤ k → k < 257 → k * k ≤ p → p % k ≠ 0) : noDiv p = true := List.all_eq_true.mpr fun k hk => by
  have hk := List.mem_range.mp hk
  simp only [Bool.or_eq_true, decide_eq_true_eq, bne_iff_ne]
  by_cases h1 : k < 2
  · exact .inl (.inl h1)
  by_cases h2 : p < k * k
  · exact .inl (.inr h2)
  · exact .inr (h k (by omega) hk (by omega))
/-- what the loop of _law_some_prime asks -/
theorem some_test {P : Prog} {k : Nat} {S : Store} {σ0 σ2 : SV} {p : Nat} (hp : 2 ≤ p) (hp2 : p ≤ 65521) :
    evB (P.ctx k) (match nth 1 L_some_prime.body with | .whileS c _ => c | _ => .yes) [σ0, .val (.int p), σ2] S = .ok (!noDiv p) S := by
  have ks : rangeOf 2 1 255 = ((List.range 255).map fun i => (2 + (i : Nat) * 1 : Int)).map .int := by unfold rangeOf; rw [List.map_map]; rfl
  have gen := genG_filter (C := P.ctx k) (σ := [σ0, .val (.int p), σ2]) (vs := [2]) (t := CT.slot 2) (c := CB.val (CE.cmp .LtE (CE.bin .Mult (CE.slot 2) (CE.slot 2)) (CE.slot 1))) (e := CE.cmp .Eq (CE.bin .Mod (CE.bi .int (CEs.cons (CE.slot 1) CEs.nil)) (CE.slot 2)) (CE.lit (D.int 0))) (J := ⟨none, rangeOf 2 1 255⟩) (S := S)
    (g := fun d => match d with | .int j => if j * j ≤ p then some (.bl (decide ((p : Int) % j = 0))) else none | _ => none) still_none (ds := rangeOf 2 1 255) fun d hd => by
      rw [ks] at hd
      obtain ⟨j, hj, rfl⟩ := List.mem_map.mp hd
      obtain ⟨i, hi, rfl⟩ := List.mem_map.mp hj
      have hi := List.mem_range.mp hi
      generalize hq : (2 + (i : Nat) * 1 : Int) = j
      have b : 2 ≤ j ∧ j < 257 := by omega
      unfold eltG
      by_cases h : j * j ≤ p
      · simp (disch := omega) only [Int.natCast_zero, Int.natCast_one, Int.cast_ofNat_Int, Int.reduceEq, Int.reduceLT, Int.reduceLE, decide_true, decide_false, List.length_cons, List.length_nil, List.set_set, List.map_cons, List.map_nil, List.replicate_zero, List.replicate_succ, List.cons_append, List.nil_append, List.getElem?_cons_zero, List.getElem?_cons_succ, List.set_cons_zero, List.set_cons_succ, Nat.reduceSub, Nat.reduceAdd, Bool.not_true, Bool.not_false, wipeE, bnd_ok, bnd_err, bnd_bad, on_ok, on_err, on_bad, sel_true, sel_false, slotR_val, fnR_fn, isR_val, negR_int, notR_bl, blSel_bl, optR_int, augR_val, thn_next, thn_ret, thn_err, thn_brk, thn_cont, again_next, again_cont, again_brk, again_ret, again_err, ctch_next, ctch_ret, ctch_err, fin_ret, fin_next, fin_err, okIf_t, e_slot, e_lit, e_globP, e_tup, e_lst, e_bin, e_neg, e_not, e_and, e_or, e_cmp, e_cmp2, e_ite, e_call, e_callv, e_bi, e_bic, e_isi, e_isiS, e_mth, e_ix, e_sl, e_rev, e_lc, o_none, o_some, es_nil, es_cons, b_val, b_not, b_and, b_or, b_yes, c_mk, i_seq, i_range1, i_range2, i_range3, i_enum, t_slot, t_tup, t_ix, ts_nil, ts_cons, s_asg, s_par, s_aug, s_for, s_while, s_if, s_ret, s_retN, s_expr, s_raise, s_try, s_brk, s_cont, s_pass, ss_nil, ss_cons, bin_add, bin_sub, bin_addS, bin_addT, bin_addL, bin_mulL, aug_add, aug_sub, eqS_int, eqS_bl, c_eq, c_ne, c_lt, c_le, c_gt, c_ge, c_isN, c_isntN, bi_one, bi_two, bi1_int, bi1_bl, bi1_str, bi1_tup, bi1_ref, bi2_int, biI_int, biB_int, biI_abs, biT_len, biT_tuple, biT_list, biL_len, biL_tuple, biL_list, biL_sum, biL_any, biL_all, biII_max, biII_min, truth_bl, truth_int, truth_tup, truth_non, seq_tup, ix_ref, ix_tup, sl_tup, sl_ref, set_ref, mt_app, it_tup, it_ref, it_r1, it_r2, noerr_err, atI_0, atI_1, atI_2, atI_3, atI_l, bin_modp, bin_divp, bin_mulp, ixN_40, ixN_41, ixN_42, ixN_43, isR_excP, pow_10_18, atI_cast, List.length_map, Res.noerr_ok, Res.noerr_bad, ofO_some, isi_tuple_tuple, isi_tuple_str, isi_tuple_int, isi_tuple_bool, isi_str_tuple, isi_str_str, isi_str_int, isi_str_bool, isi_int_tuple, isi_int_str, isi_int_int, isi_int_bool, isi_bool_tuple, isi_bool_str, isi_bool_int, isi_bool_bool, isi_NoneType_tuple, isi_NoneType_str, isi_NoneType_int, isi_NoneType_bool, q_F_F, q_F_P, q_F_Q, q_F_Z, q_P_F, q_P_P, q_P_Q, q_P_Z, q_Q_F, q_Q_P, q_Q_Q, q_Q_Z, q_R_F, q_R_P, q_R_Q, q_R_Z, q_Z_F, q_Z_P, q_Z_Q, q_Z_Z, h, decide_true, if_true]
      · simp (disch := omega) only [Int.natCast_zero, Int.natCast_one, Int.cast_ofNat_Int, Int.reduceEq, Int.reduceLT, Int.reduceLE, decide_true, decide_false, List.length_cons, List.length_nil, List.set_set, List.map_cons, List.map_nil, List.replicate_zero, List.replicate_succ, List.cons_append, List.nil_append, List.getElem?_cons_zero, List.getElem?_cons_succ, List.set_cons_zero, List.set_cons_succ, Nat.reduceSub, Nat.reduceAdd, Bool.not_true, Bool.not_false, wipeE, bnd_ok, bnd_err, bnd_bad, on_ok, on_err, on_bad, sel_true, sel_false, slotR_val, fnR_fn, isR_val, negR_int, notR_bl, blSel_bl, optR_int, augR_val, thn_next, thn_ret, thn_err, thn_brk, thn_cont, again_next, again_cont, again_brk, again_ret, again_err, ctch_next, ctch_ret, ctch_err, fin_ret, fin_next, fin_err, okIf_t, e_slot, e_lit, e_globP, e_tup, e_lst, e_bin, e_neg, e_not, e_and, e_or, e_cmp, e_cmp2, e_ite, e_call, e_callv, e_bi, e_bic, e_isi, e_isiS, e_mth, e_ix, e_sl, e_rev, e_lc, o_none, o_some, es_nil, es_cons, b_val, b_not, b_and, b_or, b_yes, c_mk, i_seq, i_range1, i_range2, i_range3, i_enum, t_slot, t_tup, t_ix, ts_nil, ts_cons, s_asg, s_par, s_aug, s_for, s_while, s_if, s_ret, s_retN, s_expr, s_raise, s_try, s_brk, s_cont, s_pass, ss_nil, ss_cons, bin_add, bin_sub, bin_addS, bin_addT, bin_addL, bin_mulL, aug_add, aug_sub, eqS_int, eqS_bl, c_eq, c_ne, c_lt, c_le, c_gt, c_ge, c_isN, c_isntN, bi_one, bi_two, bi1_int, bi1_bl, bi1_str, bi1_tup, bi1_ref, bi2_int, biI_int, biB_int, biI_abs, biT_len, biT_tuple, biT_list, biL_len, biL_tuple, biL_list, biL_sum, biL_any, biL_all, biII_max, biII_min, truth_bl, truth_int, truth_tup, truth_non, seq_tup, ix_ref, ix_tup, sl_tup, sl_ref, set_ref, mt_app, it_tup, it_ref, it_r1, it_r2, noerr_err, atI_0, atI_1, atI_2, atI_3, atI_l, bin_modp, bin_divp, bin_mulp, ixN_40, ixN_41, ixN_42, ixN_43, isR_excP, pow_10_18, atI_cast, List.length_map, Res.noerr_ok, Res.noerr_bad, ofO_some, isi_tuple_tuple, isi_tuple_str, isi_tuple_int, isi_tuple_bool, isi_str_tuple, isi_str_str, isi_str_int, isi_str_bool, isi_int_tuple, isi_int_str, isi_int_int, isi_int_bool, isi_bool_tuple, isi_bool_str, isi_bool_int, isi_bool_bool, isi_NoneType_tuple, isi_NoneType_str, isi_NoneType_int, isi_NoneType_bool, q_F_F, q_F_P, q_F_Q, q_F_Z, q_P_F, q_P_P, q_P_Q, q_P_Z, q_Q_F, q_Q_P, q_Q_Q, q_Q_Z, q_R_F, q_R_P, q_R_Q, q_R_Z, q_Z_F, q_Z_P, q_Z_Q, q_Z_Z, h, decide_false, if_false]
  have hl : (rangeOf 2 1 255).length ≤ sizeLine := by rw [range_length]; decide
  have fm : ∀ l : List Nat, ((l.map fun i => (2 + (i : Nat) * 1 : Int)).map D.int).filterMap (fun d => match d with | .int j => if j * j ≤ p then some (.bl (decide ((p : Int) % j = 0))) else none | _ => none) = (l.filterMap fun i => if (2 + i) * (2 + i) ≤ p then some (decide (p % (2 + i) = 0)) else none).map D.bl := by
    intro l
    induction l with
    | nil => rfl
    | cons i l ih =>
      rw [List.map_cons, List.map_cons, List.filterMap_cons, List.filterMap_cons, ih]
      have e0 : (2 + (i : Nat) * 1 : Int) = ((2 + i : Nat) : Int) := by omega
      rw [e0]
      have e1 : (((2 + i : Nat) : Int) * ((2 + i : Nat) : Int) ≤ (p : Int)) ↔ (2 + i) * (2 + i) ≤ p := by constructor <;> intro h <;> exact_mod_cast h
      have e2 : ((p : Int) % ((2 + i : Nat) : Int) = 0) ↔ p % (2 + i) = 0 := by constructor <;> intro h <;> exact_mod_cast h
      by_cases h : (2 + i) * (2 + i) ≤ p
      · simp only [e1, h, if_true, e2, List.map_cons]
      · simp only [e1, h, if_false]
  have any : ((List.range 255).filterMap fun i => if (2 + i) * (2 + i) ≤ p then some (decide (p % (2 + i) = 0)) else none).any id = !noDiv p := by
    rw [Bool.eq_iff_iff]
    constructor
    · intro h
      obtain ⟨b, hb, h1⟩ := List.any_eq_true.mp h
      obtain ⟨i, hi, h2⟩ := List.mem_filterMap.mp hb
      split at h2 <;> cases h2
      rename_i h3
      have h4 : p % (2 + i) = 0 := of_decide_eq_true h1
      rw [Bool.not_eq_true']
      by_cases hn : noDiv p = true
      · exfalso
        have q := List.all_eq_true.mp hn (2 + i) (List.mem_range.mpr (by have := List.mem_range.mp hi; omega))
        simp only [Bool.or_eq_true, decide_eq_true_eq, bne_iff_ne] at q
        rcases q with (q | q) | q <;> omega
      · simpa using hn
    · intro h
      rw [Bool.not_eq_true'] at h
      by_cases hn : ∃ i, i < 255 ∧ (2 + i) * (2 + i) ≤ p ∧ p % (2 + i) = 0
      · obtain ⟨i, h1, h2, h3⟩ := hn
        exact List.any_eq_true.mpr ⟨true, List.mem_filterMap.mpr ⟨i, List.mem_range.mpr h1, by rw [if_pos h2, h3]; rfl⟩, rfl⟩
      · exfalso
        have : noDiv p = true := noDiv_of fun k h1 h2 h3 h4 => hn ⟨k - 2, by omega, by rw [show 2 + (k - 2) = k by omega]; exact h3, by rw [show 2 + (k - 2) = k by omega]; exact h4⟩
        rw [this] at h
        cases h
  have r255 : ((257 : Int) - 2).toNat = 255 := rfl
  have hr : (-(2 ^ 62) ≤ (2 : Int) ∧ (2 : Int) < 2 ^ 62 ∧ -(2 ^ 62) ≤ (257 : Int) ∧ (257 : Int) < 2 ^ 62) := by decide
  rw [ks, fm] at gen
  rw [← ks] at gen
  simp (disch := omega) only [Int.natCast_zero, Int.natCast_one, Int.cast_ofNat_Int, Int.reduceEq, Int.reduceLT, Int.reduceLE, decide_true, decide_false, List.length_cons, List.length_nil, List.set_set, List.map_cons, List.map_nil, List.replicate_zero, List.replicate_succ, List.cons_append, List.nil_append, List.getElem?_cons_zero, List.getElem?_cons_succ, List.set_cons_zero, List.set_cons_succ, Nat.reduceSub, Nat.reduceAdd, Bool.not_true, Bool.not_false, wipeE, bnd_ok, bnd_err, bnd_bad, on_ok, on_err, on_bad, sel_true, sel_false, slotR_val, fnR_fn, isR_val, negR_int, notR_bl, blSel_bl, optR_int, augR_val, thn_next, thn_ret, thn_err, thn_brk, thn_cont, again_next, again_cont, again_brk, again_ret, again_err, ctch_next, ctch_ret, ctch_err, fin_ret, fin_next, fin_err, okIf_t, e_slot, e_lit, e_globP, e_tup, e_lst, e_bin, e_neg, e_not, e_and, e_or, e_cmp, e_cmp2, e_ite, e_call, e_callv, e_bi, e_bic, e_isi, e_isiS, e_mth, e_ix, e_sl, e_rev, e_lc, o_none, o_some, es_nil, es_cons, b_val, b_not, b_and, b_or, b_yes, c_mk, i_seq, i_range1, i_range2, i_range3, i_enum, t_slot, t_tup, t_ix, ts_nil, ts_cons, s_asg, s_par, s_aug, s_for, s_while, s_if, s_ret, s_retN, s_expr, s_raise, s_try, s_brk, s_cont, s_pass, ss_nil, ss_cons, bin_add, bin_sub, bin_addS, bin_addT, bin_addL, bin_mulL, aug_add, aug_sub, eqS_int, eqS_bl, c_eq, c_ne, c_lt, c_le, c_gt, c_ge, c_isN, c_isntN, bi_one, bi_two, bi1_int, bi1_bl, bi1_str, bi1_tup, bi1_ref, bi2_int, biI_int, biB_int, biI_abs, biT_len, biT_tuple, biT_list, biL_len, biL_tuple, biL_list, biL_sum, biL_any, biL_all, biII_max, biII_min, truth_bl, truth_int, truth_tup, truth_non, seq_tup, ix_ref, ix_tup, sl_tup, sl_ref, set_ref, mt_app, it_tup, it_ref, it_r1, it_r2, noerr_err, atI_0, atI_1, atI_2, atI_3, atI_l, bin_modp, bin_divp, bin_mulp, ixN_40, ixN_41, ixN_42, ixN_43, isR_excP, pow_10_18, atI_cast, List.length_map, Res.noerr_ok, Res.noerr_bad, ofO_some, isi_tuple_tuple, isi_tuple_str, isi_tuple_int, isi_tuple_bool, isi_str_tuple, isi_str_str, isi_str_int, isi_str_bool, isi_int_tuple, isi_int_str, isi_int_int, isi_int_bool, isi_bool_tuple, isi_bool_str, isi_bool_int, isi_bool_bool, isi_NoneType_tuple, isi_NoneType_str, isi_NoneType_int, isi_NoneType_bool, q_F_F, q_F_P, q_F_Q, q_F_Z, q_P_F, q_P_P, q_P_Q, q_P_Z, q_Q_F, q_Q_P, q_Q_Q, q_Q_Z, q_R_F, q_R_P, q_R_Q, q_R_Z, q_Z_F, q_Z_P, q_Z_Q, q_Z_Z, L_some_prime, nth, okIf, hr, and_self, if_true, r255, hl, gen, bools_map, any]
theorem some_loop {P : Prog} {k : Nat} {S : Store} {σ0 : SV} : ∀ (n p : Nat), 65521 - p ≤ n → 2 ≤ p → p ≤ 65521 → ∀ σ2 : SV, ∃ p' : Nat, 2 ≤ p' ∧ p' ≤ 65521 ∧ noDiv p' = true ∧ ∃ σ2', evS (P.ctx k) (nth 1 L_some_prime.body) [σ0, .val (.int p), σ2] S = .next [σ0, .val (.int p'), σ2'] S
  | n, p, hn, h2, h3, σ2 => by
    have e := some_test (P := P) (k := k) (S := S) (σ0 := σ0) (σ2 := σ2) h2 h3
    simp only [L_some_prime, nth] at e
    cases hd : noDiv p with
    | true =>
      refine ⟨p, h2, h3, hd, σ2, ?_⟩
      rw [hd] at e
      simp only [L_some_prime, nth, s_while]
      rw [loopG_eq, e]
      simp (disch := omega) only [Int.natCast_zero, Int.natCast_one, Int.cast_ofNat_Int, Int.reduceEq, Int.reduceLT, Int.reduceLE, decide_true, decide_false, List.length_cons, List.length_nil, List.set_set, List.map_cons, List.map_nil, List.replicate_zero, List.replicate_succ, List.cons_append, List.nil_append, List.getElem?_cons_zero, List.getElem?_cons_succ, List.set_cons_zero, List.set_cons_succ, Nat.reduceSub, Nat.reduceAdd, Bool.not_true, Bool.not_false, wipeE, bnd_ok, bnd_err, bnd_bad, on_ok, on_err, on_bad, sel_true, sel_false, slotR_val, fnR_fn, isR_val, negR_int, notR_bl, blSel_bl, optR_int, augR_val, thn_next, thn_ret, thn_err, thn_brk, thn_cont, again_next, again_cont, again_brk, again_ret, again_err, ctch_next, ctch_ret, ctch_err, fin_ret, fin_next, fin_err, okIf_t, e_slot, e_lit, e_globP, e_tup, e_lst, e_bin, e_neg, e_not, e_and, e_or, e_cmp, e_cmp2, e_ite, e_call, e_callv, e_bi, e_bic, e_isi, e_isiS, e_mth, e_ix, e_sl, e_rev, e_lc, o_none, o_some, es_nil, es_cons, b_val, b_not, b_and, b_or, b_yes, c_mk, i_seq, i_range1, i_range2, i_range3, i_enum, t_slot, t_tup, t_ix, ts_nil, ts_cons, s_asg, s_par, s_aug, s_for, s_while, s_if, s_ret, s_retN, s_expr, s_raise, s_try, s_brk, s_cont, s_pass, ss_nil, ss_cons, bin_add, bin_sub, bin_addS, bin_addT, bin_addL, bin_mulL, aug_add, aug_sub, eqS_int, eqS_bl, c_eq, c_ne, c_lt, c_le, c_gt, c_ge, c_isN, c_isntN, bi_one, bi_two, bi1_int, bi1_bl, bi1_str, bi1_tup, bi1_ref, bi2_int, biI_int, biB_int, biI_abs, biT_len, biT_tuple, biT_list, biL_len, biL_tuple, biL_list, biL_sum, biL_any, biL_all, biII_max, biII_min, truth_bl, truth_int, truth_tup, truth_non, seq_tup, ix_ref, ix_tup, sl_tup, sl_ref, set_ref, mt_app, it_tup, it_ref, it_r1, it_r2, noerr_err, atI_0, atI_1, atI_2, atI_3, atI_l, bin_modp, bin_divp, bin_mulp, ixN_40, ixN_41, ixN_42, ixN_43, isR_excP, pow_10_18, atI_cast, List.length_map, Res.noerr_ok, Res.noerr_bad, ofO_some, isi_tuple_tuple, isi_tuple_str, isi_tuple_int, isi_tuple_bool, isi_str_tuple, isi_str_str, isi_str_int, isi_str_bool, isi_int_tuple, isi_int_str, isi_int_int, isi_int_bool, isi_bool_tuple, isi_bool_str, isi_bool_int, isi_bool_bool, isi_NoneType_tuple, isi_NoneType_str, isi_NoneType_int, isi_NoneType_bool, q_F_F, q_F_P, q_F_Q, q_F_Z, q_P_F, q_P_P, q_P_Q, q_P_Z, q_Q_F, q_Q_P, q_Q_Q, q_Q_Z, q_R_F, q_R_P, q_R_Q, q_R_Z, q_Z_F, q_Z_P, q_Z_Q, q_Z_Z, ]
    | false =>
      have hne : p ≠ 65521 := fun h => by
        rw [h] at hd
        have : noDiv 65521 = true := by decide +kernel
        rw [this] at hd
        cases hd
      cases n with
      | zero => omega
      | succ n =>
        obtain ⟨p', b1, b2, b3, σ2', e2⟩ := some_loop (P := P) (k := k) (S := S) (σ0 := σ0) n (p + 1) (by omega) (by omega) (by omega) σ2
        refine ⟨p', b1, b2, b3, σ2', ?_⟩
        rw [hd] at e
        simp only [L_some_prime, nth, s_while] at e2 ⊢
        rw [loopG_eq, e]
        simp (disch := omega) only [Int.natCast_zero, Int.natCast_one, Int.cast_ofNat_Int, Int.reduceEq, Int.reduceLT, Int.reduceLE, decide_true, decide_false, List.length_cons, List.length_nil, List.set_set, List.map_cons, List.map_nil, List.replicate_zero, List.replicate_succ, List.cons_append, List.nil_append, List.getElem?_cons_zero, List.getElem?_cons_succ, List.set_cons_zero, List.set_cons_succ, Nat.reduceSub, Nat.reduceAdd, Bool.not_true, Bool.not_false, wipeE, bnd_ok, bnd_err, bnd_bad, on_ok, on_err, on_bad, sel_true, sel_false, slotR_val, fnR_fn, isR_val, negR_int, notR_bl, blSel_bl, optR_int, augR_val, thn_next, thn_ret, thn_err, thn_brk, thn_cont, again_next, again_cont, again_brk, again_ret, again_err, ctch_next, ctch_ret, ctch_err, fin_ret, fin_next, fin_err, okIf_t, e_slot, e_lit, e_globP, e_tup, e_lst, e_bin, e_neg, e_not, e_and, e_or, e_cmp, e_cmp2, e_ite, e_call, e_callv, e_bi, e_bic, e_isi, e_isiS, e_mth, e_ix, e_sl, e_rev, e_lc, o_none, o_some, es_nil, es_cons, b_val, b_not, b_and, b_or, b_yes, c_mk, i_seq, i_range1, i_range2, i_range3, i_enum, t_slot, t_tup, t_ix, ts_nil, ts_cons, s_asg, s_par, s_aug, s_for, s_while, s_if, s_ret, s_retN, s_expr, s_raise, s_try, s_brk, s_cont, s_pass, ss_nil, ss_cons, bin_add, bin_sub, bin_addS, bin_addT, bin_addL, bin_mulL, aug_add, aug_sub, eqS_int, eqS_bl, c_eq, c_ne, c_lt, c_le, c_gt, c_ge, c_isN, c_isntN, bi_one, bi_two, bi1_int, bi1_bl, bi1_str, bi1_tup, bi1_ref, bi2_int, biI_int, biB_int, biI_abs, biT_len, biT_tuple, biT_list, biL_len, biL_tuple, biL_list, biL_sum, biL_any, biL_all, biII_max, biII_min, truth_bl, truth_int, truth_tup, truth_non, seq_tup, ix_ref, ix_tup, sl_tup, sl_ref, set_ref, mt_app, it_tup, it_ref, it_r1, it_r2, noerr_err, atI_0, atI_1, atI_2, atI_3, atI_l, bin_modp, bin_divp, bin_mulp, ixN_40, ixN_41, ixN_42, ixN_43, isR_excP, pow_10_18, atI_cast, List.length_map, Res.noerr_ok, Res.noerr_bad, ofO_some, isi_tuple_tuple, isi_tuple_str, isi_tuple_int, isi_tuple_bool, isi_str_tuple, isi_str_str, isi_str_int, isi_str_bool, isi_int_tuple, isi_int_str, isi_int_int, isi_int_bool, isi_bool_tuple, isi_bool_str, isi_bool_int, isi_bool_bool, isi_NoneType_tuple, isi_NoneType_str, isi_NoneType_int, isi_NoneType_bool, q_F_F, q_F_P, q_F_Q, q_F_Z, q_P_F, q_P_P, q_P_Q, q_P_Z, q_Q_F, q_Q_P, q_Q_Q, q_Q_Z, q_R_F, q_R_P, q_R_Q, q_R_Z, q_Z_F, q_Z_P, q_Z_Q, q_Z_Z, ]
        exact e2
theorem some_prime_spec {P : Prog} {k : Nat} {S : Store} {c l0 T : Nat} (L : Lw P) (dr : Dr c l0 T S) (hT : T ≤ 900000) :
    ∃ (p : Int) (S' : Store), callF P (k + 3) 3 [.ref c] S = .ok (.int p) S' ∧ IsP p ∧ Dr c l0 (T + 1) S' ∧ Ext c S S' := by
  rw [callF_of L.h3 rfl]
  obtain ⟨d, S1, e1, b1, b2, dr1, ex1⟩ := take_spec (k := k) (many := 65520) L.h1 L.h2 dr (by omega) (by omega) (by omega)
  obtain ⟨p, q1, q2, q3, σ2', e2⟩ := some_loop (P := P) (k := k + 2) (S := S1) (σ0 := .val (.ref c)) 65521 (2 + d.toNat) (by omega) (by omega) (by omega) .no
  have e0 : ((2 + d.toNat : Nat) : Int) = 2 + d := by omega
  rw [e0] at e2
  simp only [L_some_prime, nth] at e2
  refine ⟨p, _, ?_, isP_of q1 q2 q3, (Dr.trim dr.lt dr1 ex1 (pure_int (i := p))).1, (Dr.trim dr.lt dr1 ex1 pure_int).2⟩
  simp only [L_some_prime, ss_cons]
  simp (disch := omega) only [Int.natCast_zero, Int.natCast_one, Int.cast_ofNat_Int, Int.reduceEq, Int.reduceLT, Int.reduceLE, decide_true, decide_false, List.length_cons, List.length_nil, List.set_set, List.map_cons, List.map_nil, List.replicate_zero, List.replicate_succ, List.cons_append, List.nil_append, List.getElem?_cons_zero, List.getElem?_cons_succ, List.set_cons_zero, List.set_cons_succ, Nat.reduceSub, Nat.reduceAdd, Bool.not_true, Bool.not_false, wipeE, bnd_ok, bnd_err, bnd_bad, on_ok, on_err, on_bad, sel_true, sel_false, slotR_val, fnR_fn, isR_val, negR_int, notR_bl, blSel_bl, optR_int, augR_val, thn_next, thn_ret, thn_err, thn_brk, thn_cont, again_next, again_cont, again_brk, again_ret, again_err, ctch_next, ctch_ret, ctch_err, fin_ret, fin_next, fin_err, okIf_t, e_slot, e_lit, e_globP, e_tup, e_lst, e_bin, e_neg, e_not, e_and, e_or, e_cmp, e_cmp2, e_ite, e_call, e_callv, e_bi, e_bic, e_isi, e_isiS, e_mth, e_ix, e_sl, e_rev, e_lc, o_none, o_some, es_nil, es_cons, b_val, b_not, b_and, b_or, b_yes, c_mk, i_seq, i_range1, i_range2, i_range3, i_enum, t_slot, t_tup, t_ix, ts_nil, ts_cons, s_asg, s_par, s_aug, s_for, s_while, s_if, s_ret, s_retN, s_expr, s_raise, s_try, s_brk, s_cont, s_pass, ss_nil, ss_cons, bin_add, bin_sub, bin_addS, bin_addT, bin_addL, bin_mulL, aug_add, aug_sub, eqS_int, eqS_bl, c_eq, c_ne, c_lt, c_le, c_gt, c_ge, c_isN, c_isntN, bi_one, bi_two, bi1_int, bi1_bl, bi1_str, bi1_tup, bi1_ref, bi2_int, biI_int, biB_int, biI_abs, biT_len, biT_tuple, biT_list, biL_len, biL_tuple, biL_list, biL_sum, biL_any, biL_all, biII_max, biII_min, truth_bl, truth_int, truth_tup, truth_non, seq_tup, ix_ref, ix_tup, sl_tup, sl_ref, set_ref, mt_app, it_tup, it_ref, it_r1, it_r2, noerr_err, atI_0, atI_1, atI_2, atI_3, atI_l, bin_modp, bin_divp, bin_mulp, ixN_40, ixN_41, ixN_42, ixN_43, isR_excP, pow_10_18, atI_cast, List.length_map, Res.noerr_ok, Res.noerr_bad, ofO_some, isi_tuple_tuple, isi_tuple_str, isi_tuple_int, isi_tuple_bool, isi_str_tuple, isi_str_str, isi_str_int, isi_str_bool, isi_int_tuple, isi_int_str, isi_int_int, isi_int_bool, isi_bool_tuple, isi_bool_str, isi_bool_int, isi_bool_bool, isi_NoneType_tuple, isi_NoneType_str, isi_NoneType_int, isi_NoneType_bool, q_F_F, q_F_P, q_F_Q, q_F_Z, q_P_F, q_P_P, q_P_Q, q_P_Z, q_Q_F, q_Q_P, q_Q_Q, q_Q_Z, q_R_F, q_R_P, q_R_Q, q_R_Z, q_Z_F, q_Z_P, q_Z_Q, q_Z_Z, e1]
  simp only [s_while] at e2
  rw [e2]
  simp (disch := omega) only [Int.natCast_zero, Int.natCast_one, Int.cast_ofNat_Int, Int.reduceEq, Int.reduceLT, Int.reduceLE, decide_true, decide_false, List.length_cons, List.length_nil, List.set_set, List.map_cons, List.map_nil, List.replicate_zero, List.replicate_succ, List.cons_append, List.nil_append, List.getElem?_cons_zero, List.getElem?_cons_succ, List.set_cons_zero, List.set_cons_succ, Nat.reduceSub, Nat.reduceAdd, Bool.not_true, Bool.not_false, wipeE, bnd_ok, bnd_err, bnd_bad, on_ok, on_err, on_bad, sel_true, sel_false, slotR_val, fnR_fn, isR_val, negR_int, notR_bl, blSel_bl, optR_int, augR_val, thn_next, thn_ret, thn_err, thn_brk, thn_cont, again_next, again_cont, again_brk, again_ret, again_err, ctch_next, ctch_ret, ctch_err, fin_ret, fin_next, fin_err, okIf_t, e_slot, e_lit, e_globP, e_tup, e_lst, e_bin, e_neg, e_not, e_and, e_or, e_cmp, e_cmp2, e_ite, e_call, e_callv, e_bi, e_bic, e_isi, e_isiS, e_mth, e_ix, e_sl, e_rev, e_lc, o_none, o_some, es_nil, es_cons, b_val, b_not, b_and, b_or, b_yes, c_mk, i_seq, i_range1, i_range2, i_range3, i_enum, t_slot, t_tup, t_ix, ts_nil, ts_cons, s_asg, s_par, s_aug, s_for, s_while, s_if, s_ret, s_retN, s_expr, s_raise, s_try, s_brk, s_cont, s_pass, ss_nil, ss_cons, bin_add, bin_sub, bin_addS, bin_addT, bin_addL, bin_mulL, aug_add, aug_sub, eqS_int, eqS_bl, c_eq, c_ne, c_lt, c_le, c_gt, c_ge, c_isN, c_isntN, bi_one, bi_two, bi1_int, bi1_bl, bi1_str, bi1_tup, bi1_ref, bi2_int, biI_int, biB_int, biI_abs, biT_len, biT_tuple, biT_list, biL_len, biL_tuple, biL_list, biL_sum, biL_any, biL_all, biII_max, biII_min, truth_bl, truth_int, truth_tup, truth_non, seq_tup, ix_ref, ix_tup, sl_tup, sl_ref, set_ref, mt_app, it_tup, it_ref, it_r1, it_r2, noerr_err, atI_0, atI_1, atI_2, atI_3, atI_l, bin_modp, bin_divp, bin_mulp, ixN_40, ixN_41, ixN_42, ixN_43, isR_excP, pow_10_18, atI_cast, List.length_map, Res.noerr_ok, Res.noerr_bad, ofO_some, isi_tuple_tuple, isi_tuple_str, isi_tuple_int, isi_tuple_bool, isi_str_tuple, isi_str_str, isi_str_int, isi_str_bool, isi_int_tuple, isi_int_str, isi_int_int, isi_int_bool, isi_bool_tuple, isi_bool_str, isi_bool_int, isi_bool_bool, isi_NoneType_tuple, isi_NoneType_str, isi_NoneType_int, isi_NoneType_bool, q_F_F, q_F_P, q_F_Q, q_F_Z, q_P_F, q_P_P, q_P_Q, q_P_Z, q_Q_F, q_Q_P, q_Q_Q, q_Q_Z, q_R_F, q_R_P, q_R_Q, q_R_Z, q_Z_F, q_Z_P, q_Z_Q, q_Z_Z, ]
theorem field_spec {P : Prog} {k : Nat} {S : Store} {c l0 T : Nat} (L : Lw P) (dr : Dr c l0 T S) (hT : T ≤ 800000) :
    ∃ (f : D) (S' : Store), callF P (k + 4) 4 [.ref c] S = .ok f S' ∧ IsF f ∧ Dr c l0 (T + 2) S' ∧ Ext c S S' := by
  rw [callF_of L.h4 rfl]
  have dr0 := dr.app [.lst [.int 2, .int 3, .int 5, .int 7, .int 11, .int 101, .int 65521]]
  obtain ⟨d, S1, e1, b1, b2, dr1, ex1⟩ := take_spec (k := k + 1) (many := 14) L.h1 L.h2 dr0 (by omega) (by omega) (by omega)
  have ex : Ext c S S1 := (Ext.app _).trans ex1
  have hne : S.length ≠ c := by have := dr.lt.1; omega
  have hs := seq_lst (ex1.at hne (show (S ++ [.lst [.int 2, .int 3, .int 5, .int 7, .int 11, .int 101, .int 65521]])[S.length]? = some _ by rw [List.getElem?_append_right (Nat.le_refl _), Nat.sub_self]; rfl))
  by_cases h4 : d < 4
  · have hpu : (D.tup [.str "Q"]).pure = true := by unfold D.pure D.pures D.pures D.pure; rfl
    simp (disch := omega) only [Int.natCast_zero, Int.natCast_one, Int.cast_ofNat_Int, Int.reduceEq, Int.reduceLT, Int.reduceLE, decide_true, decide_false, List.length_cons, List.length_nil, List.set_set, List.map_cons, List.map_nil, List.replicate_zero, List.replicate_succ, List.cons_append, List.nil_append, List.getElem?_cons_zero, List.getElem?_cons_succ, List.set_cons_zero, List.set_cons_succ, Nat.reduceSub, Nat.reduceAdd, Bool.not_true, Bool.not_false, wipeE, bnd_ok, bnd_err, bnd_bad, on_ok, on_err, on_bad, sel_true, sel_false, slotR_val, fnR_fn, isR_val, negR_int, notR_bl, blSel_bl, optR_int, augR_val, thn_next, thn_ret, thn_err, thn_brk, thn_cont, again_next, again_cont, again_brk, again_ret, again_err, ctch_next, ctch_ret, ctch_err, fin_ret, fin_next, fin_err, okIf_t, e_slot, e_lit, e_globP, e_tup, e_lst, e_bin, e_neg, e_not, e_and, e_or, e_cmp, e_cmp2, e_ite, e_call, e_callv, e_bi, e_bic, e_isi, e_isiS, e_mth, e_ix, e_sl, e_rev, e_lc, o_none, o_some, es_nil, es_cons, b_val, b_not, b_and, b_or, b_yes, c_mk, i_seq, i_range1, i_range2, i_range3, i_enum, t_slot, t_tup, t_ix, ts_nil, ts_cons, s_asg, s_par, s_aug, s_for, s_while, s_if, s_ret, s_retN, s_expr, s_raise, s_try, s_brk, s_cont, s_pass, ss_nil, ss_cons, bin_add, bin_sub, bin_addS, bin_addT, bin_addL, bin_mulL, aug_add, aug_sub, eqS_int, eqS_bl, c_eq, c_ne, c_lt, c_le, c_gt, c_ge, c_isN, c_isntN, bi_one, bi_two, bi1_int, bi1_bl, bi1_str, bi1_tup, bi1_ref, bi2_int, biI_int, biB_int, biI_abs, biT_len, biT_tuple, biT_list, biL_len, biL_tuple, biL_list, biL_sum, biL_any, biL_all, biII_max, biII_min, truth_bl, truth_int, truth_tup, truth_non, seq_tup, ix_ref, ix_tup, sl_tup, sl_ref, set_ref, mt_app, it_tup, it_ref, it_r1, it_r2, noerr_err, atI_0, atI_1, atI_2, atI_3, atI_l, bin_modp, bin_divp, bin_mulp, ixN_40, ixN_41, ixN_42, ixN_43, isR_excP, pow_10_18, atI_cast, List.length_map, Res.noerr_ok, Res.noerr_bad, ofO_some, isi_tuple_tuple, isi_tuple_str, isi_tuple_int, isi_tuple_bool, isi_str_tuple, isi_str_str, isi_str_int, isi_str_bool, isi_int_tuple, isi_int_str, isi_int_int, isi_int_bool, isi_bool_tuple, isi_bool_str, isi_bool_int, isi_bool_bool, isi_NoneType_tuple, isi_NoneType_str, isi_NoneType_int, isi_NoneType_bool, q_F_F, q_F_P, q_F_Q, q_F_Z, q_P_F, q_P_P, q_P_Q, q_P_Z, q_Q_F, q_Q_P, q_Q_Q, q_Q_Z, q_R_F, q_R_P, q_R_Q, q_R_Z, q_Z_F, q_Z_P, q_Z_Q, q_Z_Z, L_field, e1, h4, decide_true]
    exact ⟨_, _, rfl, .inl rfl, (Dr.trim dr.lt (dr1.le (by omega)) ex hpu).1, (Dr.trim dr.lt dr1 ex hpu).2⟩
  · have fpu : ∀ p : Int, (D.tup [.str "F", .int p]).pure = true := fun p => by unfold D.pure D.pures D.pures D.pures D.pure; rfl
    by_cases h10 : (10 : Int) < d
    · obtain ⟨p, S2, e2, hp, dr2, ex2⟩ := some_prime_spec (k := k) L dr1 (by omega)
      simp (disch := omega) only [Int.natCast_zero, Int.natCast_one, Int.cast_ofNat_Int, Int.reduceEq, Int.reduceLT, Int.reduceLE, decide_true, decide_false, List.length_cons, List.length_nil, List.set_set, List.map_cons, List.map_nil, List.replicate_zero, List.replicate_succ, List.cons_append, List.nil_append, List.getElem?_cons_zero, List.getElem?_cons_succ, List.set_cons_zero, List.set_cons_succ, Nat.reduceSub, Nat.reduceAdd, Bool.not_true, Bool.not_false, wipeE, bnd_ok, bnd_err, bnd_bad, on_ok, on_err, on_bad, sel_true, sel_false, slotR_val, fnR_fn, isR_val, negR_int, notR_bl, blSel_bl, optR_int, augR_val, thn_next, thn_ret, thn_err, thn_brk, thn_cont, again_next, again_cont, again_brk, again_ret, again_err, ctch_next, ctch_ret, ctch_err, fin_ret, fin_next, fin_err, okIf_t, e_slot, e_lit, e_globP, e_tup, e_lst, e_bin, e_neg, e_not, e_and, e_or, e_cmp, e_cmp2, e_ite, e_call, e_callv, e_bi, e_bic, e_isi, e_isiS, e_mth, e_ix, e_sl, e_rev, e_lc, o_none, o_some, es_nil, es_cons, b_val, b_not, b_and, b_or, b_yes, c_mk, i_seq, i_range1, i_range2, i_range3, i_enum, t_slot, t_tup, t_ix, ts_nil, ts_cons, s_asg, s_par, s_aug, s_for, s_while, s_if, s_ret, s_retN, s_expr, s_raise, s_try, s_brk, s_cont, s_pass, ss_nil, ss_cons, bin_add, bin_sub, bin_addS, bin_addT, bin_addL, bin_mulL, aug_add, aug_sub, eqS_int, eqS_bl, c_eq, c_ne, c_lt, c_le, c_gt, c_ge, c_isN, c_isntN, bi_one, bi_two, bi1_int, bi1_bl, bi1_str, bi1_tup, bi1_ref, bi2_int, biI_int, biB_int, biI_abs, biT_len, biT_tuple, biT_list, biL_len, biL_tuple, biL_list, biL_sum, biL_any, biL_all, biII_max, biII_min, truth_bl, truth_int, truth_tup, truth_non, seq_tup, ix_ref, ix_tup, sl_tup, sl_ref, set_ref, mt_app, it_tup, it_ref, it_r1, it_r2, noerr_err, atI_0, atI_1, atI_2, atI_3, atI_l, bin_modp, bin_divp, bin_mulp, ixN_40, ixN_41, ixN_42, ixN_43, isR_excP, pow_10_18, atI_cast, List.length_map, Res.noerr_ok, Res.noerr_bad, ofO_some, isi_tuple_tuple, isi_tuple_str, isi_tuple_int, isi_tuple_bool, isi_str_tuple, isi_str_str, isi_str_int, isi_str_bool, isi_int_tuple, isi_int_str, isi_int_int, isi_int_bool, isi_bool_tuple, isi_bool_str, isi_bool_int, isi_bool_bool, isi_NoneType_tuple, isi_NoneType_str, isi_NoneType_int, isi_NoneType_bool, q_F_F, q_F_P, q_F_Q, q_F_Z, q_P_F, q_P_P, q_P_Q, q_P_Z, q_Q_F, q_Q_P, q_Q_Q, q_Q_Z, q_R_F, q_R_P, q_R_Q, q_R_Z, q_Z_F, q_Z_P, q_Z_Q, q_Z_Z, L_field, e1, h4, h10, decide_true, decide_false, e2]
      exact ⟨_, _, rfl, .inr ⟨p, hp, rfl⟩, (Dr.trim dr.lt dr2 (ex.trans ex2) (fpu p)).1, (Dr.trim dr.lt dr2 (ex.trans ex2) (fpu p)).2⟩
    · have hi : ∃ p : Int, IsP p ∧ L2.atI [D.int 2, .int 3, .int 5, .int 7, .int 11, .int 101, .int 65521] (d - 4) = some (.int p) := by
        rw [atI_of (by omega)]
        have : (d - 4).toNat = 0 ∨ (d - 4).toNat = 1 ∨ (d - 4).toNat = 2 ∨ (d - 4).toNat = 3 ∨ (d - 4).toNat = 4 ∨ (d - 4).toNat = 5 ∨ (d - 4).toNat = 6 := by omega
        have t : ∀ p : Nat, 2 ≤ p → p ≤ 65521 → noDiv p = true → IsP (p : Int) := fun p a b c => isP_of a b c
        rcases this with h | h | h | h | h | h | h <;> rw [h]
        · exact ⟨2, t 2 (by decide) (by decide) (by decide +kernel), rfl⟩
        · exact ⟨3, t 3 (by decide) (by decide) (by decide +kernel), rfl⟩
        · exact ⟨5, t 5 (by decide) (by decide) (by decide +kernel), rfl⟩
        · exact ⟨7, t 7 (by decide) (by decide) (by decide +kernel), rfl⟩
        · exact ⟨11, t 11 (by decide) (by decide) (by decide +kernel), rfl⟩
        · exact ⟨101, t 101 (by decide) (by decide) (by decide +kernel), rfl⟩
        · exact ⟨65521, t 65521 (by decide) (by decide) (by decide +kernel), rfl⟩
      obtain ⟨p, hp, hi⟩ := hi
      simp (disch := omega) only [Int.natCast_zero, Int.natCast_one, Int.cast_ofNat_Int, Int.reduceEq, Int.reduceLT, Int.reduceLE, decide_true, decide_false, List.length_cons, List.length_nil, List.set_set, List.map_cons, List.map_nil, List.replicate_zero, List.replicate_succ, List.cons_append, List.nil_append, List.getElem?_cons_zero, List.getElem?_cons_succ, List.set_cons_zero, List.set_cons_succ, Nat.reduceSub, Nat.reduceAdd, Bool.not_true, Bool.not_false, wipeE, bnd_ok, bnd_err, bnd_bad, on_ok, on_err, on_bad, sel_true, sel_false, slotR_val, fnR_fn, isR_val, negR_int, notR_bl, blSel_bl, optR_int, augR_val, thn_next, thn_ret, thn_err, thn_brk, thn_cont, again_next, again_cont, again_brk, again_ret, again_err, ctch_next, ctch_ret, ctch_err, fin_ret, fin_next, fin_err, okIf_t, e_slot, e_lit, e_globP, e_tup, e_lst, e_bin, e_neg, e_not, e_and, e_or, e_cmp, e_cmp2, e_ite, e_call, e_callv, e_bi, e_bic, e_isi, e_isiS, e_mth, e_ix, e_sl, e_rev, e_lc, o_none, o_some, es_nil, es_cons, b_val, b_not, b_and, b_or, b_yes, c_mk, i_seq, i_range1, i_range2, i_range3, i_enum, t_slot, t_tup, t_ix, ts_nil, ts_cons, s_asg, s_par, s_aug, s_for, s_while, s_if, s_ret, s_retN, s_expr, s_raise, s_try, s_brk, s_cont, s_pass, ss_nil, ss_cons, bin_add, bin_sub, bin_addS, bin_addT, bin_addL, bin_mulL, aug_add, aug_sub, eqS_int, eqS_bl, c_eq, c_ne, c_lt, c_le, c_gt, c_ge, c_isN, c_isntN, bi_one, bi_two, bi1_int, bi1_bl, bi1_str, bi1_tup, bi1_ref, bi2_int, biI_int, biB_int, biI_abs, biT_len, biT_tuple, biT_list, biL_len, biL_tuple, biL_list, biL_sum, biL_any, biL_all, biII_max, biII_min, truth_bl, truth_int, truth_tup, truth_non, seq_tup, ix_ref, ix_tup, sl_tup, sl_ref, set_ref, mt_app, it_tup, it_ref, it_r1, it_r2, noerr_err, atI_0, atI_1, atI_2, atI_3, atI_l, bin_modp, bin_divp, bin_mulp, ixN_40, ixN_41, ixN_42, ixN_43, isR_excP, pow_10_18, atI_cast, List.length_map, Res.noerr_ok, Res.noerr_bad, ofO_some, isi_tuple_tuple, isi_tuple_str, isi_tuple_int, isi_tuple_bool, isi_str_tuple, isi_str_str, isi_str_int, isi_str_bool, isi_int_tuple, isi_int_str, isi_int_int, isi_int_bool, isi_bool_tuple, isi_bool_str, isi_bool_int, isi_bool_bool, isi_NoneType_tuple, isi_NoneType_str, isi_NoneType_int, isi_NoneType_bool, q_F_F, q_F_P, q_F_Q, q_F_Z, q_P_F, q_P_P, q_P_Q, q_P_Z, q_Q_F, q_Q_P, q_Q_Q, q_Q_Z, q_R_F, q_R_P, q_R_Q, q_R_Z, q_Z_F, q_Z_P, q_Z_Q, q_Z_Z, L_field, e1, h4, h10, decide_false, hs, hi]
      exact ⟨_, _, rfl, .inr ⟨p, hp, rfl⟩, (Dr.trim dr.lt (dr1.le (by omega)) ex (fpu p)).1, (Dr.trim dr.lt dr1 ex (fpu p)).2⟩
end EV

/-! what the program asks first -/
namespace EV
open PySem
def F_is_integer : Fn := ⟨1, 1,
  (.cons (.ret (.and (.isiS 0 (.ty "int")) (.not (.isiS 0 (.ty "bool")))))
  .nil)⟩
def F_is_prime : Fn := ⟨1, 2,
  (.cons (.ite (.val (.cmp .Lt (.slot 0) (.lit (.int 4)))) (.cons (.ret (.cmp .Gt (.slot 0) (.lit (.int 1))))
   .nil) .nil)
  (.cons (.ite (.val (.cmp .Eq (.bin .Mod (.slot 0) (.lit (.int 2))) (.lit (.int 0)))) (.cons (.ret (.lit (.bl false)))
   .nil) .nil)
  (.cons (.asg (.slot 1) (.lit (.int 3)))
  (.cons (.whileS (.val (.cmp .LtE (.bin .Mult (.slot 1) (.slot 1)) (.slot 0))) (.cons (.ite (.val (.cmp .Eq (.bin .Mod (.slot 0) (.slot 1)) (.lit (.int 0)))) (.cons (.ret (.lit (.bl false)))
    .nil) .nil)
   (.cons (.aug 1 .Add (.lit (.int 2)))
   .nil)))
  (.cons (.ret (.lit (.bl true)))
  .nil)))))⟩
def F_is_field : Fn := ⟨1, 1,
  (.cons (.ite (.or (.not (.val (.isiS 0 (.ty "tuple")))) (.or (.val (.cmp .Eq (.bi .len (.cons (.slot 0) .nil)) (.lit (.int 0)))) (.not (.val (.isi (.ix (.slot 0) (.lit (.int 0))) (.ty "str")))))) (.cons (.ret (.lit (.bl false)))
   .nil) .nil)
  (.cons (.ite (.val (.cmp .Eq (.ix (.slot 0) (.lit (.int 0))) (.lit (.str "Q")))) (.cons (.ret (.cmp .Eq (.bi .len (.cons (.slot 0) .nil)) (.lit (.int 1))))
   .nil) .nil)
  (.cons (.ret (.and (.cmp .Eq (.ix (.slot 0) (.lit (.int 0))) (.lit (.str "F"))) (.and (.cmp .Eq (.bi .len (.cons (.slot 0) .nil)) (.lit (.int 2))) (.and (.call 15 (.cons (.ix (.slot 0) (.lit (.int 1))) .nil)) (.and (.cmp2 .Lt .LtE (.lit (.int 1)) (.ix (.slot 0) (.lit (.int 1))) (.glob 0)) (.call 16 (.cons (.ix (.slot 0) (.lit (.int 1))) .nil)))))))
  .nil)))⟩
def F_need_field : Fn := ⟨1, 1,
  (.cons (.ite (.not (.val (.call 17 (.cons (.slot 0) .nil)))) (.cons (.raise 1 none)
   .nil) .nil)
  .nil)⟩
def F_need_shape : Fn := ⟨1, 1,
  (.cons (.ite (.not (.val (.slot 0))) (.cons (.raise 2 none)
   .nil) .nil)
  .nil)⟩
def F_need_square : Fn := ⟨1, 1,
  (.cons (.expr (.call 19 (.cons (.cmp .Eq (.ix (.slot 0) (.lit (.int 0))) (.ix (.slot 0) (.lit (.int 1)))) .nil)))
  .nil)⟩
structure Lf (P : Prog) : Prop where
  h15 : P.fns 15 = some F_is_integer
  h16 : P.fns 16 = some F_is_prime
  h17 : P.fns 17 = some F_is_field
  h18 : P.fns 18 = some F_need_field
  h19 : P.fns 19 = some F_need_shape
  h20 : P.fns 20 = some F_need_square
  g0 : P.globs 0 = .int 65521
theorem prime_loop {P : Prog} {k : Nat} {S : Store} {p : Int} (hp : IsP p) : ∀ (n : Nat) (j : Int), (p - j).toNat ≤ n → 3 ≤ j → j ≤ 300 → ∃ j' : Int, evS (P.ctx k) (nth 3 F_is_prime.body) [.val (.int p), .val (.int j)] S = .next [.val (.int p), .val (.int j')] S
  | n, j, hn, hj, hj2 => by
    by_cases h : j * j ≤ p
    · have h256 : j < 256 := by
        by_cases hc : j < 256
        · exact hc
        · have := hp.2.1
          have : 256 * 256 ≤ j * j := Int.mul_le_mul (by omega) (by omega) (by omega) (by omega)
          omega
      have hlt : j < p := by
        have : j * 3 ≤ j * j := Int.mul_le_mul_of_nonneg_left hj (by omega)
        omega
      have hz : (p % j = 0) = False := eq_false (hp.2.2 j (by omega) h)
      have hb := hp.2.1
      cases n with
      | zero => omega
      | succ n =>
        obtain ⟨j', e⟩ := prime_loop hp n (j + 2) (by omega) (by omega) (by omega)
        refine ⟨j', ?_⟩
        simp only [F_is_prime, nth, s_while] at e ⊢
        rw [loopG_eq]
        simp (disch := omega) only [Int.natCast_zero, Int.natCast_one, Int.cast_ofNat_Int, Int.reduceEq, Int.reduceLT, Int.reduceLE, decide_true, decide_false, List.length_cons, List.length_nil, List.set_set, List.map_cons, List.map_nil, List.replicate_zero, List.replicate_succ, List.cons_append, List.nil_append, List.getElem?_cons_zero, List.getElem?_cons_succ, List.set_cons_zero, List.set_cons_succ, Nat.reduceSub, Nat.reduceAdd, Bool.not_true, Bool.not_false, wipeE, bnd_ok, bnd_err, bnd_bad, on_ok, on_err, on_bad, sel_true, sel_false, slotR_val, fnR_fn, isR_val, negR_int, notR_bl, blSel_bl, optR_int, augR_val, thn_next, thn_ret, thn_err, thn_brk, thn_cont, again_next, again_cont, again_brk, again_ret, again_err, ctch_next, ctch_ret, ctch_err, fin_ret, fin_next, fin_err, okIf_t, e_slot, e_lit, e_globP, e_tup, e_lst, e_bin, e_neg, e_not, e_and, e_or, e_cmp, e_cmp2, e_ite, e_call, e_callv, e_bi, e_bic, e_isi, e_isiS, e_mth, e_ix, e_sl, e_rev, e_lc, o_none, o_some, es_nil, es_cons, b_val, b_not, b_and, b_or, b_yes, c_mk, i_seq, i_range1, i_range2, i_range3, i_enum, t_slot, t_tup, t_ix, ts_nil, ts_cons, s_asg, s_par, s_aug, s_for, s_while, s_if, s_ret, s_retN, s_expr, s_raise, s_try, s_brk, s_cont, s_pass, ss_nil, ss_cons, bin_add, bin_sub, bin_addS, bin_addT, bin_addL, bin_mulL, aug_add, aug_sub, eqS_int, eqS_bl, c_eq, c_ne, c_lt, c_le, c_gt, c_ge, c_isN, c_isntN, bi_one, bi_two, bi1_int, bi1_bl, bi1_str, bi1_tup, bi1_ref, bi2_int, biI_int, biB_int, biI_abs, biT_len, biT_tuple, biT_list, biL_len, biL_tuple, biL_list, biL_sum, biL_any, biL_all, biII_max, biII_min, truth_bl, truth_int, truth_tup, truth_non, seq_tup, ix_ref, ix_tup, sl_tup, sl_ref, set_ref, mt_app, it_tup, it_ref, it_r1, it_r2, noerr_err, atI_0, atI_1, atI_2, atI_3, atI_l, bin_modp, bin_divp, bin_mulp, ixN_40, ixN_41, ixN_42, ixN_43, isR_excP, pow_10_18, atI_cast, List.length_map, Res.noerr_ok, Res.noerr_bad, ofO_some, isi_tuple_tuple, isi_tuple_str, isi_tuple_int, isi_tuple_bool, isi_str_tuple, isi_str_str, isi_str_int, isi_str_bool, isi_int_tuple, isi_int_str, isi_int_int, isi_int_bool, isi_bool_tuple, isi_bool_str, isi_bool_int, isi_bool_bool, isi_NoneType_tuple, isi_NoneType_str, isi_NoneType_int, isi_NoneType_bool, q_F_F, q_F_P, q_F_Q, q_F_Z, q_P_F, q_P_P, q_P_Q, q_P_Z, q_Q_F, q_Q_P, q_Q_Q, q_Q_Z, q_R_F, q_R_P, q_R_Q, q_R_Z, q_Z_F, q_Z_P, q_Z_Q, q_Z_Z, h, decide_true, hz, decide_false]
        exact e
    · have hb := hp.2.1
      refine ⟨j, ?_⟩
      simp only [F_is_prime, nth, s_while]
      rw [loopG_eq]
      simp (disch := omega) only [Int.natCast_zero, Int.natCast_one, Int.cast_ofNat_Int, Int.reduceEq, Int.reduceLT, Int.reduceLE, decide_true, decide_false, List.length_cons, List.length_nil, List.set_set, List.map_cons, List.map_nil, List.replicate_zero, List.replicate_succ, List.cons_append, List.nil_append, List.getElem?_cons_zero, List.getElem?_cons_succ, List.set_cons_zero, List.set_cons_succ, Nat.reduceSub, Nat.reduceAdd, Bool.not_true, Bool.not_false, wipeE, bnd_ok, bnd_err, bnd_bad, on_ok, on_err, on_bad, sel_true, sel_false, slotR_val, fnR_fn, isR_val, negR_int, notR_bl, blSel_bl, optR_int, augR_val, thn_next, thn_ret, thn_err, thn_brk, thn_cont, again_next, again_cont, again_brk, again_ret, again_err, ctch_next, ctch_ret, ctch_err, fin_ret, fin_next, fin_err, okIf_t, e_slot, e_lit, e_globP, e_tup, e_lst, e_bin, e_neg, e_not, e_and, e_or, e_cmp, e_cmp2, e_ite, e_call, e_callv, e_bi, e_bic, e_isi, e_isiS, e_mth, e_ix, e_sl, e_rev, e_lc, o_none, o_some, es_nil, es_cons, b_val, b_not, b_and, b_or, b_yes, c_mk, i_seq, i_range1, i_range2, i_range3, i_enum, t_slot, t_tup, t_ix, ts_nil, ts_cons, s_asg, s_par, s_aug, s_for, s_while, s_if, s_ret, s_retN, s_expr, s_raise, s_try, s_brk, s_cont, s_pass, ss_nil, ss_cons, bin_add, bin_sub, bin_addS, bin_addT, bin_addL, bin_mulL, aug_add, aug_sub, eqS_int, eqS_bl, c_eq, c_ne, c_lt, c_le, c_gt, c_ge, c_isN, c_isntN, bi_one, bi_two, bi1_int, bi1_bl, bi1_str, bi1_tup, bi1_ref, bi2_int, biI_int, biB_int, biI_abs, biT_len, biT_tuple, biT_list, biL_len, biL_tuple, biL_list, biL_sum, biL_any, biL_all, biII_max, biII_min, truth_bl, truth_int, truth_tup, truth_non, seq_tup, ix_ref, ix_tup, sl_tup, sl_ref, set_ref, mt_app, it_tup, it_ref, it_r1, it_r2, noerr_err, atI_0, atI_1, atI_2, atI_3, atI_l, bin_modp, bin_divp, bin_mulp, ixN_40, ixN_41, ixN_42, ixN_43, isR_excP, pow_10_18, atI_cast, List.length_map, Res.noerr_ok, Res.noerr_bad, ofO_some, isi_tuple_tuple, isi_tuple_str, isi_tuple_int, isi_tuple_bool, isi_str_tuple, isi_str_str, isi_str_int, isi_str_bool, isi_int_tuple, isi_int_str, isi_int_int, isi_int_bool, isi_bool_tuple, isi_bool_str, isi_bool_int, isi_bool_bool, isi_NoneType_tuple, isi_NoneType_str, isi_NoneType_int, isi_NoneType_bool, q_F_F, q_F_P, q_F_Q, q_F_Z, q_P_F, q_P_P, q_P_Q, q_P_Z, q_Q_F, q_Q_P, q_Q_Q, q_Q_Z, q_R_F, q_R_P, q_R_Q, q_R_Z, q_Z_F, q_Z_P, q_Z_Q, q_Z_Z, h, decide_false]
theorem is_prime_spec {P : Prog} {k : Nat} {S : Store} {p : Int} (L : Lf P) (hp : IsP p) : callF P (k + 1) 16 [.int p] S = .ok (.bl true) S := by
  rw [callF_of L.h16 rfl]
  have h2 := hp.1
  by_cases h4 : p < 4
  · have h1 : (1 : Int) < p := by omega
    simp (disch := omega) only [Int.natCast_zero, Int.natCast_one, Int.cast_ofNat_Int, Int.reduceEq, Int.reduceLT, Int.reduceLE, decide_true, decide_false, List.length_cons, List.length_nil, List.set_set, List.map_cons, List.map_nil, List.replicate_zero, List.replicate_succ, List.cons_append, List.nil_append, List.getElem?_cons_zero, List.getElem?_cons_succ, List.set_cons_zero, List.set_cons_succ, Nat.reduceSub, Nat.reduceAdd, Bool.not_true, Bool.not_false, wipeE, bnd_ok, bnd_err, bnd_bad, on_ok, on_err, on_bad, sel_true, sel_false, slotR_val, fnR_fn, isR_val, negR_int, notR_bl, blSel_bl, optR_int, augR_val, thn_next, thn_ret, thn_err, thn_brk, thn_cont, again_next, again_cont, again_brk, again_ret, again_err, ctch_next, ctch_ret, ctch_err, fin_ret, fin_next, fin_err, okIf_t, e_slot, e_lit, e_globP, e_tup, e_lst, e_bin, e_neg, e_not, e_and, e_or, e_cmp, e_cmp2, e_ite, e_call, e_callv, e_bi, e_bic, e_isi, e_isiS, e_mth, e_ix, e_sl, e_rev, e_lc, o_none, o_some, es_nil, es_cons, b_val, b_not, b_and, b_or, b_yes, c_mk, i_seq, i_range1, i_range2, i_range3, i_enum, t_slot, t_tup, t_ix, ts_nil, ts_cons, s_asg, s_par, s_aug, s_for, s_while, s_if, s_ret, s_retN, s_expr, s_raise, s_try, s_brk, s_cont, s_pass, ss_nil, ss_cons, bin_add, bin_sub, bin_addS, bin_addT, bin_addL, bin_mulL, aug_add, aug_sub, eqS_int, eqS_bl, c_eq, c_ne, c_lt, c_le, c_gt, c_ge, c_isN, c_isntN, bi_one, bi_two, bi1_int, bi1_bl, bi1_str, bi1_tup, bi1_ref, bi2_int, biI_int, biB_int, biI_abs, biT_len, biT_tuple, biT_list, biL_len, biL_tuple, biL_list, biL_sum, biL_any, biL_all, biII_max, biII_min, truth_bl, truth_int, truth_tup, truth_non, seq_tup, ix_ref, ix_tup, sl_tup, sl_ref, set_ref, mt_app, it_tup, it_ref, it_r1, it_r2, noerr_err, atI_0, atI_1, atI_2, atI_3, atI_l, bin_modp, bin_divp, bin_mulp, ixN_40, ixN_41, ixN_42, ixN_43, isR_excP, pow_10_18, atI_cast, List.length_map, Res.noerr_ok, Res.noerr_bad, ofO_some, isi_tuple_tuple, isi_tuple_str, isi_tuple_int, isi_tuple_bool, isi_str_tuple, isi_str_str, isi_str_int, isi_str_bool, isi_int_tuple, isi_int_str, isi_int_int, isi_int_bool, isi_bool_tuple, isi_bool_str, isi_bool_int, isi_bool_bool, isi_NoneType_tuple, isi_NoneType_str, isi_NoneType_int, isi_NoneType_bool, q_F_F, q_F_P, q_F_Q, q_F_Z, q_P_F, q_P_P, q_P_Q, q_P_Z, q_Q_F, q_Q_P, q_Q_Q, q_Q_Z, q_R_F, q_R_P, q_R_Q, q_R_Z, q_Z_F, q_Z_P, q_Z_Q, q_Z_Z, F_is_prime, h4, decide_true, h1, trim_self]
  · have hz : (p % 2 = 0) = False := eq_false (hp.2.2 2 (by omega) (by omega))
    obtain ⟨j', e⟩ := prime_loop (P := P) (k := k) (S := S) hp (p - 3).toNat 3 (Nat.le_refl _) (by omega) (by omega)
    simp only [F_is_prime, nth, s_while] at e
    simp (disch := omega) only [Int.natCast_zero, Int.natCast_one, Int.cast_ofNat_Int, Int.reduceEq, Int.reduceLT, Int.reduceLE, decide_true, decide_false, List.length_cons, List.length_nil, List.set_set, List.map_cons, List.map_nil, List.replicate_zero, List.replicate_succ, List.cons_append, List.nil_append, List.getElem?_cons_zero, List.getElem?_cons_succ, List.set_cons_zero, List.set_cons_succ, Nat.reduceSub, Nat.reduceAdd, Bool.not_true, Bool.not_false, wipeE, bnd_ok, bnd_err, bnd_bad, on_ok, on_err, on_bad, sel_true, sel_false, slotR_val, fnR_fn, isR_val, negR_int, notR_bl, blSel_bl, optR_int, augR_val, thn_next, thn_ret, thn_err, thn_brk, thn_cont, again_next, again_cont, again_brk, again_ret, again_err, ctch_next, ctch_ret, ctch_err, fin_ret, fin_next, fin_err, okIf_t, e_slot, e_lit, e_globP, e_tup, e_lst, e_bin, e_neg, e_not, e_and, e_or, e_cmp, e_cmp2, e_ite, e_call, e_callv, e_bi, e_bic, e_isi, e_isiS, e_mth, e_ix, e_sl, e_rev, e_lc, o_none, o_some, es_nil, es_cons, b_val, b_not, b_and, b_or, b_yes, c_mk, i_seq, i_range1, i_range2, i_range3, i_enum, t_slot, t_tup, t_ix, ts_nil, ts_cons, s_asg, s_par, s_aug, s_for, s_while, s_if, s_ret, s_retN, s_expr, s_raise, s_try, s_brk, s_cont, s_pass, ss_nil, ss_cons, bin_add, bin_sub, bin_addS, bin_addT, bin_addL, bin_mulL, aug_add, aug_sub, eqS_int, eqS_bl, c_eq, c_ne, c_lt, c_le, c_gt, c_ge, c_isN, c_isntN, bi_one, bi_two, bi1_int, bi1_bl, bi1_str, bi1_tup, bi1_ref, bi2_int, biI_int, biB_int, biI_abs, biT_len, biT_tuple, biT_list, biL_len, biL_tuple, biL_list, biL_sum, biL_any, biL_all, biII_max, biII_min, truth_bl, truth_int, truth_tup, truth_non, seq_tup, ix_ref, ix_tup, sl_tup, sl_ref, set_ref, mt_app, it_tup, it_ref, it_r1, it_r2, noerr_err, atI_0, atI_1, atI_2, atI_3, atI_l, bin_modp, bin_divp, bin_mulp, ixN_40, ixN_41, ixN_42, ixN_43, isR_excP, pow_10_18, atI_cast, List.length_map, Res.noerr_ok, Res.noerr_bad, ofO_some, isi_tuple_tuple, isi_tuple_str, isi_tuple_int, isi_tuple_bool, isi_str_tuple, isi_str_str, isi_str_int, isi_str_bool, isi_int_tuple, isi_int_str, isi_int_int, isi_int_bool, isi_bool_tuple, isi_bool_str, isi_bool_int, isi_bool_bool, isi_NoneType_tuple, isi_NoneType_str, isi_NoneType_int, isi_NoneType_bool, q_F_F, q_F_P, q_F_Q, q_F_Z, q_P_F, q_P_P, q_P_Q, q_P_Z, q_Q_F, q_Q_P, q_Q_Q, q_Q_Z, q_R_F, q_R_P, q_R_Q, q_R_Z, q_Z_F, q_Z_P, q_Z_Q, q_Z_Z, F_is_prime, h4, decide_false, hz, e, trim_self]
theorem is_field_spec {P : Prog} {k : Nat} {S : Store} {f : D} (L : Lf P) (hf : IsF f) : callF P (k + 2) 17 [f] S = .ok (.bl true) S := by
  rw [callF_of L.h17 rfl]
  rcases hf with rfl | ⟨p, hp, rfl⟩
  · simp (disch := omega) only [Int.natCast_zero, Int.natCast_one, Int.cast_ofNat_Int, Int.reduceEq, Int.reduceLT, Int.reduceLE, decide_true, decide_false, List.length_cons, List.length_nil, List.set_set, List.map_cons, List.map_nil, List.replicate_zero, List.replicate_succ, List.cons_append, List.nil_append, List.getElem?_cons_zero, List.getElem?_cons_succ, List.set_cons_zero, List.set_cons_succ, Nat.reduceSub, Nat.reduceAdd, Bool.not_true, Bool.not_false, wipeE, bnd_ok, bnd_err, bnd_bad, on_ok, on_err, on_bad, sel_true, sel_false, slotR_val, fnR_fn, isR_val, negR_int, notR_bl, blSel_bl, optR_int, augR_val, thn_next, thn_ret, thn_err, thn_brk, thn_cont, again_next, again_cont, again_brk, again_ret, again_err, ctch_next, ctch_ret, ctch_err, fin_ret, fin_next, fin_err, okIf_t, e_slot, e_lit, e_globP, e_tup, e_lst, e_bin, e_neg, e_not, e_and, e_or, e_cmp, e_cmp2, e_ite, e_call, e_callv, e_bi, e_bic, e_isi, e_isiS, e_mth, e_ix, e_sl, e_rev, e_lc, o_none, o_some, es_nil, es_cons, b_val, b_not, b_and, b_or, b_yes, c_mk, i_seq, i_range1, i_range2, i_range3, i_enum, t_slot, t_tup, t_ix, ts_nil, ts_cons, s_asg, s_par, s_aug, s_for, s_while, s_if, s_ret, s_retN, s_expr, s_raise, s_try, s_brk, s_cont, s_pass, ss_nil, ss_cons, bin_add, bin_sub, bin_addS, bin_addT, bin_addL, bin_mulL, aug_add, aug_sub, eqS_int, eqS_bl, c_eq, c_ne, c_lt, c_le, c_gt, c_ge, c_isN, c_isntN, bi_one, bi_two, bi1_int, bi1_bl, bi1_str, bi1_tup, bi1_ref, bi2_int, biI_int, biB_int, biI_abs, biT_len, biT_tuple, biT_list, biL_len, biL_tuple, biL_list, biL_sum, biL_any, biL_all, biII_max, biII_min, truth_bl, truth_int, truth_tup, truth_non, seq_tup, ix_ref, ix_tup, sl_tup, sl_ref, set_ref, mt_app, it_tup, it_ref, it_r1, it_r2, noerr_err, atI_0, atI_1, atI_2, atI_3, atI_l, bin_modp, bin_divp, bin_mulp, ixN_40, ixN_41, ixN_42, ixN_43, isR_excP, pow_10_18, atI_cast, List.length_map, Res.noerr_ok, Res.noerr_bad, ofO_some, isi_tuple_tuple, isi_tuple_str, isi_tuple_int, isi_tuple_bool, isi_str_tuple, isi_str_str, isi_str_int, isi_str_bool, isi_int_tuple, isi_int_str, isi_int_int, isi_int_bool, isi_bool_tuple, isi_bool_str, isi_bool_int, isi_bool_bool, isi_NoneType_tuple, isi_NoneType_str, isi_NoneType_int, isi_NoneType_bool, q_F_F, q_F_P, q_F_Q, q_F_Z, q_P_F, q_P_P, q_P_Q, q_P_Z, q_Q_F, q_Q_P, q_Q_Q, q_Q_Z, q_R_F, q_R_P, q_R_Q, q_R_Z, q_Z_F, q_Z_P, q_Z_Q, q_Z_Z, F_is_field, isR_val, trim_self]
  · have h1 : (1 : Int) < p := by have := hp.1; omega
    have h2 : p ≤ 65521 := hp.2.1
    have e15 : callF P (k + 1) 15 [.int p] S = .ok (.bl true) S := by
      rw [callF_of L.h15 rfl]
      simp (disch := omega) only [Int.natCast_zero, Int.natCast_one, Int.cast_ofNat_Int, Int.reduceEq, Int.reduceLT, Int.reduceLE, decide_true, decide_false, List.length_cons, List.length_nil, List.set_set, List.map_cons, List.map_nil, List.replicate_zero, List.replicate_succ, List.cons_append, List.nil_append, List.getElem?_cons_zero, List.getElem?_cons_succ, List.set_cons_zero, List.set_cons_succ, Nat.reduceSub, Nat.reduceAdd, Bool.not_true, Bool.not_false, wipeE, bnd_ok, bnd_err, bnd_bad, on_ok, on_err, on_bad, sel_true, sel_false, slotR_val, fnR_fn, isR_val, negR_int, notR_bl, blSel_bl, optR_int, augR_val, thn_next, thn_ret, thn_err, thn_brk, thn_cont, again_next, again_cont, again_brk, again_ret, again_err, ctch_next, ctch_ret, ctch_err, fin_ret, fin_next, fin_err, okIf_t, e_slot, e_lit, e_globP, e_tup, e_lst, e_bin, e_neg, e_not, e_and, e_or, e_cmp, e_cmp2, e_ite, e_call, e_callv, e_bi, e_bic, e_isi, e_isiS, e_mth, e_ix, e_sl, e_rev, e_lc, o_none, o_some, es_nil, es_cons, b_val, b_not, b_and, b_or, b_yes, c_mk, i_seq, i_range1, i_range2, i_range3, i_enum, t_slot, t_tup, t_ix, ts_nil, ts_cons, s_asg, s_par, s_aug, s_for, s_while, s_if, s_ret, s_retN, s_expr, s_raise, s_try, s_brk, s_cont, s_pass, ss_nil, ss_cons, bin_add, bin_sub, bin_addS, bin_addT, bin_addL, bin_mulL, aug_add, aug_sub, eqS_int, eqS_bl, c_eq, c_ne, c_lt, c_le, c_gt, c_ge, c_isN, c_isntN, bi_one, bi_two, bi1_int, bi1_bl, bi1_str, bi1_tup, bi1_ref, bi2_int, biI_int, biB_int, biI_abs, biT_len, biT_tuple, biT_list, biL_len, biL_tuple, biL_list, biL_sum, biL_any, biL_all, biII_max, biII_min, truth_bl, truth_int, truth_tup, truth_non, seq_tup, ix_ref, ix_tup, sl_tup, sl_ref, set_ref, mt_app, it_tup, it_ref, it_r1, it_r2, noerr_err, atI_0, atI_1, atI_2, atI_3, atI_l, bin_modp, bin_divp, bin_mulp, ixN_40, ixN_41, ixN_42, ixN_43, isR_excP, pow_10_18, atI_cast, List.length_map, Res.noerr_ok, Res.noerr_bad, ofO_some, isi_tuple_tuple, isi_tuple_str, isi_tuple_int, isi_tuple_bool, isi_str_tuple, isi_str_str, isi_str_int, isi_str_bool, isi_int_tuple, isi_int_str, isi_int_int, isi_int_bool, isi_bool_tuple, isi_bool_str, isi_bool_int, isi_bool_bool, isi_NoneType_tuple, isi_NoneType_str, isi_NoneType_int, isi_NoneType_bool, q_F_F, q_F_P, q_F_Q, q_F_Z, q_P_F, q_P_P, q_P_Q, q_P_Z, q_Q_F, q_Q_P, q_Q_Q, q_Q_Z, q_R_F, q_R_P, q_R_Q, q_R_Z, q_Z_F, q_Z_P, q_Z_Q, q_Z_Z, F_is_integer, isR_val, trim_self]
    simp (disch := omega) only [Int.natCast_zero, Int.natCast_one, Int.cast_ofNat_Int, Int.reduceEq, Int.reduceLT, Int.reduceLE, decide_true, decide_false, List.length_cons, List.length_nil, List.set_set, List.map_cons, List.map_nil, List.replicate_zero, List.replicate_succ, List.cons_append, List.nil_append, List.getElem?_cons_zero, List.getElem?_cons_succ, List.set_cons_zero, List.set_cons_succ, Nat.reduceSub, Nat.reduceAdd, Bool.not_true, Bool.not_false, wipeE, bnd_ok, bnd_err, bnd_bad, on_ok, on_err, on_bad, sel_true, sel_false, slotR_val, fnR_fn, isR_val, negR_int, notR_bl, blSel_bl, optR_int, augR_val, thn_next, thn_ret, thn_err, thn_brk, thn_cont, again_next, again_cont, again_brk, again_ret, again_err, ctch_next, ctch_ret, ctch_err, fin_ret, fin_next, fin_err, okIf_t, e_slot, e_lit, e_globP, e_tup, e_lst, e_bin, e_neg, e_not, e_and, e_or, e_cmp, e_cmp2, e_ite, e_call, e_callv, e_bi, e_bic, e_isi, e_isiS, e_mth, e_ix, e_sl, e_rev, e_lc, o_none, o_some, es_nil, es_cons, b_val, b_not, b_and, b_or, b_yes, c_mk, i_seq, i_range1, i_range2, i_range3, i_enum, t_slot, t_tup, t_ix, ts_nil, ts_cons, s_asg, s_par, s_aug, s_for, s_while, s_if, s_ret, s_retN, s_expr, s_raise, s_try, s_brk, s_cont, s_pass, ss_nil, ss_cons, bin_add, bin_sub, bin_addS, bin_addT, bin_addL, bin_mulL, aug_add, aug_sub, eqS_int, eqS_bl, c_eq, c_ne, c_lt, c_le, c_gt, c_ge, c_isN, c_isntN, bi_one, bi_two, bi1_int, bi1_bl, bi1_str, bi1_tup, bi1_ref, bi2_int, biI_int, biB_int, biI_abs, biT_len, biT_tuple, biT_list, biL_len, biL_tuple, biL_list, biL_sum, biL_any, biL_all, biII_max, biII_min, truth_bl, truth_int, truth_tup, truth_non, seq_tup, ix_ref, ix_tup, sl_tup, sl_ref, set_ref, mt_app, it_tup, it_ref, it_r1, it_r2, noerr_err, atI_0, atI_1, atI_2, atI_3, atI_l, bin_modp, bin_divp, bin_mulp, ixN_40, ixN_41, ixN_42, ixN_43, isR_excP, pow_10_18, atI_cast, List.length_map, Res.noerr_ok, Res.noerr_bad, ofO_some, isi_tuple_tuple, isi_tuple_str, isi_tuple_int, isi_tuple_bool, isi_str_tuple, isi_str_str, isi_str_int, isi_str_bool, isi_int_tuple, isi_int_str, isi_int_int, isi_int_bool, isi_bool_tuple, isi_bool_str, isi_bool_int, isi_bool_bool, isi_NoneType_tuple, isi_NoneType_str, isi_NoneType_int, isi_NoneType_bool, q_F_F, q_F_P, q_F_Q, q_F_Z, q_P_F, q_P_P, q_P_Q, q_P_Z, q_Q_F, q_Q_P, q_Q_Q, q_Q_Z, q_R_F, q_R_P, q_R_Q, q_R_Z, q_Z_F, q_Z_P, q_Z_Q, q_Z_Z, F_is_field, isR_val, trim_self, e15, L.g0, h1, h2, is_prime_spec L hp]
theorem need_field_ok {P : Prog} {k : Nat} {S : Store} {f : D} (L : Lf P) (hf : callF P (k + 2) 17 [f] S = .ok (.bl true) S) : callF P (k + 3) 18 [f] S = .ok .non S := by
  rw [callF_of L.h18 rfl]
  simp (disch := omega) only [Int.natCast_zero, Int.natCast_one, Int.cast_ofNat_Int, Int.reduceEq, Int.reduceLT, Int.reduceLE, decide_true, decide_false, List.length_cons, List.length_nil, List.set_set, List.map_cons, List.map_nil, List.replicate_zero, List.replicate_succ, List.cons_append, List.nil_append, List.getElem?_cons_zero, List.getElem?_cons_succ, List.set_cons_zero, List.set_cons_succ, Nat.reduceSub, Nat.reduceAdd, Bool.not_true, Bool.not_false, wipeE, bnd_ok, bnd_err, bnd_bad, on_ok, on_err, on_bad, sel_true, sel_false, slotR_val, fnR_fn, isR_val, negR_int, notR_bl, blSel_bl, optR_int, augR_val, thn_next, thn_ret, thn_err, thn_brk, thn_cont, again_next, again_cont, again_brk, again_ret, again_err, ctch_next, ctch_ret, ctch_err, fin_ret, fin_next, fin_err, okIf_t, e_slot, e_lit, e_globP, e_tup, e_lst, e_bin, e_neg, e_not, e_and, e_or, e_cmp, e_cmp2, e_ite, e_call, e_callv, e_bi, e_bic, e_isi, e_isiS, e_mth, e_ix, e_sl, e_rev, e_lc, o_none, o_some, es_nil, es_cons, b_val, b_not, b_and, b_or, b_yes, c_mk, i_seq, i_range1, i_range2, i_range3, i_enum, t_slot, t_tup, t_ix, ts_nil, ts_cons, s_asg, s_par, s_aug, s_for, s_while, s_if, s_ret, s_retN, s_expr, s_raise, s_try, s_brk, s_cont, s_pass, ss_nil, ss_cons, bin_add, bin_sub, bin_addS, bin_addT, bin_addL, bin_mulL, aug_add, aug_sub, eqS_int, eqS_bl, c_eq, c_ne, c_lt, c_le, c_gt, c_ge, c_isN, c_isntN, bi_one, bi_two, bi1_int, bi1_bl, bi1_str, bi1_tup, bi1_ref, bi2_int, biI_int, biB_int, biI_abs, biT_len, biT_tuple, biT_list, biL_len, biL_tuple, biL_list, biL_sum, biL_any, biL_all, biII_max, biII_min, truth_bl, truth_int, truth_tup, truth_non, seq_tup, ix_ref, ix_tup, sl_tup, sl_ref, set_ref, mt_app, it_tup, it_ref, it_r1, it_r2, noerr_err, atI_0, atI_1, atI_2, atI_3, atI_l, bin_modp, bin_divp, bin_mulp, ixN_40, ixN_41, ixN_42, ixN_43, isR_excP, pow_10_18, atI_cast, List.length_map, Res.noerr_ok, Res.noerr_bad, ofO_some, isi_tuple_tuple, isi_tuple_str, isi_tuple_int, isi_tuple_bool, isi_str_tuple, isi_str_str, isi_str_int, isi_str_bool, isi_int_tuple, isi_int_str, isi_int_int, isi_int_bool, isi_bool_tuple, isi_bool_str, isi_bool_int, isi_bool_bool, isi_NoneType_tuple, isi_NoneType_str, isi_NoneType_int, isi_NoneType_bool, q_F_F, q_F_P, q_F_Q, q_F_Z, q_P_F, q_P_P, q_P_Q, q_P_Z, q_Q_F, q_Q_P, q_Q_Q, q_Q_Z, q_R_F, q_R_P, q_R_Q, q_R_Z, q_Z_F, q_Z_P, q_Z_Q, q_Z_Z, F_need_field, hf, trim_self]
theorem need_field_no {P : Prog} {k : Nat} {S : Store} {f : D} (L : Lf P) (hf : callF P (k + 2) 17 [f] S = .ok (.bl false) S) : callF P (k + 3) 18 [f] S = .err ⟨1, none⟩ S := by
  rw [callF_of L.h18 rfl]
  simp (disch := omega) only [Int.natCast_zero, Int.natCast_one, Int.cast_ofNat_Int, Int.reduceEq, Int.reduceLT, Int.reduceLE, decide_true, decide_false, List.length_cons, List.length_nil, List.set_set, List.map_cons, List.map_nil, List.replicate_zero, List.replicate_succ, List.cons_append, List.nil_append, List.getElem?_cons_zero, List.getElem?_cons_succ, List.set_cons_zero, List.set_cons_succ, Nat.reduceSub, Nat.reduceAdd, Bool.not_true, Bool.not_false, wipeE, bnd_ok, bnd_err, bnd_bad, on_ok, on_err, on_bad, sel_true, sel_false, slotR_val, fnR_fn, isR_val, negR_int, notR_bl, blSel_bl, optR_int, augR_val, thn_next, thn_ret, thn_err, thn_brk, thn_cont, again_next, again_cont, again_brk, again_ret, again_err, ctch_next, ctch_ret, ctch_err, fin_ret, fin_next, fin_err, okIf_t, e_slot, e_lit, e_globP, e_tup, e_lst, e_bin, e_neg, e_not, e_and, e_or, e_cmp, e_cmp2, e_ite, e_call, e_callv, e_bi, e_bic, e_isi, e_isiS, e_mth, e_ix, e_sl, e_rev, e_lc, o_none, o_some, es_nil, es_cons, b_val, b_not, b_and, b_or, b_yes, c_mk, i_seq, i_range1, i_range2, i_range3, i_enum, t_slot, t_tup, t_ix, ts_nil, ts_cons, s_asg, s_par, s_aug, s_for, s_while, s_if, s_ret, s_retN, s_expr, s_raise, s_try, s_brk, s_cont, s_pass, ss_nil, ss_cons, bin_add, bin_sub, bin_addS, bin_addT, bin_addL, bin_mulL, aug_add, aug_sub, eqS_int, eqS_bl, c_eq, c_ne, c_lt, c_le, c_gt, c_ge, c_isN, c_isntN, bi_one, bi_two, bi1_int, bi1_bl, bi1_str, bi1_tup, bi1_ref, bi2_int, biI_int, biB_int, biI_abs, biT_len, biT_tuple, biT_list, biL_len, biL_tuple, biL_list, biL_sum, biL_any, biL_all, biII_max, biII_min, truth_bl, truth_int, truth_tup, truth_non, seq_tup, ix_ref, ix_tup, sl_tup, sl_ref, set_ref, mt_app, it_tup, it_ref, it_r1, it_r2, noerr_err, atI_0, atI_1, atI_2, atI_3, atI_l, bin_modp, bin_divp, bin_mulp, ixN_40, ixN_41, ixN_42, ixN_43, isR_excP, pow_10_18, atI_cast, List.length_map, Res.noerr_ok, Res.noerr_bad, ofO_some, isi_tuple_tuple, isi_tuple_str, isi_tuple_int, isi_tuple_bool, isi_str_tuple, isi_str_str, isi_str_int, isi_str_bool, isi_int_tuple, isi_int_str, isi_int_int, isi_int_bool, isi_bool_tuple, isi_bool_str, isi_bool_int, isi_bool_bool, isi_NoneType_tuple, isi_NoneType_str, isi_NoneType_int, isi_NoneType_bool, q_F_F, q_F_P, q_F_Q, q_F_Z, q_P_F, q_P_P, q_P_Q, q_P_Z, q_Q_F, q_Q_P, q_Q_Q, q_Q_Z, q_R_F, q_R_P, q_R_Q, q_R_Z, q_Z_F, q_Z_P, q_Z_Q, q_Z_Z, F_need_field, hf, trimX_self]
theorem need_shape_ok {P : Prog} {k : Nat} {S : Store} (L : Lf P) : callF P (k + 1) 19 [.bl true] S = .ok .non S := by
  rw [callF_of L.h19 rfl]
  simp (disch := omega) only [Int.natCast_zero, Int.natCast_one, Int.cast_ofNat_Int, Int.reduceEq, Int.reduceLT, Int.reduceLE, decide_true, decide_false, List.length_cons, List.length_nil, List.set_set, List.map_cons, List.map_nil, List.replicate_zero, List.replicate_succ, List.cons_append, List.nil_append, List.getElem?_cons_zero, List.getElem?_cons_succ, List.set_cons_zero, List.set_cons_succ, Nat.reduceSub, Nat.reduceAdd, Bool.not_true, Bool.not_false, wipeE, bnd_ok, bnd_err, bnd_bad, on_ok, on_err, on_bad, sel_true, sel_false, slotR_val, fnR_fn, isR_val, negR_int, notR_bl, blSel_bl, optR_int, augR_val, thn_next, thn_ret, thn_err, thn_brk, thn_cont, again_next, again_cont, again_brk, again_ret, again_err, ctch_next, ctch_ret, ctch_err, fin_ret, fin_next, fin_err, okIf_t, e_slot, e_lit, e_globP, e_tup, e_lst, e_bin, e_neg, e_not, e_and, e_or, e_cmp, e_cmp2, e_ite, e_call, e_callv, e_bi, e_bic, e_isi, e_isiS, e_mth, e_ix, e_sl, e_rev, e_lc, o_none, o_some, es_nil, es_cons, b_val, b_not, b_and, b_or, b_yes, c_mk, i_seq, i_range1, i_range2, i_range3, i_enum, t_slot, t_tup, t_ix, ts_nil, ts_cons, s_asg, s_par, s_aug, s_for, s_while, s_if, s_ret, s_retN, s_expr, s_raise, s_try, s_brk, s_cont, s_pass, ss_nil, ss_cons, bin_add, bin_sub, bin_addS, bin_addT, bin_addL, bin_mulL, aug_add, aug_sub, eqS_int, eqS_bl, c_eq, c_ne, c_lt, c_le, c_gt, c_ge, c_isN, c_isntN, bi_one, bi_two, bi1_int, bi1_bl, bi1_str, bi1_tup, bi1_ref, bi2_int, biI_int, biB_int, biI_abs, biT_len, biT_tuple, biT_list, biL_len, biL_tuple, biL_list, biL_sum, biL_any, biL_all, biII_max, biII_min, truth_bl, truth_int, truth_tup, truth_non, seq_tup, ix_ref, ix_tup, sl_tup, sl_ref, set_ref, mt_app, it_tup, it_ref, it_r1, it_r2, noerr_err, atI_0, atI_1, atI_2, atI_3, atI_l, bin_modp, bin_divp, bin_mulp, ixN_40, ixN_41, ixN_42, ixN_43, isR_excP, pow_10_18, atI_cast, List.length_map, Res.noerr_ok, Res.noerr_bad, ofO_some, isi_tuple_tuple, isi_tuple_str, isi_tuple_int, isi_tuple_bool, isi_str_tuple, isi_str_str, isi_str_int, isi_str_bool, isi_int_tuple, isi_int_str, isi_int_int, isi_int_bool, isi_bool_tuple, isi_bool_str, isi_bool_int, isi_bool_bool, isi_NoneType_tuple, isi_NoneType_str, isi_NoneType_int, isi_NoneType_bool, q_F_F, q_F_P, q_F_Q, q_F_Z, q_P_F, q_P_P, q_P_Q, q_P_Z, q_Q_F, q_Q_P, q_Q_Q, q_Q_Z, q_R_F, q_R_P, q_R_Q, q_R_Z, q_Z_F, q_Z_P, q_Z_Q, q_Z_Z, F_need_shape, trim_self]
theorem need_shape_no {P : Prog} {k : Nat} {S : Store} (L : Lf P) : callF P (k + 1) 19 [.bl false] S = .err ⟨2, none⟩ S := by
  rw [callF_of L.h19 rfl]
  simp (disch := omega) only [Int.natCast_zero, Int.natCast_one, Int.cast_ofNat_Int, Int.reduceEq, Int.reduceLT, Int.reduceLE, decide_true, decide_false, List.length_cons, List.length_nil, List.set_set, List.map_cons, List.map_nil, List.replicate_zero, List.replicate_succ, List.cons_append, List.nil_append, List.getElem?_cons_zero, List.getElem?_cons_succ, List.set_cons_zero, List.set_cons_succ, Nat.reduceSub, Nat.reduceAdd, Bool.not_true, Bool.not_false, wipeE, bnd_ok, bnd_err, bnd_bad, on_ok, on_err, on_bad, sel_true, sel_false, slotR_val, fnR_fn, isR_val, negR_int, notR_bl, blSel_bl, optR_int, augR_val, thn_next, thn_ret, thn_err, thn_brk, thn_cont, again_next, again_cont, again_brk, again_ret, again_err, ctch_next, ctch_ret, ctch_err, fin_ret, fin_next, fin_err, okIf_t, e_slot, e_lit, e_globP, e_tup, e_lst, e_bin, e_neg, e_not, e_and, e_or, e_cmp, e_cmp2, e_ite, e_call, e_callv, e_bi, e_bic, e_isi, e_isiS, e_mth, e_ix, e_sl, e_rev, e_lc, o_none, o_some, es_nil, es_cons, b_val, b_not, b_and, b_or, b_yes, c_mk, i_seq, i_range1, i_range2, i_range3, i_enum, t_slot, t_tup, t_ix, ts_nil, ts_cons, s_asg, s_par, s_aug, s_for, s_while, s_if, s_ret, s_retN, s_expr, s_raise, s_try, s_brk, s_cont, s_pass, ss_nil, ss_cons, bin_add, bin_sub, bin_addS, bin_addT, bin_addL, bin_mulL, aug_add, aug_sub, eqS_int, eqS_bl, c_eq, c_ne, c_lt, c_le, c_gt, c_ge, c_isN, c_isntN, bi_one, bi_two, bi1_int, bi1_bl, bi1_str, bi1_tup, bi1_ref, bi2_int, biI_int, biB_int, biI_abs, biT_len, biT_tuple, biT_list, biL_len, biL_tuple, biL_list, biL_sum, biL_any, biL_all, biII_max, biII_min, truth_bl, truth_int, truth_tup, truth_non, seq_tup, ix_ref, ix_tup, sl_tup, sl_ref, set_ref, mt_app, it_tup, it_ref, it_r1, it_r2, noerr_err, atI_0, atI_1, atI_2, atI_3, atI_l, bin_modp, bin_divp, bin_mulp, ixN_40, ixN_41, ixN_42, ixN_43, isR_excP, pow_10_18, atI_cast, List.length_map, Res.noerr_ok, Res.noerr_bad, ofO_some, isi_tuple_tuple, isi_tuple_str, isi_tuple_int, isi_tuple_bool, isi_str_tuple, isi_str_str, isi_str_int, isi_str_bool, isi_int_tuple, isi_int_str, isi_int_int, isi_int_bool, isi_bool_tuple, isi_bool_str, isi_bool_int, isi_bool_bool, isi_NoneType_tuple, isi_NoneType_str, isi_NoneType_int, isi_NoneType_bool, q_F_F, q_F_P, q_F_Q, q_F_Z, q_P_F, q_P_P, q_P_Q, q_P_Z, q_Q_F, q_Q_P, q_Q_Q, q_Q_Z, q_R_F, q_R_P, q_R_Q, q_R_Z, q_Z_F, q_Z_P, q_Z_Q, q_Z_Z, F_need_shape, trimX_self]
theorem need_square_ok {P : Prog} {k : Nat} {S : Store} {n : Int} {r : D} (L : Lf P) : callF P (k + 2) 20 [.tup [.int n, .int n, r]] S = .ok .non S := by
  rw [callF_of L.h20 rfl]
  simp (disch := omega) only [Int.natCast_zero, Int.natCast_one, Int.cast_ofNat_Int, Int.reduceEq, Int.reduceLT, Int.reduceLE, decide_true, decide_false, List.length_cons, List.length_nil, List.set_set, List.map_cons, List.map_nil, List.replicate_zero, List.replicate_succ, List.cons_append, List.nil_append, List.getElem?_cons_zero, List.getElem?_cons_succ, List.set_cons_zero, List.set_cons_succ, Nat.reduceSub, Nat.reduceAdd, Bool.not_true, Bool.not_false, wipeE, bnd_ok, bnd_err, bnd_bad, on_ok, on_err, on_bad, sel_true, sel_false, slotR_val, fnR_fn, isR_val, negR_int, notR_bl, blSel_bl, optR_int, augR_val, thn_next, thn_ret, thn_err, thn_brk, thn_cont, again_next, again_cont, again_brk, again_ret, again_err, ctch_next, ctch_ret, ctch_err, fin_ret, fin_next, fin_err, okIf_t, e_slot, e_lit, e_globP, e_tup, e_lst, e_bin, e_neg, e_not, e_and, e_or, e_cmp, e_cmp2, e_ite, e_call, e_callv, e_bi, e_bic, e_isi, e_isiS, e_mth, e_ix, e_sl, e_rev, e_lc, o_none, o_some, es_nil, es_cons, b_val, b_not, b_and, b_or, b_yes, c_mk, i_seq, i_range1, i_range2, i_range3, i_enum, t_slot, t_tup, t_ix, ts_nil, ts_cons, s_asg, s_par, s_aug, s_for, s_while, s_if, s_ret, s_retN, s_expr, s_raise, s_try, s_brk, s_cont, s_pass, ss_nil, ss_cons, bin_add, bin_sub, bin_addS, bin_addT, bin_addL, bin_mulL, aug_add, aug_sub, eqS_int, eqS_bl, c_eq, c_ne, c_lt, c_le, c_gt, c_ge, c_isN, c_isntN, bi_one, bi_two, bi1_int, bi1_bl, bi1_str, bi1_tup, bi1_ref, bi2_int, biI_int, biB_int, biI_abs, biT_len, biT_tuple, biT_list, biL_len, biL_tuple, biL_list, biL_sum, biL_any, biL_all, biII_max, biII_min, truth_bl, truth_int, truth_tup, truth_non, seq_tup, ix_ref, ix_tup, sl_tup, sl_ref, set_ref, mt_app, it_tup, it_ref, it_r1, it_r2, noerr_err, atI_0, atI_1, atI_2, atI_3, atI_l, bin_modp, bin_divp, bin_mulp, ixN_40, ixN_41, ixN_42, ixN_43, isR_excP, pow_10_18, atI_cast, List.length_map, Res.noerr_ok, Res.noerr_bad, ofO_some, isi_tuple_tuple, isi_tuple_str, isi_tuple_int, isi_tuple_bool, isi_str_tuple, isi_str_str, isi_str_int, isi_str_bool, isi_int_tuple, isi_int_str, isi_int_int, isi_int_bool, isi_bool_tuple, isi_bool_str, isi_bool_int, isi_bool_bool, isi_NoneType_tuple, isi_NoneType_str, isi_NoneType_int, isi_NoneType_bool, q_F_F, q_F_P, q_F_Q, q_F_Z, q_P_F, q_P_P, q_P_Q, q_P_Z, q_Q_F, q_Q_P, q_Q_Q, q_Q_Z, q_R_F, q_R_P, q_R_Q, q_R_Z, q_Z_F, q_Z_P, q_Z_Q, q_Z_Z, F_need_square, need_shape_ok L, trim_self]
theorem need_square_no {P : Prog} {k : Nat} {S : Store} {m n : Int} {r : D} (L : Lf P) (h : m ≠ n) : callF P (k + 2) 20 [.tup [.int m, .int n, r]] S = .err ⟨2, none⟩ S := by
  rw [callF_of L.h20 rfl]
  simp (disch := omega) only [Int.natCast_zero, Int.natCast_one, Int.cast_ofNat_Int, Int.reduceEq, Int.reduceLT, Int.reduceLE, decide_true, decide_false, List.length_cons, List.length_nil, List.set_set, List.map_cons, List.map_nil, List.replicate_zero, List.replicate_succ, List.cons_append, List.nil_append, List.getElem?_cons_zero, List.getElem?_cons_succ, List.set_cons_zero, List.set_cons_succ, Nat.reduceSub, Nat.reduceAdd, Bool.not_true, Bool.not_false, wipeE, bnd_ok, bnd_err, bnd_bad, on_ok, on_err, on_bad, sel_true, sel_false, slotR_val, fnR_fn, isR_val, negR_int, notR_bl, blSel_bl, optR_int, augR_val, thn_next, thn_ret, thn_err, thn_brk, thn_cont, again_next, again_cont, again_brk, again_ret, again_err, ctch_next, ctch_ret, ctch_err, fin_ret, fin_next, fin_err, okIf_t, e_slot, e_lit, e_globP, e_tup, e_lst, e_bin, e_neg, e_not, e_and, e_or, e_cmp, e_cmp2, e_ite, e_call, e_callv, e_bi, e_bic, e_isi, e_isiS, e_mth, e_ix, e_sl, e_rev, e_lc, o_none, o_some, es_nil, es_cons, b_val, b_not, b_and, b_or, b_yes, c_mk, i_seq, i_range1, i_range2, i_range3, i_enum, t_slot, t_tup, t_ix, ts_nil, ts_cons, s_asg, s_par, s_aug, s_for, s_while, s_if, s_ret, s_retN, s_expr, s_raise, s_try, s_brk, s_cont, s_pass, ss_nil, ss_cons, bin_add, bin_sub, bin_addS, bin_addT, bin_addL, bin_mulL, aug_add, aug_sub, eqS_int, eqS_bl, c_eq, c_ne, c_lt, c_le, c_gt, c_ge, c_isN, c_isntN, bi_one, bi_two, bi1_int, bi1_bl, bi1_str, bi1_tup, bi1_ref, bi2_int, biI_int, biB_int, biI_abs, biT_len, biT_tuple, biT_list, biL_len, biL_tuple, biL_list, biL_sum, biL_any, biL_all, biII_max, biII_min, truth_bl, truth_int, truth_tup, truth_non, seq_tup, ix_ref, ix_tup, sl_tup, sl_ref, set_ref, mt_app, it_tup, it_ref, it_r1, it_r2, noerr_err, atI_0, atI_1, atI_2, atI_3, atI_l, bin_modp, bin_divp, bin_mulp, ixN_40, ixN_41, ixN_42, ixN_43, isR_excP, pow_10_18, atI_cast, List.length_map, Res.noerr_ok, Res.noerr_bad, ofO_some, isi_tuple_tuple, isi_tuple_str, isi_tuple_int, isi_tuple_bool, isi_str_tuple, isi_str_str, isi_str_int, isi_str_bool, isi_int_tuple, isi_int_str, isi_int_int, isi_int_bool, isi_bool_tuple, isi_bool_str, isi_bool_int, isi_bool_bool, isi_NoneType_tuple, isi_NoneType_str, isi_NoneType_int, isi_NoneType_bool, q_F_F, q_F_P, q_F_Q, q_F_Z, q_P_F, q_P_P, q_P_Q, q_P_Z, q_Q_F, q_Q_P, q_Q_Q, q_Q_Z, q_R_F, q_R_P, q_R_Q, q_R_Z, q_Z_F, q_Z_P, q_Z_Q, q_Z_Z, F_need_square, h, need_shape_no L, trimX_self]
/-! ### except -/
theorem h_yes {C : Ctx} {c : Cl} {i : Nat} {b : CSs} {hs : CHs} {e : Nat} {σ : Env} {S : Store} (h : C.isSub e c = some true) : evHs C (.cons c (some i) b hs) ⟨e, none⟩ σ S = leave (forgetAt i (evSs C b (σ.set i (.exc e none)) S)) := by
  rw [evHs]
  simp only [h, if_true]
theorem h_no {C : Ctx} {c : Cl} {so : Option Nat} {b : CSs} {hs : CHs} {e : Nat} {σ : Env} {S : Store} (h : C.isSub e c = some false) : evHs C (.cons c so b hs) ⟨e, none⟩ σ S = evHs C hs ⟨e, none⟩ σ S := by
  cases so <;> (rw [evHs]; simp only [h])
theorem leave_ret {d : D} {S : Store} {i : Nat} : leave (forgetAt i (.ret d S)) = .ret d S := Eq.trans rfl rfl
end EV

/-! what the law names (printed by fin.py) -/
namespace K67
open PySem L2 EV PyProof.Rows
def atTop (i : Nat) : Stmt := PySem.Challenge.pw_echelon_k67_refused_operators.main.body.getD i (.Pass ⟨0, 0, 0, 0⟩)
def gn : List (Str × GR) :=
  [(("_law_start" : Str), GR.fn 0), (("int" : Str), GR.blt), (("_law_field" : Str), GR.fn 4), (("_law_take" : Str), GR.fn 2), (("_law_fill" : Str), GR.fn 1), (("len" : Str), GR.blt),
   (("_law_some_prime" : Str), GR.fn 3), (("any" : Str), GR.blt), (("range" : Str), GR.blt), (("_law_matrix" : Str), GR.fn 10), (("tuple" : Str), GR.blt), (("_law_small" : Str), GR.fn 9),
   (("_law_fraction" : Str), GR.fn 6), (("_law_common" : Str), GR.fn 5), (("abs" : Str), GR.blt), (("_law_strip" : Str), GR.fn 8), (("_law_zero" : Str), GR.fn 7), (("_law_all" : Str), GR.fn 13),
   (("all" : Str), GR.blt), (("_law_class" : Str), GR.fn 12), (("DomainError" : Str), GR.cls 1), (("ShapeError" : Str), GR.cls 2), (("SingularError" : Str), GR.cls 3), (("_law_called" : Str), GR.fn 11),
   (("isinstance" : Str), GR.blt), (("EchelonError" : Str), GR.cls 0), (("ValueError" : Str), GR.blt), (("_law_number" : Str), GR.fn 14), (("_law_single" : Str), GR.fn 38), (("characteristic" : Str), GR.fn 21),
   (("need_field" : Str), GR.fn 18), (("is_field" : Str), GR.fn 17), (("is_integer" : Str), GR.fn 15), (("bool" : Str), GR.blt), (("MOST_PRIME" : Str), GR.glob 0), (("is_prime" : Str), GR.fn 16),
   (("str" : Str), GR.blt), (("need_square" : Str), GR.fn 20), (("need_shape" : Str), GR.fn 19), (("minimal" : Str), GR.fn 24), (("cyclic_pair" : Str), GR.fn 23), (("annihilator" : Str), GR.fn 22),
   (("cyclic_vector" : Str), GR.fn 25), (("invariant_factors" : Str), GR.fn 28), (("decompose" : Str), GR.fn 27), (("krylov" : Str), GR.fn 26), (("frobenius" : Str), GR.fn 30), (("companion" : Str), GR.fn 29),
   (("eigenvalues" : Str), GR.fn 32), (("roots" : Str), GR.fn 31), (("jordan" : Str), GR.fn 35), (("splits" : Str), GR.fn 33), (("sum" : Str), GR.blt), (("sorted" : Str), GR.blt),
   (("jordan_block" : Str), GR.fn 34), (("enumerate" : Str), GR.blt), (("unsplit" : Str), GR.fn 36), (("is_diagonal" : Str), GR.fn 37), (("_law_double" : Str), GR.fn 41), (("similarity" : Str), GR.fn 39),
   (("difference" : Str), GR.fn 40), (("list" : Str), GR.blt), (("_law_no_domain" : Str), GR.fn 42), (("law" : Str), GR.fn 43)]
/-- _law_some_prime -/
def L_some_prime : Fn := ⟨1, 3,
  (.cons (.asg (.slot 1) (.bin .Add (.lit (.int 2)) (.call 2 (.cons (.slot 0) (.cons (.lit (.int 65520)) .nil)))))
  (.cons (.whileS (.val (.bic .any (.mk [2] (.slot 2) (.range2 (.lit (.int 2)) (.lit (.int 257))) (.val (.cmp .LtE (.bin .Mult (.slot 2) (.slot 2)) (.slot 1))) (.cmp .Eq (.bin .Mod (.bi .int (.cons (.slot 1) .nil)) (.slot 2)) (.lit (.int 0)))))) (.cons (.asg (.slot 1) (.bin .Add (.slot 1) (.lit (.int 1))))
   .nil))
  (.cons (.ret (.slot 1))
  .nil)))⟩
/-- _law_field -/
def L_field : Fn := ⟨1, 3,
  (.cons (.asg (.slot 1) (.lst (.cons (.lit (.int 2)) (.cons (.lit (.int 3)) (.cons (.lit (.int 5)) (.cons (.lit (.int 7)) (.cons (.lit (.int 11)) (.cons (.lit (.int 101)) (.cons (.lit (.int 65521)) .nil)))))))))
  (.cons (.asg (.slot 2) (.call 2 (.cons (.slot 0) (.cons (.lit (.int 14)) .nil))))
  (.cons (.ite (.val (.cmp .Lt (.slot 2) (.lit (.int 4)))) (.cons (.ret (.tup (.cons (.lit (.str "Q")) .nil)))
   .nil) .nil)
  (.cons (.ite (.val (.cmp .Gt (.slot 2) (.lit (.int 10)))) (.cons (.ret (.tup (.cons (.lit (.str "F")) (.cons (.call 3 (.cons (.slot 0) .nil)) .nil))))
   .nil) .nil)
  (.cons (.ret (.tup (.cons (.lit (.str "F")) (.cons (.ix (.slot 1) (.bin .Sub (.slot 2) (.lit (.int 4)))) .nil))))
  .nil)))))⟩
/-- _law_common -/
def L_common : Fn := ⟨2, 3,
  (.cons (.asg (.slot 0) (.bi .abs (.cons (.slot 0) .nil)))
  (.cons (.asg (.slot 1) (.bi .abs (.cons (.slot 1) .nil)))
  (.cons (.whileS (.val (.cmp .NotEq (.slot 1) (.lit (.int 0)))) (.cons (.asg (.slot 2) (.bin .Mod (.bi .int (.cons (.slot 0) .nil)) (.slot 1)))
   (.cons (.asg (.slot 0) (.slot 1))
   (.cons (.asg (.slot 1) (.slot 2))
   .nil))))
  (.cons (.ret (.slot 0))
  .nil))))⟩
/-- _law_fraction -/
def L_fraction : Fn := ⟨2, 3,
  (.cons (.asg (.slot 2) (.call 5 (.cons (.slot 0) (.cons (.slot 1) .nil))))
  (.cons (.ite (.val (.cmp .Lt (.slot 1) (.lit (.int 0)))) (.cons (.asg (.slot 2) (.bin .Sub (.lit (.int 0)) (.slot 2)))
   .nil) .nil)
  (.cons (.ret (.tup (.cons (.bin .FloorDiv (.slot 0) (.slot 2)) (.cons (.bin .FloorDiv (.slot 1) (.slot 2)) .nil))))
  .nil)))⟩
/-- _law_zero -/
def L_zero : Fn := ⟨1, 1,
  (.cons (.ite (.val (.cmp .Eq (.ix (.slot 0) (.lit (.int 0))) (.lit (.str "Q")))) (.cons (.ret (.tup (.cons (.lit (.int 0)) (.cons (.lit (.int 1)) .nil))))
   .nil) .nil)
  (.cons (.ite (.val (.cmp .Eq (.ix (.slot 0) (.lit (.int 0))) (.lit (.str "P")))) (.cons (.ret (.tup .nil))
   .nil) .nil)
  (.cons (.ret (.lit (.int 0)))
  .nil)))⟩
/-- _law_strip -/
def L_strip : Fn := ⟨2, 3,
  (.cons (.asg (.slot 2) (.bi .len (.cons (.slot 1) .nil)))
  (.cons (.whileS (.and (.val (.cmp .Gt (.slot 2) (.lit (.int 0)))) (.val (.cmp .Eq (.ix (.slot 1) (.bin .Sub (.slot 2) (.lit (.int 1)))) (.call 7 (.cons (.slot 0) .nil))))) (.cons (.asg (.slot 2) (.bin .Sub (.slot 2) (.lit (.int 1))))
   .nil))
  (.cons (.ret (.bi .tuple (.cons (.sl (.slot 1) .none (.some (.slot 2))) .nil)))
  .nil)))⟩
/-- _law_small -/
def L_small : Fn := ⟨2, 3,
  (.cons (.ite (.val (.cmp .Eq (.ix (.slot 1) (.lit (.int 0))) (.lit (.str "F")))) (.cons (.ret (.bin .Mod (.bi .int (.cons (.call 2 (.cons (.slot 0) (.cons (.lit (.int 65536)) .nil))) .nil)) (.ix (.slot 1) (.lit (.int 1)))))
   .nil) .nil)
  (.cons (.ite (.val (.cmp .Eq (.ix (.slot 1) (.lit (.int 0))) (.lit (.str "Q")))) (.cons (.ret (.call 6 (.cons (.bin .Sub (.call 2 (.cons (.slot 0) (.cons (.lit (.int 9)) .nil))) (.lit (.int 4))) (.cons (.bin .Add (.lit (.int 1)) (.call 2 (.cons (.slot 0) (.cons (.lit (.int 3)) .nil)))) .nil))))
   .nil) .nil)
  (.cons (.ite (.val (.cmp .Eq (.ix (.slot 1) (.lit (.int 0))) (.lit (.str "P")))) (.cons (.ret (.call 8 (.cons (.ix (.slot 1) (.lit (.int 1))) (.cons (.lc (.mk [2] (.slot 2) (.range1 (.call 2 (.cons (.slot 0) (.cons (.lit (.int 3)) .nil)))) .yes (.call 9 (.cons (.slot 0) (.cons (.ix (.slot 1) (.lit (.int 1))) .nil))))) .nil))))
   .nil) .nil)
  (.cons (.ret (.ix (.lst (.cons (.bin .Sub (.call 2 (.cons (.slot 0) (.cons (.lit (.int 9)) .nil))) (.lit (.int 4))) (.cons (.lit (.int 0)) (.cons (.lit (.int 0)) (.cons (.lit (.int 1)) (.cons (.bin .Sub (.call 2 (.cons (.slot 0) (.cons (.lit (.int 99)) .nil))) (.lit (.int 49))) .nil)))))) (.call 2 (.cons (.slot 0) (.cons (.lit (.int 5)) .nil)))))
  .nil))))⟩
/-- _law_matrix -/
def L_matrix : Fn := ⟨4, 6,
  (.cons (.ret (.tup (.cons (.slot 2) (.cons (.slot 3) (.cons (.bic .tuple (.mk [4] (.slot 4) (.range1 (.slot 2)) .yes (.bic .tuple (.mk [5] (.slot 5) (.range1 (.slot 3)) .yes (.call 9 (.cons (.slot 0) (.cons (.slot 1) .nil))))))) .nil)))))
  .nil)⟩
/-- _law_called -/
def L_called : Fn := ⟨2, 2,
  (.cons (.ite (.val (.cmp .Eq (.bi .len (.cons (.slot 1) .nil)) (.lit (.int 1)))) (.cons (.ret (.callv 0 (.cons (.ix (.slot 1) (.lit (.int 0))) .nil)))
   .nil) .nil)
  (.cons (.ite (.val (.cmp .Eq (.bi .len (.cons (.slot 1) .nil)) (.lit (.int 2)))) (.cons (.ret (.callv 0 (.cons (.ix (.slot 1) (.lit (.int 0))) (.cons (.ix (.slot 1) (.lit (.int 1))) .nil))))
   .nil) .nil)
  (.cons (.ite (.val (.cmp .Eq (.bi .len (.cons (.slot 1) .nil)) (.lit (.int 3)))) (.cons (.ret (.callv 0 (.cons (.ix (.slot 1) (.lit (.int 0))) (.cons (.ix (.slot 1) (.lit (.int 1))) (.cons (.ix (.slot 1) (.lit (.int 2))) .nil)))))
   .nil) .nil)
  (.cons (.ret (.callv 0 (.cons (.ix (.slot 1) (.lit (.int 0))) (.cons (.ix (.slot 1) (.lit (.int 1))) (.cons (.ix (.slot 1) (.lit (.int 2))) (.cons (.ix (.slot 1) (.lit (.int 3))) .nil))))))
  .nil))))⟩
/-- _law_class -/
def L_class : Fn := ⟨2, 4,
  (.cons (.tryS (.cons (.expr (.call 11 (.cons (.slot 0) (.cons (.slot 1) .nil))))
   .nil) (.cons (.own 1) (some 2) (.cons (.asg (.slot 3) (.and (.isiS 2 (.own 0)) (.isiS 2 (.ty "ValueError"))))
   (.cons (.ret (.lst (.cons (.lit (.str "domain")) (.cons (.and (.slot 3) (.and (.not (.isiS 2 (.own 2))) (.not (.isiS 2 (.own 3))))) .nil))))
   .nil)) (.cons (.own 2) (some 2) (.cons (.ret (.lst (.cons (.lit (.str "shape")) (.cons (.and (.isiS 2 (.own 0)) (.and (.isiS 2 (.ty "ValueError")) (.not (.isiS 2 (.own 3))))) .nil))))
   .nil) (.cons (.own 3) (some 2) (.cons (.ret (.lst (.cons (.lit (.str "singular")) (.cons (.and (.isiS 2 (.own 0)) (.isiS 2 (.ty "ValueError"))) .nil))))
   .nil) .nil))))
  (.cons (.ret (.lst (.cons (.lit (.str "none")) (.cons (.lit (.bl true)) .nil))))
  .nil))⟩
/-- _law_all -/
def L_all : Fn := ⟨2, 3,
  (.cons (.ret (.bic .all (.mk [2] (.slot 2) (.seq (.slot 0)) .yes (.cmp .Eq (.call 12 (.cons (.ix (.slot 2) (.lit (.int 0))) (.cons (.ix (.slot 2) (.lit (.int 1))) .nil))) (.lst (.cons (.slot 1) (.cons (.lit (.bl true)) .nil)))))))
  .nil)⟩
/-- _law_number -/
def L_number : Fn := ⟨2, 2,
  (.cons (.ite (.val (.cmp .Eq (.ix (.slot 0) (.lit (.int 0))) (.lit (.str "Q")))) (.cons (.ret (.tup (.cons (.slot 1) (.cons (.lit (.int 1)) .nil))))
   .nil) .nil)
  (.cons (.ite (.val (.cmp .Eq (.ix (.slot 0) (.lit (.int 0))) (.lit (.str "F")))) (.cons (.ret (.bin .Mod (.bi .int (.cons (.slot 1) .nil)) (.ix (.slot 0) (.lit (.int 1)))))
   .nil) .nil)
  (.cons (.ite (.val (.cmp .Eq (.ix (.slot 0) (.lit (.int 0))) (.lit (.str "P")))) (.cons (.ret (.call 8 (.cons (.ix (.slot 0) (.lit (.int 1))) (.cons (.lst (.cons (.call 14 (.cons (.ix (.slot 0) (.lit (.int 1))) (.cons (.slot 1) .nil))) .nil)) .nil))))
   .nil) .nil)
  (.cons (.ret (.slot 1))
  .nil))))⟩
/-- is_integer -/
def F_is_integer : Fn := ⟨1, 1,
  (.cons (.ret (.and (.isiS 0 (.ty "int")) (.not (.isiS 0 (.ty "bool")))))
  .nil)⟩
/-- is_prime -/
def F_is_prime : Fn := ⟨1, 2,
  (.cons (.ite (.val (.cmp .Lt (.slot 0) (.lit (.int 4)))) (.cons (.ret (.cmp .Gt (.slot 0) (.lit (.int 1))))
   .nil) .nil)
  (.cons (.ite (.val (.cmp .Eq (.bin .Mod (.slot 0) (.lit (.int 2))) (.lit (.int 0)))) (.cons (.ret (.lit (.bl false)))
   .nil) .nil)
  (.cons (.asg (.slot 1) (.lit (.int 3)))
  (.cons (.whileS (.val (.cmp .LtE (.bin .Mult (.slot 1) (.slot 1)) (.slot 0))) (.cons (.ite (.val (.cmp .Eq (.bin .Mod (.slot 0) (.slot 1)) (.lit (.int 0)))) (.cons (.ret (.lit (.bl false)))
    .nil) .nil)
   (.cons (.aug 1 .Add (.lit (.int 2)))
   .nil)))
  (.cons (.ret (.lit (.bl true)))
  .nil)))))⟩
/-- is_field -/
def F_is_field : Fn := ⟨1, 1,
  (.cons (.ite (.or (.not (.val (.isiS 0 (.ty "tuple")))) (.or (.val (.cmp .Eq (.bi .len (.cons (.slot 0) .nil)) (.lit (.int 0)))) (.not (.val (.isi (.ix (.slot 0) (.lit (.int 0))) (.ty "str")))))) (.cons (.ret (.lit (.bl false)))
   .nil) .nil)
  (.cons (.ite (.val (.cmp .Eq (.ix (.slot 0) (.lit (.int 0))) (.lit (.str "Q")))) (.cons (.ret (.cmp .Eq (.bi .len (.cons (.slot 0) .nil)) (.lit (.int 1))))
   .nil) .nil)
  (.cons (.ret (.and (.cmp .Eq (.ix (.slot 0) (.lit (.int 0))) (.lit (.str "F"))) (.and (.cmp .Eq (.bi .len (.cons (.slot 0) .nil)) (.lit (.int 2))) (.and (.call 15 (.cons (.ix (.slot 0) (.lit (.int 1))) .nil)) (.and (.cmp2 .Lt .LtE (.lit (.int 1)) (.ix (.slot 0) (.lit (.int 1))) (.glob 0)) (.call 16 (.cons (.ix (.slot 0) (.lit (.int 1))) .nil)))))))
  .nil)))⟩
/-- need_field -/
def F_need_field : Fn := ⟨1, 1,
  (.cons (.ite (.not (.val (.call 17 (.cons (.slot 0) .nil)))) (.cons (.raise 1 none)
   .nil) .nil)
  .nil)⟩
/-- need_shape -/
def F_need_shape : Fn := ⟨1, 1,
  (.cons (.ite (.not (.val (.slot 0))) (.cons (.raise 2 none)
   .nil) .nil)
  .nil)⟩
/-- need_square -/
def F_need_square : Fn := ⟨1, 1,
  (.cons (.expr (.call 19 (.cons (.cmp .Eq (.ix (.slot 0) (.lit (.int 0))) (.ix (.slot 0) (.lit (.int 1)))) .nil)))
  .nil)⟩
/-- characteristic -/
def F_characteristic : Fn := ⟨2, 10,
  (.cons (.expr (.call 18 (.cons (.slot 0) .nil)))
  (.cons (.expr (.call 20 (.cons (.slot 1) .nil)))
  (.cons (.asg (.slot 2) (.tup (.cons (.lit (.str "P")) (.cons (.slot 0) .nil))))
  (.cons (.asg (.slot 3) .bad)
  (.cons (.asg (.slot 4) (.lst (.cons .bad .nil)))
  (.cons (.forS (.slot 5) (.range1 (.bi .len (.cons (.slot 3) .nil))) (.cons (.asg (.slot 6) .bad)
   (.cons (.asg (.slot 7) .bad)
   (.cons (.forS (.slot 8) (.range3 (.bin .Sub (.slot 5) (.lit (.int 1))) (.neg (.lit (.int 1))) (.neg (.lit (.int 1)))) (.cons (.asg (.slot 7) .bad)
    (.cons (.asg (.slot 9) .bad)
    (.cons (.asg (.slot 6) .bad)
    .nil))))
   (.cons (.expr (.mth .append (.slot 4) (.cons (.slot 6) .nil)))
   .nil)))))
  (.cons (.ret (.ix (.slot 4) (.neg (.lit (.int 1)))))
  .nil)))))))⟩
/-- annihilator -/
def F_annihilator : Fn := ⟨3, 5,
  (.cons (.expr (.call 18 (.cons (.slot 0) .nil)))
  (.cons (.expr (.call 20 (.cons (.slot 1) .nil)))
  (.cons (.expr (.call 19 (.cons (.cmp .Eq (.bi .len (.cons (.slot 2) .nil)) (.ix (.slot 1) (.lit (.int 0)))) .nil)))
  (.cons (.asg (.slot 3) .bad)
  (.cons (.asg (.slot 4) .bad)
  (.cons (.whileS (.val (.cmp .Is (.slot 4) (.lit .non))) (.cons (.asg (.slot 2) .bad)
   (.cons (.asg (.slot 4) .bad)
   .nil)))
  (.cons (.ret (.bi .tuple (.cons (.slot 4) .nil)))
  .nil)))))))⟩
/-- cyclic_pair -/
def F_cyclic_pair : Fn := ⟨2, 7,
  (.cons (.expr (.call 18 (.cons (.slot 0) .nil)))
  (.cons (.expr (.call 20 (.cons (.slot 1) .nil)))
  (.cons (.asg (.slot 2) (.ix (.slot 1) (.lit (.int 0))))
  (.cons (.asg (.slot 3) (.tup (.cons (.bic .tuple (.mk [4] (.slot 4) (.range1 (.slot 2)) .yes .bad)) (.cons .bad .nil))))
  (.cons (.forS (.slot 4) (.range1 (.slot 2)) (.cons (.asg (.slot 5) .bad)
   (.cons (.ite (.and (.val (.cmp .LtE (.bi .len (.cons (.ix (.slot 3) (.lit (.int 1))) .nil)) (.slot 2))) (.val (.bic .any (.mk [6] (.slot 6) (.seq .bad) .yes (.cmp .NotEq (.slot 6) .bad))))) (.cons (.asg (.slot 3) .bad)
    .nil) .nil)
   .nil)))
  (.cons (.ret (.slot 3))
  .nil))))))⟩
/-- minimal -/
def F_minimal : Fn := ⟨2, 2,
  (.cons (.ret (.ix (.call 23 (.cons (.slot 0) (.cons (.slot 1) .nil))) (.lit (.int 1))))
  .nil)⟩
/-- cyclic_vector -/
def F_cyclic_vector : Fn := ⟨2, 2,
  (.cons (.ret (.ix (.call 23 (.cons (.slot 0) (.cons (.slot 1) .nil))) (.lit (.int 0))))
  .nil)⟩
/-- krylov -/
def F_krylov : Fn := ⟨3, 6,
  (.cons (.asg (.slot 3) (.bin .Sub (.bi .len (.cons (.call 22 (.cons (.slot 0) (.cons (.slot 1) (.cons (.slot 2) .nil)))) .nil)) (.lit (.int 1))))
  (.cons (.asg (.slot 4) (.lst .nil))
  (.cons (.forS (.slot 5) (.range1 (.slot 3)) (.cons (.expr (.mth .append (.slot 4) (.cons (.bi .tuple (.cons (.slot 2) .nil)) .nil)))
   (.cons (.asg (.slot 2) .bad)
   .nil)))
  (.cons (.ret .bad)
  .nil))))⟩
/-- decompose -/
def F_decompose : Fn := ⟨2, 8,
  (.cons (.expr (.call 18 (.cons (.slot 0) .nil)))
  (.cons (.expr (.call 20 (.cons (.slot 1) .nil)))
  (.cons (.asg (.slot 2) (.lst .nil))
  (.cons (.asg (.slot 3) .bad)
  (.cons (.whileS (.val (.cmp .Gt (.ix (.slot 1) (.lit (.int 0))) (.lit (.int 0)))) (.cons (.asg (.tup (.cons (.slot 5) (.cons (.slot 6) .nil))) (.call 23 (.cons (.slot 0) (.cons (.slot 1) .nil))))
   (.cons (.asg (.slot 4) (.call 26 (.cons (.slot 0) (.cons (.slot 1) (.cons (.slot 5) .nil)))))
   (.cons (.expr (.mth .append (.slot 2) (.cons (.tup (.cons (.slot 6) (.cons .bad .nil))) .nil)))
   (.cons (.asg (.tup (.cons (.slot 7) (.cons (.slot 1) .nil))) .bad)
   (.cons (.asg (.slot 3) .bad)
   .nil))))))
  (.cons (.ret (.slot 2))
  .nil))))))⟩
/-- invariant_factors -/
def F_invariant_factors : Fn := ⟨2, 4,
  (.cons (.ret (.bic .tuple (.mk [2, 3] (.tup (.cons (.slot 2) (.cons (.slot 3) .nil))) (.seq (.rev (.call 27 (.cons (.slot 0) (.cons (.slot 1) .nil))))) .yes (.slot 2))))
  .nil)⟩
/-- companion -/
def F_companion : Fn := ⟨2, 7,
  (.cons (.expr (.call 18 (.cons (.slot 0) .nil)))
  (.cons (.asg (.slot 2) (.bin .Sub (.bi .len (.cons (.slot 1) .nil)) (.lit (.int 1))))
  (.cons (.asg (.slot 3) (.lst .nil))
  (.cons (.forS (.slot 4) (.range1 (.slot 2)) (.cons (.asg (.slot 5) (.lc (.mk [6] (.slot 6) (.range1 (.slot 2)) .yes (.ite (.val (.cmp .Eq (.slot 6) (.bin .Sub (.slot 4) (.lit (.int 1))))) .bad .bad))))
   (.cons (.asg (.ix (.slot 5) (.bin .Sub (.slot 2) (.lit (.int 1)))) .bad)
   (.cons (.expr (.mth .append (.slot 3) (.cons (.bi .tuple (.cons (.slot 5) .nil)) .nil)))
   .nil))))
  (.cons (.ret (.tup (.cons (.slot 2) (.cons (.slot 2) (.cons (.bi .tuple (.cons (.slot 3) .nil)) .nil)))))
  .nil)))))⟩
/-- frobenius -/
def F_frobenius : Fn := ⟨2, 9,
  (.cons (.asg (.slot 2) (.rev (.call 27 (.cons (.slot 0) (.cons (.slot 1) .nil)))))
  (.cons (.asg (.slot 3) (.tup (.cons (.ix (.slot 1) (.lit (.int 0))) (.cons (.lit (.int 0)) (.cons (.bic .tuple (.mk [7] (.slot 7) (.range1 (.ix (.slot 1) (.lit (.int 0)))) .yes (.tup .nil))) .nil)))))
  (.cons (.forS (.tup (.cons (.slot 5) (.cons (.slot 6) .nil))) (.seq (.slot 2)) (.cons (.asg (.slot 3) .bad)
   .nil))
  (.cons (.asg (.slot 4) .bad)
  (.cons (.ret (.tup (.cons (.slot 4) (.cons (.slot 3) (.cons .bad .nil)))))
  .nil)))))⟩
/-- roots -/
def F_roots : Fn := ⟨2, 6,
  (.cons (.expr (.call 18 (.cons (.slot 0) .nil)))
  (.cons (.ite (.val (.cmp .Eq (.ix (.slot 0) (.lit (.int 0))) (.lit (.str "Q")))) (.cons (.asg (.slot 4) .bad)
   .nil) (.cons (.asg (.slot 4) .bad)
   .nil))
  (.cons (.asg (.slot 2) (.lst .nil))
  (.cons (.forS (.slot 3) (.seq (.slot 4)) (.cons (.asg (.tup (.cons (.slot 1) (.cons (.slot 5) .nil))) .bad)
   (.cons (.expr (.mth .append (.slot 2) (.cons (.tup (.cons (.slot 3) (.cons (.slot 5) .nil))) .nil)))
   .nil)))
  (.cons (.ret (.slot 2))
  .nil)))))⟩
/-- eigenvalues -/
def F_eigenvalues : Fn := ⟨2, 2,
  (.cons (.ret (.call 31 (.cons (.slot 0) (.cons (.call 21 (.cons (.slot 0) (.cons (.slot 1) .nil))) .nil))))
  .nil)⟩
/-- splits -/
def F_splits : Fn := ⟨2, 4,
  (.cons (.ret (.cmp .Eq (.bic .sum (.mk [2, 3] (.tup (.cons (.slot 2) (.cons (.slot 3) .nil))) (.seq (.call 32 (.cons (.slot 0) (.cons (.slot 1) .nil)))) .yes (.slot 3))) (.ix (.slot 1) (.lit (.int 0)))))
  .nil)⟩
/-- jordan_block -/
def F_jordan_block : Fn := ⟨3, 7,
  (.cons (.expr (.call 18 (.cons (.slot 0) .nil)))
  (.cons (.asg (.slot 3) (.lst .nil))
  (.cons (.forS (.slot 4) (.range1 (.slot 2)) (.cons (.asg (.slot 5) (.lc (.mk [6] (.slot 6) (.range1 (.slot 2)) .yes .bad)))
   (.cons (.asg (.ix (.slot 5) (.slot 4)) (.slot 1))
   (.cons (.ite (.val (.cmp .Lt (.bin .Add (.slot 4) (.lit (.int 1))) (.slot 2))) (.cons (.asg (.ix (.slot 5) (.bin .Add (.slot 4) (.lit (.int 1)))) .bad)
    .nil) .nil)
   (.cons (.expr (.mth .append (.slot 3) (.cons (.bi .tuple (.cons (.slot 5) .nil)) .nil)))
   .nil)))))
  (.cons (.ret (.tup (.cons (.slot 2) (.cons (.slot 2) (.cons (.bi .tuple (.cons (.slot 3) .nil)) .nil)))))
  .nil))))⟩
/-- jordan -/
def F_jordan : Fn := ⟨2, 16,
  (.cons (.expr (.call 18 (.cons (.slot 0) .nil)))
  (.cons (.expr (.call 20 (.cons (.slot 1) .nil)))
  (.cons (.ite (.not (.val (.call 33 (.cons (.slot 0) (.cons (.slot 1) .nil))))) (.cons (.ret (.lit .non))
   .nil) .nil)
  (.cons (.asg (.slot 2) (.lst .nil))
  (.cons (.forS (.tup (.cons (.slot 8) (.cons (.slot 4) .nil))) (.seq (.call 27 (.cons (.slot 0) (.cons (.slot 1) .nil)))) (.cons (.expr (.mth .extend (.slot 2) (.cons .bad .nil)))
   .nil))
  (.cons (.asg (.slot 3) (.lst .nil))
  (.cons (.forS (.tup (.cons (.slot 9) (.cons (.slot 10) .nil))) (.seq (.call 32 (.cons (.slot 0) (.cons (.slot 1) .nil)))) (.cons (.asg (.slot 11) .bad)
   (.cons (.expr (.mth .extend (.slot 3) (.cons (.lc (.mk [10, 14] (.tup (.cons (.slot 10) (.cons (.slot 14) .nil))) (.seq (.slot 11)) .yes (.ix (.slot 2) (.slot 14)))) .nil)))
   .nil)))
  (.cons (.asg (.slot 4) (.lst .nil))
  (.cons (.forS (.tup (.cons (.slot 10) (.cons (.slot 10) (.cons (.slot 12) .nil)))) (.seq (.slot 3)) (.cons (.expr (.mth .extend (.slot 4) (.cons (.slot 12) .nil)))
   .nil))
  (.cons (.asg (.slot 5) .bad)
  (.cons (.asg (.slot 6) (.bic .tuple (.mk [9, 13, 10] (.tup (.cons (.slot 9) (.cons (.slot 13) (.cons (.slot 10) .nil)))) (.seq (.slot 3)) .yes (.tup (.cons (.slot 9) (.cons (.slot 13) .nil))))))
  (.cons (.asg (.slot 7) .bad)
  (.cons (.ret (.tup (.cons (.slot 6) (.cons (.slot 7) (.cons (.slot 5) (.cons .bad .nil))))))
  .nil)))))))))))))⟩
/-- unsplit -/
def F_unsplit : Fn := ⟨2, 5,
  (.cons (.asg (.slot 2) (.call 21 (.cons (.slot 0) (.cons (.slot 1) .nil))))
  (.cons (.forS (.tup (.cons (.slot 3) (.cons (.slot 4) .nil))) (.seq (.call 31 (.cons (.slot 0) (.cons (.slot 2) .nil)))) (.cons (.asg (.slot 2) (.ix .bad (.lit (.int 0))))
   .nil))
  (.cons (.ret (.ite (.val (.cmp .Gt (.bi .len (.cons (.slot 2) .nil)) (.lit (.int 1)))) (.slot 2) (.lit .non)))
  .nil)))⟩
/-- is_diagonal -/
def F_is_diagonal : Fn := ⟨2, 4,
  (.cons (.ret (.and (.call 33 (.cons (.slot 0) (.cons (.slot 1) .nil))) (.bic .all (.mk [2, 3] (.tup (.cons (.slot 2) (.cons (.slot 3) .nil))) (.seq (.call 31 (.cons (.slot 0) (.cons (.call 24 (.cons (.slot 0) (.cons (.slot 1) .nil))) .nil)))) .yes (.cmp .Eq (.slot 3) (.lit (.int 1)))))))
  .nil)⟩
/-- _law_single -/
def L_single : Fn := ⟨2, 4,
  (.cons (.asg (.slot 2) (.lst (.cons (.lit (.fn 21)) (.cons (.lit (.fn 24)) (.cons (.lit (.fn 25)) (.cons (.lit (.fn 28)) (.cons (.lit (.fn 30)) (.cons (.lit (.fn 32)) (.cons (.lit (.fn 35)) (.cons (.lit (.fn 36)) (.cons (.lit (.fn 37)) .nil)))))))))))
  (.cons (.ret (.lc (.mk [3] (.slot 3) (.seq (.slot 2)) .yes (.tup (.cons (.slot 3) (.cons (.tup (.cons (.slot 0) (.cons (.slot 1) .nil))) .nil))))))
  .nil))⟩
/-- similarity -/
def F_similarity : Fn := ⟨3, 9,
  (.cons (.expr (.call 18 (.cons (.slot 0) .nil)))
  (.cons (.expr (.call 20 (.cons (.slot 1) .nil)))
  (.cons (.expr (.call 19 (.cons (.cmp .Eq (.sl (.slot 1) .none (.some (.lit (.int 2)))) (.sl (.slot 2) .none (.some (.lit (.int 2))))) .nil)))
  (.cons (.asg (.tup (.cons (.slot 3) (.cons (.slot 4) (.cons (.slot 5) .nil)))) (.call 30 (.cons (.slot 0) (.cons (.slot 1) .nil))))
  (.cons (.asg (.tup (.cons (.slot 6) (.cons (.slot 7) (.cons (.slot 8) .nil)))) (.call 30 (.cons (.slot 0) (.cons (.slot 2) .nil))))
  (.cons (.ite (.or (.val (.cmp .NotEq (.slot 3) (.slot 6))) (.val (.cmp .NotEq (.call 28 (.cons (.slot 0) (.cons (.slot 1) .nil))) (.call 28 (.cons (.slot 0) (.cons (.slot 2) .nil)))))) (.cons (.ret (.lit .non))
   .nil) .nil)
  (.cons (.ret (.tup (.cons .bad (.cons .bad .nil))))
  .nil)))))))⟩
/-- difference -/
def F_difference : Fn := ⟨3, 6,
  (.cons (.expr (.call 18 (.cons (.slot 0) .nil)))
  (.cons (.expr (.call 20 (.cons (.slot 1) .nil)))
  (.cons (.expr (.call 19 (.cons (.cmp .Eq (.sl (.slot 1) .none (.some (.lit (.int 2)))) (.sl (.slot 2) .none (.some (.lit (.int 2))))) .nil)))
  (.cons (.asg (.slot 3) (.bi .list (.cons (.call 28 (.cons (.slot 0) (.cons (.slot 1) .nil))) .nil)))
  (.cons (.asg (.slot 4) (.bi .list (.cons (.call 28 (.cons (.slot 0) (.cons (.slot 2) .nil))) .nil)))
  (.cons (.whileS (.and (.val (.slot 3)) (.and (.val (.slot 4)) (.val (.cmp .Eq (.ix (.slot 3) (.neg (.lit (.int 1)))) (.ix (.slot 4) (.neg (.lit (.int 1)))))))) (.cons (.expr (.mth .pop (.slot 3) .nil))
   (.cons (.expr (.mth .pop (.slot 4) .nil))
   .nil)))
  (.cons (.forS (.slot 5) (.seq (.bin .Add (.sl (.slot 3) (.some (.neg (.lit (.int 1)))) .none) (.sl (.slot 4) (.some (.neg (.lit (.int 1)))) .none))) (.cons (.ite (.val (.cmp .NotEq .bad .bad)) (.cons (.ret (.slot 5))
    .nil) .nil)
   .nil))
  (.cons (.ret (.lit .non))
  .nil))))))))⟩
/-- _law_double -/
def L_double : Fn := ⟨4, 4,
  (.cons (.ret (.lst (.cons (.tup (.cons (.lit (.fn 22)) (.cons (.tup (.cons (.slot 0) (.cons (.slot 1) (.cons (.slot 3) .nil)))) .nil))) (.cons (.tup (.cons (.lit (.fn 26)) (.cons (.tup (.cons (.slot 0) (.cons (.slot 1) (.cons (.slot 3) .nil)))) .nil))) (.cons (.tup (.cons (.lit (.fn 39)) (.cons (.tup (.cons (.slot 0) (.cons (.slot 1) (.cons (.slot 2) .nil)))) .nil))) (.cons (.tup (.cons (.lit (.fn 40)) (.cons (.tup (.cons (.slot 0) (.cons (.slot 1) (.cons (.slot 2) .nil)))) .nil))) .nil))))))
  .nil)⟩
/-- _law_no_domain -/
def L_no_domain : Fn := ⟨1, 2,
  (.cons (.asg (.slot 1) (.lst (.cons (.tup (.cons (.lit (.str "R")) .nil)) (.cons (.tup (.cons (.lit (.str "F")) (.cons (.lit (.int 4)) .nil))) (.cons (.tup (.cons (.lit (.str "F")) (.cons (.lit (.int 1)) .nil))) (.cons (.tup (.cons (.lit (.str "F")) (.cons (.lit (.int 0)) .nil))) (.cons (.tup (.cons (.lit (.str "F")) (.cons (.lit (.int 65537)) .nil))) (.cons (.tup (.cons (.lit (.str "F")) (.cons (.lit (.int 561)) .nil))) (.cons (.tup (.cons (.lit (.str "F")) (.cons (.bin .Sub (.lit (.int 0)) (.lit (.int 3))) .nil))) (.cons (.tup (.cons (.lit (.str "F")) .nil)) (.cons (.tup (.cons (.lit (.str "F")) (.cons (.lit (.bl true)) .nil))) (.cons (.tup (.cons (.lit (.str "F")) (.cons (.lit (.str "2")) .nil))) (.cons (.tup .nil) .nil)))))))))))))
  (.cons (.asg (.slot 1) (.bin .Add (.slot 1) (.lst (.cons (.tup (.cons (.lit (.str "Z")) (.cons (.lit (.int 1)) .nil))) (.cons (.tup (.cons (.lit (.str "Q")) (.cons (.lit (.int 1)) .nil))) (.cons (.tup (.cons (.lit (.str "P")) .nil)) (.cons (.tup (.cons (.lit (.str "P")) (.cons (.tup (.cons (.lit (.str "Z")) .nil)) .nil))) (.cons (.tup (.cons (.lit (.str "P")) (.cons (.tup (.cons (.lit (.str "P")) (.cons (.tup (.cons (.lit (.str "Q")) .nil)) .nil))) .nil))) (.cons (.tup (.cons (.lit (.str "P")) (.cons (.tup (.cons (.lit (.str "F")) (.cons (.lit (.int 9)) .nil))) .nil))) (.cons (.lit (.str "Z")) (.cons (.lit .non) (.cons (.lit (.int 7)) (.cons (.lit (.bl true)) (.cons (.lit (.str "ZZ")) .nil))))))))))))))
  (.cons (.ret (.ix (.slot 1) (.call 2 (.cons (.slot 0) (.cons (.bi .len (.cons (.slot 1) .nil)) .nil)))))
  .nil)))⟩
/-- law -/
def F_law : Fn := ⟨1, 15,
  (.cons (.asg (.slot 1) (.call 0 (.cons (.slot 0) .nil)))
  (.cons (.asg (.slot 2) (.call 4 (.cons (.slot 1) .nil)))
  (.cons (.asg (.slot 3) (.bin .Add (.lit (.int 1)) (.call 2 (.cons (.slot 1) (.cons (.lit (.int 3)) .nil)))))
  (.cons (.asg (.slot 4) (.ix (.lst (.cons (.bin .Sub (.slot 3) (.lit (.int 1))) (.cons (.bin .Add (.slot 3) (.lit (.int 1))) .nil))) (.call 2 (.cons (.slot 1) (.cons (.lit (.int 2)) .nil)))))
  (.cons (.ite (.val (.cmp .Eq (.call 2 (.cons (.slot 1) (.cons (.lit (.int 2)) .nil))) (.lit (.int 0)))) (.cons (.asg (.slot 11) (.ix (.lst (.cons (.tup (.cons (.lit (.str "Z")) .nil)) (.cons (.tup (.cons (.lit (.str "P")) (.cons (.slot 2) .nil))) .nil))) (.call 2 (.cons (.slot 1) (.cons (.lit (.int 2)) .nil)))))
   (.cons (.asg (.slot 5) (.call 10 (.cons (.slot 1) (.cons (.slot 11) (.cons (.slot 3) (.cons (.ix (.lst (.cons (.slot 3) (.cons (.slot 4) .nil))) (.call 2 (.cons (.slot 1) (.cons (.lit (.int 2)) .nil)))) .nil))))))
   (.cons (.asg (.slot 12) (.call 9 (.cons (.slot 1) (.cons (.slot 11) .nil))))
   (.cons (.asg (.slot 8) (.bic .tuple (.mk [14] (.slot 14) (.range1 (.slot 3)) .yes (.call 9 (.cons (.slot 1) (.cons (.slot 11) .nil))))))
   (.cons (.asg (.slot 13) (.call 14 (.cons (.slot 11) (.cons (.lit (.int 1)) .nil))))
   (.cons (.ite (.val (.cmp .Eq (.call 2 (.cons (.slot 1) (.cons (.lit (.int 2)) .nil))) (.lit (.int 0)))) (.cons (.asg (.slot 11) (.call 42 (.cons (.slot 1) .nil)))
    .nil) .nil)
   (.cons (.asg (.slot 9) (.bin .Add (.bin .Add (.call 38 (.cons (.slot 11) (.cons (.slot 5) .nil))) (.call 41 (.cons (.slot 11) (.cons (.slot 5) (.cons (.slot 5) (.cons (.slot 8) .nil)))))) (.lst (.cons (.tup (.cons (.lit (.fn 29)) (.cons (.tup (.cons (.slot 11) (.cons (.tup (.cons (.slot 12) (.cons (.slot 13) .nil))) .nil))) .nil))) (.cons (.tup (.cons (.lit (.fn 34)) (.cons (.tup (.cons (.slot 11) (.cons (.slot 12) (.cons (.lit (.int 2)) .nil)))) .nil))) .nil)))))
   (.cons (.ret (.call 13 (.cons (.slot 9) (.cons (.lit (.str "domain")) .nil))))
   .nil)))))))) .nil)
  (.cons (.asg (.slot 5) (.call 10 (.cons (.slot 1) (.cons (.slot 2) (.cons (.slot 3) (.cons (.slot 4) .nil))))))
  (.cons (.asg (.slot 6) (.call 10 (.cons (.slot 1) (.cons (.slot 2) (.cons (.slot 3) (.cons (.slot 3) .nil))))))
  (.cons (.asg (.slot 7) (.call 10 (.cons (.slot 1) (.cons (.slot 2) (.cons (.slot 4) (.cons (.slot 4) .nil))))))
  (.cons (.asg (.slot 8) (.bic .tuple (.mk [14] (.slot 14) (.range1 (.slot 3)) .yes (.call 9 (.cons (.slot 1) (.cons (.slot 2) .nil))))))
  (.cons (.asg (.slot 9) (.bin .Add (.call 38 (.cons (.slot 2) (.cons (.slot 5) .nil))) (.call 41 (.cons (.slot 2) (.cons (.slot 5) (.cons (.slot 5) (.cons (.slot 8) .nil)))))))
  (.cons (.asg (.slot 10) (.bic .tuple (.mk [14] (.slot 14) (.range1 (.slot 4)) .yes (.call 9 (.cons (.slot 1) (.cons (.slot 2) .nil))))))
  (.cons (.asg (.slot 9) (.bin .Add (.slot 9) (.lst (.cons (.tup (.cons (.lit (.fn 22)) (.cons (.tup (.cons (.slot 2) (.cons (.slot 6) (.cons (.slot 10) .nil)))) .nil))) (.cons (.tup (.cons (.lit (.fn 26)) (.cons (.tup (.cons (.slot 2) (.cons (.slot 6) (.cons (.slot 10) .nil)))) .nil))) (.cons (.tup (.cons (.lit (.fn 39)) (.cons (.tup (.cons (.slot 2) (.cons (.slot 6) (.cons (.slot 7) .nil)))) .nil))) .nil))))))
  (.cons (.ret (.call 13 (.cons (.bin .Add (.slot 9) (.lst (.cons (.tup (.cons (.lit (.fn 40)) (.cons (.tup (.cons (.slot 2) (.cons (.slot 6) (.cons (.slot 7) .nil)))) .nil))) (.cons (.tup (.cons (.lit (.fn 39)) (.cons (.tup (.cons (.slot 2) (.cons (.slot 7) (.cons (.slot 6) .nil)))) .nil))) .nil)))) (.cons (.lit (.str "shape")) .nil))))
  .nil)))))))))))))⟩
def n0 : List Str := ["_law_script", "_law_cell"]
def n1 : List Str := ["_law_c", "_law_number_here"]
def n2 : List Str := ["_law_c", "_law_many", "_law_digit"]
def n3 : List Str := ["_law_c", "_law_p", "_law_k"]
def n4 : List Str := ["_law_c", "_law_primes", "_law_k"]
def n5 : List Str := ["_law_a", "_law_b", "_law_rest"]
def n6 : List Str := ["_law_n", "_law_m", "_law_g"]
def n7 : List Str := ["_law_d"]
def n8 : List Str := ["_law_f", "_law_parts", "_law_many"]
def n9 : List Str := ["_law_c", "_law_d", "_law_k"]
def n10 : List Str := ["_law_c", "_law_d", "_law_m", "_law_n", "_law_i", "_law_j"]
def n11 : List Str := ["_law_f", "_law_args"]
def n12 : List Str := ["_law_f", "_law_args", "e", "_law_good"]
def n13 : List Str := ["_law_rows", "_law_due", "_law_row"]
def n14 : List Str := ["_law_d", "_law_n"]
def n15 : List Str := ["x"]
def n16 : List Str := ["n", "k"]
def n17 : List Str := ["d"]
def n18 : List Str := ["d"]
def n19 : List Str := ["holds"]
def n20 : List Str := ["a"]
def n21 : List Str := ["f", "a", "d", "rows", "found", "k", "current", "product", "i", "factor"]
def n22 : List Str := ["f", "a", "v", "span", "found"]
def n23 : List Str := ["f", "a", "n", "found", "k", "v", "x"]
def n24 : List Str := ["f", "a"]
def n25 : List Str := ["f", "a"]
def n26 : List Str := ["f", "a", "v", "many", "columns", "_"]
def n27 : List Str := ["f", "a", "found", "place", "columns", "vector", "polynomial", "basis"]
def n28 : List Str := ["f", "a", "polynomial", "_"]
def n29 : List Str := ["f", "g", "n", "rows", "i", "row", "j"]
def n30 : List Str := ["f", "a", "blocks", "t", "form", "_", "columns", "k", "polynomial"]
def n31 : List Str := ["f", "a", "found", "x", "different", "k"]
def n32 : List Str := ["f", "a"]
def n33 : List Str := ["f", "a", "_", "k"]
def n34 : List Str := ["f", "x", "k", "rows", "i", "row", "j"]
def n35 : List Str := ["f", "a", "found", "ordered", "columns", "t", "blocks", "form", "polynomial", "x", "_", "sizes", "own", "k", "index", "block"]
def n36 : List Str := ["f", "a", "rest", "x", "_"]
def n37 : List Str := ["f", "a", "_", "k"]
def n38 : List Str := ["_law_d", "_law_a", "_law_found", "_law_f"]
def n39 : List Str := ["f", "a", "b", "first", "t", "s", "second", "x", "y"]
def n40 : List Str := ["f", "a", "b", "left", "right", "polynomial"]
def n41 : List Str := ["_law_d", "_law_a", "_law_b", "_law_v"]
def n42 : List Str := ["_law_c", "_law_rows"]
def n43 : List Str := ["_law_script", "_law_c", "_law_f", "_law_n", "_law_k", "_law_a", "_law_square", "_law_other", "_law_v", "_law_rows", "_law_short", "_law_d", "_law_x", "_law_one", "_law_j"]
def fs : List (Nat × Fn) := [(0, L_start), (1, L_fill), (2, L_take), (3, L_some_prime), (4, L_field), (5, L_common), (6, L_fraction), (7, L_zero), (8, L_strip), (9, L_small), (10, L_matrix), (11, L_called), (12, L_class), (13, L_all), (14, L_number), (15, F_is_integer), (16, F_is_prime), (17, F_is_field), (18, F_need_field), (19, F_need_shape), (20, F_need_square), (21, F_characteristic), (22, F_annihilator), (23, F_cyclic_pair), (24, F_minimal), (25, F_cyclic_vector), (26, F_krylov), (27, F_decompose), (28, F_invariant_factors), (29, F_companion), (30, F_frobenius), (31, F_roots), (32, F_eigenvalues), (33, F_splits), (34, F_jordan_block), (35, F_jordan), (36, F_unsplit), (37, F_is_diagonal), (38, L_single), (39, F_similarity), (40, F_difference), (41, L_double), (42, L_no_domain), (43, F_law)]
def sub : Nat → Cl → Option Bool
  | 0, .own 0 => some true
  | 0, .own 1 => some false
  | 0, .own 2 => some false
  | 0, .own 3 => some false
  | 0, .ty "ValueError" => some true
  | 1, .own 0 => some true
  | 1, .own 1 => some true
  | 1, .own 2 => some false
  | 1, .own 3 => some false
  | 1, .ty "ValueError" => some true
  | 2, .own 0 => some true
  | 2, .own 1 => some false
  | 2, .own 2 => some true
  | 2, .own 3 => some false
  | 2, .ty "ValueError" => some true
  | 3, .own 0 => some true
  | 3, .own 1 => some false
  | 3, .own 2 => some false
  | 3, .own 3 => some true
  | 3, .ty "ValueError" => some true
  | _, _ => none
def P : Prog := { fns := fun i => fs.lookup i, isSub := sub, globs := fun i => match i with | 0 => .int 65521 | _ => .non }
theorem sc0 : FnScope n0 ["_law_script"] (defScope (atTop 113)) := ⟨rfl, rfl, rfl, by decide +kernel, rfl, by decide +kernel, by decide +kernel⟩
theorem cm0 : compSs ⟨n0, gn, false⟩ 60 (defScope (atTop 113)) (defBody (atTop 113)) = L_start.body := by kernel_rfl
theorem bd0 : ∀ (kV doc pm : Value) (an : Option Addr) (cdv ct : Value) (us : List Value), us.length = (["_law_script"] : List Str).length → bindArgs (PySem.W.fnOf "_law_start" "_law_start" (defArgs (atTop 113)) (defBody (atTop 113)) (defScope (atTop 113)) .none kV doc pm an cdv ct) ⟨us, []⟩ = pure ((["_law_script"] : List Str).zip us) := fun _ _ _ _ _ _ us hl => match us, hl with | [_], _ => rfl
theorem ok0 {K : PySem.W.Frag} {mg : Str → Option Value} {a : Addr} (h : FnAt K mg "_law_start" (atTop 113) a) : DefOk K gn a L_start := h.ok sc0 (by decide +kernel) cm0 rfl rfl bd0
theorem sc1 : FnScope n1 ["_law_c"] (defScope (atTop 114)) := ⟨rfl, rfl, rfl, by decide +kernel, rfl, by decide +kernel, by decide +kernel⟩
theorem cm1 : compSs ⟨n1, gn, false⟩ 60 (defScope (atTop 114)) (defBody (atTop 114)) = L_fill.body := by kernel_rfl
theorem bd1 : ∀ (kV doc pm : Value) (an : Option Addr) (cdv ct : Value) (us : List Value), us.length = (["_law_c"] : List Str).length → bindArgs (PySem.W.fnOf "_law_fill" "_law_fill" (defArgs (atTop 114)) (defBody (atTop 114)) (defScope (atTop 114)) .none kV doc pm an cdv ct) ⟨us, []⟩ = pure ((["_law_c"] : List Str).zip us) := fun _ _ _ _ _ _ us hl => match us, hl with | [_], _ => rfl
theorem ok1 {K : PySem.W.Frag} {mg : Str → Option Value} {a : Addr} (h : FnAt K mg "_law_fill" (atTop 114) a) : DefOk K gn a L_fill := h.ok sc1 (by decide +kernel) cm1 rfl rfl bd1
theorem sc2 : FnScope n2 ["_law_c", "_law_many"] (defScope (atTop 115)) := ⟨rfl, rfl, rfl, by decide +kernel, rfl, by decide +kernel, by decide +kernel⟩
theorem cm2 : compSs ⟨n2, gn, false⟩ 60 (defScope (atTop 115)) (defBody (atTop 115)) = L_take.body := by kernel_rfl
theorem bd2 : ∀ (kV doc pm : Value) (an : Option Addr) (cdv ct : Value) (us : List Value), us.length = (["_law_c", "_law_many"] : List Str).length → bindArgs (PySem.W.fnOf "_law_take" "_law_take" (defArgs (atTop 115)) (defBody (atTop 115)) (defScope (atTop 115)) .none kV doc pm an cdv ct) ⟨us, []⟩ = pure ((["_law_c", "_law_many"] : List Str).zip us) := fun _ _ _ _ _ _ us hl => match us, hl with | [_, _], _ => rfl
theorem ok2 {K : PySem.W.Frag} {mg : Str → Option Value} {a : Addr} (h : FnAt K mg "_law_take" (atTop 115) a) : DefOk K gn a L_take := h.ok sc2 (by decide +kernel) cm2 rfl rfl bd2
theorem sc3 : FnScope n3 ["_law_c"] (defScope (atTop 128)) := ⟨rfl, rfl, rfl, by decide +kernel, rfl, by decide +kernel, by decide +kernel⟩
theorem cm3 : compSs ⟨n3, gn, false⟩ 60 (defScope (atTop 128)) (defBody (atTop 128)) = L_some_prime.body := by kernel_rfl
theorem bd3 : ∀ (kV doc pm : Value) (an : Option Addr) (cdv ct : Value) (us : List Value), us.length = (["_law_c"] : List Str).length → bindArgs (PySem.W.fnOf "_law_some_prime" "_law_some_prime" (defArgs (atTop 128)) (defBody (atTop 128)) (defScope (atTop 128)) .none kV doc pm an cdv ct) ⟨us, []⟩ = pure ((["_law_c"] : List Str).zip us) := fun _ _ _ _ _ _ us hl => match us, hl with | [_], _ => rfl
theorem ok3 {K : PySem.W.Frag} {mg : Str → Option Value} {a : Addr} (h : FnAt K mg "_law_some_prime" (atTop 128) a) : DefOk K gn a L_some_prime := h.ok sc3 (by decide +kernel) cm3 rfl rfl bd3
theorem sc4 : FnScope n4 ["_law_c"] (defScope (atTop 129)) := ⟨rfl, rfl, rfl, by decide +kernel, rfl, by decide +kernel, by decide +kernel⟩
theorem cm4 : compSs ⟨n4, gn, false⟩ 60 (defScope (atTop 129)) (defBody (atTop 129)) = L_field.body := by kernel_rfl
theorem bd4 : ∀ (kV doc pm : Value) (an : Option Addr) (cdv ct : Value) (us : List Value), us.length = (["_law_c"] : List Str).length → bindArgs (PySem.W.fnOf "_law_field" "_law_field" (defArgs (atTop 129)) (defBody (atTop 129)) (defScope (atTop 129)) .none kV doc pm an cdv ct) ⟨us, []⟩ = pure ((["_law_c"] : List Str).zip us) := fun _ _ _ _ _ _ us hl => match us, hl with | [_], _ => rfl
theorem ok4 {K : PySem.W.Frag} {mg : Str → Option Value} {a : Addr} (h : FnAt K mg "_law_field" (atTop 129) a) : DefOk K gn a L_field := h.ok sc4 (by decide +kernel) cm4 rfl rfl bd4
theorem sc5 : FnScope n5 ["_law_a", "_law_b"] (defScope (atTop 117)) := ⟨rfl, rfl, rfl, by decide +kernel, rfl, by decide +kernel, by decide +kernel⟩
theorem cm5 : compSs ⟨n5, gn, false⟩ 60 (defScope (atTop 117)) (defBody (atTop 117)) = L_common.body := by kernel_rfl
theorem bd5 : ∀ (kV doc pm : Value) (an : Option Addr) (cdv ct : Value) (us : List Value), us.length = (["_law_a", "_law_b"] : List Str).length → bindArgs (PySem.W.fnOf "_law_common" "_law_common" (defArgs (atTop 117)) (defBody (atTop 117)) (defScope (atTop 117)) .none kV doc pm an cdv ct) ⟨us, []⟩ = pure ((["_law_a", "_law_b"] : List Str).zip us) := fun _ _ _ _ _ _ us hl => match us, hl with | [_, _], _ => rfl
theorem ok5 {K : PySem.W.Frag} {mg : Str → Option Value} {a : Addr} (h : FnAt K mg "_law_common" (atTop 117) a) : DefOk K gn a L_common := h.ok sc5 (by decide +kernel) cm5 rfl rfl bd5
theorem sc6 : FnScope n6 ["_law_n", "_law_m"] (defScope (atTop 118)) := ⟨rfl, rfl, rfl, by decide +kernel, rfl, by decide +kernel, by decide +kernel⟩
theorem cm6 : compSs ⟨n6, gn, false⟩ 60 (defScope (atTop 118)) (defBody (atTop 118)) = L_fraction.body := by kernel_rfl
theorem bd6 : ∀ (kV doc pm : Value) (an : Option Addr) (cdv ct : Value) (us : List Value), us.length = (["_law_n", "_law_m"] : List Str).length → bindArgs (PySem.W.fnOf "_law_fraction" "_law_fraction" (defArgs (atTop 118)) (defBody (atTop 118)) (defScope (atTop 118)) .none kV doc pm an cdv ct) ⟨us, []⟩ = pure ((["_law_n", "_law_m"] : List Str).zip us) := fun _ _ _ _ _ _ us hl => match us, hl with | [_, _], _ => rfl
theorem ok6 {K : PySem.W.Frag} {mg : Str → Option Value} {a : Addr} (h : FnAt K mg "_law_fraction" (atTop 118) a) : DefOk K gn a L_fraction := h.ok sc6 (by decide +kernel) cm6 rfl rfl bd6
theorem sc7 : FnScope n7 ["_law_d"] (defScope (atTop 119)) := ⟨rfl, rfl, rfl, by decide +kernel, rfl, by decide +kernel, by decide +kernel⟩
theorem cm7 : compSs ⟨n7, gn, false⟩ 60 (defScope (atTop 119)) (defBody (atTop 119)) = L_zero.body := by kernel_rfl
theorem bd7 : ∀ (kV doc pm : Value) (an : Option Addr) (cdv ct : Value) (us : List Value), us.length = (["_law_d"] : List Str).length → bindArgs (PySem.W.fnOf "_law_zero" "_law_zero" (defArgs (atTop 119)) (defBody (atTop 119)) (defScope (atTop 119)) .none kV doc pm an cdv ct) ⟨us, []⟩ = pure ((["_law_d"] : List Str).zip us) := fun _ _ _ _ _ _ us hl => match us, hl with | [_], _ => rfl
theorem ok7 {K : PySem.W.Frag} {mg : Str → Option Value} {a : Addr} (h : FnAt K mg "_law_zero" (atTop 119) a) : DefOk K gn a L_zero := h.ok sc7 (by decide +kernel) cm7 rfl rfl bd7
theorem sc8 : FnScope n8 ["_law_f", "_law_parts"] (defScope (atTop 120)) := ⟨rfl, rfl, rfl, by decide +kernel, rfl, by decide +kernel, by decide +kernel⟩
theorem cm8 : compSs ⟨n8, gn, false⟩ 60 (defScope (atTop 120)) (defBody (atTop 120)) = L_strip.body := by kernel_rfl
theorem bd8 : ∀ (kV doc pm : Value) (an : Option Addr) (cdv ct : Value) (us : List Value), us.length = (["_law_f", "_law_parts"] : List Str).length → bindArgs (PySem.W.fnOf "_law_strip" "_law_strip" (defArgs (atTop 120)) (defBody (atTop 120)) (defScope (atTop 120)) .none kV doc pm an cdv ct) ⟨us, []⟩ = pure ((["_law_f", "_law_parts"] : List Str).zip us) := fun _ _ _ _ _ _ us hl => match us, hl with | [_, _], _ => rfl
theorem ok8 {K : PySem.W.Frag} {mg : Str → Option Value} {a : Addr} (h : FnAt K mg "_law_strip" (atTop 120) a) : DefOk K gn a L_strip := h.ok sc8 (by decide +kernel) cm8 rfl rfl bd8
theorem sc9 : FnScope n9 ["_law_c", "_law_d"] (defScope (atTop 133)) := ⟨rfl, rfl, rfl, by decide +kernel, rfl, by decide +kernel, by decide +kernel⟩
theorem cm9 : compSs ⟨n9, gn, false⟩ 60 (defScope (atTop 133)) (defBody (atTop 133)) = L_small.body := by kernel_rfl
theorem bd9 : ∀ (kV doc pm : Value) (an : Option Addr) (cdv ct : Value) (us : List Value), us.length = (["_law_c", "_law_d"] : List Str).length → bindArgs (PySem.W.fnOf "_law_small" "_law_small" (defArgs (atTop 133)) (defBody (atTop 133)) (defScope (atTop 133)) .none kV doc pm an cdv ct) ⟨us, []⟩ = pure ((["_law_c", "_law_d"] : List Str).zip us) := fun _ _ _ _ _ _ us hl => match us, hl with | [_, _], _ => rfl
theorem ok9 {K : PySem.W.Frag} {mg : Str → Option Value} {a : Addr} (h : FnAt K mg "_law_small" (atTop 133) a) : DefOk K gn a L_small := h.ok sc9 (by decide +kernel) cm9 rfl rfl bd9
theorem sc10 : FnScope n10 ["_law_c", "_law_d", "_law_m", "_law_n"] (defScope (atTop 134)) := ⟨rfl, rfl, rfl, by decide +kernel, rfl, by decide +kernel, by decide +kernel⟩
theorem cm10 : compSs ⟨n10, gn, false⟩ 60 (defScope (atTop 134)) (defBody (atTop 134)) = L_matrix.body := by kernel_rfl
theorem bd10 : ∀ (kV doc pm : Value) (an : Option Addr) (cdv ct : Value) (us : List Value), us.length = (["_law_c", "_law_d", "_law_m", "_law_n"] : List Str).length → bindArgs (PySem.W.fnOf "_law_matrix" "_law_matrix" (defArgs (atTop 134)) (defBody (atTop 134)) (defScope (atTop 134)) .none kV doc pm an cdv ct) ⟨us, []⟩ = pure ((["_law_c", "_law_d", "_law_m", "_law_n"] : List Str).zip us) := fun _ _ _ _ _ _ us hl => match us, hl with | [_, _, _, _], _ => rfl
theorem ok10 {K : PySem.W.Frag} {mg : Str → Option Value} {a : Addr} (h : FnAt K mg "_law_matrix" (atTop 134) a) : DefOk K gn a L_matrix := h.ok sc10 (by decide +kernel) cm10 rfl rfl bd10
theorem sc11 : FnScope n11 ["_law_f", "_law_args"] (defScope (atTop 141)) := ⟨rfl, rfl, rfl, by decide +kernel, rfl, by decide +kernel, by decide +kernel⟩
theorem cm11 : compSs ⟨n11, gn, false⟩ 60 (defScope (atTop 141)) (defBody (atTop 141)) = L_called.body := by kernel_rfl
theorem bd11 : ∀ (kV doc pm : Value) (an : Option Addr) (cdv ct : Value) (us : List Value), us.length = (["_law_f", "_law_args"] : List Str).length → bindArgs (PySem.W.fnOf "_law_called" "_law_called" (defArgs (atTop 141)) (defBody (atTop 141)) (defScope (atTop 141)) .none kV doc pm an cdv ct) ⟨us, []⟩ = pure ((["_law_f", "_law_args"] : List Str).zip us) := fun _ _ _ _ _ _ us hl => match us, hl with | [_, _], _ => rfl
theorem ok11 {K : PySem.W.Frag} {mg : Str → Option Value} {a : Addr} (h : FnAt K mg "_law_called" (atTop 141) a) : DefOk K gn a L_called := h.ok sc11 (by decide +kernel) cm11 rfl rfl bd11
theorem sc12 : FnScope n12 ["_law_f", "_law_args"] (defScope (atTop 142)) := ⟨rfl, rfl, rfl, by decide +kernel, rfl, by decide +kernel, by decide +kernel⟩
theorem cm12 : compSs ⟨n12, gn, false⟩ 60 (defScope (atTop 142)) (defBody (atTop 142)) = L_class.body := by kernel_rfl
theorem bd12 : ∀ (kV doc pm : Value) (an : Option Addr) (cdv ct : Value) (us : List Value), us.length = (["_law_f", "_law_args"] : List Str).length → bindArgs (PySem.W.fnOf "_law_class" "_law_class" (defArgs (atTop 142)) (defBody (atTop 142)) (defScope (atTop 142)) .none kV doc pm an cdv ct) ⟨us, []⟩ = pure ((["_law_f", "_law_args"] : List Str).zip us) := fun _ _ _ _ _ _ us hl => match us, hl with | [_, _], _ => rfl
theorem ok12 {K : PySem.W.Frag} {mg : Str → Option Value} {a : Addr} (h : FnAt K mg "_law_class" (atTop 142) a) : DefOk K gn a L_class := h.ok sc12 (by decide +kernel) cm12 rfl rfl bd12
theorem sc13 : FnScope n13 ["_law_rows", "_law_due"] (defScope (atTop 143)) := ⟨rfl, rfl, rfl, by decide +kernel, rfl, by decide +kernel, by decide +kernel⟩
theorem cm13 : compSs ⟨n13, gn, false⟩ 60 (defScope (atTop 143)) (defBody (atTop 143)) = L_all.body := by kernel_rfl
theorem bd13 : ∀ (kV doc pm : Value) (an : Option Addr) (cdv ct : Value) (us : List Value), us.length = (["_law_rows", "_law_due"] : List Str).length → bindArgs (PySem.W.fnOf "_law_all" "_law_all" (defArgs (atTop 143)) (defBody (atTop 143)) (defScope (atTop 143)) .none kV doc pm an cdv ct) ⟨us, []⟩ = pure ((["_law_rows", "_law_due"] : List Str).zip us) := fun _ _ _ _ _ _ us hl => match us, hl with | [_, _], _ => rfl
theorem ok13 {K : PySem.W.Frag} {mg : Str → Option Value} {a : Addr} (h : FnAt K mg "_law_all" (atTop 143) a) : DefOk K gn a L_all := h.ok sc13 (by decide +kernel) cm13 rfl rfl bd13
theorem sc14 : FnScope n14 ["_law_d", "_law_n"] (defScope (atTop 121)) := ⟨rfl, rfl, rfl, by decide +kernel, rfl, by decide +kernel, by decide +kernel⟩
theorem cm14 : compSs ⟨n14, gn, false⟩ 60 (defScope (atTop 121)) (defBody (atTop 121)) = L_number.body := by kernel_rfl
theorem bd14 : ∀ (kV doc pm : Value) (an : Option Addr) (cdv ct : Value) (us : List Value), us.length = (["_law_d", "_law_n"] : List Str).length → bindArgs (PySem.W.fnOf "_law_number" "_law_number" (defArgs (atTop 121)) (defBody (atTop 121)) (defScope (atTop 121)) .none kV doc pm an cdv ct) ⟨us, []⟩ = pure ((["_law_d", "_law_n"] : List Str).zip us) := fun _ _ _ _ _ _ us hl => match us, hl with | [_, _], _ => rfl
theorem ok14 {K : PySem.W.Frag} {mg : Str → Option Value} {a : Addr} (h : FnAt K mg "_law_number" (atTop 121) a) : DefOk K gn a L_number := h.ok sc14 (by decide +kernel) cm14 rfl rfl bd14
theorem sc15 : FnScope n15 ["x"] (defScope (atTop 15)) := ⟨rfl, rfl, rfl, by decide +kernel, rfl, by decide +kernel, by decide +kernel⟩
theorem cm15 : compSs ⟨n15, gn, false⟩ 60 (defScope (atTop 15)) (defBody (atTop 15)) = F_is_integer.body := by kernel_rfl
theorem bd15 : ∀ (kV doc pm : Value) (an : Option Addr) (cdv ct : Value) (us : List Value), us.length = (["x"] : List Str).length → bindArgs (PySem.W.fnOf "is_integer" "is_integer" (defArgs (atTop 15)) (defBody (atTop 15)) (defScope (atTop 15)) .none kV doc pm an cdv ct) ⟨us, []⟩ = pure ((["x"] : List Str).zip us) := fun _ _ _ _ _ _ us hl => match us, hl with | [_], _ => rfl
theorem ok15 {K : PySem.W.Frag} {mg : Str → Option Value} {a : Addr} (h : FnAt K mg "is_integer" (atTop 15) a) : DefOk K gn a F_is_integer := h.ok sc15 (by decide +kernel) cm15 rfl rfl bd15
theorem sc16 : FnScope n16 ["n"] (defScope (atTop 8)) := ⟨rfl, rfl, rfl, by decide +kernel, rfl, by decide +kernel, by decide +kernel⟩
theorem cm16 : compSs ⟨n16, gn, false⟩ 60 (defScope (atTop 8)) (defBody (atTop 8)) = F_is_prime.body := by kernel_rfl
theorem bd16 : ∀ (kV doc pm : Value) (an : Option Addr) (cdv ct : Value) (us : List Value), us.length = (["n"] : List Str).length → bindArgs (PySem.W.fnOf "is_prime" "is_prime" (defArgs (atTop 8)) (defBody (atTop 8)) (defScope (atTop 8)) .none kV doc pm an cdv ct) ⟨us, []⟩ = pure ((["n"] : List Str).zip us) := fun _ _ _ _ _ _ us hl => match us, hl with | [_], _ => rfl
theorem ok16 {K : PySem.W.Frag} {mg : Str → Option Value} {a : Addr} (h : FnAt K mg "is_prime" (atTop 8) a) : DefOk K gn a F_is_prime := h.ok sc16 (by decide +kernel) cm16 rfl rfl bd16
theorem sc17 : FnScope n17 ["d"] (defScope (atTop 17)) := ⟨rfl, rfl, rfl, by decide +kernel, rfl, by decide +kernel, by decide +kernel⟩
theorem cm17 : compSs ⟨n17, gn, false⟩ 60 (defScope (atTop 17)) (defBody (atTop 17)) = F_is_field.body := by kernel_rfl
theorem bd17 : ∀ (kV doc pm : Value) (an : Option Addr) (cdv ct : Value) (us : List Value), us.length = (["d"] : List Str).length → bindArgs (PySem.W.fnOf "is_field" "is_field" (defArgs (atTop 17)) (defBody (atTop 17)) (defScope (atTop 17)) .none kV doc pm an cdv ct) ⟨us, []⟩ = pure ((["d"] : List Str).zip us) := fun _ _ _ _ _ _ us hl => match us, hl with | [_], _ => rfl
theorem ok17 {K : PySem.W.Frag} {mg : Str → Option Value} {a : Addr} (h : FnAt K mg "is_field" (atTop 17) a) : DefOk K gn a F_is_field := h.ok sc17 (by decide +kernel) cm17 rfl rfl bd17
theorem sc18 : FnScope n18 ["d"] (defScope (atTop 20)) := ⟨rfl, rfl, rfl, by decide +kernel, rfl, by decide +kernel, by decide +kernel⟩
theorem cm18 : compSs ⟨n18, gn, false⟩ 60 (defScope (atTop 20)) (defBody (atTop 20)) = F_need_field.body := by kernel_rfl
theorem bd18 : ∀ (kV doc pm : Value) (an : Option Addr) (cdv ct : Value) (us : List Value), us.length = (["d"] : List Str).length → bindArgs (PySem.W.fnOf "need_field" "need_field" (defArgs (atTop 20)) (defBody (atTop 20)) (defScope (atTop 20)) .none kV doc pm an cdv ct) ⟨us, []⟩ = pure ((["d"] : List Str).zip us) := fun _ _ _ _ _ _ us hl => match us, hl with | [_], _ => rfl
theorem ok18 {K : PySem.W.Frag} {mg : Str → Option Value} {a : Addr} (h : FnAt K mg "need_field" (atTop 20) a) : DefOk K gn a F_need_field := h.ok sc18 (by decide +kernel) cm18 rfl rfl bd18
theorem sc19 : FnScope n19 ["holds"] (defScope (atTop 35)) := ⟨rfl, rfl, rfl, by decide +kernel, rfl, by decide +kernel, by decide +kernel⟩
theorem cm19 : compSs ⟨n19, gn, false⟩ 60 (defScope (atTop 35)) (defBody (atTop 35)) = F_need_shape.body := by kernel_rfl
theorem bd19 : ∀ (kV doc pm : Value) (an : Option Addr) (cdv ct : Value) (us : List Value), us.length = (["holds"] : List Str).length → bindArgs (PySem.W.fnOf "need_shape" "need_shape" (defArgs (atTop 35)) (defBody (atTop 35)) (defScope (atTop 35)) .none kV doc pm an cdv ct) ⟨us, []⟩ = pure ((["holds"] : List Str).zip us) := fun _ _ _ _ _ _ us hl => match us, hl with | [_], _ => rfl
theorem ok19 {K : PySem.W.Frag} {mg : Str → Option Value} {a : Addr} (h : FnAt K mg "need_shape" (atTop 35) a) : DefOk K gn a F_need_shape := h.ok sc19 (by decide +kernel) cm19 rfl rfl bd19
theorem sc20 : FnScope n20 ["a"] (defScope (atTop 36)) := ⟨rfl, rfl, rfl, by decide +kernel, rfl, by decide +kernel, by decide +kernel⟩
theorem cm20 : compSs ⟨n20, gn, false⟩ 60 (defScope (atTop 36)) (defBody (atTop 36)) = F_need_square.body := by kernel_rfl
theorem bd20 : ∀ (kV doc pm : Value) (an : Option Addr) (cdv ct : Value) (us : List Value), us.length = (["a"] : List Str).length → bindArgs (PySem.W.fnOf "need_square" "need_square" (defArgs (atTop 36)) (defBody (atTop 36)) (defScope (atTop 36)) .none kV doc pm an cdv ct) ⟨us, []⟩ = pure ((["a"] : List Str).zip us) := fun _ _ _ _ _ _ us hl => match us, hl with | [_], _ => rfl
theorem ok20 {K : PySem.W.Frag} {mg : Str → Option Value} {a : Addr} (h : FnAt K mg "need_square" (atTop 36) a) : DefOk K gn a F_need_square := h.ok sc20 (by decide +kernel) cm20 rfl rfl bd20
theorem sc21 : FnScope n21 ["f", "a"] (defScope (atTop 60)) := ⟨rfl, rfl, rfl, by decide +kernel, rfl, by decide +kernel, by decide +kernel⟩
theorem cm21 : compSs ⟨n21, gn, false⟩ 60 (defScope (atTop 60)) (defBody (atTop 60)) = F_characteristic.body := by kernel_rfl
theorem bd21 : ∀ (kV doc pm : Value) (an : Option Addr) (cdv ct : Value) (us : List Value), us.length = (["f", "a"] : List Str).length → bindArgs (PySem.W.fnOf "characteristic" "characteristic" (defArgs (atTop 60)) (defBody (atTop 60)) (defScope (atTop 60)) .none kV doc pm an cdv ct) ⟨us, []⟩ = pure ((["f", "a"] : List Str).zip us) := fun _ _ _ _ _ _ us hl => match us, hl with | [_, _], _ => rfl
theorem ok21 {K : PySem.W.Frag} {mg : Str → Option Value} {a : Addr} (h : FnAt K mg "characteristic" (atTop 60) a) : DefOk K gn a F_characteristic := h.ok sc21 (by decide +kernel) cm21 rfl rfl bd21
theorem sc22 : FnScope n22 ["f", "a", "v"] (defScope (atTop 62)) := ⟨rfl, rfl, rfl, by decide +kernel, rfl, by decide +kernel, by decide +kernel⟩
theorem cm22 : compSs ⟨n22, gn, false⟩ 60 (defScope (atTop 62)) (defBody (atTop 62)) = F_annihilator.body := by kernel_rfl
theorem bd22 : ∀ (kV doc pm : Value) (an : Option Addr) (cdv ct : Value) (us : List Value), us.length = (["f", "a", "v"] : List Str).length → bindArgs (PySem.W.fnOf "annihilator" "annihilator" (defArgs (atTop 62)) (defBody (atTop 62)) (defScope (atTop 62)) .none kV doc pm an cdv ct) ⟨us, []⟩ = pure ((["f", "a", "v"] : List Str).zip us) := fun _ _ _ _ _ _ us hl => match us, hl with | [_, _, _], _ => rfl
theorem ok22 {K : PySem.W.Frag} {mg : Str → Option Value} {a : Addr} (h : FnAt K mg "annihilator" (atTop 62) a) : DefOk K gn a F_annihilator := h.ok sc22 (by decide +kernel) cm22 rfl rfl bd22
theorem sc23 : FnScope n23 ["f", "a"] (defScope (atTop 68)) := ⟨rfl, rfl, rfl, by decide +kernel, rfl, by decide +kernel, by decide +kernel⟩
theorem cm23 : compSs ⟨n23, gn, false⟩ 60 (defScope (atTop 68)) (defBody (atTop 68)) = F_cyclic_pair.body := by kernel_rfl
theorem bd23 : ∀ (kV doc pm : Value) (an : Option Addr) (cdv ct : Value) (us : List Value), us.length = (["f", "a"] : List Str).length → bindArgs (PySem.W.fnOf "cyclic_pair" "cyclic_pair" (defArgs (atTop 68)) (defBody (atTop 68)) (defScope (atTop 68)) .none kV doc pm an cdv ct) ⟨us, []⟩ = pure ((["f", "a"] : List Str).zip us) := fun _ _ _ _ _ _ us hl => match us, hl with | [_, _], _ => rfl
theorem ok23 {K : PySem.W.Frag} {mg : Str → Option Value} {a : Addr} (h : FnAt K mg "cyclic_pair" (atTop 68) a) : DefOk K gn a F_cyclic_pair := h.ok sc23 (by decide +kernel) cm23 rfl rfl bd23
theorem sc24 : FnScope n24 ["f", "a"] (defScope (atTop 69)) := ⟨rfl, rfl, rfl, by decide +kernel, rfl, by decide +kernel, by decide +kernel⟩
theorem cm24 : compSs ⟨n24, gn, false⟩ 60 (defScope (atTop 69)) (defBody (atTop 69)) = F_minimal.body := by kernel_rfl
theorem bd24 : ∀ (kV doc pm : Value) (an : Option Addr) (cdv ct : Value) (us : List Value), us.length = (["f", "a"] : List Str).length → bindArgs (PySem.W.fnOf "minimal" "minimal" (defArgs (atTop 69)) (defBody (atTop 69)) (defScope (atTop 69)) .none kV doc pm an cdv ct) ⟨us, []⟩ = pure ((["f", "a"] : List Str).zip us) := fun _ _ _ _ _ _ us hl => match us, hl with | [_, _], _ => rfl
theorem ok24 {K : PySem.W.Frag} {mg : Str → Option Value} {a : Addr} (h : FnAt K mg "minimal" (atTop 69) a) : DefOk K gn a F_minimal := h.ok sc24 (by decide +kernel) cm24 rfl rfl bd24
theorem sc25 : FnScope n25 ["f", "a"] (defScope (atTop 70)) := ⟨rfl, rfl, rfl, by decide +kernel, rfl, by decide +kernel, by decide +kernel⟩
theorem cm25 : compSs ⟨n25, gn, false⟩ 60 (defScope (atTop 70)) (defBody (atTop 70)) = F_cyclic_vector.body := by kernel_rfl
theorem bd25 : ∀ (kV doc pm : Value) (an : Option Addr) (cdv ct : Value) (us : List Value), us.length = (["f", "a"] : List Str).length → bindArgs (PySem.W.fnOf "cyclic_vector" "cyclic_vector" (defArgs (atTop 70)) (defBody (atTop 70)) (defScope (atTop 70)) .none kV doc pm an cdv ct) ⟨us, []⟩ = pure ((["f", "a"] : List Str).zip us) := fun _ _ _ _ _ _ us hl => match us, hl with | [_, _], _ => rfl
theorem ok25 {K : PySem.W.Frag} {mg : Str → Option Value} {a : Addr} (h : FnAt K mg "cyclic_vector" (atTop 70) a) : DefOk K gn a F_cyclic_vector := h.ok sc25 (by decide +kernel) cm25 rfl rfl bd25
theorem sc26 : FnScope n26 ["f", "a", "v"] (defScope (atTop 63)) := ⟨rfl, rfl, rfl, by decide +kernel, rfl, by decide +kernel, by decide +kernel⟩
theorem cm26 : compSs ⟨n26, gn, false⟩ 60 (defScope (atTop 63)) (defBody (atTop 63)) = F_krylov.body := by kernel_rfl
theorem bd26 : ∀ (kV doc pm : Value) (an : Option Addr) (cdv ct : Value) (us : List Value), us.length = (["f", "a", "v"] : List Str).length → bindArgs (PySem.W.fnOf "krylov" "krylov" (defArgs (atTop 63)) (defBody (atTop 63)) (defScope (atTop 63)) .none kV doc pm an cdv ct) ⟨us, []⟩ = pure ((["f", "a", "v"] : List Str).zip us) := fun _ _ _ _ _ _ us hl => match us, hl with | [_, _, _], _ => rfl
theorem ok26 {K : PySem.W.Frag} {mg : Str → Option Value} {a : Addr} (h : FnAt K mg "krylov" (atTop 63) a) : DefOk K gn a F_krylov := h.ok sc26 (by decide +kernel) cm26 rfl rfl bd26
theorem sc27 : FnScope n27 ["f", "a"] (defScope (atTop 84)) := ⟨rfl, rfl, rfl, by decide +kernel, rfl, by decide +kernel, by decide +kernel⟩
theorem cm27 : compSs ⟨n27, gn, false⟩ 60 (defScope (atTop 84)) (defBody (atTop 84)) = F_decompose.body := by kernel_rfl
theorem bd27 : ∀ (kV doc pm : Value) (an : Option Addr) (cdv ct : Value) (us : List Value), us.length = (["f", "a"] : List Str).length → bindArgs (PySem.W.fnOf "decompose" "decompose" (defArgs (atTop 84)) (defBody (atTop 84)) (defScope (atTop 84)) .none kV doc pm an cdv ct) ⟨us, []⟩ = pure ((["f", "a"] : List Str).zip us) := fun _ _ _ _ _ _ us hl => match us, hl with | [_, _], _ => rfl
theorem ok27 {K : PySem.W.Frag} {mg : Str → Option Value} {a : Addr} (h : FnAt K mg "decompose" (atTop 84) a) : DefOk K gn a F_decompose := h.ok sc27 (by decide +kernel) cm27 rfl rfl bd27
theorem sc28 : FnScope n28 ["f", "a"] (defScope (atTop 85)) := ⟨rfl, rfl, rfl, by decide +kernel, rfl, by decide +kernel, by decide +kernel⟩
theorem cm28 : compSs ⟨n28, gn, false⟩ 60 (defScope (atTop 85)) (defBody (atTop 85)) = F_invariant_factors.body := by kernel_rfl
theorem bd28 : ∀ (kV doc pm : Value) (an : Option Addr) (cdv ct : Value) (us : List Value), us.length = (["f", "a"] : List Str).length → bindArgs (PySem.W.fnOf "invariant_factors" "invariant_factors" (defArgs (atTop 85)) (defBody (atTop 85)) (defScope (atTop 85)) .none kV doc pm an cdv ct) ⟨us, []⟩ = pure ((["f", "a"] : List Str).zip us) := fun _ _ _ _ _ _ us hl => match us, hl with | [_, _], _ => rfl
theorem ok28 {K : PySem.W.Frag} {mg : Str → Option Value} {a : Addr} (h : FnAt K mg "invariant_factors" (atTop 85) a) : DefOk K gn a F_invariant_factors := h.ok sc28 (by decide +kernel) cm28 rfl rfl bd28
theorem sc29 : FnScope n29 ["f", "g"] (defScope (atTop 71)) := ⟨rfl, rfl, rfl, by decide +kernel, rfl, by decide +kernel, by decide +kernel⟩
theorem cm29 : compSs ⟨n29, gn, false⟩ 60 (defScope (atTop 71)) (defBody (atTop 71)) = F_companion.body := by kernel_rfl
theorem bd29 : ∀ (kV doc pm : Value) (an : Option Addr) (cdv ct : Value) (us : List Value), us.length = (["f", "g"] : List Str).length → bindArgs (PySem.W.fnOf "companion" "companion" (defArgs (atTop 71)) (defBody (atTop 71)) (defScope (atTop 71)) .none kV doc pm an cdv ct) ⟨us, []⟩ = pure ((["f", "g"] : List Str).zip us) := fun _ _ _ _ _ _ us hl => match us, hl with | [_, _], _ => rfl
theorem ok29 {K : PySem.W.Frag} {mg : Str → Option Value} {a : Addr} (h : FnAt K mg "companion" (atTop 71) a) : DefOk K gn a F_companion := h.ok sc29 (by decide +kernel) cm29 rfl rfl bd29
theorem sc30 : FnScope n30 ["f", "a"] (defScope (atTop 86)) := ⟨rfl, rfl, rfl, by decide +kernel, rfl, by decide +kernel, by decide +kernel⟩
theorem cm30 : compSs ⟨n30, gn, false⟩ 60 (defScope (atTop 86)) (defBody (atTop 86)) = F_frobenius.body := by kernel_rfl
theorem bd30 : ∀ (kV doc pm : Value) (an : Option Addr) (cdv ct : Value) (us : List Value), us.length = (["f", "a"] : List Str).length → bindArgs (PySem.W.fnOf "frobenius" "frobenius" (defArgs (atTop 86)) (defBody (atTop 86)) (defScope (atTop 86)) .none kV doc pm an cdv ct) ⟨us, []⟩ = pure ((["f", "a"] : List Str).zip us) := fun _ _ _ _ _ _ us hl => match us, hl with | [_, _], _ => rfl
theorem ok30 {K : PySem.W.Frag} {mg : Str → Option Value} {a : Addr} (h : FnAt K mg "frobenius" (atTop 86) a) : DefOk K gn a F_frobenius := h.ok sc30 (by decide +kernel) cm30 rfl rfl bd30
theorem sc31 : FnScope n31 ["f", "a"] (defScope (atTop 101)) := ⟨rfl, rfl, rfl, by decide +kernel, rfl, by decide +kernel, by decide +kernel⟩
theorem cm31 : compSs ⟨n31, gn, false⟩ 60 (defScope (atTop 101)) (defBody (atTop 101)) = F_roots.body := by kernel_rfl
theorem bd31 : ∀ (kV doc pm : Value) (an : Option Addr) (cdv ct : Value) (us : List Value), us.length = (["f", "a"] : List Str).length → bindArgs (PySem.W.fnOf "roots" "roots" (defArgs (atTop 101)) (defBody (atTop 101)) (defScope (atTop 101)) .none kV doc pm an cdv ct) ⟨us, []⟩ = pure ((["f", "a"] : List Str).zip us) := fun _ _ _ _ _ _ us hl => match us, hl with | [_, _], _ => rfl
theorem ok31 {K : PySem.W.Frag} {mg : Str → Option Value} {a : Addr} (h : FnAt K mg "roots" (atTop 101) a) : DefOk K gn a F_roots := h.ok sc31 (by decide +kernel) cm31 rfl rfl bd31
theorem sc32 : FnScope n32 ["f", "a"] (defScope (atTop 103)) := ⟨rfl, rfl, rfl, by decide +kernel, rfl, by decide +kernel, by decide +kernel⟩
theorem cm32 : compSs ⟨n32, gn, false⟩ 60 (defScope (atTop 103)) (defBody (atTop 103)) = F_eigenvalues.body := by kernel_rfl
theorem bd32 : ∀ (kV doc pm : Value) (an : Option Addr) (cdv ct : Value) (us : List Value), us.length = (["f", "a"] : List Str).length → bindArgs (PySem.W.fnOf "eigenvalues" "eigenvalues" (defArgs (atTop 103)) (defBody (atTop 103)) (defScope (atTop 103)) .none kV doc pm an cdv ct) ⟨us, []⟩ = pure ((["f", "a"] : List Str).zip us) := fun _ _ _ _ _ _ us hl => match us, hl with | [_, _], _ => rfl
theorem ok32 {K : PySem.W.Frag} {mg : Str → Option Value} {a : Addr} (h : FnAt K mg "eigenvalues" (atTop 103) a) : DefOk K gn a F_eigenvalues := h.ok sc32 (by decide +kernel) cm32 rfl rfl bd32
theorem sc33 : FnScope n33 ["f", "a"] (defScope (atTop 105)) := ⟨rfl, rfl, rfl, by decide +kernel, rfl, by decide +kernel, by decide +kernel⟩
theorem cm33 : compSs ⟨n33, gn, false⟩ 60 (defScope (atTop 105)) (defBody (atTop 105)) = F_splits.body := by kernel_rfl
theorem bd33 : ∀ (kV doc pm : Value) (an : Option Addr) (cdv ct : Value) (us : List Value), us.length = (["f", "a"] : List Str).length → bindArgs (PySem.W.fnOf "splits" "splits" (defArgs (atTop 105)) (defBody (atTop 105)) (defScope (atTop 105)) .none kV doc pm an cdv ct) ⟨us, []⟩ = pure ((["f", "a"] : List Str).zip us) := fun _ _ _ _ _ _ us hl => match us, hl with | [_, _], _ => rfl
theorem ok33 {K : PySem.W.Frag} {mg : Str → Option Value} {a : Addr} (h : FnAt K mg "splits" (atTop 105) a) : DefOk K gn a F_splits := h.ok sc33 (by decide +kernel) cm33 rfl rfl bd33
theorem sc34 : FnScope n34 ["f", "x", "k"] (defScope (atTop 104)) := ⟨rfl, rfl, rfl, by decide +kernel, rfl, by decide +kernel, by decide +kernel⟩
theorem cm34 : compSs ⟨n34, gn, false⟩ 60 (defScope (atTop 104)) (defBody (atTop 104)) = F_jordan_block.body := by kernel_rfl
theorem bd34 : ∀ (kV doc pm : Value) (an : Option Addr) (cdv ct : Value) (us : List Value), us.length = (["f", "x", "k"] : List Str).length → bindArgs (PySem.W.fnOf "jordan_block" "jordan_block" (defArgs (atTop 104)) (defBody (atTop 104)) (defScope (atTop 104)) .none kV doc pm an cdv ct) ⟨us, []⟩ = pure ((["f", "x", "k"] : List Str).zip us) := fun _ _ _ _ _ _ us hl => match us, hl with | [_, _, _], _ => rfl
theorem ok34 {K : PySem.W.Frag} {mg : Str → Option Value} {a : Addr} (h : FnAt K mg "jordan_block" (atTop 104) a) : DefOk K gn a F_jordan_block := h.ok sc34 (by decide +kernel) cm34 rfl rfl bd34
theorem sc35 : FnScope n35 ["f", "a"] (defScope (atTop 110)) := ⟨rfl, rfl, rfl, by decide +kernel, rfl, by decide +kernel, by decide +kernel⟩
theorem cm35 : compSs ⟨n35, gn, false⟩ 60 (defScope (atTop 110)) (defBody (atTop 110)) = F_jordan.body := by kernel_rfl
theorem bd35 : ∀ (kV doc pm : Value) (an : Option Addr) (cdv ct : Value) (us : List Value), us.length = (["f", "a"] : List Str).length → bindArgs (PySem.W.fnOf "jordan" "jordan" (defArgs (atTop 110)) (defBody (atTop 110)) (defScope (atTop 110)) .none kV doc pm an cdv ct) ⟨us, []⟩ = pure ((["f", "a"] : List Str).zip us) := fun _ _ _ _ _ _ us hl => match us, hl with | [_, _], _ => rfl
theorem ok35 {K : PySem.W.Frag} {mg : Str → Option Value} {a : Addr} (h : FnAt K mg "jordan" (atTop 110) a) : DefOk K gn a F_jordan := h.ok sc35 (by decide +kernel) cm35 rfl rfl bd35
theorem sc36 : FnScope n36 ["f", "a"] (defScope (atTop 106)) := ⟨rfl, rfl, rfl, by decide +kernel, rfl, by decide +kernel, by decide +kernel⟩
theorem cm36 : compSs ⟨n36, gn, false⟩ 60 (defScope (atTop 106)) (defBody (atTop 106)) = F_unsplit.body := by kernel_rfl
theorem bd36 : ∀ (kV doc pm : Value) (an : Option Addr) (cdv ct : Value) (us : List Value), us.length = (["f", "a"] : List Str).length → bindArgs (PySem.W.fnOf "unsplit" "unsplit" (defArgs (atTop 106)) (defBody (atTop 106)) (defScope (atTop 106)) .none kV doc pm an cdv ct) ⟨us, []⟩ = pure ((["f", "a"] : List Str).zip us) := fun _ _ _ _ _ _ us hl => match us, hl with | [_, _], _ => rfl
theorem ok36 {K : PySem.W.Frag} {mg : Str → Option Value} {a : Addr} (h : FnAt K mg "unsplit" (atTop 106) a) : DefOk K gn a F_unsplit := h.ok sc36 (by decide +kernel) cm36 rfl rfl bd36
theorem sc37 : FnScope n37 ["f", "a"] (defScope (atTop 111)) := ⟨rfl, rfl, rfl, by decide +kernel, rfl, by decide +kernel, by decide +kernel⟩
theorem cm37 : compSs ⟨n37, gn, false⟩ 60 (defScope (atTop 111)) (defBody (atTop 111)) = F_is_diagonal.body := by kernel_rfl
theorem bd37 : ∀ (kV doc pm : Value) (an : Option Addr) (cdv ct : Value) (us : List Value), us.length = (["f", "a"] : List Str).length → bindArgs (PySem.W.fnOf "is_diagonal" "is_diagonal" (defArgs (atTop 111)) (defBody (atTop 111)) (defScope (atTop 111)) .none kV doc pm an cdv ct) ⟨us, []⟩ = pure ((["f", "a"] : List Str).zip us) := fun _ _ _ _ _ _ us hl => match us, hl with | [_, _], _ => rfl
theorem ok37 {K : PySem.W.Frag} {mg : Str → Option Value} {a : Addr} (h : FnAt K mg "is_diagonal" (atTop 111) a) : DefOk K gn a F_is_diagonal := h.ok sc37 (by decide +kernel) cm37 rfl rfl bd37
theorem sc38 : FnScope n38 ["_law_d", "_law_a"] (defScope (atTop 145)) := ⟨rfl, rfl, rfl, by decide +kernel, rfl, by decide +kernel, by decide +kernel⟩
theorem cm38 : compSs ⟨n38, gn, false⟩ 60 (defScope (atTop 145)) (defBody (atTop 145)) = L_single.body := by kernel_rfl
theorem bd38 : ∀ (kV doc pm : Value) (an : Option Addr) (cdv ct : Value) (us : List Value), us.length = (["_law_d", "_law_a"] : List Str).length → bindArgs (PySem.W.fnOf "_law_single" "_law_single" (defArgs (atTop 145)) (defBody (atTop 145)) (defScope (atTop 145)) .none kV doc pm an cdv ct) ⟨us, []⟩ = pure ((["_law_d", "_law_a"] : List Str).zip us) := fun _ _ _ _ _ _ us hl => match us, hl with | [_, _], _ => rfl
theorem ok38 {K : PySem.W.Frag} {mg : Str → Option Value} {a : Addr} (h : FnAt K mg "_law_single" (atTop 145) a) : DefOk K gn a L_single := h.ok sc38 (by decide +kernel) cm38 rfl rfl bd38
theorem sc39 : FnScope n39 ["f", "a", "b"] (defScope (atTop 87)) := ⟨rfl, rfl, rfl, by decide +kernel, rfl, by decide +kernel, by decide +kernel⟩
theorem cm39 : compSs ⟨n39, gn, false⟩ 60 (defScope (atTop 87)) (defBody (atTop 87)) = F_similarity.body := by kernel_rfl
theorem bd39 : ∀ (kV doc pm : Value) (an : Option Addr) (cdv ct : Value) (us : List Value), us.length = (["f", "a", "b"] : List Str).length → bindArgs (PySem.W.fnOf "similarity" "similarity" (defArgs (atTop 87)) (defBody (atTop 87)) (defScope (atTop 87)) .none kV doc pm an cdv ct) ⟨us, []⟩ = pure ((["f", "a", "b"] : List Str).zip us) := fun _ _ _ _ _ _ us hl => match us, hl with | [_, _, _], _ => rfl
theorem ok39 {K : PySem.W.Frag} {mg : Str → Option Value} {a : Addr} (h : FnAt K mg "similarity" (atTop 87) a) : DefOk K gn a F_similarity := h.ok sc39 (by decide +kernel) cm39 rfl rfl bd39
theorem sc40 : FnScope n40 ["f", "a", "b"] (defScope (atTop 88)) := ⟨rfl, rfl, rfl, by decide +kernel, rfl, by decide +kernel, by decide +kernel⟩
theorem cm40 : compSs ⟨n40, gn, false⟩ 60 (defScope (atTop 88)) (defBody (atTop 88)) = F_difference.body := by kernel_rfl
theorem bd40 : ∀ (kV doc pm : Value) (an : Option Addr) (cdv ct : Value) (us : List Value), us.length = (["f", "a", "b"] : List Str).length → bindArgs (PySem.W.fnOf "difference" "difference" (defArgs (atTop 88)) (defBody (atTop 88)) (defScope (atTop 88)) .none kV doc pm an cdv ct) ⟨us, []⟩ = pure ((["f", "a", "b"] : List Str).zip us) := fun _ _ _ _ _ _ us hl => match us, hl with | [_, _, _], _ => rfl
theorem ok40 {K : PySem.W.Frag} {mg : Str → Option Value} {a : Addr} (h : FnAt K mg "difference" (atTop 88) a) : DefOk K gn a F_difference := h.ok sc40 (by decide +kernel) cm40 rfl rfl bd40
theorem sc41 : FnScope n41 ["_law_d", "_law_a", "_law_b", "_law_v"] (defScope (atTop 146)) := ⟨rfl, rfl, rfl, by decide +kernel, rfl, by decide +kernel, by decide +kernel⟩
theorem cm41 : compSs ⟨n41, gn, false⟩ 60 (defScope (atTop 146)) (defBody (atTop 146)) = L_double.body := by kernel_rfl
theorem bd41 : ∀ (kV doc pm : Value) (an : Option Addr) (cdv ct : Value) (us : List Value), us.length = (["_law_d", "_law_a", "_law_b", "_law_v"] : List Str).length → bindArgs (PySem.W.fnOf "_law_double" "_law_double" (defArgs (atTop 146)) (defBody (atTop 146)) (defScope (atTop 146)) .none kV doc pm an cdv ct) ⟨us, []⟩ = pure ((["_law_d", "_law_a", "_law_b", "_law_v"] : List Str).zip us) := fun _ _ _ _ _ _ us hl => match us, hl with | [_, _, _, _], _ => rfl
theorem ok41 {K : PySem.W.Frag} {mg : Str → Option Value} {a : Addr} (h : FnAt K mg "_law_double" (atTop 146) a) : DefOk K gn a L_double := h.ok sc41 (by decide +kernel) cm41 rfl rfl bd41
theorem sc42 : FnScope n42 ["_law_c"] (defScope (atTop 144)) := ⟨rfl, rfl, rfl, by decide +kernel, rfl, by decide +kernel, by decide +kernel⟩
theorem cm42 : compSs ⟨n42, gn, false⟩ 60 (defScope (atTop 144)) (defBody (atTop 144)) = L_no_domain.body := by kernel_rfl
theorem bd42 : ∀ (kV doc pm : Value) (an : Option Addr) (cdv ct : Value) (us : List Value), us.length = (["_law_c"] : List Str).length → bindArgs (PySem.W.fnOf "_law_no_domain" "_law_no_domain" (defArgs (atTop 144)) (defBody (atTop 144)) (defScope (atTop 144)) .none kV doc pm an cdv ct) ⟨us, []⟩ = pure ((["_law_c"] : List Str).zip us) := fun _ _ _ _ _ _ us hl => match us, hl with | [_], _ => rfl
theorem ok42 {K : PySem.W.Frag} {mg : Str → Option Value} {a : Addr} (h : FnAt K mg "_law_no_domain" (atTop 144) a) : DefOk K gn a L_no_domain := h.ok sc42 (by decide +kernel) cm42 rfl rfl bd42
theorem sc43 : FnScope n43 ["_law_script"] (defScope (atTop 147)) := ⟨rfl, rfl, rfl, by decide +kernel, rfl, by decide +kernel, by decide +kernel⟩
theorem cm43 : compSs ⟨n43, gn, false⟩ 60 (defScope (atTop 147)) (defBody (atTop 147)) = F_law.body := by kernel_rfl
theorem bd43 : ∀ (kV doc pm : Value) (an : Option Addr) (cdv ct : Value) (us : List Value), us.length = (["_law_script"] : List Str).length → bindArgs (PySem.W.fnOf "law" "law" (defArgs (atTop 147)) (defBody (atTop 147)) (defScope (atTop 147)) .none kV doc pm an cdv ct) ⟨us, []⟩ = pure ((["_law_script"] : List Str).zip us) := fun _ _ _ _ _ _ us hl => match us, hl with | [_], _ => rfl
theorem ok43 {K : PySem.W.Frag} {mg : Str → Option Value} {a : Addr} (h : FnAt K mg "law" (atTop 147) a) : DefOk K gn a F_law := h.ok sc43 (by decide +kernel) cm43 rfl rfl bd43
abbrev gs (K : PySem.W.Frag) (a0 a1 a2 a3 a4 a5 a6 a7 a8 a9 a10 a11 a12 a13 a14 a15 a16 a17 a18 a19 a20 a21 a22 a23 a24 a25 a26 a27 a28 a29 a30 a31 a32 a33 a34 a35 a36 a37 a38 a39 a40 a41 a42 a43 : Addr) (c0 c1 c2 c3 : Addr) : GS := ⟨K, fun i => (List.lookup i [(0, a0), (1, a1), (2, a2), (3, a3), (4, a4), (5, a5), (6, a6), (7, a7), (8, a8), (9, a9), (10, a10), (11, a11), (12, a12), (13, a13), (14, a14), (15, a15), (16, a16), (17, a17), (18, a18), (19, a19), (20, a20), (21, a21), (22, a22), (23, a23), (24, a24), (25, a25), (26, a26), (27, a27), (28, a28), (29, a29), (30, a30), (31, a31), (32, a32), (33, a33), (34, a34), (35, a35), (36, a36), (37, a37), (38, a38), (39, a39), (40, a40), (41, a41), (42, a42), (43, a43)]).getD 0, fun i => (List.lookup i [(0, c0), (1, c1), (2, c2), (3, c3)]).getD 0, fun _ _ _ => False⟩
theorem pok {K : PySem.W.Frag} {mg : Str → Option Value} {a0 a1 a2 a3 a4 a5 a6 a7 a8 a9 a10 a11 a12 a13 a14 a15 a16 a17 a18 a19 a20 a21 a22 a23 a24 a25 a26 a27 a28 a29 a30 a31 a32 a33 a34 a35 a36 a37 a38 a39 a40 a41 a42 a43 : Addr} {c0 c1 c2 c3 : Addr}
    (h0 : FnAt K mg "_law_start" (atTop 113) a0)
    (h1 : FnAt K mg "_law_fill" (atTop 114) a1)
    (h2 : FnAt K mg "_law_take" (atTop 115) a2)
    (h3 : FnAt K mg "_law_some_prime" (atTop 128) a3)
    (h4 : FnAt K mg "_law_field" (atTop 129) a4)
    (h5 : FnAt K mg "_law_common" (atTop 117) a5)
    (h6 : FnAt K mg "_law_fraction" (atTop 118) a6)
    (h7 : FnAt K mg "_law_zero" (atTop 119) a7)
    (h8 : FnAt K mg "_law_strip" (atTop 120) a8)
    (h9 : FnAt K mg "_law_small" (atTop 133) a9)
    (h10 : FnAt K mg "_law_matrix" (atTop 134) a10)
    (h11 : FnAt K mg "_law_called" (atTop 141) a11)
    (h12 : FnAt K mg "_law_class" (atTop 142) a12)
    (h13 : FnAt K mg "_law_all" (atTop 143) a13)
    (h14 : FnAt K mg "_law_number" (atTop 121) a14)
    (h15 : FnAt K mg "is_integer" (atTop 15) a15)
    (h16 : FnAt K mg "is_prime" (atTop 8) a16)
    (h17 : FnAt K mg "is_field" (atTop 17) a17)
    (h18 : FnAt K mg "need_field" (atTop 20) a18)
    (h19 : FnAt K mg "need_shape" (atTop 35) a19)
    (h20 : FnAt K mg "need_square" (atTop 36) a20)
    (h21 : FnAt K mg "characteristic" (atTop 60) a21)
    (h22 : FnAt K mg "annihilator" (atTop 62) a22)
    (h23 : FnAt K mg "cyclic_pair" (atTop 68) a23)
    (h24 : FnAt K mg "minimal" (atTop 69) a24)
    (h25 : FnAt K mg "cyclic_vector" (atTop 70) a25)
    (h26 : FnAt K mg "krylov" (atTop 63) a26)
    (h27 : FnAt K mg "decompose" (atTop 84) a27)
    (h28 : FnAt K mg "invariant_factors" (atTop 85) a28)
    (h29 : FnAt K mg "companion" (atTop 71) a29)
    (h30 : FnAt K mg "frobenius" (atTop 86) a30)
    (h31 : FnAt K mg "roots" (atTop 101) a31)
    (h32 : FnAt K mg "eigenvalues" (atTop 103) a32)
    (h33 : FnAt K mg "splits" (atTop 105) a33)
    (h34 : FnAt K mg "jordan_block" (atTop 104) a34)
    (h35 : FnAt K mg "jordan" (atTop 110) a35)
    (h36 : FnAt K mg "unsplit" (atTop 106) a36)
    (h37 : FnAt K mg "is_diagonal" (atTop 111) a37)
    (h38 : FnAt K mg "_law_single" (atTop 145) a38)
    (h39 : FnAt K mg "similarity" (atTop 87) a39)
    (h40 : FnAt K mg "difference" (atTop 88) a40)
    (h41 : FnAt K mg "_law_double" (atTop 146) a41)
    (h42 : FnAt K mg "_law_no_domain" (atTop 144) a42)
    (h43 : FnAt K mg "law" (atTop 147) a43)
    (q0 : ClsAt K mg "EchelonError" c0)
    (q1 : ClsAt K mg "DomainError" c1)
    (q2 : ClsAt K mg "ShapeError" c2)
    (q3 : ClsAt K mg "SingularError" c3)
    (z0 : mg "int" = none)
    (z1 : mg "len" = none)
    (z2 : mg "any" = none)
    (z3 : mg "range" = none)
    (z4 : mg "tuple" = none)
    (z5 : mg "abs" = none)
    (z6 : mg "all" = none)
    (z7 : mg "isinstance" = none)
    (z8 : mg "ValueError" = none)
    (z9 : mg "bool" = none)
    (z10 : mg "str" = none)
    (z11 : mg "sum" = none)
    (z12 : mg "sorted" = none)
    (z13 : mg "enumerate" = none)
    (z14 : mg "list" = none)
    {t0 : Tok} (g0 : mg "MOST_PRIME" = some (.int (65521) t0))
    (e0 : ExcC K c0)
    (e1 : ExcC K c1)
    (e2 : ExcC K c2)
    (e3 : ExcC K c3)
    (s0 : PySem.W.kitOne K (.ref c0) (.ref c0) = some true ∧ PySem.W.exmOne K (.ref c0) (.ref c0) = some true)
    (s1 : PySem.W.kitOne K (.ref c0) (.ref c1) = some false ∧ PySem.W.exmOne K (.ref c0) (.ref c1) = some false)
    (s2 : PySem.W.kitOne K (.ref c0) (.ref c2) = some false ∧ PySem.W.exmOne K (.ref c0) (.ref c2) = some false)
    (s3 : PySem.W.kitOne K (.ref c0) (.ref c3) = some false ∧ PySem.W.exmOne K (.ref c0) (.ref c3) = some false)
    (s4 : PySem.W.kitOne K (.ref c0) (.type "ValueError") = some true ∧ PySem.W.exmOne K (.ref c0) (.type "ValueError") = some true)
    (s5 : PySem.W.kitOne K (.ref c1) (.ref c0) = some true ∧ PySem.W.exmOne K (.ref c1) (.ref c0) = some true)
    (s6 : PySem.W.kitOne K (.ref c1) (.ref c1) = some true ∧ PySem.W.exmOne K (.ref c1) (.ref c1) = some true)
    (s7 : PySem.W.kitOne K (.ref c1) (.ref c2) = some false ∧ PySem.W.exmOne K (.ref c1) (.ref c2) = some false)
    (s8 : PySem.W.kitOne K (.ref c1) (.ref c3) = some false ∧ PySem.W.exmOne K (.ref c1) (.ref c3) = some false)
    (s9 : PySem.W.kitOne K (.ref c1) (.type "ValueError") = some true ∧ PySem.W.exmOne K (.ref c1) (.type "ValueError") = some true)
    (s10 : PySem.W.kitOne K (.ref c2) (.ref c0) = some true ∧ PySem.W.exmOne K (.ref c2) (.ref c0) = some true)
    (s11 : PySem.W.kitOne K (.ref c2) (.ref c1) = some false ∧ PySem.W.exmOne K (.ref c2) (.ref c1) = some false)
    (s12 : PySem.W.kitOne K (.ref c2) (.ref c2) = some true ∧ PySem.W.exmOne K (.ref c2) (.ref c2) = some true)
    (s13 : PySem.W.kitOne K (.ref c2) (.ref c3) = some false ∧ PySem.W.exmOne K (.ref c2) (.ref c3) = some false)
    (s14 : PySem.W.kitOne K (.ref c2) (.type "ValueError") = some true ∧ PySem.W.exmOne K (.ref c2) (.type "ValueError") = some true)
    (s15 : PySem.W.kitOne K (.ref c3) (.ref c0) = some true ∧ PySem.W.exmOne K (.ref c3) (.ref c0) = some true)
    (s16 : PySem.W.kitOne K (.ref c3) (.ref c1) = some false ∧ PySem.W.exmOne K (.ref c3) (.ref c1) = some false)
    (s17 : PySem.W.kitOne K (.ref c3) (.ref c2) = some false ∧ PySem.W.exmOne K (.ref c3) (.ref c2) = some false)
    (s18 : PySem.W.kitOne K (.ref c3) (.ref c3) = some true ∧ PySem.W.exmOne K (.ref c3) (.ref c3) = some true)
    (s19 : PySem.W.kitOne K (.ref c3) (.type "ValueError") = some true ∧ PySem.W.exmOne K (.ref c3) (.type "ValueError") = some true)
    : POk K mg ⟨gn, P⟩ (gs K a0 a1 a2 a3 a4 a5 a6 a7 a8 a9 a10 a11 a12 a13 a14 a15 a16 a17 a18 a19 a20 a21 a22 a23 a24 a25 a26 a27 a28 a29 a30 a31 a32 a33 a34 a35 a36 a37 a38 a39 a40 a41 a42 a43 c0 c1 c2 c3) := by
  refine POk.of (fs := fs) rfl (by decide +kernel) ?_ (fun i => rfl) ?_ ?_ ?_ (fun _ _ _ h => h)
  · show GnOk K mg _ P gn
    delta gn
    exact .cons (EntOk.fn' h0) (.cons (EntOk.none z0) (.cons (EntOk.fn' h4) (.cons (EntOk.fn' h2) (.cons (EntOk.fn' h1) (.cons (EntOk.none z1) (.cons (EntOk.fn' h3) (.cons (EntOk.none z2) (.cons (EntOk.none z3) (.cons (EntOk.fn' h10) (.cons (EntOk.none z4) (.cons (EntOk.fn' h9) (.cons (EntOk.fn' h6) (.cons (EntOk.fn' h5) (.cons (EntOk.none z5) (.cons (EntOk.fn' h8) (.cons (EntOk.fn' h7) (.cons (EntOk.fn' h13) (.cons (EntOk.none z6) (.cons (EntOk.fn' h12) (.cons (EntOk.cls' q1) (.cons (EntOk.cls' q2) (.cons (EntOk.cls' q3) (.cons (EntOk.fn' h11) (.cons (EntOk.none z7) (.cons (EntOk.cls' q0) (.cons (EntOk.none z8) (.cons (EntOk.fn' h14) (.cons (EntOk.fn' h38) (.cons (EntOk.fn' h21) (.cons (EntOk.fn' h18) (.cons (EntOk.fn' h17) (.cons (EntOk.fn' h15) (.cons (EntOk.none z9) (.cons (EntOk.int g0 rfl) (.cons (EntOk.fn' h16) (.cons (EntOk.none z10) (.cons (EntOk.fn' h20) (.cons (EntOk.fn' h19) (.cons (EntOk.fn' h24) (.cons (EntOk.fn' h23) (.cons (EntOk.fn' h22) (.cons (EntOk.fn' h25) (.cons (EntOk.fn' h28) (.cons (EntOk.fn' h27) (.cons (EntOk.fn' h26) (.cons (EntOk.fn' h30) (.cons (EntOk.fn' h29) (.cons (EntOk.fn' h32) (.cons (EntOk.fn' h31) (.cons (EntOk.fn' h35) (.cons (EntOk.fn' h33) (.cons (EntOk.none z11) (.cons (EntOk.none z12) (.cons (EntOk.fn' h34) (.cons (EntOk.none z13) (.cons (EntOk.fn' h36) (.cons (EntOk.fn' h37) (.cons (EntOk.fn' h41) (.cons (EntOk.fn' h39) (.cons (EntOk.fn' h40) (.cons (EntOk.none z14) (.cons (EntOk.fn' h42) (.cons (EntOk.fn' h43) (trivial))))))))))))))))))))))))))))))))))))))))))))))))))))))))))))))))
  · show FsOk K gn _ fs
    delta fs
    exact .cons (ok0 h0) h0.k (.cons (ok1 h1) h1.k (.cons (ok2 h2) h2.k (.cons (ok3 h3) h3.k (.cons (ok4 h4) h4.k (.cons (ok5 h5) h5.k (.cons (ok6 h6) h6.k (.cons (ok7 h7) h7.k (.cons (ok8 h8) h8.k (.cons (ok9 h9) h9.k (.cons (ok10 h10) h10.k (.cons (ok11 h11) h11.k (.cons (ok12 h12) h12.k (.cons (ok13 h13) h13.k (.cons (ok14 h14) h14.k (.cons (ok15 h15) h15.k (.cons (ok16 h16) h16.k (.cons (ok17 h17) h17.k (.cons (ok18 h18) h18.k (.cons (ok19 h19) h19.k (.cons (ok20 h20) h20.k (.cons (ok21 h21) h21.k (.cons (ok22 h22) h22.k (.cons (ok23 h23) h23.k (.cons (ok24 h24) h24.k (.cons (ok25 h25) h25.k (.cons (ok26 h26) h26.k (.cons (ok27 h27) h27.k (.cons (ok28 h28) h28.k (.cons (ok29 h29) h29.k (.cons (ok30 h30) h30.k (.cons (ok31 h31) h31.k (.cons (ok32 h32) h32.k (.cons (ok33 h33) h33.k (.cons (ok34 h34) h34.k (.cons (ok35 h35) h35.k (.cons (ok36 h36) h36.k (.cons (ok37 h37) h37.k (.cons (ok38 h38) h38.k (.cons (ok39 h39) h39.k (.cons (ok40 h40) h40.k (.cons (ok41 h41) h41.k (.cons (ok42 h42) h42.k (.cons (ok43 h43) h43.k (trivial))))))))))))))))))))))))))))))))))))))))))))
  · intro c cl b h
    have h : sub c cl = some b := h
    unfold sub at h
    split at h <;> first | (cases h; done) | skip
    · cases h; exact s0
    · cases h; exact s1
    · cases h; exact s2
    · cases h; exact s3
    · cases h; exact s4
    · cases h; exact s5
    · cases h; exact s6
    · cases h; exact s7
    · cases h; exact s8
    · cases h; exact s9
    · cases h; exact s10
    · cases h; exact s11
    · cases h; exact s12
    · cases h; exact s13
    · cases h; exact s14
    · cases h; exact s15
    · cases h; exact s16
    · cases h; exact s17
    · cases h; exact s18
    · cases h; exact s19
  · intro c cl b h
    have h : sub c cl = some b := h
    unfold sub at h
    split at h <;> first | (cases h; done) | skip
    · exact e0
    · exact e0
    · exact e0
    · exact e0
    · exact e0
    · exact e1
    · exact e1
    · exact e1
    · exact e1
    · exact e1
    · exact e2
    · exact e2
    · exact e2
    · exact e2
    · exact e2
    · exact e3
    · exact e3
    · exact e3
    · exact e3
    · exact e3
end K67

/-! k67 -/
namespace K67
open PySem EV
theorem lw : Lw P := ⟨rfl, rfl, rfl, rfl, rfl, rfl, rfl, rfl, rfl, rfl, rfl, rfl⟩
theorem lf : Lf P := ⟨rfl, rfl, rfl, rfl, rfl, rfl, rfl⟩
def NotF (d : D) : Prop := ∀ (k : Nat) (S : Store), callF P (k + 2) 17 [d] S = .ok (.bl false) S
theorem d_21 {k : Nat} {S : Store} {d a : D} (h : NotF d) : callF P (k + 4) 21 [d, a] S = .err ⟨1, none⟩ S := by
  rw [callF_of (f := F_characteristic) rfl rfl]
  simp (disch := omega) only [Int.natCast_zero, Int.natCast_one, Int.cast_ofNat_Int, Int.reduceEq, Int.reduceLT, Int.reduceLE, decide_true, decide_false, List.length_cons, List.length_nil, List.set_set, List.map_cons, List.map_nil, List.replicate_zero, List.replicate_succ, List.cons_append, List.nil_append, List.getElem?_cons_zero, List.getElem?_cons_succ, List.set_cons_zero, List.set_cons_succ, Nat.reduceSub, Nat.reduceAdd, Bool.not_true, Bool.not_false, wipeE, bnd_ok, bnd_err, bnd_bad, on_ok, on_err, on_bad, sel_true, sel_false, slotR_val, fnR_fn, isR_val, negR_int, notR_bl, blSel_bl, optR_int, augR_val, thn_next, thn_ret, thn_err, thn_brk, thn_cont, again_next, again_cont, again_brk, again_ret, again_err, ctch_next, ctch_ret, ctch_err, fin_ret, fin_next, fin_err, okIf_t, e_slot, e_lit, e_globP, e_tup, e_lst, e_bin, e_neg, e_not, e_and, e_or, e_cmp, e_cmp2, e_ite, e_call, e_callv, e_bi, e_bic, e_isi, e_isiS, e_mth, e_ix, e_sl, e_rev, e_lc, o_none, o_some, es_nil, es_cons, b_val, b_not, b_and, b_or, b_yes, c_mk, i_seq, i_range1, i_range2, i_range3, i_enum, t_slot, t_tup, t_ix, ts_nil, ts_cons, s_asg, s_par, s_aug, s_for, s_while, s_if, s_ret, s_retN, s_expr, s_raise, s_try, s_brk, s_cont, s_pass, ss_nil, ss_cons, bin_add, bin_sub, bin_addS, bin_addT, bin_addL, bin_mulL, aug_add, aug_sub, eqS_int, eqS_bl, c_eq, c_ne, c_lt, c_le, c_gt, c_ge, c_isN, c_isntN, bi_one, bi_two, bi1_int, bi1_bl, bi1_str, bi1_tup, bi1_ref, bi2_int, biI_int, biB_int, biI_abs, biT_len, biT_tuple, biT_list, biL_len, biL_tuple, biL_list, biL_sum, biL_any, biL_all, biII_max, biII_min, truth_bl, truth_int, truth_tup, truth_non, seq_tup, ix_ref, ix_tup, sl_tup, sl_ref, set_ref, mt_app, it_tup, it_ref, it_r1, it_r2, noerr_err, atI_0, atI_1, atI_2, atI_3, atI_l, bin_modp, bin_divp, bin_mulp, ixN_40, ixN_41, ixN_42, ixN_43, isR_excP, pow_10_18, atI_cast, List.length_map, Res.noerr_ok, Res.noerr_bad, ofO_some, isi_tuple_tuple, isi_tuple_str, isi_tuple_int, isi_tuple_bool, isi_str_tuple, isi_str_str, isi_str_int, isi_str_bool, isi_int_tuple, isi_int_str, isi_int_int, isi_int_bool, isi_bool_tuple, isi_bool_str, isi_bool_int, isi_bool_bool, isi_NoneType_tuple, isi_NoneType_str, isi_NoneType_int, isi_NoneType_bool, q_F_F, q_F_P, q_F_Q, q_F_Z, q_P_F, q_P_P, q_P_Q, q_P_Z, q_Q_F, q_Q_P, q_Q_Q, q_Q_Z, q_R_F, q_R_P, q_R_Q, q_R_Z, q_Z_F, q_Z_P, q_Z_Q, q_Z_Z, F_characteristic, need_field_no lf (h _ _), trimX_self]
theorem d_23 {k : Nat} {S : Store} {d a : D} (h : NotF d) : callF P (k + 4) 23 [d, a] S = .err ⟨1, none⟩ S := by
  rw [callF_of (f := F_cyclic_pair) rfl rfl]
  simp (disch := omega) only [Int.natCast_zero, Int.natCast_one, Int.cast_ofNat_Int, Int.reduceEq, Int.reduceLT, Int.reduceLE, decide_true, decide_false, List.length_cons, List.length_nil, List.set_set, List.map_cons, List.map_nil, List.replicate_zero, List.replicate_succ, List.cons_append, List.nil_append, List.getElem?_cons_zero, List.getElem?_cons_succ, List.set_cons_zero, List.set_cons_succ, Nat.reduceSub, Nat.reduceAdd, Bool.not_true, Bool.not_false, wipeE, bnd_ok, bnd_err, bnd_bad, on_ok, on_err, on_bad, sel_true, sel_false, slotR_val, fnR_fn, isR_val, negR_int, notR_bl, blSel_bl, optR_int, augR_val, thn_next, thn_ret, thn_err, thn_brk, thn_cont, again_next, again_cont, again_brk, again_ret, again_err, ctch_next, ctch_ret, ctch_err, fin_ret, fin_next, fin_err, okIf_t, e_slot, e_lit, e_globP, e_tup, e_lst, e_bin, e_neg, e_not, e_and, e_or, e_cmp, e_cmp2, e_ite, e_call, e_callv, e_bi, e_bic, e_isi, e_isiS, e_mth, e_ix, e_sl, e_rev, e_lc, o_none, o_some, es_nil, es_cons, b_val, b_not, b_and, b_or, b_yes, c_mk, i_seq, i_range1, i_range2, i_range3, i_enum, t_slot, t_tup, t_ix, ts_nil, ts_cons, s_asg, s_par, s_aug, s_for, s_while, s_if, s_ret, s_retN, s_expr, s_raise, s_try, s_brk, s_cont, s_pass, ss_nil, ss_cons, bin_add, bin_sub, bin_addS, bin_addT, bin_addL, bin_mulL, aug_add, aug_sub, eqS_int, eqS_bl, c_eq, c_ne, c_lt, c_le, c_gt, c_ge, c_isN, c_isntN, bi_one, bi_two, bi1_int, bi1_bl, bi1_str, bi1_tup, bi1_ref, bi2_int, biI_int, biB_int, biI_abs, biT_len, biT_tuple, biT_list, biL_len, biL_tuple, biL_list, biL_sum, biL_any, biL_all, biII_max, biII_min, truth_bl, truth_int, truth_tup, truth_non, seq_tup, ix_ref, ix_tup, sl_tup, sl_ref, set_ref, mt_app, it_tup, it_ref, it_r1, it_r2, noerr_err, atI_0, atI_1, atI_2, atI_3, atI_l, bin_modp, bin_divp, bin_mulp, ixN_40, ixN_41, ixN_42, ixN_43, isR_excP, pow_10_18, atI_cast, List.length_map, Res.noerr_ok, Res.noerr_bad, ofO_some, isi_tuple_tuple, isi_tuple_str, isi_tuple_int, isi_tuple_bool, isi_str_tuple, isi_str_str, isi_str_int, isi_str_bool, isi_int_tuple, isi_int_str, isi_int_int, isi_int_bool, isi_bool_tuple, isi_bool_str, isi_bool_int, isi_bool_bool, isi_NoneType_tuple, isi_NoneType_str, isi_NoneType_int, isi_NoneType_bool, q_F_F, q_F_P, q_F_Q, q_F_Z, q_P_F, q_P_P, q_P_Q, q_P_Z, q_Q_F, q_Q_P, q_Q_Q, q_Q_Z, q_R_F, q_R_P, q_R_Q, q_R_Z, q_Z_F, q_Z_P, q_Z_Q, q_Z_Z, F_cyclic_pair, need_field_no lf (h _ _), trimX_self]
theorem d_27 {k : Nat} {S : Store} {d a : D} (h : NotF d) : callF P (k + 4) 27 [d, a] S = .err ⟨1, none⟩ S := by
  rw [callF_of (f := F_decompose) rfl rfl]
  simp (disch := omega) only [Int.natCast_zero, Int.natCast_one, Int.cast_ofNat_Int, Int.reduceEq, Int.reduceLT, Int.reduceLE, decide_true, decide_false, List.length_cons, List.length_nil, List.set_set, List.map_cons, List.map_nil, List.replicate_zero, List.replicate_succ, List.cons_append, List.nil_append, List.getElem?_cons_zero, List.getElem?_cons_succ, List.set_cons_zero, List.set_cons_succ, Nat.reduceSub, Nat.reduceAdd, Bool.not_true, Bool.not_false, wipeE, bnd_ok, bnd_err, bnd_bad, on_ok, on_err, on_bad, sel_true, sel_false, slotR_val, fnR_fn, isR_val, negR_int, notR_bl, blSel_bl, optR_int, augR_val, thn_next, thn_ret, thn_err, thn_brk, thn_cont, again_next, again_cont, again_brk, again_ret, again_err, ctch_next, ctch_ret, ctch_err, fin_ret, fin_next, fin_err, okIf_t, e_slot, e_lit, e_globP, e_tup, e_lst, e_bin, e_neg, e_not, e_and, e_or, e_cmp, e_cmp2, e_ite, e_call, e_callv, e_bi, e_bic, e_isi, e_isiS, e_mth, e_ix, e_sl, e_rev, e_lc, o_none, o_some, es_nil, es_cons, b_val, b_not, b_and, b_or, b_yes, c_mk, i_seq, i_range1, i_range2, i_range3, i_enum, t_slot, t_tup, t_ix, ts_nil, ts_cons, s_asg, s_par, s_aug, s_for, s_while, s_if, s_ret, s_retN, s_expr, s_raise, s_try, s_brk, s_cont, s_pass, ss_nil, ss_cons, bin_add, bin_sub, bin_addS, bin_addT, bin_addL, bin_mulL, aug_add, aug_sub, eqS_int, eqS_bl, c_eq, c_ne, c_lt, c_le, c_gt, c_ge, c_isN, c_isntN, bi_one, bi_two, bi1_int, bi1_bl, bi1_str, bi1_tup, bi1_ref, bi2_int, biI_int, biB_int, biI_abs, biT_len, biT_tuple, biT_list, biL_len, biL_tuple, biL_list, biL_sum, biL_any, biL_all, biII_max, biII_min, truth_bl, truth_int, truth_tup, truth_non, seq_tup, ix_ref, ix_tup, sl_tup, sl_ref, set_ref, mt_app, it_tup, it_ref, it_r1, it_r2, noerr_err, atI_0, atI_1, atI_2, atI_3, atI_l, bin_modp, bin_divp, bin_mulp, ixN_40, ixN_41, ixN_42, ixN_43, isR_excP, pow_10_18, atI_cast, List.length_map, Res.noerr_ok, Res.noerr_bad, ofO_some, isi_tuple_tuple, isi_tuple_str, isi_tuple_int, isi_tuple_bool, isi_str_tuple, isi_str_str, isi_str_int, isi_str_bool, isi_int_tuple, isi_int_str, isi_int_int, isi_int_bool, isi_bool_tuple, isi_bool_str, isi_bool_int, isi_bool_bool, isi_NoneType_tuple, isi_NoneType_str, isi_NoneType_int, isi_NoneType_bool, q_F_F, q_F_P, q_F_Q, q_F_Z, q_P_F, q_P_P, q_P_Q, q_P_Z, q_Q_F, q_Q_P, q_Q_Q, q_Q_Z, q_R_F, q_R_P, q_R_Q, q_R_Z, q_Z_F, q_Z_P, q_Z_Q, q_Z_Z, F_decompose, need_field_no lf (h _ _), trimX_self]
theorem d_35 {k : Nat} {S : Store} {d a : D} (h : NotF d) : callF P (k + 4) 35 [d, a] S = .err ⟨1, none⟩ S := by
  rw [callF_of (f := F_jordan) rfl rfl]
  simp (disch := omega) only [Int.natCast_zero, Int.natCast_one, Int.cast_ofNat_Int, Int.reduceEq, Int.reduceLT, Int.reduceLE, decide_true, decide_false, List.length_cons, List.length_nil, List.set_set, List.map_cons, List.map_nil, List.replicate_zero, List.replicate_succ, List.cons_append, List.nil_append, List.getElem?_cons_zero, List.getElem?_cons_succ, List.set_cons_zero, List.set_cons_succ, Nat.reduceSub, Nat.reduceAdd, Bool.not_true, Bool.not_false, wipeE, bnd_ok, bnd_err, bnd_bad, on_ok, on_err, on_bad, sel_true, sel_false, slotR_val, fnR_fn, isR_val, negR_int, notR_bl, blSel_bl, optR_int, augR_val, thn_next, thn_ret, thn_err, thn_brk, thn_cont, again_next, again_cont, again_brk, again_ret, again_err, ctch_next, ctch_ret, ctch_err, fin_ret, fin_next, fin_err, okIf_t, e_slot, e_lit, e_globP, e_tup, e_lst, e_bin, e_neg, e_not, e_and, e_or, e_cmp, e_cmp2, e_ite, e_call, e_callv, e_bi, e_bic, e_isi, e_isiS, e_mth, e_ix, e_sl, e_rev, e_lc, o_none, o_some, es_nil, es_cons, b_val, b_not, b_and, b_or, b_yes, c_mk, i_seq, i_range1, i_range2, i_range3, i_enum, t_slot, t_tup, t_ix, ts_nil, ts_cons, s_asg, s_par, s_aug, s_for, s_while, s_if, s_ret, s_retN, s_expr, s_raise, s_try, s_brk, s_cont, s_pass, ss_nil, ss_cons, bin_add, bin_sub, bin_addS, bin_addT, bin_addL, bin_mulL, aug_add, aug_sub, eqS_int, eqS_bl, c_eq, c_ne, c_lt, c_le, c_gt, c_ge, c_isN, c_isntN, bi_one, bi_two, bi1_int, bi1_bl, bi1_str, bi1_tup, bi1_ref, bi2_int, biI_int, biB_int, biI_abs, biT_len, biT_tuple, biT_list, biL_len, biL_tuple, biL_list, biL_sum, biL_any, biL_all, biII_max, biII_min, truth_bl, truth_int, truth_tup, truth_non, seq_tup, ix_ref, ix_tup, sl_tup, sl_ref, set_ref, mt_app, it_tup, it_ref, it_r1, it_r2, noerr_err, atI_0, atI_1, atI_2, atI_3, atI_l, bin_modp, bin_divp, bin_mulp, ixN_40, ixN_41, ixN_42, ixN_43, isR_excP, pow_10_18, atI_cast, List.length_map, Res.noerr_ok, Res.noerr_bad, ofO_some, isi_tuple_tuple, isi_tuple_str, isi_tuple_int, isi_tuple_bool, isi_str_tuple, isi_str_str, isi_str_int, isi_str_bool, isi_int_tuple, isi_int_str, isi_int_int, isi_int_bool, isi_bool_tuple, isi_bool_str, isi_bool_int, isi_bool_bool, isi_NoneType_tuple, isi_NoneType_str, isi_NoneType_int, isi_NoneType_bool, q_F_F, q_F_P, q_F_Q, q_F_Z, q_P_F, q_P_P, q_P_Q, q_P_Z, q_Q_F, q_Q_P, q_Q_Q, q_Q_Z, q_R_F, q_R_P, q_R_Q, q_R_Z, q_Z_F, q_Z_P, q_Z_Q, q_Z_Z, F_jordan, need_field_no lf (h _ _), trimX_self]
theorem d_22 {k : Nat} {S : Store} {d a v : D} (h : NotF d) : callF P (k + 4) 22 [d, a, v] S = .err ⟨1, none⟩ S := by
  rw [callF_of (f := F_annihilator) rfl rfl]
  simp (disch := omega) only [Int.natCast_zero, Int.natCast_one, Int.cast_ofNat_Int, Int.reduceEq, Int.reduceLT, Int.reduceLE, decide_true, decide_false, List.length_cons, List.length_nil, List.set_set, List.map_cons, List.map_nil, List.replicate_zero, List.replicate_succ, List.cons_append, List.nil_append, List.getElem?_cons_zero, List.getElem?_cons_succ, List.set_cons_zero, List.set_cons_succ, Nat.reduceSub, Nat.reduceAdd, Bool.not_true, Bool.not_false, wipeE, bnd_ok, bnd_err, bnd_bad, on_ok, on_err, on_bad, sel_true, sel_false, slotR_val, fnR_fn, isR_val, negR_int, notR_bl, blSel_bl, optR_int, augR_val, thn_next, thn_ret, thn_err, thn_brk, thn_cont, again_next, again_cont, again_brk, again_ret, again_err, ctch_next, ctch_ret, ctch_err, fin_ret, fin_next, fin_err, okIf_t, e_slot, e_lit, e_globP, e_tup, e_lst, e_bin, e_neg, e_not, e_and, e_or, e_cmp, e_cmp2, e_ite, e_call, e_callv, e_bi, e_bic, e_isi, e_isiS, e_mth, e_ix, e_sl, e_rev, e_lc, o_none, o_some, es_nil, es_cons, b_val, b_not, b_and, b_or, b_yes, c_mk, i_seq, i_range1, i_range2, i_range3, i_enum, t_slot, t_tup, t_ix, ts_nil, ts_cons, s_asg, s_par, s_aug, s_for, s_while, s_if, s_ret, s_retN, s_expr, s_raise, s_try, s_brk, s_cont, s_pass, ss_nil, ss_cons, bin_add, bin_sub, bin_addS, bin_addT, bin_addL, bin_mulL, aug_add, aug_sub, eqS_int, eqS_bl, c_eq, c_ne, c_lt, c_le, c_gt, c_ge, c_isN, c_isntN, bi_one, bi_two, bi1_int, bi1_bl, bi1_str, bi1_tup, bi1_ref, bi2_int, biI_int, biB_int, biI_abs, biT_len, biT_tuple, biT_list, biL_len, biL_tuple, biL_list, biL_sum, biL_any, biL_all, biII_max, biII_min, truth_bl, truth_int, truth_tup, truth_non, seq_tup, ix_ref, ix_tup, sl_tup, sl_ref, set_ref, mt_app, it_tup, it_ref, it_r1, it_r2, noerr_err, atI_0, atI_1, atI_2, atI_3, atI_l, bin_modp, bin_divp, bin_mulp, ixN_40, ixN_41, ixN_42, ixN_43, isR_excP, pow_10_18, atI_cast, List.length_map, Res.noerr_ok, Res.noerr_bad, ofO_some, isi_tuple_tuple, isi_tuple_str, isi_tuple_int, isi_tuple_bool, isi_str_tuple, isi_str_str, isi_str_int, isi_str_bool, isi_int_tuple, isi_int_str, isi_int_int, isi_int_bool, isi_bool_tuple, isi_bool_str, isi_bool_int, isi_bool_bool, isi_NoneType_tuple, isi_NoneType_str, isi_NoneType_int, isi_NoneType_bool, q_F_F, q_F_P, q_F_Q, q_F_Z, q_P_F, q_P_P, q_P_Q, q_P_Z, q_Q_F, q_Q_P, q_Q_Q, q_Q_Z, q_R_F, q_R_P, q_R_Q, q_R_Z, q_Z_F, q_Z_P, q_Z_Q, q_Z_Z, F_annihilator, need_field_no lf (h _ _), trimX_self]
theorem d_39 {k : Nat} {S : Store} {d a v : D} (h : NotF d) : callF P (k + 4) 39 [d, a, v] S = .err ⟨1, none⟩ S := by
  rw [callF_of (f := F_similarity) rfl rfl]
  simp (disch := omega) only [Int.natCast_zero, Int.natCast_one, Int.cast_ofNat_Int, Int.reduceEq, Int.reduceLT, Int.reduceLE, decide_true, decide_false, List.length_cons, List.length_nil, List.set_set, List.map_cons, List.map_nil, List.replicate_zero, List.replicate_succ, List.cons_append, List.nil_append, List.getElem?_cons_zero, List.getElem?_cons_succ, List.set_cons_zero, List.set_cons_succ, Nat.reduceSub, Nat.reduceAdd, Bool.not_true, Bool.not_false, wipeE, bnd_ok, bnd_err, bnd_bad, on_ok, on_err, on_bad, sel_true, sel_false, slotR_val, fnR_fn, isR_val, negR_int, notR_bl, blSel_bl, optR_int, augR_val, thn_next, thn_ret, thn_err, thn_brk, thn_cont, again_next, again_cont, again_brk, again_ret, again_err, ctch_next, ctch_ret, ctch_err, fin_ret, fin_next, fin_err, okIf_t, e_slot, e_lit, e_globP, e_tup, e_lst, e_bin, e_neg, e_not, e_and, e_or, e_cmp, e_cmp2, e_ite, e_call, e_callv, e_bi, e_bic, e_isi, e_isiS, e_mth, e_ix, e_sl, e_rev, e_lc, o_none, o_some, es_nil, es_cons, b_val, b_not, b_and, b_or, b_yes, c_mk, i_seq, i_range1, i_range2, i_range3, i_enum, t_slot, t_tup, t_ix, ts_nil, ts_cons, s_asg, s_par, s_aug, s_for, s_while, s_if, s_ret, s_retN, s_expr, s_raise, s_try, s_brk, s_cont, s_pass, ss_nil, ss_cons, bin_add, bin_sub, bin_addS, bin_addT, bin_addL, bin_mulL, aug_add, aug_sub, eqS_int, eqS_bl, c_eq, c_ne, c_lt, c_le, c_gt, c_ge, c_isN, c_isntN, bi_one, bi_two, bi1_int, bi1_bl, bi1_str, bi1_tup, bi1_ref, bi2_int, biI_int, biB_int, biI_abs, biT_len, biT_tuple, biT_list, biL_len, biL_tuple, biL_list, biL_sum, biL_any, biL_all, biII_max, biII_min, truth_bl, truth_int, truth_tup, truth_non, seq_tup, ix_ref, ix_tup, sl_tup, sl_ref, set_ref, mt_app, it_tup, it_ref, it_r1, it_r2, noerr_err, atI_0, atI_1, atI_2, atI_3, atI_l, bin_modp, bin_divp, bin_mulp, ixN_40, ixN_41, ixN_42, ixN_43, isR_excP, pow_10_18, atI_cast, List.length_map, Res.noerr_ok, Res.noerr_bad, ofO_some, isi_tuple_tuple, isi_tuple_str, isi_tuple_int, isi_tuple_bool, isi_str_tuple, isi_str_str, isi_str_int, isi_str_bool, isi_int_tuple, isi_int_str, isi_int_int, isi_int_bool, isi_bool_tuple, isi_bool_str, isi_bool_int, isi_bool_bool, isi_NoneType_tuple, isi_NoneType_str, isi_NoneType_int, isi_NoneType_bool, q_F_F, q_F_P, q_F_Q, q_F_Z, q_P_F, q_P_P, q_P_Q, q_P_Z, q_Q_F, q_Q_P, q_Q_Q, q_Q_Z, q_R_F, q_R_P, q_R_Q, q_R_Z, q_Z_F, q_Z_P, q_Z_Q, q_Z_Z, F_similarity, need_field_no lf (h _ _), trimX_self]
theorem d_40 {k : Nat} {S : Store} {d a v : D} (h : NotF d) : callF P (k + 4) 40 [d, a, v] S = .err ⟨1, none⟩ S := by
  rw [callF_of (f := F_difference) rfl rfl]
  simp (disch := omega) only [Int.natCast_zero, Int.natCast_one, Int.cast_ofNat_Int, Int.reduceEq, Int.reduceLT, Int.reduceLE, decide_true, decide_false, List.length_cons, List.length_nil, List.set_set, List.map_cons, List.map_nil, List.replicate_zero, List.replicate_succ, List.cons_append, List.nil_append, List.getElem?_cons_zero, List.getElem?_cons_succ, List.set_cons_zero, List.set_cons_succ, Nat.reduceSub, Nat.reduceAdd, Bool.not_true, Bool.not_false, wipeE, bnd_ok, bnd_err, bnd_bad, on_ok, on_err, on_bad, sel_true, sel_false, slotR_val, fnR_fn, isR_val, negR_int, notR_bl, blSel_bl, optR_int, augR_val, thn_next, thn_ret, thn_err, thn_brk, thn_cont, again_next, again_cont, again_brk, again_ret, again_err, ctch_next, ctch_ret, ctch_err, fin_ret, fin_next, fin_err, okIf_t, e_slot, e_lit, e_globP, e_tup, e_lst, e_bin, e_neg, e_not, e_and, e_or, e_cmp, e_cmp2, e_ite, e_call, e_callv, e_bi, e_bic, e_isi, e_isiS, e_mth, e_ix, e_sl, e_rev, e_lc, o_none, o_some, es_nil, es_cons, b_val, b_not, b_and, b_or, b_yes, c_mk, i_seq, i_range1, i_range2, i_range3, i_enum, t_slot, t_tup, t_ix, ts_nil, ts_cons, s_asg, s_par, s_aug, s_for, s_while, s_if, s_ret, s_retN, s_expr, s_raise, s_try, s_brk, s_cont, s_pass, ss_nil, ss_cons, bin_add, bin_sub, bin_addS, bin_addT, bin_addL, bin_mulL, aug_add, aug_sub, eqS_int, eqS_bl, c_eq, c_ne, c_lt, c_le, c_gt, c_ge, c_isN, c_isntN, bi_one, bi_two, bi1_int, bi1_bl, bi1_str, bi1_tup, bi1_ref, bi2_int, biI_int, biB_int, biI_abs, biT_len, biT_tuple, biT_list, biL_len, biL_tuple, biL_list, biL_sum, biL_any, biL_all, biII_max, biII_min, truth_bl, truth_int, truth_tup, truth_non, seq_tup, ix_ref, ix_tup, sl_tup, sl_ref, set_ref, mt_app, it_tup, it_ref, it_r1, it_r2, noerr_err, atI_0, atI_1, atI_2, atI_3, atI_l, bin_modp, bin_divp, bin_mulp, ixN_40, ixN_41, ixN_42, ixN_43, isR_excP, pow_10_18, atI_cast, List.length_map, Res.noerr_ok, Res.noerr_bad, ofO_some, isi_tuple_tuple, isi_tuple_str, isi_tuple_int, isi_tuple_bool, isi_str_tuple, isi_str_str, isi_str_int, isi_str_bool, isi_int_tuple, isi_int_str, isi_int_int, isi_int_bool, isi_bool_tuple, isi_bool_str, isi_bool_int, isi_bool_bool, isi_NoneType_tuple, isi_NoneType_str, isi_NoneType_int, isi_NoneType_bool, q_F_F, q_F_P, q_F_Q, q_F_Z, q_P_F, q_P_P, q_P_Q, q_P_Z, q_Q_F, q_Q_P, q_Q_Q, q_Q_Z, q_R_F, q_R_P, q_R_Q, q_R_Z, q_Z_F, q_Z_P, q_Z_Q, q_Z_Z, F_difference, need_field_no lf (h _ _), trimX_self]
theorem d_24 {k : Nat} {S : Store} {d a : D} (h : NotF d) : callF P (k + 5) 24 [d, a] S = .err ⟨1, none⟩ S := by
  rw [callF_of (f := F_minimal) rfl rfl]
  simp (disch := omega) only [Int.natCast_zero, Int.natCast_one, Int.cast_ofNat_Int, Int.reduceEq, Int.reduceLT, Int.reduceLE, decide_true, decide_false, List.length_cons, List.length_nil, List.set_set, List.map_cons, List.map_nil, List.replicate_zero, List.replicate_succ, List.cons_append, List.nil_append, List.getElem?_cons_zero, List.getElem?_cons_succ, List.set_cons_zero, List.set_cons_succ, Nat.reduceSub, Nat.reduceAdd, Bool.not_true, Bool.not_false, wipeE, bnd_ok, bnd_err, bnd_bad, on_ok, on_err, on_bad, sel_true, sel_false, slotR_val, fnR_fn, isR_val, negR_int, notR_bl, blSel_bl, optR_int, augR_val, thn_next, thn_ret, thn_err, thn_brk, thn_cont, again_next, again_cont, again_brk, again_ret, again_err, ctch_next, ctch_ret, ctch_err, fin_ret, fin_next, fin_err, okIf_t, e_slot, e_lit, e_globP, e_tup, e_lst, e_bin, e_neg, e_not, e_and, e_or, e_cmp, e_cmp2, e_ite, e_call, e_callv, e_bi, e_bic, e_isi, e_isiS, e_mth, e_ix, e_sl, e_rev, e_lc, o_none, o_some, es_nil, es_cons, b_val, b_not, b_and, b_or, b_yes, c_mk, i_seq, i_range1, i_range2, i_range3, i_enum, t_slot, t_tup, t_ix, ts_nil, ts_cons, s_asg, s_par, s_aug, s_for, s_while, s_if, s_ret, s_retN, s_expr, s_raise, s_try, s_brk, s_cont, s_pass, ss_nil, ss_cons, bin_add, bin_sub, bin_addS, bin_addT, bin_addL, bin_mulL, aug_add, aug_sub, eqS_int, eqS_bl, c_eq, c_ne, c_lt, c_le, c_gt, c_ge, c_isN, c_isntN, bi_one, bi_two, bi1_int, bi1_bl, bi1_str, bi1_tup, bi1_ref, bi2_int, biI_int, biB_int, biI_abs, biT_len, biT_tuple, biT_list, biL_len, biL_tuple, biL_list, biL_sum, biL_any, biL_all, biII_max, biII_min, truth_bl, truth_int, truth_tup, truth_non, seq_tup, ix_ref, ix_tup, sl_tup, sl_ref, set_ref, mt_app, it_tup, it_ref, it_r1, it_r2, noerr_err, atI_0, atI_1, atI_2, atI_3, atI_l, bin_modp, bin_divp, bin_mulp, ixN_40, ixN_41, ixN_42, ixN_43, isR_excP, pow_10_18, atI_cast, List.length_map, Res.noerr_ok, Res.noerr_bad, ofO_some, isi_tuple_tuple, isi_tuple_str, isi_tuple_int, isi_tuple_bool, isi_str_tuple, isi_str_str, isi_str_int, isi_str_bool, isi_int_tuple, isi_int_str, isi_int_int, isi_int_bool, isi_bool_tuple, isi_bool_str, isi_bool_int, isi_bool_bool, isi_NoneType_tuple, isi_NoneType_str, isi_NoneType_int, isi_NoneType_bool, q_F_F, q_F_P, q_F_Q, q_F_Z, q_P_F, q_P_P, q_P_Q, q_P_Z, q_Q_F, q_Q_P, q_Q_Q, q_Q_Z, q_R_F, q_R_P, q_R_Q, q_R_Z, q_Z_F, q_Z_P, q_Z_Q, q_Z_Z, F_minimal, d_23 h, trimX_self]
theorem d_25 {k : Nat} {S : Store} {d a : D} (h : NotF d) : callF P (k + 5) 25 [d, a] S = .err ⟨1, none⟩ S := by
  rw [callF_of (f := F_cyclic_vector) rfl rfl]
  simp (disch := omega) only [Int.natCast_zero, Int.natCast_one, Int.cast_ofNat_Int, Int.reduceEq, Int.reduceLT, Int.reduceLE, decide_true, decide_false, List.length_cons, List.length_nil, List.set_set, List.map_cons, List.map_nil, List.replicate_zero, List.replicate_succ, List.cons_append, List.nil_append, List.getElem?_cons_zero, List.getElem?_cons_succ, List.set_cons_zero, List.set_cons_succ, Nat.reduceSub, Nat.reduceAdd, Bool.not_true, Bool.not_false, wipeE, bnd_ok, bnd_err, bnd_bad, on_ok, on_err, on_bad, sel_true, sel_false, slotR_val, fnR_fn, isR_val, negR_int, notR_bl, blSel_bl, optR_int, augR_val, thn_next, thn_ret, thn_err, thn_brk, thn_cont, again_next, again_cont, again_brk, again_ret, again_err, ctch_next, ctch_ret, ctch_err, fin_ret, fin_next, fin_err, okIf_t, e_slot, e_lit, e_globP, e_tup, e_lst, e_bin, e_neg, e_not, e_and, e_or, e_cmp, e_cmp2, e_ite, e_call, e_callv, e_bi, e_bic, e_isi, e_isiS, e_mth, e_ix, e_sl, e_rev, e_lc, o_none, o_some, es_nil, es_cons, b_val, b_not, b_and, b_or, b_yes, c_mk, i_seq, i_range1, i_range2, i_range3, i_enum, t_slot, t_tup, t_ix, ts_nil, ts_cons, s_asg, s_par, s_aug, s_for, s_while, s_if, s_ret, s_retN, s_expr, s_raise, s_try, s_brk, s_cont, s_pass, ss_nil, ss_cons, bin_add, bin_sub, bin_addS, bin_addT, bin_addL, bin_mulL, aug_add, aug_sub, eqS_int, eqS_bl, c_eq, c_ne, c_lt, c_le, c_gt, c_ge, c_isN, c_isntN, bi_one, bi_two, bi1_int, bi1_bl, bi1_str, bi1_tup, bi1_ref, bi2_int, biI_int, biB_int, biI_abs, biT_len, biT_tuple, biT_list, biL_len, biL_tuple, biL_list, biL_sum, biL_any, biL_all, biII_max, biII_min, truth_bl, truth_int, truth_tup, truth_non, seq_tup, ix_ref, ix_tup, sl_tup, sl_ref, set_ref, mt_app, it_tup, it_ref, it_r1, it_r2, noerr_err, atI_0, atI_1, atI_2, atI_3, atI_l, bin_modp, bin_divp, bin_mulp, ixN_40, ixN_41, ixN_42, ixN_43, isR_excP, pow_10_18, atI_cast, List.length_map, Res.noerr_ok, Res.noerr_bad, ofO_some, isi_tuple_tuple, isi_tuple_str, isi_tuple_int, isi_tuple_bool, isi_str_tuple, isi_str_str, isi_str_int, isi_str_bool, isi_int_tuple, isi_int_str, isi_int_int, isi_int_bool, isi_bool_tuple, isi_bool_str, isi_bool_int, isi_bool_bool, isi_NoneType_tuple, isi_NoneType_str, isi_NoneType_int, isi_NoneType_bool, q_F_F, q_F_P, q_F_Q, q_F_Z, q_P_F, q_P_P, q_P_Q, q_P_Z, q_Q_F, q_Q_P, q_Q_Q, q_Q_Z, q_R_F, q_R_P, q_R_Q, q_R_Z, q_Z_F, q_Z_P, q_Z_Q, q_Z_Z, F_cyclic_vector, d_23 h, trimX_self]
theorem d_28 {k : Nat} {S : Store} {d a : D} (h : NotF d) : callF P (k + 5) 28 [d, a] S = .err ⟨1, none⟩ S := by
  rw [callF_of (f := F_invariant_factors) rfl rfl]
  simp (disch := omega) only [Int.natCast_zero, Int.natCast_one, Int.cast_ofNat_Int, Int.reduceEq, Int.reduceLT, Int.reduceLE, decide_true, decide_false, List.length_cons, List.length_nil, List.set_set, List.map_cons, List.map_nil, List.replicate_zero, List.replicate_succ, List.cons_append, List.nil_append, List.getElem?_cons_zero, List.getElem?_cons_succ, List.set_cons_zero, List.set_cons_succ, Nat.reduceSub, Nat.reduceAdd, Bool.not_true, Bool.not_false, wipeE, bnd_ok, bnd_err, bnd_bad, on_ok, on_err, on_bad, sel_true, sel_false, slotR_val, fnR_fn, isR_val, negR_int, notR_bl, blSel_bl, optR_int, augR_val, thn_next, thn_ret, thn_err, thn_brk, thn_cont, again_next, again_cont, again_brk, again_ret, again_err, ctch_next, ctch_ret, ctch_err, fin_ret, fin_next, fin_err, okIf_t, e_slot, e_lit, e_globP, e_tup, e_lst, e_bin, e_neg, e_not, e_and, e_or, e_cmp, e_cmp2, e_ite, e_call, e_callv, e_bi, e_bic, e_isi, e_isiS, e_mth, e_ix, e_sl, e_rev, e_lc, o_none, o_some, es_nil, es_cons, b_val, b_not, b_and, b_or, b_yes, c_mk, i_seq, i_range1, i_range2, i_range3, i_enum, t_slot, t_tup, t_ix, ts_nil, ts_cons, s_asg, s_par, s_aug, s_for, s_while, s_if, s_ret, s_retN, s_expr, s_raise, s_try, s_brk, s_cont, s_pass, ss_nil, ss_cons, bin_add, bin_sub, bin_addS, bin_addT, bin_addL, bin_mulL, aug_add, aug_sub, eqS_int, eqS_bl, c_eq, c_ne, c_lt, c_le, c_gt, c_ge, c_isN, c_isntN, bi_one, bi_two, bi1_int, bi1_bl, bi1_str, bi1_tup, bi1_ref, bi2_int, biI_int, biB_int, biI_abs, biT_len, biT_tuple, biT_list, biL_len, biL_tuple, biL_list, biL_sum, biL_any, biL_all, biII_max, biII_min, truth_bl, truth_int, truth_tup, truth_non, seq_tup, ix_ref, ix_tup, sl_tup, sl_ref, set_ref, mt_app, it_tup, it_ref, it_r1, it_r2, noerr_err, atI_0, atI_1, atI_2, atI_3, atI_l, bin_modp, bin_divp, bin_mulp, ixN_40, ixN_41, ixN_42, ixN_43, isR_excP, pow_10_18, atI_cast, List.length_map, Res.noerr_ok, Res.noerr_bad, ofO_some, isi_tuple_tuple, isi_tuple_str, isi_tuple_int, isi_tuple_bool, isi_str_tuple, isi_str_str, isi_str_int, isi_str_bool, isi_int_tuple, isi_int_str, isi_int_int, isi_int_bool, isi_bool_tuple, isi_bool_str, isi_bool_int, isi_bool_bool, isi_NoneType_tuple, isi_NoneType_str, isi_NoneType_int, isi_NoneType_bool, q_F_F, q_F_P, q_F_Q, q_F_Z, q_P_F, q_P_P, q_P_Q, q_P_Z, q_Q_F, q_Q_P, q_Q_Q, q_Q_Z, q_R_F, q_R_P, q_R_Q, q_R_Z, q_Z_F, q_Z_P, q_Z_Q, q_Z_Z, F_invariant_factors, d_27 h, trimX_self]
theorem d_30 {k : Nat} {S : Store} {d a : D} (h : NotF d) : callF P (k + 5) 30 [d, a] S = .err ⟨1, none⟩ S := by
  rw [callF_of (f := F_frobenius) rfl rfl]
  simp (disch := omega) only [Int.natCast_zero, Int.natCast_one, Int.cast_ofNat_Int, Int.reduceEq, Int.reduceLT, Int.reduceLE, decide_true, decide_false, List.length_cons, List.length_nil, List.set_set, List.map_cons, List.map_nil, List.replicate_zero, List.replicate_succ, List.cons_append, List.nil_append, List.getElem?_cons_zero, List.getElem?_cons_succ, List.set_cons_zero, List.set_cons_succ, Nat.reduceSub, Nat.reduceAdd, Bool.not_true, Bool.not_false, wipeE, bnd_ok, bnd_err, bnd_bad, on_ok, on_err, on_bad, sel_true, sel_false, slotR_val, fnR_fn, isR_val, negR_int, notR_bl, blSel_bl, optR_int, augR_val, thn_next, thn_ret, thn_err, thn_brk, thn_cont, again_next, again_cont, again_brk, again_ret, again_err, ctch_next, ctch_ret, ctch_err, fin_ret, fin_next, fin_err, okIf_t, e_slot, e_lit, e_globP, e_tup, e_lst, e_bin, e_neg, e_not, e_and, e_or, e_cmp, e_cmp2, e_ite, e_call, e_callv, e_bi, e_bic, e_isi, e_isiS, e_mth, e_ix, e_sl, e_rev, e_lc, o_none, o_some, es_nil, es_cons, b_val, b_not, b_and, b_or, b_yes, c_mk, i_seq, i_range1, i_range2, i_range3, i_enum, t_slot, t_tup, t_ix, ts_nil, ts_cons, s_asg, s_par, s_aug, s_for, s_while, s_if, s_ret, s_retN, s_expr, s_raise, s_try, s_brk, s_cont, s_pass, ss_nil, ss_cons, bin_add, bin_sub, bin_addS, bin_addT, bin_addL, bin_mulL, aug_add, aug_sub, eqS_int, eqS_bl, c_eq, c_ne, c_lt, c_le, c_gt, c_ge, c_isN, c_isntN, bi_one, bi_two, bi1_int, bi1_bl, bi1_str, bi1_tup, bi1_ref, bi2_int, biI_int, biB_int, biI_abs, biT_len, biT_tuple, biT_list, biL_len, biL_tuple, biL_list, biL_sum, biL_any, biL_all, biII_max, biII_min, truth_bl, truth_int, truth_tup, truth_non, seq_tup, ix_ref, ix_tup, sl_tup, sl_ref, set_ref, mt_app, it_tup, it_ref, it_r1, it_r2, noerr_err, atI_0, atI_1, atI_2, atI_3, atI_l, bin_modp, bin_divp, bin_mulp, ixN_40, ixN_41, ixN_42, ixN_43, isR_excP, pow_10_18, atI_cast, List.length_map, Res.noerr_ok, Res.noerr_bad, ofO_some, isi_tuple_tuple, isi_tuple_str, isi_tuple_int, isi_tuple_bool, isi_str_tuple, isi_str_str, isi_str_int, isi_str_bool, isi_int_tuple, isi_int_str, isi_int_int, isi_int_bool, isi_bool_tuple, isi_bool_str, isi_bool_int, isi_bool_bool, isi_NoneType_tuple, isi_NoneType_str, isi_NoneType_int, isi_NoneType_bool, q_F_F, q_F_P, q_F_Q, q_F_Z, q_P_F, q_P_P, q_P_Q, q_P_Z, q_Q_F, q_Q_P, q_Q_Q, q_Q_Z, q_R_F, q_R_P, q_R_Q, q_R_Z, q_Z_F, q_Z_P, q_Z_Q, q_Z_Z, F_frobenius, d_27 h, trimX_self]
theorem d_32 {k : Nat} {S : Store} {d a : D} (h : NotF d) : callF P (k + 5) 32 [d, a] S = .err ⟨1, none⟩ S := by
  rw [callF_of (f := F_eigenvalues) rfl rfl]
  simp (disch := omega) only [Int.natCast_zero, Int.natCast_one, Int.cast_ofNat_Int, Int.reduceEq, Int.reduceLT, Int.reduceLE, decide_true, decide_false, List.length_cons, List.length_nil, List.set_set, List.map_cons, List.map_nil, List.replicate_zero, List.replicate_succ, List.cons_append, List.nil_append, List.getElem?_cons_zero, List.getElem?_cons_succ, List.set_cons_zero, List.set_cons_succ, Nat.reduceSub, Nat.reduceAdd, Bool.not_true, Bool.not_false, wipeE, bnd_ok, bnd_err, bnd_bad, on_ok, on_err, on_bad, sel_true, sel_false, slotR_val, fnR_fn, isR_val, negR_int, notR_bl, blSel_bl, optR_int, augR_val, thn_next, thn_ret, thn_err, thn_brk, thn_cont, again_next, again_cont, again_brk, again_ret, again_err, ctch_next, ctch_ret, ctch_err, fin_ret, fin_next, fin_err, okIf_t, e_slot, e_lit, e_globP, e_tup, e_lst, e_bin, e_neg, e_not, e_and, e_or, e_cmp, e_cmp2, e_ite, e_call, e_callv, e_bi, e_bic, e_isi, e_isiS, e_mth, e_ix, e_sl, e_rev, e_lc, o_none, o_some, es_nil, es_cons, b_val, b_not, b_and, b_or, b_yes, c_mk, i_seq, i_range1, i_range2, i_range3, i_enum, t_slot, t_tup, t_ix, ts_nil, ts_cons, s_asg, s_par, s_aug, s_for, s_while, s_if, s_ret, s_retN, s_expr, s_raise, s_try, s_brk, s_cont, s_pass, ss_nil, ss_cons, bin_add, bin_sub, bin_addS, bin_addT, bin_addL, bin_mulL, aug_add, aug_sub, eqS_int, eqS_bl, c_eq, c_ne, c_lt, c_le, c_gt, c_ge, c_isN, c_isntN, bi_one, bi_two, bi1_int, bi1_bl, bi1_str, bi1_tup, bi1_ref, bi2_int, biI_int, biB_int, biI_abs, biT_len, biT_tuple, biT_list, biL_len, biL_tuple, biL_list, biL_sum, biL_any, biL_all, biII_max, biII_min, truth_bl, truth_int, truth_tup, truth_non, seq_tup, ix_ref, ix_tup, sl_tup, sl_ref, set_ref, mt_app, it_tup, it_ref, it_r1, it_r2, noerr_err, atI_0, atI_1, atI_2, atI_3, atI_l, bin_modp, bin_divp, bin_mulp, ixN_40, ixN_41, ixN_42, ixN_43, isR_excP, pow_10_18, atI_cast, List.length_map, Res.noerr_ok, Res.noerr_bad, ofO_some, isi_tuple_tuple, isi_tuple_str, isi_tuple_int, isi_tuple_bool, isi_str_tuple, isi_str_str, isi_str_int, isi_str_bool, isi_int_tuple, isi_int_str, isi_int_int, isi_int_bool, isi_bool_tuple, isi_bool_str, isi_bool_int, isi_bool_bool, isi_NoneType_tuple, isi_NoneType_str, isi_NoneType_int, isi_NoneType_bool, q_F_F, q_F_P, q_F_Q, q_F_Z, q_P_F, q_P_P, q_P_Q, q_P_Z, q_Q_F, q_Q_P, q_Q_Q, q_Q_Z, q_R_F, q_R_P, q_R_Q, q_R_Z, q_Z_F, q_Z_P, q_Z_Q, q_Z_Z, F_eigenvalues, d_21 h, trimX_self]
theorem d_33 {k : Nat} {S : Store} {d a : D} (h : NotF d) : callF P (k + 6) 33 [d, a] S = .err ⟨1, none⟩ S := by
  rw [callF_of (f := F_splits) rfl rfl]
  simp (disch := omega) only [Int.natCast_zero, Int.natCast_one, Int.cast_ofNat_Int, Int.reduceEq, Int.reduceLT, Int.reduceLE, decide_true, decide_false, List.length_cons, List.length_nil, List.set_set, List.map_cons, List.map_nil, List.replicate_zero, List.replicate_succ, List.cons_append, List.nil_append, List.getElem?_cons_zero, List.getElem?_cons_succ, List.set_cons_zero, List.set_cons_succ, Nat.reduceSub, Nat.reduceAdd, Bool.not_true, Bool.not_false, wipeE, bnd_ok, bnd_err, bnd_bad, on_ok, on_err, on_bad, sel_true, sel_false, slotR_val, fnR_fn, isR_val, negR_int, notR_bl, blSel_bl, optR_int, augR_val, thn_next, thn_ret, thn_err, thn_brk, thn_cont, again_next, again_cont, again_brk, again_ret, again_err, ctch_next, ctch_ret, ctch_err, fin_ret, fin_next, fin_err, okIf_t, e_slot, e_lit, e_globP, e_tup, e_lst, e_bin, e_neg, e_not, e_and, e_or, e_cmp, e_cmp2, e_ite, e_call, e_callv, e_bi, e_bic, e_isi, e_isiS, e_mth, e_ix, e_sl, e_rev, e_lc, o_none, o_some, es_nil, es_cons, b_val, b_not, b_and, b_or, b_yes, c_mk, i_seq, i_range1, i_range2, i_range3, i_enum, t_slot, t_tup, t_ix, ts_nil, ts_cons, s_asg, s_par, s_aug, s_for, s_while, s_if, s_ret, s_retN, s_expr, s_raise, s_try, s_brk, s_cont, s_pass, ss_nil, ss_cons, bin_add, bin_sub, bin_addS, bin_addT, bin_addL, bin_mulL, aug_add, aug_sub, eqS_int, eqS_bl, c_eq, c_ne, c_lt, c_le, c_gt, c_ge, c_isN, c_isntN, bi_one, bi_two, bi1_int, bi1_bl, bi1_str, bi1_tup, bi1_ref, bi2_int, biI_int, biB_int, biI_abs, biT_len, biT_tuple, biT_list, biL_len, biL_tuple, biL_list, biL_sum, biL_any, biL_all, biII_max, biII_min, truth_bl, truth_int, truth_tup, truth_non, seq_tup, ix_ref, ix_tup, sl_tup, sl_ref, set_ref, mt_app, it_tup, it_ref, it_r1, it_r2, noerr_err, atI_0, atI_1, atI_2, atI_3, atI_l, bin_modp, bin_divp, bin_mulp, ixN_40, ixN_41, ixN_42, ixN_43, isR_excP, pow_10_18, atI_cast, List.length_map, Res.noerr_ok, Res.noerr_bad, ofO_some, isi_tuple_tuple, isi_tuple_str, isi_tuple_int, isi_tuple_bool, isi_str_tuple, isi_str_str, isi_str_int, isi_str_bool, isi_int_tuple, isi_int_str, isi_int_int, isi_int_bool, isi_bool_tuple, isi_bool_str, isi_bool_int, isi_bool_bool, isi_NoneType_tuple, isi_NoneType_str, isi_NoneType_int, isi_NoneType_bool, q_F_F, q_F_P, q_F_Q, q_F_Z, q_P_F, q_P_P, q_P_Q, q_P_Z, q_Q_F, q_Q_P, q_Q_Q, q_Q_Z, q_R_F, q_R_P, q_R_Q, q_R_Z, q_Z_F, q_Z_P, q_Z_Q, q_Z_Z, F_splits, d_32 h, trimX_self]
theorem d_36 {k : Nat} {S : Store} {d a : D} (h : NotF d) : callF P (k + 5) 36 [d, a] S = .err ⟨1, none⟩ S := by
  rw [callF_of (f := F_unsplit) rfl rfl]
  simp (disch := omega) only [Int.natCast_zero, Int.natCast_one, Int.cast_ofNat_Int, Int.reduceEq, Int.reduceLT, Int.reduceLE, decide_true, decide_false, List.length_cons, List.length_nil, List.set_set, List.map_cons, List.map_nil, List.replicate_zero, List.replicate_succ, List.cons_append, List.nil_append, List.getElem?_cons_zero, List.getElem?_cons_succ, List.set_cons_zero, List.set_cons_succ, Nat.reduceSub, Nat.reduceAdd, Bool.not_true, Bool.not_false, wipeE, bnd_ok, bnd_err, bnd_bad, on_ok, on_err, on_bad, sel_true, sel_false, slotR_val, fnR_fn, isR_val, negR_int, notR_bl, blSel_bl, optR_int, augR_val, thn_next, thn_ret, thn_err, thn_brk, thn_cont, again_next, again_cont, again_brk, again_ret, again_err, ctch_next, ctch_ret, ctch_err, fin_ret, fin_next, fin_err, okIf_t, e_slot, e_lit, e_globP, e_tup, e_lst, e_bin, e_neg, e_not, e_and, e_or, e_cmp, e_cmp2, e_ite, e_call, e_callv, e_bi, e_bic, e_isi, e_isiS, e_mth, e_ix, e_sl, e_rev, e_lc, o_none, o_some, es_nil, es_cons, b_val, b_not, b_and, b_or, b_yes, c_mk, i_seq, i_range1, i_range2, i_range3, i_enum, t_slot, t_tup, t_ix, ts_nil, ts_cons, s_asg, s_par, s_aug, s_for, s_while, s_if, s_ret, s_retN, s_expr, s_raise, s_try, s_brk, s_cont, s_pass, ss_nil, ss_cons, bin_add, bin_sub, bin_addS, bin_addT, bin_addL, bin_mulL, aug_add, aug_sub, eqS_int, eqS_bl, c_eq, c_ne, c_lt, c_le, c_gt, c_ge, c_isN, c_isntN, bi_one, bi_two, bi1_int, bi1_bl, bi1_str, bi1_tup, bi1_ref, bi2_int, biI_int, biB_int, biI_abs, biT_len, biT_tuple, biT_list, biL_len, biL_tuple, biL_list, biL_sum, biL_any, biL_all, biII_max, biII_min, truth_bl, truth_int, truth_tup, truth_non, seq_tup, ix_ref, ix_tup, sl_tup, sl_ref, set_ref, mt_app, it_tup, it_ref, it_r1, it_r2, noerr_err, atI_0, atI_1, atI_2, atI_3, atI_l, bin_modp, bin_divp, bin_mulp, ixN_40, ixN_41, ixN_42, ixN_43, isR_excP, pow_10_18, atI_cast, List.length_map, Res.noerr_ok, Res.noerr_bad, ofO_some, isi_tuple_tuple, isi_tuple_str, isi_tuple_int, isi_tuple_bool, isi_str_tuple, isi_str_str, isi_str_int, isi_str_bool, isi_int_tuple, isi_int_str, isi_int_int, isi_int_bool, isi_bool_tuple, isi_bool_str, isi_bool_int, isi_bool_bool, isi_NoneType_tuple, isi_NoneType_str, isi_NoneType_int, isi_NoneType_bool, q_F_F, q_F_P, q_F_Q, q_F_Z, q_P_F, q_P_P, q_P_Q, q_P_Z, q_Q_F, q_Q_P, q_Q_Q, q_Q_Z, q_R_F, q_R_P, q_R_Q, q_R_Z, q_Z_F, q_Z_P, q_Z_Q, q_Z_Z, F_unsplit, d_21 h, trimX_self]
theorem d_37 {k : Nat} {S : Store} {d a : D} (h : NotF d) : callF P (k + 7) 37 [d, a] S = .err ⟨1, none⟩ S := by
  rw [callF_of (f := F_is_diagonal) rfl rfl]
  simp (disch := omega) only [Int.natCast_zero, Int.natCast_one, Int.cast_ofNat_Int, Int.reduceEq, Int.reduceLT, Int.reduceLE, decide_true, decide_false, List.length_cons, List.length_nil, List.set_set, List.map_cons, List.map_nil, List.replicate_zero, List.replicate_succ, List.cons_append, List.nil_append, List.getElem?_cons_zero, List.getElem?_cons_succ, List.set_cons_zero, List.set_cons_succ, Nat.reduceSub, Nat.reduceAdd, Bool.not_true, Bool.not_false, wipeE, bnd_ok, bnd_err, bnd_bad, on_ok, on_err, on_bad, sel_true, sel_false, slotR_val, fnR_fn, isR_val, negR_int, notR_bl, blSel_bl, optR_int, augR_val, thn_next, thn_ret, thn_err, thn_brk, thn_cont, again_next, again_cont, again_brk, again_ret, again_err, ctch_next, ctch_ret, ctch_err, fin_ret, fin_next, fin_err, okIf_t, e_slot, e_lit, e_globP, e_tup, e_lst, e_bin, e_neg, e_not, e_and, e_or, e_cmp, e_cmp2, e_ite, e_call, e_callv, e_bi, e_bic, e_isi, e_isiS, e_mth, e_ix, e_sl, e_rev, e_lc, o_none, o_some, es_nil, es_cons, b_val, b_not, b_and, b_or, b_yes, c_mk, i_seq, i_range1, i_range2, i_range3, i_enum, t_slot, t_tup, t_ix, ts_nil, ts_cons, s_asg, s_par, s_aug, s_for, s_while, s_if, s_ret, s_retN, s_expr, s_raise, s_try, s_brk, s_cont, s_pass, ss_nil, ss_cons, bin_add, bin_sub, bin_addS, bin_addT, bin_addL, bin_mulL, aug_add, aug_sub, eqS_int, eqS_bl, c_eq, c_ne, c_lt, c_le, c_gt, c_ge, c_isN, c_isntN, bi_one, bi_two, bi1_int, bi1_bl, bi1_str, bi1_tup, bi1_ref, bi2_int, biI_int, biB_int, biI_abs, biT_len, biT_tuple, biT_list, biL_len, biL_tuple, biL_list, biL_sum, biL_any, biL_all, biII_max, biII_min, truth_bl, truth_int, truth_tup, truth_non, seq_tup, ix_ref, ix_tup, sl_tup, sl_ref, set_ref, mt_app, it_tup, it_ref, it_r1, it_r2, noerr_err, atI_0, atI_1, atI_2, atI_3, atI_l, bin_modp, bin_divp, bin_mulp, ixN_40, ixN_41, ixN_42, ixN_43, isR_excP, pow_10_18, atI_cast, List.length_map, Res.noerr_ok, Res.noerr_bad, ofO_some, isi_tuple_tuple, isi_tuple_str, isi_tuple_int, isi_tuple_bool, isi_str_tuple, isi_str_str, isi_str_int, isi_str_bool, isi_int_tuple, isi_int_str, isi_int_int, isi_int_bool, isi_bool_tuple, isi_bool_str, isi_bool_int, isi_bool_bool, isi_NoneType_tuple, isi_NoneType_str, isi_NoneType_int, isi_NoneType_bool, q_F_F, q_F_P, q_F_Q, q_F_Z, q_P_F, q_P_P, q_P_Q, q_P_Z, q_Q_F, q_Q_P, q_Q_Q, q_Q_Z, q_R_F, q_R_P, q_R_Q, q_R_Z, q_Z_F, q_Z_P, q_Z_Q, q_Z_Z, F_is_diagonal, d_33 h, trimX_self]
theorem d_26 {k : Nat} {S : Store} {d a v : D} (h : NotF d) : callF P (k + 5) 26 [d, a, v] S = .err ⟨1, none⟩ S := by
  rw [callF_of (f := F_krylov) rfl rfl]
  simp (disch := omega) only [Int.natCast_zero, Int.natCast_one, Int.cast_ofNat_Int, Int.reduceEq, Int.reduceLT, Int.reduceLE, decide_true, decide_false, List.length_cons, List.length_nil, List.set_set, List.map_cons, List.map_nil, List.replicate_zero, List.replicate_succ, List.cons_append, List.nil_append, List.getElem?_cons_zero, List.getElem?_cons_succ, List.set_cons_zero, List.set_cons_succ, Nat.reduceSub, Nat.reduceAdd, Bool.not_true, Bool.not_false, wipeE, bnd_ok, bnd_err, bnd_bad, on_ok, on_err, on_bad, sel_true, sel_false, slotR_val, fnR_fn, isR_val, negR_int, notR_bl, blSel_bl, optR_int, augR_val, thn_next, thn_ret, thn_err, thn_brk, thn_cont, again_next, again_cont, again_brk, again_ret, again_err, ctch_next, ctch_ret, ctch_err, fin_ret, fin_next, fin_err, okIf_t, e_slot, e_lit, e_globP, e_tup, e_lst, e_bin, e_neg, e_not, e_and, e_or, e_cmp, e_cmp2, e_ite, e_call, e_callv, e_bi, e_bic, e_isi, e_isiS, e_mth, e_ix, e_sl, e_rev, e_lc, o_none, o_some, es_nil, es_cons, b_val, b_not, b_and, b_or, b_yes, c_mk, i_seq, i_range1, i_range2, i_range3, i_enum, t_slot, t_tup, t_ix, ts_nil, ts_cons, s_asg, s_par, s_aug, s_for, s_while, s_if, s_ret, s_retN, s_expr, s_raise, s_try, s_brk, s_cont, s_pass, ss_nil, ss_cons, bin_add, bin_sub, bin_addS, bin_addT, bin_addL, bin_mulL, aug_add, aug_sub, eqS_int, eqS_bl, c_eq, c_ne, c_lt, c_le, c_gt, c_ge, c_isN, c_isntN, bi_one, bi_two, bi1_int, bi1_bl, bi1_str, bi1_tup, bi1_ref, bi2_int, biI_int, biB_int, biI_abs, biT_len, biT_tuple, biT_list, biL_len, biL_tuple, biL_list, biL_sum, biL_any, biL_all, biII_max, biII_min, truth_bl, truth_int, truth_tup, truth_non, seq_tup, ix_ref, ix_tup, sl_tup, sl_ref, set_ref, mt_app, it_tup, it_ref, it_r1, it_r2, noerr_err, atI_0, atI_1, atI_2, atI_3, atI_l, bin_modp, bin_divp, bin_mulp, ixN_40, ixN_41, ixN_42, ixN_43, isR_excP, pow_10_18, atI_cast, List.length_map, Res.noerr_ok, Res.noerr_bad, ofO_some, isi_tuple_tuple, isi_tuple_str, isi_tuple_int, isi_tuple_bool, isi_str_tuple, isi_str_str, isi_str_int, isi_str_bool, isi_int_tuple, isi_int_str, isi_int_int, isi_int_bool, isi_bool_tuple, isi_bool_str, isi_bool_int, isi_bool_bool, isi_NoneType_tuple, isi_NoneType_str, isi_NoneType_int, isi_NoneType_bool, q_F_F, q_F_P, q_F_Q, q_F_Z, q_P_F, q_P_P, q_P_Q, q_P_Z, q_Q_F, q_Q_P, q_Q_Q, q_Q_Z, q_R_F, q_R_P, q_R_Q, q_R_Z, q_Z_F, q_Z_P, q_Z_Q, q_Z_Z, F_krylov, d_22 h, trimX_self]
theorem s_21 {k : Nat} {S : Store} {d r : D} {m n : Int} (h : IsF d) (hmn : m ≠ n) : callF P (k + 4) 21 [d, .tup [.int m, .int n, r]] S = .err ⟨2, none⟩ S := by
  rw [callF_of (f := F_characteristic) rfl rfl]
  simp (disch := omega) only [Int.natCast_zero, Int.natCast_one, Int.cast_ofNat_Int, Int.reduceEq, Int.reduceLT, Int.reduceLE, decide_true, decide_false, List.length_cons, List.length_nil, List.set_set, List.map_cons, List.map_nil, List.replicate_zero, List.replicate_succ, List.cons_append, List.nil_append, List.getElem?_cons_zero, List.getElem?_cons_succ, List.set_cons_zero, List.set_cons_succ, Nat.reduceSub, Nat.reduceAdd, Bool.not_true, Bool.not_false, wipeE, bnd_ok, bnd_err, bnd_bad, on_ok, on_err, on_bad, sel_true, sel_false, slotR_val, fnR_fn, isR_val, negR_int, notR_bl, blSel_bl, optR_int, augR_val, thn_next, thn_ret, thn_err, thn_brk, thn_cont, again_next, again_cont, again_brk, again_ret, again_err, ctch_next, ctch_ret, ctch_err, fin_ret, fin_next, fin_err, okIf_t, e_slot, e_lit, e_globP, e_tup, e_lst, e_bin, e_neg, e_not, e_and, e_or, e_cmp, e_cmp2, e_ite, e_call, e_callv, e_bi, e_bic, e_isi, e_isiS, e_mth, e_ix, e_sl, e_rev, e_lc, o_none, o_some, es_nil, es_cons, b_val, b_not, b_and, b_or, b_yes, c_mk, i_seq, i_range1, i_range2, i_range3, i_enum, t_slot, t_tup, t_ix, ts_nil, ts_cons, s_asg, s_par, s_aug, s_for, s_while, s_if, s_ret, s_retN, s_expr, s_raise, s_try, s_brk, s_cont, s_pass, ss_nil, ss_cons, bin_add, bin_sub, bin_addS, bin_addT, bin_addL, bin_mulL, aug_add, aug_sub, eqS_int, eqS_bl, c_eq, c_ne, c_lt, c_le, c_gt, c_ge, c_isN, c_isntN, bi_one, bi_two, bi1_int, bi1_bl, bi1_str, bi1_tup, bi1_ref, bi2_int, biI_int, biB_int, biI_abs, biT_len, biT_tuple, biT_list, biL_len, biL_tuple, biL_list, biL_sum, biL_any, biL_all, biII_max, biII_min, truth_bl, truth_int, truth_tup, truth_non, seq_tup, ix_ref, ix_tup, sl_tup, sl_ref, set_ref, mt_app, it_tup, it_ref, it_r1, it_r2, noerr_err, atI_0, atI_1, atI_2, atI_3, atI_l, bin_modp, bin_divp, bin_mulp, ixN_40, ixN_41, ixN_42, ixN_43, isR_excP, pow_10_18, atI_cast, List.length_map, Res.noerr_ok, Res.noerr_bad, ofO_some, isi_tuple_tuple, isi_tuple_str, isi_tuple_int, isi_tuple_bool, isi_str_tuple, isi_str_str, isi_str_int, isi_str_bool, isi_int_tuple, isi_int_str, isi_int_int, isi_int_bool, isi_bool_tuple, isi_bool_str, isi_bool_int, isi_bool_bool, isi_NoneType_tuple, isi_NoneType_str, isi_NoneType_int, isi_NoneType_bool, q_F_F, q_F_P, q_F_Q, q_F_Z, q_P_F, q_P_P, q_P_Q, q_P_Z, q_Q_F, q_Q_P, q_Q_Q, q_Q_Z, q_R_F, q_R_P, q_R_Q, q_R_Z, q_Z_F, q_Z_P, q_Z_Q, q_Z_Z, F_characteristic, need_field_ok lf (is_field_spec lf h), need_square_no lf hmn, trimX_self]
theorem s_23 {k : Nat} {S : Store} {d r : D} {m n : Int} (h : IsF d) (hmn : m ≠ n) : callF P (k + 4) 23 [d, .tup [.int m, .int n, r]] S = .err ⟨2, none⟩ S := by
  rw [callF_of (f := F_cyclic_pair) rfl rfl]
  simp (disch := omega) only [Int.natCast_zero, Int.natCast_one, Int.cast_ofNat_Int, Int.reduceEq, Int.reduceLT, Int.reduceLE, decide_true, decide_false, List.length_cons, List.length_nil, List.set_set, List.map_cons, List.map_nil, List.replicate_zero, List.replicate_succ, List.cons_append, List.nil_append, List.getElem?_cons_zero, List.getElem?_cons_succ, List.set_cons_zero, List.set_cons_succ, Nat.reduceSub, Nat.reduceAdd, Bool.not_true, Bool.not_false, wipeE, bnd_ok, bnd_err, bnd_bad, on_ok, on_err, on_bad, sel_true, sel_false, slotR_val, fnR_fn, isR_val, negR_int, notR_bl, blSel_bl, optR_int, augR_val, thn_next, thn_ret, thn_err, thn_brk, thn_cont, again_next, again_cont, again_brk, again_ret, again_err, ctch_next, ctch_ret, ctch_err, fin_ret, fin_next, fin_err, okIf_t, e_slot, e_lit, e_globP, e_tup, e_lst, e_bin, e_neg, e_not, e_and, e_or, e_cmp, e_cmp2, e_ite, e_call, e_callv, e_bi, e_bic, e_isi, e_isiS, e_mth, e_ix, e_sl, e_rev, e_lc, o_none, o_some, es_nil, es_cons, b_val, b_not, b_and, b_or, b_yes, c_mk, i_seq, i_range1, i_range2, i_range3, i_enum, t_slot, t_tup, t_ix, ts_nil, ts_cons, s_asg, s_par, s_aug, s_for, s_while, s_if, s_ret, s_retN, s_expr, s_raise, s_try, s_brk, s_cont, s_pass, ss_nil, ss_cons, bin_add, bin_sub, bin_addS, bin_addT, bin_addL, bin_mulL, aug_add, aug_sub, eqS_int, eqS_bl, c_eq, c_ne, c_lt, c_le, c_gt, c_ge, c_isN, c_isntN, bi_one, bi_two, bi1_int, bi1_bl, bi1_str, bi1_tup, bi1_ref, bi2_int, biI_int, biB_int, biI_abs, biT_len, biT_tuple, biT_list, biL_len, biL_tuple, biL_list, biL_sum, biL_any, biL_all, biII_max, biII_min, truth_bl, truth_int, truth_tup, truth_non, seq_tup, ix_ref, ix_tup, sl_tup, sl_ref, set_ref, mt_app, it_tup, it_ref, it_r1, it_r2, noerr_err, atI_0, atI_1, atI_2, atI_3, atI_l, bin_modp, bin_divp, bin_mulp, ixN_40, ixN_41, ixN_42, ixN_43, isR_excP, pow_10_18, atI_cast, List.length_map, Res.noerr_ok, Res.noerr_bad, ofO_some, isi_tuple_tuple, isi_tuple_str, isi_tuple_int, isi_tuple_bool, isi_str_tuple, isi_str_str, isi_str_int, isi_str_bool, isi_int_tuple, isi_int_str, isi_int_int, isi_int_bool, isi_bool_tuple, isi_bool_str, isi_bool_int, isi_bool_bool, isi_NoneType_tuple, isi_NoneType_str, isi_NoneType_int, isi_NoneType_bool, q_F_F, q_F_P, q_F_Q, q_F_Z, q_P_F, q_P_P, q_P_Q, q_P_Z, q_Q_F, q_Q_P, q_Q_Q, q_Q_Z, q_R_F, q_R_P, q_R_Q, q_R_Z, q_Z_F, q_Z_P, q_Z_Q, q_Z_Z, F_cyclic_pair, need_field_ok lf (is_field_spec lf h), need_square_no lf hmn, trimX_self]
theorem s_27 {k : Nat} {S : Store} {d r : D} {m n : Int} (h : IsF d) (hmn : m ≠ n) : callF P (k + 4) 27 [d, .tup [.int m, .int n, r]] S = .err ⟨2, none⟩ S := by
  rw [callF_of (f := F_decompose) rfl rfl]
  simp (disch := omega) only [Int.natCast_zero, Int.natCast_one, Int.cast_ofNat_Int, Int.reduceEq, Int.reduceLT, Int.reduceLE, decide_true, decide_false, List.length_cons, List.length_nil, List.set_set, List.map_cons, List.map_nil, List.replicate_zero, List.replicate_succ, List.cons_append, List.nil_append, List.getElem?_cons_zero, List.getElem?_cons_succ, List.set_cons_zero, List.set_cons_succ, Nat.reduceSub, Nat.reduceAdd, Bool.not_true, Bool.not_false, wipeE, bnd_ok, bnd_err, bnd_bad, on_ok, on_err, on_bad, sel_true, sel_false, slotR_val, fnR_fn, isR_val, negR_int, notR_bl, blSel_bl, optR_int, augR_val, thn_next, thn_ret, thn_err, thn_brk, thn_cont, again_next, again_cont, again_brk, again_ret, again_err, ctch_next, ctch_ret, ctch_err, fin_ret, fin_next, fin_err, okIf_t, e_slot, e_lit, e_globP, e_tup, e_lst, e_bin, e_neg, e_not, e_and, e_or, e_cmp, e_cmp2, e_ite, e_call, e_callv, e_bi, e_bic, e_isi, e_isiS, e_mth, e_ix, e_sl, e_rev, e_lc, o_none, o_some, es_nil, es_cons, b_val, b_not, b_and, b_or, b_yes, c_mk, i_seq, i_range1, i_range2, i_range3, i_enum, t_slot, t_tup, t_ix, ts_nil, ts_cons, s_asg, s_par, s_aug, s_for, s_while, s_if, s_ret, s_retN, s_expr, s_raise, s_try, s_brk, s_cont, s_pass, ss_nil, ss_cons, bin_add, bin_sub, bin_addS, bin_addT, bin_addL, bin_mulL, aug_add, aug_sub, eqS_int, eqS_bl, c_eq, c_ne, c_lt, c_le, c_gt, c_ge, c_isN, c_isntN, bi_one, bi_two, bi1_int, bi1_bl, bi1_str, bi1_tup, bi1_ref, bi2_int, biI_int, biB_int, biI_abs, biT_len, biT_tuple, biT_list, biL_len, biL_tuple, biL_list, biL_sum, biL_any, biL_all, biII_max, biII_min, truth_bl, truth_int, truth_tup, truth_non, seq_tup, ix_ref, ix_tup, sl_tup, sl_ref, set_ref, mt_app, it_tup, it_ref, it_r1, it_r2, noerr_err, atI_0, atI_1, atI_2, atI_3, atI_l, bin_modp, bin_divp, bin_mulp, ixN_40, ixN_41, ixN_42, ixN_43, isR_excP, pow_10_18, atI_cast, List.length_map, Res.noerr_ok, Res.noerr_bad, ofO_some, isi_tuple_tuple, isi_tuple_str, isi_tuple_int, isi_tuple_bool, isi_str_tuple, isi_str_str, isi_str_int, isi_str_bool, isi_int_tuple, isi_int_str, isi_int_int, isi_int_bool, isi_bool_tuple, isi_bool_str, isi_bool_int, isi_bool_bool, isi_NoneType_tuple, isi_NoneType_str, isi_NoneType_int, isi_NoneType_bool, q_F_F, q_F_P, q_F_Q, q_F_Z, q_P_F, q_P_P, q_P_Q, q_P_Z, q_Q_F, q_Q_P, q_Q_Q, q_Q_Z, q_R_F, q_R_P, q_R_Q, q_R_Z, q_Z_F, q_Z_P, q_Z_Q, q_Z_Z, F_decompose, need_field_ok lf (is_field_spec lf h), need_square_no lf hmn, trimX_self]
theorem s_35 {k : Nat} {S : Store} {d r : D} {m n : Int} (h : IsF d) (hmn : m ≠ n) : callF P (k + 4) 35 [d, .tup [.int m, .int n, r]] S = .err ⟨2, none⟩ S := by
  rw [callF_of (f := F_jordan) rfl rfl]
  simp (disch := omega) only [Int.natCast_zero, Int.natCast_one, Int.cast_ofNat_Int, Int.reduceEq, Int.reduceLT, Int.reduceLE, decide_true, decide_false, List.length_cons, List.length_nil, List.set_set, List.map_cons, List.map_nil, List.replicate_zero, List.replicate_succ, List.cons_append, List.nil_append, List.getElem?_cons_zero, List.getElem?_cons_succ, List.set_cons_zero, List.set_cons_succ, Nat.reduceSub, Nat.reduceAdd, Bool.not_true, Bool.not_false, wipeE, bnd_ok, bnd_err, bnd_bad, on_ok, on_err, on_bad, sel_true, sel_false, slotR_val, fnR_fn, isR_val, negR_int, notR_bl, blSel_bl, optR_int, augR_val, thn_next, thn_ret, thn_err, thn_brk, thn_cont, again_next, again_cont, again_brk, again_ret, again_err, ctch_next, ctch_ret, ctch_err, fin_ret, fin_next, fin_err, okIf_t, e_slot, e_lit, e_globP, e_tup, e_lst, e_bin, e_neg, e_not, e_and, e_or, e_cmp, e_cmp2, e_ite, e_call, e_callv, e_bi, e_bic, e_isi, e_isiS, e_mth, e_ix, e_sl, e_rev, e_lc, o_none, o_some, es_nil, es_cons, b_val, b_not, b_and, b_or, b_yes, c_mk, i_seq, i_range1, i_range2, i_range3, i_enum, t_slot, t_tup, t_ix, ts_nil, ts_cons, s_asg, s_par, s_aug, s_for, s_while, s_if, s_ret, s_retN, s_expr, s_raise, s_try, s_brk, s_cont, s_pass, ss_nil, ss_cons, bin_add, bin_sub, bin_addS, bin_addT, bin_addL, bin_mulL, aug_add, aug_sub, eqS_int, eqS_bl, c_eq, c_ne, c_lt, c_le, c_gt, c_ge, c_isN, c_isntN, bi_one, bi_two, bi1_int, bi1_bl, bi1_str, bi1_tup, bi1_ref, bi2_int, biI_int, biB_int, biI_abs, biT_len, biT_tuple, biT_list, biL_len, biL_tuple, biL_list, biL_sum, biL_any, biL_all, biII_max, biII_min, truth_bl, truth_int, truth_tup, truth_non, seq_tup, ix_ref, ix_tup, sl_tup, sl_ref, set_ref, mt_app, it_tup, it_ref, it_r1, it_r2, noerr_err, atI_0, atI_1, atI_2, atI_3, atI_l, bin_modp, bin_divp, bin_mulp, ixN_40, ixN_41, ixN_42, ixN_43, isR_excP, pow_10_18, atI_cast, List.length_map, Res.noerr_ok, Res.noerr_bad, ofO_some, isi_tuple_tuple, isi_tuple_str, isi_tuple_int, isi_tuple_bool, isi_str_tuple, isi_str_str, isi_str_int, isi_str_bool, isi_int_tuple, isi_int_str, isi_int_int, isi_int_bool, isi_bool_tuple, isi_bool_str, isi_bool_int, isi_bool_bool, isi_NoneType_tuple, isi_NoneType_str, isi_NoneType_int, isi_NoneType_bool, q_F_F, q_F_P, q_F_Q, q_F_Z, q_P_F, q_P_P, q_P_Q, q_P_Z, q_Q_F, q_Q_P, q_Q_Q, q_Q_Z, q_R_F, q_R_P, q_R_Q, q_R_Z, q_Z_F, q_Z_P, q_Z_Q, q_Z_Z, F_jordan, need_field_ok lf (is_field_spec lf h), need_square_no lf hmn, trimX_self]
theorem s_22 {k : Nat} {S : Store} {d r v : D} {m n : Int} (h : IsF d) (hmn : m ≠ n) : callF P (k + 4) 22 [d, .tup [.int m, .int n, r], v] S = .err ⟨2, none⟩ S := by
  rw [callF_of (f := F_annihilator) rfl rfl]
  simp (disch := omega) only [Int.natCast_zero, Int.natCast_one, Int.cast_ofNat_Int, Int.reduceEq, Int.reduceLT, Int.reduceLE, decide_true, decide_false, List.length_cons, List.length_nil, List.set_set, List.map_cons, List.map_nil, List.replicate_zero, List.replicate_succ, List.cons_append, List.nil_append, List.getElem?_cons_zero, List.getElem?_cons_succ, List.set_cons_zero, List.set_cons_succ, Nat.reduceSub, Nat.reduceAdd, Bool.not_true, Bool.not_false, wipeE, bnd_ok, bnd_err, bnd_bad, on_ok, on_err, on_bad, sel_true, sel_false, slotR_val, fnR_fn, isR_val, negR_int, notR_bl, blSel_bl, optR_int, augR_val, thn_next, thn_ret, thn_err, thn_brk, thn_cont, again_next, again_cont, again_brk, again_ret, again_err, ctch_next, ctch_ret, ctch_err, fin_ret, fin_next, fin_err, okIf_t, e_slot, e_lit, e_globP, e_tup, e_lst, e_bin, e_neg, e_not, e_and, e_or, e_cmp, e_cmp2, e_ite, e_call, e_callv, e_bi, e_bic, e_isi, e_isiS, e_mth, e_ix, e_sl, e_rev, e_lc, o_none, o_some, es_nil, es_cons, b_val, b_not, b_and, b_or, b_yes, c_mk, i_seq, i_range1, i_range2, i_range3, i_enum, t_slot, t_tup, t_ix, ts_nil, ts_cons, s_asg, s_par, s_aug, s_for, s_while, s_if, s_ret, s_retN, s_expr, s_raise, s_try, s_brk, s_cont, s_pass, ss_nil, ss_cons, bin_add, bin_sub, bin_addS, bin_addT, bin_addL, bin_mulL, aug_add, aug_sub, eqS_int, eqS_bl, c_eq, c_ne, c_lt, c_le, c_gt, c_ge, c_isN, c_isntN, bi_one, bi_two, bi1_int, bi1_bl, bi1_str, bi1_tup, bi1_ref, bi2_int, biI_int, biB_int, biI_abs, biT_len, biT_tuple, biT_list, biL_len, biL_tuple, biL_list, biL_sum, biL_any, biL_all, biII_max, biII_min, truth_bl, truth_int, truth_tup, truth_non, seq_tup, ix_ref, ix_tup, sl_tup, sl_ref, set_ref, mt_app, it_tup, it_ref, it_r1, it_r2, noerr_err, atI_0, atI_1, atI_2, atI_3, atI_l, bin_modp, bin_divp, bin_mulp, ixN_40, ixN_41, ixN_42, ixN_43, isR_excP, pow_10_18, atI_cast, List.length_map, Res.noerr_ok, Res.noerr_bad, ofO_some, isi_tuple_tuple, isi_tuple_str, isi_tuple_int, isi_tuple_bool, isi_str_tuple, isi_str_str, isi_str_int, isi_str_bool, isi_int_tuple, isi_int_str, isi_int_int, isi_int_bool, isi_bool_tuple, isi_bool_str, isi_bool_int, isi_bool_bool, isi_NoneType_tuple, isi_NoneType_str, isi_NoneType_int, isi_NoneType_bool, q_F_F, q_F_P, q_F_Q, q_F_Z, q_P_F, q_P_P, q_P_Q, q_P_Z, q_Q_F, q_Q_P, q_Q_Q, q_Q_Z, q_R_F, q_R_P, q_R_Q, q_R_Z, q_Z_F, q_Z_P, q_Z_Q, q_Z_Z, F_annihilator, need_field_ok lf (is_field_spec lf h), need_square_no lf hmn, trimX_self]
theorem s_39 {k : Nat} {S : Store} {d r v : D} {m n : Int} (h : IsF d) (hmn : m ≠ n) : callF P (k + 4) 39 [d, .tup [.int m, .int n, r], v] S = .err ⟨2, none⟩ S := by
  rw [callF_of (f := F_similarity) rfl rfl]
  simp (disch := omega) only [Int.natCast_zero, Int.natCast_one, Int.cast_ofNat_Int, Int.reduceEq, Int.reduceLT, Int.reduceLE, decide_true, decide_false, List.length_cons, List.length_nil, List.set_set, List.map_cons, List.map_nil, List.replicate_zero, List.replicate_succ, List.cons_append, List.nil_append, List.getElem?_cons_zero, List.getElem?_cons_succ, List.set_cons_zero, List.set_cons_succ, Nat.reduceSub, Nat.reduceAdd, Bool.not_true, Bool.not_false, wipeE, bnd_ok, bnd_err, bnd_bad, on_ok, on_err, on_bad, sel_true, sel_false, slotR_val, fnR_fn, isR_val, negR_int, notR_bl, blSel_bl, optR_int, augR_val, thn_next, thn_ret, thn_err, thn_brk, thn_cont, again_next, again_cont, again_brk, again_ret, again_err, ctch_next, ctch_ret, ctch_err, fin_ret, fin_next, fin_err, okIf_t, e_slot, e_lit, e_globP, e_tup, e_lst, e_bin, e_neg, e_not, e_and, e_or, e_cmp, e_cmp2, e_ite, e_call, e_callv, e_bi, e_bic, e_isi, e_isiS, e_mth, e_ix, e_sl, e_rev, e_lc, o_none, o_some, es_nil, es_cons, b_val, b_not, b_and, b_or, b_yes, c_mk, i_seq, i_range1, i_range2, i_range3, i_enum, t_slot, t_tup, t_ix, ts_nil, ts_cons, s_asg, s_par, s_aug, s_for, s_while, s_if, s_ret, s_retN, s_expr, s_raise, s_try, s_brk, s_cont, s_pass, ss_nil, ss_cons, bin_add, bin_sub, bin_addS, bin_addT, bin_addL, bin_mulL, aug_add, aug_sub, eqS_int, eqS_bl, c_eq, c_ne, c_lt, c_le, c_gt, c_ge, c_isN, c_isntN, bi_one, bi_two, bi1_int, bi1_bl, bi1_str, bi1_tup, bi1_ref, bi2_int, biI_int, biB_int, biI_abs, biT_len, biT_tuple, biT_list, biL_len, biL_tuple, biL_list, biL_sum, biL_any, biL_all, biII_max, biII_min, truth_bl, truth_int, truth_tup, truth_non, seq_tup, ix_ref, ix_tup, sl_tup, sl_ref, set_ref, mt_app, it_tup, it_ref, it_r1, it_r2, noerr_err, atI_0, atI_1, atI_2, atI_3, atI_l, bin_modp, bin_divp, bin_mulp, ixN_40, ixN_41, ixN_42, ixN_43, isR_excP, pow_10_18, atI_cast, List.length_map, Res.noerr_ok, Res.noerr_bad, ofO_some, isi_tuple_tuple, isi_tuple_str, isi_tuple_int, isi_tuple_bool, isi_str_tuple, isi_str_str, isi_str_int, isi_str_bool, isi_int_tuple, isi_int_str, isi_int_int, isi_int_bool, isi_bool_tuple, isi_bool_str, isi_bool_int, isi_bool_bool, isi_NoneType_tuple, isi_NoneType_str, isi_NoneType_int, isi_NoneType_bool, q_F_F, q_F_P, q_F_Q, q_F_Z, q_P_F, q_P_P, q_P_Q, q_P_Z, q_Q_F, q_Q_P, q_Q_Q, q_Q_Z, q_R_F, q_R_P, q_R_Q, q_R_Z, q_Z_F, q_Z_P, q_Z_Q, q_Z_Z, F_similarity, need_field_ok lf (is_field_spec lf h), need_square_no lf hmn, trimX_self]
theorem s_40 {k : Nat} {S : Store} {d r v : D} {m n : Int} (h : IsF d) (hmn : m ≠ n) : callF P (k + 4) 40 [d, .tup [.int m, .int n, r], v] S = .err ⟨2, none⟩ S := by
  rw [callF_of (f := F_difference) rfl rfl]
  simp (disch := omega) only [Int.natCast_zero, Int.natCast_one, Int.cast_ofNat_Int, Int.reduceEq, Int.reduceLT, Int.reduceLE, decide_true, decide_false, List.length_cons, List.length_nil, List.set_set, List.map_cons, List.map_nil, List.replicate_zero, List.replicate_succ, List.cons_append, List.nil_append, List.getElem?_cons_zero, List.getElem?_cons_succ, List.set_cons_zero, List.set_cons_succ, Nat.reduceSub, Nat.reduceAdd, Bool.not_true, Bool.not_false, wipeE, bnd_ok, bnd_err, bnd_bad, on_ok, on_err, on_bad, sel_true, sel_false, slotR_val, fnR_fn, isR_val, negR_int, notR_bl, blSel_bl, optR_int, augR_val, thn_next, thn_ret, thn_err, thn_brk, thn_cont, again_next, again_cont, again_brk, again_ret, again_err, ctch_next, ctch_ret, ctch_err, fin_ret, fin_next, fin_err, okIf_t, e_slot, e_lit, e_globP, e_tup, e_lst, e_bin, e_neg, e_not, e_and, e_or, e_cmp, e_cmp2, e_ite, e_call, e_callv, e_bi, e_bic, e_isi, e_isiS, e_mth, e_ix, e_sl, e_rev, e_lc, o_none, o_some, es_nil, es_cons, b_val, b_not, b_and, b_or, b_yes, c_mk, i_seq, i_range1, i_range2, i_range3, i_enum, t_slot, t_tup, t_ix, ts_nil, ts_cons, s_asg, s_par, s_aug, s_for, s_while, s_if, s_ret, s_retN, s_expr, s_raise, s_try, s_brk, s_cont, s_pass, ss_nil, ss_cons, bin_add, bin_sub, bin_addS, bin_addT, bin_addL, bin_mulL, aug_add, aug_sub, eqS_int, eqS_bl, c_eq, c_ne, c_lt, c_le, c_gt, c_ge, c_isN, c_isntN, bi_one, bi_two, bi1_int, bi1_bl, bi1_str, bi1_tup, bi1_ref, bi2_int, biI_int, biB_int, biI_abs, biT_len, biT_tuple, biT_list, biL_len, biL_tuple, biL_list, biL_sum, biL_any, biL_all, biII_max, biII_min, truth_bl, truth_int, truth_tup, truth_non, seq_tup, ix_ref, ix_tup, sl_tup, sl_ref, set_ref, mt_app, it_tup, it_ref, it_r1, it_r2, noerr_err, atI_0, atI_1, atI_2, atI_3, atI_l, bin_modp, bin_divp, bin_mulp, ixN_40, ixN_41, ixN_42, ixN_43, isR_excP, pow_10_18, atI_cast, List.length_map, Res.noerr_ok, Res.noerr_bad, ofO_some, isi_tuple_tuple, isi_tuple_str, isi_tuple_int, isi_tuple_bool, isi_str_tuple, isi_str_str, isi_str_int, isi_str_bool, isi_int_tuple, isi_int_str, isi_int_int, isi_int_bool, isi_bool_tuple, isi_bool_str, isi_bool_int, isi_bool_bool, isi_NoneType_tuple, isi_NoneType_str, isi_NoneType_int, isi_NoneType_bool, q_F_F, q_F_P, q_F_Q, q_F_Z, q_P_F, q_P_P, q_P_Q, q_P_Z, q_Q_F, q_Q_P, q_Q_Q, q_Q_Z, q_R_F, q_R_P, q_R_Q, q_R_Z, q_Z_F, q_Z_P, q_Z_Q, q_Z_Z, F_difference, need_field_ok lf (is_field_spec lf h), need_square_no lf hmn, trimX_self]
theorem s_24 {k : Nat} {S : Store} {d r : D} {m n : Int} (h : IsF d) (hmn : m ≠ n) : callF P (k + 5) 24 [d, .tup [.int m, .int n, r]] S = .err ⟨2, none⟩ S := by
  rw [callF_of (f := F_minimal) rfl rfl]
  simp (disch := omega) only [Int.natCast_zero, Int.natCast_one, Int.cast_ofNat_Int, Int.reduceEq, Int.reduceLT, Int.reduceLE, decide_true, decide_false, List.length_cons, List.length_nil, List.set_set, List.map_cons, List.map_nil, List.replicate_zero, List.replicate_succ, List.cons_append, List.nil_append, List.getElem?_cons_zero, List.getElem?_cons_succ, List.set_cons_zero, List.set_cons_succ, Nat.reduceSub, Nat.reduceAdd, Bool.not_true, Bool.not_false, wipeE, bnd_ok, bnd_err, bnd_bad, on_ok, on_err, on_bad, sel_true, sel_false, slotR_val, fnR_fn, isR_val, negR_int, notR_bl, blSel_bl, optR_int, augR_val, thn_next, thn_ret, thn_err, thn_brk, thn_cont, again_next, again_cont, again_brk, again_ret, again_err, ctch_next, ctch_ret, ctch_err, fin_ret, fin_next, fin_err, okIf_t, e_slot, e_lit, e_globP, e_tup, e_lst, e_bin, e_neg, e_not, e_and, e_or, e_cmp, e_cmp2, e_ite, e_call, e_callv, e_bi, e_bic, e_isi, e_isiS, e_mth, e_ix, e_sl, e_rev, e_lc, o_none, o_some, es_nil, es_cons, b_val, b_not, b_and, b_or, b_yes, c_mk, i_seq, i_range1, i_range2, i_range3, i_enum, t_slot, t_tup, t_ix, ts_nil, ts_cons, s_asg, s_par, s_aug, s_for, s_while, s_if, s_ret, s_retN, s_expr, s_raise, s_try, s_brk, s_cont, s_pass, ss_nil, ss_cons, bin_add, bin_sub, bin_addS, bin_addT, bin_addL, bin_mulL, aug_add, aug_sub, eqS_int, eqS_bl, c_eq, c_ne, c_lt, c_le, c_gt, c_ge, c_isN, c_isntN, bi_one, bi_two, bi1_int, bi1_bl, bi1_str, bi1_tup, bi1_ref, bi2_int, biI_int, biB_int, biI_abs, biT_len, biT_tuple, biT_list, biL_len, biL_tuple, biL_list, biL_sum, biL_any, biL_all, biII_max, biII_min, truth_bl, truth_int, truth_tup, truth_non, seq_tup, ix_ref, ix_tup, sl_tup, sl_ref, set_ref, mt_app, it_tup, it_ref, it_r1, it_r2, noerr_err, atI_0, atI_1, atI_2, atI_3, atI_l, bin_modp, bin_divp, bin_mulp, ixN_40, ixN_41, ixN_42, ixN_43, isR_excP, pow_10_18, atI_cast, List.length_map, Res.noerr_ok, Res.noerr_bad, ofO_some, isi_tuple_tuple, isi_tuple_str, isi_tuple_int, isi_tuple_bool, isi_str_tuple, isi_str_str, isi_str_int, isi_str_bool, isi_int_tuple, isi_int_str, isi_int_int, isi_int_bool, isi_bool_tuple, isi_bool_str, isi_bool_int, isi_bool_bool, isi_NoneType_tuple, isi_NoneType_str, isi_NoneType_int, isi_NoneType_bool, q_F_F, q_F_P, q_F_Q, q_F_Z, q_P_F, q_P_P, q_P_Q, q_P_Z, q_Q_F, q_Q_P, q_Q_Q, q_Q_Z, q_R_F, q_R_P, q_R_Q, q_R_Z, q_Z_F, q_Z_P, q_Z_Q, q_Z_Z, F_minimal, s_23 h hmn, trimX_self]
theorem s_25 {k : Nat} {S : Store} {d r : D} {m n : Int} (h : IsF d) (hmn : m ≠ n) : callF P (k + 5) 25 [d, .tup [.int m, .int n, r]] S = .err ⟨2, none⟩ S := by
  rw [callF_of (f := F_cyclic_vector) rfl rfl]
  simp (disch := omega) only [Int.natCast_zero, Int.natCast_one, Int.cast_ofNat_Int, Int.reduceEq, Int.reduceLT, Int.reduceLE, decide_true, decide_false, List.length_cons, List.length_nil, List.set_set, List.map_cons, List.map_nil, List.replicate_zero, List.replicate_succ, List.cons_append, List.nil_append, List.getElem?_cons_zero, List.getElem?_cons_succ, List.set_cons_zero, List.set_cons_succ, Nat.reduceSub, Nat.reduceAdd, Bool.not_true, Bool.not_false, wipeE, bnd_ok, bnd_err, bnd_bad, on_ok, on_err, on_bad, sel_true, sel_false, slotR_val, fnR_fn, isR_val, negR_int, notR_bl, blSel_bl, optR_int, augR_val, thn_next, thn_ret, thn_err, thn_brk, thn_cont, again_next, again_cont, again_brk, again_ret, again_err, ctch_next, ctch_ret, ctch_err, fin_ret, fin_next, fin_err, okIf_t, e_slot, e_lit, e_globP, e_tup, e_lst, e_bin, e_neg, e_not, e_and, e_or, e_cmp, e_cmp2, e_ite, e_call, e_callv, e_bi, e_bic, e_isi, e_isiS, e_mth, e_ix, e_sl, e_rev, e_lc, o_none, o_some, es_nil, es_cons, b_val, b_not, b_and, b_or, b_yes, c_mk, i_seq, i_range1, i_range2, i_range3, i_enum, t_slot, t_tup, t_ix, ts_nil, ts_cons, s_asg, s_par, s_aug, s_for, s_while, s_if, s_ret, s_retN, s_expr, s_raise, s_try, s_brk, s_cont, s_pass, ss_nil, ss_cons, bin_add, bin_sub, bin_addS, bin_addT, bin_addL, bin_mulL, aug_add, aug_sub, eqS_int, eqS_bl, c_eq, c_ne, c_lt, c_le, c_gt, c_ge, c_isN, c_isntN, bi_one, bi_two, bi1_int, bi1_bl, bi1_str, bi1_tup, bi1_ref, bi2_int, biI_int, biB_int, biI_abs, biT_len, biT_tuple, biT_list, biL_len, biL_tuple, biL_list, biL_sum, biL_any, biL_all, biII_max, biII_min, truth_bl, truth_int, truth_tup, truth_non, seq_tup, ix_ref, ix_tup, sl_tup, sl_ref, set_ref, mt_app, it_tup, it_ref, it_r1, it_r2, noerr_err, atI_0, atI_1, atI_2, atI_3, atI_l, bin_modp, bin_divp, bin_mulp, ixN_40, ixN_41, ixN_42, ixN_43, isR_excP, pow_10_18, atI_cast, List.length_map, Res.noerr_ok, Res.noerr_bad, ofO_some, isi_tuple_tuple, isi_tuple_str, isi_tuple_int, isi_tuple_bool, isi_str_tuple, isi_str_str, isi_str_int, isi_str_bool, isi_int_tuple, isi_int_str, isi_int_int, isi_int_bool, isi_bool_tuple, isi_bool_str, isi_bool_int, isi_bool_bool, isi_NoneType_tuple, isi_NoneType_str, isi_NoneType_int, isi_NoneType_bool, q_F_F, q_F_P, q_F_Q, q_F_Z, q_P_F, q_P_P, q_P_Q, q_P_Z, q_Q_F, q_Q_P, q_Q_Q, q_Q_Z, q_R_F, q_R_P, q_R_Q, q_R_Z, q_Z_F, q_Z_P, q_Z_Q, q_Z_Z, F_cyclic_vector, s_23 h hmn, trimX_self]
theorem s_28 {k : Nat} {S : Store} {d r : D} {m n : Int} (h : IsF d) (hmn : m ≠ n) : callF P (k + 5) 28 [d, .tup [.int m, .int n, r]] S = .err ⟨2, none⟩ S := by
  rw [callF_of (f := F_invariant_factors) rfl rfl]
  simp (disch := omega) only [Int.natCast_zero, Int.natCast_one, Int.cast_ofNat_Int, Int.reduceEq, Int.reduceLT, Int.reduceLE, decide_true, decide_false, List.length_cons, List.length_nil, List.set_set, List.map_cons, List.map_nil, List.replicate_zero, List.replicate_succ, List.cons_append, List.nil_append, List.getElem?_cons_zero, List.getElem?_cons_succ, List.set_cons_zero, List.set_cons_succ, Nat.reduceSub, Nat.reduceAdd, Bool.not_true, Bool.not_false, wipeE, bnd_ok, bnd_err, bnd_bad, on_ok, on_err, on_bad, sel_true, sel_false, slotR_val, fnR_fn, isR_val, negR_int, notR_bl, blSel_bl, optR_int, augR_val, thn_next, thn_ret, thn_err, thn_brk, thn_cont, again_next, again_cont, again_brk, again_ret, again_err, ctch_next, ctch_ret, ctch_err, fin_ret, fin_next, fin_err, okIf_t, e_slot, e_lit, e_globP, e_tup, e_lst, e_bin, e_neg, e_not, e_and, e_or, e_cmp, e_cmp2, e_ite, e_call, e_callv, e_bi, e_bic, e_isi, e_isiS, e_mth, e_ix, e_sl, e_rev, e_lc, o_none, o_some, es_nil, es_cons, b_val, b_not, b_and, b_or, b_yes, c_mk, i_seq, i_range1, i_range2, i_range3, i_enum, t_slot, t_tup, t_ix, ts_nil, ts_cons, s_asg, s_par, s_aug, s_for, s_while, s_if, s_ret, s_retN, s_expr, s_raise, s_try, s_brk, s_cont, s_pass, ss_nil, ss_cons, bin_add, bin_sub, bin_addS, bin_addT, bin_addL, bin_mulL, aug_add, aug_sub, eqS_int, eqS_bl, c_eq, c_ne, c_lt, c_le, c_gt, c_ge, c_isN, c_isntN, bi_one, bi_two, bi1_int, bi1_bl, bi1_str, bi1_tup, bi1_ref, bi2_int, biI_int, biB_int, biI_abs, biT_len, biT_tuple, biT_list, biL_len, biL_tuple, biL_list, biL_sum, biL_any, biL_all, biII_max, biII_min, truth_bl, truth_int, truth_tup, truth_non, seq_tup, ix_ref, ix_tup, sl_tup, sl_ref, set_ref, mt_app, it_tup, it_ref, it_r1, it_r2, noerr_err, atI_0, atI_1, atI_2, atI_3, atI_l, bin_modp, bin_divp, bin_mulp, ixN_40, ixN_41, ixN_42, ixN_43, isR_excP, pow_10_18, atI_cast, List.length_map, Res.noerr_ok, Res.noerr_bad, ofO_some, isi_tuple_tuple, isi_tuple_str, isi_tuple_int, isi_tuple_bool, isi_str_tuple, isi_str_str, isi_str_int, isi_str_bool, isi_int_tuple, isi_int_str, isi_int_int, isi_int_bool, isi_bool_tuple, isi_bool_str, isi_bool_int, isi_bool_bool, isi_NoneType_tuple, isi_NoneType_str, isi_NoneType_int, isi_NoneType_bool, q_F_F, q_F_P, q_F_Q, q_F_Z, q_P_F, q_P_P, q_P_Q, q_P_Z, q_Q_F, q_Q_P, q_Q_Q, q_Q_Z, q_R_F, q_R_P, q_R_Q, q_R_Z, q_Z_F, q_Z_P, q_Z_Q, q_Z_Z, F_invariant_factors, s_27 h hmn, trimX_self]
theorem s_30 {k : Nat} {S : Store} {d r : D} {m n : Int} (h : IsF d) (hmn : m ≠ n) : callF P (k + 5) 30 [d, .tup [.int m, .int n, r]] S = .err ⟨2, none⟩ S := by
  rw [callF_of (f := F_frobenius) rfl rfl]
  simp (disch := omega) only [Int.natCast_zero, Int.natCast_one, Int.cast_ofNat_Int, Int.reduceEq, Int.reduceLT, Int.reduceLE, decide_true, decide_false, List.length_cons, List.length_nil, List.set_set, List.map_cons, List.map_nil, List.replicate_zero, List.replicate_succ, List.cons_append, List.nil_append, List.getElem?_cons_zero, List.getElem?_cons_succ, List.set_cons_zero, List.set_cons_succ, Nat.reduceSub, Nat.reduceAdd, Bool.not_true, Bool.not_false, wipeE, bnd_ok, bnd_err, bnd_bad, on_ok, on_err, on_bad, sel_true, sel_false, slotR_val, fnR_fn, isR_val, negR_int, notR_bl, blSel_bl, optR_int, augR_val, thn_next, thn_ret, thn_err, thn_brk, thn_cont, again_next, again_cont, again_brk, again_ret, again_err, ctch_next, ctch_ret, ctch_err, fin_ret, fin_next, fin_err, okIf_t, e_slot, e_lit, e_globP, e_tup, e_lst, e_bin, e_neg, e_not, e_and, e_or, e_cmp, e_cmp2, e_ite, e_call, e_callv, e_bi, e_bic, e_isi, e_isiS, e_mth, e_ix, e_sl, e_rev, e_lc, o_none, o_some, es_nil, es_cons, b_val, b_not, b_and, b_or, b_yes, c_mk, i_seq, i_range1, i_range2, i_range3, i_enum, t_slot, t_tup, t_ix, ts_nil, ts_cons, s_asg, s_par, s_aug, s_for, s_while, s_if, s_ret, s_retN, s_expr, s_raise, s_try, s_brk, s_cont, s_pass, ss_nil, ss_cons, bin_add, bin_sub, bin_addS, bin_addT, bin_addL, bin_mulL, aug_add, aug_sub, eqS_int, eqS_bl, c_eq, c_ne, c_lt, c_le, c_gt, c_ge, c_isN, c_isntN, bi_one, bi_two, bi1_int, bi1_bl, bi1_str, bi1_tup, bi1_ref, bi2_int, biI_int, biB_int, biI_abs, biT_len, biT_tuple, biT_list, biL_len, biL_tuple, biL_list, biL_sum, biL_any, biL_all, biII_max, biII_min, truth_bl, truth_int, truth_tup, truth_non, seq_tup, ix_ref, ix_tup, sl_tup, sl_ref, set_ref, mt_app, it_tup, it_ref, it_r1, it_r2, noerr_err, atI_0, atI_1, atI_2, atI_3, atI_l, bin_modp, bin_divp, bin_mulp, ixN_40, ixN_41, ixN_42, ixN_43, isR_excP, pow_10_18, atI_cast, List.length_map, Res.noerr_ok, Res.noerr_bad, ofO_some, isi_tuple_tuple, isi_tuple_str, isi_tuple_int, isi_tuple_bool, isi_str_tuple, isi_str_str, isi_str_int, isi_str_bool, isi_int_tuple, isi_int_str, isi_int_int, isi_int_bool, isi_bool_tuple, isi_bool_str, isi_bool_int, isi_bool_bool, isi_NoneType_tuple, isi_NoneType_str, isi_NoneType_int, isi_NoneType_bool, q_F_F, q_F_P, q_F_Q, q_F_Z, q_P_F, q_P_P, q_P_Q, q_P_Z, q_Q_F, q_Q_P, q_Q_Q, q_Q_Z, q_R_F, q_R_P, q_R_Q, q_R_Z, q_Z_F, q_Z_P, q_Z_Q, q_Z_Z, F_frobenius, s_27 h hmn, trimX_self]
theorem s_32 {k : Nat} {S : Store} {d r : D} {m n : Int} (h : IsF d) (hmn : m ≠ n) : callF P (k + 5) 32 [d, .tup [.int m, .int n, r]] S = .err ⟨2, none⟩ S := by
  rw [callF_of (f := F_eigenvalues) rfl rfl]
  simp (disch := omega) only [Int.natCast_zero, Int.natCast_one, Int.cast_ofNat_Int, Int.reduceEq, Int.reduceLT, Int.reduceLE, decide_true, decide_false, List.length_cons, List.length_nil, List.set_set, List.map_cons, List.map_nil, List.replicate_zero, List.replicate_succ, List.cons_append, List.nil_append, List.getElem?_cons_zero, List.getElem?_cons_succ, List.set_cons_zero, List.set_cons_succ, Nat.reduceSub, Nat.reduceAdd, Bool.not_true, Bool.not_false, wipeE, bnd_ok, bnd_err, bnd_bad, on_ok, on_err, on_bad, sel_true, sel_false, slotR_val, fnR_fn, isR_val, negR_int, notR_bl, blSel_bl, optR_int, augR_val, thn_next, thn_ret, thn_err, thn_brk, thn_cont, again_next, again_cont, again_brk, again_ret, again_err, ctch_next, ctch_ret, ctch_err, fin_ret, fin_next, fin_err, okIf_t, e_slot, e_lit, e_globP, e_tup, e_lst, e_bin, e_neg, e_not, e_and, e_or, e_cmp, e_cmp2, e_ite, e_call, e_callv, e_bi, e_bic, e_isi, e_isiS, e_mth, e_ix, e_sl, e_rev, e_lc, o_none, o_some, es_nil, es_cons, b_val, b_not, b_and, b_or, b_yes, c_mk, i_seq, i_range1, i_range2, i_range3, i_enum, t_slot, t_tup, t_ix, ts_nil, ts_cons, s_asg, s_par, s_aug, s_for, s_while, s_if, s_ret, s_retN, s_expr, s_raise, s_try, s_brk, s_cont, s_pass, ss_nil, ss_cons, bin_add, bin_sub, bin_addS, bin_addT, bin_addL, bin_mulL, aug_add, aug_sub, eqS_int, eqS_bl, c_eq, c_ne, c_lt, c_le, c_gt, c_ge, c_isN, c_isntN, bi_one, bi_two, bi1_int, bi1_bl, bi1_str, bi1_tup, bi1_ref, bi2_int, biI_int, biB_int, biI_abs, biT_len, biT_tuple, biT_list, biL_len, biL_tuple, biL_list, biL_sum, biL_any, biL_all, biII_max, biII_min, truth_bl, truth_int, truth_tup, truth_non, seq_tup, ix_ref, ix_tup, sl_tup, sl_ref, set_ref, mt_app, it_tup, it_ref, it_r1, it_r2, noerr_err, atI_0, atI_1, atI_2, atI_3, atI_l, bin_modp, bin_divp, bin_mulp, ixN_40, ixN_41, ixN_42, ixN_43, isR_excP, pow_10_18, atI_cast, List.length_map, Res.noerr_ok, Res.noerr_bad, ofO_some, isi_tuple_tuple, isi_tuple_str, isi_tuple_int, isi_tuple_bool, isi_str_tuple, isi_str_str, isi_str_int, isi_str_bool, isi_int_tuple, isi_int_str, isi_int_int, isi_int_bool, isi_bool_tuple, isi_bool_str, isi_bool_int, isi_bool_bool, isi_NoneType_tuple, isi_NoneType_str, isi_NoneType_int, isi_NoneType_bool, q_F_F, q_F_P, q_F_Q, q_F_Z, q_P_F, q_P_P, q_P_Q, q_P_Z, q_Q_F, q_Q_P, q_Q_Q, q_Q_Z, q_R_F, q_R_P, q_R_Q, q_R_Z, q_Z_F, q_Z_P, q_Z_Q, q_Z_Z, F_eigenvalues, s_21 h hmn, trimX_self]
theorem s_33 {k : Nat} {S : Store} {d r : D} {m n : Int} (h : IsF d) (hmn : m ≠ n) : callF P (k + 6) 33 [d, .tup [.int m, .int n, r]] S = .err ⟨2, none⟩ S := by
  rw [callF_of (f := F_splits) rfl rfl]
  simp (disch := omega) only [Int.natCast_zero, Int.natCast_one, Int.cast_ofNat_Int, Int.reduceEq, Int.reduceLT, Int.reduceLE, decide_true, decide_false, List.length_cons, List.length_nil, List.set_set, List.map_cons, List.map_nil, List.replicate_zero, List.replicate_succ, List.cons_append, List.nil_append, List.getElem?_cons_zero, List.getElem?_cons_succ, List.set_cons_zero, List.set_cons_succ, Nat.reduceSub, Nat.reduceAdd, Bool.not_true, Bool.not_false, wipeE, bnd_ok, bnd_err, bnd_bad, on_ok, on_err, on_bad, sel_true, sel_false, slotR_val, fnR_fn, isR_val, negR_int, notR_bl, blSel_bl, optR_int, augR_val, thn_next, thn_ret, thn_err, thn_brk, thn_cont, again_next, again_cont, again_brk, again_ret, again_err, ctch_next, ctch_ret, ctch_err, fin_ret, fin_next, fin_err, okIf_t, e_slot, e_lit, e_globP, e_tup, e_lst, e_bin, e_neg, e_not, e_and, e_or, e_cmp, e_cmp2, e_ite, e_call, e_callv, e_bi, e_bic, e_isi, e_isiS, e_mth, e_ix, e_sl, e_rev, e_lc, o_none, o_some, es_nil, es_cons, b_val, b_not, b_and, b_or, b_yes, c_mk, i_seq, i_range1, i_range2, i_range3, i_enum, t_slot, t_tup, t_ix, ts_nil, ts_cons, s_asg, s_par, s_aug, s_for, s_while, s_if, s_ret, s_retN, s_expr, s_raise, s_try, s_brk, s_cont, s_pass, ss_nil, ss_cons, bin_add, bin_sub, bin_addS, bin_addT, bin_addL, bin_mulL, aug_add, aug_sub, eqS_int, eqS_bl, c_eq, c_ne, c_lt, c_le, c_gt, c_ge, c_isN, c_isntN, bi_one, bi_two, bi1_int, bi1_bl, bi1_str, bi1_tup, bi1_ref, bi2_int, biI_int, biB_int, biI_abs, biT_len, biT_tuple, biT_list, biL_len, biL_tuple, biL_list, biL_sum, biL_any, biL_all, biII_max, biII_min, truth_bl, truth_int, truth_tup, truth_non, seq_tup, ix_ref, ix_tup, sl_tup, sl_ref, set_ref, mt_app, it_tup, it_ref, it_r1, it_r2, noerr_err, atI_0, atI_1, atI_2, atI_3, atI_l, bin_modp, bin_divp, bin_mulp, ixN_40, ixN_41, ixN_42, ixN_43, isR_excP, pow_10_18, atI_cast, List.length_map, Res.noerr_ok, Res.noerr_bad, ofO_some, isi_tuple_tuple, isi_tuple_str, isi_tuple_int, isi_tuple_bool, isi_str_tuple, isi_str_str, isi_str_int, isi_str_bool, isi_int_tuple, isi_int_str, isi_int_int, isi_int_bool, isi_bool_tuple, isi_bool_str, isi_bool_int, isi_bool_bool, isi_NoneType_tuple, isi_NoneType_str, isi_NoneType_int, isi_NoneType_bool, q_F_F, q_F_P, q_F_Q, q_F_Z, q_P_F, q_P_P, q_P_Q, q_P_Z, q_Q_F, q_Q_P, q_Q_Q, q_Q_Z, q_R_F, q_R_P, q_R_Q, q_R_Z, q_Z_F, q_Z_P, q_Z_Q, q_Z_Z, F_splits, s_32 h hmn, trimX_self]
theorem s_36 {k : Nat} {S : Store} {d r : D} {m n : Int} (h : IsF d) (hmn : m ≠ n) : callF P (k + 5) 36 [d, .tup [.int m, .int n, r]] S = .err ⟨2, none⟩ S := by
  rw [callF_of (f := F_unsplit) rfl rfl]
  simp (disch := omega) only [Int.natCast_zero, Int.natCast_one, Int.cast_ofNat_Int, Int.reduceEq, Int.reduceLT, Int.reduceLE, decide_true, decide_false, List.length_cons, List.length_nil, List.set_set, List.map_cons, List.map_nil, List.replicate_zero, List.replicate_succ, List.cons_append, List.nil_append, List.getElem?_cons_zero, List.getElem?_cons_succ, List.set_cons_zero, List.set_cons_succ, Nat.reduceSub, Nat.reduceAdd, Bool.not_true, Bool.not_false, wipeE, bnd_ok, bnd_err, bnd_bad, on_ok, on_err, on_bad, sel_true, sel_false, slotR_val, fnR_fn, isR_val, negR_int, notR_bl, blSel_bl, optR_int, augR_val, thn_next, thn_ret, thn_err, thn_brk, thn_cont, again_next, again_cont, again_brk, again_ret, again_err, ctch_next, ctch_ret, ctch_err, fin_ret, fin_next, fin_err, okIf_t, e_slot, e_lit, e_globP, e_tup, e_lst, e_bin, e_neg, e_not, e_and, e_or, e_cmp, e_cmp2, e_ite, e_call, e_callv, e_bi, e_bic, e_isi, e_isiS, e_mth, e_ix, e_sl, e_rev, e_lc, o_none, o_some, es_nil, es_cons, b_val, b_not, b_and, b_or, b_yes, c_mk, i_seq, i_range1, i_range2, i_range3, i_enum, t_slot, t_tup, t_ix, ts_nil, ts_cons, s_asg, s_par, s_aug, s_for, s_while, s_if, s_ret, s_retN, s_expr, s_raise, s_try, s_brk, s_cont, s_pass, ss_nil, ss_cons, bin_add, bin_sub, bin_addS, bin_addT, bin_addL, bin_mulL, aug_add, aug_sub, eqS_int, eqS_bl, c_eq, c_ne, c_lt, c_le, c_gt, c_ge, c_isN, c_isntN, bi_one, bi_two, bi1_int, bi1_bl, bi1_str, bi1_tup, bi1_ref, bi2_int, biI_int, biB_int, biI_abs, biT_len, biT_tuple, biT_list, biL_len, biL_tuple, biL_list, biL_sum, biL_any, biL_all, biII_max, biII_min, truth_bl, truth_int, truth_tup, truth_non, seq_tup, ix_ref, ix_tup, sl_tup, sl_ref, set_ref, mt_app, it_tup, it_ref, it_r1, it_r2, noerr_err, atI_0, atI_1, atI_2, atI_3, atI_l, bin_modp, bin_divp, bin_mulp, ixN_40, ixN_41, ixN_42, ixN_43, isR_excP, pow_10_18, atI_cast, List.length_map, Res.noerr_ok, Res.noerr_bad, ofO_some, isi_tuple_tuple, isi_tuple_str, isi_tuple_int, isi_tuple_bool, isi_str_tuple, isi_str_str, isi_str_int, isi_str_bool, isi_int_tuple, isi_int_str, isi_int_int, isi_int_bool, isi_bool_tuple, isi_bool_str, isi_bool_int, isi_bool_bool, isi_NoneType_tuple, isi_NoneType_str, isi_NoneType_int, isi_NoneType_bool, q_F_F, q_F_P, q_F_Q, q_F_Z, q_P_F, q_P_P, q_P_Q, q_P_Z, q_Q_F, q_Q_P, q_Q_Q, q_Q_Z, q_R_F, q_R_P, q_R_Q, q_R_Z, q_Z_F, q_Z_P, q_Z_Q, q_Z_Z, F_unsplit, s_21 h hmn, trimX_self]
theorem s_37 {k : Nat} {S : Store} {d r : D} {m n : Int} (h : IsF d) (hmn : m ≠ n) : callF P (k + 7) 37 [d, .tup [.int m, .int n, r]] S = .err ⟨2, none⟩ S := by
  rw [callF_of (f := F_is_diagonal) rfl rfl]
  simp (disch := omega) only [Int.natCast_zero, Int.natCast_one, Int.cast_ofNat_Int, Int.reduceEq, Int.reduceLT, Int.reduceLE, decide_true, decide_false, List.length_cons, List.length_nil, List.set_set, List.map_cons, List.map_nil, List.replicate_zero, List.replicate_succ, List.cons_append, List.nil_append, List.getElem?_cons_zero, List.getElem?_cons_succ, List.set_cons_zero, List.set_cons_succ, Nat.reduceSub, Nat.reduceAdd, Bool.not_true, Bool.not_false, wipeE, bnd_ok, bnd_err, bnd_bad, on_ok, on_err, on_bad, sel_true, sel_false, slotR_val, fnR_fn, isR_val, negR_int, notR_bl, blSel_bl, optR_int, augR_val, thn_next, thn_ret, thn_err, thn_brk, thn_cont, again_next, again_cont, again_brk, again_ret, again_err, ctch_next, ctch_ret, ctch_err, fin_ret, fin_next, fin_err, okIf_t, e_slot, e_lit, e_globP, e_tup, e_lst, e_bin, e_neg, e_not, e_and, e_or, e_cmp, e_cmp2, e_ite, e_call, e_callv, e_bi, e_bic, e_isi, e_isiS, e_mth, e_ix, e_sl, e_rev, e_lc, o_none, o_some, es_nil, es_cons, b_val, b_not, b_and, b_or, b_yes, c_mk, i_seq, i_range1, i_range2, i_range3, i_enum, t_slot, t_tup, t_ix, ts_nil, ts_cons, s_asg, s_par, s_aug, s_for, s_while, s_if, s_ret, s_retN, s_expr, s_raise, s_try, s_brk, s_cont, s_pass, ss_nil, ss_cons, bin_add, bin_sub, bin_addS, bin_addT, bin_addL, bin_mulL, aug_add, aug_sub, eqS_int, eqS_bl, c_eq, c_ne, c_lt, c_le, c_gt, c_ge, c_isN, c_isntN, bi_one, bi_two, bi1_int, bi1_bl, bi1_str, bi1_tup, bi1_ref, bi2_int, biI_int, biB_int, biI_abs, biT_len, biT_tuple, biT_list, biL_len, biL_tuple, biL_list, biL_sum, biL_any, biL_all, biII_max, biII_min, truth_bl, truth_int, truth_tup, truth_non, seq_tup, ix_ref, ix_tup, sl_tup, sl_ref, set_ref, mt_app, it_tup, it_ref, it_r1, it_r2, noerr_err, atI_0, atI_1, atI_2, atI_3, atI_l, bin_modp, bin_divp, bin_mulp, ixN_40, ixN_41, ixN_42, ixN_43, isR_excP, pow_10_18, atI_cast, List.length_map, Res.noerr_ok, Res.noerr_bad, ofO_some, isi_tuple_tuple, isi_tuple_str, isi_tuple_int, isi_tuple_bool, isi_str_tuple, isi_str_str, isi_str_int, isi_str_bool, isi_int_tuple, isi_int_str, isi_int_int, isi_int_bool, isi_bool_tuple, isi_bool_str, isi_bool_int, isi_bool_bool, isi_NoneType_tuple, isi_NoneType_str, isi_NoneType_int, isi_NoneType_bool, q_F_F, q_F_P, q_F_Q, q_F_Z, q_P_F, q_P_P, q_P_Q, q_P_Z, q_Q_F, q_Q_P, q_Q_Q, q_Q_Z, q_R_F, q_R_P, q_R_Q, q_R_Z, q_Z_F, q_Z_P, q_Z_Q, q_Z_Z, F_is_diagonal, s_33 h hmn, trimX_self]
theorem s_26 {k : Nat} {S : Store} {d r v : D} {m n : Int} (h : IsF d) (hmn : m ≠ n) : callF P (k + 5) 26 [d, .tup [.int m, .int n, r], v] S = .err ⟨2, none⟩ S := by
  rw [callF_of (f := F_krylov) rfl rfl]
  simp (disch := omega) only [Int.natCast_zero, Int.natCast_one, Int.cast_ofNat_Int, Int.reduceEq, Int.reduceLT, Int.reduceLE, decide_true, decide_false, List.length_cons, List.length_nil, List.set_set, List.map_cons, List.map_nil, List.replicate_zero, List.replicate_succ, List.cons_append, List.nil_append, List.getElem?_cons_zero, List.getElem?_cons_succ, List.set_cons_zero, List.set_cons_succ, Nat.reduceSub, Nat.reduceAdd, Bool.not_true, Bool.not_false, wipeE, bnd_ok, bnd_err, bnd_bad, on_ok, on_err, on_bad, sel_true, sel_false, slotR_val, fnR_fn, isR_val, negR_int, notR_bl, blSel_bl, optR_int, augR_val, thn_next, thn_ret, thn_err, thn_brk, thn_cont, again_next, again_cont, again_brk, again_ret, again_err, ctch_next, ctch_ret, ctch_err, fin_ret, fin_next, fin_err, okIf_t, e_slot, e_lit, e_globP, e_tup, e_lst, e_bin, e_neg, e_not, e_and, e_or, e_cmp, e_cmp2, e_ite, e_call, e_callv, e_bi, e_bic, e_isi, e_isiS, e_mth, e_ix, e_sl, e_rev, e_lc, o_none, o_some, es_nil, es_cons, b_val, b_not, b_and, b_or, b_yes, c_mk, i_seq, i_range1, i_range2, i_range3, i_enum, t_slot, t_tup, t_ix, ts_nil, ts_cons, s_asg, s_par, s_aug, s_for, s_while, s_if, s_ret, s_retN, s_expr, s_raise, s_try, s_brk, s_cont, s_pass, ss_nil, ss_cons, bin_add, bin_sub, bin_addS, bin_addT, bin_addL, bin_mulL, aug_add, aug_sub, eqS_int, eqS_bl, c_eq, c_ne, c_lt, c_le, c_gt, c_ge, c_isN, c_isntN, bi_one, bi_two, bi1_int, bi1_bl, bi1_str, bi1_tup, bi1_ref, bi2_int, biI_int, biB_int, biI_abs, biT_len, biT_tuple, biT_list, biL_len, biL_tuple, biL_list, biL_sum, biL_any, biL_all, biII_max, biII_min, truth_bl, truth_int, truth_tup, truth_non, seq_tup, ix_ref, ix_tup, sl_tup, sl_ref, set_ref, mt_app, it_tup, it_ref, it_r1, it_r2, noerr_err, atI_0, atI_1, atI_2, atI_3, atI_l, bin_modp, bin_divp, bin_mulp, ixN_40, ixN_41, ixN_42, ixN_43, isR_excP, pow_10_18, atI_cast, List.length_map, Res.noerr_ok, Res.noerr_bad, ofO_some, isi_tuple_tuple, isi_tuple_str, isi_tuple_int, isi_tuple_bool, isi_str_tuple, isi_str_str, isi_str_int, isi_str_bool, isi_int_tuple, isi_int_str, isi_int_int, isi_int_bool, isi_bool_tuple, isi_bool_str, isi_bool_int, isi_bool_bool, isi_NoneType_tuple, isi_NoneType_str, isi_NoneType_int, isi_NoneType_bool, q_F_F, q_F_P, q_F_Q, q_F_Z, q_P_F, q_P_P, q_P_Q, q_P_Z, q_Q_F, q_Q_P, q_Q_Q, q_Q_Z, q_R_F, q_R_P, q_R_Q, q_R_Z, q_Z_F, q_Z_P, q_Z_Q, q_Z_Z, F_krylov, s_22 h hmn, trimX_self]
theorem d_29 {k : Nat} {S : Store} {d g : D} (h : NotF d) : callF P (k + 4) 29 [d, g] S = .err ⟨1, none⟩ S := by
  rw [callF_of (f := F_companion) rfl rfl]
  simp (disch := omega) only [Int.natCast_zero, Int.natCast_one, Int.cast_ofNat_Int, Int.reduceEq, Int.reduceLT, Int.reduceLE, decide_true, decide_false, List.length_cons, List.length_nil, List.set_set, List.map_cons, List.map_nil, List.replicate_zero, List.replicate_succ, List.cons_append, List.nil_append, List.getElem?_cons_zero, List.getElem?_cons_succ, List.set_cons_zero, List.set_cons_succ, Nat.reduceSub, Nat.reduceAdd, Bool.not_true, Bool.not_false, wipeE, bnd_ok, bnd_err, bnd_bad, on_ok, on_err, on_bad, sel_true, sel_false, slotR_val, fnR_fn, isR_val, negR_int, notR_bl, blSel_bl, optR_int, augR_val, thn_next, thn_ret, thn_err, thn_brk, thn_cont, again_next, again_cont, again_brk, again_ret, again_err, ctch_next, ctch_ret, ctch_err, fin_ret, fin_next, fin_err, okIf_t, e_slot, e_lit, e_globP, e_tup, e_lst, e_bin, e_neg, e_not, e_and, e_or, e_cmp, e_cmp2, e_ite, e_call, e_callv, e_bi, e_bic, e_isi, e_isiS, e_mth, e_ix, e_sl, e_rev, e_lc, o_none, o_some, es_nil, es_cons, b_val, b_not, b_and, b_or, b_yes, c_mk, i_seq, i_range1, i_range2, i_range3, i_enum, t_slot, t_tup, t_ix, ts_nil, ts_cons, s_asg, s_par, s_aug, s_for, s_while, s_if, s_ret, s_retN, s_expr, s_raise, s_try, s_brk, s_cont, s_pass, ss_nil, ss_cons, bin_add, bin_sub, bin_addS, bin_addT, bin_addL, bin_mulL, aug_add, aug_sub, eqS_int, eqS_bl, c_eq, c_ne, c_lt, c_le, c_gt, c_ge, c_isN, c_isntN, bi_one, bi_two, bi1_int, bi1_bl, bi1_str, bi1_tup, bi1_ref, bi2_int, biI_int, biB_int, biI_abs, biT_len, biT_tuple, biT_list, biL_len, biL_tuple, biL_list, biL_sum, biL_any, biL_all, biII_max, biII_min, truth_bl, truth_int, truth_tup, truth_non, seq_tup, ix_ref, ix_tup, sl_tup, sl_ref, set_ref, mt_app, it_tup, it_ref, it_r1, it_r2, noerr_err, atI_0, atI_1, atI_2, atI_3, atI_l, bin_modp, bin_divp, bin_mulp, ixN_40, ixN_41, ixN_42, ixN_43, isR_excP, pow_10_18, atI_cast, List.length_map, Res.noerr_ok, Res.noerr_bad, ofO_some, isi_tuple_tuple, isi_tuple_str, isi_tuple_int, isi_tuple_bool, isi_str_tuple, isi_str_str, isi_str_int, isi_str_bool, isi_int_tuple, isi_int_str, isi_int_int, isi_int_bool, isi_bool_tuple, isi_bool_str, isi_bool_int, isi_bool_bool, isi_NoneType_tuple, isi_NoneType_str, isi_NoneType_int, isi_NoneType_bool, q_F_F, q_F_P, q_F_Q, q_F_Z, q_P_F, q_P_P, q_P_Q, q_P_Z, q_Q_F, q_Q_P, q_Q_Q, q_Q_Z, q_R_F, q_R_P, q_R_Q, q_R_Z, q_Z_F, q_Z_P, q_Z_Q, q_Z_Z, F_companion, need_field_no lf (h _ _), trimX_self]
theorem d_34 {k : Nat} {S : Store} {d x n : D} (h : NotF d) : callF P (k + 4) 34 [d, x, n] S = .err ⟨1, none⟩ S := by
  rw [callF_of (f := F_jordan_block) rfl rfl]
  simp (disch := omega) only [Int.natCast_zero, Int.natCast_one, Int.cast_ofNat_Int, Int.reduceEq, Int.reduceLT, Int.reduceLE, decide_true, decide_false, List.length_cons, List.length_nil, List.set_set, List.map_cons, List.map_nil, List.replicate_zero, List.replicate_succ, List.cons_append, List.nil_append, List.getElem?_cons_zero, List.getElem?_cons_succ, List.set_cons_zero, List.set_cons_succ, Nat.reduceSub, Nat.reduceAdd, Bool.not_true, Bool.not_false, wipeE, bnd_ok, bnd_err, bnd_bad, on_ok, on_err, on_bad, sel_true, sel_false, slotR_val, fnR_fn, isR_val, negR_int, notR_bl, blSel_bl, optR_int, augR_val, thn_next, thn_ret, thn_err, thn_brk, thn_cont, again_next, again_cont, again_brk, again_ret, again_err, ctch_next, ctch_ret, ctch_err, fin_ret, fin_next, fin_err, okIf_t, e_slot, e_lit, e_globP, e_tup, e_lst, e_bin, e_neg, e_not, e_and, e_or, e_cmp, e_cmp2, e_ite, e_call, e_callv, e_bi, e_bic, e_isi, e_isiS, e_mth, e_ix, e_sl, e_rev, e_lc, o_none, o_some, es_nil, es_cons, b_val, b_not, b_and, b_or, b_yes, c_mk, i_seq, i_range1, i_range2, i_range3, i_enum, t_slot, t_tup, t_ix, ts_nil, ts_cons, s_asg, s_par, s_aug, s_for, s_while, s_if, s_ret, s_retN, s_expr, s_raise, s_try, s_brk, s_cont, s_pass, ss_nil, ss_cons, bin_add, bin_sub, bin_addS, bin_addT, bin_addL, bin_mulL, aug_add, aug_sub, eqS_int, eqS_bl, c_eq, c_ne, c_lt, c_le, c_gt, c_ge, c_isN, c_isntN, bi_one, bi_two, bi1_int, bi1_bl, bi1_str, bi1_tup, bi1_ref, bi2_int, biI_int, biB_int, biI_abs, biT_len, biT_tuple, biT_list, biL_len, biL_tuple, biL_list, biL_sum, biL_any, biL_all, biII_max, biII_min, truth_bl, truth_int, truth_tup, truth_non, seq_tup, ix_ref, ix_tup, sl_tup, sl_ref, set_ref, mt_app, it_tup, it_ref, it_r1, it_r2, noerr_err, atI_0, atI_1, atI_2, atI_3, atI_l, bin_modp, bin_divp, bin_mulp, ixN_40, ixN_41, ixN_42, ixN_43, isR_excP, pow_10_18, atI_cast, List.length_map, Res.noerr_ok, Res.noerr_bad, ofO_some, isi_tuple_tuple, isi_tuple_str, isi_tuple_int, isi_tuple_bool, isi_str_tuple, isi_str_str, isi_str_int, isi_str_bool, isi_int_tuple, isi_int_str, isi_int_int, isi_int_bool, isi_bool_tuple, isi_bool_str, isi_bool_int, isi_bool_bool, isi_NoneType_tuple, isi_NoneType_str, isi_NoneType_int, isi_NoneType_bool, q_F_F, q_F_P, q_F_Q, q_F_Z, q_P_F, q_P_P, q_P_Q, q_P_Z, q_Q_F, q_Q_P, q_Q_Q, q_Q_Z, q_R_F, q_R_P, q_R_Q, q_R_Z, q_Z_F, q_Z_P, q_Z_Q, q_Z_Z, F_jordan_block, need_field_no lf (h _ _), trimX_self]
/-! ### two more shapes -/
theorem cut2 {a b c : D} : cut [a, b, c] none (some 2) = [a, b] := rfl
theorem s_39b {k : Nat} {S : Store} {d r r' : D} {m n : Int} (h : IsF d) (hmn : m ≠ n) : callF P (k + 4) 39 [d, .tup [.int m, .int m, r], .tup [.int n, .int n, r']] S = .err ⟨2, none⟩ S := by
  rw [callF_of (f := F_similarity) rfl rfl]
  have e : PyData.eqv (.tuple [.int m, .int m]) (.tuple [.int n, .int n]) = false := by
    have : (m == n) = false := by simpa using hmn
    simp [PyData.eqv, PyData.eqvAll, this]
  simp (disch := omega) only [Int.natCast_zero, Int.natCast_one, Int.cast_ofNat_Int, Int.reduceEq, Int.reduceLT, Int.reduceLE, decide_true, decide_false, List.length_cons, List.length_nil, List.set_set, List.map_cons, List.map_nil, List.replicate_zero, List.replicate_succ, List.cons_append, List.nil_append, List.getElem?_cons_zero, List.getElem?_cons_succ, List.set_cons_zero, List.set_cons_succ, Nat.reduceSub, Nat.reduceAdd, Bool.not_true, Bool.not_false, wipeE, bnd_ok, bnd_err, bnd_bad, on_ok, on_err, on_bad, sel_true, sel_false, slotR_val, fnR_fn, isR_val, negR_int, notR_bl, blSel_bl, optR_int, augR_val, thn_next, thn_ret, thn_err, thn_brk, thn_cont, again_next, again_cont, again_brk, again_ret, again_err, ctch_next, ctch_ret, ctch_err, fin_ret, fin_next, fin_err, okIf_t, e_slot, e_lit, e_globP, e_tup, e_lst, e_bin, e_neg, e_not, e_and, e_or, e_cmp, e_cmp2, e_ite, e_call, e_callv, e_bi, e_bic, e_isi, e_isiS, e_mth, e_ix, e_sl, e_rev, e_lc, o_none, o_some, es_nil, es_cons, b_val, b_not, b_and, b_or, b_yes, c_mk, i_seq, i_range1, i_range2, i_range3, i_enum, t_slot, t_tup, t_ix, ts_nil, ts_cons, s_asg, s_par, s_aug, s_for, s_while, s_if, s_ret, s_retN, s_expr, s_raise, s_try, s_brk, s_cont, s_pass, ss_nil, ss_cons, bin_add, bin_sub, bin_addS, bin_addT, bin_addL, bin_mulL, aug_add, aug_sub, eqS_int, eqS_bl, c_eq, c_ne, c_lt, c_le, c_gt, c_ge, c_isN, c_isntN, bi_one, bi_two, bi1_int, bi1_bl, bi1_str, bi1_tup, bi1_ref, bi2_int, biI_int, biB_int, biI_abs, biT_len, biT_tuple, biT_list, biL_len, biL_tuple, biL_list, biL_sum, biL_any, biL_all, biII_max, biII_min, truth_bl, truth_int, truth_tup, truth_non, seq_tup, ix_ref, ix_tup, sl_tup, sl_ref, set_ref, mt_app, it_tup, it_ref, it_r1, it_r2, noerr_err, atI_0, atI_1, atI_2, atI_3, atI_l, bin_modp, bin_divp, bin_mulp, ixN_40, ixN_41, ixN_42, ixN_43, isR_excP, pow_10_18, atI_cast, List.length_map, Res.noerr_ok, Res.noerr_bad, ofO_some, isi_tuple_tuple, isi_tuple_str, isi_tuple_int, isi_tuple_bool, isi_str_tuple, isi_str_str, isi_str_int, isi_str_bool, isi_int_tuple, isi_int_str, isi_int_int, isi_int_bool, isi_bool_tuple, isi_bool_str, isi_bool_int, isi_bool_bool, isi_NoneType_tuple, isi_NoneType_str, isi_NoneType_int, isi_NoneType_bool, q_F_F, q_F_P, q_F_Q, q_F_Z, q_P_F, q_P_P, q_P_Q, q_P_Z, q_Q_F, q_Q_P, q_Q_Q, q_Q_Z, q_R_F, q_R_P, q_R_Q, q_R_Z, q_Z_F, q_Z_P, q_Z_Q, q_Z_Z, F_similarity, need_field_ok lf (is_field_spec lf h), need_square_ok lf, cut2, eqS_pair, e, need_shape_no lf, trimX_self]
theorem s_40b {k : Nat} {S : Store} {d r r' : D} {m n : Int} (h : IsF d) (hmn : m ≠ n) : callF P (k + 4) 40 [d, .tup [.int m, .int m, r], .tup [.int n, .int n, r']] S = .err ⟨2, none⟩ S := by
  rw [callF_of (f := F_difference) rfl rfl]
  have e : PyData.eqv (.tuple [.int m, .int m]) (.tuple [.int n, .int n]) = false := by
    have : (m == n) = false := by simpa using hmn
    simp [PyData.eqv, PyData.eqvAll, this]
  simp (disch := omega) only [Int.natCast_zero, Int.natCast_one, Int.cast_ofNat_Int, Int.reduceEq, Int.reduceLT, Int.reduceLE, decide_true, decide_false, List.length_cons, List.length_nil, List.set_set, List.map_cons, List.map_nil, List.replicate_zero, List.replicate_succ, List.cons_append, List.nil_append, List.getElem?_cons_zero, List.getElem?_cons_succ, List.set_cons_zero, List.set_cons_succ, Nat.reduceSub, Nat.reduceAdd, Bool.not_true, Bool.not_false, wipeE, bnd_ok, bnd_err, bnd_bad, on_ok, on_err, on_bad, sel_true, sel_false, slotR_val, fnR_fn, isR_val, negR_int, notR_bl, blSel_bl, optR_int, augR_val, thn_next, thn_ret, thn_err, thn_brk, thn_cont, again_next, again_cont, again_brk, again_ret, again_err, ctch_next, ctch_ret, ctch_err, fin_ret, fin_next, fin_err, okIf_t, e_slot, e_lit, e_globP, e_tup, e_lst, e_bin, e_neg, e_not, e_and, e_or, e_cmp, e_cmp2, e_ite, e_call, e_callv, e_bi, e_bic, e_isi, e_isiS, e_mth, e_ix, e_sl, e_rev, e_lc, o_none, o_some, es_nil, es_cons, b_val, b_not, b_and, b_or, b_yes, c_mk, i_seq, i_range1, i_range2, i_range3, i_enum, t_slot, t_tup, t_ix, ts_nil, ts_cons, s_asg, s_par, s_aug, s_for, s_while, s_if, s_ret, s_retN, s_expr, s_raise, s_try, s_brk, s_cont, s_pass, ss_nil, ss_cons, bin_add, bin_sub, bin_addS, bin_addT, bin_addL, bin_mulL, aug_add, aug_sub, eqS_int, eqS_bl, c_eq, c_ne, c_lt, c_le, c_gt, c_ge, c_isN, c_isntN, bi_one, bi_two, bi1_int, bi1_bl, bi1_str, bi1_tup, bi1_ref, bi2_int, biI_int, biB_int, biI_abs, biT_len, biT_tuple, biT_list, biL_len, biL_tuple, biL_list, biL_sum, biL_any, biL_all, biII_max, biII_min, truth_bl, truth_int, truth_tup, truth_non, seq_tup, ix_ref, ix_tup, sl_tup, sl_ref, set_ref, mt_app, it_tup, it_ref, it_r1, it_r2, noerr_err, atI_0, atI_1, atI_2, atI_3, atI_l, bin_modp, bin_divp, bin_mulp, ixN_40, ixN_41, ixN_42, ixN_43, isR_excP, pow_10_18, atI_cast, List.length_map, Res.noerr_ok, Res.noerr_bad, ofO_some, isi_tuple_tuple, isi_tuple_str, isi_tuple_int, isi_tuple_bool, isi_str_tuple, isi_str_str, isi_str_int, isi_str_bool, isi_int_tuple, isi_int_str, isi_int_int, isi_int_bool, isi_bool_tuple, isi_bool_str, isi_bool_int, isi_bool_bool, isi_NoneType_tuple, isi_NoneType_str, isi_NoneType_int, isi_NoneType_bool, q_F_F, q_F_P, q_F_Q, q_F_Z, q_P_F, q_P_P, q_P_Q, q_P_Z, q_Q_F, q_Q_P, q_Q_Q, q_Q_Z, q_R_F, q_R_P, q_R_Q, q_R_Z, q_Z_F, q_Z_P, q_Z_Q, q_Z_Z, F_difference, need_field_ok lf (is_field_spec lf h), need_square_ok lf, cut2, eqS_pair, e, need_shape_no lf, trimX_self]
theorem s_22b {k : Nat} {S : Store} {d r : D} {n : Int} {l : List D} (h : IsF d) (hl : (l.length : Int) ≠ n) : callF P (k + 4) 22 [d, .tup [.int n, .int n, r], .tup l] S = .err ⟨2, none⟩ S := by
  rw [callF_of (f := F_annihilator) rfl rfl]
  simp (disch := omega) only [Int.natCast_zero, Int.natCast_one, Int.cast_ofNat_Int, Int.reduceEq, Int.reduceLT, Int.reduceLE, decide_true, decide_false, List.length_cons, List.length_nil, List.set_set, List.map_cons, List.map_nil, List.replicate_zero, List.replicate_succ, List.cons_append, List.nil_append, List.getElem?_cons_zero, List.getElem?_cons_succ, List.set_cons_zero, List.set_cons_succ, Nat.reduceSub, Nat.reduceAdd, Bool.not_true, Bool.not_false, wipeE, bnd_ok, bnd_err, bnd_bad, on_ok, on_err, on_bad, sel_true, sel_false, slotR_val, fnR_fn, isR_val, negR_int, notR_bl, blSel_bl, optR_int, augR_val, thn_next, thn_ret, thn_err, thn_brk, thn_cont, again_next, again_cont, again_brk, again_ret, again_err, ctch_next, ctch_ret, ctch_err, fin_ret, fin_next, fin_err, okIf_t, e_slot, e_lit, e_globP, e_tup, e_lst, e_bin, e_neg, e_not, e_and, e_or, e_cmp, e_cmp2, e_ite, e_call, e_callv, e_bi, e_bic, e_isi, e_isiS, e_mth, e_ix, e_sl, e_rev, e_lc, o_none, o_some, es_nil, es_cons, b_val, b_not, b_and, b_or, b_yes, c_mk, i_seq, i_range1, i_range2, i_range3, i_enum, t_slot, t_tup, t_ix, ts_nil, ts_cons, s_asg, s_par, s_aug, s_for, s_while, s_if, s_ret, s_retN, s_expr, s_raise, s_try, s_brk, s_cont, s_pass, ss_nil, ss_cons, bin_add, bin_sub, bin_addS, bin_addT, bin_addL, bin_mulL, aug_add, aug_sub, eqS_int, eqS_bl, c_eq, c_ne, c_lt, c_le, c_gt, c_ge, c_isN, c_isntN, bi_one, bi_two, bi1_int, bi1_bl, bi1_str, bi1_tup, bi1_ref, bi2_int, biI_int, biB_int, biI_abs, biT_len, biT_tuple, biT_list, biL_len, biL_tuple, biL_list, biL_sum, biL_any, biL_all, biII_max, biII_min, truth_bl, truth_int, truth_tup, truth_non, seq_tup, ix_ref, ix_tup, sl_tup, sl_ref, set_ref, mt_app, it_tup, it_ref, it_r1, it_r2, noerr_err, atI_0, atI_1, atI_2, atI_3, atI_l, bin_modp, bin_divp, bin_mulp, ixN_40, ixN_41, ixN_42, ixN_43, isR_excP, pow_10_18, atI_cast, List.length_map, Res.noerr_ok, Res.noerr_bad, ofO_some, isi_tuple_tuple, isi_tuple_str, isi_tuple_int, isi_tuple_bool, isi_str_tuple, isi_str_str, isi_str_int, isi_str_bool, isi_int_tuple, isi_int_str, isi_int_int, isi_int_bool, isi_bool_tuple, isi_bool_str, isi_bool_int, isi_bool_bool, isi_NoneType_tuple, isi_NoneType_str, isi_NoneType_int, isi_NoneType_bool, q_F_F, q_F_P, q_F_Q, q_F_Z, q_P_F, q_P_P, q_P_Q, q_P_Z, q_Q_F, q_Q_P, q_Q_Q, q_Q_Z, q_R_F, q_R_P, q_R_Q, q_R_Z, q_Z_F, q_Z_P, q_Z_Q, q_Z_Z, F_annihilator, need_field_ok lf (is_field_spec lf h), need_square_ok lf, hl, need_shape_no lf, trimX_self]
theorem s_26b {k : Nat} {S : Store} {d r : D} {n : Int} {l : List D} (h : IsF d) (hl : (l.length : Int) ≠ n) : callF P (k + 5) 26 [d, .tup [.int n, .int n, r], .tup l] S = .err ⟨2, none⟩ S := by
  rw [callF_of (f := F_krylov) rfl rfl]
  simp (disch := omega) only [Int.natCast_zero, Int.natCast_one, Int.cast_ofNat_Int, Int.reduceEq, Int.reduceLT, Int.reduceLE, decide_true, decide_false, List.length_cons, List.length_nil, List.set_set, List.map_cons, List.map_nil, List.replicate_zero, List.replicate_succ, List.cons_append, List.nil_append, List.getElem?_cons_zero, List.getElem?_cons_succ, List.set_cons_zero, List.set_cons_succ, Nat.reduceSub, Nat.reduceAdd, Bool.not_true, Bool.not_false, wipeE, bnd_ok, bnd_err, bnd_bad, on_ok, on_err, on_bad, sel_true, sel_false, slotR_val, fnR_fn, isR_val, negR_int, notR_bl, blSel_bl, optR_int, augR_val, thn_next, thn_ret, thn_err, thn_brk, thn_cont, again_next, again_cont, again_brk, again_ret, again_err, ctch_next, ctch_ret, ctch_err, fin_ret, fin_next, fin_err, okIf_t, e_slot, e_lit, e_globP, e_tup, e_lst, e_bin, e_neg, e_not, e_and, e_or, e_cmp, e_cmp2, e_ite, e_call, e_callv, e_bi, e_bic, e_isi, e_isiS, e_mth, e_ix, e_sl, e_rev, e_lc, o_none, o_some, es_nil, es_cons, b_val, b_not, b_and, b_or, b_yes, c_mk, i_seq, i_range1, i_range2, i_range3, i_enum, t_slot, t_tup, t_ix, ts_nil, ts_cons, s_asg, s_par, s_aug, s_for, s_while, s_if, s_ret, s_retN, s_expr, s_raise, s_try, s_brk, s_cont, s_pass, ss_nil, ss_cons, bin_add, bin_sub, bin_addS, bin_addT, bin_addL, bin_mulL, aug_add, aug_sub, eqS_int, eqS_bl, c_eq, c_ne, c_lt, c_le, c_gt, c_ge, c_isN, c_isntN, bi_one, bi_two, bi1_int, bi1_bl, bi1_str, bi1_tup, bi1_ref, bi2_int, biI_int, biB_int, biI_abs, biT_len, biT_tuple, biT_list, biL_len, biL_tuple, biL_list, biL_sum, biL_any, biL_all, biII_max, biII_min, truth_bl, truth_int, truth_tup, truth_non, seq_tup, ix_ref, ix_tup, sl_tup, sl_ref, set_ref, mt_app, it_tup, it_ref, it_r1, it_r2, noerr_err, atI_0, atI_1, atI_2, atI_3, atI_l, bin_modp, bin_divp, bin_mulp, ixN_40, ixN_41, ixN_42, ixN_43, isR_excP, pow_10_18, atI_cast, List.length_map, Res.noerr_ok, Res.noerr_bad, ofO_some, isi_tuple_tuple, isi_tuple_str, isi_tuple_int, isi_tuple_bool, isi_str_tuple, isi_str_str, isi_str_int, isi_str_bool, isi_int_tuple, isi_int_str, isi_int_int, isi_int_bool, isi_bool_tuple, isi_bool_str, isi_bool_int, isi_bool_bool, isi_NoneType_tuple, isi_NoneType_str, isi_NoneType_int, isi_NoneType_bool, q_F_F, q_F_P, q_F_Q, q_F_Z, q_P_F, q_P_P, q_P_Q, q_P_Z, q_Q_F, q_Q_P, q_Q_Q, q_Q_Z, q_R_F, q_R_P, q_R_Q, q_R_Z, q_Z_F, q_Z_P, q_Z_Q, q_Z_Z, F_krylov, s_22b h hl, trimX_self]
/-! ### the class of a call -/
theorem called2 {k i : Nat} {S : Store} {a b : D} {x : Ex} (hs : (P.fns i).isSome = true) (h : callF P k i [a, b] S = .err x S) : callF P (k + 1) 11 [.fn i, .tup [a, b]] S = .err x S := by
  rw [callF_of (f := L_called) rfl rfl]
  simp (disch := omega) only [Int.natCast_zero, Int.natCast_one, Int.cast_ofNat_Int, Int.reduceEq, Int.reduceLT, Int.reduceLE, decide_true, decide_false, List.length_cons, List.length_nil, List.set_set, List.map_cons, List.map_nil, List.replicate_zero, List.replicate_succ, List.cons_append, List.nil_append, List.getElem?_cons_zero, List.getElem?_cons_succ, List.set_cons_zero, List.set_cons_succ, Nat.reduceSub, Nat.reduceAdd, Bool.not_true, Bool.not_false, wipeE, bnd_ok, bnd_err, bnd_bad, on_ok, on_err, on_bad, sel_true, sel_false, slotR_val, fnR_fn, isR_val, negR_int, notR_bl, blSel_bl, optR_int, augR_val, thn_next, thn_ret, thn_err, thn_brk, thn_cont, again_next, again_cont, again_brk, again_ret, again_err, ctch_next, ctch_ret, ctch_err, fin_ret, fin_next, fin_err, okIf_t, e_slot, e_lit, e_globP, e_tup, e_lst, e_bin, e_neg, e_not, e_and, e_or, e_cmp, e_cmp2, e_ite, e_call, e_callv, e_bi, e_bic, e_isi, e_isiS, e_mth, e_ix, e_sl, e_rev, e_lc, o_none, o_some, es_nil, es_cons, b_val, b_not, b_and, b_or, b_yes, c_mk, i_seq, i_range1, i_range2, i_range3, i_enum, t_slot, t_tup, t_ix, ts_nil, ts_cons, s_asg, s_par, s_aug, s_for, s_while, s_if, s_ret, s_retN, s_expr, s_raise, s_try, s_brk, s_cont, s_pass, ss_nil, ss_cons, bin_add, bin_sub, bin_addS, bin_addT, bin_addL, bin_mulL, aug_add, aug_sub, eqS_int, eqS_bl, c_eq, c_ne, c_lt, c_le, c_gt, c_ge, c_isN, c_isntN, bi_one, bi_two, bi1_int, bi1_bl, bi1_str, bi1_tup, bi1_ref, bi2_int, biI_int, biB_int, biI_abs, biT_len, biT_tuple, biT_list, biL_len, biL_tuple, biL_list, biL_sum, biL_any, biL_all, biII_max, biII_min, truth_bl, truth_int, truth_tup, truth_non, seq_tup, ix_ref, ix_tup, sl_tup, sl_ref, set_ref, mt_app, it_tup, it_ref, it_r1, it_r2, noerr_err, atI_0, atI_1, atI_2, atI_3, atI_l, bin_modp, bin_divp, bin_mulp, ixN_40, ixN_41, ixN_42, ixN_43, isR_excP, pow_10_18, atI_cast, List.length_map, Res.noerr_ok, Res.noerr_bad, ofO_some, isi_tuple_tuple, isi_tuple_str, isi_tuple_int, isi_tuple_bool, isi_str_tuple, isi_str_str, isi_str_int, isi_str_bool, isi_int_tuple, isi_int_str, isi_int_int, isi_int_bool, isi_bool_tuple, isi_bool_str, isi_bool_int, isi_bool_bool, isi_NoneType_tuple, isi_NoneType_str, isi_NoneType_int, isi_NoneType_bool, q_F_F, q_F_P, q_F_Q, q_F_Z, q_P_F, q_P_P, q_P_Q, q_P_Z, q_Q_F, q_Q_P, q_Q_Q, q_Q_Z, q_R_F, q_R_P, q_R_Q, q_R_Z, q_Z_F, q_Z_P, q_Z_Q, q_Z_Z, L_called, hs, okIf_t, h, trimX_self]
theorem called3 {k i : Nat} {S : Store} {a b c : D} {x : Ex} (hs : (P.fns i).isSome = true) (h : callF P k i [a, b, c] S = .err x S) : callF P (k + 1) 11 [.fn i, .tup [a, b, c]] S = .err x S := by
  rw [callF_of (f := L_called) rfl rfl]
  simp (disch := omega) only [Int.natCast_zero, Int.natCast_one, Int.cast_ofNat_Int, Int.reduceEq, Int.reduceLT, Int.reduceLE, decide_true, decide_false, List.length_cons, List.length_nil, List.set_set, List.map_cons, List.map_nil, List.replicate_zero, List.replicate_succ, List.cons_append, List.nil_append, List.getElem?_cons_zero, List.getElem?_cons_succ, List.set_cons_zero, List.set_cons_succ, Nat.reduceSub, Nat.reduceAdd, Bool.not_true, Bool.not_false, wipeE, bnd_ok, bnd_err, bnd_bad, on_ok, on_err, on_bad, sel_true, sel_false, slotR_val, fnR_fn, isR_val, negR_int, notR_bl, blSel_bl, optR_int, augR_val, thn_next, thn_ret, thn_err, thn_brk, thn_cont, again_next, again_cont, again_brk, again_ret, again_err, ctch_next, ctch_ret, ctch_err, fin_ret, fin_next, fin_err, okIf_t, e_slot, e_lit, e_globP, e_tup, e_lst, e_bin, e_neg, e_not, e_and, e_or, e_cmp, e_cmp2, e_ite, e_call, e_callv, e_bi, e_bic, e_isi, e_isiS, e_mth, e_ix, e_sl, e_rev, e_lc, o_none, o_some, es_nil, es_cons, b_val, b_not, b_and, b_or, b_yes, c_mk, i_seq, i_range1, i_range2, i_range3, i_enum, t_slot, t_tup, t_ix, ts_nil, ts_cons, s_asg, s_par, s_aug, s_for, s_while, s_if, s_ret, s_retN, s_expr, s_raise, s_try, s_brk, s_cont, s_pass, ss_nil, ss_cons, bin_add, bin_sub, bin_addS, bin_addT, bin_addL, bin_mulL, aug_add, aug_sub, eqS_int, eqS_bl, c_eq, c_ne, c_lt, c_le, c_gt, c_ge, c_isN, c_isntN, bi_one, bi_two, bi1_int, bi1_bl, bi1_str, bi1_tup, bi1_ref, bi2_int, biI_int, biB_int, biI_abs, biT_len, biT_tuple, biT_list, biL_len, biL_tuple, biL_list, biL_sum, biL_any, biL_all, biII_max, biII_min, truth_bl, truth_int, truth_tup, truth_non, seq_tup, ix_ref, ix_tup, sl_tup, sl_ref, set_ref, mt_app, it_tup, it_ref, it_r1, it_r2, noerr_err, atI_0, atI_1, atI_2, atI_3, atI_l, bin_modp, bin_divp, bin_mulp, ixN_40, ixN_41, ixN_42, ixN_43, isR_excP, pow_10_18, atI_cast, List.length_map, Res.noerr_ok, Res.noerr_bad, ofO_some, isi_tuple_tuple, isi_tuple_str, isi_tuple_int, isi_tuple_bool, isi_str_tuple, isi_str_str, isi_str_int, isi_str_bool, isi_int_tuple, isi_int_str, isi_int_int, isi_int_bool, isi_bool_tuple, isi_bool_str, isi_bool_int, isi_bool_bool, isi_NoneType_tuple, isi_NoneType_str, isi_NoneType_int, isi_NoneType_bool, q_F_F, q_F_P, q_F_Q, q_F_Z, q_P_F, q_P_P, q_P_Q, q_P_Z, q_Q_F, q_Q_P, q_Q_Q, q_Q_Z, q_R_F, q_R_P, q_R_Q, q_R_Z, q_Z_F, q_Z_P, q_Z_Q, q_Z_Z, L_called, hs, okIf_t, h, trimX_self]
theorem class_domain {k i : Nat} {S : Store} {args : D} (h : callF P k 11 [.fn i, args] S = .err ⟨1, none⟩ S) : callF P (k + 1) 12 [.fn i, args] S = .ok (.ref S.length) (S ++ [.lst [.str "domain", .bl true]]) := by
  rw [callF_of (f := L_class) rfl rfl]
  have i0 : P.isSub 1 (.own 0) = some true := rfl
  have i1 : P.isSub 1 (.own 1) = some true := rfl
  have i2 : P.isSub 1 (.own 2) = some false := rfl
  have i3 : P.isSub 1 (.own 3) = some false := rfl
  have iv : P.isSub 1 (.ty "ValueError") = some true := rfl
  simp (disch := omega) only [Int.natCast_zero, Int.natCast_one, Int.cast_ofNat_Int, Int.reduceEq, Int.reduceLT, Int.reduceLE, decide_true, decide_false, List.length_cons, List.length_nil, List.set_set, List.map_cons, List.map_nil, List.replicate_zero, List.replicate_succ, List.cons_append, List.nil_append, List.getElem?_cons_zero, List.getElem?_cons_succ, List.set_cons_zero, List.set_cons_succ, Nat.reduceSub, Nat.reduceAdd, Bool.not_true, Bool.not_false, wipeE, bnd_ok, bnd_err, bnd_bad, on_ok, on_err, on_bad, sel_true, sel_false, slotR_val, fnR_fn, isR_val, negR_int, notR_bl, blSel_bl, optR_int, augR_val, thn_next, thn_ret, thn_err, thn_brk, thn_cont, again_next, again_cont, again_brk, again_ret, again_err, ctch_next, ctch_ret, ctch_err, fin_ret, fin_next, fin_err, okIf_t, e_slot, e_lit, e_globP, e_tup, e_lst, e_bin, e_neg, e_not, e_and, e_or, e_cmp, e_cmp2, e_ite, e_call, e_callv, e_bi, e_bic, e_isi, e_isiS, e_mth, e_ix, e_sl, e_rev, e_lc, o_none, o_some, es_nil, es_cons, b_val, b_not, b_and, b_or, b_yes, c_mk, i_seq, i_range1, i_range2, i_range3, i_enum, t_slot, t_tup, t_ix, ts_nil, ts_cons, s_asg, s_par, s_aug, s_for, s_while, s_if, s_ret, s_retN, s_expr, s_raise, s_try, s_brk, s_cont, s_pass, ss_nil, ss_cons, bin_add, bin_sub, bin_addS, bin_addT, bin_addL, bin_mulL, aug_add, aug_sub, eqS_int, eqS_bl, c_eq, c_ne, c_lt, c_le, c_gt, c_ge, c_isN, c_isntN, bi_one, bi_two, bi1_int, bi1_bl, bi1_str, bi1_tup, bi1_ref, bi2_int, biI_int, biB_int, biI_abs, biT_len, biT_tuple, biT_list, biL_len, biL_tuple, biL_list, biL_sum, biL_any, biL_all, biII_max, biII_min, truth_bl, truth_int, truth_tup, truth_non, seq_tup, ix_ref, ix_tup, sl_tup, sl_ref, set_ref, mt_app, it_tup, it_ref, it_r1, it_r2, noerr_err, atI_0, atI_1, atI_2, atI_3, atI_l, bin_modp, bin_divp, bin_mulp, ixN_40, ixN_41, ixN_42, ixN_43, isR_excP, pow_10_18, atI_cast, List.length_map, Res.noerr_ok, Res.noerr_bad, ofO_some, isi_tuple_tuple, isi_tuple_str, isi_tuple_int, isi_tuple_bool, isi_str_tuple, isi_str_str, isi_str_int, isi_str_bool, isi_int_tuple, isi_int_str, isi_int_int, isi_int_bool, isi_bool_tuple, isi_bool_str, isi_bool_int, isi_bool_bool, isi_NoneType_tuple, isi_NoneType_str, isi_NoneType_int, isi_NoneType_bool, q_F_F, q_F_P, q_F_Q, q_F_Z, q_P_F, q_P_P, q_P_Q, q_P_Z, q_Q_F, q_Q_P, q_Q_Q, q_Q_Z, q_R_F, q_R_P, q_R_Q, q_R_Z, q_Z_F, q_Z_P, q_Z_Q, q_Z_Z, L_class, h]
  rw [h_yes (C := P.ctx k) i1]
  simp (disch := omega) only [Int.natCast_zero, Int.natCast_one, Int.cast_ofNat_Int, Int.reduceEq, Int.reduceLT, Int.reduceLE, decide_true, decide_false, List.length_cons, List.length_nil, List.set_set, List.map_cons, List.map_nil, List.replicate_zero, List.replicate_succ, List.cons_append, List.nil_append, List.getElem?_cons_zero, List.getElem?_cons_succ, List.set_cons_zero, List.set_cons_succ, Nat.reduceSub, Nat.reduceAdd, Bool.not_true, Bool.not_false, wipeE, bnd_ok, bnd_err, bnd_bad, on_ok, on_err, on_bad, sel_true, sel_false, slotR_val, fnR_fn, isR_val, negR_int, notR_bl, blSel_bl, optR_int, augR_val, thn_next, thn_ret, thn_err, thn_brk, thn_cont, again_next, again_cont, again_brk, again_ret, again_err, ctch_next, ctch_ret, ctch_err, fin_ret, fin_next, fin_err, okIf_t, e_slot, e_lit, e_globP, e_tup, e_lst, e_bin, e_neg, e_not, e_and, e_or, e_cmp, e_cmp2, e_ite, e_call, e_callv, e_bi, e_bic, e_isi, e_isiS, e_mth, e_ix, e_sl, e_rev, e_lc, o_none, o_some, es_nil, es_cons, b_val, b_not, b_and, b_or, b_yes, c_mk, i_seq, i_range1, i_range2, i_range3, i_enum, t_slot, t_tup, t_ix, ts_nil, ts_cons, s_asg, s_par, s_aug, s_for, s_while, s_if, s_ret, s_retN, s_expr, s_raise, s_try, s_brk, s_cont, s_pass, ss_nil, ss_cons, bin_add, bin_sub, bin_addS, bin_addT, bin_addL, bin_mulL, aug_add, aug_sub, eqS_int, eqS_bl, c_eq, c_ne, c_lt, c_le, c_gt, c_ge, c_isN, c_isntN, bi_one, bi_two, bi1_int, bi1_bl, bi1_str, bi1_tup, bi1_ref, bi2_int, biI_int, biB_int, biI_abs, biT_len, biT_tuple, biT_list, biL_len, biL_tuple, biL_list, biL_sum, biL_any, biL_all, biII_max, biII_min, truth_bl, truth_int, truth_tup, truth_non, seq_tup, ix_ref, ix_tup, sl_tup, sl_ref, set_ref, mt_app, it_tup, it_ref, it_r1, it_r2, noerr_err, atI_0, atI_1, atI_2, atI_3, atI_l, bin_modp, bin_divp, bin_mulp, ixN_40, ixN_41, ixN_42, ixN_43, isR_excP, pow_10_18, atI_cast, List.length_map, Res.noerr_ok, Res.noerr_bad, ofO_some, isi_tuple_tuple, isi_tuple_str, isi_tuple_int, isi_tuple_bool, isi_str_tuple, isi_str_str, isi_str_int, isi_str_bool, isi_int_tuple, isi_int_str, isi_int_int, isi_int_bool, isi_bool_tuple, isi_bool_str, isi_bool_int, isi_bool_bool, isi_NoneType_tuple, isi_NoneType_str, isi_NoneType_int, isi_NoneType_bool, q_F_F, q_F_P, q_F_Q, q_F_Z, q_P_F, q_P_P, q_P_Q, q_P_Z, q_Q_F, q_Q_P, q_Q_Q, q_Q_Z, q_R_F, q_R_P, q_R_Q, q_R_Z, q_Z_F, q_Z_P, q_Z_Q, q_Z_Z, i0, i2, i3, iv, leave_ret, trim_ref]
theorem class_shape {k i : Nat} {S : Store} {args : D} (h : callF P k 11 [.fn i, args] S = .err ⟨2, none⟩ S) : callF P (k + 1) 12 [.fn i, args] S = .ok (.ref S.length) (S ++ [.lst [.str "shape", .bl true]]) := by
  rw [callF_of (f := L_class) rfl rfl]
  have i0 : P.isSub 2 (.own 0) = some true := rfl
  have i1 : P.isSub 2 (.own 1) = some false := rfl
  have i2 : P.isSub 2 (.own 2) = some true := rfl
  have i3 : P.isSub 2 (.own 3) = some false := rfl
  have iv : P.isSub 2 (.ty "ValueError") = some true := rfl
  simp (disch := omega) only [Int.natCast_zero, Int.natCast_one, Int.cast_ofNat_Int, Int.reduceEq, Int.reduceLT, Int.reduceLE, decide_true, decide_false, List.length_cons, List.length_nil, List.set_set, List.map_cons, List.map_nil, List.replicate_zero, List.replicate_succ, List.cons_append, List.nil_append, List.getElem?_cons_zero, List.getElem?_cons_succ, List.set_cons_zero, List.set_cons_succ, Nat.reduceSub, Nat.reduceAdd, Bool.not_true, Bool.not_false, wipeE, bnd_ok, bnd_err, bnd_bad, on_ok, on_err, on_bad, sel_true, sel_false, slotR_val, fnR_fn, isR_val, negR_int, notR_bl, blSel_bl, optR_int, augR_val, thn_next, thn_ret, thn_err, thn_brk, thn_cont, again_next, again_cont, again_brk, again_ret, again_err, ctch_next, ctch_ret, ctch_err, fin_ret, fin_next, fin_err, okIf_t, e_slot, e_lit, e_globP, e_tup, e_lst, e_bin, e_neg, e_not, e_and, e_or, e_cmp, e_cmp2, e_ite, e_call, e_callv, e_bi, e_bic, e_isi, e_isiS, e_mth, e_ix, e_sl, e_rev, e_lc, o_none, o_some, es_nil, es_cons, b_val, b_not, b_and, b_or, b_yes, c_mk, i_seq, i_range1, i_range2, i_range3, i_enum, t_slot, t_tup, t_ix, ts_nil, ts_cons, s_asg, s_par, s_aug, s_for, s_while, s_if, s_ret, s_retN, s_expr, s_raise, s_try, s_brk, s_cont, s_pass, ss_nil, ss_cons, bin_add, bin_sub, bin_addS, bin_addT, bin_addL, bin_mulL, aug_add, aug_sub, eqS_int, eqS_bl, c_eq, c_ne, c_lt, c_le, c_gt, c_ge, c_isN, c_isntN, bi_one, bi_two, bi1_int, bi1_bl, bi1_str, bi1_tup, bi1_ref, bi2_int, biI_int, biB_int, biI_abs, biT_len, biT_tuple, biT_list, biL_len, biL_tuple, biL_list, biL_sum, biL_any, biL_all, biII_max, biII_min, truth_bl, truth_int, truth_tup, truth_non, seq_tup, ix_ref, ix_tup, sl_tup, sl_ref, set_ref, mt_app, it_tup, it_ref, it_r1, it_r2, noerr_err, atI_0, atI_1, atI_2, atI_3, atI_l, bin_modp, bin_divp, bin_mulp, ixN_40, ixN_41, ixN_42, ixN_43, isR_excP, pow_10_18, atI_cast, List.length_map, Res.noerr_ok, Res.noerr_bad, ofO_some, isi_tuple_tuple, isi_tuple_str, isi_tuple_int, isi_tuple_bool, isi_str_tuple, isi_str_str, isi_str_int, isi_str_bool, isi_int_tuple, isi_int_str, isi_int_int, isi_int_bool, isi_bool_tuple, isi_bool_str, isi_bool_int, isi_bool_bool, isi_NoneType_tuple, isi_NoneType_str, isi_NoneType_int, isi_NoneType_bool, q_F_F, q_F_P, q_F_Q, q_F_Z, q_P_F, q_P_P, q_P_Q, q_P_Z, q_Q_F, q_Q_P, q_Q_Q, q_Q_Z, q_R_F, q_R_P, q_R_Q, q_R_Z, q_Z_F, q_Z_P, q_Z_Q, q_Z_Z, L_class, h]
  rw [h_no (C := P.ctx k) i1, h_yes (C := P.ctx k) i2]
  simp (disch := omega) only [Int.natCast_zero, Int.natCast_one, Int.cast_ofNat_Int, Int.reduceEq, Int.reduceLT, Int.reduceLE, decide_true, decide_false, List.length_cons, List.length_nil, List.set_set, List.map_cons, List.map_nil, List.replicate_zero, List.replicate_succ, List.cons_append, List.nil_append, List.getElem?_cons_zero, List.getElem?_cons_succ, List.set_cons_zero, List.set_cons_succ, Nat.reduceSub, Nat.reduceAdd, Bool.not_true, Bool.not_false, wipeE, bnd_ok, bnd_err, bnd_bad, on_ok, on_err, on_bad, sel_true, sel_false, slotR_val, fnR_fn, isR_val, negR_int, notR_bl, blSel_bl, optR_int, augR_val, thn_next, thn_ret, thn_err, thn_brk, thn_cont, again_next, again_cont, again_brk, again_ret, again_err, ctch_next, ctch_ret, ctch_err, fin_ret, fin_next, fin_err, okIf_t, e_slot, e_lit, e_globP, e_tup, e_lst, e_bin, e_neg, e_not, e_and, e_or, e_cmp, e_cmp2, e_ite, e_call, e_callv, e_bi, e_bic, e_isi, e_isiS, e_mth, e_ix, e_sl, e_rev, e_lc, o_none, o_some, es_nil, es_cons, b_val, b_not, b_and, b_or, b_yes, c_mk, i_seq, i_range1, i_range2, i_range3, i_enum, t_slot, t_tup, t_ix, ts_nil, ts_cons, s_asg, s_par, s_aug, s_for, s_while, s_if, s_ret, s_retN, s_expr, s_raise, s_try, s_brk, s_cont, s_pass, ss_nil, ss_cons, bin_add, bin_sub, bin_addS, bin_addT, bin_addL, bin_mulL, aug_add, aug_sub, eqS_int, eqS_bl, c_eq, c_ne, c_lt, c_le, c_gt, c_ge, c_isN, c_isntN, bi_one, bi_two, bi1_int, bi1_bl, bi1_str, bi1_tup, bi1_ref, bi2_int, biI_int, biB_int, biI_abs, biT_len, biT_tuple, biT_list, biL_len, biL_tuple, biL_list, biL_sum, biL_any, biL_all, biII_max, biII_min, truth_bl, truth_int, truth_tup, truth_non, seq_tup, ix_ref, ix_tup, sl_tup, sl_ref, set_ref, mt_app, it_tup, it_ref, it_r1, it_r2, noerr_err, atI_0, atI_1, atI_2, atI_3, atI_l, bin_modp, bin_divp, bin_mulp, ixN_40, ixN_41, ixN_42, ixN_43, isR_excP, pow_10_18, atI_cast, List.length_map, Res.noerr_ok, Res.noerr_bad, ofO_some, isi_tuple_tuple, isi_tuple_str, isi_tuple_int, isi_tuple_bool, isi_str_tuple, isi_str_str, isi_str_int, isi_str_bool, isi_int_tuple, isi_int_str, isi_int_int, isi_int_bool, isi_bool_tuple, isi_bool_str, isi_bool_int, isi_bool_bool, isi_NoneType_tuple, isi_NoneType_str, isi_NoneType_int, isi_NoneType_bool, q_F_F, q_F_P, q_F_Q, q_F_Z, q_P_F, q_P_P, q_P_Q, q_P_Z, q_Q_F, q_Q_P, q_Q_Q, q_Q_Z, q_R_F, q_R_P, q_R_Q, q_R_Z, q_Z_F, q_Z_P, q_Z_Q, q_Z_Z, i0, i2, i3, iv, leave_ret, trim_ref]
/-! ### no fields -/
theorem int15 {k : Nat} {S : Store} {i : Int} : callF P (k + 1) 15 [.int i] S = .ok (.bl true) S := by
  rw [callF_of (f := F_is_integer) rfl rfl]
  simp (disch := omega) only [Int.natCast_zero, Int.natCast_one, Int.cast_ofNat_Int, Int.reduceEq, Int.reduceLT, Int.reduceLE, decide_true, decide_false, List.length_cons, List.length_nil, List.set_set, List.map_cons, List.map_nil, List.replicate_zero, List.replicate_succ, List.cons_append, List.nil_append, List.getElem?_cons_zero, List.getElem?_cons_succ, List.set_cons_zero, List.set_cons_succ, Nat.reduceSub, Nat.reduceAdd, Bool.not_true, Bool.not_false, wipeE, bnd_ok, bnd_err, bnd_bad, on_ok, on_err, on_bad, sel_true, sel_false, slotR_val, fnR_fn, isR_val, negR_int, notR_bl, blSel_bl, optR_int, augR_val, thn_next, thn_ret, thn_err, thn_brk, thn_cont, again_next, again_cont, again_brk, again_ret, again_err, ctch_next, ctch_ret, ctch_err, fin_ret, fin_next, fin_err, okIf_t, e_slot, e_lit, e_globP, e_tup, e_lst, e_bin, e_neg, e_not, e_and, e_or, e_cmp, e_cmp2, e_ite, e_call, e_callv, e_bi, e_bic, e_isi, e_isiS, e_mth, e_ix, e_sl, e_rev, e_lc, o_none, o_some, es_nil, es_cons, b_val, b_not, b_and, b_or, b_yes, c_mk, i_seq, i_range1, i_range2, i_range3, i_enum, t_slot, t_tup, t_ix, ts_nil, ts_cons, s_asg, s_par, s_aug, s_for, s_while, s_if, s_ret, s_retN, s_expr, s_raise, s_try, s_brk, s_cont, s_pass, ss_nil, ss_cons, bin_add, bin_sub, bin_addS, bin_addT, bin_addL, bin_mulL, aug_add, aug_sub, eqS_int, eqS_bl, c_eq, c_ne, c_lt, c_le, c_gt, c_ge, c_isN, c_isntN, bi_one, bi_two, bi1_int, bi1_bl, bi1_str, bi1_tup, bi1_ref, bi2_int, biI_int, biB_int, biI_abs, biT_len, biT_tuple, biT_list, biL_len, biL_tuple, biL_list, biL_sum, biL_any, biL_all, biII_max, biII_min, truth_bl, truth_int, truth_tup, truth_non, seq_tup, ix_ref, ix_tup, sl_tup, sl_ref, set_ref, mt_app, it_tup, it_ref, it_r1, it_r2, noerr_err, atI_0, atI_1, atI_2, atI_3, atI_l, bin_modp, bin_divp, bin_mulp, ixN_40, ixN_41, ixN_42, ixN_43, isR_excP, pow_10_18, atI_cast, List.length_map, Res.noerr_ok, Res.noerr_bad, ofO_some, isi_tuple_tuple, isi_tuple_str, isi_tuple_int, isi_tuple_bool, isi_str_tuple, isi_str_str, isi_str_int, isi_str_bool, isi_int_tuple, isi_int_str, isi_int_int, isi_int_bool, isi_bool_tuple, isi_bool_str, isi_bool_int, isi_bool_bool, isi_NoneType_tuple, isi_NoneType_str, isi_NoneType_int, isi_NoneType_bool, q_F_F, q_F_P, q_F_Q, q_F_Z, q_P_F, q_P_P, q_P_Q, q_P_Z, q_Q_F, q_Q_P, q_Q_Q, q_Q_Z, q_R_F, q_R_P, q_R_Q, q_R_Z, q_Z_F, q_Z_P, q_Z_Q, q_Z_Z, F_is_integer, isR_val, trim_self]
theorem bl15 {k : Nat} {S : Store} {i : Bool} : callF P (k + 1) 15 [.bl i] S = .ok (.bl false) S := by
  rw [callF_of (f := F_is_integer) rfl rfl]
  simp (disch := omega) only [Int.natCast_zero, Int.natCast_one, Int.cast_ofNat_Int, Int.reduceEq, Int.reduceLT, Int.reduceLE, decide_true, decide_false, List.length_cons, List.length_nil, List.set_set, List.map_cons, List.map_nil, List.replicate_zero, List.replicate_succ, List.cons_append, List.nil_append, List.getElem?_cons_zero, List.getElem?_cons_succ, List.set_cons_zero, List.set_cons_succ, Nat.reduceSub, Nat.reduceAdd, Bool.not_true, Bool.not_false, wipeE, bnd_ok, bnd_err, bnd_bad, on_ok, on_err, on_bad, sel_true, sel_false, slotR_val, fnR_fn, isR_val, negR_int, notR_bl, blSel_bl, optR_int, augR_val, thn_next, thn_ret, thn_err, thn_brk, thn_cont, again_next, again_cont, again_brk, again_ret, again_err, ctch_next, ctch_ret, ctch_err, fin_ret, fin_next, fin_err, okIf_t, e_slot, e_lit, e_globP, e_tup, e_lst, e_bin, e_neg, e_not, e_and, e_or, e_cmp, e_cmp2, e_ite, e_call, e_callv, e_bi, e_bic, e_isi, e_isiS, e_mth, e_ix, e_sl, e_rev, e_lc, o_none, o_some, es_nil, es_cons, b_val, b_not, b_and, b_or, b_yes, c_mk, i_seq, i_range1, i_range2, i_range3, i_enum, t_slot, t_tup, t_ix, ts_nil, ts_cons, s_asg, s_par, s_aug, s_for, s_while, s_if, s_ret, s_retN, s_expr, s_raise, s_try, s_brk, s_cont, s_pass, ss_nil, ss_cons, bin_add, bin_sub, bin_addS, bin_addT, bin_addL, bin_mulL, aug_add, aug_sub, eqS_int, eqS_bl, c_eq, c_ne, c_lt, c_le, c_gt, c_ge, c_isN, c_isntN, bi_one, bi_two, bi1_int, bi1_bl, bi1_str, bi1_tup, bi1_ref, bi2_int, biI_int, biB_int, biI_abs, biT_len, biT_tuple, biT_list, biL_len, biL_tuple, biL_list, biL_sum, biL_any, biL_all, biII_max, biII_min, truth_bl, truth_int, truth_tup, truth_non, seq_tup, ix_ref, ix_tup, sl_tup, sl_ref, set_ref, mt_app, it_tup, it_ref, it_r1, it_r2, noerr_err, atI_0, atI_1, atI_2, atI_3, atI_l, bin_modp, bin_divp, bin_mulp, ixN_40, ixN_41, ixN_42, ixN_43, isR_excP, pow_10_18, atI_cast, List.length_map, Res.noerr_ok, Res.noerr_bad, ofO_some, isi_tuple_tuple, isi_tuple_str, isi_tuple_int, isi_tuple_bool, isi_str_tuple, isi_str_str, isi_str_int, isi_str_bool, isi_int_tuple, isi_int_str, isi_int_int, isi_int_bool, isi_bool_tuple, isi_bool_str, isi_bool_int, isi_bool_bool, isi_NoneType_tuple, isi_NoneType_str, isi_NoneType_int, isi_NoneType_bool, q_F_F, q_F_P, q_F_Q, q_F_Z, q_P_F, q_P_P, q_P_Q, q_P_Z, q_Q_F, q_Q_P, q_Q_Q, q_Q_Z, q_R_F, q_R_P, q_R_Q, q_R_Z, q_Z_F, q_Z_P, q_Z_Q, q_Z_Z, F_is_integer, isR_val, trim_self]
theorem str15 {k : Nat} {S : Store} {i : Str} : callF P (k + 1) 15 [.str i] S = .ok (.bl false) S := by
  rw [callF_of (f := F_is_integer) rfl rfl]
  simp (disch := omega) only [Int.natCast_zero, Int.natCast_one, Int.cast_ofNat_Int, Int.reduceEq, Int.reduceLT, Int.reduceLE, decide_true, decide_false, List.length_cons, List.length_nil, List.set_set, List.map_cons, List.map_nil, List.replicate_zero, List.replicate_succ, List.cons_append, List.nil_append, List.getElem?_cons_zero, List.getElem?_cons_succ, List.set_cons_zero, List.set_cons_succ, Nat.reduceSub, Nat.reduceAdd, Bool.not_true, Bool.not_false, wipeE, bnd_ok, bnd_err, bnd_bad, on_ok, on_err, on_bad, sel_true, sel_false, slotR_val, fnR_fn, isR_val, negR_int, notR_bl, blSel_bl, optR_int, augR_val, thn_next, thn_ret, thn_err, thn_brk, thn_cont, again_next, again_cont, again_brk, again_ret, again_err, ctch_next, ctch_ret, ctch_err, fin_ret, fin_next, fin_err, okIf_t, e_slot, e_lit, e_globP, e_tup, e_lst, e_bin, e_neg, e_not, e_and, e_or, e_cmp, e_cmp2, e_ite, e_call, e_callv, e_bi, e_bic, e_isi, e_isiS, e_mth, e_ix, e_sl, e_rev, e_lc, o_none, o_some, es_nil, es_cons, b_val, b_not, b_and, b_or, b_yes, c_mk, i_seq, i_range1, i_range2, i_range3, i_enum, t_slot, t_tup, t_ix, ts_nil, ts_cons, s_asg, s_par, s_aug, s_for, s_while, s_if, s_ret, s_retN, s_expr, s_raise, s_try, s_brk, s_cont, s_pass, ss_nil, ss_cons, bin_add, bin_sub, bin_addS, bin_addT, bin_addL, bin_mulL, aug_add, aug_sub, eqS_int, eqS_bl, c_eq, c_ne, c_lt, c_le, c_gt, c_ge, c_isN, c_isntN, bi_one, bi_two, bi1_int, bi1_bl, bi1_str, bi1_tup, bi1_ref, bi2_int, biI_int, biB_int, biI_abs, biT_len, biT_tuple, biT_list, biL_len, biL_tuple, biL_list, biL_sum, biL_any, biL_all, biII_max, biII_min, truth_bl, truth_int, truth_tup, truth_non, seq_tup, ix_ref, ix_tup, sl_tup, sl_ref, set_ref, mt_app, it_tup, it_ref, it_r1, it_r2, noerr_err, atI_0, atI_1, atI_2, atI_3, atI_l, bin_modp, bin_divp, bin_mulp, ixN_40, ixN_41, ixN_42, ixN_43, isR_excP, pow_10_18, atI_cast, List.length_map, Res.noerr_ok, Res.noerr_bad, ofO_some, isi_tuple_tuple, isi_tuple_str, isi_tuple_int, isi_tuple_bool, isi_str_tuple, isi_str_str, isi_str_int, isi_str_bool, isi_int_tuple, isi_int_str, isi_int_int, isi_int_bool, isi_bool_tuple, isi_bool_str, isi_bool_int, isi_bool_bool, isi_NoneType_tuple, isi_NoneType_str, isi_NoneType_int, isi_NoneType_bool, q_F_F, q_F_P, q_F_Q, q_F_Z, q_P_F, q_P_P, q_P_Q, q_P_Z, q_Q_F, q_Q_P, q_Q_Q, q_Q_Z, q_R_F, q_R_P, q_R_Q, q_R_Z, q_Z_F, q_Z_P, q_Z_Q, q_Z_Z, F_is_integer, isR_val, trim_self]
theorem np4 {k : Nat} {S : Store} : callF P (k + 1) 16 [.int 4] S = .ok (.bl false) S := by
  rw [callF_of (f := F_is_prime) rfl rfl]
  simp (disch := omega) only [Int.natCast_zero, Int.natCast_one, Int.cast_ofNat_Int, Int.reduceEq, Int.reduceLT, Int.reduceLE, decide_true, decide_false, List.length_cons, List.length_nil, List.set_set, List.map_cons, List.map_nil, List.replicate_zero, List.replicate_succ, List.cons_append, List.nil_append, List.getElem?_cons_zero, List.getElem?_cons_succ, List.set_cons_zero, List.set_cons_succ, Nat.reduceSub, Nat.reduceAdd, Bool.not_true, Bool.not_false, wipeE, bnd_ok, bnd_err, bnd_bad, on_ok, on_err, on_bad, sel_true, sel_false, slotR_val, fnR_fn, isR_val, negR_int, notR_bl, blSel_bl, optR_int, augR_val, thn_next, thn_ret, thn_err, thn_brk, thn_cont, again_next, again_cont, again_brk, again_ret, again_err, ctch_next, ctch_ret, ctch_err, fin_ret, fin_next, fin_err, okIf_t, e_slot, e_lit, e_globP, e_tup, e_lst, e_bin, e_neg, e_not, e_and, e_or, e_cmp, e_cmp2, e_ite, e_call, e_callv, e_bi, e_bic, e_isi, e_isiS, e_mth, e_ix, e_sl, e_rev, e_lc, o_none, o_some, es_nil, es_cons, b_val, b_not, b_and, b_or, b_yes, c_mk, i_seq, i_range1, i_range2, i_range3, i_enum, t_slot, t_tup, t_ix, ts_nil, ts_cons, s_asg, s_par, s_aug, s_for, s_while, s_if, s_ret, s_retN, s_expr, s_raise, s_try, s_brk, s_cont, s_pass, ss_nil, ss_cons, bin_add, bin_sub, bin_addS, bin_addT, bin_addL, bin_mulL, aug_add, aug_sub, eqS_int, eqS_bl, c_eq, c_ne, c_lt, c_le, c_gt, c_ge, c_isN, c_isntN, bi_one, bi_two, bi1_int, bi1_bl, bi1_str, bi1_tup, bi1_ref, bi2_int, biI_int, biB_int, biI_abs, biT_len, biT_tuple, biT_list, biL_len, biL_tuple, biL_list, biL_sum, biL_any, biL_all, biII_max, biII_min, truth_bl, truth_int, truth_tup, truth_non, seq_tup, ix_ref, ix_tup, sl_tup, sl_ref, set_ref, mt_app, it_tup, it_ref, it_r1, it_r2, noerr_err, atI_0, atI_1, atI_2, atI_3, atI_l, bin_modp, bin_divp, bin_mulp, ixN_40, ixN_41, ixN_42, ixN_43, isR_excP, pow_10_18, atI_cast, List.length_map, Res.noerr_ok, Res.noerr_bad, ofO_some, isi_tuple_tuple, isi_tuple_str, isi_tuple_int, isi_tuple_bool, isi_str_tuple, isi_str_str, isi_str_int, isi_str_bool, isi_int_tuple, isi_int_str, isi_int_int, isi_int_bool, isi_bool_tuple, isi_bool_str, isi_bool_int, isi_bool_bool, isi_NoneType_tuple, isi_NoneType_str, isi_NoneType_int, isi_NoneType_bool, q_F_F, q_F_P, q_F_Q, q_F_Z, q_P_F, q_P_P, q_P_Q, q_P_Z, q_Q_F, q_Q_P, q_Q_Q, q_Q_Z, q_R_F, q_R_P, q_R_Q, q_R_Z, q_Z_F, q_Z_P, q_Z_Q, q_Z_Z, F_is_prime, trim_self, Int.reduceMod]
theorem np9 {k : Nat} {S : Store} : callF P (k + 1) 16 [.int 9] S = .ok (.bl false) S := by
  rw [callF_of (f := F_is_prime) rfl rfl]
  simp (disch := omega) only [Int.natCast_zero, Int.natCast_one, Int.cast_ofNat_Int, Int.reduceEq, Int.reduceLT, Int.reduceLE, decide_true, decide_false, List.length_cons, List.length_nil, List.set_set, List.map_cons, List.map_nil, List.replicate_zero, List.replicate_succ, List.cons_append, List.nil_append, List.getElem?_cons_zero, List.getElem?_cons_succ, List.set_cons_zero, List.set_cons_succ, Nat.reduceSub, Nat.reduceAdd, Bool.not_true, Bool.not_false, wipeE, bnd_ok, bnd_err, bnd_bad, on_ok, on_err, on_bad, sel_true, sel_false, slotR_val, fnR_fn, isR_val, negR_int, notR_bl, blSel_bl, optR_int, augR_val, thn_next, thn_ret, thn_err, thn_brk, thn_cont, again_next, again_cont, again_brk, again_ret, again_err, ctch_next, ctch_ret, ctch_err, fin_ret, fin_next, fin_err, okIf_t, e_slot, e_lit, e_globP, e_tup, e_lst, e_bin, e_neg, e_not, e_and, e_or, e_cmp, e_cmp2, e_ite, e_call, e_callv, e_bi, e_bic, e_isi, e_isiS, e_mth, e_ix, e_sl, e_rev, e_lc, o_none, o_some, es_nil, es_cons, b_val, b_not, b_and, b_or, b_yes, c_mk, i_seq, i_range1, i_range2, i_range3, i_enum, t_slot, t_tup, t_ix, ts_nil, ts_cons, s_asg, s_par, s_aug, s_for, s_while, s_if, s_ret, s_retN, s_expr, s_raise, s_try, s_brk, s_cont, s_pass, ss_nil, ss_cons, bin_add, bin_sub, bin_addS, bin_addT, bin_addL, bin_mulL, aug_add, aug_sub, eqS_int, eqS_bl, c_eq, c_ne, c_lt, c_le, c_gt, c_ge, c_isN, c_isntN, bi_one, bi_two, bi1_int, bi1_bl, bi1_str, bi1_tup, bi1_ref, bi2_int, biI_int, biB_int, biI_abs, biT_len, biT_tuple, biT_list, biL_len, biL_tuple, biL_list, biL_sum, biL_any, biL_all, biII_max, biII_min, truth_bl, truth_int, truth_tup, truth_non, seq_tup, ix_ref, ix_tup, sl_tup, sl_ref, set_ref, mt_app, it_tup, it_ref, it_r1, it_r2, noerr_err, atI_0, atI_1, atI_2, atI_3, atI_l, bin_modp, bin_divp, bin_mulp, ixN_40, ixN_41, ixN_42, ixN_43, isR_excP, pow_10_18, atI_cast, List.length_map, Res.noerr_ok, Res.noerr_bad, ofO_some, isi_tuple_tuple, isi_tuple_str, isi_tuple_int, isi_tuple_bool, isi_str_tuple, isi_str_str, isi_str_int, isi_str_bool, isi_int_tuple, isi_int_str, isi_int_int, isi_int_bool, isi_bool_tuple, isi_bool_str, isi_bool_int, isi_bool_bool, isi_NoneType_tuple, isi_NoneType_str, isi_NoneType_int, isi_NoneType_bool, q_F_F, q_F_P, q_F_Q, q_F_Z, q_P_F, q_P_P, q_P_Q, q_P_Z, q_Q_F, q_Q_P, q_Q_Q, q_Q_Z, q_R_F, q_R_P, q_R_Q, q_R_Z, q_Z_F, q_Z_P, q_Z_Q, q_Z_Z, F_is_prime, Int.reduceMod]
  rw [loopG_eq]
  simp (disch := omega) only [Int.natCast_zero, Int.natCast_one, Int.cast_ofNat_Int, Int.reduceEq, Int.reduceLT, Int.reduceLE, decide_true, decide_false, List.length_cons, List.length_nil, List.set_set, List.map_cons, List.map_nil, List.replicate_zero, List.replicate_succ, List.cons_append, List.nil_append, List.getElem?_cons_zero, List.getElem?_cons_succ, List.set_cons_zero, List.set_cons_succ, Nat.reduceSub, Nat.reduceAdd, Bool.not_true, Bool.not_false, wipeE, bnd_ok, bnd_err, bnd_bad, on_ok, on_err, on_bad, sel_true, sel_false, slotR_val, fnR_fn, isR_val, negR_int, notR_bl, blSel_bl, optR_int, augR_val, thn_next, thn_ret, thn_err, thn_brk, thn_cont, again_next, again_cont, again_brk, again_ret, again_err, ctch_next, ctch_ret, ctch_err, fin_ret, fin_next, fin_err, okIf_t, e_slot, e_lit, e_globP, e_tup, e_lst, e_bin, e_neg, e_not, e_and, e_or, e_cmp, e_cmp2, e_ite, e_call, e_callv, e_bi, e_bic, e_isi, e_isiS, e_mth, e_ix, e_sl, e_rev, e_lc, o_none, o_some, es_nil, es_cons, b_val, b_not, b_and, b_or, b_yes, c_mk, i_seq, i_range1, i_range2, i_range3, i_enum, t_slot, t_tup, t_ix, ts_nil, ts_cons, s_asg, s_par, s_aug, s_for, s_while, s_if, s_ret, s_retN, s_expr, s_raise, s_try, s_brk, s_cont, s_pass, ss_nil, ss_cons, bin_add, bin_sub, bin_addS, bin_addT, bin_addL, bin_mulL, aug_add, aug_sub, eqS_int, eqS_bl, c_eq, c_ne, c_lt, c_le, c_gt, c_ge, c_isN, c_isntN, bi_one, bi_two, bi1_int, bi1_bl, bi1_str, bi1_tup, bi1_ref, bi2_int, biI_int, biB_int, biI_abs, biT_len, biT_tuple, biT_list, biL_len, biL_tuple, biL_list, biL_sum, biL_any, biL_all, biII_max, biII_min, truth_bl, truth_int, truth_tup, truth_non, seq_tup, ix_ref, ix_tup, sl_tup, sl_ref, set_ref, mt_app, it_tup, it_ref, it_r1, it_r2, noerr_err, atI_0, atI_1, atI_2, atI_3, atI_l, bin_modp, bin_divp, bin_mulp, ixN_40, ixN_41, ixN_42, ixN_43, isR_excP, pow_10_18, atI_cast, List.length_map, Res.noerr_ok, Res.noerr_bad, ofO_some, isi_tuple_tuple, isi_tuple_str, isi_tuple_int, isi_tuple_bool, isi_str_tuple, isi_str_str, isi_str_int, isi_str_bool, isi_int_tuple, isi_int_str, isi_int_int, isi_int_bool, isi_bool_tuple, isi_bool_str, isi_bool_int, isi_bool_bool, isi_NoneType_tuple, isi_NoneType_str, isi_NoneType_int, isi_NoneType_bool, q_F_F, q_F_P, q_F_Q, q_F_Z, q_P_F, q_P_P, q_P_Q, q_P_Z, q_Q_F, q_Q_P, q_Q_Q, q_Q_Z, q_R_F, q_R_P, q_R_Q, q_R_Z, q_Z_F, q_Z_P, q_Z_Q, q_Z_Z, Int.reduceMod, Int.reduceMul, trim_self]
theorem np561 {k : Nat} {S : Store} : callF P (k + 1) 16 [.int 561] S = .ok (.bl false) S := by
  rw [callF_of (f := F_is_prime) rfl rfl]
  simp (disch := omega) only [Int.natCast_zero, Int.natCast_one, Int.cast_ofNat_Int, Int.reduceEq, Int.reduceLT, Int.reduceLE, decide_true, decide_false, List.length_cons, List.length_nil, List.set_set, List.map_cons, List.map_nil, List.replicate_zero, List.replicate_succ, List.cons_append, List.nil_append, List.getElem?_cons_zero, List.getElem?_cons_succ, List.set_cons_zero, List.set_cons_succ, Nat.reduceSub, Nat.reduceAdd, Bool.not_true, Bool.not_false, wipeE, bnd_ok, bnd_err, bnd_bad, on_ok, on_err, on_bad, sel_true, sel_false, slotR_val, fnR_fn, isR_val, negR_int, notR_bl, blSel_bl, optR_int, augR_val, thn_next, thn_ret, thn_err, thn_brk, thn_cont, again_next, again_cont, again_brk, again_ret, again_err, ctch_next, ctch_ret, ctch_err, fin_ret, fin_next, fin_err, okIf_t, e_slot, e_lit, e_globP, e_tup, e_lst, e_bin, e_neg, e_not, e_and, e_or, e_cmp, e_cmp2, e_ite, e_call, e_callv, e_bi, e_bic, e_isi, e_isiS, e_mth, e_ix, e_sl, e_rev, e_lc, o_none, o_some, es_nil, es_cons, b_val, b_not, b_and, b_or, b_yes, c_mk, i_seq, i_range1, i_range2, i_range3, i_enum, t_slot, t_tup, t_ix, ts_nil, ts_cons, s_asg, s_par, s_aug, s_for, s_while, s_if, s_ret, s_retN, s_expr, s_raise, s_try, s_brk, s_cont, s_pass, ss_nil, ss_cons, bin_add, bin_sub, bin_addS, bin_addT, bin_addL, bin_mulL, aug_add, aug_sub, eqS_int, eqS_bl, c_eq, c_ne, c_lt, c_le, c_gt, c_ge, c_isN, c_isntN, bi_one, bi_two, bi1_int, bi1_bl, bi1_str, bi1_tup, bi1_ref, bi2_int, biI_int, biB_int, biI_abs, biT_len, biT_tuple, biT_list, biL_len, biL_tuple, biL_list, biL_sum, biL_any, biL_all, biII_max, biII_min, truth_bl, truth_int, truth_tup, truth_non, seq_tup, ix_ref, ix_tup, sl_tup, sl_ref, set_ref, mt_app, it_tup, it_ref, it_r1, it_r2, noerr_err, atI_0, atI_1, atI_2, atI_3, atI_l, bin_modp, bin_divp, bin_mulp, ixN_40, ixN_41, ixN_42, ixN_43, isR_excP, pow_10_18, atI_cast, List.length_map, Res.noerr_ok, Res.noerr_bad, ofO_some, isi_tuple_tuple, isi_tuple_str, isi_tuple_int, isi_tuple_bool, isi_str_tuple, isi_str_str, isi_str_int, isi_str_bool, isi_int_tuple, isi_int_str, isi_int_int, isi_int_bool, isi_bool_tuple, isi_bool_str, isi_bool_int, isi_bool_bool, isi_NoneType_tuple, isi_NoneType_str, isi_NoneType_int, isi_NoneType_bool, q_F_F, q_F_P, q_F_Q, q_F_Z, q_P_F, q_P_P, q_P_Q, q_P_Z, q_Q_F, q_Q_P, q_Q_Q, q_Q_Z, q_R_F, q_R_P, q_R_Q, q_R_Z, q_Z_F, q_Z_P, q_Z_Q, q_Z_Z, F_is_prime, Int.reduceMod]
  rw [loopG_eq]
  simp (disch := omega) only [Int.natCast_zero, Int.natCast_one, Int.cast_ofNat_Int, Int.reduceEq, Int.reduceLT, Int.reduceLE, decide_true, decide_false, List.length_cons, List.length_nil, List.set_set, List.map_cons, List.map_nil, List.replicate_zero, List.replicate_succ, List.cons_append, List.nil_append, List.getElem?_cons_zero, List.getElem?_cons_succ, List.set_cons_zero, List.set_cons_succ, Nat.reduceSub, Nat.reduceAdd, Bool.not_true, Bool.not_false, wipeE, bnd_ok, bnd_err, bnd_bad, on_ok, on_err, on_bad, sel_true, sel_false, slotR_val, fnR_fn, isR_val, negR_int, notR_bl, blSel_bl, optR_int, augR_val, thn_next, thn_ret, thn_err, thn_brk, thn_cont, again_next, again_cont, again_brk, again_ret, again_err, ctch_next, ctch_ret, ctch_err, fin_ret, fin_next, fin_err, okIf_t, e_slot, e_lit, e_globP, e_tup, e_lst, e_bin, e_neg, e_not, e_and, e_or, e_cmp, e_cmp2, e_ite, e_call, e_callv, e_bi, e_bic, e_isi, e_isiS, e_mth, e_ix, e_sl, e_rev, e_lc, o_none, o_some, es_nil, es_cons, b_val, b_not, b_and, b_or, b_yes, c_mk, i_seq, i_range1, i_range2, i_range3, i_enum, t_slot, t_tup, t_ix, ts_nil, ts_cons, s_asg, s_par, s_aug, s_for, s_while, s_if, s_ret, s_retN, s_expr, s_raise, s_try, s_brk, s_cont, s_pass, ss_nil, ss_cons, bin_add, bin_sub, bin_addS, bin_addT, bin_addL, bin_mulL, aug_add, aug_sub, eqS_int, eqS_bl, c_eq, c_ne, c_lt, c_le, c_gt, c_ge, c_isN, c_isntN, bi_one, bi_two, bi1_int, bi1_bl, bi1_str, bi1_tup, bi1_ref, bi2_int, biI_int, biB_int, biI_abs, biT_len, biT_tuple, biT_list, biL_len, biL_tuple, biL_list, biL_sum, biL_any, biL_all, biII_max, biII_min, truth_bl, truth_int, truth_tup, truth_non, seq_tup, ix_ref, ix_tup, sl_tup, sl_ref, set_ref, mt_app, it_tup, it_ref, it_r1, it_r2, noerr_err, atI_0, atI_1, atI_2, atI_3, atI_l, bin_modp, bin_divp, bin_mulp, ixN_40, ixN_41, ixN_42, ixN_43, isR_excP, pow_10_18, atI_cast, List.length_map, Res.noerr_ok, Res.noerr_bad, ofO_some, isi_tuple_tuple, isi_tuple_str, isi_tuple_int, isi_tuple_bool, isi_str_tuple, isi_str_str, isi_str_int, isi_str_bool, isi_int_tuple, isi_int_str, isi_int_int, isi_int_bool, isi_bool_tuple, isi_bool_str, isi_bool_int, isi_bool_bool, isi_NoneType_tuple, isi_NoneType_str, isi_NoneType_int, isi_NoneType_bool, q_F_F, q_F_P, q_F_Q, q_F_Z, q_P_F, q_P_P, q_P_Q, q_P_Z, q_Q_F, q_Q_P, q_Q_Q, q_Q_Z, q_R_F, q_R_P, q_R_Q, q_R_Z, q_Z_F, q_Z_P, q_Z_Q, q_Z_Z, Int.reduceMod, Int.reduceMul, trim_self]
def noDoms : List D := [.tup [.str "R"], .tup [.str "F", .int 4], .tup [.str "F", .int 1], .tup [.str "F", .int 0], .tup [.str "F", .int 65537], .tup [.str "F", .int 561], .tup [.str "F", .int (0 - 3)], .tup [.str "F"], .tup [.str "F", .bl true], .tup [.str "F", .str "2"], .tup [],
  .tup [.str "Z", .int 1], .tup [.str "Q", .int 1], .tup [.str "P"], .tup [.str "P", .tup [.str "Z"]], .tup [.str "P", .tup [.str "P", .tup [.str "Q"]]], .tup [.str "P", .tup [.str "F", .int 9]], .str "Z", .non, .int 7, .bl true, .str "ZZ"]
theorem notF_Z : NotF (.tup [.str "Z"]) := fun k S => by
  rw [callF_of (f := F_is_field) rfl rfl]
  simp (disch := omega) only [Int.natCast_zero, Int.natCast_one, Int.cast_ofNat_Int, Int.reduceEq, Int.reduceLT, Int.reduceLE, decide_true, decide_false, List.length_cons, List.length_nil, List.set_set, List.map_cons, List.map_nil, List.replicate_zero, List.replicate_succ, List.cons_append, List.nil_append, List.getElem?_cons_zero, List.getElem?_cons_succ, List.set_cons_zero, List.set_cons_succ, Nat.reduceSub, Nat.reduceAdd, Bool.not_true, Bool.not_false, wipeE, bnd_ok, bnd_err, bnd_bad, on_ok, on_err, on_bad, sel_true, sel_false, slotR_val, fnR_fn, isR_val, negR_int, notR_bl, blSel_bl, optR_int, augR_val, thn_next, thn_ret, thn_err, thn_brk, thn_cont, again_next, again_cont, again_brk, again_ret, again_err, ctch_next, ctch_ret, ctch_err, fin_ret, fin_next, fin_err, okIf_t, e_slot, e_lit, e_globP, e_tup, e_lst, e_bin, e_neg, e_not, e_and, e_or, e_cmp, e_cmp2, e_ite, e_call, e_callv, e_bi, e_bic, e_isi, e_isiS, e_mth, e_ix, e_sl, e_rev, e_lc, o_none, o_some, es_nil, es_cons, b_val, b_not, b_and, b_or, b_yes, c_mk, i_seq, i_range1, i_range2, i_range3, i_enum, t_slot, t_tup, t_ix, ts_nil, ts_cons, s_asg, s_par, s_aug, s_for, s_while, s_if, s_ret, s_retN, s_expr, s_raise, s_try, s_brk, s_cont, s_pass, ss_nil, ss_cons, bin_add, bin_sub, bin_addS, bin_addT, bin_addL, bin_mulL, aug_add, aug_sub, eqS_int, eqS_bl, c_eq, c_ne, c_lt, c_le, c_gt, c_ge, c_isN, c_isntN, bi_one, bi_two, bi1_int, bi1_bl, bi1_str, bi1_tup, bi1_ref, bi2_int, biI_int, biB_int, biI_abs, biT_len, biT_tuple, biT_list, biL_len, biL_tuple, biL_list, biL_sum, biL_any, biL_all, biII_max, biII_min, truth_bl, truth_int, truth_tup, truth_non, seq_tup, ix_ref, ix_tup, sl_tup, sl_ref, set_ref, mt_app, it_tup, it_ref, it_r1, it_r2, noerr_err, atI_0, atI_1, atI_2, atI_3, atI_l, bin_modp, bin_divp, bin_mulp, ixN_40, ixN_41, ixN_42, ixN_43, isR_excP, pow_10_18, atI_cast, List.length_map, Res.noerr_ok, Res.noerr_bad, ofO_some, isi_tuple_tuple, isi_tuple_str, isi_tuple_int, isi_tuple_bool, isi_str_tuple, isi_str_str, isi_str_int, isi_str_bool, isi_int_tuple, isi_int_str, isi_int_int, isi_int_bool, isi_bool_tuple, isi_bool_str, isi_bool_int, isi_bool_bool, isi_NoneType_tuple, isi_NoneType_str, isi_NoneType_int, isi_NoneType_bool, q_F_F, q_F_P, q_F_Q, q_F_Z, q_P_F, q_P_P, q_P_Q, q_P_Z, q_Q_F, q_Q_P, q_Q_Q, q_Q_Z, q_R_F, q_R_P, q_R_Q, q_R_Z, q_Z_F, q_Z_P, q_Z_Q, q_Z_Z, F_is_field, isR_val, trim_self]
theorem notF_P {f : D} : NotF (.tup [.str "P", f]) := fun k S => by
  rw [callF_of (f := F_is_field) rfl rfl]
  simp (disch := omega) only [Int.natCast_zero, Int.natCast_one, Int.cast_ofNat_Int, Int.reduceEq, Int.reduceLT, Int.reduceLE, decide_true, decide_false, List.length_cons, List.length_nil, List.set_set, List.map_cons, List.map_nil, List.replicate_zero, List.replicate_succ, List.cons_append, List.nil_append, List.getElem?_cons_zero, List.getElem?_cons_succ, List.set_cons_zero, List.set_cons_succ, Nat.reduceSub, Nat.reduceAdd, Bool.not_true, Bool.not_false, wipeE, bnd_ok, bnd_err, bnd_bad, on_ok, on_err, on_bad, sel_true, sel_false, slotR_val, fnR_fn, isR_val, negR_int, notR_bl, blSel_bl, optR_int, augR_val, thn_next, thn_ret, thn_err, thn_brk, thn_cont, again_next, again_cont, again_brk, again_ret, again_err, ctch_next, ctch_ret, ctch_err, fin_ret, fin_next, fin_err, okIf_t, e_slot, e_lit, e_globP, e_tup, e_lst, e_bin, e_neg, e_not, e_and, e_or, e_cmp, e_cmp2, e_ite, e_call, e_callv, e_bi, e_bic, e_isi, e_isiS, e_mth, e_ix, e_sl, e_rev, e_lc, o_none, o_some, es_nil, es_cons, b_val, b_not, b_and, b_or, b_yes, c_mk, i_seq, i_range1, i_range2, i_range3, i_enum, t_slot, t_tup, t_ix, ts_nil, ts_cons, s_asg, s_par, s_aug, s_for, s_while, s_if, s_ret, s_retN, s_expr, s_raise, s_try, s_brk, s_cont, s_pass, ss_nil, ss_cons, bin_add, bin_sub, bin_addS, bin_addT, bin_addL, bin_mulL, aug_add, aug_sub, eqS_int, eqS_bl, c_eq, c_ne, c_lt, c_le, c_gt, c_ge, c_isN, c_isntN, bi_one, bi_two, bi1_int, bi1_bl, bi1_str, bi1_tup, bi1_ref, bi2_int, biI_int, biB_int, biI_abs, biT_len, biT_tuple, biT_list, biL_len, biL_tuple, biL_list, biL_sum, biL_any, biL_all, biII_max, biII_min, truth_bl, truth_int, truth_tup, truth_non, seq_tup, ix_ref, ix_tup, sl_tup, sl_ref, set_ref, mt_app, it_tup, it_ref, it_r1, it_r2, noerr_err, atI_0, atI_1, atI_2, atI_3, atI_l, bin_modp, bin_divp, bin_mulp, ixN_40, ixN_41, ixN_42, ixN_43, isR_excP, pow_10_18, atI_cast, List.length_map, Res.noerr_ok, Res.noerr_bad, ofO_some, isi_tuple_tuple, isi_tuple_str, isi_tuple_int, isi_tuple_bool, isi_str_tuple, isi_str_str, isi_str_int, isi_str_bool, isi_int_tuple, isi_int_str, isi_int_int, isi_int_bool, isi_bool_tuple, isi_bool_str, isi_bool_int, isi_bool_bool, isi_NoneType_tuple, isi_NoneType_str, isi_NoneType_int, isi_NoneType_bool, q_F_F, q_F_P, q_F_Q, q_F_Z, q_P_F, q_P_P, q_P_Q, q_P_Z, q_Q_F, q_Q_P, q_Q_Q, q_Q_Z, q_R_F, q_R_P, q_R_Q, q_R_Z, q_Z_F, q_Z_P, q_Z_Q, q_Z_Z, F_is_field, isR_val, trim_self]
theorem noDoms_no : ∀ v ∈ noDoms, NotF v := by
  intro v hv k S
  simp only [noDoms, List.mem_cons, List.not_mem_nil, or_false] at hv
  rcases hv with rfl | rfl | rfl | rfl | rfl | rfl | rfl | rfl | rfl | rfl | rfl | rfl | rfl | rfl | rfl | rfl | rfl | rfl | rfl | rfl | rfl | rfl
  all_goals rw [callF_of (f := F_is_field) rfl rfl]
  all_goals (simp (disch := omega) only [Int.natCast_zero, Int.natCast_one, Int.cast_ofNat_Int, Int.reduceEq, Int.reduceLT, Int.reduceLE, decide_true, decide_false, List.length_cons, List.length_nil, List.set_set, List.map_cons, List.map_nil, List.replicate_zero, List.replicate_succ, List.cons_append, List.nil_append, List.getElem?_cons_zero, List.getElem?_cons_succ, List.set_cons_zero, List.set_cons_succ, Nat.reduceSub, Nat.reduceAdd, Bool.not_true, Bool.not_false, wipeE, bnd_ok, bnd_err, bnd_bad, on_ok, on_err, on_bad, sel_true, sel_false, slotR_val, fnR_fn, isR_val, negR_int, notR_bl, blSel_bl, optR_int, augR_val, thn_next, thn_ret, thn_err, thn_brk, thn_cont, again_next, again_cont, again_brk, again_ret, again_err, ctch_next, ctch_ret, ctch_err, fin_ret, fin_next, fin_err, okIf_t, e_slot, e_lit, e_globP, e_tup, e_lst, e_bin, e_neg, e_not, e_and, e_or, e_cmp, e_cmp2, e_ite, e_call, e_callv, e_bi, e_bic, e_isi, e_isiS, e_mth, e_ix, e_sl, e_rev, e_lc, o_none, o_some, es_nil, es_cons, b_val, b_not, b_and, b_or, b_yes, c_mk, i_seq, i_range1, i_range2, i_range3, i_enum, t_slot, t_tup, t_ix, ts_nil, ts_cons, s_asg, s_par, s_aug, s_for, s_while, s_if, s_ret, s_retN, s_expr, s_raise, s_try, s_brk, s_cont, s_pass, ss_nil, ss_cons, bin_add, bin_sub, bin_addS, bin_addT, bin_addL, bin_mulL, aug_add, aug_sub, eqS_int, eqS_bl, c_eq, c_ne, c_lt, c_le, c_gt, c_ge, c_isN, c_isntN, bi_one, bi_two, bi1_int, bi1_bl, bi1_str, bi1_tup, bi1_ref, bi2_int, biI_int, biB_int, biI_abs, biT_len, biT_tuple, biT_list, biL_len, biL_tuple, biL_list, biL_sum, biL_any, biL_all, biII_max, biII_min, truth_bl, truth_int, truth_tup, truth_non, seq_tup, ix_ref, ix_tup, sl_tup, sl_ref, set_ref, mt_app, it_tup, it_ref, it_r1, it_r2, noerr_err, atI_0, atI_1, atI_2, atI_3, atI_l, bin_modp, bin_divp, bin_mulp, ixN_40, ixN_41, ixN_42, ixN_43, isR_excP, pow_10_18, atI_cast, List.length_map, Res.noerr_ok, Res.noerr_bad, ofO_some, isi_tuple_tuple, isi_tuple_str, isi_tuple_int, isi_tuple_bool, isi_str_tuple, isi_str_str, isi_str_int, isi_str_bool, isi_int_tuple, isi_int_str, isi_int_int, isi_int_bool, isi_bool_tuple, isi_bool_str, isi_bool_int, isi_bool_bool, isi_NoneType_tuple, isi_NoneType_str, isi_NoneType_int, isi_NoneType_bool, q_F_F, q_F_P, q_F_Q, q_F_Z, q_P_F, q_P_P, q_P_Q, q_P_Z, q_Q_F, q_Q_P, q_Q_Q, q_Q_Z, q_R_F, q_R_P, q_R_Q, q_R_Z, q_Z_F, q_Z_P, q_Z_Q, q_Z_Z, F_is_field, isR_val, trim_self, int15, bl15, str15, np4, np561, lf.g0, Int.reduceSub])
theorem noDoms_pure : ∀ v ∈ noDoms, v.pure = true := by
  intro v hv
  simp only [noDoms, List.mem_cons, List.not_mem_nil, or_false] at hv
  rcases hv with rfl | rfl | rfl | rfl | rfl | rfl | rfl | rfl | rfl | rfl | rfl | rfl | rfl | rfl | rfl | rfl | rfl | rfl | rfl | rfl | rfl | rfl
  all_goals simp [D.pure, D.pures]
theorem add2 {S : Store} {a b : List D} (h : a.length + b.length ≤ sizeLine) : binop .Add (.ref S.length) (.ref (S ++ [Cell.lst a]).length) (S ++ [Cell.lst a] ++ [Cell.lst b]) = .ok (.ref (S ++ [Cell.lst a] ++ [Cell.lst b]).length) (S ++ [Cell.lst a] ++ [Cell.lst b] ++ [Cell.lst (a ++ b)]) := by
  have e1 : lstOf (S ++ [Cell.lst a] ++ [Cell.lst b]) S.length = some a := lst_lst (by rw [List.append_assoc, List.getElem?_append_right (Nat.le_refl _), Nat.sub_self]; rfl)
  rw [bin_addL, e1, ofO_some, lst_app_self, ofO_some]
  unfold okIf
  rw [if_pos h]
theorem no_domain_spec {k : Nat} {S : Store} {c l0 T : Nat} (dr : Dr c l0 T S) (hT : T ≤ 900000) : ∃ v S', callF P (k + 3) 42 [.ref c] S = .ok v S' ∧ NotF v ∧ v.pure = true ∧ Dr c l0 (T + 1) S' ∧ Ext c S S' := by
  rw [callF_of (f := L_no_domain) rfl rfl]
  let A : List D := [.tup [.str "R"], .tup [.str "F", .int 4], .tup [.str "F", .int 1], .tup [.str "F", .int 0], .tup [.str "F", .int 65537], .tup [.str "F", .int 561], .tup [.str "F", .int (0 - 3)], .tup [.str "F"], .tup [.str "F", .bl true], .tup [.str "F", .str "2"], .tup []]
  let B : List D := [.tup [.str "Z", .int 1], .tup [.str "Q", .int 1], .tup [.str "P"], .tup [.str "P", .tup [.str "Z"]], .tup [.str "P", .tup [.str "P", .tup [.str "Q"]]], .tup [.str "P", .tup [.str "F", .int 9]], .str "Z", .non, .int 7, .bl true, .str "ZZ"]
  have ea := add2 (S := S) (a := A) (b := B) (by decide)
  have hAB : A ++ B = noDoms := rfl
  rw [hAB] at ea
  let S3 : Store := S ++ [.lst A] ++ [.lst B] ++ [.lst noDoms]
  have dr3 : Dr c l0 T S3 := ((dr.app _).app _).app _
  obtain ⟨d, S4, e1, b1, b2, dr4, ex4⟩ := take_spec (k := k) (many := 22) (P := P) lw.h1 lw.h2 dr3 (by omega) (by omega) (by omega)
  have ex : Ext c S S4 := ((Ext.app _).trans ((Ext.app _).trans (Ext.app _))).trans ex4
  have hne : (S ++ [Cell.lst A] ++ [Cell.lst B]).length ≠ c := by have := dr.lt.1; simp; omega
  have hs4 : seqOf S4 (.ref (S ++ [Cell.lst A] ++ [Cell.lst B]).length) = some noDoms := seq_lst (ex4.at hne (by show (S ++ [Cell.lst A] ++ [Cell.lst B] ++ [.lst noDoms])[_]? = _; rw [List.getElem?_append_right (Nat.le_refl _), Nat.sub_self]; rfl))
  have hs3 : seqOf S3 (.ref (S ++ [Cell.lst A] ++ [Cell.lst B]).length) = some noDoms := seq_app_self
  have hl : noDoms.length = 22 := rfl
  have hi : ∃ v, L2.atI noDoms d = some v ∧ v ∈ noDoms := by
    rw [atI_of b1]
    have : d.toNat < noDoms.length := by rw [hl]; omega
    exact ⟨_, List.getElem?_eq_getElem this, List.getElem_mem this⟩
  obtain ⟨v, hi, hm⟩ := hi
  simp only [A, B, S3] at ea e1 hs3 hs4
  simp (disch := omega) only [Int.natCast_zero, Int.natCast_one, Int.cast_ofNat_Int, Int.reduceEq, Int.reduceLT, Int.reduceLE, decide_true, decide_false, List.length_cons, List.length_nil, List.set_set, List.map_cons, List.map_nil, List.replicate_zero, List.replicate_succ, List.cons_append, List.nil_append, List.getElem?_cons_zero, List.getElem?_cons_succ, List.set_cons_zero, List.set_cons_succ, Nat.reduceSub, Nat.reduceAdd, Bool.not_true, Bool.not_false, wipeE, bnd_ok, bnd_err, bnd_bad, on_ok, on_err, on_bad, sel_true, sel_false, slotR_val, fnR_fn, isR_val, negR_int, notR_bl, blSel_bl, optR_int, augR_val, thn_next, thn_ret, thn_err, thn_brk, thn_cont, again_next, again_cont, again_brk, again_ret, again_err, ctch_next, ctch_ret, ctch_err, fin_ret, fin_next, fin_err, okIf_t, e_slot, e_lit, e_globP, e_tup, e_lst, e_bin, e_neg, e_not, e_and, e_or, e_cmp, e_cmp2, e_ite, e_call, e_callv, e_bi, e_bic, e_isi, e_isiS, e_mth, e_ix, e_sl, e_rev, e_lc, o_none, o_some, es_nil, es_cons, b_val, b_not, b_and, b_or, b_yes, c_mk, i_seq, i_range1, i_range2, i_range3, i_enum, t_slot, t_tup, t_ix, ts_nil, ts_cons, s_asg, s_par, s_aug, s_for, s_while, s_if, s_ret, s_retN, s_expr, s_raise, s_try, s_brk, s_cont, s_pass, ss_nil, ss_cons, bin_add, bin_sub, bin_addS, bin_addT, bin_addL, bin_mulL, aug_add, aug_sub, eqS_int, eqS_bl, c_eq, c_ne, c_lt, c_le, c_gt, c_ge, c_isN, c_isntN, bi_one, bi_two, bi1_int, bi1_bl, bi1_str, bi1_tup, bi1_ref, bi2_int, biI_int, biB_int, biI_abs, biT_len, biT_tuple, biT_list, biL_len, biL_tuple, biL_list, biL_sum, biL_any, biL_all, biII_max, biII_min, truth_bl, truth_int, truth_tup, truth_non, seq_tup, ix_ref, ix_tup, sl_tup, sl_ref, set_ref, mt_app, it_tup, it_ref, it_r1, it_r2, noerr_err, atI_0, atI_1, atI_2, atI_3, atI_l, bin_modp, bin_divp, bin_mulp, ixN_40, ixN_41, ixN_42, ixN_43, isR_excP, pow_10_18, atI_cast, List.length_map, Res.noerr_ok, Res.noerr_bad, ofO_some, isi_tuple_tuple, isi_tuple_str, isi_tuple_int, isi_tuple_bool, isi_str_tuple, isi_str_str, isi_str_int, isi_str_bool, isi_int_tuple, isi_int_str, isi_int_int, isi_int_bool, isi_bool_tuple, isi_bool_str, isi_bool_int, isi_bool_bool, isi_NoneType_tuple, isi_NoneType_str, isi_NoneType_int, isi_NoneType_bool, q_F_F, q_F_P, q_F_Q, q_F_Z, q_P_F, q_P_P, q_P_Q, q_P_Z, q_Q_F, q_Q_P, q_Q_Q, q_Q_Z, q_R_F, q_R_P, q_R_Q, q_R_Z, q_Z_F, q_Z_P, q_Z_Q, q_Z_Z, L_no_domain, ea, hs3, hl, e1, hs4, hi]
  exact ⟨v, _, rfl, noDoms_no v hm, noDoms_pure v hm, (Dr.trim dr.lt dr4 ex (noDoms_pure v hm)).1, (Dr.trim dr.lt dr4 ex (noDoms_pure v hm)).2⟩
/-! ### all rows -/
def RowOk (due : Str) (row : D) : Prop := ∃ (i : Nat) (args : D), row = .tup [.fn i, args] ∧ ∀ (k : Nat) (S : Store), callF P (k + 10) 12 [.fn i, args] S = .ok (.ref S.length) (S ++ [Cell.lst [.str due, .bl true]])
theorem eqS_due {S : Store} {p q : Nat} {x : Str} (hx : PyData.strOk x = true) (h1 : S[p]? = some (.lst [.str x, .bl true])) (h2 : S[q]? = some (.lst [.str x, .bl true])) : eqS S (.ref p) (.ref q) = some true := by
  have u : ∀ r : Nat, S[r]? = some (.lst [.str x, .bl true]) → D.py S 70 (.ref r) = some (.list [.str x, .bool true]) := fun r h => by
    unfold D.py
    simp only [h]
    rfl
  have sh : SeqAt.shaped (.list [.str x, .bool true]) = true := by
    unfold SeqAt.shaped PyData.canLay0 PyData.canLayAll0 PyData.canLay0 PyData.canLayAll0 PyData.canLay0 PyData.canLayAll0
    rw [hx]
    rfl
  rw [eqS_of (u p h1) (u q h2) sh sh]
  simp [PyData.eqv, PyData.eqvAll]
theorem all_gen {k p : Nat} {l : List D} {S0 : Store} {due : Str} (hd : PyData.strOk due = true) (hp : S0[p]? = some (.lst l)) : ∀ (ds : List D) (X : Store), (∀ d ∈ ds, RowOk due d) →
    ∃ X', genG (P.ctx (k + 10)) [2] (CT.slot 2) CB.yes (CE.cmp .Eq (CE.call 12 (CEs.cons (CE.ix (CE.slot 2) (CE.lit (D.int 0))) (CEs.cons (CE.ix (CE.slot 2) (CE.lit (D.int 1))) CEs.nil))) (CE.lst (CEs.cons (CE.slot 1) (CEs.cons (CE.lit (D.bl true)) CEs.nil)))) [.val (.ref p), .val (.str due), .no] ⟨some (p, l), l⟩ ds (S0 ++ X) = .ok (ds.map fun _ => .bl true) (S0 ++ X')
  | [], X, _ => ⟨X, genG_nil (show seqOf (S0 ++ X) (.ref p) = some l from seq_lst (by rw [List.getElem?_append_left (List.getElem?_eq_some_iff.mp hp).1]; exact hp))⟩
  | d :: ds, X, h => by
    obtain ⟨i, args, rfl, e⟩ := h d List.mem_cons_self
    have e := e k (S0 ++ X)
    let X1 : Store := X ++ [Cell.lst [.str due, .bl true]] ++ [Cell.lst [.str due, .bl true]]
    obtain ⟨X', e2⟩ := all_gen (k := k) hd hp ds X1 fun x hx => h x (List.mem_cons_of_mem _ hx)
    refine ⟨X', ?_⟩
    have st : (EV.It.mk (some (p, l)) l).still (S0 ++ X) := show seqOf (S0 ++ X) (.ref p) = some l from seq_lst (by rw [List.getElem?_append_left (List.getElem?_eq_some_iff.mp hp).1]; exact hp)
    rw [genG_cons st]
    have q : eqS (S0 ++ X ++ [Cell.lst [.str due, .bl true]] ++ [Cell.lst [.str due, .bl true]]) (.ref (S0 ++ X).length) (.ref (S0 ++ X ++ [Cell.lst [.str due, .bl true]]).length) = some true :=
      eqS_due hd (by rw [List.append_assoc, List.getElem?_append_right (Nat.le_refl _), Nat.sub_self]; rfl) (by rw [List.getElem?_append_right (Nat.le_refl _), Nat.sub_self]; rfl)
    have el : eltG (P.ctx (k + 10)) [2] (CT.slot 2) CB.yes (CE.cmp .Eq (CE.call 12 (CEs.cons (CE.ix (CE.slot 2) (CE.lit (D.int 0))) (CEs.cons (CE.ix (CE.slot 2) (CE.lit (D.int 1))) CEs.nil))) (CE.lst (CEs.cons (CE.slot 1) (CEs.cons (CE.lit (D.bl true)) CEs.nil)))) [.val (.ref p), .val (.str due), .no] (.tup [.fn i, args]) (S0 ++ X) = .ok (some (.bl true)) (S0 ++ X1) := by
      unfold eltG
      simp (disch := omega) only [Int.natCast_zero, Int.natCast_one, Int.cast_ofNat_Int, Int.reduceEq, Int.reduceLT, Int.reduceLE, decide_true, decide_false, List.length_cons, List.length_nil, List.set_set, List.map_cons, List.map_nil, List.replicate_zero, List.replicate_succ, List.cons_append, List.nil_append, List.getElem?_cons_zero, List.getElem?_cons_succ, List.set_cons_zero, List.set_cons_succ, Nat.reduceSub, Nat.reduceAdd, Bool.not_true, Bool.not_false, wipeE, bnd_ok, bnd_err, bnd_bad, on_ok, on_err, on_bad, sel_true, sel_false, slotR_val, fnR_fn, isR_val, negR_int, notR_bl, blSel_bl, optR_int, augR_val, thn_next, thn_ret, thn_err, thn_brk, thn_cont, again_next, again_cont, again_brk, again_ret, again_err, ctch_next, ctch_ret, ctch_err, fin_ret, fin_next, fin_err, okIf_t, e_slot, e_lit, e_globP, e_tup, e_lst, e_bin, e_neg, e_not, e_and, e_or, e_cmp, e_cmp2, e_ite, e_call, e_callv, e_bi, e_bic, e_isi, e_isiS, e_mth, e_ix, e_sl, e_rev, e_lc, o_none, o_some, es_nil, es_cons, b_val, b_not, b_and, b_or, b_yes, c_mk, i_seq, i_range1, i_range2, i_range3, i_enum, t_slot, t_tup, t_ix, ts_nil, ts_cons, s_asg, s_par, s_aug, s_for, s_while, s_if, s_ret, s_retN, s_expr, s_raise, s_try, s_brk, s_cont, s_pass, ss_nil, ss_cons, bin_add, bin_sub, bin_addS, bin_addT, bin_addL, bin_mulL, aug_add, aug_sub, eqS_int, eqS_bl, c_eq, c_ne, c_lt, c_le, c_gt, c_ge, c_isN, c_isntN, bi_one, bi_two, bi1_int, bi1_bl, bi1_str, bi1_tup, bi1_ref, bi2_int, biI_int, biB_int, biI_abs, biT_len, biT_tuple, biT_list, biL_len, biL_tuple, biL_list, biL_sum, biL_any, biL_all, biII_max, biII_min, truth_bl, truth_int, truth_tup, truth_non, seq_tup, ix_ref, ix_tup, sl_tup, sl_ref, set_ref, mt_app, it_tup, it_ref, it_r1, it_r2, noerr_err, atI_0, atI_1, atI_2, atI_3, atI_l, bin_modp, bin_divp, bin_mulp, ixN_40, ixN_41, ixN_42, ixN_43, isR_excP, pow_10_18, atI_cast, List.length_map, Res.noerr_ok, Res.noerr_bad, ofO_some, isi_tuple_tuple, isi_tuple_str, isi_tuple_int, isi_tuple_bool, isi_str_tuple, isi_str_str, isi_str_int, isi_str_bool, isi_int_tuple, isi_int_str, isi_int_int, isi_int_bool, isi_bool_tuple, isi_bool_str, isi_bool_int, isi_bool_bool, isi_NoneType_tuple, isi_NoneType_str, isi_NoneType_int, isi_NoneType_bool, q_F_F, q_F_P, q_F_Q, q_F_Z, q_P_F, q_P_P, q_P_Q, q_P_Z, q_Q_F, q_Q_P, q_Q_Q, q_Q_Z, q_R_F, q_R_P, q_R_Q, q_R_Z, q_Z_F, q_Z_P, q_Z_Q, q_Z_Z, e, q]
      simp only [X1, List.append_assoc]
    rw [el, bnd_ok, e2, bnd_ok]
    rfl
theorem bools_true : ∀ l : List D, boolsD (l.map fun _ => D.bl true) = some (l.map fun _ => true)
  | [] => rfl
  | d :: l => by rw [List.map_cons]; unfold boolsD; rw [bools_true l]; rfl
theorem all_spec {k p : Nat} {l : List D} {S : Store} {due : Str} (hd : PyData.strOk due = true) (hp : S[p]? = some (.lst l)) (hl : l.length ≤ 1000) (h : ∀ d ∈ l, RowOk due d) : ∃ S', callF P (k + 11) 13 [.ref p, .str due] S = .ok (.bl true) S' := by
  rw [callF_of (f := L_all) rfl rfl]
  obtain ⟨X', e⟩ := all_gen (k := k) hd hp l [] h
  rw [List.append_nil] at e
  have hs : (l.length ≤ sizeLine) = True := eq_true (Nat.le_trans hl (by decide))
  have ha : (l.map fun _ => true).all id = true := by simp
  simp (disch := omega) only [Int.natCast_zero, Int.natCast_one, Int.cast_ofNat_Int, Int.reduceEq, Int.reduceLT, Int.reduceLE, decide_true, decide_false, List.length_cons, List.length_nil, List.set_set, List.map_cons, List.map_nil, List.replicate_zero, List.replicate_succ, List.cons_append, List.nil_append, List.getElem?_cons_zero, List.getElem?_cons_succ, List.set_cons_zero, List.set_cons_succ, Nat.reduceSub, Nat.reduceAdd, Bool.not_true, Bool.not_false, wipeE, bnd_ok, bnd_err, bnd_bad, on_ok, on_err, on_bad, sel_true, sel_false, slotR_val, fnR_fn, isR_val, negR_int, notR_bl, blSel_bl, optR_int, augR_val, thn_next, thn_ret, thn_err, thn_brk, thn_cont, again_next, again_cont, again_brk, again_ret, again_err, ctch_next, ctch_ret, ctch_err, fin_ret, fin_next, fin_err, okIf_t, e_slot, e_lit, e_globP, e_tup, e_lst, e_bin, e_neg, e_not, e_and, e_or, e_cmp, e_cmp2, e_ite, e_call, e_callv, e_bi, e_bic, e_isi, e_isiS, e_mth, e_ix, e_sl, e_rev, e_lc, o_none, o_some, es_nil, es_cons, b_val, b_not, b_and, b_or, b_yes, c_mk, i_seq, i_range1, i_range2, i_range3, i_enum, t_slot, t_tup, t_ix, ts_nil, ts_cons, s_asg, s_par, s_aug, s_for, s_while, s_if, s_ret, s_retN, s_expr, s_raise, s_try, s_brk, s_cont, s_pass, ss_nil, ss_cons, bin_add, bin_sub, bin_addS, bin_addT, bin_addL, bin_mulL, aug_add, aug_sub, eqS_int, eqS_bl, c_eq, c_ne, c_lt, c_le, c_gt, c_ge, c_isN, c_isntN, bi_one, bi_two, bi1_int, bi1_bl, bi1_str, bi1_tup, bi1_ref, bi2_int, biI_int, biB_int, biI_abs, biT_len, biT_tuple, biT_list, biL_len, biL_tuple, biL_list, biL_sum, biL_any, biL_all, biII_max, biII_min, truth_bl, truth_int, truth_tup, truth_non, seq_tup, ix_ref, ix_tup, sl_tup, sl_ref, set_ref, mt_app, it_tup, it_ref, it_r1, it_r2, noerr_err, atI_0, atI_1, atI_2, atI_3, atI_l, bin_modp, bin_divp, bin_mulp, ixN_40, ixN_41, ixN_42, ixN_43, isR_excP, pow_10_18, atI_cast, List.length_map, Res.noerr_ok, Res.noerr_bad, ofO_some, isi_tuple_tuple, isi_tuple_str, isi_tuple_int, isi_tuple_bool, isi_str_tuple, isi_str_str, isi_str_int, isi_str_bool, isi_int_tuple, isi_int_str, isi_int_int, isi_int_bool, isi_bool_tuple, isi_bool_str, isi_bool_int, isi_bool_bool, isi_NoneType_tuple, isi_NoneType_str, isi_NoneType_int, isi_NoneType_bool, q_F_F, q_F_P, q_F_Q, q_F_Z, q_P_F, q_P_P, q_P_Q, q_P_Z, q_Q_F, q_Q_P, q_Q_Q, q_Q_Z, q_R_F, q_R_P, q_R_Q, q_R_Z, q_Z_F, q_Z_P, q_Z_Q, q_Z_Z, L_all, seq_lst hp, okIf_t, hs, e, bools_true, ha]
  exact ⟨_, rfl⟩
/-! ### the rows -/
theorem row_d2 {i : Nat} {d a : D} (hs : (P.fns i).isSome = true) (h : ∀ (k : Nat) (S : Store), callF P (k + 8) i [d, a] S = .err ⟨1, none⟩ S) : RowOk "domain" (.tup [.fn i, .tup [d, a]]) := ⟨i, _, rfl, fun k S => class_domain (k := k + 9) (called2 (k := k + 8) hs (h k S))⟩
theorem row_d3 {i : Nat} {d a b : D} (hs : (P.fns i).isSome = true) (h : ∀ (k : Nat) (S : Store), callF P (k + 8) i [d, a, b] S = .err ⟨1, none⟩ S) : RowOk "domain" (.tup [.fn i, .tup [d, a, b]]) := ⟨i, _, rfl, fun k S => class_domain (k := k + 9) (called3 (k := k + 8) hs (h k S))⟩
theorem row_s2 {i : Nat} {d a : D} (hs : (P.fns i).isSome = true) (h : ∀ (k : Nat) (S : Store), callF P (k + 8) i [d, a] S = .err ⟨2, none⟩ S) : RowOk "shape" (.tup [.fn i, .tup [d, a]]) := ⟨i, _, rfl, fun k S => class_shape (k := k + 9) (called2 (k := k + 8) hs (h k S))⟩
theorem row_s3 {i : Nat} {d a b : D} (hs : (P.fns i).isSome = true) (h : ∀ (k : Nat) (S : Store), callF P (k + 8) i [d, a, b] S = .err ⟨2, none⟩ S) : RowOk "shape" (.tup [.fn i, .tup [d, a, b]]) := ⟨i, _, rfl, fun k S => class_shape (k := k + 9) (called3 (k := k + 8) hs (h k S))⟩
abbrev singles (d a : D) : List D := [.tup [.fn 21, .tup [d, a]], .tup [.fn 24, .tup [d, a]], .tup [.fn 25, .tup [d, a]], .tup [.fn 28, .tup [d, a]], .tup [.fn 30, .tup [d, a]], .tup [.fn 32, .tup [d, a]], .tup [.fn 35, .tup [d, a]], .tup [.fn 36, .tup [d, a]], .tup [.fn 37, .tup [d, a]]]
abbrev doubles (d a b v : D) : List D := [.tup [.fn 22, .tup [d, a, v]], .tup [.fn 26, .tup [d, a, v]], .tup [.fn 39, .tup [d, a, b]], .tup [.fn 40, .tup [d, a, b]]]
theorem singles_d {d a : D} (h : NotF d) : ∀ r ∈ singles d a, RowOk "domain" r := by
  intro r hr
  simp only [singles, List.mem_cons, List.not_mem_nil, or_false] at hr
  rcases hr with rfl | rfl | rfl | rfl | rfl | rfl | rfl | rfl | rfl
  · exact row_d2 rfl fun k S => d_21 (k := k + 4) h
  · exact row_d2 rfl fun k S => d_24 (k := k + 3) h
  · exact row_d2 rfl fun k S => d_25 (k := k + 3) h
  · exact row_d2 rfl fun k S => d_28 (k := k + 3) h
  · exact row_d2 rfl fun k S => d_30 (k := k + 3) h
  · exact row_d2 rfl fun k S => d_32 (k := k + 3) h
  · exact row_d2 rfl fun k S => d_35 (k := k + 4) h
  · exact row_d2 rfl fun k S => d_36 (k := k + 3) h
  · exact row_d2 rfl fun k S => d_37 (k := k + 1) h
theorem doubles_d {d a b v : D} (h : NotF d) : ∀ r ∈ doubles d a b v, RowOk "domain" r := by
  intro r hr
  simp only [doubles, List.mem_cons, List.not_mem_nil, or_false] at hr
  rcases hr with rfl | rfl | rfl | rfl
  · exact row_d3 rfl fun k S => d_22 (k := k + 4) h
  · exact row_d3 rfl fun k S => d_26 (k := k + 3) h
  · exact row_d3 rfl fun k S => d_39 (k := k + 4) h
  · exact row_d3 rfl fun k S => d_40 (k := k + 4) h
theorem singles_s {d r0 : D} {m n : Int} (h : IsF d) (hmn : m ≠ n) : ∀ r ∈ singles d (.tup [.int m, .int n, r0]), RowOk "shape" r := by
  intro r hr
  simp only [singles, List.mem_cons, List.not_mem_nil, or_false] at hr
  rcases hr with rfl | rfl | rfl | rfl | rfl | rfl | rfl | rfl | rfl
  · exact row_s2 rfl fun k S => s_21 (k := k + 4) h hmn
  · exact row_s2 rfl fun k S => s_24 (k := k + 3) h hmn
  · exact row_s2 rfl fun k S => s_25 (k := k + 3) h hmn
  · exact row_s2 rfl fun k S => s_28 (k := k + 3) h hmn
  · exact row_s2 rfl fun k S => s_30 (k := k + 3) h hmn
  · exact row_s2 rfl fun k S => s_32 (k := k + 3) h hmn
  · exact row_s2 rfl fun k S => s_35 (k := k + 4) h hmn
  · exact row_s2 rfl fun k S => s_36 (k := k + 3) h hmn
  · exact row_s2 rfl fun k S => s_37 (k := k + 1) h hmn
theorem doubles_s {d r0 b v : D} {m n : Int} (h : IsF d) (hmn : m ≠ n) : ∀ r ∈ doubles d (.tup [.int m, .int n, r0]) b v, RowOk "shape" r := by
  intro r hr
  simp only [doubles, List.mem_cons, List.not_mem_nil, or_false] at hr
  rcases hr with rfl | rfl | rfl | rfl
  · exact row_s3 rfl fun k S => s_22 (k := k + 4) h hmn
  · exact row_s3 rfl fun k S => s_26 (k := k + 3) h hmn
  · exact row_s3 rfl fun k S => s_39 (k := k + 4) h hmn
  · exact row_s3 rfl fun k S => s_40 (k := k + 4) h hmn
theorem single_spec {k : Nat} {S : Store} {d a : D} : callF P (k + 1) 38 [d, a] S = .ok (.ref (S.length + 1)) (S ++ [Cell.lst [.fn 21, .fn 24, .fn 25, .fn 28, .fn 30, .fn 32, .fn 35, .fn 36, .fn 37]] ++ [Cell.lst (singles d a)]) := by
  rw [callF_of (f := L_single) rfl rfl]
  let F : List D := [.fn 21, .fn 24, .fn 25, .fn 28, .fn 30, .fn 32, .fn 35, .fn 36, .fn 37]
  have g := genG_map (C := P.ctx k) (σ := [.val d, .val a, .val (.ref S.length), .no]) (vs := [3]) (t := CT.slot 3) (c := CB.yes) (e := CE.tup (CEs.cons (CE.slot 3) (CEs.cons (CE.tup (CEs.cons (CE.slot 0) (CEs.cons (CE.slot 1) CEs.nil))) CEs.nil))) (J := ⟨some (S.length, F), F⟩) (S := S ++ [Cell.lst F]) (g := fun x => .tup [x, .tup [d, a]]) (show seqOf (S ++ [Cell.lst F]) (.ref S.length) = some F from seq_app_self) (ds := F) fun x _ => by
    unfold eltG
    simp (disch := omega) only [Int.natCast_zero, Int.natCast_one, Int.cast_ofNat_Int, Int.reduceEq, Int.reduceLT, Int.reduceLE, decide_true, decide_false, List.length_cons, List.length_nil, List.set_set, List.map_cons, List.map_nil, List.replicate_zero, List.replicate_succ, List.cons_append, List.nil_append, List.getElem?_cons_zero, List.getElem?_cons_succ, List.set_cons_zero, List.set_cons_succ, Nat.reduceSub, Nat.reduceAdd, Bool.not_true, Bool.not_false, wipeE, bnd_ok, bnd_err, bnd_bad, on_ok, on_err, on_bad, sel_true, sel_false, slotR_val, fnR_fn, isR_val, negR_int, notR_bl, blSel_bl, optR_int, augR_val, thn_next, thn_ret, thn_err, thn_brk, thn_cont, again_next, again_cont, again_brk, again_ret, again_err, ctch_next, ctch_ret, ctch_err, fin_ret, fin_next, fin_err, okIf_t, e_slot, e_lit, e_globP, e_tup, e_lst, e_bin, e_neg, e_not, e_and, e_or, e_cmp, e_cmp2, e_ite, e_call, e_callv, e_bi, e_bic, e_isi, e_isiS, e_mth, e_ix, e_sl, e_rev, e_lc, o_none, o_some, es_nil, es_cons, b_val, b_not, b_and, b_or, b_yes, c_mk, i_seq, i_range1, i_range2, i_range3, i_enum, t_slot, t_tup, t_ix, ts_nil, ts_cons, s_asg, s_par, s_aug, s_for, s_while, s_if, s_ret, s_retN, s_expr, s_raise, s_try, s_brk, s_cont, s_pass, ss_nil, ss_cons, bin_add, bin_sub, bin_addS, bin_addT, bin_addL, bin_mulL, aug_add, aug_sub, eqS_int, eqS_bl, c_eq, c_ne, c_lt, c_le, c_gt, c_ge, c_isN, c_isntN, bi_one, bi_two, bi1_int, bi1_bl, bi1_str, bi1_tup, bi1_ref, bi2_int, biI_int, biB_int, biI_abs, biT_len, biT_tuple, biT_list, biL_len, biL_tuple, biL_list, biL_sum, biL_any, biL_all, biII_max, biII_min, truth_bl, truth_int, truth_tup, truth_non, seq_tup, ix_ref, ix_tup, sl_tup, sl_ref, set_ref, mt_app, it_tup, it_ref, it_r1, it_r2, noerr_err, atI_0, atI_1, atI_2, atI_3, atI_l, bin_modp, bin_divp, bin_mulp, ixN_40, ixN_41, ixN_42, ixN_43, isR_excP, pow_10_18, atI_cast, List.length_map, Res.noerr_ok, Res.noerr_bad, ofO_some, isi_tuple_tuple, isi_tuple_str, isi_tuple_int, isi_tuple_bool, isi_str_tuple, isi_str_str, isi_str_int, isi_str_bool, isi_int_tuple, isi_int_str, isi_int_int, isi_int_bool, isi_bool_tuple, isi_bool_str, isi_bool_int, isi_bool_bool, isi_NoneType_tuple, isi_NoneType_str, isi_NoneType_int, isi_NoneType_bool, q_F_F, q_F_P, q_F_Q, q_F_Z, q_P_F, q_P_P, q_P_Q, q_P_Z, q_Q_F, q_Q_P, q_Q_Q, q_Q_Z, q_R_F, q_R_P, q_R_Q, q_R_Z, q_Z_F, q_Z_P, q_Z_Q, q_Z_Z, ]
  have hs : (9 ≤ sizeLine) = True := eq_true (by decide)
  simp only [F, List.map_cons, List.map_nil] at g
  simp (disch := omega) only [Int.natCast_zero, Int.natCast_one, Int.cast_ofNat_Int, Int.reduceEq, Int.reduceLT, Int.reduceLE, decide_true, decide_false, List.length_cons, List.length_nil, List.set_set, List.map_cons, List.map_nil, List.replicate_zero, List.replicate_succ, List.cons_append, List.nil_append, List.getElem?_cons_zero, List.getElem?_cons_succ, List.set_cons_zero, List.set_cons_succ, Nat.reduceSub, Nat.reduceAdd, Bool.not_true, Bool.not_false, wipeE, bnd_ok, bnd_err, bnd_bad, on_ok, on_err, on_bad, sel_true, sel_false, slotR_val, fnR_fn, isR_val, negR_int, notR_bl, blSel_bl, optR_int, augR_val, thn_next, thn_ret, thn_err, thn_brk, thn_cont, again_next, again_cont, again_brk, again_ret, again_err, ctch_next, ctch_ret, ctch_err, fin_ret, fin_next, fin_err, okIf_t, e_slot, e_lit, e_globP, e_tup, e_lst, e_bin, e_neg, e_not, e_and, e_or, e_cmp, e_cmp2, e_ite, e_call, e_callv, e_bi, e_bic, e_isi, e_isiS, e_mth, e_ix, e_sl, e_rev, e_lc, o_none, o_some, es_nil, es_cons, b_val, b_not, b_and, b_or, b_yes, c_mk, i_seq, i_range1, i_range2, i_range3, i_enum, t_slot, t_tup, t_ix, ts_nil, ts_cons, s_asg, s_par, s_aug, s_for, s_while, s_if, s_ret, s_retN, s_expr, s_raise, s_try, s_brk, s_cont, s_pass, ss_nil, ss_cons, bin_add, bin_sub, bin_addS, bin_addT, bin_addL, bin_mulL, aug_add, aug_sub, eqS_int, eqS_bl, c_eq, c_ne, c_lt, c_le, c_gt, c_ge, c_isN, c_isntN, bi_one, bi_two, bi1_int, bi1_bl, bi1_str, bi1_tup, bi1_ref, bi2_int, biI_int, biB_int, biI_abs, biT_len, biT_tuple, biT_list, biL_len, biL_tuple, biL_list, biL_sum, biL_any, biL_all, biII_max, biII_min, truth_bl, truth_int, truth_tup, truth_non, seq_tup, ix_ref, ix_tup, sl_tup, sl_ref, set_ref, mt_app, it_tup, it_ref, it_r1, it_r2, noerr_err, atI_0, atI_1, atI_2, atI_3, atI_l, bin_modp, bin_divp, bin_mulp, ixN_40, ixN_41, ixN_42, ixN_43, isR_excP, pow_10_18, atI_cast, List.length_map, Res.noerr_ok, Res.noerr_bad, ofO_some, isi_tuple_tuple, isi_tuple_str, isi_tuple_int, isi_tuple_bool, isi_str_tuple, isi_str_str, isi_str_int, isi_str_bool, isi_int_tuple, isi_int_str, isi_int_int, isi_int_bool, isi_bool_tuple, isi_bool_str, isi_bool_int, isi_bool_bool, isi_NoneType_tuple, isi_NoneType_str, isi_NoneType_int, isi_NoneType_bool, q_F_F, q_F_P, q_F_Q, q_F_Z, q_P_F, q_P_P, q_P_Q, q_P_Z, q_Q_F, q_Q_P, q_Q_Q, q_Q_Z, q_R_F, q_R_P, q_R_Q, q_R_Z, q_Z_F, q_Z_P, q_Z_Q, q_Z_Z, L_single, seq_app_self, okIf_t, hs, g, trim_ref]
  simp
theorem double_spec {k : Nat} {S : Store} {d a b v : D} : callF P (k + 1) 41 [d, a, b, v] S = .ok (.ref S.length) (S ++ [Cell.lst (doubles d a b v)]) := by
  rw [callF_of (f := L_double) rfl rfl]
  simp (disch := omega) only [Int.natCast_zero, Int.natCast_one, Int.cast_ofNat_Int, Int.reduceEq, Int.reduceLT, Int.reduceLE, decide_true, decide_false, List.length_cons, List.length_nil, List.set_set, List.map_cons, List.map_nil, List.replicate_zero, List.replicate_succ, List.cons_append, List.nil_append, List.getElem?_cons_zero, List.getElem?_cons_succ, List.set_cons_zero, List.set_cons_succ, Nat.reduceSub, Nat.reduceAdd, Bool.not_true, Bool.not_false, wipeE, bnd_ok, bnd_err, bnd_bad, on_ok, on_err, on_bad, sel_true, sel_false, slotR_val, fnR_fn, isR_val, negR_int, notR_bl, blSel_bl, optR_int, augR_val, thn_next, thn_ret, thn_err, thn_brk, thn_cont, again_next, again_cont, again_brk, again_ret, again_err, ctch_next, ctch_ret, ctch_err, fin_ret, fin_next, fin_err, okIf_t, e_slot, e_lit, e_globP, e_tup, e_lst, e_bin, e_neg, e_not, e_and, e_or, e_cmp, e_cmp2, e_ite, e_call, e_callv, e_bi, e_bic, e_isi, e_isiS, e_mth, e_ix, e_sl, e_rev, e_lc, o_none, o_some, es_nil, es_cons, b_val, b_not, b_and, b_or, b_yes, c_mk, i_seq, i_range1, i_range2, i_range3, i_enum, t_slot, t_tup, t_ix, ts_nil, ts_cons, s_asg, s_par, s_aug, s_for, s_while, s_if, s_ret, s_retN, s_expr, s_raise, s_try, s_brk, s_cont, s_pass, ss_nil, ss_cons, bin_add, bin_sub, bin_addS, bin_addT, bin_addL, bin_mulL, aug_add, aug_sub, eqS_int, eqS_bl, c_eq, c_ne, c_lt, c_le, c_gt, c_ge, c_isN, c_isntN, bi_one, bi_two, bi1_int, bi1_bl, bi1_str, bi1_tup, bi1_ref, bi2_int, biI_int, biB_int, biI_abs, biT_len, biT_tuple, biT_list, biL_len, biL_tuple, biL_list, biL_sum, biL_any, biL_all, biII_max, biII_min, truth_bl, truth_int, truth_tup, truth_non, seq_tup, ix_ref, ix_tup, sl_tup, sl_ref, set_ref, mt_app, it_tup, it_ref, it_r1, it_r2, noerr_err, atI_0, atI_1, atI_2, atI_3, atI_l, bin_modp, bin_divp, bin_mulp, ixN_40, ixN_41, ixN_42, ixN_43, isR_excP, pow_10_18, atI_cast, List.length_map, Res.noerr_ok, Res.noerr_bad, ofO_some, isi_tuple_tuple, isi_tuple_str, isi_tuple_int, isi_tuple_bool, isi_str_tuple, isi_str_str, isi_str_int, isi_str_bool, isi_int_tuple, isi_int_str, isi_int_int, isi_int_bool, isi_bool_tuple, isi_bool_str, isi_bool_int, isi_bool_bool, isi_NoneType_tuple, isi_NoneType_str, isi_NoneType_int, isi_NoneType_bool, q_F_F, q_F_P, q_F_Q, q_F_Z, q_P_F, q_P_P, q_P_Q, q_P_Z, q_Q_F, q_Q_P, q_Q_Q, q_Q_Z, q_R_F, q_R_P, q_R_Q, q_R_Z, q_Z_F, q_Z_P, q_Z_Q, q_Z_Z, L_double, trim_ref]
end K67

namespace K67
open PySem EV
theorem get_app {S : Store} {x : Cell} : (S ++ [x])[S.length]? = some x := by rw [List.getElem?_append_right (Nat.le_refl _), Nat.sub_self]; rfl
theorem lst_keep {S X : Store} {i : Nat} {l : List D} (h : S[i]? = some (.lst l)) : (S ++ X)[i]? = some (.lst l) := by rw [List.getElem?_append_left (List.getElem?_eq_some_iff.mp h).1]; exact h
/-- two lists joined -/
theorem addL_at {S : Store} {p q : Nat} {a b : List D} (h1 : S[p]? = some (.lst a)) (h2 : S[q]? = some (.lst b)) (h : a.length + b.length ≤ sizeLine) : binop .Add (.ref p) (.ref q) S = .ok (.ref S.length) (S ++ [Cell.lst (a ++ b)]) := by
  rw [bin_addL, lst_lst h1, ofO_some, lst_lst h2, ofO_some]
  unfold okIf
  rw [if_pos h]
theorem at2 {x y : D} {d : Int} (h1 : 0 ≤ d) (h2 : d < 2) : L2.atI [x, y] d = some (if d = 0 then x else y) := by
  rw [atI_of h1]
  have : d = 0 ∨ d = 1 := by omega
  rcases this with rfl | rfl <;> rfl
/-- the tail of the first branch -/
theorem tailA {S : Store} {d a v x y : D} (h : NotF d) {σ1 σ2 σ3 σ4 σ6 σ7 σ10 σ14 : SV} {s : SV} :
    ∃ S', evSs (P.ctx 39) (match nth 4 F_law.body with | .ite _ (.cons _ (.cons _ (.cons _ (.cons _ (.cons _ (.cons _ r)))))) _ => r | _ => .nil) [s, σ1, σ2, σ3, σ4, .val a, σ6, σ7, .val v, .no, σ10, .val d, .val x, .val y, σ14] S = .ret (.bl true) S' := by
  let R : List D := singles d a ++ doubles d a a v ++ [.tup [.fn 29, .tup [d, .tup [x, y]]], .tup [.fn 34, .tup [d, x, .int 2]]]
  let F : List D := [.fn 21, .fn 24, .fn 25, .fn 28, .fn 30, .fn 32, .fn 35, .fn 36, .fn 37]
  let T : List D := [.tup [.fn 29, .tup [d, .tup [x, y]]], .tup [.fn 34, .tup [d, x, .int 2]]]
  let S1 : Store := S ++ [Cell.lst F] ++ [Cell.lst (singles d a)]
  let S2 : Store := S1 ++ [Cell.lst (doubles d a a v)]
  let S3 : Store := S2 ++ [Cell.lst (singles d a ++ doubles d a a v)]
  let S4 : Store := S3 ++ [Cell.lst T]
  let S5 : Store := S4 ++ [Cell.lst R]
  have g1 : S1[S.length + 1]? = some (.lst (singles d a)) := by
    have : S.length + 1 = (S ++ [Cell.lst F]).length := by simp
    rw [this]
    exact get_app
  have e1 : callF P 39 38 [d, a] S = .ok (.ref (S.length + 1)) S1 := single_spec (k := 38)
  have e2 : callF P 39 41 [d, a, a, v] S1 = .ok (.ref S1.length) S2 := double_spec (k := 38)
  have e3 : binop .Add (.ref (S.length + 1)) (.ref S1.length) S2 = .ok (.ref S2.length) S3 := addL_at (lst_keep g1) get_app (show 9 + 4 ≤ sizeLine by decide)
  have e4 : binop .Add (.ref S2.length) (.ref S3.length) S4 = .ok (.ref S4.length) S5 := addL_at (lst_keep get_app) get_app (show 13 + 2 ≤ sizeLine by decide)
  have rows : ∀ r ∈ R, RowOk "domain" r := by
    intro r hr
    rcases List.mem_append.mp hr with hr | hr
    · rcases List.mem_append.mp hr with hr | hr
      · exact singles_d h r hr
      · exact doubles_d h r hr
    · simp only [List.mem_cons, List.not_mem_nil, or_false] at hr
      rcases hr with rfl | rfl
      · exact row_d2 rfl fun k S => d_29 (k := k + 4) h
      · exact row_d3 rfl fun k S => d_34 (k := k + 4) h
  obtain ⟨S', e5⟩ := all_spec (k := 28) (p := S4.length) (l := R) (S := S5) (due := "domain") (by decide +kernel) get_app (show 15 ≤ 1000 by decide) rows
  refine ⟨S', ?_⟩
  simp only [F_law, nth]
  have e4' : binop .Add (.ref S2.length) (.ref S3.length) (S3 ++ [Cell.lst [.tup [.fn 29, .tup [d, .tup [x, y]]], .tup [.fn 34, .tup [d, x, .int 2]]]]) = .ok (.ref S4.length) S5 := e4
  have e5' : callF P 39 13 [.ref S4.length, .str "domain"] S5 = .ok (.bl true) S' := e5
  simp (disch := omega) only [Int.natCast_zero, Int.natCast_one, Int.cast_ofNat_Int, Int.reduceEq, Int.reduceLT, Int.reduceLE, decide_true, decide_false, List.length_cons, List.length_nil, List.set_set, List.map_cons, List.map_nil, List.replicate_zero, List.replicate_succ, List.cons_append, List.nil_append, List.getElem?_cons_zero, List.getElem?_cons_succ, List.set_cons_zero, List.set_cons_succ, Nat.reduceSub, Nat.reduceAdd, Bool.not_true, Bool.not_false, wipeE, bnd_ok, bnd_err, bnd_bad, on_ok, on_err, on_bad, sel_true, sel_false, slotR_val, fnR_fn, isR_val, negR_int, notR_bl, blSel_bl, optR_int, augR_val, thn_next, thn_ret, thn_err, thn_brk, thn_cont, again_next, again_cont, again_brk, again_ret, again_err, ctch_next, ctch_ret, ctch_err, fin_ret, fin_next, fin_err, okIf_t, e_slot, e_lit, e_globP, e_tup, e_lst, e_bin, e_neg, e_not, e_and, e_or, e_cmp, e_cmp2, e_ite, e_call, e_callv, e_bi, e_bic, e_isi, e_isiS, e_mth, e_ix, e_sl, e_rev, e_lc, o_none, o_some, es_nil, es_cons, b_val, b_not, b_and, b_or, b_yes, c_mk, i_seq, i_range1, i_range2, i_range3, i_enum, t_slot, t_tup, t_ix, ts_nil, ts_cons, s_asg, s_par, s_aug, s_for, s_while, s_if, s_ret, s_retN, s_expr, s_raise, s_try, s_brk, s_cont, s_pass, ss_nil, ss_cons, bin_add, bin_sub, bin_addS, bin_addT, bin_addL, bin_mulL, aug_add, aug_sub, eqS_int, eqS_bl, c_eq, c_ne, c_lt, c_le, c_gt, c_ge, c_isN, c_isntN, bi_one, bi_two, bi1_int, bi1_bl, bi1_str, bi1_tup, bi1_ref, bi2_int, biI_int, biB_int, biI_abs, biT_len, biT_tuple, biT_list, biL_len, biL_tuple, biL_list, biL_sum, biL_any, biL_all, biII_max, biII_min, truth_bl, truth_int, truth_tup, truth_non, seq_tup, ix_ref, ix_tup, sl_tup, sl_ref, set_ref, mt_app, it_tup, it_ref, it_r1, it_r2, noerr_err, atI_0, atI_1, atI_2, atI_3, atI_l, bin_modp, bin_divp, bin_mulp, ixN_40, ixN_41, ixN_42, ixN_43, isR_excP, pow_10_18, atI_cast, List.length_map, Res.noerr_ok, Res.noerr_bad, ofO_some, isi_tuple_tuple, isi_tuple_str, isi_tuple_int, isi_tuple_bool, isi_str_tuple, isi_str_str, isi_str_int, isi_str_bool, isi_int_tuple, isi_int_str, isi_int_int, isi_int_bool, isi_bool_tuple, isi_bool_str, isi_bool_int, isi_bool_bool, isi_NoneType_tuple, isi_NoneType_str, isi_NoneType_int, isi_NoneType_bool, q_F_F, q_F_P, q_F_Q, q_F_Z, q_P_F, q_P_P, q_P_Q, q_P_Z, q_Q_F, q_Q_P, q_Q_Q, q_Q_Z, q_R_F, q_R_P, q_R_Q, q_R_Z, q_Z_F, q_Z_P, q_Z_Q, q_Z_Z, e1, e2, e3, e4', e5']
end K67

namespace K67
open PySem EV
/-- the first branch: wrong domains -/
theorem branchA {S : Store} {c l0 T n kk : Nat} {f s : D} {σ5 σ6 σ7 σ8 σ10 : SV} (hf : IsF f) (dr : Dr c l0 T S) (hT : T ≤ 1000) (hn : n ≤ 4) (hk : kk ≤ 5) :
    ∃ S', evSs (P.ctx 39) (match nth 4 F_law.body with | .ite _ r _ => r | _ => .nil) [.val s, .val (.ref c), .val f, .val (.int n), .val (.int kk), .no, .no, .no, .no, .no, .no, .no, .no, .no, .no] S = .ret (.bl true) S' := by
  -- the domain
  obtain ⟨d4, S6, e4, b1, b2, dr6, ex6⟩ := take_spec (k := 37) (P := P) (many := 2) lw.h1 lw.h2 (dr.app [Cell.lst [.tup [.str "Z"], .tup [.str "P", f]]]) (by omega) (by omega) (by omega)
  have hc6 : S.length ≠ c := by have := dr.lt.1; omega
  have q6 := seq_lst (ex6.at hc6 (get_app (S := S) (x := Cell.lst [.tup [.str "Z"], .tup [.str "P", f]])))
  have i6 := at2 (x := .tup [.str "Z"]) (y := .tup [.str "P", f]) b1 b2
  obtain ⟨dom, hdom, hD, hN⟩ : ∃ dom, (if d4 = 0 then D.tup [.str "Z"] else D.tup [.str "P", f]) = dom ∧ IsD dom ∧ NotF dom := by
    by_cases h : d4 = 0
    · exact ⟨_, if_pos h, .inr (.inl rfl), notF_Z⟩
    · exact ⟨_, if_neg h, .inr (.inr ⟨f, hf, rfl⟩), notF_P⟩
  rw [hdom] at i6
  -- the matrix
  obtain ⟨d5, S7, e5, b3, b4, dr7, ex7⟩ := take_spec (k := 37) (P := P) (many := 2) lw.h1 lw.h2 (dr6.app [Cell.lst [.int n, .int kk]]) (by omega) (by omega) (by omega)
  have hc7 : S6.length ≠ c := by have := dr6.lt.1; omega
  have q7 := seq_lst (ex7.at hc7 (get_app (S := S6) (x := Cell.lst [.int n, .int kk])))
  have i7 := at2 (x := .int n) (y := .int kk) b3 b4
  obtain ⟨m2, hm2, hm3⟩ : ∃ m2 : Nat, (if d5 = 0 then D.int n else D.int kk) = .int m2 ∧ m2 ≤ 5 := by
    by_cases h : d5 = 0
    · exact ⟨n, if_pos h, by omega⟩
    · exact ⟨kk, if_neg h, hk⟩
  rw [hm2] at i7
  obtain ⟨rows, S8, e8, _, _, dr8, ex8⟩ := matrix_spec (k := 33) (m := n) (n := m2) lw hD dr7 (by omega) (by omega) (by omega)
  have hmm : 10 * m2 * n ≤ 50 * 4 := Nat.mul_le_mul (by omega) hn
  obtain ⟨x, S9, e9, _, dr9, ex9⟩ := small_D (k := 34) lw hD dr8 (by omega)
  obtain ⟨vs, S10, e10, hvl, _, dr10, ex10⟩ := row_gen (k := 34) (n := n) lw hD (σ := [.val s, .val (.ref c), .val f, .val (.int n), .val (.int kk), .val (.tup [.int n, .int m2, .tup rows]), .no, .no, .no, .no, .no, .val dom, .val x, .no, .no]) (vs := [14]) (t := CT.slot 14) (e := CE.call 9 (CEs.cons (CE.slot 1) (CEs.cons (CE.slot 11) CEs.nil))) (fun y S => by
    unfold eltG
    simp (disch := omega) only [Int.natCast_zero, Int.natCast_one, Int.cast_ofNat_Int, Int.reduceEq, Int.reduceLT, Int.reduceLE, decide_true, decide_false, List.length_cons, List.length_nil, List.set_set, List.map_cons, List.map_nil, List.replicate_zero, List.replicate_succ, List.cons_append, List.nil_append, List.getElem?_cons_zero, List.getElem?_cons_succ, List.set_cons_zero, List.set_cons_succ, Nat.reduceSub, Nat.reduceAdd, Bool.not_true, Bool.not_false, wipeE, bnd_ok, bnd_err, bnd_bad, on_ok, on_err, on_bad, sel_true, sel_false, slotR_val, fnR_fn, isR_val, negR_int, notR_bl, blSel_bl, optR_int, augR_val, thn_next, thn_ret, thn_err, thn_brk, thn_cont, again_next, again_cont, again_brk, again_ret, again_err, ctch_next, ctch_ret, ctch_err, fin_ret, fin_next, fin_err, okIf_t, e_slot, e_lit, e_globP, e_tup, e_lst, e_bin, e_neg, e_not, e_and, e_or, e_cmp, e_cmp2, e_ite, e_call, e_callv, e_bi, e_bic, e_isi, e_isiS, e_mth, e_ix, e_sl, e_rev, e_lc, o_none, o_some, es_nil, es_cons, b_val, b_not, b_and, b_or, b_yes, c_mk, i_seq, i_range1, i_range2, i_range3, i_enum, t_slot, t_tup, t_ix, ts_nil, ts_cons, s_asg, s_par, s_aug, s_for, s_while, s_if, s_ret, s_retN, s_expr, s_raise, s_try, s_brk, s_cont, s_pass, ss_nil, ss_cons, bin_add, bin_sub, bin_addS, bin_addT, bin_addL, bin_mulL, aug_add, aug_sub, eqS_int, eqS_bl, c_eq, c_ne, c_lt, c_le, c_gt, c_ge, c_isN, c_isntN, bi_one, bi_two, bi1_int, bi1_bl, bi1_str, bi1_tup, bi1_ref, bi2_int, biI_int, biB_int, biI_abs, biT_len, biT_tuple, biT_list, biL_len, biL_tuple, biL_list, biL_sum, biL_any, biL_all, biII_max, biII_min, truth_bl, truth_int, truth_tup, truth_non, seq_tup, ix_ref, ix_tup, sl_tup, sl_ref, set_ref, mt_app, it_tup, it_ref, it_r1, it_r2, noerr_err, atI_0, atI_1, atI_2, atI_3, atI_l, bin_modp, bin_divp, bin_mulp, ixN_40, ixN_41, ixN_42, ixN_43, isR_excP, pow_10_18, atI_cast, List.length_map, Res.noerr_ok, Res.noerr_bad, ofO_some, isi_tuple_tuple, isi_tuple_str, isi_tuple_int, isi_tuple_bool, isi_str_tuple, isi_str_str, isi_str_int, isi_str_bool, isi_int_tuple, isi_int_str, isi_int_int, isi_int_bool, isi_bool_tuple, isi_bool_str, isi_bool_int, isi_bool_bool, isi_NoneType_tuple, isi_NoneType_str, isi_NoneType_int, isi_NoneType_bool, q_F_F, q_F_P, q_F_Q, q_F_Z, q_P_F, q_P_P, q_P_Q, q_P_Z, q_Q_F, q_Q_P, q_Q_Q, q_Q_Z, q_R_F, q_R_P, q_R_Q, q_R_Z, q_Z_F, q_Z_P, q_Z_Q, q_Z_Z, ]) dr9 (by omega) (by omega)
  obtain ⟨y, e11, _⟩ := number_D (k := 36) (S := S10) (n := 1) lw hD
  obtain ⟨d6, S12, e12, b5, b6, dr12, ex12⟩ := take_spec (k := 37) (P := P) (many := 2) lw.h1 lw.h2 dr10 (by omega) (by omega) (by omega)
  have hr : -(2 ^ 62) ≤ (n : Int) ∧ (n : Int) < 2 ^ 62 := by omega
  by_cases h0 : d6 = 0
  · obtain ⟨v, S13, e13, hNv, _, dr13, ex13⟩ := no_domain_spec (k := 36) dr12 (by omega)
    obtain ⟨S', t⟩ := tailA (S := S13) (a := .tup [.int n, .int m2, .tup rows]) (v := .tup vs) (x := x) (y := y) hNv (s := .val s) (σ1 := .val (.ref c)) (σ2 := .val f) (σ3 := .val (.int n)) (σ4 := .val (.int kk)) (σ6 := .no) (σ7 := .no) (σ10 := .no) (σ14 := .no)
    refine ⟨S', ?_⟩
    simp only [Nat.reduceAdd] at e4 e5 e8 e9 e10 e11 e12 e13
    simp only [F_law, nth] at t ⊢
    simp (disch := omega) only [Int.natCast_zero, Int.natCast_one, Int.cast_ofNat_Int, Int.reduceEq, Int.reduceLT, Int.reduceLE, decide_true, decide_false, List.length_cons, List.length_nil, List.set_set, List.map_cons, List.map_nil, List.replicate_zero, List.replicate_succ, List.cons_append, List.nil_append, List.getElem?_cons_zero, List.getElem?_cons_succ, List.set_cons_zero, List.set_cons_succ, Nat.reduceSub, Nat.reduceAdd, Bool.not_true, Bool.not_false, wipeE, bnd_ok, bnd_err, bnd_bad, on_ok, on_err, on_bad, sel_true, sel_false, slotR_val, fnR_fn, isR_val, negR_int, notR_bl, blSel_bl, optR_int, augR_val, thn_next, thn_ret, thn_err, thn_brk, thn_cont, again_next, again_cont, again_brk, again_ret, again_err, ctch_next, ctch_ret, ctch_err, fin_ret, fin_next, fin_err, okIf_t, e_slot, e_lit, e_globP, e_tup, e_lst, e_bin, e_neg, e_not, e_and, e_or, e_cmp, e_cmp2, e_ite, e_call, e_callv, e_bi, e_bic, e_isi, e_isiS, e_mth, e_ix, e_sl, e_rev, e_lc, o_none, o_some, es_nil, es_cons, b_val, b_not, b_and, b_or, b_yes, c_mk, i_seq, i_range1, i_range2, i_range3, i_enum, t_slot, t_tup, t_ix, ts_nil, ts_cons, s_asg, s_par, s_aug, s_for, s_while, s_if, s_ret, s_retN, s_expr, s_raise, s_try, s_brk, s_cont, s_pass, ss_nil, ss_cons, bin_add, bin_sub, bin_addS, bin_addT, bin_addL, bin_mulL, aug_add, aug_sub, eqS_int, eqS_bl, c_eq, c_ne, c_lt, c_le, c_gt, c_ge, c_isN, c_isntN, bi_one, bi_two, bi1_int, bi1_bl, bi1_str, bi1_tup, bi1_ref, bi2_int, biI_int, biB_int, biI_abs, biT_len, biT_tuple, biT_list, biL_len, biL_tuple, biL_list, biL_sum, biL_any, biL_all, biII_max, biII_min, truth_bl, truth_int, truth_tup, truth_non, seq_tup, ix_ref, ix_tup, sl_tup, sl_ref, set_ref, mt_app, it_tup, it_ref, it_r1, it_r2, noerr_err, atI_0, atI_1, atI_2, atI_3, atI_l, bin_modp, bin_divp, bin_mulp, ixN_40, ixN_41, ixN_42, ixN_43, isR_excP, pow_10_18, atI_cast, List.length_map, Res.noerr_ok, Res.noerr_bad, ofO_some, isi_tuple_tuple, isi_tuple_str, isi_tuple_int, isi_tuple_bool, isi_str_tuple, isi_str_str, isi_str_int, isi_str_bool, isi_int_tuple, isi_int_str, isi_int_int, isi_int_bool, isi_bool_tuple, isi_bool_str, isi_bool_int, isi_bool_bool, isi_NoneType_tuple, isi_NoneType_str, isi_NoneType_int, isi_NoneType_bool, q_F_F, q_F_P, q_F_Q, q_F_Z, q_P_F, q_P_P, q_P_Q, q_P_Z, q_Q_F, q_Q_P, q_Q_Q, q_Q_Z, q_R_F, q_R_P, q_R_Q, q_R_Z, q_Z_F, q_Z_P, q_Z_Q, q_Z_Z, e4, q6, i6, e5, q7, i7, e8, e9, okIf, hr, and_self, if_true, Int.toNat_natCast, range_ok (show n ≤ 1000 by omega), e10, e11, e12, h0, e13] at t ⊢
    exact t
  · obtain ⟨S', t⟩ := tailA (S := S12) (a := .tup [.int n, .int m2, .tup rows]) (v := .tup vs) (x := x) (y := y) hN (s := .val s) (σ1 := .val (.ref c)) (σ2 := .val f) (σ3 := .val (.int n)) (σ4 := .val (.int kk)) (σ6 := .no) (σ7 := .no) (σ10 := .no) (σ14 := .no)
    refine ⟨S', ?_⟩
    simp only [Nat.reduceAdd] at e4 e5 e8 e9 e10 e11 e12
    simp only [F_law, nth] at t ⊢
    simp (disch := omega) only [Int.natCast_zero, Int.natCast_one, Int.cast_ofNat_Int, Int.reduceEq, Int.reduceLT, Int.reduceLE, decide_true, decide_false, List.length_cons, List.length_nil, List.set_set, List.map_cons, List.map_nil, List.replicate_zero, List.replicate_succ, List.cons_append, List.nil_append, List.getElem?_cons_zero, List.getElem?_cons_succ, List.set_cons_zero, List.set_cons_succ, Nat.reduceSub, Nat.reduceAdd, Bool.not_true, Bool.not_false, wipeE, bnd_ok, bnd_err, bnd_bad, on_ok, on_err, on_bad, sel_true, sel_false, slotR_val, fnR_fn, isR_val, negR_int, notR_bl, blSel_bl, optR_int, augR_val, thn_next, thn_ret, thn_err, thn_brk, thn_cont, again_next, again_cont, again_brk, again_ret, again_err, ctch_next, ctch_ret, ctch_err, fin_ret, fin_next, fin_err, okIf_t, e_slot, e_lit, e_globP, e_tup, e_lst, e_bin, e_neg, e_not, e_and, e_or, e_cmp, e_cmp2, e_ite, e_call, e_callv, e_bi, e_bic, e_isi, e_isiS, e_mth, e_ix, e_sl, e_rev, e_lc, o_none, o_some, es_nil, es_cons, b_val, b_not, b_and, b_or, b_yes, c_mk, i_seq, i_range1, i_range2, i_range3, i_enum, t_slot, t_tup, t_ix, ts_nil, ts_cons, s_asg, s_par, s_aug, s_for, s_while, s_if, s_ret, s_retN, s_expr, s_raise, s_try, s_brk, s_cont, s_pass, ss_nil, ss_cons, bin_add, bin_sub, bin_addS, bin_addT, bin_addL, bin_mulL, aug_add, aug_sub, eqS_int, eqS_bl, c_eq, c_ne, c_lt, c_le, c_gt, c_ge, c_isN, c_isntN, bi_one, bi_two, bi1_int, bi1_bl, bi1_str, bi1_tup, bi1_ref, bi2_int, biI_int, biB_int, biI_abs, biT_len, biT_tuple, biT_list, biL_len, biL_tuple, biL_list, biL_sum, biL_any, biL_all, biII_max, biII_min, truth_bl, truth_int, truth_tup, truth_non, seq_tup, ix_ref, ix_tup, sl_tup, sl_ref, set_ref, mt_app, it_tup, it_ref, it_r1, it_r2, noerr_err, atI_0, atI_1, atI_2, atI_3, atI_l, bin_modp, bin_divp, bin_mulp, ixN_40, ixN_41, ixN_42, ixN_43, isR_excP, pow_10_18, atI_cast, List.length_map, Res.noerr_ok, Res.noerr_bad, ofO_some, isi_tuple_tuple, isi_tuple_str, isi_tuple_int, isi_tuple_bool, isi_str_tuple, isi_str_str, isi_str_int, isi_str_bool, isi_int_tuple, isi_int_str, isi_int_int, isi_int_bool, isi_bool_tuple, isi_bool_str, isi_bool_int, isi_bool_bool, isi_NoneType_tuple, isi_NoneType_str, isi_NoneType_int, isi_NoneType_bool, q_F_F, q_F_P, q_F_Q, q_F_Z, q_P_F, q_P_P, q_P_Q, q_P_Z, q_Q_F, q_Q_P, q_Q_Q, q_Q_Z, q_R_F, q_R_P, q_R_Q, q_R_Z, q_Z_F, q_Z_P, q_Z_Q, q_Z_Z, e4, q6, i6, e5, q7, i7, e8, e9, okIf, hr, and_self, if_true, Int.toNat_natCast, range_ok (show n ≤ 1000 by omega), e10, e11, e12, h0] at t ⊢
    exact t
/-- the second branch: wrong sizes -/
theorem branchB {S : Store} {c l0 T n kk : Nat} {f s : D} (hf : IsF f) (dr : Dr c l0 T S) (hT : T ≤ 1000) (hn : n ≤ 4) (hk : kk ≤ 5) (hne : n ≠ kk) :
    ∃ S', evSs (P.ctx 39) (match F_law.body with | .cons _ (.cons _ (.cons _ (.cons _ (.cons _ r)))) => r | _ => .nil) [.val s, .val (.ref c), .val f, .val (.int n), .val (.int kk), .no, .no, .no, .no, .no, .no, .no, .no, .no, .no] S = .ret (.bl true) S' := by
  have hD : IsD f := .inl hf
  have hne' : (n : Int) ≠ (kk : Int) := by omega
  have m1 : 10 * kk * n ≤ 50 * 4 := Nat.mul_le_mul (by omega) hn
  have m2 : 10 * n * n ≤ 40 * 4 := Nat.mul_le_mul (by omega) hn
  have m3 : 10 * kk * kk ≤ 50 * 5 := Nat.mul_le_mul (by omega) hk
  obtain ⟨ra, S1, e1, _, _, dr1, ex1⟩ := matrix_spec (k := 33) (m := n) (n := kk) lw hD dr (by omega) (by omega) (by omega)
  obtain ⟨rb, S2, e2, _, _, dr2, ex2⟩ := matrix_spec (k := 33) (m := n) (n := n) lw hD dr1 (by omega) (by omega) (by omega)
  obtain ⟨rc, S3, e3, _, _, dr3, ex3⟩ := matrix_spec (k := 33) (m := kk) (n := kk) lw hD dr2 (by omega) (by omega) (by omega)
  obtain ⟨vs, S4, e4, hvl, _, dr4, ex4⟩ := row_gen (k := 34) (n := n) lw hD (σ := [.val s, .val (.ref c), .val f, .val (.int n), .val (.int kk), .val (.tup [.int n, .int kk, .tup ra]), .val (.tup [.int n, .int n, .tup rb]), .val (.tup [.int kk, .int kk, .tup rc]), .no, .no, .no, .no, .no, .no, .no]) (vs := [14]) (t := CT.slot 14) (e := CE.call 9 (CEs.cons (CE.slot 1) (CEs.cons (CE.slot 2) CEs.nil))) (fun y S => by
    unfold eltG
    simp (disch := omega) only [Int.natCast_zero, Int.natCast_one, Int.cast_ofNat_Int, Int.reduceEq, Int.reduceLT, Int.reduceLE, decide_true, decide_false, List.length_cons, List.length_nil, List.set_set, List.map_cons, List.map_nil, List.replicate_zero, List.replicate_succ, List.cons_append, List.nil_append, List.getElem?_cons_zero, List.getElem?_cons_succ, List.set_cons_zero, List.set_cons_succ, Nat.reduceSub, Nat.reduceAdd, Bool.not_true, Bool.not_false, wipeE, bnd_ok, bnd_err, bnd_bad, on_ok, on_err, on_bad, sel_true, sel_false, slotR_val, fnR_fn, isR_val, negR_int, notR_bl, blSel_bl, optR_int, augR_val, thn_next, thn_ret, thn_err, thn_brk, thn_cont, again_next, again_cont, again_brk, again_ret, again_err, ctch_next, ctch_ret, ctch_err, fin_ret, fin_next, fin_err, okIf_t, e_slot, e_lit, e_globP, e_tup, e_lst, e_bin, e_neg, e_not, e_and, e_or, e_cmp, e_cmp2, e_ite, e_call, e_callv, e_bi, e_bic, e_isi, e_isiS, e_mth, e_ix, e_sl, e_rev, e_lc, o_none, o_some, es_nil, es_cons, b_val, b_not, b_and, b_or, b_yes, c_mk, i_seq, i_range1, i_range2, i_range3, i_enum, t_slot, t_tup, t_ix, ts_nil, ts_cons, s_asg, s_par, s_aug, s_for, s_while, s_if, s_ret, s_retN, s_expr, s_raise, s_try, s_brk, s_cont, s_pass, ss_nil, ss_cons, bin_add, bin_sub, bin_addS, bin_addT, bin_addL, bin_mulL, aug_add, aug_sub, eqS_int, eqS_bl, c_eq, c_ne, c_lt, c_le, c_gt, c_ge, c_isN, c_isntN, bi_one, bi_two, bi1_int, bi1_bl, bi1_str, bi1_tup, bi1_ref, bi2_int, biI_int, biB_int, biI_abs, biT_len, biT_tuple, biT_list, biL_len, biL_tuple, biL_list, biL_sum, biL_any, biL_all, biII_max, biII_min, truth_bl, truth_int, truth_tup, truth_non, seq_tup, ix_ref, ix_tup, sl_tup, sl_ref, set_ref, mt_app, it_tup, it_ref, it_r1, it_r2, noerr_err, atI_0, atI_1, atI_2, atI_3, atI_l, bin_modp, bin_divp, bin_mulp, ixN_40, ixN_41, ixN_42, ixN_43, isR_excP, pow_10_18, atI_cast, List.length_map, Res.noerr_ok, Res.noerr_bad, ofO_some, isi_tuple_tuple, isi_tuple_str, isi_tuple_int, isi_tuple_bool, isi_str_tuple, isi_str_str, isi_str_int, isi_str_bool, isi_int_tuple, isi_int_str, isi_int_int, isi_int_bool, isi_bool_tuple, isi_bool_str, isi_bool_int, isi_bool_bool, isi_NoneType_tuple, isi_NoneType_str, isi_NoneType_int, isi_NoneType_bool, q_F_F, q_F_P, q_F_Q, q_F_Z, q_P_F, q_P_P, q_P_Q, q_P_Z, q_Q_F, q_Q_P, q_Q_Q, q_Q_Z, q_R_F, q_R_P, q_R_Q, q_R_Z, q_Z_F, q_Z_P, q_Z_Q, q_Z_Z, ]) dr3 (by omega) (by omega)
  let a : D := .tup [.int n, .int kk, .tup ra]
  let sq : D := .tup [.int n, .int n, .tup rb]
  let ot : D := .tup [.int kk, .int kk, .tup rc]
  let F : List D := [.fn 21, .fn 24, .fn 25, .fn 28, .fn 30, .fn 32, .fn 35, .fn 36, .fn 37]
  let U1 : Store := S4 ++ [Cell.lst F] ++ [Cell.lst (singles f a)]
  let U2 : Store := U1 ++ [Cell.lst (doubles f a a (.tup vs))]
  let U3 : Store := U2 ++ [Cell.lst (singles f a ++ doubles f a a (.tup vs))]
  have g1 : U1[S4.length + 1]? = some (.lst (singles f a)) := by
    have : S4.length + 1 = (S4 ++ [Cell.lst F]).length := by simp
    rw [this]
    exact get_app
  have c1 : callF P 39 38 [f, .tup [.int n, .int kk, .tup ra]] S4 = .ok (.ref (S4.length + 1)) U1 := single_spec (k := 38)
  have c2 : callF P 39 41 [f, .tup [.int n, .int kk, .tup ra], .tup [.int n, .int kk, .tup ra], .tup vs] U1 = .ok (.ref U1.length) U2 := double_spec (k := 38)
  have c3 : binop .Add (.ref (S4.length + 1)) (.ref U1.length) U2 = .ok (.ref U2.length) U3 := addL_at (lst_keep g1) get_app (show 9 + 4 ≤ sizeLine by decide)
  have drU : Dr c l0 (T + 10 * kk * n + 10 * n * n + 10 * kk * kk + 10 * n) U3 := (((dr4.app _).app _).app _).app _
  obtain ⟨sh, S5, e5, hsl, _, dr5, ex5⟩ := row_gen (k := 34) (n := kk) lw hD (σ := [.val s, .val (.ref c), .val f, .val (.int n), .val (.int kk), .val (.tup [.int n, .int kk, .tup ra]), .val (.tup [.int n, .int n, .tup rb]), .val (.tup [.int kk, .int kk, .tup rc]), .val (.tup vs), .val (.ref U2.length), .no, .no, .no, .no, .no]) (vs := [14]) (t := CT.slot 14) (e := CE.call 9 (CEs.cons (CE.slot 1) (CEs.cons (CE.slot 2) CEs.nil))) (fun y S => by
    unfold eltG
    simp (disch := omega) only [Int.natCast_zero, Int.natCast_one, Int.cast_ofNat_Int, Int.reduceEq, Int.reduceLT, Int.reduceLE, decide_true, decide_false, List.length_cons, List.length_nil, List.set_set, List.map_cons, List.map_nil, List.replicate_zero, List.replicate_succ, List.cons_append, List.nil_append, List.getElem?_cons_zero, List.getElem?_cons_succ, List.set_cons_zero, List.set_cons_succ, Nat.reduceSub, Nat.reduceAdd, Bool.not_true, Bool.not_false, wipeE, bnd_ok, bnd_err, bnd_bad, on_ok, on_err, on_bad, sel_true, sel_false, slotR_val, fnR_fn, isR_val, negR_int, notR_bl, blSel_bl, optR_int, augR_val, thn_next, thn_ret, thn_err, thn_brk, thn_cont, again_next, again_cont, again_brk, again_ret, again_err, ctch_next, ctch_ret, ctch_err, fin_ret, fin_next, fin_err, okIf_t, e_slot, e_lit, e_globP, e_tup, e_lst, e_bin, e_neg, e_not, e_and, e_or, e_cmp, e_cmp2, e_ite, e_call, e_callv, e_bi, e_bic, e_isi, e_isiS, e_mth, e_ix, e_sl, e_rev, e_lc, o_none, o_some, es_nil, es_cons, b_val, b_not, b_and, b_or, b_yes, c_mk, i_seq, i_range1, i_range2, i_range3, i_enum, t_slot, t_tup, t_ix, ts_nil, ts_cons, s_asg, s_par, s_aug, s_for, s_while, s_if, s_ret, s_retN, s_expr, s_raise, s_try, s_brk, s_cont, s_pass, ss_nil, ss_cons, bin_add, bin_sub, bin_addS, bin_addT, bin_addL, bin_mulL, aug_add, aug_sub, eqS_int, eqS_bl, c_eq, c_ne, c_lt, c_le, c_gt, c_ge, c_isN, c_isntN, bi_one, bi_two, bi1_int, bi1_bl, bi1_str, bi1_tup, bi1_ref, bi2_int, biI_int, biB_int, biI_abs, biT_len, biT_tuple, biT_list, biL_len, biL_tuple, biL_list, biL_sum, biL_any, biL_all, biII_max, biII_min, truth_bl, truth_int, truth_tup, truth_non, seq_tup, ix_ref, ix_tup, sl_tup, sl_ref, set_ref, mt_app, it_tup, it_ref, it_r1, it_r2, noerr_err, atI_0, atI_1, atI_2, atI_3, atI_l, bin_modp, bin_divp, bin_mulp, ixN_40, ixN_41, ixN_42, ixN_43, isR_excP, pow_10_18, atI_cast, List.length_map, Res.noerr_ok, Res.noerr_bad, ofO_some, isi_tuple_tuple, isi_tuple_str, isi_tuple_int, isi_tuple_bool, isi_str_tuple, isi_str_str, isi_str_int, isi_str_bool, isi_int_tuple, isi_int_str, isi_int_int, isi_int_bool, isi_bool_tuple, isi_bool_str, isi_bool_int, isi_bool_bool, isi_NoneType_tuple, isi_NoneType_str, isi_NoneType_int, isi_NoneType_bool, q_F_F, q_F_P, q_F_Q, q_F_Z, q_P_F, q_P_P, q_P_Q, q_P_Z, q_Q_F, q_Q_P, q_Q_Q, q_Q_Z, q_R_F, q_R_P, q_R_Q, q_R_Z, q_Z_F, q_Z_P, q_Z_Q, q_Z_Z, ]) drU (by omega) (by omega)
  have hcU : U2.length ≠ c := by have := dr4.lt.1; simp only [U2, U1, List.length_append]; omega
  have g2 : S5[U2.length]? = some (.lst (singles f a ++ doubles f a a (.tup vs))) := ex5.at hcU get_app
  let T3 : List D := [.tup [.fn 22, .tup [f, sq, .tup sh]], .tup [.fn 26, .tup [f, sq, .tup sh]], .tup [.fn 39, .tup [f, sq, ot]]]
  let T2 : List D := [.tup [.fn 40, .tup [f, sq, ot]], .tup [.fn 39, .tup [f, ot, sq]]]
  let R1 : List D := singles f a ++ doubles f a a (.tup vs) ++ T3
  let V1 : Store := S5 ++ [Cell.lst T3]
  let V2 : Store := V1 ++ [Cell.lst R1]
  let V3 : Store := V2 ++ [Cell.lst T2]
  let V4 : Store := V3 ++ [Cell.lst (R1 ++ T2)]
  have c4 : binop .Add (.ref U2.length) (.ref S5.length) (S5 ++ [Cell.lst [.tup [.fn 22, .tup [f, .tup [.int n, .int n, .tup rb], .tup sh]], .tup [.fn 26, .tup [f, .tup [.int n, .int n, .tup rb], .tup sh]], .tup [.fn 39, .tup [f, .tup [.int n, .int n, .tup rb], .tup [.int kk, .int kk, .tup rc]]]]]) = .ok (.ref V1.length) V2 := addL_at (S := V1) (lst_keep g2) get_app (show 13 + 3 ≤ sizeLine by decide)
  have c5 : binop .Add (.ref V1.length) (.ref V2.length) (V2 ++ [Cell.lst [.tup [.fn 40, .tup [f, .tup [.int n, .int n, .tup rb], .tup [.int kk, .int kk, .tup rc]]], .tup [.fn 39, .tup [f, .tup [.int kk, .int kk, .tup rc], .tup [.int n, .int n, .tup rb]]]]]) = .ok (.ref V3.length) V4 := addL_at (S := V3) (lst_keep get_app) get_app (show 16 + 2 ≤ sizeLine by decide)
  have rows : ∀ r ∈ R1 ++ T2, RowOk "shape" r := by
    intro r hr
    have hl : ((sh.length : Nat) : Int) ≠ (n : Int) := by rw [hsl]; omega
    rcases List.mem_append.mp hr with hr | hr
    · rcases List.mem_append.mp hr with hr | hr
      · rcases List.mem_append.mp hr with hr | hr
        · exact singles_s hf hne' r hr
        · exact doubles_s hf hne' r hr
      · simp only [T3, List.mem_cons, List.not_mem_nil, or_false] at hr
        rcases hr with rfl | rfl | rfl
        · exact row_s3 rfl fun k S => s_22b (k := k + 4) hf hl
        · exact row_s3 rfl fun k S => s_26b (k := k + 3) hf hl
        · exact row_s3 rfl fun k S => s_39b (k := k + 4) hf hne'
    · simp only [T2, List.mem_cons, List.not_mem_nil, or_false] at hr
      rcases hr with rfl | rfl
      · exact row_s3 rfl fun k S => s_40b (k := k + 4) hf hne'
      · exact row_s3 rfl fun k S => s_39b (k := k + 4) hf (Ne.symm hne')
  obtain ⟨S', e6⟩ := all_spec (k := 28) (p := V3.length) (l := R1 ++ T2) (S := V4) (due := "shape") (by decide +kernel) get_app (show 18 ≤ 1000 by decide) rows
  have hr : -(2 ^ 62) ≤ (n : Int) ∧ (n : Int) < 2 ^ 62 := by omega
  have hr2 : -(2 ^ 62) ≤ (kk : Int) ∧ (kk : Int) < 2 ^ 62 := by omega
  refine ⟨S', ?_⟩
  simp only [Nat.reduceAdd] at e1 e2 e3 e4 e5 e6
  simp only [F_law]
  simp (disch := omega) only [Int.natCast_zero, Int.natCast_one, Int.cast_ofNat_Int, Int.reduceEq, Int.reduceLT, Int.reduceLE, decide_true, decide_false, List.length_cons, List.length_nil, List.set_set, List.map_cons, List.map_nil, List.replicate_zero, List.replicate_succ, List.cons_append, List.nil_append, List.getElem?_cons_zero, List.getElem?_cons_succ, List.set_cons_zero, List.set_cons_succ, Nat.reduceSub, Nat.reduceAdd, Bool.not_true, Bool.not_false, wipeE, bnd_ok, bnd_err, bnd_bad, on_ok, on_err, on_bad, sel_true, sel_false, slotR_val, fnR_fn, isR_val, negR_int, notR_bl, blSel_bl, optR_int, augR_val, thn_next, thn_ret, thn_err, thn_brk, thn_cont, again_next, again_cont, again_brk, again_ret, again_err, ctch_next, ctch_ret, ctch_err, fin_ret, fin_next, fin_err, okIf_t, e_slot, e_lit, e_globP, e_tup, e_lst, e_bin, e_neg, e_not, e_and, e_or, e_cmp, e_cmp2, e_ite, e_call, e_callv, e_bi, e_bic, e_isi, e_isiS, e_mth, e_ix, e_sl, e_rev, e_lc, o_none, o_some, es_nil, es_cons, b_val, b_not, b_and, b_or, b_yes, c_mk, i_seq, i_range1, i_range2, i_range3, i_enum, t_slot, t_tup, t_ix, ts_nil, ts_cons, s_asg, s_par, s_aug, s_for, s_while, s_if, s_ret, s_retN, s_expr, s_raise, s_try, s_brk, s_cont, s_pass, ss_nil, ss_cons, bin_add, bin_sub, bin_addS, bin_addT, bin_addL, bin_mulL, aug_add, aug_sub, eqS_int, eqS_bl, c_eq, c_ne, c_lt, c_le, c_gt, c_ge, c_isN, c_isntN, bi_one, bi_two, bi1_int, bi1_bl, bi1_str, bi1_tup, bi1_ref, bi2_int, biI_int, biB_int, biI_abs, biT_len, biT_tuple, biT_list, biL_len, biL_tuple, biL_list, biL_sum, biL_any, biL_all, biII_max, biII_min, truth_bl, truth_int, truth_tup, truth_non, seq_tup, ix_ref, ix_tup, sl_tup, sl_ref, set_ref, mt_app, it_tup, it_ref, it_r1, it_r2, noerr_err, atI_0, atI_1, atI_2, atI_3, atI_l, bin_modp, bin_divp, bin_mulp, ixN_40, ixN_41, ixN_42, ixN_43, isR_excP, pow_10_18, atI_cast, List.length_map, Res.noerr_ok, Res.noerr_bad, ofO_some, isi_tuple_tuple, isi_tuple_str, isi_tuple_int, isi_tuple_bool, isi_str_tuple, isi_str_str, isi_str_int, isi_str_bool, isi_int_tuple, isi_int_str, isi_int_int, isi_int_bool, isi_bool_tuple, isi_bool_str, isi_bool_int, isi_bool_bool, isi_NoneType_tuple, isi_NoneType_str, isi_NoneType_int, isi_NoneType_bool, q_F_F, q_F_P, q_F_Q, q_F_Z, q_P_F, q_P_P, q_P_Q, q_P_Z, q_Q_F, q_Q_P, q_Q_Q, q_Q_Z, q_R_F, q_R_P, q_R_Q, q_R_Z, q_Z_F, q_Z_P, q_Z_Q, q_Z_Z, e1, e2, e3, okIf, hr, hr2, and_self, if_true, Int.toNat_natCast, range_ok (show n ≤ 1000 by omega), range_ok (show kk ≤ 1000 by omega), e4, c1, c2, c3, e5, c4, c5, e6]
theorem law_proved : ∀ (ns : List Int) (S : Store) (s : D), ns.length ≤ 63 → Scr S s ns → ∃ S', callF P (39 + 1) 43 [s] S = .ok (.bl true) S' := by
  intro ns S s _ hs
  rw [callF_of (f := F_law) rfl rfl]
  obtain ⟨c, l0, S1, e0, dr1⟩ := start_spec (k := 38) lw.h0 hs
  obtain ⟨f, S2, e1, hf, dr2, _⟩ := field_spec (k := 35) lw dr1 (by omega)
  obtain ⟨d1, S3, e2, a1, a2, dr3, _⟩ := take_spec (k := 37) (P := P) (many := 3) lw.h1 lw.h2 dr2 (by omega) (by omega) (by omega)
  obtain ⟨n, hn⟩ : ∃ n : Nat, (1 : Int) + d1 = n := ⟨(1 + d1).toNat, by omega⟩
  obtain ⟨d2, S4, e3, b1, b2, dr4, ex4⟩ := take_spec (k := 37) (P := P) (many := 2) lw.h1 lw.h2 (dr3.app [Cell.lst [.int ((n : Int) - 1), .int ((n : Int) + 1)]]) (by omega) (by omega) (by omega)
  have hc : S3.length ≠ c := by have := dr3.lt.1; omega
  have q4 := seq_lst (ex4.at hc (get_app (S := S3) (x := Cell.lst [.int ((n : Int) - 1), .int ((n : Int) + 1)])))
  have i4 := at2 (x := .int ((n : Int) - 1)) (y := .int ((n : Int) + 1)) b1 b2
  obtain ⟨kk, hk, hk2, hk3⟩ : ∃ kk : Nat, (if d2 = 0 then D.int ((n : Int) - 1) else D.int ((n : Int) + 1)) = .int kk ∧ kk ≤ 5 ∧ n ≠ kk := by
    by_cases h : d2 = 0
    · exact ⟨n - 1, by rw [if_pos h]; congr 1; omega, by omega, by omega⟩
    · exact ⟨n + 1, by rw [if_neg h]; congr 1, by omega, by omega⟩
  rw [hk] at i4
  obtain ⟨d3, S5, e4, b3, b4, dr5, _⟩ := take_spec (k := 37) (P := P) (many := 2) lw.h1 lw.h2 dr4 (by omega) (by omega) (by omega)
  simp only [Nat.reduceAdd] at e0 e1 e2 e3 e4
  by_cases h : d3 = 0
  · obtain ⟨S', t⟩ := branchA (s := s) (kk := kk) (n := n) (σ5 := .no) (σ6 := .no) (σ7 := .no) (σ8 := .no) (σ10 := .no) hf dr5 (by omega) (by omega) hk2
    refine ⟨trim S S' (.bl true), ?_⟩
    simp only [F_law, nth] at t ⊢
    simp (disch := omega) only [Int.natCast_zero, Int.natCast_one, Int.cast_ofNat_Int, Int.reduceEq, Int.reduceLT, Int.reduceLE, decide_true, decide_false, List.length_cons, List.length_nil, List.set_set, List.map_cons, List.map_nil, List.replicate_zero, List.replicate_succ, List.cons_append, List.nil_append, List.getElem?_cons_zero, List.getElem?_cons_succ, List.set_cons_zero, List.set_cons_succ, Nat.reduceSub, Nat.reduceAdd, Bool.not_true, Bool.not_false, wipeE, bnd_ok, bnd_err, bnd_bad, on_ok, on_err, on_bad, sel_true, sel_false, slotR_val, fnR_fn, isR_val, negR_int, notR_bl, blSel_bl, optR_int, augR_val, thn_next, thn_ret, thn_err, thn_brk, thn_cont, again_next, again_cont, again_brk, again_ret, again_err, ctch_next, ctch_ret, ctch_err, fin_ret, fin_next, fin_err, okIf_t, e_slot, e_lit, e_globP, e_tup, e_lst, e_bin, e_neg, e_not, e_and, e_or, e_cmp, e_cmp2, e_ite, e_call, e_callv, e_bi, e_bic, e_isi, e_isiS, e_mth, e_ix, e_sl, e_rev, e_lc, o_none, o_some, es_nil, es_cons, b_val, b_not, b_and, b_or, b_yes, c_mk, i_seq, i_range1, i_range2, i_range3, i_enum, t_slot, t_tup, t_ix, ts_nil, ts_cons, s_asg, s_par, s_aug, s_for, s_while, s_if, s_ret, s_retN, s_expr, s_raise, s_try, s_brk, s_cont, s_pass, ss_nil, ss_cons, bin_add, bin_sub, bin_addS, bin_addT, bin_addL, bin_mulL, aug_add, aug_sub, eqS_int, eqS_bl, c_eq, c_ne, c_lt, c_le, c_gt, c_ge, c_isN, c_isntN, bi_one, bi_two, bi1_int, bi1_bl, bi1_str, bi1_tup, bi1_ref, bi2_int, biI_int, biB_int, biI_abs, biT_len, biT_tuple, biT_list, biL_len, biL_tuple, biL_list, biL_sum, biL_any, biL_all, biII_max, biII_min, truth_bl, truth_int, truth_tup, truth_non, seq_tup, ix_ref, ix_tup, sl_tup, sl_ref, set_ref, mt_app, it_tup, it_ref, it_r1, it_r2, noerr_err, atI_0, atI_1, atI_2, atI_3, atI_l, bin_modp, bin_divp, bin_mulp, ixN_40, ixN_41, ixN_42, ixN_43, isR_excP, pow_10_18, atI_cast, List.length_map, Res.noerr_ok, Res.noerr_bad, ofO_some, isi_tuple_tuple, isi_tuple_str, isi_tuple_int, isi_tuple_bool, isi_str_tuple, isi_str_str, isi_str_int, isi_str_bool, isi_int_tuple, isi_int_str, isi_int_int, isi_int_bool, isi_bool_tuple, isi_bool_str, isi_bool_int, isi_bool_bool, isi_NoneType_tuple, isi_NoneType_str, isi_NoneType_int, isi_NoneType_bool, q_F_F, q_F_P, q_F_Q, q_F_Z, q_P_F, q_P_P, q_P_Q, q_P_Z, q_Q_F, q_Q_P, q_Q_Q, q_Q_Z, q_R_F, q_R_P, q_R_Q, q_R_Z, q_Z_F, q_Z_P, q_Z_Q, q_Z_Z, e0, e1, e2, hn, e3, q4, i4, e4, h] at t ⊢
    rw [t]
    simp (disch := omega) only [Int.natCast_zero, Int.natCast_one, Int.cast_ofNat_Int, Int.reduceEq, Int.reduceLT, Int.reduceLE, decide_true, decide_false, List.length_cons, List.length_nil, List.set_set, List.map_cons, List.map_nil, List.replicate_zero, List.replicate_succ, List.cons_append, List.nil_append, List.getElem?_cons_zero, List.getElem?_cons_succ, List.set_cons_zero, List.set_cons_succ, Nat.reduceSub, Nat.reduceAdd, Bool.not_true, Bool.not_false, wipeE, bnd_ok, bnd_err, bnd_bad, on_ok, on_err, on_bad, sel_true, sel_false, slotR_val, fnR_fn, isR_val, negR_int, notR_bl, blSel_bl, optR_int, augR_val, thn_next, thn_ret, thn_err, thn_brk, thn_cont, again_next, again_cont, again_brk, again_ret, again_err, ctch_next, ctch_ret, ctch_err, fin_ret, fin_next, fin_err, okIf_t, e_slot, e_lit, e_globP, e_tup, e_lst, e_bin, e_neg, e_not, e_and, e_or, e_cmp, e_cmp2, e_ite, e_call, e_callv, e_bi, e_bic, e_isi, e_isiS, e_mth, e_ix, e_sl, e_rev, e_lc, o_none, o_some, es_nil, es_cons, b_val, b_not, b_and, b_or, b_yes, c_mk, i_seq, i_range1, i_range2, i_range3, i_enum, t_slot, t_tup, t_ix, ts_nil, ts_cons, s_asg, s_par, s_aug, s_for, s_while, s_if, s_ret, s_retN, s_expr, s_raise, s_try, s_brk, s_cont, s_pass, ss_nil, ss_cons, bin_add, bin_sub, bin_addS, bin_addT, bin_addL, bin_mulL, aug_add, aug_sub, eqS_int, eqS_bl, c_eq, c_ne, c_lt, c_le, c_gt, c_ge, c_isN, c_isntN, bi_one, bi_two, bi1_int, bi1_bl, bi1_str, bi1_tup, bi1_ref, bi2_int, biI_int, biB_int, biI_abs, biT_len, biT_tuple, biT_list, biL_len, biL_tuple, biL_list, biL_sum, biL_any, biL_all, biII_max, biII_min, truth_bl, truth_int, truth_tup, truth_non, seq_tup, ix_ref, ix_tup, sl_tup, sl_ref, set_ref, mt_app, it_tup, it_ref, it_r1, it_r2, noerr_err, atI_0, atI_1, atI_2, atI_3, atI_l, bin_modp, bin_divp, bin_mulp, ixN_40, ixN_41, ixN_42, ixN_43, isR_excP, pow_10_18, atI_cast, List.length_map, Res.noerr_ok, Res.noerr_bad, ofO_some, isi_tuple_tuple, isi_tuple_str, isi_tuple_int, isi_tuple_bool, isi_str_tuple, isi_str_str, isi_str_int, isi_str_bool, isi_int_tuple, isi_int_str, isi_int_int, isi_int_bool, isi_bool_tuple, isi_bool_str, isi_bool_int, isi_bool_bool, isi_NoneType_tuple, isi_NoneType_str, isi_NoneType_int, isi_NoneType_bool, q_F_F, q_F_P, q_F_Q, q_F_Z, q_P_F, q_P_P, q_P_Q, q_P_Z, q_Q_F, q_Q_P, q_Q_Q, q_Q_Z, q_R_F, q_R_P, q_R_Q, q_R_Z, q_Z_F, q_Z_P, q_Z_Q, q_Z_Z, ]
  · obtain ⟨S', t⟩ := branchB (s := s) (kk := kk) (n := n) hf dr5 (by omega) (by omega) hk2 hk3
    refine ⟨trim S S' (.bl true), ?_⟩
    simp only [F_law] at t ⊢
    simp (disch := omega) only [Int.natCast_zero, Int.natCast_one, Int.cast_ofNat_Int, Int.reduceEq, Int.reduceLT, Int.reduceLE, decide_true, decide_false, List.length_cons, List.length_nil, List.set_set, List.map_cons, List.map_nil, List.replicate_zero, List.replicate_succ, List.cons_append, List.nil_append, List.getElem?_cons_zero, List.getElem?_cons_succ, List.set_cons_zero, List.set_cons_succ, Nat.reduceSub, Nat.reduceAdd, Bool.not_true, Bool.not_false, wipeE, bnd_ok, bnd_err, bnd_bad, on_ok, on_err, on_bad, sel_true, sel_false, slotR_val, fnR_fn, isR_val, negR_int, notR_bl, blSel_bl, optR_int, augR_val, thn_next, thn_ret, thn_err, thn_brk, thn_cont, again_next, again_cont, again_brk, again_ret, again_err, ctch_next, ctch_ret, ctch_err, fin_ret, fin_next, fin_err, okIf_t, e_slot, e_lit, e_globP, e_tup, e_lst, e_bin, e_neg, e_not, e_and, e_or, e_cmp, e_cmp2, e_ite, e_call, e_callv, e_bi, e_bic, e_isi, e_isiS, e_mth, e_ix, e_sl, e_rev, e_lc, o_none, o_some, es_nil, es_cons, b_val, b_not, b_and, b_or, b_yes, c_mk, i_seq, i_range1, i_range2, i_range3, i_enum, t_slot, t_tup, t_ix, ts_nil, ts_cons, s_asg, s_par, s_aug, s_for, s_while, s_if, s_ret, s_retN, s_expr, s_raise, s_try, s_brk, s_cont, s_pass, ss_nil, ss_cons, bin_add, bin_sub, bin_addS, bin_addT, bin_addL, bin_mulL, aug_add, aug_sub, eqS_int, eqS_bl, c_eq, c_ne, c_lt, c_le, c_gt, c_ge, c_isN, c_isntN, bi_one, bi_two, bi1_int, bi1_bl, bi1_str, bi1_tup, bi1_ref, bi2_int, biI_int, biB_int, biI_abs, biT_len, biT_tuple, biT_list, biL_len, biL_tuple, biL_list, biL_sum, biL_any, biL_all, biII_max, biII_min, truth_bl, truth_int, truth_tup, truth_non, seq_tup, ix_ref, ix_tup, sl_tup, sl_ref, set_ref, mt_app, it_tup, it_ref, it_r1, it_r2, noerr_err, atI_0, atI_1, atI_2, atI_3, atI_l, bin_modp, bin_divp, bin_mulp, ixN_40, ixN_41, ixN_42, ixN_43, isR_excP, pow_10_18, atI_cast, List.length_map, Res.noerr_ok, Res.noerr_bad, ofO_some, isi_tuple_tuple, isi_tuple_str, isi_tuple_int, isi_tuple_bool, isi_str_tuple, isi_str_str, isi_str_int, isi_str_bool, isi_int_tuple, isi_int_str, isi_int_int, isi_int_bool, isi_bool_tuple, isi_bool_str, isi_bool_int, isi_bool_bool, isi_NoneType_tuple, isi_NoneType_str, isi_NoneType_int, isi_NoneType_bool, q_F_F, q_F_P, q_F_Q, q_F_Z, q_P_F, q_P_P, q_P_Q, q_P_Z, q_Q_F, q_Q_P, q_Q_Q, q_Q_Z, q_R_F, q_R_P, q_R_Q, q_R_Z, q_Z_F, q_Z_P, q_Z_Q, q_Z_Z, e0, e1, e2, hn, e3, q4, i4, e4, h] at t ⊢
    rw [t]
    simp (disch := omega) only [Int.natCast_zero, Int.natCast_one, Int.cast_ofNat_Int, Int.reduceEq, Int.reduceLT, Int.reduceLE, decide_true, decide_false, List.length_cons, List.length_nil, List.set_set, List.map_cons, List.map_nil, List.replicate_zero, List.replicate_succ, List.cons_append, List.nil_append, List.getElem?_cons_zero, List.getElem?_cons_succ, List.set_cons_zero, List.set_cons_succ, Nat.reduceSub, Nat.reduceAdd, Bool.not_true, Bool.not_false, wipeE, bnd_ok, bnd_err, bnd_bad, on_ok, on_err, on_bad, sel_true, sel_false, slotR_val, fnR_fn, isR_val, negR_int, notR_bl, blSel_bl, optR_int, augR_val, thn_next, thn_ret, thn_err, thn_brk, thn_cont, again_next, again_cont, again_brk, again_ret, again_err, ctch_next, ctch_ret, ctch_err, fin_ret, fin_next, fin_err, okIf_t, e_slot, e_lit, e_globP, e_tup, e_lst, e_bin, e_neg, e_not, e_and, e_or, e_cmp, e_cmp2, e_ite, e_call, e_callv, e_bi, e_bic, e_isi, e_isiS, e_mth, e_ix, e_sl, e_rev, e_lc, o_none, o_some, es_nil, es_cons, b_val, b_not, b_and, b_or, b_yes, c_mk, i_seq, i_range1, i_range2, i_range3, i_enum, t_slot, t_tup, t_ix, ts_nil, ts_cons, s_asg, s_par, s_aug, s_for, s_while, s_if, s_ret, s_retN, s_expr, s_raise, s_try, s_brk, s_cont, s_pass, ss_nil, ss_cons, bin_add, bin_sub, bin_addS, bin_addT, bin_addL, bin_mulL, aug_add, aug_sub, eqS_int, eqS_bl, c_eq, c_ne, c_lt, c_le, c_gt, c_ge, c_isN, c_isntN, bi_one, bi_two, bi1_int, bi1_bl, bi1_str, bi1_tup, bi1_ref, bi2_int, biI_int, biB_int, biI_abs, biT_len, biT_tuple, biT_list, biL_len, biL_tuple, biL_list, biL_sum, biL_any, biL_all, biII_max, biII_min, truth_bl, truth_int, truth_tup, truth_non, seq_tup, ix_ref, ix_tup, sl_tup, sl_ref, set_ref, mt_app, it_tup, it_ref, it_r1, it_r2, noerr_err, atI_0, atI_1, atI_2, atI_3, atI_l, bin_modp, bin_divp, bin_mulp, ixN_40, ixN_41, ixN_42, ixN_43, isR_excP, pow_10_18, atI_cast, List.length_map, Res.noerr_ok, Res.noerr_bad, ofO_some, isi_tuple_tuple, isi_tuple_str, isi_tuple_int, isi_tuple_bool, isi_str_tuple, isi_str_str, isi_str_int, isi_str_bool, isi_int_tuple, isi_int_str, isi_int_int, isi_int_bool, isi_bool_tuple, isi_bool_str, isi_bool_int, isi_bool_bool, isi_NoneType_tuple, isi_NoneType_str, isi_NoneType_int, isi_NoneType_bool, q_F_F, q_F_P, q_F_Q, q_F_Z, q_P_F, q_P_P, q_P_Q, q_P_Z, q_Q_F, q_Q_P, q_Q_Q, q_Q_Z, q_R_F, q_R_P, q_R_Q, q_R_Z, q_Z_F, q_Z_P, q_Z_Q, q_Z_Z, ]
end K67

namespace K67
open PySem L2 EV PyProof.Rows
theorem top {w : World} {K : PySem.W.Frag} {h : Heap} {mg : Str → Option Value} {fa : Addr} {a0 a1 a2 a3 a4 a5 a6 a7 a8 a9 a10 a11 a12 a13 a14 a15 a16 a17 a18 a19 a20 a21 a22 a23 a24 a25 a26 a27 a28 a29 a30 a31 a32 a33 a34 a35 a36 a37 a38 a39 a40 a41 a42 a43 : Addr} {c0 c1 c2 c3 : Addr} (KX : K.In h) (NS : h.Ns mainGlobals mg) (hfa : mg "law" = some (.ref fa))
    (h0 : FnAt K mg "_law_start" (atTop 113) a0)
    (h1 : FnAt K mg "_law_fill" (atTop 114) a1)
    (h2 : FnAt K mg "_law_take" (atTop 115) a2)
    (h3 : FnAt K mg "_law_some_prime" (atTop 128) a3)
    (h4 : FnAt K mg "_law_field" (atTop 129) a4)
    (h5 : FnAt K mg "_law_common" (atTop 117) a5)
    (h6 : FnAt K mg "_law_fraction" (atTop 118) a6)
    (h7 : FnAt K mg "_law_zero" (atTop 119) a7)
    (h8 : FnAt K mg "_law_strip" (atTop 120) a8)
    (h9 : FnAt K mg "_law_small" (atTop 133) a9)
    (h10 : FnAt K mg "_law_matrix" (atTop 134) a10)
    (h11 : FnAt K mg "_law_called" (atTop 141) a11)
    (h12 : FnAt K mg "_law_class" (atTop 142) a12)
    (h13 : FnAt K mg "_law_all" (atTop 143) a13)
    (h14 : FnAt K mg "_law_number" (atTop 121) a14)
    (h15 : FnAt K mg "is_integer" (atTop 15) a15)
    (h16 : FnAt K mg "is_prime" (atTop 8) a16)
    (h17 : FnAt K mg "is_field" (atTop 17) a17)
    (h18 : FnAt K mg "need_field" (atTop 20) a18)
    (h19 : FnAt K mg "need_shape" (atTop 35) a19)
    (h20 : FnAt K mg "need_square" (atTop 36) a20)
    (h21 : FnAt K mg "characteristic" (atTop 60) a21)
    (h22 : FnAt K mg "annihilator" (atTop 62) a22)
    (h23 : FnAt K mg "cyclic_pair" (atTop 68) a23)
    (h24 : FnAt K mg "minimal" (atTop 69) a24)
    (h25 : FnAt K mg "cyclic_vector" (atTop 70) a25)
    (h26 : FnAt K mg "krylov" (atTop 63) a26)
    (h27 : FnAt K mg "decompose" (atTop 84) a27)
    (h28 : FnAt K mg "invariant_factors" (atTop 85) a28)
    (h29 : FnAt K mg "companion" (atTop 71) a29)
    (h30 : FnAt K mg "frobenius" (atTop 86) a30)
    (h31 : FnAt K mg "roots" (atTop 101) a31)
    (h32 : FnAt K mg "eigenvalues" (atTop 103) a32)
    (h33 : FnAt K mg "splits" (atTop 105) a33)
    (h34 : FnAt K mg "jordan_block" (atTop 104) a34)
    (h35 : FnAt K mg "jordan" (atTop 110) a35)
    (h36 : FnAt K mg "unsplit" (atTop 106) a36)
    (h37 : FnAt K mg "is_diagonal" (atTop 111) a37)
    (h38 : FnAt K mg "_law_single" (atTop 145) a38)
    (h39 : FnAt K mg "similarity" (atTop 87) a39)
    (h40 : FnAt K mg "difference" (atTop 88) a40)
    (h41 : FnAt K mg "_law_double" (atTop 146) a41)
    (h42 : FnAt K mg "_law_no_domain" (atTop 144) a42)
    (h43 : FnAt K mg "law" (atTop 147) a43)
    (q0 : ClsAt K mg "EchelonError" c0)
    (q1 : ClsAt K mg "DomainError" c1)
    (q2 : ClsAt K mg "ShapeError" c2)
    (q3 : ClsAt K mg "SingularError" c3)
    (z0 : mg "int" = none)
    (z1 : mg "len" = none)
    (z2 : mg "any" = none)
    (z3 : mg "range" = none)
    (z4 : mg "tuple" = none)
    (z5 : mg "abs" = none)
    (z6 : mg "all" = none)
    (z7 : mg "isinstance" = none)
    (z8 : mg "ValueError" = none)
    (z9 : mg "bool" = none)
    (z10 : mg "str" = none)
    (z11 : mg "sum" = none)
    (z12 : mg "sorted" = none)
    (z13 : mg "enumerate" = none)
    (z14 : mg "list" = none)
    {t0 : Tok} (g0 : mg "MOST_PRIME" = some (.int (65521) t0))
    (e0 : ExcC K c0)
    (e1 : ExcC K c1)
    (e2 : ExcC K c2)
    (e3 : ExcC K c3)
    (s0 : PySem.W.kitOne K (.ref c0) (.ref c0) = some true ∧ PySem.W.exmOne K (.ref c0) (.ref c0) = some true)
    (s1 : PySem.W.kitOne K (.ref c0) (.ref c1) = some false ∧ PySem.W.exmOne K (.ref c0) (.ref c1) = some false)
    (s2 : PySem.W.kitOne K (.ref c0) (.ref c2) = some false ∧ PySem.W.exmOne K (.ref c0) (.ref c2) = some false)
    (s3 : PySem.W.kitOne K (.ref c0) (.ref c3) = some false ∧ PySem.W.exmOne K (.ref c0) (.ref c3) = some false)
    (s4 : PySem.W.kitOne K (.ref c0) (.type "ValueError") = some true ∧ PySem.W.exmOne K (.ref c0) (.type "ValueError") = some true)
    (s5 : PySem.W.kitOne K (.ref c1) (.ref c0) = some true ∧ PySem.W.exmOne K (.ref c1) (.ref c0) = some true)
    (s6 : PySem.W.kitOne K (.ref c1) (.ref c1) = some true ∧ PySem.W.exmOne K (.ref c1) (.ref c1) = some true)
    (s7 : PySem.W.kitOne K (.ref c1) (.ref c2) = some false ∧ PySem.W.exmOne K (.ref c1) (.ref c2) = some false)
    (s8 : PySem.W.kitOne K (.ref c1) (.ref c3) = some false ∧ PySem.W.exmOne K (.ref c1) (.ref c3) = some false)
    (s9 : PySem.W.kitOne K (.ref c1) (.type "ValueError") = some true ∧ PySem.W.exmOne K (.ref c1) (.type "ValueError") = some true)
    (s10 : PySem.W.kitOne K (.ref c2) (.ref c0) = some true ∧ PySem.W.exmOne K (.ref c2) (.ref c0) = some true)
    (s11 : PySem.W.kitOne K (.ref c2) (.ref c1) = some false ∧ PySem.W.exmOne K (.ref c2) (.ref c1) = some false)
    (s12 : PySem.W.kitOne K (.ref c2) (.ref c2) = some true ∧ PySem.W.exmOne K (.ref c2) (.ref c2) = some true)
    (s13 : PySem.W.kitOne K (.ref c2) (.ref c3) = some false ∧ PySem.W.exmOne K (.ref c2) (.ref c3) = some false)
    (s14 : PySem.W.kitOne K (.ref c2) (.type "ValueError") = some true ∧ PySem.W.exmOne K (.ref c2) (.type "ValueError") = some true)
    (s15 : PySem.W.kitOne K (.ref c3) (.ref c0) = some true ∧ PySem.W.exmOne K (.ref c3) (.ref c0) = some true)
    (s16 : PySem.W.kitOne K (.ref c3) (.ref c1) = some false ∧ PySem.W.exmOne K (.ref c3) (.ref c1) = some false)
    (s17 : PySem.W.kitOne K (.ref c3) (.ref c2) = some false ∧ PySem.W.exmOne K (.ref c3) (.ref c2) = some false)
    (s18 : PySem.W.kitOne K (.ref c3) (.ref c3) = some true ∧ PySem.W.exmOne K (.ref c3) (.ref c3) = some true)
    (s19 : PySem.W.kitOne K (.ref c3) (.type "ValueError") = some true ∧ PySem.W.exmOne K (.ref c3) (.type "ValueError") = some true)
    : ∃ fd : FuncData, (∀ (s : Shared) (u : Value), BindsTo s fd ⟨[u], []⟩ [("_law_script", u)]) ∧ ∀ base : Heap, K.In base → base.Ns mainGlobals mg → FnOk PySem.Challenge.rw_echelon_k67_refused_operators.prog w K mg base (L2.CX PySem.Challenge.rw_echelon_k67_refused_operators.prog w) (2 * (39 + 1)) fa fd ["_law_script"] (spLaw K 63) :=
  law_at (i := 43) (f := F_law) (n := 63) (m := 60) (st := atTop 147) (N := n43) hfa (pok h0 h1 h2 h3 h4 h5 h6 h7 h8 h9 h10 h11 h12 h13 h14 h15 h16 h17 h18 h19 h20 h21 h22 h23 h24 h25 h26 h27 h28 h29 h30 h31 h32 h33 h34 h35 h36 h37 h38 h39 h40 h41 h42 h43 q0 q1 q2 q3 z0 z1 z2 z3 z4 z5 z6 z7 z8 z9 z10 z11 z12 z13 z14 g0 e0 e1 e2 e3 s0 s1 s2 s3 s4 s5 s6 s7 s8 s9 s10 s11 s12 s13 s14 s15 s16 s17 s18 s19) rfl h43 sc43 (by decide +kernel) cm43 rfl rfl (by decide) bd43 law_proved
end K67

namespace K67
open PySem L2 EV PyProof.Rows
def dd : List He.DefD := [dOf "_law_start" (atTop 113), dOf "_law_fill" (atTop 114), dOf "_law_take" (atTop 115), dOf "_law_some_prime" (atTop 128), dOf "_law_field" (atTop 129), dOf "_law_common" (atTop 117), dOf "_law_fraction" (atTop 118), dOf "_law_zero" (atTop 119), dOf "_law_strip" (atTop 120), dOf "_law_small" (atTop 133), dOf "_law_matrix" (atTop 134), dOf "_law_called" (atTop 141), dOf "_law_class" (atTop 142), dOf "_law_all" (atTop 143), dOf "_law_number" (atTop 121), dOf "is_integer" (atTop 15), dOf "is_prime" (atTop 8), dOf "is_field" (atTop 17), dOf "need_field" (atTop 20), dOf "need_shape" (atTop 35), dOf "need_square" (atTop 36), dOf "characteristic" (atTop 60), dOf "annihilator" (atTop 62), dOf "cyclic_pair" (atTop 68), dOf "minimal" (atTop 69), dOf "cyclic_vector" (atTop 70), dOf "krylov" (atTop 63), dOf "decompose" (atTop 84), dOf "invariant_factors" (atTop 85), dOf "companion" (atTop 71), dOf "frobenius" (atTop 86), dOf "roots" (atTop 101), dOf "eigenvalues" (atTop 103), dOf "splits" (atTop 105), dOf "jordan_block" (atTop 104), dOf "jordan" (atTop 110), dOf "unsplit" (atTop 106), dOf "is_diagonal" (atTop 111), dOf "_law_single" (atTop 145), dOf "similarity" (atTop 87), dOf "difference" (atTop 88), dOf "_law_double" (atTop 146), dOf "_law_no_domain" (atTop 144), dOf "law" (atTop 147)]
def fa : List He.Fa := [.glo "_law_start", .glo "_law_fill", .glo "_law_take", .glo "_law_some_prime", .glo "_law_field", .glo "_law_common", .glo "_law_fraction", .glo "_law_zero", .glo "_law_strip", .glo "_law_small", .glo "_law_matrix", .glo "_law_called", .glo "_law_class", .glo "_law_all", .glo "_law_number", .glo "is_integer", .glo "is_prime", .glo "is_field", .glo "need_field", .glo "need_shape", .glo "need_square", .glo "characteristic", .glo "annihilator", .glo "cyclic_pair", .glo "minimal", .glo "cyclic_vector", .glo "krylov", .glo "decompose", .glo "invariant_factors", .glo "companion", .glo "frobenius", .glo "roots", .glo "eigenvalues", .glo "splits", .glo "jordan_block", .glo "jordan", .glo "unsplit", .glo "is_diagonal", .glo "_law_single", .glo "similarity", .glo "difference", .glo "_law_double", .glo "_law_no_domain", .glo "law", .glo "EchelonError", .glo "DomainError", .glo "ShapeError", .glo "SingularError", .exc "EchelonError", .exc "DomainError", .exc "ShapeError", .exc "SingularError", .free "int", .free "len", .free "any", .free "range", .free "tuple", .free "abs", .free "all", .free "isinstance", .free "ValueError", .free "bool", .free "str", .free "sum", .free "sorted", .free "enumerate", .free "list", .int "MOST_PRIME" (65521)]
def ext (K : PySem.W.Frag) : List Bool := [excB K (He.ga K "EchelonError"), excB K (He.ga K "DomainError"), excB K (He.ga K "ShapeError"), excB K (He.ga K "SingularError"), subB K (He.ga K "EchelonError") (.ref (He.ga K "EchelonError")) true, subB K (He.ga K "EchelonError") (.ref (He.ga K "DomainError")) false, subB K (He.ga K "EchelonError") (.ref (He.ga K "ShapeError")) false, subB K (He.ga K "EchelonError") (.ref (He.ga K "SingularError")) false, subB K (He.ga K "EchelonError") (.type "ValueError") true, subB K (He.ga K "DomainError") (.ref (He.ga K "EchelonError")) true, subB K (He.ga K "DomainError") (.ref (He.ga K "DomainError")) true, subB K (He.ga K "DomainError") (.ref (He.ga K "ShapeError")) false, subB K (He.ga K "DomainError") (.ref (He.ga K "SingularError")) false, subB K (He.ga K "DomainError") (.type "ValueError") true, subB K (He.ga K "ShapeError") (.ref (He.ga K "EchelonError")) true, subB K (He.ga K "ShapeError") (.ref (He.ga K "DomainError")) false, subB K (He.ga K "ShapeError") (.ref (He.ga K "ShapeError")) true, subB K (He.ga K "ShapeError") (.ref (He.ga K "SingularError")) false, subB K (He.ga K "ShapeError") (.type "ValueError") true, subB K (He.ga K "SingularError") (.ref (He.ga K "EchelonError")) true, subB K (He.ga K "SingularError") (.ref (He.ga K "DomainError")) false, subB K (He.ga K "SingularError") (.ref (He.ga K "ShapeError")) false, subB K (He.ga K "SingularError") (.ref (He.ga K "SingularError")) true, subB K (He.ga K "SingularError") (.type "ValueError") true]
def ck (K : PySem.W.Frag) : Bool := (fa.all fun f => f.ok K) && (ext K).all id
abbrev R : PySem.W.OpenRow := PySem.W.OpenLaw.row PySem.Challenge.rw_echelon_k67_refused_operators
def hnames : List Str := [("_law_start" : Str), ("_law_fill" : Str), ("_law_take" : Str), ("_law_some_prime" : Str), ("_law_field" : Str), ("_law_common" : Str), ("_law_fraction" : Str), ("_law_zero" : Str), ("_law_strip" : Str), ("_law_small" : Str), ("_law_matrix" : Str), ("_law_called" : Str), ("_law_class" : Str), ("_law_all" : Str), ("_law_number" : Str), ("is_integer" : Str), ("is_prime" : Str), ("is_field" : Str), ("need_field" : Str), ("need_shape" : Str), ("need_square" : Str), ("characteristic" : Str), ("annihilator" : Str), ("cyclic_pair" : Str), ("minimal" : Str), ("cyclic_vector" : Str), ("krylov" : Str), ("decompose" : Str), ("invariant_factors" : Str), ("companion" : Str), ("frobenius" : Str), ("roots" : Str), ("eigenvalues" : Str), ("splits" : Str), ("jordan_block" : Str), ("jordan" : Str), ("unsplit" : Str), ("is_diagonal" : Str), ("_law_single" : Str), ("similarity" : Str), ("difference" : Str), ("_law_double" : Str), ("_law_no_domain" : Str), ("law" : Str), ("EchelonError" : Str), ("DomainError" : Str), ("ShapeError" : Str), ("SingularError" : Str)]
abbrev hk : PySem.W.Hook := hookX 2 hnames ck dd
def ob (s : PySem.W.SharedT) : He.AlD := seesX 2 hnames ck dd (HandSHeadRun.getT s)
theorem ob_eq (s : PySem.W.SharedT) : ob s = hk.obs s.abs := seesX_eq (HandSHeadRun.getT_eq s)
def loose0 : List Str := [("EchelonError" : Str), ("DomainError" : Str), ("ShapeError" : Str), ("SingularError" : Str), ("common" : Str), ("divisor" : Str), ("is_prime" : Str), ("next_prime" : Str), ("fraction" : Str), ("symmetric" : Str), ("is_less" : Str), ("MOST_PRIME" : Str), ("is_integer" : Str), ("is_domain" : Str), ("is_field" : Str), ("is_euclidean" : Str), ("need_domain" : Str), ("need_field" : Str), ("need_euclidean" : Str), ("zero" : Str), ("one" : Str), ("from_integer" : Str), ("trimmed" : Str), ("add" : Str), ("negate" : Str), ("subtract" : Str), ("multiply" : Str), ("inverse" : Str), ("divide" : Str), ("normal" : Str), ("exact" : Str), ("need_shape" : Str), ("need_square" : Str), ("identity" : Str), ("zero_matrix" : Str), ("plus" : Str), ("dot" : Str), ("times" : Str), ("scaled" : Str), ("transposed" : Str)]
def loose1 : List Str := [("applied" : Str), ("row_times" : Str), ("beside" : Str), ("part" : Str), ("diagonal" : Str), ("evaluated" : Str), ("degree" : Str), ("derivative" : Str), ("power_modulo" : Str), ("common_part" : Str), ("lift_root" : Str), ("hessenberg" : Str), ("exchange" : Str), ("clear_entry" : Str), ("characteristic" : Str), ("Span" : Str), ("annihilator" : Str), ("krylov" : Str), ("polynomial_applied" : Str), ("part_within" : Str), ("joined" : Str), ("unit_vector" : Str), ("cyclic_pair" : Str), ("minimal" : Str), ("cyclic_vector" : Str), ("companion" : Str), ("add_row" : Str), ("eliminate" : Str), ("with_identity" : Str), ("reduce" : Str), ("pivots_of" : Str), ("rank" : Str), ("solve" : Str), ("inverted" : Str), ("complement" : Str), ("kernel_columns" : Str), ("decompose" : Str), ("invariant_factors" : Str), ("frobenius" : Str), ("similarity" : Str)]
def loose2 : List Str := [("difference" : Str), ("variable" : Str), ("trial" : Str), ("image_of" : Str), ("split_equal" : Str), ("prime_roots" : Str), ("integer_form" : Str), ("monic_form" : Str), ("value_of" : Str), ("good_prime" : Str), ("integer_roots" : Str), ("fraction_roots" : Str), ("roots" : Str), ("eigenvalues" : Str), ("jordan_block" : Str), ("splits" : Str), ("unsplit" : Str), ("factor_power" : Str), ("chain" : Str), ("blocks_of" : Str), ("jordan" : Str), ("is_diagonal" : Str), ("_law_start" : Str), ("_law_fill" : Str), ("_law_take" : Str), ("_law_raised" : Str), ("_law_common" : Str), ("_law_fraction" : Str), ("_law_zero" : Str), ("_law_strip" : Str), ("_law_number" : Str), ("_law_part" : Str), ("_law_add" : Str), ("_law_multiply" : Str), ("_law_subtract" : Str), ("_law_power" : Str), ("_law_inverse" : Str), ("_law_some_prime" : Str), ("_law_field" : Str), ("_law_domain" : Str)]
def loose3 : List Str := [("_law_integer" : Str), ("_law_element" : Str), ("_law_small" : Str), ("_law_matrix" : Str), ("_law_dot" : Str), ("_law_column" : Str), ("_law_product" : Str), ("_law_identity" : Str), ("_law_shape" : Str), ("_law_low" : Str), ("_law_called" : Str), ("_law_class" : Str), ("_law_all" : Str), ("_law_no_domain" : Str), ("_law_single" : Str), ("_law_double" : Str)]
def loose : List Str := loose0 ++ (loose1 ++ (loose2 ++ (loose3)))
theorem run (w : World) : HandSHeadRun.RunEq R (PySem.W.view R.prog [147]) hk ob 12000 loose w := by
  intro os
  kernel_rfl
theorem facts {w : World} {K : PySem.W.Frag} {h : Heap} {mg : Str → Option Value} {f : Addr} (X : K.In h) (G : h.Ns mainGlobals mg) (hfa : mg ("law" : Str) = some (.ref f)) (c : lookX ck dd K = He.valD dd) :
    ∃ fd : FuncData, (∀ (s : Shared) (u : Value), BindsTo s fd ⟨[u], []⟩ [("_law_script", u)]) ∧ ∀ base : Heap, K.In base → base.Ns mainGlobals mg → FnOk PySem.Challenge.rw_echelon_k67_refused_operators.prog w K mg base (L2.CX PySem.Challenge.rw_echelon_k67_refused_operators.prog w) (2 * (39 + 1)) f fd ["_law_script"] (spLaw K 63) := by
  obtain ⟨k1, k2⟩ := He.ba (saysX_ck c)
  have F : ∀ (i : Nat) (z : He.Fa), fa[i]? = some z → z.ok K = true := fun i z hz => List.all_eq_true.mp k1 z (List.mem_of_getElem? hz)
  have E : ∀ (i : Nat) (b : Bool), (ext K)[i]? = some b → b = true := fun i b hb => List.all_eq_true.mp k2 b (List.mem_of_getElem? hb)
  obtain ⟨t0, g0⟩ := He.int_ok X G (F 67 _ rfl)
  exact top X G hfa (FnAt.ofX X G c 0 rfl (F 0 _ rfl))
    (FnAt.ofX X G c 1 rfl (F 1 _ rfl))
    (FnAt.ofX X G c 2 rfl (F 2 _ rfl))
    (FnAt.ofX X G c 3 rfl (F 3 _ rfl))
    (FnAt.ofX X G c 4 rfl (F 4 _ rfl))
    (FnAt.ofX X G c 5 rfl (F 5 _ rfl))
    (FnAt.ofX X G c 6 rfl (F 6 _ rfl))
    (FnAt.ofX X G c 7 rfl (F 7 _ rfl))
    (FnAt.ofX X G c 8 rfl (F 8 _ rfl))
    (FnAt.ofX X G c 9 rfl (F 9 _ rfl))
    (FnAt.ofX X G c 10 rfl (F 10 _ rfl))
    (FnAt.ofX X G c 11 rfl (F 11 _ rfl))
    (FnAt.ofX X G c 12 rfl (F 12 _ rfl))
    (FnAt.ofX X G c 13 rfl (F 13 _ rfl))
    (FnAt.ofX X G c 14 rfl (F 14 _ rfl))
    (FnAt.ofX X G c 15 rfl (F 15 _ rfl))
    (FnAt.ofX X G c 16 rfl (F 16 _ rfl))
    (FnAt.ofX X G c 17 rfl (F 17 _ rfl))
    (FnAt.ofX X G c 18 rfl (F 18 _ rfl))
    (FnAt.ofX X G c 19 rfl (F 19 _ rfl))
    (FnAt.ofX X G c 20 rfl (F 20 _ rfl))
    (FnAt.ofX X G c 21 rfl (F 21 _ rfl))
    (FnAt.ofX X G c 22 rfl (F 22 _ rfl))
    (FnAt.ofX X G c 23 rfl (F 23 _ rfl))
    (FnAt.ofX X G c 24 rfl (F 24 _ rfl))
    (FnAt.ofX X G c 25 rfl (F 25 _ rfl))
    (FnAt.ofX X G c 26 rfl (F 26 _ rfl))
    (FnAt.ofX X G c 27 rfl (F 27 _ rfl))
    (FnAt.ofX X G c 28 rfl (F 28 _ rfl))
    (FnAt.ofX X G c 29 rfl (F 29 _ rfl))
    (FnAt.ofX X G c 30 rfl (F 30 _ rfl))
    (FnAt.ofX X G c 31 rfl (F 31 _ rfl))
    (FnAt.ofX X G c 32 rfl (F 32 _ rfl))
    (FnAt.ofX X G c 33 rfl (F 33 _ rfl))
    (FnAt.ofX X G c 34 rfl (F 34 _ rfl))
    (FnAt.ofX X G c 35 rfl (F 35 _ rfl))
    (FnAt.ofX X G c 36 rfl (F 36 _ rfl))
    (FnAt.ofX X G c 37 rfl (F 37 _ rfl))
    (FnAt.ofX X G c 38 rfl (F 38 _ rfl))
    (FnAt.ofX X G c 39 rfl (F 39 _ rfl))
    (FnAt.ofX X G c 40 rfl (F 40 _ rfl))
    (FnAt.ofX X G c 41 rfl (F 41 _ rfl))
    (FnAt.ofX X G c 42 rfl (F 42 _ rfl))
    (FnAt.ofX X G c 43 rfl (F 43 _ rfl))
    (ClsAt.ofX X G (F 44 _ rfl) (F 48 _ rfl))
    (ClsAt.ofX X G (F 45 _ rfl) (F 49 _ rfl))
    (ClsAt.ofX X G (F 46 _ rfl) (F 50 _ rfl))
    (ClsAt.ofX X G (F 47 _ rfl) (F 51 _ rfl))
    (He.free_ok X G (F 52 _ rfl))
    (He.free_ok X G (F 53 _ rfl))
    (He.free_ok X G (F 54 _ rfl))
    (He.free_ok X G (F 55 _ rfl))
    (He.free_ok X G (F 56 _ rfl))
    (He.free_ok X G (F 57 _ rfl))
    (He.free_ok X G (F 58 _ rfl))
    (He.free_ok X G (F 59 _ rfl))
    (He.free_ok X G (F 60 _ rfl))
    (He.free_ok X G (F 61 _ rfl))
    (He.free_ok X G (F 62 _ rfl))
    (He.free_ok X G (F 63 _ rfl))
    (He.free_ok X G (F 64 _ rfl))
    (He.free_ok X G (F 65 _ rfl))
    (He.free_ok X G (F 66 _ rfl))
    g0
    (excB_ok (E 0 _ rfl))
    (excB_ok (E 1 _ rfl))
    (excB_ok (E 2 _ rfl))
    (excB_ok (E 3 _ rfl))
    (subB_ok (E 4 _ rfl))
    (subB_ok (E 5 _ rfl))
    (subB_ok (E 6 _ rfl))
    (subB_ok (E 7 _ rfl))
    (subB_ok (E 8 _ rfl))
    (subB_ok (E 9 _ rfl))
    (subB_ok (E 10 _ rfl))
    (subB_ok (E 11 _ rfl))
    (subB_ok (E 12 _ rfl))
    (subB_ok (E 13 _ rfl))
    (subB_ok (E 14 _ rfl))
    (subB_ok (E 15 _ rfl))
    (subB_ok (E 16 _ rfl))
    (subB_ok (E 17 _ rfl))
    (subB_ok (E 18 _ rfl))
    (subB_ok (E 19 _ rfl))
    (subB_ok (E 20 _ rfl))
    (subB_ok (E 21 _ rfl))
    (subB_ok (E 22 _ rfl))
    (subB_ok (E 23 _ rfl))
end K67
open PySem PySem.W PySem.Calls PyProof.Rows
set_option maxHeartbeats 0 in
theorem PySem.Challenge.cw_echelon_k67_refused_operators_holds : PySem.Challenge.rw_echelon_k67_refused_operators.Holds := by
  w_on; o_law
  refine HandSHeadRun.head_any (r := OpenLaw.row PySem.Challenge.rw_echelon_k67_refused_operators) (q := view (OpenLaw.row PySem.Challenge.rw_echelon_k67_refused_operators).prog [147]) (H := K67.hk) (ob := K67.ob) (M := 12000) (loose := K67.loose) (d := HandSHeadRun.topDef (OpenLaw.row PySem.Challenge.rw_echelon_k67_refused_operators).prog 147) (kwd := []) K67.ob_eq
    (by kernel_rfl) (fun s => by kernel_rfl) K67.run (by kernel_rfl) (by kernel_rfl) (by kernel_rfl) (by rfl) (by first | assumption | decide +kernel) (by decide +kernel) ⟨rfl, rfl, rfl, rfl, rfl, by decide +kernel⟩ ?hw ?hc
  case hw => w_witness2
  case hc =>
    refine EV.walkX (law := PySem.Challenge.rw_echelon_k67_refused_operators) (most := 63) (lvl := 2 * (39 + 1)) (x := "_law_script") rfl (by decide) (by kernel_rfl) ⟨rfl, by decide, by decide⟩ fun w mg fa hp Y G hmg0 => ?_
    obtain ⟨K, KX, c⟩ := Y
    have nm : (HandSHeadRun.topDef (OpenLaw.row PySem.Challenge.rw_echelon_k67_refused_operators).prog 147).name = ("law" : PySem.Str) := by kernel_rfl
    obtain ⟨fd, hb, hF⟩ := K67.facts (w := w) KX G (nm ▸ hmg0) c
    exact ⟨K, fd, KX, hb, hF⟩
