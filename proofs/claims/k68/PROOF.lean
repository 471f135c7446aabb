import PyProof.Rows.All
import Wide.All
import OpenK.AllK
import Wide.FinOn
import HandS.ForMost
import HandS.Deep
import KE.DataCmp
import HandS.TupMul
import HandS.Wide
import HandS.WideBits
import HandS.TupAny
import HandS.IsInst
import HandS.Conv
import HandS.TupLen
import HandS.WordsDict
import HandS.RaiseMore
import HandS.More
import KE.KTupSum
import KE.SortData
import KE.DataMinMax
import HandS.Text
import HandS.SetFor
import HandS.Style
import HandS.ListEq
import KE.DataFind
import HandS.Comp
import HandS.DictComp
import HandS.Codes
import HandS.Iter
import HandS.Rev
import HandS.Zip
import HandS.Flow
import HandS.WideMore
import PySem.Challenge.RW_nozeroflows_k68_whole_sums_over_colours
set_option linter.all false
/-! Ev: an own evaluator of a small language (annotated terms) on plain data. -/
namespace Ev
open PySem (Str)

/-- plain data; ref: an object that may change, by its place in the store -/
inductive D where
  | non | bl (b : Bool) | int (i : Int) | str (x : Str)
  | tup (l : List D) | lst (l : List D)
  | dct (tk : Bool) (ks vs : List D) | set (l : List D)      -- tk: the keys are tuples
  | obj (c : Nat) (fs : List Str) (vs : List D)
  | ref (n : Nat)
  deriving Inhabited

/-- what stands in the store -/
inductive Ob where
  | lst (l : List D) | dct (tk : Bool) (ks vs : List D) | ins (c : Nat) (fs : List Str) (vs : List D) | gone
  deriving Inhabited

/-- a run's end -/
inductive R (α : Type) where
  | ok (a : α) (st : List Ob) | bad

def bnd {α β : Type} (m : R α) (f : α → List Ob → R β) : R β :=
  match m with
  | .ok a st => f a st
  | .bad => .bad
@[simp] theorem bnd_ok {α β : Type} (a : α) (st : List Ob) (f : α → List Ob → R β) : bnd (.ok a st) f = f a st := rfl
@[simp] theorem bnd_bad {α β : Type} (f : α → List Ob → R β) : bnd (.bad : R α) f = .bad := rfl
def ofO {α β : Type} (o : Option α) (f : α → R β) : R β :=
  match o with
  | some a => f a
  | none => .bad
@[simp] theorem ofO_some {α β : Type} (a : α) (f : α → R β) : ofO (some a) f = f a := rfl
@[simp] theorem ofO_none {α β : Type} (f : α → R β) : ofO (none : Option α) f = .bad := rfl
def chk {β : Type} (b : Bool) (m : R β) : R β := match b with | true => m | false => .bad
@[simp] theorem chk_true {β : Type} (m : R β) : chk true m = m := rfl
@[simp] theorem chk_false {β : Type} (m : R β) : chk false m = .bad := rfl

/-! ### data -/
mutual
/-- no object that may change is in it -/
def D.pure : D → Bool
  | .ref _ => false
  | .tup l => D.pures l
  | .lst l => D.pures l
  | .dct _ ks vs => D.pures ks && D.pures vs
  | .set l => D.pures l
  | .obj _ _ vs => D.pures vs
  | .non => true
  | .bl _ => true
  | .int _ => true
  | .str _ => true
def D.pures : List D → Bool
  | [] => true
  | d :: r => D.pure d && D.pures r
end
mutual
/-- == of Python (dicts, sets, instances: see cmpb) -/
def D.peq : D → D → Bool
  | .non, e => match e with | .non => true | _ => false
  | .bl a, e => match e with | .bl b => a == b | .int j => decide ((if a = true then 1 else 0) = j) | _ => false
  | .int i, e => match e with | .int j => decide (i = j) | .bl b => decide (i = (if b = true then 1 else 0)) | _ => false
  | .str x, e => match e with | .str y => decide (x = y) | _ => false
  | .tup l, e => match e with | .tup m => D.peqs l m | _ => false
  | .lst l, e => match e with | .lst m => D.peqs l m | _ => false
  | .dct _ _ _, _ => false
  | .set _, _ => false
  | .obj _ _ _, _ => false
  | .ref _, _ => false
def D.peqs : List D → List D → Bool
  | [], m => match m with | [] => true | _ :: _ => false
  | x :: l, m => match m with | [] => false | y :: m => D.peq x y && D.peqs l m
end
mutual
/-- made of None, bools, ints, texts, tuples, lists alone -/
def D.cmpb : D → Bool
  | .non => true
  | .bl _ => true
  | .int _ => true
  | .str x => PySem.PyData.strOk x
  | .tup l => D.cmpbs l
  | .lst l => D.cmpbs l
  | .dct _ _ _ => false
  | .set _ => false
  | .obj _ _ _ => false
  | .ref _ => false
def D.cmpbs : List D → Bool
  | [] => true
  | d :: r => D.cmpb d && D.cmpbs r
end
mutual
def D.depth : D → Nat
  | .tup l => D.depths l + 1
  | .lst l => D.depths l + 1
  | _ => 0
def D.depths : List D → Nat
  | [] => 0
  | d :: r => max (D.depth d) (D.depths r)
end
mutual
/-- can be ordered, place by place -/
def D.alike : D → D → Bool
  | .int _, e => match e with | .int _ => true | _ => false
  | .bl _, e => match e with | .bl _ => true | _ => false
  | .str _, e => match e with | .str _ => true | _ => false
  | .tup l, e => match e with | .tup m => D.alikes l m | _ => false
  | .lst l, e => match e with | .lst m => D.alikes l m | _ => false
  | .non, _ => false
  | .dct _ _ _, _ => false
  | .set _, _ => false
  | .obj _ _ _, _ => false
  | .ref _, _ => false
def D.alikes : List D → List D → Bool
  | [], _ => true
  | x :: l, m => match m with | [] => true | y :: m => D.alike x y && D.alikes l m
end
mutual
/-- < of Python, for what is alike -/
def D.plt : D → D → Bool
  | .int i, e => match e with | .int j => decide (i < j) | _ => false
  | .bl a, e => match e with | .bl b => !a && b | _ => false
  | .str x, e => match e with | .str y => decide (x.cps.toList < y.cps.toList) | _ => false
  | .tup l, e => match e with | .tup m => D.plts l m | _ => false
  | .lst l, e => match e with | .lst m => D.plts l m | _ => false
  | .non, _ => false
  | .dct _ _ _, _ => false
  | .set _, _ => false
  | .obj _ _ _, _ => false
  | .ref _, _ => false
def D.plts : List D → List D → Bool
  | [], m => match m with | [] => false | _ :: _ => true
  | x :: l, m => match m with | [] => false | y :: m => if D.peq x y = true then D.plts l m else D.plt x y
end

/-- a key of a dict: an int, a text, or a tuple of such -/
def D.key1 : D → Bool
  | .int _ => true
  | .str _ => true
  | _ => false
def D.keyT : D → Bool
  | .tup l => l.all D.key1
  | _ => false
def D.keyOk (tk : Bool) (d : D) : Bool := match tk with | true => d.keyT | false => d.key1
def D.find (k : D) : List D → List D → Option D
  | x :: ks, v :: vs => if D.peq x k = true then some v else D.find k ks vs
  | _, _ => none
def D.isIn (k : D) : List D → Bool
  | [] => false
  | x :: r => D.peq x k || D.isIn k r
/-- d[k] = v -/
def D.putK (k : D) (ks : List D) : List D := if D.isIn k ks = true then ks else ks ++ [k]
def D.repV (k v : D) : List D → List D → List D
  | x :: ks, w :: vs => (if D.peq x k = true then v else w) :: D.repV k v ks vs
  | _, _ => []
def D.putV (k v : D) (ks vs : List D) : List D := if D.isIn k ks = true then D.repV k v ks vs else vs ++ [v]

/-! ### objects that may change are read into plain data -/
mutual
def D.subst (f : Nat → Option D) : D → Option D
  | .ref n => f n
  | .tup l => (D.substs f l).map .tup
  | .lst l => (D.substs f l).map .lst
  | .dct tk ks vs => match D.substs f ks, D.substs f vs with | some a, some b => some (.dct tk a b) | _, _ => none
  | .set l => (D.substs f l).map .set
  | .obj c fs vs => (D.substs f vs).map (.obj c fs)
  | .non => some .non
  | .bl b => some (.bl b)
  | .int i => some (.int i)
  | .str x => some (.str x)
def D.substs (f : Nat → Option D) : List D → Option (List D)
  | [] => some []
  | d :: r => match D.subst f d, D.substs f r with | some a, some b => some (a :: b) | _, _ => none
end
def frzAt (st : List Ob) (k : Nat) : Nat → Nat → Option D
  | 0, _ => none
  | h + 1, n => if n < k then none else
    match st[n]? with
    | some (.lst l) => (D.substs (frzAt st k h) l).map .lst
    | some (.dct tk ks vs) => (match D.substs (frzAt st k h) ks, D.substs (frzAt st k h) vs with | some a, some b => some (.dct tk a b) | _, _ => none)
    | some (.ins c fs vs) => (D.substs (frzAt st k h) vs).map (.obj c fs)
    | _ => none
/-- plain data: pure data as it is, else read out of the store (objects at k and above) -/
def frz (st : List Ob) (k : Nat) (d : D) : Option D := if d.pure = true then some d else D.subst (frzAt st k 4) d
def frzs (st : List Ob) (k : Nat) : List D → Option (List D)
  | [] => some []
  | d :: r => match frz st k d, frzs st k r with | some a, some b => some (a :: b) | _, _ => none
def frzOb (st : List Ob) (k : Nat) : Ob → Option Ob
  | .lst l => (frzs st k l).map .lst
  | .dct tk ks vs => match frzs st k ks, frzs st k vs with | some a, some b => some (.dct tk a b) | _, _ => none
  | .ins c fs vs => (frzs st k vs).map (.ins c fs)
  | .gone => some .gone
def frzObs (st : List Ob) (k : Nat) : List Ob → Option (List Ob)
  | [] => some []
  | o :: r => match frzOb st k o, frzObs st k r with | some a, some b => some (a :: b) | _, _ => none

/-- a list or a tuple -/
def seqOf (st : List Ob) : D → Option (List D)
  | .tup l => some l
  | .lst l => some l
  | .ref n => (match st[n]? with | some (.lst l) => some l | _ => none)
  | _ => none
def lstOf (st : List Ob) : D → Option (List D)
  | .lst l => some l
  | .ref n => (match st[n]? with | some (.lst l) => some l | _ => none)
  | _ => none
def dctOf (st : List Ob) : D → Option (Bool × List D × List D)
  | .dct tk ks vs => some (tk, ks, vs)
  | .ref n => (match st[n]? with | some (.dct tk ks vs) => some (tk, ks, vs) | _ => none)
  | _ => none

/-! ### the language -/
inductive Bop where
  | add | sub | mul | fdv | mod | pow | shl | shr | band | bor | bxor
  deriving DecidableEq
inductive Cop where
  | eq | ne | lt | le | gt | ge | isin | notin
  deriving DecidableEq
inductive Blt where
  | len | abs | int | min | max | sum | sorted | tuple | list | set | all | any | str | dict
  deriving DecidableEq
inductive Bm where
  | append | pop | get | count | index | join | remove | reverse | update | extend
  deriving DecidableEq
inductive Ty where
  | int | bool | str | tuple | list | cls (c : Nat)
  deriving DecidableEq

/-- expressions, lists of them, targets, what is walked -/
inductive E where
  | var (i : Nat)
  | cint (i : Int) | cbl (b : Bool) | cnon | cstr (x : Str)
  | glob (g : Nat)                          -- a module's constant
  | bin (op : Bop) (a b : E)
  | neg (a : E)
  | cmp (op : Cop) (a b : E)
  | chain (op op' : Cop) (a b c : E)
  | isN (no : Bool) (a : E)                 -- a is None, a is not None
  | isB (no : Bool) (b : Bool) (a : E)      -- a is True ..
  | andE (a b : E) | orE (a b : E) | notE (a : E)
  | ifE (t a b : E)
  | tup (es : E) | lst (es : E)
  | dnew (tk : Bool)                        -- {} (tk: keys are tuples)
  | dct (tk : Bool) (ks vs : E)
  | fld (a : E) (f : Str)
  | ix (a i : E)
  | sl (a lo hi : E)                        -- lo, hi: nil where there is none
  | rev (a : E)
  | call (f : Nat) (br : Bool) (es : E)     -- br: lists go in as they are (may be changed)
  | make (c : Nat) (es : E)
  | meth (o : E) (c m : Nat) (es : E)       -- the m-th function as a method of the class c
  | blt (b : Blt) (es : E)
  | isi (a : E) (t : Ty)
  | bm (m : Bm) (o es : E)
  | lc (own : List Nat) (tg it cnd el : E)
  | lc2 (own own1 : List Nat) (tg it cnd tg1 it1 cnd1 el : E)
  | dc (own : List Nat) (tk : Bool) (tg it cnd k v : E)
  | mk (e : E)                              -- the new list, dict that e makes may change
  | yes                                     -- no condition
  | nil | cons (e es : E)
  | lstI (it : E) | tupI (it : E)            -- list(range(..)), tuple(range(..)), list(reversed(..))
  | rng1 (a : E) | rng2 (a b : E) | enum (a : E) | zip (a b : E) | reved (a : E) | over (a : E)
  deriving Inhabited

inductive S where
  | skip | seq (a b : S)
  | asg (tg e : E)
  | asg2 (tg tg' e : E)
  | aug (i : Nat) (op : Bop) (e : E)
  | augS (o i : E) (op : Bop) (e : E)
  | ite (t : E) (a b : S)
  | whl (t : E) (a : S)
  | for_ (tg it : E) (a : S)
  | ret (e : E) | retN
  | ex (e : E)
  | brk | cnt
  | stop                                    -- what is never come to
  | frz (i : Nat)                           -- no statement of the program: what slot i holds changes no more
  deriving Inhabited

inductive Fl where
  | nx | brk | cnt | ret (d : D)

/-! ### operations by values -/
def szL : Nat := 16777216
def okMul (i j : Int) : Bool := (decide (i.natAbs < 2 ^ 64) || decide (j.natAbs < 2 ^ 64)) || (decide (i.natAbs < 2 ^ 4000) && decide (j.natAbs < 2 ^ 4000))
def opInt (op : Bop) (i j : Int) : Option Int :=
  match op with
  | .add => some (i + j)
  | .sub => some (i - j)
  | .mul => if okMul i j = true then some (i * j) else none
  | .fdv => if 0 < j ∧ j.natAbs < 2 ^ 8000 then some (i / j) else none
  | .mod => if 0 < j then some (i % j) else none
  | .pow => if 0 ≤ j ∧ j ≤ 1000000 ∧ i.natAbs < 2 ^ 63 then some (i ^ j.toNat) else none
  | .shl => if 0 ≤ j ∧ j ≤ 1000000 ∧ i.natAbs < 2 ^ 63 then some (i * 2 ^ j.toNat) else none
  | .shr => if 0 ≤ j then some (i / 2 ^ j.toNat) else none
  | .band => some (PySem.Builtin.bitAnd i j)
  | .bor => some (PySem.Builtin.bitOr i j)
  | .bxor => some (PySem.Builtin.bitXor i j)
/-- a op= b -/
def opAug (op : Bop) (x y : D) : Option D :=
  match x with
  | .int i => (match y with
    | .int j => (match op with
      | .mul => if i.natAbs < 2 ^ 64 ∨ j.natAbs < 2 ^ 64 then some (.int (i * j)) else none
      | .pow => none
      | op => (opInt op i j).map .int)
    | _ => none)
  | .str a => (match y with
    | .str b => (match op with | .add => if a.length + b.length ≤ szL then some (.str (a ++ b)) else none | _ => none)
    | _ => none)
  | _ => none
def opLst (op : Bop) (st : List Ob) (l : List D) (y : D) : Option D :=
  match op with
  | .add => (lstOf st y).bind fun m => if l.length + m.length ≤ szL then some (.lst (l ++ m)) else none
  | .mul => (match y with
    | .int n => if n < 2 ^ 62 ∧ -(2 ^ 62) ≤ n ∧ l.length * n.toNat ≤ szL then some (.lst (List.replicate n.toNat l).flatten) else none
    | _ => none)
  | _ => none
def opBin (op : Bop) (st : List Ob) (x y : D) : Option D :=
  match x with
  | .int i => (match y with
    | .int j => (opInt op i j).map .int
    | _ => none)
  | .str a => (match y with
    | .str b => (match op with | .add => if a.length + b.length ≤ szL then some (.str (a ++ b)) else none | _ => none)
    | _ => none)
  | .tup l => (match y with
    | .tup m => (match op with | .add => if l.length + m.length ≤ szL then some (.tup (l ++ m)) else none | _ => none)
    | .int n => (match op with | .mul => if -1000 ≤ n ∧ n ≤ 1000 ∧ l.length ≤ 1000 then some (.tup (List.replicate n.toNat l).flatten) else none | _ => none)
    | _ => none)
  | x => (lstOf st x).bind fun l => opLst op st l y
/-- a op b (no own ==) -/
def opCmp (op : Cop) (st : List Ob) (x y : D) : Option Bool :=
  match op with
  | .eq => (match frz st 0 x, frz st 0 y with
    | some a, some b => if (a.cmpb && b.cmpb && (decide (a.depth ≤ 60) && decide (b.depth ≤ 60))) = true then some (D.peq a b) else none
    | _, _ => none)
  | .ne => (match frz st 0 x, frz st 0 y with
    | some a, some b => if (a.cmpb && b.cmpb && (decide (a.depth ≤ 60) && decide (b.depth ≤ 60))) = true then some (!D.peq a b) else none
    | _, _ => none)
  | .lt => (match frz st 0 x, frz st 0 y with
    | some a, some b => if (a.cmpb && b.cmpb && D.alike a b && (decide (a.depth ≤ 60) && decide (b.depth ≤ 60))) = true then some (D.plt a b) else none
    | _, _ => none)
  | .le => (match frz st 0 x, frz st 0 y with
    | some a, some b => if (a.cmpb && b.cmpb && D.alike a b && (decide (a.depth ≤ 60) && decide (b.depth ≤ 60))) = true then some (!D.plt b a) else none
    | _, _ => none)
  | .gt => (match frz st 0 x, frz st 0 y with
    | some a, some b => if (a.cmpb && b.cmpb && D.alike a b && (decide (a.depth ≤ 60) && decide (b.depth ≤ 60))) = true then some (D.plt b a) else none
    | _, _ => none)
  | .ge => (match frz st 0 x, frz st 0 y with
    | some a, some b => if (a.cmpb && b.cmpb && D.alike a b && (decide (a.depth ≤ 60) && decide (b.depth ≤ 60))) = true then some (!D.plt a b) else none
    | _, _ => none)
  | .isin => inCmp st x y
  | .notin => (inCmp st x y).map (!·)
where
  inCmp (st : List Ob) (x y : D) : Option Bool :=
    match seqOf st y with
    | some l => (match frz st 0 x, frzs st 0 l with
      | some a, some m => if (a.cmpb && D.cmpbs m && (decide (a.depth ≤ 60) && decide (D.depths m ≤ 60))) = true then some (D.isIn a m) else none
      | _, _ => none)
    | none => (match dctOf st y with
      | some (tk, ks, _) => if D.keyOk tk x = true then some (D.isIn x ks) else none
      | none => (match x, y with
        | .str a, .str b => some (!(PySem.Builtin.Str.occurrences b a 0 b.length 1).isEmpty)
        | _, _ => none))
def truth (st : List Ob) (x : D) : Option Bool :=
  match x with
  | .non => some false
  | .bl b => some b
  | .int i => some (i != 0)
  | .str a => if a.length ≤ szL then some (a.length != 0) else none
  | x => (seqOf st x).map fun l => !l.isEmpty
/-- the place of an index -/
def ixN (n : Nat) (i : Int) : Option Nat :=
  if 0 ≤ i then (if i < n then some i.toNat else none)
  else (if 0 ≤ i + n then some (i + n).toNat else none)
def opIx (st : List Ob) (x i : D) : Option D :=
  match dctOf st x with
  | some (tk, ks, vs) => if D.keyOk tk i = true then D.find i ks vs else none
  | none => (match i with
    | .int j => (match seqOf st x with
      | some l => (ixN l.length j).bind fun k => l[k]?
      | none => (match x with
        | .str a => if a.length ≤ szL then (ixN a.cps.toList.length j).bind fun k => (a.cps.toList[k]?).map fun c => .str ⟨#[c]⟩ else none
        | _ => none))
    | _ => none)
def clampIx (n : Nat) (d : Nat) : Option Int → Nat
  | none => d
  | some i => if i < 0 then (i + n).toNat else min i.toNat n
def cut {α : Type} (l : List α) (lo hi : Option Int) : List α := (l.drop (clampIx l.length 0 lo)).take (clampIx l.length l.length hi - clampIx l.length 0 lo)
def opSl (st : List Ob) (x : D) (lo hi : Option Int) : Option D :=
  match x with
  | .tup l => some (.tup (cut l lo hi))
  | .str a => if a.length ≤ szL then some (.str ⟨(cut a.cps.toList lo hi).toArray⟩) else none
  | x => (lstOf st x).map fun l => .lst (cut l lo hi)
def opRev (st : List Ob) (x : D) : Option D :=
  match x with
  | .tup l => some (.tup l.reverse)
  | x => (lstOf st x).map fun l => .lst l.reverse
/-- x[i] = v -/
def opSet (st : List Ob) (x i v : D) : Option (List Ob) :=
  match x with
  | .ref n => (match st[n]? with
    | some (.lst l) => (match i with
      | .int j => (ixN l.length j).map fun k => st.set n (.lst (l.set k v))
      | _ => none)
    | some (.dct tk ks vs) => if (D.keyOk tk i && decide (ks.length < 1000000)) = true then some (st.set n (.dct tk (D.putK i ks) (D.putV i v ks vs))) else none
    | _ => none)
  | _ => none

/-! ### sorting -/
/-- sorted, stable -/
def srt (l : List D) : List D := l.mergeSort fun a b => !D.plt b a
def allAlike (l : List D) : Bool := D.cmpbs l && l.all fun x => l.all fun y => D.alike x y
/-- tuples with something in them, or none that is a tuple -/
def sortable (l : List D) : Bool := (l.all fun d => match d with | .tup (_ :: _) => true | _ => false) || (l.all fun d => match d with | .tup _ => false | .non => false | _ => true)

def intsOf : List D → Option (List Int)
  | [] => some []
  | .int i :: r => (intsOf r).map (i :: ·)
  | _ :: _ => none
def blsOf : List D → Option (List Bool)
  | [] => some []
  | .bl i :: r => (blsOf r).map (i :: ·)
  | _ :: _ => none
def strsOf : List D → Option (List Str)
  | [] => some []
  | .str i :: r => (strsOf r).map (i :: ·)
  | _ :: _ => none
/-- each once, as first met -/
def dedup : List D → List D
  | [] => []
  | x :: r => x :: (dedup r).filter fun y => !D.peq y x
def minI : List Int → Option Int
  | [] => none
  | x :: r => some (r.foldl (fun a b => if b < a then b else a) x)
def maxI : List Int → Option Int
  | [] => none
  | x :: r => some (r.foldl (fun a b => if a < b then b else a) x)

def opBlt (b : Blt) (st : List Ob) (xs : List D) : Option D :=
  match b, xs with
  | .len, [x] => (match x with
    | .str a => if a.length ≤ szL then some (.int a.length) else none
    | .set l => some (.int l.length)
    | x => (match seqOf st x with
      | some l => some (.int l.length)
      | none => (dctOf st x).map fun p => .int p.2.1.length))
  | .abs, [.int i] => some (.int (if i < 0 then -i else i))
  | .int, [.int i] => some (.int i)
  | .int, [.bl b] => some (.int (if b = true then 1 else 0))
  | .min, [.int i, .int j] => some (.int (if j < i then j else i))
  | .max, [.int i, .int j] => some (.int (if j > i then j else i))
  | .min, [x] => ((lstOf st x).bind intsOf).bind fun l => (minI l).map .int
  | .max, [x] => ((lstOf st x).bind intsOf).bind fun l => (maxI l).map .int
  | .sum, [x] => ((seqOf st x).bind intsOf).map fun l => .int l.sum
  | .sorted, [x] => (lstOf st x).bind fun l => if (allAlike l && sortable l && decide (D.depths l ≤ 60)) = true then some (.lst (srt l)) else none
  | .tuple, [x] => (seqOf st x).map .tup
  | .list, [x] => (match seqOf st x with
    | some l => some (.lst l)
    | none => (dctOf st x).map fun p => .lst p.2.1)
  | .all, [x] => ((lstOf st x).bind blsOf).map fun l => .bl (l.all id)
  | .any, [x] => ((lstOf st x).bind blsOf).map fun l => .bl (l.any id)
  | .str, [.int i] => if i.natAbs < 2 ^ 1000 then some (.str (toString i)) else none
  | .str, [.str a] => some (.str a)
  | .dict, [x] => (dctOf st x).bind fun p => if p.1 = false then some (.dct false p.2.1 p.2.2) else none
  | _, _ => none
def opLstN (op : Bop) (st : List Ob) (x y : D) : Option Ob := (lstOf st x).bind fun l => match opLst op st l y with | some (.lst m) => some (.lst m) | _ => none
def opBltN (b : Blt) (st : List Ob) (xs : List D) : Option Ob :=
  match b, xs with
  | .list, [x] => (match seqOf st x with
    | some l => some (.lst l)
    | none => (match dctOf st x with | some (false, ks, _) => some (.lst ks) | _ => none))
  | .dict, [x] => (dctOf st x).bind fun p => if p.1 = false then some (.dct false p.2.1 p.2.2) else none
  | _, _ => none
def rgD (i j : Int) : List D := (List.range (j - i).toNat).map fun (k : Nat) => D.int (i + k)
def rgOk (i j : Int) : Bool := decide (-(2 ^ 62) ≤ i ∧ i < 2 ^ 62 ∧ -(2 ^ 62) ≤ j ∧ j < 2 ^ 62 ∧ (j - i).toNat ≤ szL)
def countD (x : D) (l : List D) : Nat := l.countP fun y => D.peq y x
def placeD (x : D) (l : List D) : Option Nat := l.findIdx? fun y => D.peq y x
def opBm (m : Bm) (st : List Ob) (o : D) (xs : List D) : R D :=
  match m, xs with
  | .append, [x] => (match o with
    | .ref n => (match st[n]? with
      | some (.lst l) => if l.length < szL then .ok .non (st.set n (.lst (l ++ [x]))) else .bad
      | _ => .bad)
    | _ => .bad)
  | .pop, [] => (match o with
    | .ref n => (match st[n]? with
      | some (.lst l) => (match l.getLast? with | some x => .ok x (st.set n (.lst l.dropLast)) | none => .bad)
      | _ => .bad)
    | _ => .bad)
  | .pop, [.int i] => (match o with
    | .ref n => (match st[n]? with
      | some (.lst l) => (match i, l with | 0, x :: r => .ok x (st.set n (.lst r)) | _, _ => .bad)
      | _ => .bad)
    | _ => .bad)
  | .get, [k, v] => (match dctOf st o with
    | some (tk, ks, vs) => if D.keyOk tk k = true then .ok ((D.find k ks vs).getD v) st else .bad
    | none => .bad)
  | .count, [x] => (match (lstOf st o).bind (frzs st 0), frz st 0 x with
    | some l, some a => if (a.cmpb && D.cmpbs l && (decide (a.depth ≤ 60) && decide (D.depths l ≤ 60))) = true then .ok (.int (countD a l)) st else .bad
    | _, _ => .bad)
  | .index, [x] => (match (lstOf st o).bind (frzs st 0), frz st 0 x with
    | some l, some a => if (a.cmpb && D.cmpbs l && (decide (a.depth ≤ 60) && decide (D.depths l ≤ 60))) = true then (match placeD a l with | some k => .ok (.int k) st | none => .bad) else .bad
    | _, _ => .bad)
  | .join, [x] => (match o with
    | .str a => (match (lstOf st x).bind strsOf with
      | some l => if (l.map (·.length)).sum + l.length * a.length ≤ szL then .ok (.str (PySem.Txt.join a l)) st else .bad
      | none => .bad)
    | _ => .bad)
  | .reverse, [] => (match o with
    | .ref n => (match st[n]? with
      | some (.lst l) => .ok .non (st.set n (.lst l.reverse))
      | _ => .bad)
    | _ => .bad)
  | _, _ => .bad
/-- an object of the store, of pure data alone, as data -/
def obPure (st : List Ob) (n : Nat) : Option D :=
  match st[n]? with
  | some (.lst l) => if D.pures l = true then some (.lst l) else none
  | some (.dct tk ks vs) => if (D.pures ks && D.pures vs) = true then some (.dct tk ks vs) else none
  | _ => none
/-- what has that method, as it stands ahead of the arguments -/
def recvOk (m : Bm) (st : List Ob) (o : D) : Bool :=
  match m with
  | .get => (dctOf st o).isSome
  | .join => (match o with | .str _ => true | _ => false)
  | _ => (lstOf st o).isSome
def isTy (t : Ty) (st : List Ob) (x : D) : Option Bool :=
  match x with
  | .non => some false
  | .bl _ => some (t == .int || t == .bool)
  | .int _ => some (t == .int)
  | .str _ => some (t == .str)
  | .tup _ => some (t == .tuple)
  | .lst _ => some (t == .list)
  | .obj c _ _ => some (t == .cls c)
  | .ref n => (match st[n]? with
    | some (.lst _) => some (t == .list)
    | _ => none)
  | _ => none
def opFld (st : List Ob) (x : D) (f : Str) : Option D :=
  match x with
  | .obj _ fs vs => look f fs vs
  | .ref n => (match st[n]? with | some (.ins _ fs vs) => look f fs vs | _ => none)
  | _ => none
where
  look (f : Str) : List Str → List D → Option D
    | g :: fs, v :: vs => if g = f then some v else look f fs vs
    | _, _ => none
/-- the class has that field (and nothing else of that name) -/
def fokD (fok : Nat → Str → Bool) (st : List Ob) (x : D) (f : Str) : Bool :=
  match x with
  | .obj k _ _ => fok k f
  | .ref n => (match st[n]? with | some (.ins k _ _) => fok k f | _ => false)
  | _ => false
def putFs (f : Str) : List Str → List Str
  | [] => [f]
  | g :: fs => if g = f then g :: fs else g :: putFs f fs
def putFv (f : Str) (v : D) : List Str → List D → List D
  | g :: fs, w :: vs => if g = f then v :: vs else w :: putFv f v fs vs
  | _, _ => [v]

/-! ### the run -/
abbrev Env := List (Option D)
def wipeE (ρ : Env) : List Nat → Env
  | [] => ρ
  | v :: vs => (wipeE ρ vs).set v none

structure Cfg where
  /-- the defs (with objects handed in as they are) -/
  fn : Nat → List D → List Ob → R D
  /-- instances made: the class, the arguments -/
  new : Nat → List D → R D
  /-- constants -/
  glb : Nat → Option Str
  /-- the class's own == -/
  eqf : Nat → Option Nat
  /-- turns of a while -/
  fuel : Nat
  /-- the fields of the classes -/
  fok : Nat → Str → Bool
  /-- the defs' own names -/
  mnm : Nat → Str
  /-- the defs whose result is a new object that the caller may change -/
  fnN : Nat → List D → R Ob

/-- a target is stored to: names and tuples of names -/
def tgs : E → D → Env → Option Env
  | .var i, d, ρ => if i < ρ.length then some (ρ.set i (some d)) else none
  | .tup es, d, ρ => (match d with | .tup l => tgss es l ρ | _ => none)
  | _, _, _ => none
where
  tgss : E → List D → Env → Option Env
    | .nil, l, ρ => (match l with | [] => some ρ | _ :: _ => none)
    | .cons e es, l, ρ => (match l with
      | d :: r => (match tgs e d ρ with | some ρ1 => tgss es r ρ1 | none => none)
      | [] => none)
    | _, _, _ => none

/-- lists handed in as they are: their places; the arguments as the def sees them -/
def handIn : List D → Nat → Option (List D × List Nat)
  | [], _ => some ([], [])
  | .ref n :: r, j => (handIn r (j + 1)).map fun p => (.ref j :: p.1, n :: p.2)
  | d :: r, j => if d.pure = true then (handIn r j).map fun p => (d :: p.1, p.2) else none
def obsAt (st : List Ob) : List Nat → Option (List Ob)
  | [] => some []
  | n :: r => (match st[n]?, obsAt st r with
    | some o, some l => if (match o with | .lst l => D.pures l | .dct _ ks vs => D.pures ks && D.pures vs | _ => false) = true then some (o :: l) else none
    | _, _ => none)
def putAt (st : List Ob) : List Nat → List Ob → List Ob
  | n :: r, o :: os => putAt (st.set n o) r os
  | _, _ => st
def nodupN : List Nat → Bool
  | [] => true
  | n :: r => !r.contains n && nodupN r
def D.scalar : D → Bool
  | .non => true
  | .bl _ => true
  | .int _ => true
  | .str _ => true
  | _ => false

def forD (body : D → Env → List Ob → R (Fl × Env)) : List D → Env → List Ob → R (Fl × Env)
  | [], ρ, st => .ok (.nx, ρ) st
  | d :: r, ρ, st => bnd (body d ρ st) fun p st1 => match p.1 with
    | .nx => forD body r p.2 st1
    | .cnt => forD body r p.2 st1
    | .brk => .ok (.nx, p.2) st1
    | .ret v => .ok (.ret v, p.2) st1
def whlD (t : Env → List Ob → R Bool) (body : Env → List Ob → R (Fl × Env)) : Nat → Env → List Ob → R (Fl × Env)
  | 0, _, _ => .bad
  | n + 1, ρ, st => bnd (t ρ st) fun b st1 => match b with
    | false => .ok (.nx, ρ) st1
    | true => bnd (body ρ st1) fun p st2 => match p.1 with
      | .nx => whlD t body n p.2 st2
      | .cnt => whlD t body n p.2 st2
      | .brk => .ok (.nx, p.2) st2
      | .ret v => .ok (.ret v, p.2) st2
/-- a comprehension: a turn gives the new elements -/
def lcD (turn : D → List Ob → R (List D)) : List D → List Ob → R (List D)
  | [], st => .ok [] st
  | d :: r, st => bnd (turn d st) fun l st1 => bnd (lcD turn r st1) fun l' st2 => .ok (l ++ l') st2
/-- .. of a dict: keys, values -/
def dcD (turn : D → List Ob → R (Option (D × D))) : List D → List D × List D → List Ob → R (List D × List D)
  | [], a, st => .ok a st
  | d :: r, a, st => bnd (turn d st) fun o st1 => match o with
    | none => dcD turn r a st1
    | some (k, v) => dcD turn r (D.putK k a.1, D.putV k v a.1 a.2) st1

def zipD : List D → List D → List D
  | a :: l, b :: m => .tup [a, b] :: zipD l m
  | _, _ => []
def enumD : Nat → List D → List D
  | _, [] => []
  | i, a :: l => .tup [.int i, a] :: enumD (i + 1) l

mutual
def evE (c : Cfg) : E → Env → List Ob → R D
  | .var i, ρ, st => (match ρ[i]? with | some (some d) => .ok d st | _ => .bad)
  | .cint i, _, st => .ok (.int i) st
  | .cbl b, _, st => .ok (.bl b) st
  | .cnon, _, st => .ok .non st
  | .cstr x, _, st => .ok (.str x) st
  | .glob g, _, st => ofO (c.glb g) fun x => .ok (.str x) st
  | .bin op a b, ρ, st => bnd (evE c a ρ st) fun x st1 => bnd (evE c b ρ st1) fun y st2 => ofO (opBin op st2 x y) fun z => .ok z st2
  | .neg a, ρ, st => bnd (evE c a ρ st) fun x st1 => (match x with | .int i => .ok (.int (-i)) st1 | _ => .bad)
  | .cmp op a b, ρ, st => bnd (evE c a ρ st) fun x st1 => bnd (evE c b ρ st1) fun y st2 => ofO (opCmp op st2 x y) fun z => .ok (.bl z) st2
  | .chain op op' a b e, ρ, st => bnd (evE c a ρ st) fun x st1 => bnd (evE c b ρ st1) fun y st2 => ofO (opCmp op st2 x y) fun z =>
      (match z with
       | true => bnd (evE c e ρ st2) fun w st3 => ofO (opCmp op' st3 y w) fun z' => .ok (.bl z') st3
       | false => .ok (.bl false) st2)
  | .isN no a, ρ, st => bnd (evE c a ρ st) fun x st1 => .ok (.bl (no != (match x with | .non => true | _ => false))) st1
  | .isB no b a, ρ, st => bnd (evE c a ρ st) fun x st1 => .ok (.bl (no != (match x with | .bl b' => b == b' | _ => false))) st1
  | .andE a b, ρ, st => bnd (evE c a ρ st) fun x st1 => ofO (truth st1 x) fun t => (match t with | true => evE c b ρ st1 | false => .ok x st1)
  | .orE a b, ρ, st => bnd (evE c a ρ st) fun x st1 => ofO (truth st1 x) fun t => (match t with | true => .ok x st1 | false => evE c b ρ st1)
  | .notE a, ρ, st => bnd (evE c a ρ st) fun x st1 => ofO (truth st1 x) fun t => .ok (.bl (!t)) st1
  | .ifE t a b, ρ, st => bnd (evT c t ρ st) fun v st1 => (match v with | true => evE c a ρ st1 | false => evE c b ρ st1)
  | .tup es, ρ, st => bnd (evEs c es ρ st) fun l st1 => chk (decide (l.length ≤ szL)) (.ok (.tup l) st1)
  | .lst es, ρ, st => bnd (evEs c es ρ st) fun l st1 => chk (decide (l.length ≤ szL)) (.ok (.lst l) st1)
  | .dnew tk, _, st => .ok (.dct tk [] []) st
  | .dct tk ks vs, ρ, st => bnd (evEs c ks ρ st) fun l st1 => bnd (evEs c vs ρ st1) fun m st2 =>
      chk (!tk && l.all (D.keyOk tk) && decide (l.length = 1 ∧ m.length = 1)) (.ok (.dct tk l m) st2)
  | .fld a f, ρ, st => bnd (evE c a ρ st) fun x st1 => chk (fokD c.fok st1 x f) (ofO (opFld st1 x f) fun z => .ok z st1)
  | .ix a i, ρ, st => bnd (evE c a ρ st) fun x st1 => bnd (evE c i ρ st1) fun y st2 => ofO (opIx st2 x y) fun z => .ok z st2
  | .sl a lo hi, ρ, st => bnd (evE c a ρ st) fun x st1 => bnd (evB c lo ρ st1) fun l st2 => bnd (evB c hi ρ st2) fun h st3 => ofO (opSl st3 x l h) fun z => .ok z st3
  | .rev a, ρ, st => bnd (evE c a ρ st) fun x st1 => ofO (opRev st1 x) fun z => .ok z st1
  | .call f br es, ρ, st => bnd (evEs c es ρ st) fun l st1 => (match br with
      | false => ofO (frzs st1 0 l) fun m => bnd (c.fn f m []) fun d _ => chk (D.pures l || d.scalar) (.ok d st1)
      | true => ofO (handIn l 0) fun p => ofO (obsAt st1 p.2) fun os => chk (nodupN p.2) (bnd (c.fn f p.1 os) fun d os' => chk (decide (os'.length = p.2.length)) (.ok d (putAt st1 p.2 os'))))
  | .make k es, ρ, st => bnd (evEs c es ρ st) fun l st1 => chk (D.pures l) (bnd (c.new k l) fun d _ => .ok d st1)
  | .meth o k m es, ρ, st => bnd (evE c o ρ st) fun x st1 => (match x with
      | .obj k' fs _ => chk (decide (k = k') && D.pure x && (fs.all fun g => !decide (g = c.mnm m))) (bnd (evEs c es ρ st1) fun l st2 => chk (D.pures l) (bnd (c.fn m (x :: l) []) fun d _ => .ok d st2))
      | _ => .bad)
  | .blt b es, ρ, st => bnd (evEs c es ρ st) fun l st1 => ofO (opBlt b st1 l) fun z => .ok z st1
  | .isi a t, ρ, st => bnd (evE c a ρ st) fun x st1 => ofO (isTy t st1 x) fun z => .ok (.bl z) st1
  | .bm m o es, ρ, st => bnd (evE c o ρ st) fun x st1 => chk (recvOk m st1 x) (bnd (evEs c es ρ st1) fun l st2 => opBm m st2 x l)
  | .lc own tg it cnd el, ρ, st => bnd (evI c it ρ st) fun items st1 => bnd (lcD (fun d s => ofO (tgs tg d (wipeE ρ own)) fun ρ1 => bnd (evT c cnd ρ1 s) fun b s1 => (match b with
        | true => bnd (evE c el ρ1 s1) fun x s2 => .ok [x] s2
        | false => .ok [] s1)) items st1) fun l st2 => chk (decide (l.length ≤ szL)) (.ok (.lst l) st2)
  | .lc2 own own1 tg it cnd tg1 it1 cnd1 el, ρ, st => bnd (evI c it ρ st) fun items st1 => bnd (lcD (fun d s => ofO (tgs tg d (wipeE ρ own)) fun ρ1 => bnd (evT c cnd ρ1 s) fun b s1 => (match b with
        | true => bnd (evI c it1 ρ1 s1) fun items1 s2 => lcD (fun d1 s3 => ofO (tgs tg1 d1 (wipeE ρ1 own1)) fun ρ2 => bnd (evT c cnd1 ρ2 s3) fun b1 s4 => (match b1 with
            | true => bnd (evE c el ρ2 s4) fun x s5 => .ok [x] s5
            | false => .ok [] s4)) items1 s2
        | false => .ok [] s1)) items st1) fun l st2 => chk (decide (l.length ≤ szL)) (.ok (.lst l) st2)
  | .dc own tk tg it cnd k v, ρ, st => bnd (evI c it ρ st) fun items st1 => bnd (dcD (fun d s => ofO (tgs tg d (wipeE ρ own)) fun ρ1 => bnd (evT c cnd ρ1 s) fun b s1 => (match b with
        | true => bnd (evE c k ρ1 s1) fun x s2 => bnd (evE c v ρ1 s2) fun y s3 => chk (D.keyOk tk x) (.ok (some (x, y)) s3)
        | false => .ok none s1)) items ([], []) st1) fun p st2 => chk (decide (p.1.length ≤ 1000000)) (.ok (.dct tk p.1 p.2) st2)
  | .mk e, ρ, st => bnd (evN c e ρ st) fun o st1 => .ok (.ref st1.length) (st1 ++ [o])
  | .lstI it, ρ, st => bnd (evR c it ρ st) fun q st1 => chk (rgOk q.1 q.2) (.ok (.lst (rgD q.1 q.2)) st1)
  | .tupI it, ρ, st => bnd (evR c it ρ st) fun q st1 => chk (rgOk q.1 q.2) (.ok (.tup (rgD q.1 q.2)) st1)
  | .yes, _, _ => .bad
  | .nil, _, _ => .bad
  | .cons _ _, _, _ => .bad
  | .rng1 _, _, _ => .bad
  | .rng2 _ _, _, _ => .bad
  | .enum _, _, _ => .bad
  | .zip _ _, _, _ => .bad
  | .reved _, _, _ => .bad
  | .over _, _, _ => .bad
/-- what makes a new list or dict -/
def evN (c : Cfg) : E → Env → List Ob → R Ob
  | .lst es, ρ, st => bnd (evEs c es ρ st) fun l st1 => chk (decide (l.length ≤ szL)) (.ok (.lst l) st1)
  | .dnew tk, _, st => .ok (.dct tk [] []) st
  | .dct tk ks vs, ρ, st => bnd (evEs c ks ρ st) fun l st1 => bnd (evEs c vs ρ st1) fun m st2 =>
      chk (!tk && l.all (D.keyOk tk) && decide (l.length = 1 ∧ m.length = 1)) (.ok (.dct tk l m) st2)
  | .bin op a b, ρ, st => bnd (evE c a ρ st) fun x st1 => bnd (evE c b ρ st1) fun y st2 => ofO (opLstN op st2 x y) fun z => .ok z st2
  | .blt b es, ρ, st => bnd (evEs c es ρ st) fun l st1 => ofO (opBltN b st1 l) fun z => .ok z st1
  | .lstI it, ρ, st => bnd (evR c it ρ st) fun q st1 => chk (rgOk q.1 q.2) (.ok (.lst (rgD q.1 q.2)) st1)
  | .call f _ es, ρ, st => bnd (evEs c es ρ st) fun l st1 => chk (D.pures l) (bnd (c.fnN f l) fun o _ => .ok o st1)
  | .lc own tg it cnd el, ρ, st => bnd (evI c it ρ st) fun items st1 => bnd (lcD (fun d s => ofO (tgs tg d (wipeE ρ own)) fun ρ1 => bnd (evT c cnd ρ1 s) fun b s1 => (match b with
        | true => bnd (evE c el ρ1 s1) fun x s2 => .ok [x] s2
        | false => .ok [] s1)) items st1) fun l st2 => chk (decide (l.length ≤ szL)) (.ok (.lst l) st2)
  | .lc2 own own1 tg it cnd tg1 it1 cnd1 el, ρ, st => bnd (evI c it ρ st) fun items st1 => bnd (lcD (fun d s => ofO (tgs tg d (wipeE ρ own)) fun ρ1 => bnd (evT c cnd ρ1 s) fun b s1 => (match b with
        | true => bnd (evI c it1 ρ1 s1) fun items1 s2 => lcD (fun d1 s3 => ofO (tgs tg1 d1 (wipeE ρ1 own1)) fun ρ2 => bnd (evT c cnd1 ρ2 s3) fun b1 s4 => (match b1 with
            | true => bnd (evE c el ρ2 s4) fun x s5 => .ok [x] s5
            | false => .ok [] s4)) items1 s2
        | false => .ok [] s1)) items st1) fun l st2 => chk (decide (l.length ≤ szL)) (.ok (.lst l) st2)
  | .dc own tk tg it cnd k v, ρ, st => bnd (evI c it ρ st) fun items st1 => bnd (dcD (fun d s => ofO (tgs tg d (wipeE ρ own)) fun ρ1 => bnd (evT c cnd ρ1 s) fun b s1 => (match b with
        | true => bnd (evE c k ρ1 s1) fun x s2 => bnd (evE c v ρ1 s2) fun y s3 => chk (D.keyOk tk x) (.ok (some (x, y)) s3)
        | false => .ok none s1)) items ([], []) st1) fun p st2 => chk (decide (p.1.length ≤ 1000000)) (.ok (.dct tk p.1 p.2) st2)
  | _, _, _ => .bad
/-- the bounds of a range -/
def evR (c : Cfg) : E → Env → List Ob → R (Int × Int)
  | .rng1 a, ρ, st => bnd (evE c a ρ st) fun x st1 => (match x with | .int n => .ok (0, n) st1 | _ => .bad)
  | .rng2 a b, ρ, st => bnd (evE c a ρ st) fun x st1 => bnd (evE c b ρ st1) fun y st2 => (match x, y with | .int i, .int j => .ok (i, j) st2 | _, _ => .bad)
  | _, _, _ => .bad
/-- lists of expressions -/
def evEs (c : Cfg) : E → Env → List Ob → R (List D)
  | .nil, _, st => .ok [] st
  | .cons e es, ρ, st => bnd (evE c e ρ st) fun x st1 => bnd (evEs c es ρ st1) fun l st2 => .ok (x :: l) st2
  | _, _, _ => .bad
/-- a bound of a slice -/
def evB (c : Cfg) : E → Env → List Ob → R (Option Int)
  | .nil, _, st => .ok none st
  | .cons e .nil, ρ, st => bnd (evE c e ρ st) fun x st1 => (match x with | .int i => .ok (some i) st1 | _ => .bad)
  | _, _, _ => .bad
/-- tests -/
def evT (c : Cfg) : E → Env → List Ob → R Bool
  | .yes, _, st => .ok true st
  | .notE a, ρ, st => bnd (evT c a ρ st) fun b st1 => .ok (!b) st1
  | .andE a b, ρ, st => bnd (evT c a ρ st) fun t st1 => (match t with | true => evT c b ρ st1 | false => .ok false st1)
  | .orE a b, ρ, st => bnd (evT c a ρ st) fun t st1 => (match t with | true => .ok true st1 | false => evT c b ρ st1)
  | e, ρ, st => bnd (evE c e ρ st) fun x st1 => ofO (truth st1 x) fun b => .ok b st1
/-- what is walked -/
def evI (c : Cfg) : E → Env → List Ob → R (List D)
  | .rng1 a, ρ, st => bnd (evE c a ρ st) fun x st1 => (match x with
      | .int n => chk (decide (-(2 ^ 62) ≤ n ∧ n < 2 ^ 62)) (.ok ((List.range n.toNat).map fun (k : Nat) => D.int k) st1)
      | _ => .bad)
  | .rng2 a b, ρ, st => bnd (evE c a ρ st) fun x st1 => bnd (evE c b ρ st1) fun y st2 => (match x, y with
      | .int lo, .int hi => chk (decide (-(2 ^ 62) ≤ lo ∧ lo < 2 ^ 62 ∧ -(2 ^ 62) ≤ hi ∧ hi < 2 ^ 62)) (.ok ((List.range (hi - lo).toNat).map fun (k : Nat) => D.int (lo + k)) st2)
      | _, _ => .bad)
  | .enum a, ρ, st => bnd (evE c a ρ st) fun x st1 => (match x with | .lst l => .ok (enumD 0 l) st1 | _ => .bad)
  | .zip a b, ρ, st => bnd (evE c a ρ st) fun x st1 => bnd (evE c b ρ st1) fun y st2 => (match x, y with
      | .lst l, .lst m => .ok (zipD l m) st2
      | .tup l, .tup m => .ok (zipD l m) st2
      | _, _ => .bad)
  | .reved a, ρ, st => bnd (evE c a ρ st) fun x st1 => (match x with | .lst l => .ok l.reverse st1 | .tup l => .ok l.reverse st1 | _ => .bad)
  | .over a, ρ, st => bnd (evE c a ρ st) fun x st1 => (match x with | .lst l => .ok l st1 | .tup l => .ok l st1 | _ => .bad)
  | _, _, _ => .bad
end

/-- targets that may be places of objects: names, tuples, a[i], a.f -/
def evTg (c : Cfg) : E → D → Env → List Ob → R Env
  | .var i, d, ρ, st => chk (decide (i < ρ.length)) (.ok (ρ.set i (some d)) st)
  | .tup es, d, ρ, st => (match d with | .tup l => go es l ρ st | _ => .bad)
  | .ix a i, d, ρ, st => bnd (evE c a ρ st) fun x st1 => bnd (evE c i ρ st1) fun y st2 => ofO (opSet st2 x y d) fun st3 => .ok ρ st3
  | .fld a f, d, ρ, st => bnd (evE c a ρ st) fun x st1 => (match x with
      | .ref n => (match st1[n]? with
        | some (.ins k fs vs) => chk (c.fok k f && decide (fs.length < 100)) (.ok ρ (st1.set n (.ins k (putFs f fs) (putFv f d fs vs))))
        | _ => .bad)
      | _ => .bad)
  | _, _, _, _ => .bad
where
  go : E → List D → Env → List Ob → R Env
    | .nil, l, ρ, st => (match l with | [] => .ok ρ st | _ :: _ => .bad)
    | .cons e es, l, ρ, st => (match l with
      | d :: r => bnd (evTg c e d ρ st) fun ρ1 st1 => go es r ρ1 st1
      | [] => .bad)
    | _, _, _, _ => .bad

def evS (c : Cfg) : S → Env → List Ob → R (Fl × Env)
  | .skip, ρ, st => .ok (.nx, ρ) st
  | .seq a b, ρ, st => bnd (evS c a ρ st) fun p st1 => (match p.1 with
      | .nx => evS c b p.2 st1
      | .brk => .ok (.brk, p.2) st1
      | .cnt => .ok (.cnt, p.2) st1
      | .ret v => .ok (.ret v, p.2) st1)
  | .asg tg e, ρ, st => bnd (evE c e ρ st) fun x st1 => bnd (evTg c tg x ρ st1) fun ρ1 st2 => .ok (.nx, ρ1) st2
  | .asg2 tg tg' e, ρ, st => bnd (evE c e ρ st) fun x st1 => bnd (evTg c tg x ρ st1) fun ρ1 st2 => bnd (evTg c tg' x ρ1 st2) fun ρ2 st3 => .ok (.nx, ρ2) st3
  | .aug i op e, ρ, st => (match ρ[i]? with
      | some (some x) => bnd (evE c e ρ st) fun y st1 => ofO (opAug op x y) fun z => .ok (.nx, ρ.set i (some z)) st1
      | _ => .bad)
  | .augS o i op e, ρ, st => bnd (evE c o ρ st) fun x st1 => bnd (evE c i ρ st1) fun y st2 => ofO (opIx st2 x y) fun z => bnd (evE c e ρ st2) fun w st3 => ofO (opAug op z w) fun v => ofO (opSet st3 x y v) fun st4 => .ok (.nx, ρ) st4
  | .ite t a b, ρ, st => bnd (evT c t ρ st) fun v st1 => (match v with | true => evS c a ρ st1 | false => evS c b ρ st1)
  | .whl t a, ρ, st => whlD (evT c t) (evS c a) c.fuel ρ st
  | .for_ tg it a, ρ, st => bnd (evI c it ρ st) fun items st1 => forD (fun d ρ s => ofO (tgs tg d ρ) fun ρ1 => evS c a ρ1 s) items ρ st1
  | .ret e, ρ, st => bnd (evE c e ρ st) fun x st1 => .ok (.ret x, ρ) st1
  | .retN, ρ, st => .ok (.ret .non, ρ) st
  | .ex e, ρ, st => bnd (evE c e ρ st) fun _ st1 => .ok (.nx, ρ) st1
  | .brk, ρ, st => .ok (.brk, ρ) st
  | .cnt, ρ, st => .ok (.cnt, ρ) st
  | .stop, _, _ => .bad
  | .frz i, ρ, st => (match ρ[i]? with
      | some (some (.ref n)) => ofO (obPure st n) fun d => .ok (.nx, ρ.set i (some d)) (st.set n .gone)
      | _ => .bad)

/-! ### defs -/
structure Fd where
  /-- parameters, slots -/
  np : Nat
  ns : Nat
  body : S
  /-- its name -/
  nm : Str
structure Cd where
  /-- __init__, __eq__ -/
  init : Nat
  eqf : Option Nat
  /-- its fields -/
  flds : List Str
structure Prog where
  fns : List Fd
  cls : List Cd
  glb : List Str
  fuel : Nat

def Prog.fok (P : Prog) (k : Nat) (f : Str) : Bool := match P.cls[k]? with | some cd => cd.flds.any fun g => decide (g = f) | none => false
/-- behind a body: the value, the objects handed in -/
def leave (k : Nat) (d : D) (st : List Ob) : R D := ofO (frz st k d) fun d' => ofO (frzObs st k (st.take k)) fun os => .ok d' os
def runB (c : Cfg) (fd : Fd) (ds : List D) (st : List Ob) : R D :=
  chk (decide (ds.length = fd.np)) (bnd (evS c fd.body (ds.map some ++ List.replicate (fd.ns - fd.np) none) st) fun p st1 => match p.1 with
    | .ret d => leave st.length d st1
    | .nx => leave st.length .non st1
    | _ => .bad)
/-- a body whose result is a new object, nowhere else known -/
def leaveN (d : D) (st : List Ob) : R Ob :=
  match d with
  | .ref n => (match st[n]? with
    | some (.lst l) => ofO (frzOb (st.set n .gone) 0 (.lst l)) fun o => .ok o []
    | some (.dct tk ks vs) => ofO (frzOb (st.set n .gone) 0 (.dct tk ks vs)) fun o => .ok o []
    | _ => .bad)
  | _ => .bad
def runN (c : Cfg) (fd : Fd) (ds : List D) : R Ob :=
  chk (decide (ds.length = fd.np)) (bnd (evS c fd.body (ds.map some ++ List.replicate (fd.ns - fd.np) none) []) fun p st1 => match p.1 with
    | .ret d => leaveN d st1
    | _ => .bad)
/-- an instance is made -/
def newF (P : Prog) (fn : Nat → List D → List Ob → R D) (k : Nat) (ds : List D) : R D :=
  match P.cls[k]? with
  | some cd => bnd (fn cd.init (.ref 0 :: ds) [.ins k [] []]) fun d os => match d, os with
    | .non, [.ins k' fs vs] => chk (decide (k' = k)) (.ok (.obj k fs vs) [])
    | _, _ => .bad
  | none => .bad
def Prog.cfg (P : Prog) (fn : Nat → List D → List Ob → R D) (fnN : Nat → List D → R Ob) : Cfg :=
  { fn := fn, new := newF P fn, glb := fun g => P.glb[g]?, eqf := fun k => (P.cls[k]?).bind (·.eqf), fuel := P.fuel, fok := P.fok, mnm := fun f => (match P.fns[f]? with | some fd => fd.nm | none => ""), fnN := fnN }
mutual
def callF (P : Prog) : Nat → Nat → List D → List Ob → R D
  | 0, _, _, _ => .bad
  | n + 1, i, ds, st => match P.fns[i]? with
    | some fd => runB (P.cfg (callF P n) (callN P n)) fd ds st
    | none => .bad
def callN (P : Prog) : Nat → Nat → List D → R Ob
  | 0, _, _ => .bad
  | n + 1, i, ds => match P.fns[i]? with
    | some fd => runN (P.cfg (callF P n) (callN P n)) fd ds
    | none => .bad
end
end Ev

set_option linter.all false
set_option maxRecDepth 100000
/-! Rl: how plain data lie in the layer's abstract heap. -/
namespace Ev
open PySem L2

/-- keys -/
def kD : Key → D
  | .inl i => .int i
  | .inr x => .str x
def ktD (k : List Key) : D := .tup (k.map kD)

section
variable (ct : Nat → Option Addr)
mutual
/-- the value v is the datum: m the objects that may change, F what changes no more -/
def Rel (m : List Addr) (F : Hp) : D → V → Prop
  | .non, v => v = .non
  | .bl b, v => v = .bl b
  | .int i, v => v = .int i
  | .str x, v => v = .str x
  | .tup l, v => ∃ a vs, v = .ref a ∧ F a = some (.tup vs) ∧ Rels m F l vs
  | .lst l, v => ∃ a vs, v = .ref a ∧ Rd F a (.lst vs) ∧ Rels m F l vs
  | .dct tk ks vs, v => ∃ a, v = .ref a ∧ ((∃ kvs : List (Key × V), tk = false ∧ F a = some (.dK kvs) ∧ ks = kvs.map (fun p => kD p.1) ∧ Rels m F vs (kvs.map (·.2))) ∨
      (∃ kvs : List (List Key × V), tk = true ∧ F a = some (.dT kvs) ∧ ks = kvs.map (fun p => ktD p.1) ∧ Rels m F vs (kvs.map (·.2))))
  | .set _, _ => False
  | .obj c fs vs, v => ∃ a C dx fvs, v = .ref a ∧ ct c = some C ∧ F a = some (.ins C dx fvs) ∧ fvs.map (·.1) = fs ∧ Rels m F vs (fvs.map (·.2))
  | .ref n, v => ∃ a, v = .ref a ∧ m[n]? = some a
def Rels (m : List Addr) (F : Hp) : List D → List V → Prop
  | [], vs => vs = []
  | d :: l, vs => ∃ v r, vs = v :: r ∧ Rel m F d v ∧ Rels m F l r
end
/-- what stands at a place of the store -/
def ORel (m : List Addr) (F : Hp) : Ob → HO → Prop
  | .lst l, h => ∃ vs, h = .lst vs ∧ Rels ct m F l vs
  | .dct tk ks vs, h => (∃ kvs : List (Key × V), tk = false ∧ h = .dK kvs ∧ ks = kvs.map (fun p => kD p.1) ∧ Rels ct m F vs (kvs.map (·.2))) ∨
      (∃ kvs : List (List Key × V), tk = true ∧ h = .dT kvs ∧ ks = kvs.map (fun p => ktD p.1) ∧ Rels ct m F vs (kvs.map (·.2)))
  | .ins c fs vs, h => ∃ C dx fvs, ct c = some C ∧ h = .ins C dx fvs ∧ fvs.map (·.1) = fs ∧ Rels ct m F vs (fvs.map (·.2))
  | .gone, _ => True

/-- a state of the run beside the abstract heap -/
structure Wd where
  m : List Addr
  st : List Ob
  F : Hp
  H : Hp
structure WOk (w : Wd) : Prop where
  sub : ∀ a o, w.F a = some o → w.H a = some o
  len : w.m.length = w.st.length
  nd : w.m.Nodup
  ob : ∀ (n : Nat) a o, w.m[n]? = some a → w.st[n]? = some o → o = .gone ∨ (w.F a = none ∧ ∃ h, w.H a = some h ∧ ORel ct w.m w.F o h)
  tr : ∀ a ∈ w.m, w.H a ≠ none
/-- later -/
structure Le (w w' : Wd) : Prop where
  pre : w.m <+: w'.m
  fr : ∀ a o, w.F a = some o → w'.F a = some o
  keep : ∀ a o, w.H a = some o → a ∉ w.m → w'.H a = some o
  new : ∀ a, a ∈ w'.m → a ∉ w.m → w.H a = none
  ff : ∀ a, w.H a ≠ none → a ∉ w.m → w'.F a = w.F a ∨ ∃ xs, w.H a = some (.tup xs)
  there : ∀ a, w.H a ≠ none → w'.H a ≠ none
end

theorem Le.refl (w : Wd) : Le w w := ⟨List.prefix_refl _, fun _ _ h => h, fun _ _ h _ => h, fun _ h h' => absurd h h', fun _ _ _ => .inl rfl, fun _ h => h⟩
theorem Le.trans {w w' w'' : Wd} (a : Le w w') (b : Le w' w'') : Le w w'' := by
  have out : ∀ x, w.H x ≠ none → x ∉ w.m → x ∉ w'.m := fun x h1 h2 h3 => h1 (a.new x h3 h2)
  refine ⟨a.pre.trans b.pre, fun x o h => b.fr x o (a.fr x o h), fun x o h hn => ?_, fun x h hn => ?_, fun x h hn => ?_, fun x h => b.there x (a.there x h)⟩
  · have h1 : w.H x ≠ none := by rw [h]; exact fun z => nomatch z
    exact b.keep x o (a.keep x o h hn) (out x h1 hn)
  · by_cases h1 : x ∈ w'.m
    · exact a.new x h1 hn
    · have h2 := b.new x h h1
      cases q : w.H x with
      | none => rfl
      | some o => exact absurd h2 (a.there x (by rw [q]; exact fun z => nomatch z))
  · rcases a.ff x h hn with e | e
    · rcases b.ff x (a.there x h) (out x h hn) with e2 | ⟨xs, e2⟩
      · exact .inl (e2.trans e)
      · refine .inr ⟨xs, ?_⟩
        cases q : w.H x with
        | none => exact absurd q h
        | some o =>
          rw [a.keep x o q hn] at e2
          exact e2
    · exact .inr e

section
variable {ct : Nat → Option Addr}
theorem pre_get {m m' : List Addr} (h : m <+: m') {n : Nat} {a : Addr} (e : m[n]? = some a) : m'[n]? = some a := by
  obtain ⟨r, rfl⟩ := h
  obtain ⟨h1, h2⟩ := List.getElem?_eq_some_iff.mp e
  rw [List.getElem?_append_left h1]
  exact e
theorem rd_fr {F F' : Hp} (h : ∀ a o, F a = some o → F' a = some o) {a : Addr} {u : HO} (r : Rd F a u) : Rd F' a u := by
  rcases r with r | ⟨o, r⟩
  · exact .inl (h _ _ r)
  · exact .inr ⟨o, h _ _ r⟩
mutual
theorem Rel.mono {m m' : List Addr} {F F' : Hp} (h1 : m <+: m') (h2 : ∀ a o, F a = some o → F' a = some o) : ∀ (d : D) {v : V}, Rel ct m F d v → Rel ct m' F' d v
  | .non, _, h => h
  | .bl _, _, h => h
  | .int _, _, h => h
  | .str _, _, h => h
  | .tup l, _, h => by
    unfold Rel at h ⊢
    obtain ⟨a, vs, e, f, r⟩ := h
    exact ⟨a, vs, e, h2 _ _ f, Rels.mono h1 h2 l r⟩
  | .lst l, _, h => by
    unfold Rel at h ⊢
    obtain ⟨a, vs, e, f, r⟩ := h
    exact ⟨a, vs, e, rd_fr h2 f, Rels.mono h1 h2 l r⟩
  | .dct tk ks vs, _, h => by
    unfold Rel at h ⊢
    obtain ⟨a, e, h⟩ := h
    refine ⟨a, e, ?_⟩
    rcases h with ⟨kvs, t, f, k, r⟩ | ⟨kvs, t, f, k, r⟩
    · exact .inl ⟨kvs, t, h2 _ _ f, k, Rels.mono h1 h2 vs r⟩
    · exact .inr ⟨kvs, t, h2 _ _ f, k, Rels.mono h1 h2 vs r⟩
  | .set _, _, h => by unfold Rel at h; exact h.elim
  | .obj c fs vs, _, h => by
    unfold Rel at h ⊢
    obtain ⟨a, C, dx, fvs, e, hc, f, k, r⟩ := h
    exact ⟨a, C, dx, fvs, e, hc, h2 _ _ f, k, Rels.mono h1 h2 vs r⟩
  | .ref n, _, h => by
    unfold Rel at h ⊢
    obtain ⟨a, e, h⟩ := h
    exact ⟨a, e, pre_get h1 h⟩
theorem Rels.mono {m m' : List Addr} {F F' : Hp} (h1 : m <+: m') (h2 : ∀ a o, F a = some o → F' a = some o) : ∀ (l : List D) {vs : List V}, Rels ct m F l vs → Rels ct m' F' l vs
  | [], _, h => by unfold Rels at h ⊢; exact h
  | d :: l, _, h => by
    unfold Rels at h ⊢
    obtain ⟨v, r, e, h3, h4⟩ := h
    exact ⟨v, r, e, Rel.mono h1 h2 d h3, Rels.mono h1 h2 l h4⟩
end
theorem ORel.mono {m m' : List Addr} {F F' : Hp} (h1 : m <+: m') (h2 : ∀ a o, F a = some o → F' a = some o) {o : Ob} {h : HO} (r : ORel ct m F o h) : ORel ct m' F' o h := by
  cases o with
  | lst l => obtain ⟨vs, e, r⟩ := r; exact ⟨vs, e, r.mono h1 h2⟩
  | dct tk ks vs =>
    rcases r with ⟨kvs, t, e, k, r⟩ | ⟨kvs, t, e, k, r⟩
    · exact .inl ⟨kvs, t, e, k, r.mono h1 h2⟩
    · exact .inr ⟨kvs, t, e, k, r.mono h1 h2⟩
  | ins c fs vs => obtain ⟨C, dx, fvs, hc, e, k, r⟩ := r; exact ⟨C, dx, fvs, hc, e, k, r.mono h1 h2⟩
  | gone => trivial
/-- in a state -/
abbrev Wd.R (ct : Nat → Option Addr) (w : Wd) (d : D) (v : V) : Prop := Rel ct w.m w.F d v
abbrev Wd.Rs (ct : Nat → Option Addr) (w : Wd) (d : List D) (v : List V) : Prop := Rels ct w.m w.F d v
theorem Wd.R.le {w w' : Wd} (l : Le w w') {d : D} {v : V} (r : w.R ct d v) : w'.R ct d v := Rel.mono l.pre l.fr d r
theorem Wd.Rs.le {w w' : Wd} (l : Le w w') {d : List D} {v : List V} (r : w.Rs ct d v) : w'.Rs ct d v := Rels.mono l.pre l.fr d r

/-! lists -/
theorem Rels.length {m : List Addr} {F : Hp} : ∀ {l : List D} {vs : List V}, Rels ct m F l vs → l.length = vs.length
  | [], _, h => by unfold Rels at h; subst h; rfl
  | d :: l, _, h => by
    unfold Rels at h
    obtain ⟨v, r, rfl, _, h4⟩ := h
    rw [List.length_cons, List.length_cons, Rels.length h4]
theorem Rels.get {m : List Addr} {F : Hp} : ∀ {l : List D} {vs : List V} {i : Nat} {d : D}, Rels ct m F l vs → l[i]? = some d → ∃ v, vs[i]? = some v ∧ Rel ct m F d v
  | [], _, _, _, _, e => by simp at e
  | d :: l, _, i, x, h, e => by
    unfold Rels at h
    obtain ⟨v, r, rfl, h3, h4⟩ := h
    cases i with
    | zero => simp at e; subst e; exact ⟨v, rfl, h3⟩
    | succ i => simp at e; obtain ⟨u, h5, h6⟩ := Rels.get h4 e; exact ⟨u, by simpa using h5, h6⟩
theorem Rels.get' {m : List Addr} {F : Hp} {l : List D} {vs : List V} {i : Nat} {v : V} (h : Rels ct m F l vs) (e : vs[i]? = some v) : ∃ d, l[i]? = some d ∧ Rel ct m F d v := by
  have hl := h.length
  obtain ⟨h1, h2⟩ := List.getElem?_eq_some_iff.mp e
  have h3 : i < l.length := by omega
  have h4 : l[i]? = some l[i] := List.getElem?_eq_getElem h3
  obtain ⟨u, h5, h6⟩ := h.get h4
  rw [e] at h5; cases h5
  exact ⟨_, h4, h6⟩
theorem Rels.nil {m : List Addr} {F : Hp} : Rels ct m F [] [] := by unfold Rels; rfl
theorem Rels.cons {m : List Addr} {F : Hp} {d : D} {l : List D} {v : V} {r : List V} (h : Rel ct m F d v) (hs : Rels ct m F l r) : Rels ct m F (d :: l) (v :: r) := by
  unfold Rels; exact ⟨v, r, rfl, h, hs⟩
theorem Rels.append {m : List Addr} {F : Hp} : ∀ {l l' : List D} {vs vs' : List V}, Rels ct m F l vs → Rels ct m F l' vs' → Rels ct m F (l ++ l') (vs ++ vs')
  | [], _, _, _, h, h' => by unfold Rels at h; subst h; exact h'
  | d :: l, l', _, vs', h, h' => by
    unfold Rels at h
    obtain ⟨v, r, rfl, h3, h4⟩ := h
    exact Rels.cons h3 (Rels.append h4 h')
theorem Rels.take {m : List Addr} {F : Hp} : ∀ (n : Nat) {l : List D} {vs : List V}, Rels ct m F l vs → Rels ct m F (l.take n) (vs.take n)
  | 0, _, _, _ => by simp; exact Rels.nil
  | n + 1, [], _, h => by unfold Rels at h; subst h; simp; exact Rels.nil
  | n + 1, d :: l, _, h => by
    unfold Rels at h
    obtain ⟨v, r, rfl, h3, h4⟩ := h
    exact Rels.cons h3 (Rels.take n h4)
theorem Rels.drop {m : List Addr} {F : Hp} : ∀ (n : Nat) {l : List D} {vs : List V}, Rels ct m F l vs → Rels ct m F (l.drop n) (vs.drop n)
  | 0, _, _, h => h
  | n + 1, [], _, h => by unfold Rels at h; subst h; simp; exact Rels.nil
  | n + 1, d :: l, _, h => by
    unfold Rels at h
    obtain ⟨v, r, rfl, h3, h4⟩ := h
    exact Rels.drop n h4
theorem Rels.reverse {m : List Addr} {F : Hp} : ∀ {l : List D} {vs : List V}, Rels ct m F l vs → Rels ct m F l.reverse vs.reverse
  | [], _, h => by unfold Rels at h; subst h; exact Rels.nil
  | d :: l, _, h => by
    unfold Rels at h
    obtain ⟨v, r, rfl, h3, h4⟩ := h
    rw [List.reverse_cons, List.reverse_cons]
    exact (Rels.reverse h4).append (Rels.cons h3 Rels.nil)
theorem Rels.set {m : List Addr} {F : Hp} {d : D} {v : V} (h : Rel ct m F d v) : ∀ (i : Nat) {l : List D} {vs : List V}, Rels ct m F l vs → Rels ct m F (l.set i d) (vs.set i v)
  | _, [], _, hs => by unfold Rels at hs; subst hs; exact Rels.nil
  | 0, x :: l, _, hs => by
    unfold Rels at hs
    obtain ⟨u, r, rfl, h3, h4⟩ := hs
    exact Rels.cons h h4
  | i + 1, x :: l, _, hs => by
    unfold Rels at hs
    obtain ⟨u, r, rfl, h3, h4⟩ := hs
    exact Rels.cons h3 (Rels.set h i h4)
theorem Rels.of_get {m : List Addr} {F : Hp} : ∀ {l : List D} {vs : List V}, l.length = vs.length → (∀ (i : Nat) d v, l[i]? = some d → vs[i]? = some v → Rel ct m F d v) → Rels ct m F l vs
  | [], [], _, _ => Rels.nil
  | [], _ :: _, h, _ => by simp at h
  | _ :: _, [], h, _ => by simp at h
  | d :: l, v :: r, h, k => Rels.cons (k 0 d v rfl rfl) (Rels.of_get (by simpa using h) fun i x u h1 h2 => k (i + 1) x u (by simpa using h1) (by simpa using h2))
theorem Rels.rep {m : List Addr} {F : Hp} {l : List D} {vs : List V} (h : Rels ct m F l vs) : ∀ n : Nat, Rels ct m F (List.replicate n l).flatten (List.replicate n vs).flatten
  | 0 => by simp; exact Rels.nil
  | n + 1 => by
    rw [List.replicate_succ, List.flatten_cons, List.replicate_succ, List.flatten_cons]
    exact h.append (Rels.rep h n)
theorem Rels.ints {m : List Addr} {F : Hp} {α : Type} (f : α → Int) : ∀ l : List α, Rels ct m F (l.map fun k => D.int (f k)) (l.map fun k => V.int (f k))
  | [] => Rels.nil
  | k :: l => Rels.cons (by unfold Rel; rfl) (Rels.ints f l)

/-! new objects -/
theorem Wd.frzNew {w : Wd} (ok : WOk ct w) {p : Addr} (hp : w.H p = none) (o : HO) : Le w { w with F := upd w.F p o, H := upd w.H p o } ∧ WOk ct { w with F := upd w.F p o, H := upd w.H p o } := by
  have hF : w.F p = none := by
    cases q : w.F p with
    | none => rfl
    | some x => have := ok.sub p x q; rw [hp] at this; cases this
  have hm : p ∉ w.m := fun z => ok.tr p z hp
  have fr : ∀ a x, w.F a = some x → upd w.F p o a = some x := fun a x h => by rw [upd_ne (ne_of_none h hF)]; exact h
  refine ⟨⟨List.prefix_refl _, fr, fun a x h _ => by show upd w.H p o a = some x; rw [upd_ne (ne_of_none h hp)]; exact h, fun _ h h' => absurd h h', fun a h h' => ?_, fun a h => ?_⟩, ⟨fun a x h => ?_, ok.len, ok.nd, fun n a x h1 h2 => ?_, fun a h => ?_⟩⟩
  · refine .inl (upd_ne ?_)
    intro z; subst z; exact h hp
  · show upd w.H p o a ≠ none
    by_cases z : a = p
    · subst z; rw [upd_same]; exact fun z => nomatch z
    · rw [upd_ne z]; exact h
  · show upd w.H p o a = some x
    have h : upd w.F p o a = some x := h
    by_cases z : a = p
    · subst z; rw [upd_same] at h ⊢; exact h
    · rw [upd_ne z] at h ⊢; exact ok.sub a x h
  · have h1 : w.m[n]? = some a := h1
    rcases ok.ob n a x h1 h2 with e | ⟨e, h, h3, h4⟩
    · exact .inl e
    · have z : a ≠ p := fun z => hm (z ▸ List.mem_of_getElem? h1)
      exact .inr ⟨by show upd w.F p o a = none; rw [upd_ne z]; exact e, h, by show upd w.H p o a = some h; rw [upd_ne z]; exact h3, h4.mono (List.prefix_refl _) fr⟩
  · show upd w.H p o a ≠ none
    have z : a ≠ p := fun z => hm (z ▸ h)
    rw [upd_ne z]; exact ok.tr a h
theorem Wd.mutNew {w : Wd} (ok : WOk ct w) {p : Addr} (hp : w.H p = none) {o : HO} {ob : Ob} (r : ORel ct (w.m ++ [p]) w.F ob o) :
    Le w { m := w.m ++ [p], st := w.st ++ [ob], F := w.F, H := upd w.H p o } ∧ WOk ct { m := w.m ++ [p], st := w.st ++ [ob], F := w.F, H := upd w.H p o } := by
  have hF : w.F p = none := by
    cases q : w.F p with
    | none => rfl
    | some x => have := ok.sub p x q; rw [hp] at this; cases this
  have hm : p ∉ w.m := fun z => ok.tr p z hp
  refine ⟨⟨List.prefix_append _ _, fun _ _ h => h, fun a x h _ => by show upd w.H p o a = some x; rw [upd_ne (ne_of_none h hp)]; exact h, fun a h h' => ?_, fun _ _ _ => .inl rfl, fun a h => ?_⟩, ⟨fun a x h => ?_, by simp [ok.len], ?_, fun n a x h1 h2 => ?_, fun a h => ?_⟩⟩
  · rcases List.mem_append.mp h with h | h
    · exact absurd h h'
    · rw [List.mem_singleton] at h; subst h; exact hp
  · show upd w.H p o a ≠ none
    by_cases z : a = p
    · subst z; rw [upd_same]; exact fun z => nomatch z
    · rw [upd_ne z]; exact h
  · show upd w.H p o a = some x
    rw [upd_ne (ne_of_none h hF)]; exact ok.sub a x h
  · show (w.m ++ [p]).Nodup
    rw [List.nodup_append]
    refine ⟨ok.nd, by simp, fun a h b h' z => ?_⟩
    rw [List.mem_singleton] at h'
    subst h'; subst z; exact hm h
  · have h1 : (w.m ++ [p])[n]? = some a := h1
    have h2 : (w.st ++ [ob])[n]? = some x := h2
    by_cases hn : n < w.m.length
    · rw [List.getElem?_append_left hn] at h1
      rw [List.getElem?_append_left (by rw [← ok.len]; exact hn)] at h2
      rcases ok.ob n a x h1 h2 with e | ⟨e, h, h3, h4⟩
      · exact .inl e
      · have z : a ≠ p := fun z => hm (z ▸ List.mem_of_getElem? h1)
        exact .inr ⟨e, h, by show upd w.H p o a = some h; rw [upd_ne z]; exact h3, h4.mono (List.prefix_append _ _) fun _ _ h => h⟩
    · have h3 : n = w.m.length := by
        have := (List.getElem?_eq_some_iff.mp h1).1
        rw [List.length_append, List.length_singleton] at this
        omega
      subst h3
      rw [List.getElem?_append_right (Nat.le_refl _), Nat.sub_self] at h1
      rw [ok.len, List.getElem?_append_right (Nat.le_refl _), Nat.sub_self] at h2
      cases h1; cases h2
      exact .inr ⟨hF, o, upd_same, r⟩
  · show upd w.H p o a ≠ none
    by_cases z : a = p
    · subst z; rw [upd_same]; exact fun z => nomatch z
    · have h : a ∈ w.m ++ [p] := h
      rcases List.mem_append.mp h with h | h
      · rw [upd_ne z]; exact ok.tr a h
      · rw [List.mem_singleton] at h; exact absurd h z
/-- a tuple that stands is data -/
theorem Wd.frzTup {w : Wd} (ok : WOk ct w) {p : Addr} {xs : List V} (hp : w.H p = some (.tup xs)) : Le w { w with F := upd w.F p (.tup xs) } ∧ WOk ct { w with F := upd w.F p (.tup xs) } := by
  have fr : ∀ a x, w.F a = some x → upd w.F p (.tup xs) a = some x := fun a x h => by
    by_cases z : a = p
    · subst z; rw [upd_same]; have := ok.sub _ _ h; rw [hp] at this; exact this
    · rw [upd_ne z]; exact h
  refine ⟨⟨List.prefix_refl _, fr, fun a x h _ => h, fun _ h h' => absurd h h', fun a h h' => ?_, fun a h => h⟩, ⟨fun a x h => ?_, ok.len, ok.nd, fun n a x h1 h2 => ?_, ok.tr⟩⟩
  · by_cases z : a = p
    · subst z; exact .inr ⟨xs, hp⟩
    · exact .inl (upd_ne z)
  · have h : upd w.F p (.tup xs) a = some x := h
    show w.H a = some x
    by_cases z : a = p
    · subst z; rw [upd_same] at h; cases h; exact hp
    · rw [upd_ne z] at h; exact ok.sub a x h
  · rcases ok.ob n a x h1 h2 with e | ⟨e, h, h3, h4⟩
    · exact .inl e
    · by_cases g : x = .gone
      · exact .inl g
      have z : a ≠ p := fun z => by
        subst z
        rw [hp] at h3; cases h3
        cases x with
        | lst l => obtain ⟨_, h4, _⟩ := h4; cases h4
        | dct tk ks vs => rcases h4 with ⟨_, _, h4, _⟩ | ⟨_, _, h4, _⟩ <;> cases h4
        | ins c fs vs => obtain ⟨_, _, _, _, h4, _⟩ := h4; cases h4
        | gone => exact g rfl
      exact .inr ⟨by show upd w.F p (.tup xs) a = none; rw [upd_ne z]; exact e, h, h3, h4.mono (List.prefix_refl _) fr⟩
/-- an object of the store is changed -/
theorem Wd.put {w : Wd} (ok : WOk ct w) {n : Nat} {a : Addr} {o : HO} {ob : Ob} (hn : w.m[n]? = some a) (hF : w.F a = none) (r : ORel ct w.m w.F ob o) :
    Le w { w with st := w.st.set n ob, H := upd w.H a o } ∧ WOk ct { w with st := w.st.set n ob, H := upd w.H a o } := by
  have ha : a ∈ w.m := List.mem_of_getElem? hn
  refine ⟨⟨List.prefix_refl _, fun _ _ h => h, fun b x h hb => ?_, fun _ h h' => absurd h h', fun _ _ _ => .inl rfl, fun b h => ?_⟩, ⟨fun b x h => ?_, by simp [ok.len], ok.nd, fun k b x h1 h2 => ?_, fun b h => ?_⟩⟩
  · show upd w.H a o b = some x
    rw [upd_ne (show b ≠ a from fun z => hb (by rw [z]; exact ha))]; exact h
  · show upd w.H a o b ≠ none
    by_cases z : b = a
    · subst z; rw [upd_same]; exact fun z => nomatch z
    · rw [upd_ne z]; exact h
  · show upd w.H a o b = some x
    rw [upd_ne (ne_of_none h hF)]; exact ok.sub b x h
  · have h1 : w.m[k]? = some b := h1
    have h2 : (w.st.set n ob)[k]? = some x := h2
    by_cases hk : k = n
    · subst hk
      rw [hn] at h1; cases h1
      have hlt : k < w.st.length := by rw [← ok.len]; exact (List.getElem?_eq_some_iff.mp hn).1
      rw [List.getElem?_set_self hlt] at h2
      cases h2
      exact .inr ⟨hF, o, upd_same, r⟩
    · rw [List.getElem?_set_ne (Ne.symm hk)] at h2
      have z : b ≠ a := fun z => by
        subst z
        obtain ⟨p1, p2⟩ := List.getElem?_eq_some_iff.mp h1
        obtain ⟨p3, p4⟩ := List.getElem?_eq_some_iff.mp hn
        exact hk ((List.getElem_inj ok.nd).mp (p2.trans p4.symm))
      rcases ok.ob k b x h1 h2 with e | ⟨e, h, h3, h4⟩
      · exact .inl e
      · exact .inr ⟨e, h, by show upd w.H a o b = some h; rw [upd_ne z]; exact h3, h4⟩
  · show upd w.H a o b ≠ none
    by_cases z : b = a
    · subst z; rw [upd_same]; exact fun z => nomatch z
    · rw [upd_ne z]; exact ok.tr b h
end
end Ev

set_option linter.all false
set_option maxRecDepth 100000
/-! Fz: data read out of the store; what holds of pure data. -/
namespace Ev
open PySem L2
section
variable {ct : Nat → Option Addr}
mutual
theorem Rel.pure {m m' : List Addr} {F : Hp} : ∀ (d : D) {v : V}, d.pure = true → Rel ct m F d v → Rel ct m' F d v
  | .non, _, _, h => h
  | .bl _, _, _, h => h
  | .int _, _, _, h => h
  | .str _, _, _, h => h
  | .tup l, _, p, h => by
    unfold Rel at h ⊢
    obtain ⟨a, vs, e, f, r⟩ := h
    exact ⟨a, vs, e, f, Rels.pure l (by simpa [D.pure] using p) r⟩
  | .lst l, _, p, h => by
    unfold Rel at h ⊢
    obtain ⟨a, vs, e, f, r⟩ := h
    exact ⟨a, vs, e, f, Rels.pure l (by simpa [D.pure] using p) r⟩
  | .dct tk ks vs, _, p, h => by
    unfold Rel at h ⊢
    obtain ⟨a, e, h⟩ := h
    refine ⟨a, e, ?_⟩
    have p' : D.pures ks = true ∧ D.pures vs = true := by simpa [D.pure] using p
    rcases h with ⟨kvs, t, f, k, r⟩ | ⟨kvs, t, f, k, r⟩
    · exact .inl ⟨kvs, t, f, k, Rels.pure vs p'.2 r⟩
    · exact .inr ⟨kvs, t, f, k, Rels.pure vs p'.2 r⟩
  | .set _, _, _, h => by unfold Rel at h; exact h.elim
  | .obj c fs vs, _, p, h => by
    unfold Rel at h ⊢
    obtain ⟨a, C, dx, fvs, e, hc, f, k, r⟩ := h
    exact ⟨a, C, dx, fvs, e, hc, f, k, Rels.pure vs (by simpa [D.pure] using p) r⟩
  | .ref n, _, p, h => by simp [D.pure] at p
theorem Rels.pure {m m' : List Addr} {F : Hp} : ∀ (l : List D) {vs : List V}, D.pures l = true → Rels ct m F l vs → Rels ct m' F l vs
  | [], _, _, h => by unfold Rels at h ⊢; exact h
  | d :: l, _, p, h => by
    unfold Rels at h ⊢
    obtain ⟨v, r, e, h3, h4⟩ := h
    have p' : D.pure d = true ∧ D.pures l = true := by simpa [D.pures] using p
    exact ⟨v, r, e, Rel.pure d p'.1 h3, Rels.pure l p'.2 h4⟩
end
mutual
theorem subst_rel {m m' : List Addr} {F F' : Hp} {f : Nat → Option D} (hF : ∀ a o, F a = some o → F' a = some o) (hf : ∀ n d' v, f n = some d' → Rel ct m F (.ref n) v → Rel ct m' F' d' v) :
    ∀ (d : D) {d' : D} {v : V}, D.subst f d = some d' → Rel ct m F d v → Rel ct m' F' d' v
  | .non, _, _, e, h => by simp [D.subst] at e; subst e; exact h
  | .bl _, _, _, e, h => by simp [D.subst] at e; subst e; exact h
  | .int _, _, _, e, h => by simp [D.subst] at e; subst e; exact h
  | .str _, _, _, e, h => by simp [D.subst] at e; subst e; exact h
  | .tup l, _, _, e, h => by
    simp only [D.subst, Option.map_eq_some_iff] at e
    obtain ⟨l', e1, rfl⟩ := e
    unfold Rel at h ⊢
    obtain ⟨a, vs, e, g, r⟩ := h
    exact ⟨a, vs, e, hF _ _ g, substs_rel hF hf l e1 r⟩
  | .lst l, _, _, e, h => by
    simp only [D.subst, Option.map_eq_some_iff] at e
    obtain ⟨l', e1, rfl⟩ := e
    unfold Rel at h ⊢
    obtain ⟨a, vs, e, g, r⟩ := h
    exact ⟨a, vs, e, rd_fr hF g, substs_rel hF hf l e1 r⟩
  | .dct tk ks vs, _, _, e, h => by
    simp only [D.subst] at e
    split at e
    · rename_i a b e1 e2
      cases e
      unfold Rel at h ⊢
      obtain ⟨x, e, h⟩ := h
      refine ⟨x, e, ?_⟩
      rcases h with ⟨kvs, t, g, k, r⟩ | ⟨kvs, t, g, k, r⟩
      · refine .inl ⟨kvs, t, hF _ _ g, ?_, substs_rel hF hf vs e2 r⟩
        rw [k] at e1
        have : ∀ l : List (Key × V), D.substs f (l.map fun p => kD p.1) = some (l.map fun p => kD p.1) := fun l => by
          induction l with
          | nil => rfl
          | cons p l ih => rw [List.map_cons]; unfold D.substs; rw [ih]; cases p.1 <;> rfl
        rw [this kvs] at e1; exact (Option.some.inj e1).symm
      · refine .inr ⟨kvs, t, hF _ _ g, ?_, substs_rel hF hf vs e2 r⟩
        rw [k] at e1
        have t1 : ∀ l : List Key, D.substs f (l.map kD) = some (l.map kD) := fun l => by
          induction l with
          | nil => rfl
          | cons p l ih => rw [List.map_cons]; unfold D.substs; rw [ih]; cases p <;> rfl
        have : ∀ l : List (List Key × V), D.substs f (l.map fun p => ktD p.1) = some (l.map fun p => ktD p.1) := fun l => by
          induction l with
          | nil => rfl
          | cons p l ih => rw [List.map_cons]; unfold D.substs; rw [ih]; unfold ktD; simp [D.subst, t1]
        rw [this kvs] at e1; exact (Option.some.inj e1).symm
    · cases e
  | .set _, _, _, _, h => by unfold Rel at h; exact h.elim
  | .obj c fs vs, _, _, e, h => by
    simp only [D.subst, Option.map_eq_some_iff] at e
    obtain ⟨l', e1, rfl⟩ := e
    unfold Rel at h ⊢
    obtain ⟨a, C, dx, fvs, e, hc, g, k, r⟩ := h
    exact ⟨a, C, dx, fvs, e, hc, hF _ _ g, k, substs_rel hF hf vs e1 r⟩
  | .ref n, _, _, e, h => hf _ _ _ (by simpa [D.subst] using e) h
theorem substs_rel {m m' : List Addr} {F F' : Hp} {f : Nat → Option D} (hF : ∀ a o, F a = some o → F' a = some o) (hf : ∀ n d' v, f n = some d' → Rel ct m F (.ref n) v → Rel ct m' F' d' v) :
    ∀ (l : List D) {l' : List D} {vs : List V}, D.substs f l = some l' → Rels ct m F l vs → Rels ct m' F' l' vs
  | [], _, _, e, h => by simp [D.substs] at e; subst e; unfold Rels at h ⊢; exact h
  | d :: l, _, _, e, h => by
    simp only [D.substs] at e
    split at e
    · rename_i a b e1 e2
      cases e
      unfold Rels at h
      obtain ⟨v, r, rfl, h3, h4⟩ := h
      exact Rels.cons (subst_rel hF hf d e1 h3) (substs_rel hF hf l e2 h4)
    · cases e
end
/-- the objects at k and above are what changes no more -/
structure FzOk (w : Wd) (k : Nat) (F' : Hp) : Prop where
  fr : ∀ a o, w.F a = some o → F' a = some o
  obj : ∀ (n : Nat) a o, k ≤ n → w.m[n]? = some a → w.st[n]? = some o → o ≠ .gone → F' a = w.H a
theorem frzAt_rel {w : Wd} (ok : WOk ct w) {k : Nat} {F' : Hp} (fz : FzOk w k F') {m' : List Addr} : ∀ (h n : Nat) {d' : D} {v : V}, frzAt w.st k h n = some d' → Rel ct w.m w.F (.ref n) v → Rel ct m' F' d' v
  | 0, _, _, _, e, _ => by simp [frzAt] at e
  | h + 1, n, d', v, e, r => by
    have ih := fun n d' v => @frzAt_rel w ok k F' fz m' h n d' v
    unfold frzAt at e
    split at e
    · cases e
    · rename_i hk
      unfold Rel at r
      obtain ⟨a, rfl, ea⟩ := r
      split at e
      · rename_i l es
        rw [Option.map_eq_some_iff] at e
        obtain ⟨l', e1, rfl⟩ := e
        rcases ok.ob n a _ ea es with z | ⟨z, ho, h1, h2⟩
        · cases z
        · obtain ⟨vs, rfl, h3⟩ := h2
          unfold Rel
          exact ⟨a, vs, rfl, .inl ((fz.obj n a _ (by omega) ea es (fun z => nomatch z)).trans h1), substs_rel fz.fr (fun n d' v => ih n d' v) l e1 h3⟩
      · rename_i tk ks vs es
        split at e
        · rename_i a' b' e1 e2
          cases e
          rcases ok.ob n a _ ea es with z | ⟨z, ho, h1, h2⟩
          · cases z
          · have hh := (fz.obj n a _ (by omega) ea es (fun z => nomatch z)).trans h1
            have r0 : Rel ct w.m F' (.dct tk ks vs) (.ref a) := by
              unfold Rel
              refine ⟨a, rfl, ?_⟩
              rcases h2 with ⟨kvs, t, rfl, kk, h3⟩ | ⟨kvs, t, rfl, kk, h3⟩
              · exact .inl ⟨kvs, t, hh, kk, h3.mono (List.prefix_refl _) fz.fr⟩
              · exact .inr ⟨kvs, t, hh, kk, h3.mono (List.prefix_refl _) fz.fr⟩
            have e3 : D.subst (frzAt w.st k h) (.dct tk ks vs) = some (.dct tk a' b') := by
              unfold D.subst; rw [e1, e2]
            refine subst_rel (m := w.m) (F := F') (fun _ _ h => h) (fun n d' v h1 h2 => ?_) _ e3 r0
            refine ih n d' v h1 ?_
            unfold Rel at h2 ⊢
            exact h2
        · cases e
      · rename_i c fs vs es
        rw [Option.map_eq_some_iff] at e
        obtain ⟨l', e1, rfl⟩ := e
        rcases ok.ob n a _ ea es with z | ⟨z, ho, h1, h2⟩
        · cases z
        · obtain ⟨C, dx, fvs, hc, rfl, h3, h4⟩ := h2
          unfold Rel
          exact ⟨a, C, dx, fvs, rfl, hc, (fz.obj n a _ (by omega) ea es (fun z => nomatch z)).trans h1, h3, substs_rel fz.fr (fun n d' v => ih n d' v) vs e1 h4⟩
      · cases e
theorem frz_rel {w : Wd} (ok : WOk ct w) {k : Nat} {F' : Hp} (fz : FzOk w k F') {m' : List Addr} {d d' : D} {v : V} (e : frz w.st k d = some d') (r : w.R ct d v) : Rel ct m' F' d' v := by
  unfold frz at e
  split at e
  · rename_i p
    cases e
    exact (Rel.pure d p r).mono (List.prefix_refl _) fz.fr
  · exact subst_rel fz.fr (fun n d' v => frzAt_rel ok fz 4 n) d e r
theorem frzs_rel {w : Wd} (ok : WOk ct w) {k : Nat} {F' : Hp} (fz : FzOk w k F') {m' : List Addr} : ∀ {l l' : List D} {vs : List V}, frzs w.st k l = some l' → w.Rs ct l vs → Rels ct m' F' l' vs
  | [], _, _, e, h => by simp [frzs] at e; subst e; unfold Rels at h ⊢; exact h
  | d :: l, _, _, e, h => by
    simp only [frzs] at e
    split at e
    · rename_i a b e1 e2
      cases e
      unfold Rels at h
      obtain ⟨v, r, rfl, h3, h4⟩ := h
      exact Rels.cons (frz_rel ok fz e1 h3) (frzs_rel ok fz e2 h4)
    · cases e
/-- what is read now, all objects as they stand -/
def Wd.now (w : Wd) : Hp := fun a => match w.F a with
  | some o => some o
  | none => if a ∈ w.m then w.H a else none
theorem Wd.now_ok {w : Wd} (ok : WOk ct w) : FzOk w 0 w.now := by
  refine ⟨fun a o h => by unfold Wd.now; rw [h], fun n a o _ h1 h2 h3 => ?_⟩
  unfold Wd.now
  rcases ok.ob n a o h1 h2 with e | ⟨e, _⟩
  · exact absurd e h3
  · rw [e]
    show (if a ∈ w.m then w.H a else none) = w.H a
    rw [if_pos (List.mem_of_getElem? h1)]
theorem Wd.now_sub {w : Wd} (ok : WOk ct w) : ∀ a o, w.now a = some o → w.H a = some o := fun a o h => by
  unfold Wd.now at h
  split at h
  · rename_i q; cases h; exact ok.sub a _ q
  · split at h
    · exact h
    · cases h
/-- a datum, read now -/
theorem frz_now {w : Wd} (ok : WOk ct w) {d d' : D} {v : V} (e : frz w.st 0 d = some d') (r : w.R ct d v) : Rel ct [] w.now d' v := frz_rel ok (Wd.now_ok ok) e r
theorem frzs_now {w : Wd} (ok : WOk ct w) {d d' : List D} {v : List V} (e : frzs w.st 0 d = some d') (r : w.Rs ct d v) : Rels ct [] w.now d' v := frzs_rel ok (Wd.now_ok ok) e r

/-! what is read out is pure -/
mutual
theorem subst_pure {f : Nat → Option D} (hf : ∀ n d', f n = some d' → d'.pure = true) : ∀ (d : D) {d' : D}, D.subst f d = some d' → d'.pure = true
  | .non, _, e => by simp [D.subst] at e; subst e; rfl
  | .bl _, _, e => by simp [D.subst] at e; subst e; rfl
  | .int _, _, e => by simp [D.subst] at e; subst e; rfl
  | .str _, _, e => by simp [D.subst] at e; subst e; rfl
  | .tup l, _, e => by
    simp only [D.subst, Option.map_eq_some_iff] at e
    obtain ⟨l', e1, rfl⟩ := e
    show D.pures l' = true
    exact substs_pure hf l e1
  | .lst l, _, e => by
    simp only [D.subst, Option.map_eq_some_iff] at e
    obtain ⟨l', e1, rfl⟩ := e
    show D.pures l' = true
    exact substs_pure hf l e1
  | .dct tk ks vs, _, e => by
    simp only [D.subst] at e
    split at e
    · rename_i a b e1 e2
      cases e
      show (D.pures a && D.pures b) = true
      rw [substs_pure hf ks e1, substs_pure hf vs e2]; rfl
    · cases e
  | .set l, _, e => by
    simp only [D.subst, Option.map_eq_some_iff] at e
    obtain ⟨l', e1, rfl⟩ := e
    show D.pures l' = true
    exact substs_pure hf l e1
  | .obj c fs vs, _, e => by
    simp only [D.subst, Option.map_eq_some_iff] at e
    obtain ⟨l', e1, rfl⟩ := e
    show D.pures l' = true
    exact substs_pure hf vs e1
  | .ref n, _, e => hf n _ (by simpa [D.subst] using e)
theorem substs_pure {f : Nat → Option D} (hf : ∀ n d', f n = some d' → d'.pure = true) : ∀ (l : List D) {l' : List D}, D.substs f l = some l' → D.pures l' = true
  | [], _, e => by simp [D.substs] at e; subst e; rfl
  | d :: l, _, e => by
    simp only [D.substs] at e
    split at e
    · rename_i a b e1 e2
      cases e
      show (D.pure a && D.pures b) = true
      rw [subst_pure hf d e1, substs_pure hf l e2]; rfl
    · cases e
end
theorem frzAt_pure {st : List Ob} {k : Nat} : ∀ (h n : Nat) {d' : D}, frzAt st k h n = some d' → d'.pure = true
  | 0, _, _, e => by simp [frzAt] at e
  | h + 1, n, d', e => by
    have ih := fun n d' => @frzAt_pure st k h n d'
    unfold frzAt at e
    split at e
    · cases e
    · split at e
      · rw [Option.map_eq_some_iff] at e
        obtain ⟨l', e1, rfl⟩ := e
        exact substs_pure (fun n d' h => ih n d' h) _ e1
      · split at e
        · rename_i a b e1 e2
          cases e
          show (D.pures a && D.pures b) = true
          rw [substs_pure (fun n d' h => ih n d' h) _ e1, substs_pure (fun n d' h => ih n d' h) _ e2]; rfl
        · cases e
      · rw [Option.map_eq_some_iff] at e
        obtain ⟨l', e1, rfl⟩ := e
        exact substs_pure (fun n d' h => ih n d' h) _ e1
      · cases e
theorem frz_pure {st : List Ob} {k : Nat} {d d' : D} (e : frz st k d = some d') : d'.pure = true := by
  unfold frz at e
  split at e
  · rename_i p; cases e; exact p
  · exact subst_pure (fun n d' h => frzAt_pure 4 n h) d e
theorem frzs_pure {st : List Ob} {k : Nat} : ∀ {l l' : List D}, frzs st k l = some l' → D.pures l' = true
  | [], _, e => by simp [frzs] at e; subst e; rfl
  | d :: l, _, e => by
    simp only [frzs] at e
    split at e
    · rename_i a b e1 e2
      cases e
      show (D.pure a && D.pures b) = true
      rw [frz_pure e1, frzs_pure e2]; rfl
    · cases e
theorem pures_kD : ∀ l : List Key, D.pures (l.map kD) = true
  | [] => rfl
  | p :: l => by rw [List.map_cons]; unfold D.pures; rw [pures_kD l]; cases p <;> rfl
theorem pures_kD2 : ∀ l : List (Key × V), D.pures (l.map fun p => kD p.1) = true
  | [] => rfl
  | p :: l => by rw [List.map_cons]; unfold D.pures; rw [pures_kD2 l]; cases p.1 <;> rfl
theorem pures_ktD : ∀ l : List (List Key × V), D.pures (l.map fun p => ktD p.1) = true
  | [] => rfl
  | p :: l => by rw [List.map_cons]; unfold D.pures; rw [pures_ktD l]; unfold ktD D.pure; rw [pures_kD]; rfl
def Ob.pure : Ob → Bool
  | .lst l => D.pures l
  | .dct _ ks vs => D.pures ks && D.pures vs
  | .ins _ _ vs => D.pures vs
  | .gone => true
theorem frzOb_pure {st : List Ob} {k : Nat} {o o' : Ob} (e : frzOb st k o = some o') : o'.pure = true := by
  cases o with
  | lst l =>
    simp only [frzOb, Option.map_eq_some_iff] at e
    obtain ⟨l', e1, rfl⟩ := e
    exact frzs_pure e1
  | dct tk ks vs =>
    simp only [frzOb] at e
    split at e
    · rename_i a b e1 e2
      cases e
      show (D.pures a && D.pures b) = true
      rw [frzs_pure e1, frzs_pure e2]; rfl
    · cases e
  | ins c fs vs =>
    simp only [frzOb, Option.map_eq_some_iff] at e
    obtain ⟨l', e1, rfl⟩ := e
    exact frzs_pure e1
  | gone => simp [frzOb] at e; subst e; rfl
theorem frzObs_all {st : List Ob} {k : Nat} : ∀ {l l' : List Ob}, frzObs st k l = some l' → l'.length = l.length ∧ (∀ (n : Nat) o, l[n]? = some o → ∃ o', l'[n]? = some o' ∧ frzOb st k o = some o') ∧ ∀ o ∈ l', o.pure = true
  | [], _, e => by simp [frzObs] at e; subst e; simp
  | o :: l, _, e => by
    simp only [frzObs] at e
    split at e
    · rename_i a b e1 e2
      cases e
      obtain ⟨h1, h2, h3⟩ := frzObs_all e2
      refine ⟨by simp [h1], fun n x h => ?_, fun x h => ?_⟩
      · cases n with
        | zero => simp at h; subst h; exact ⟨a, rfl, e1⟩
        | succ n => simp at h; obtain ⟨o', h4, h5⟩ := h2 n x h; exact ⟨o', by simpa using h4, h5⟩
      · rcases List.mem_cons.mp h with h | h
        · subst h; exact frzOb_pure e1
        · exact h3 x h
    · cases e
theorem frzOb_rel {w : Wd} (ok : WOk ct w) {k : Nat} {F' : Hp} (fz : FzOk w k F') {m' : List Addr} {o o' : Ob} {h : HO} (e : frzOb w.st k o = some o') (r : ORel ct w.m w.F o h) : ORel ct m' F' o' h := by
  cases o with
  | lst l =>
    simp only [frzOb, Option.map_eq_some_iff] at e
    obtain ⟨l', e1, rfl⟩ := e
    obtain ⟨vs, rfl, r⟩ := r
    exact ⟨vs, rfl, frzs_rel ok fz e1 r⟩
  | dct tk ks vs =>
    simp only [frzOb] at e
    split at e
    · rename_i a b e1 e2
      cases e
      have key : ∀ {l : List D}, D.pures l = true → frzs w.st k l = some l := fun {l} => by
        induction l with
        | nil => intro _; rfl
        | cons d l ih =>
          intro p
          have p' : D.pure d = true ∧ D.pures l = true := by simpa [D.pures] using p
          unfold frzs
          rw [ih p'.2, show frz w.st k d = some d by unfold frz; rw [if_pos p'.1]]
      rcases r with ⟨kvs, t, rfl, kk, r⟩ | ⟨kvs, t, rfl, kk, r⟩
      · refine .inl ⟨kvs, t, rfl, ?_, frzs_rel ok fz e2 r⟩
        have hp : D.pures ks = true := by rw [kk]; exact pures_kD2 kvs
        rw [key hp] at e1; cases e1; exact kk
      · refine .inr ⟨kvs, t, rfl, ?_, frzs_rel ok fz e2 r⟩
        have hp : D.pures ks = true := by rw [kk]; exact pures_ktD kvs
        rw [key hp] at e1; cases e1; exact kk
    · cases e
  | ins c fs vs =>
    simp only [frzOb, Option.map_eq_some_iff] at e
    obtain ⟨l', e1, rfl⟩ := e
    obtain ⟨C, dx, fvs, hc, rfl, h3, h4⟩ := r
    exact ⟨C, dx, fvs, hc, rfl, h3, frzs_rel ok fz e1 h4⟩
  | gone => simp [frzOb] at e; subst e; trivial
end
end Ev

set_option linter.all false
set_option maxRecDepth 100000
/-! Dt: comparisons of data. -/
namespace Ev
open PySem L2
mutual
def D.py : D → PyData
  | .non => .none
  | .bl b => .bool b
  | .int i => .int i
  | .str x => .str x
  | .tup l => .tuple (D.pys l)
  | .lst l => .list (D.pys l)
  | .dct _ _ _ => .none
  | .set _ => .none
  | .obj _ _ _ => .none
  | .ref _ => .none
def D.pys : List D → List PyData
  | [] => []
  | d :: l => D.py d :: D.pys l
end
theorem pys_length : ∀ l : List D, (D.pys l).length = l.length
  | [] => rfl
  | d :: l => by unfold D.pys; rw [List.length_cons, List.length_cons, pys_length l]
mutual
theorem py_depth : ∀ d : D, d.cmpb = true → d.py.depth = d.depth
  | .non, _ => by simp [D.py, D.depth, PyData.depth]
  | .bl _, _ => by simp [D.py, D.depth, PyData.depth]
  | .int _, _ => by simp [D.py, D.depth, PyData.depth]
  | .str _, _ => by simp [D.py, D.depth, PyData.depth]
  | .tup l, h => by simp only [D.py, D.depth, PyData.depth]; rw [pys_depth l (by simpa [D.cmpb] using h)]
  | .lst l, h => by simp only [D.py, D.depth, PyData.depth]; rw [pys_depth l (by simpa [D.cmpb] using h)]
  | .dct _ _ _, h => by simp [D.cmpb] at h
  | .set _, h => by simp [D.cmpb] at h
  | .obj _ _ _, h => by simp [D.cmpb] at h
  | .ref _, h => by simp [D.cmpb] at h
theorem pys_depth : ∀ l : List D, D.cmpbs l = true → PyData.depthAll (D.pys l) = D.depths l
  | [], _ => by simp [D.pys, D.depths, PyData.depthAll]
  | d :: l, h => by
    have h' : d.cmpb = true ∧ D.cmpbs l = true := by simpa [D.cmpbs] using h
    simp only [D.pys, D.depths, PyData.depthAll]
    rw [py_depth d h'.1, pys_depth l h'.2]
end
mutual
theorem py_lay : ∀ d : D, d.cmpb = true → d.py.canLay0 = true
  | .non, _ => by simp [D.py, PyData.canLay0]
  | .bl _, _ => by simp [D.py, PyData.canLay0]
  | .int _, _ => by simp [D.py, PyData.canLay0]
  | .str x, h => by simpa [D.py, PyData.canLay0, D.cmpb] using h
  | .tup l, h => by simp only [D.py, PyData.canLay0]; exact pys_lay l (by simpa [D.cmpb] using h)
  | .lst l, h => by simp only [D.py, PyData.canLay0]; exact pys_lay l (by simpa [D.cmpb] using h)
  | .dct _ _ _, h => by simp [D.cmpb] at h
  | .set _, h => by simp [D.cmpb] at h
  | .obj _ _ _, h => by simp [D.cmpb] at h
  | .ref _, h => by simp [D.cmpb] at h
theorem pys_lay : ∀ l : List D, D.cmpbs l = true → PyData.canLayAll0 (D.pys l) = true
  | [], _ => by simp [D.pys, PyData.canLayAll0]
  | d :: l, h => by
    have h' : d.cmpb = true ∧ D.cmpbs l = true := by simpa [D.cmpbs] using h
    simp only [D.pys, PyData.canLayAll0]
    rw [py_lay d h'.1, pys_lay l h'.2]; rfl
end
mutual
theorem py_eqv : ∀ a b : D, a.cmpb = true → b.cmpb = true → PyData.eqv a.py b.py = D.peq a b
  | .non, b, _, h => by cases b <;> simp_all [D.py, D.peq, PyData.eqv, D.cmpb]
  | .bl x, b, _, h => by cases b <;> simp_all [D.py, D.peq, PyData.eqv, D.cmpb]; rw [Bool.beq_eq_decide_eq]
  | .int i, b, _, h => by
    cases b <;> simp_all [D.py, D.peq, PyData.eqv, D.cmpb]
    · rw [Bool.beq_eq_decide_eq]
    · rw [Bool.beq_eq_decide_eq]
  | .str x, b, _, h => by cases b <;> simp_all [D.py, D.peq, PyData.eqv, D.cmpb]; rw [Bool.beq_eq_decide_eq]
  | .tup l, b, g, h => by
    cases b with
    | tup m =>
      simp only [D.py, D.peq, PyData.eqv]
      exact pys_eqv l m (by simpa [D.cmpb] using g) (by simpa [D.cmpb] using h)
    | _ => simp_all [D.py, D.peq, PyData.eqv, D.cmpb]
  | .lst l, b, g, h => by
    cases b with
    | lst m =>
      simp only [D.py, D.peq, PyData.eqv]
      exact pys_eqv l m (by simpa [D.cmpb] using g) (by simpa [D.cmpb] using h)
    | _ => simp_all [D.py, D.peq, PyData.eqv, D.cmpb]
  | .dct _ _ _, _, h, _ => by simp [D.cmpb] at h
  | .set _, _, h, _ => by simp [D.cmpb] at h
  | .obj _ _ _, _, h, _ => by simp [D.cmpb] at h
  | .ref _, _, h, _ => by simp [D.cmpb] at h
theorem pys_eqv : ∀ a b : List D, D.cmpbs a = true → D.cmpbs b = true → PyData.eqvAll (D.pys a) (D.pys b) = D.peqs a b
  | [], [], _, _ => by simp [D.pys, D.peqs, PyData.eqvAll]
  | [], _ :: _, _, _ => by simp [D.pys, D.peqs, PyData.eqvAll]
  | _ :: _, [], _, _ => by simp [D.pys, D.peqs, PyData.eqvAll]
  | x :: l, y :: m, g, h => by
    have g' : x.cmpb = true ∧ D.cmpbs l = true := by simpa [D.cmpbs] using g
    have h' : y.cmpb = true ∧ D.cmpbs m = true := by simpa [D.cmpbs] using h
    simp only [D.pys, D.peqs, PyData.eqvAll]
    rw [py_eqv x y g'.1 h'.1, pys_eqv l m g'.2 h'.2]
end
theorem py_any (d : D) (hd : d.cmpb = true) : ∀ l : List D, D.cmpbs l = true → ((D.pys l).any fun z => PyData.eqv z d.py) = D.isIn d l
  | [], _ => rfl
  | x :: l, h => by
    have h' : x.cmpb = true ∧ D.cmpbs l = true := by simpa [D.cmpbs] using h
    simp only [D.pys, List.any_cons, D.isIn]
    rw [py_eqv x d h'.1 hd, py_any d hd l h'.2]
mutual
theorem alike_cmp : ∀ a b : D, D.alike a b = true → a.py ≠ .none
  | .int _, _, _ => by simp [D.py]
  | .bl _, _, _ => by simp [D.py]
  | .str _, _, _ => by simp [D.py]
  | .tup _, _, _ => by simp [D.py]
  | .lst _, _, _ => by simp [D.py]
  | .non, _, h => by simp [D.alike] at h
  | .dct _ _ _, _, h => by simp [D.alike] at h
  | .set _, _, h => by simp [D.alike] at h
  | .obj _ _ _, _, h => by simp [D.alike] at h
  | .ref _, _, h => by simp [D.alike] at h
theorem alike_py : ∀ a b : D, D.alike a b = true → W.alike a.py b.py = true
  | .int _, b, h => by cases b <;> simp_all [D.alike, D.py, W.alike]
  | .bl _, b, h => by cases b <;> simp_all [D.alike, D.py, W.alike]
  | .str _, b, h => by cases b <;> simp_all [D.alike, D.py, W.alike]
  | .tup l, b, h => by
    cases b with
    | tup m => simp only [D.py, W.alike]; exact alikes_py l m (by simpa [D.alike] using h)
    | _ => simp [D.alike] at h
  | .lst l, b, h => by
    cases b with
    | lst m => simp only [D.py, W.alike]; exact alikes_py l m (by simpa [D.alike] using h)
    | _ => simp [D.alike] at h
  | .non, _, h => by simp [D.alike] at h
  | .dct _ _ _, _, h => by simp [D.alike] at h
  | .set _, _, h => by simp [D.alike] at h
  | .obj _ _ _, _, h => by simp [D.alike] at h
  | .ref _, _, h => by simp [D.alike] at h
theorem alikes_py : ∀ a b : List D, D.alikes a b = true → W.alikeAll (D.pys a) (D.pys b) = true
  | [], _, _ => by simp [D.pys, W.alikeAll]
  | x :: l, [], _ => by simp [D.pys, W.alikeAll]
  | x :: l, y :: m, h => by
    have h' : D.alike x y = true ∧ D.alikes l m = true := by simpa [D.alikes] using h
    simp only [D.pys, W.alikeAll]
    rw [alike_py x y h'.1, alikes_py l m h'.2]; rfl
end
mutual
/-- == of alike data, whatever their texts -/
theorem alike_eqv : ∀ a b : D, D.alike a b = true → PyData.eqv a.py b.py = D.peq a b
  | .int _, b, h => by cases b <;> simp_all [D.alike, D.py, D.peq, PyData.eqv]; rw [Bool.beq_eq_decide_eq]
  | .bl _, b, h => by cases b <;> simp_all [D.alike, D.py, D.peq, PyData.eqv]
  | .str _, b, h => by cases b <;> simp_all [D.alike, D.py, D.peq, PyData.eqv]; rw [Bool.beq_eq_decide_eq]
  | .tup l, b, h => by
    cases b with
    | tup m => simp only [D.py, D.peq, PyData.eqv]; exact alikes_eqv l m (by simpa [D.alike] using h)
    | _ => simp [D.alike] at h
  | .lst l, b, h => by
    cases b with
    | lst m => simp only [D.py, D.peq, PyData.eqv]; exact alikes_eqv l m (by simpa [D.alike] using h)
    | _ => simp [D.alike] at h
  | .non, _, h => by simp [D.alike] at h
  | .dct _ _ _, _, h => by simp [D.alike] at h
  | .set _, _, h => by simp [D.alike] at h
  | .obj _ _ _, _, h => by simp [D.alike] at h
  | .ref _, _, h => by simp [D.alike] at h
theorem alikes_eqv : ∀ a b : List D, D.alikes a b = true → PyData.eqvAll (D.pys a) (D.pys b) = D.peqs a b
  | [], [], _ => by simp [D.pys, D.peqs, PyData.eqvAll]
  | [], _ :: _, _ => by simp [D.pys, D.peqs, PyData.eqvAll]
  | _ :: _, [], _ => by simp [D.pys, D.peqs, PyData.eqvAll]
  | x :: l, y :: m, h => by
    have h' : D.alike x y = true ∧ D.alikes l m = true := by simpa [D.alikes] using h
    simp only [D.pys, D.peqs, PyData.eqvAll]
    rw [alike_eqv x y h'.1, alikes_eqv l m h'.2]
end
mutual
theorem py_lt : ∀ a b : D, D.alike a b = true → W.dataLt a.py b.py = D.plt a b
  | .int i, b, h => by cases b <;> simp_all [D.alike, D.py, D.plt, W.dataLt_int]
  | .bl x, b, h => by
    cases b <;> simp_all [D.alike, D.py, D.plt, W.dataLt_bool]
    rename_i y
    cases x <;> cases y <;> rfl
  | .str _, b, h => by cases b <;> simp_all [D.alike, D.py, D.plt, W.dataLt_str]
  | .tup l, b, h => by
    cases b with
    | tup m => simp only [D.py, D.plt, W.dataLt_tuple]; exact pys_lt l m (by simpa [D.alike] using h)
    | _ => simp [D.alike] at h
  | .lst l, b, h => by
    cases b with
    | lst m => simp only [D.py, D.plt, W.dataLt_list]; exact pys_lt l m (by simpa [D.alike] using h)
    | _ => simp [D.alike] at h
  | .non, _, h => by simp [D.alike] at h
  | .dct _ _ _, _, h => by simp [D.alike] at h
  | .set _, _, h => by simp [D.alike] at h
  | .obj _ _ _, _, h => by simp [D.alike] at h
  | .ref _, _, h => by simp [D.alike] at h
theorem pys_lt : ∀ a b : List D, D.alikes a b = true → PyProof.Rows.lexLt PyProof.Rows.itemOrd (W.keyToksAll (D.pys a)) (W.keyToksAll (D.pys b)) = D.plts a b
  | [], [], _ => by simp only [D.pys, D.plts]; decide
  | [], y :: m, _ => by
    simp only [D.pys, D.plts]
    rw [W.toks_all_cons]
    simp only [W.keyToksAll]
    exact (W.lex_atom (by simp) _ _).trans (by decide)
  | x :: l, [], _ => by
    simp only [D.pys, D.plts]
    rw [W.toks_all_cons]
    simp only [W.keyToksAll]
    exact (W.lex_atom (by simp) _ _).trans (by decide)
  | x :: l, y :: m, h => by
    have h' : D.alike x y = true ∧ D.alikes l m = true := by simpa [D.alikes] using h
    simp only [D.pys, D.plts]
    have e := alike_eqv x y h'.1
    cases q : D.peq x y with
    | true =>
      rw [q] at e
      rw [W.dataLt_all_yes (alike_py x y h'.1) e, pys_lt l m h'.2]; simp
    | false =>
      rw [q] at e
      rw [W.dataLt_all_no (alike_py x y h'.1) e, py_lt x y h'.1]; simp
end
mutual
theorem alike_sym : ∀ a b : D, D.alike a b = D.alike b a
  | .int _, b => by cases b <;> simp [D.alike]
  | .bl _, b => by cases b <;> simp [D.alike]
  | .str _, b => by cases b <;> simp [D.alike]
  | .tup l, b => by
    cases b with
    | tup m => simp only [D.alike]; exact alikes_sym l m
    | _ => simp [D.alike]
  | .lst l, b => by
    cases b with
    | lst m => simp only [D.alike]; exact alikes_sym l m
    | _ => simp [D.alike]
  | .non, b => by cases b <;> simp [D.alike]
  | .dct _ _ _, b => by cases b <;> simp [D.alike]
  | .set _, b => by cases b <;> simp [D.alike]
  | .obj _ _ _, b => by cases b <;> simp [D.alike]
  | .ref _, b => by cases b <;> simp [D.alike]
theorem alikes_sym : ∀ a b : List D, D.alikes a b = D.alikes b a
  | [], [] => rfl
  | [], _ :: _ => by simp [D.alikes]
  | _ :: _, [] => by simp [D.alikes]
  | x :: l, y :: m => by simp only [D.alikes]; rw [alike_sym x y, alikes_sym l m]
end
section
variable {ct : Nat → Option Addr} {K : PySem.W.Frag}
mutual
/-- data that can be compared lie as the layer's data -/
theorem Rel.dp {m : List Addr} {F H : Hp} (sub : ∀ a o, F a = some o → H a = some o) : ∀ (d : D) {v : V}, d.cmpb = true → Rel ct m F d v → Dp K H v d.py
  | .non, _, _, h => by unfold Rel at h; subst h; exact .non
  | .bl b, _, _, h => by unfold Rel at h; subst h; exact .bl b
  | .int i, _, _, h => by unfold Rel at h; subst h; exact .int i
  | .str x, _, _, h => by unfold Rel at h; subst h; exact .str x
  | .tup l, _, c, h => by
    unfold Rel at h
    obtain ⟨a, vs, rfl, g, r⟩ := h
    exact .tup (.inl (.inl (sub _ _ g))) (Rels.dp sub l (by simpa [D.cmpb] using c) r)
  | .lst l, _, c, h => by
    unfold Rel at h
    obtain ⟨a, vs, rfl, g, r⟩ := h
    exact .lst (.inl (rd_fr sub g)) (Rels.dp sub l (by simpa [D.cmpb] using c) r)
  | .dct _ _ _, _, c, _ => by simp [D.cmpb] at c
  | .set _, _, c, _ => by simp [D.cmpb] at c
  | .obj _ _ _, _, c, _ => by simp [D.cmpb] at c
  | .ref _, _, c, _ => by simp [D.cmpb] at c
theorem Rels.dp {m : List Addr} {F H : Hp} (sub : ∀ a o, F a = some o → H a = some o) : ∀ (l : List D) {vs : List V}, D.cmpbs l = true → Rels ct m F l vs → DpAll K H vs (D.pys l)
  | [], _, _, h => by unfold Rels at h; subst h; exact .nil
  | d :: l, _, c, h => by
    unfold Rels at h
    obtain ⟨v, r, rfl, h3, h4⟩ := h
    have c' : d.cmpb = true ∧ D.cmpbs l = true := by simpa [D.cmpbs] using c
    exact .cons (Rel.dp sub d c'.1 h3) (Rels.dp sub l c'.2 h4)
end
end
end Ev

set_option linter.all false
set_option maxRecDepth 100000
set_option maxHeartbeats 4000000
/-! Tm: tuple * int where nothing new comes, or the empty tuple. -/
namespace Ev
open PySem PySem.Spec PyProof.Rows L2
theorem tuple_mulS (l : Addr) (items : Array Value) (n : Nat) (dd : Option Addr) (sl : Array (Option Value)) (x : Int) (u : Tok) (c0 : (decide (x < -(2 ^ 63)) || decide (x ≥ 2 ^ 63)) = false) (c1 : (items.isEmpty || x == 1) = true) :
    Meets (Builtin.«tuple.__mul__» ⟨[.ref l, .int x u], []⟩) (fun _ R s => s.heap.get? l = some { cls := .type "tuple", dict := dd, data := .seq items n, slots := sl } ∧ R (.ok (.ret (Value.ref l))) s) :=
  .of_wp fun prog w A R s h => by
    obtain ⟨hp, g, d, tk, os⟩ := s
    obtain ⟨hl, h⟩ := h
    have f1 := AutoSeq1.idx_int
    wp_walk using wpAny_loadPart' hl
    repeat (first
      | (refine wpAny_ite_false (decide_eq_false (by rw [c0]; exact Bool.false_ne_true)) ?_; wp_walk using wpAny_loadPart' hl)
      | (refine wpAny_ite_true (decide_eq_true c1) ?_; wp_walk using wpAny_loadPart' hl))
    exact ⟨_, rfl, h⟩
theorem tuple_mul0 (l : Addr) (items : Array Value) (n : Nat) (dd : Option Addr) (sl : Array (Option Value)) (x : Int) (u : Tok) (c0 : (decide (x < -(2 ^ 63)) || decide (x ≥ 2 ^ 63)) = false) (c1 : (items.isEmpty || x == 1) = false) (c2 : (decide (x ≤ 0) || items.isEmpty) = true) :
    Meets (Builtin.«tuple.__mul__» ⟨[.ref l, .int x u], []⟩) (fun _ R s => s.heap.get? l = some { cls := .type "tuple", dict := dd, data := .seq items n, slots := sl } ∧
      R (.ok (.ret (Value.ref s.heap.objs.size))) { s with heap := s.heap.push { cls := Value.type "tuple", data := Data.seq #[] }, toks := s.toks }) :=
  .of_wp fun prog w A R s h => by
    obtain ⟨hp, g, d, tk, os⟩ := s
    obtain ⟨hl, h⟩ := h
    have f1 := AutoSeq1.idx_int
    wp_walk using wpAny_loadPart' hl
    repeat (first
      | (refine wpAny_ite_false (decide_eq_false (by rw [c0]; exact Bool.false_ne_true)) ?_; wp_walk using wpAny_loadPart' hl)
      | (refine wpAny_ite_false (decide_eq_false (by rw [c1]; exact Bool.false_ne_true)) ?_; wp_walk using wpAny_loadPart' hl)
      | (refine wpAny_ite_true (decide_eq_true c2) ?_; wp_walk using wpAny_loadPart' hl))
    exact ⟨_, rfl, h⟩
/-- tuple * int, whatever the int -/
def rRepA (K : PySem.W.Frag) : R2 := fun x y H Q => ∃ l k xs, x = .ref l ∧ y = .int k ∧ SqT K H l xs ∧ -1000 ≤ k ∧ k ≤ 1000 ∧ xs.length ≤ 1000 ∧
  ((k = 1 ∨ xs = []) → Q (.ref l) H) ∧ (k ≠ 1 → xs ≠ [] → ∀ p, H p = none → Q (.ref p) (upd H p (.tup (List.replicate k.toNat xs).flatten)))
theorem op_repA {X : Cx} : OpR X (binaryOp .Mult) (rRepA X.K) := by
  intro pins s σ H x y v u Q I rx ry h
  obtain ⟨l, k, xs, rfl, rfl, hT, h1, h2, hz, q1, q2⟩ := h
  by_cases hne : xs ≠ []
  · by_cases hk : 2 ≤ k
    · exact op_repT pins s σ H _ _ v u Q I rx ry ⟨l, k, xs, rfl, rfl, hT, hne, hk, h2, hz, q2 (by omega) hne⟩
    · cases rx
      obtain ⟨t, rfl⟩ := ry
      obtain ⟨its, r, ⟨⟨cls, dd, data, sl⟩, ho, hc, n, hd⟩, hs⟩ := I.tuple hT
      simp only at hc hd
      subst hc hd
      have hle : its.length = xs.length := r.length.symm
      have hi : its.toArray.isEmpty = false := by
        cases its with
        | nil => exact absurd (List.eq_nil_of_length_eq_zero hle.symm) hne
        | cons a b => rfl
      have c0 : (decide (k < -(2 ^ 63)) || decide (k ≥ 2 ^ 63)) = false := by
        rw [decide_eq_false (by omega), decide_eq_false (by omega)] <;> rfl
      by_cases k1 : k = 1
      · have c1 : (its.toArray.isEmpty || k == 1) = true := by rw [k1, Bool.or_eq_true]; exact .inr rfl
        refine wpAny_binaryOp_repeat_ref (T := "tuple") (U := "int") (by decide) ⟨_, ho, rfl⟩ (fun s' => typeIs_int s' k t) noFill_tuple_mul F.fills_int_mul F.slot_int_rmul repeat_tuple F.slot_int_index.lookup
          (call_meets F.slot_int_rmul (typeIs_int s k t) F.entry_int_rmul (F.args_int_rmul_2 _ _) (int_rmul_tuple k t l its.toArray n dd sl)
            ⟨ho, rfl, ⟨_, ho, rfl⟩, call_meets F.slot_tuple_mul ⟨_, ho, rfl⟩ F.entry_tuple_mul (F.args_tuple_mul_2 _ _) (tuple_mulS l its.toArray n dd sl k t c0 c1) ⟨ho, ?_⟩⟩)
        exact ⟨.ref l, H, I, rfl, q1 (.inl k1)⟩
      · have c1 : (its.toArray.isEmpty || k == 1) = false := by rw [hi, Bool.false_or]; exact beq_eq_false_iff_ne.mpr k1
        have c2 : (decide (k ≤ 0) || its.toArray.isEmpty) = true := by rw [decide_eq_true (by omega), Bool.true_or]
        refine wpAny_binaryOp_repeat_ref (T := "tuple") (U := "int") (by decide) ⟨_, ho, rfl⟩ (fun s' => typeIs_int s' k t) noFill_tuple_mul F.fills_int_mul F.slot_int_rmul repeat_tuple F.slot_int_index.lookup
          (call_meets F.slot_int_rmul (typeIs_int s k t) F.entry_int_rmul (F.args_int_rmul_2 _ _) (int_rmul_tuple k t l its.toArray n dd sl)
            ⟨ho, rfl, ⟨_, ho, rfl⟩, call_meets F.slot_tuple_mul ⟨_, ho, rfl⟩ F.entry_tuple_mul (F.args_tuple_mul_2 _ _) (tuple_mul0 l its.toArray n dd sl k t c0 c1 c2) ⟨ho, ?_⟩⟩)
        have e : (List.replicate k.toNat xs).flatten = [] := by rw [show k.toNat = 0 by omega]; rfl
        have q3 := q2 k1 hne _ (I.hok.fresh (Nat.le_refl _))
        rw [e] at q3
        refine ⟨.ref s.heap.objs.size, _, I.laid (t' := s.toks) (o := .tup []) (fun b ob q => Heap.get?_push_of_some _ q) (Nat.le_refl _) ?_, rfl, q3⟩
        exact ⟨Nat.zero_le _, [], .nil, IsTup.new _ _⟩
  · have hne : xs = [] := Classical.byContradiction hne
    cases rx
    obtain ⟨t, rfl⟩ := ry
    obtain ⟨its, r, ⟨⟨cls, dd, data, sl⟩, ho, hc, n, hd⟩, hs⟩ := I.tuple hT
    simp only at hc hd
    subst hc hd
    have hle : its.length = xs.length := r.length.symm
    have c0 : (decide (k < -(2 ^ 63)) || decide (k ≥ 2 ^ 63)) = false := by
      rw [decide_eq_false (by omega), decide_eq_false (by omega)] <;> rfl
    have c1 : (its.toArray.isEmpty || k == 1) = true := by
      rw [hne] at hle
      rw [List.eq_nil_of_length_eq_zero hle]; rfl
    refine wpAny_binaryOp_repeat_ref (T := "tuple") (U := "int") (by decide) ⟨_, ho, rfl⟩ (fun s' => typeIs_int s' k t) noFill_tuple_mul F.fills_int_mul F.slot_int_rmul repeat_tuple F.slot_int_index.lookup
      (call_meets F.slot_int_rmul (typeIs_int s k t) F.entry_int_rmul (F.args_int_rmul_2 _ _) (int_rmul_tuple k t l its.toArray n dd sl)
        ⟨ho, rfl, ⟨_, ho, rfl⟩, call_meets F.slot_tuple_mul ⟨_, ho, rfl⟩ F.entry_tuple_mul (F.args_tuple_mul_2 _ _) (tuple_mulS l its.toArray n dd sl k t c0 c1) ⟨ho, ?_⟩⟩)
    exact ⟨.ref l, H, I, rfl, q1 (.inr hne)⟩
end Ev

set_option linter.all false
set_option maxRecDepth 100000
/-! Op: operations by values. -/
namespace Ev
open PySem L2
section
variable {ct : Nat → Option Addr} {X : Cx}

/-- what a two-place operation gives -/
def rB (ct : Nat → Option Addr) (f : List Ob → D → D → Option D) : R2 := fun x y H Q => ∃ w a b z, w.H = H ∧ WOk ct w ∧ w.R ct a x ∧ w.R ct b y ∧ f w.st a b = some z ∧
  ∀ w' v, Le w w' → WOk ct w' → w'.st = w.st → w'.R ct z v → Q v w'.H
theorem rel_int {m : List Addr} {F : Hp} {i : Int} {v : V} (h : Rel ct m F (.int i) v) : v = .int i := by unfold Rel at h; exact h
theorem rel_bl {m : List Addr} {F : Hp} {i : Bool} {v : V} (h : Rel ct m F (.bl i) v) : v = .bl i := by unfold Rel at h; exact h
theorem rel_str {m : List Addr} {F : Hp} {i : Str} {v : V} (h : Rel ct m F (.str i) v) : v = .str i := by unfold Rel at h; exact h
theorem rel_non {m : List Addr} {F : Hp} {v : V} (h : Rel ct m F .non v) : v = .non := by unfold Rel at h; exact h
theorem of_int {m : List Addr} {F : Hp} {i : Int} : Rel ct m F (.int i) (.int i) := by unfold Rel; rfl
theorem of_bl {m : List Addr} {F : Hp} {i : Bool} : Rel ct m F (.bl i) (.bl i) := by unfold Rel; rfl
theorem of_str {m : List Addr} {F : Hp} {i : Str} : Rel ct m F (.str i) (.str i) := by unfold Rel; rfl
theorem of_non {m : List Addr} {F : Hp} : Rel ct m F .non .non := by unfold Rel; rfl

/-- a list as it stands: frozen or in the store -/
theorem lst_at {w : Wd} (ok : WOk ct w) {x : D} {l : List D} {v : V} (e : lstOf w.st x = some l) (r : w.R ct x v) : ∃ a vs, v = .ref a ∧ Rd w.H a (.lst vs) ∧ w.Rs ct l vs := by
  cases x with
  | lst m =>
    simp only [lstOf] at e
    cases e
    have r : Rel ct w.m w.F (.lst l) v := r
    unfold Rel at r
    obtain ⟨a, vs, e, f, r⟩ := r
    exact ⟨a, vs, e, rd_fr ok.sub f, r⟩
  | ref n =>
    simp only [lstOf] at e
    split at e
    · rename_i m hm
      cases e
      have r : Rel ct w.m w.F (.ref n) v := r
      unfold Rel at r
      obtain ⟨a, e, h⟩ := r
      rcases ok.ob n a _ h hm with z | ⟨_, o, h1, h2⟩
      · cases z
      · obtain ⟨vs, rfl, h3⟩ := h2
        exact ⟨a, vs, e, .inl h1, h3⟩
    · cases e
  | _ => simp [lstOf] at e
theorem seq_at {w : Wd} (ok : WOk ct w) {x : D} {l : List D} {v : V} (e : seqOf w.st x = some l) (r : w.R ct x v) : ∃ a vs, v = .ref a ∧ (Rd w.H a (.lst vs) ∨ w.H a = some (.tup vs)) ∧ w.Rs ct l vs := by
  cases x with
  | tup m =>
    simp only [seqOf] at e
    cases e
    have r : Rel ct w.m w.F (.tup l) v := r
    unfold Rel at r
    obtain ⟨a, vs, e, f, r⟩ := r
    exact ⟨a, vs, e, .inr (ok.sub _ _ f), r⟩
  | lst m =>
    obtain ⟨a, vs, h1, h2, h3⟩ := lst_at (x := .lst m) ok (by simpa [lstOf, seqOf] using e) r
    exact ⟨a, vs, h1, .inl h2, h3⟩
  | ref n =>
    obtain ⟨a, vs, h1, h2, h3⟩ := lst_at (x := .ref n) ok (by simpa [lstOf, seqOf] using e) r
    exact ⟨a, vs, h1, .inl h2, h3⟩
  | _ => simp [seqOf] at e
theorem seq_sq {K : PySem.W.Frag} {H : Hp} {a : Addr} {vs : List V} (h : Rd H a (.lst vs) ∨ H a = some (.tup vs)) : SqL K H a vs ∨ SqT K H a vs := by
  rcases h with h | h
  · exact .inl (.inl h)
  · exact .inr (.inl (.inl h))

/-! + and * of lists -/
def rCatR : R2 := fun x y H Q => ∃ l b xs zs, x = .ref l ∧ y = .ref b ∧ Rd H l (.lst xs) ∧ Rd H b (.lst zs) ∧ xs.length + zs.length ≤ sizeLine ∧ ∀ p, H p = none → Q (.ref p) (upd H p (.lst (xs ++ zs)))
theorem op_catR : OpR X (binaryOp .Add) rCatR := by
  intro pins s σ H x y v u Q I rx ry h
  obtain ⟨l, b, xs, zs, rfl, rfl, hH, hB, hz, q⟩ := h
  cases rx
  cases ry
  obtain ⟨z, its, n, r, e⟩ := hH.ok I.hok
  obtain ⟨z2, its2, n2, r2, e2⟩ := hB.ok I.hok
  have h1 := r.length
  have h2 := r2.length
  refine PySem.P.add_list e e2 ?_ (by rw [List.size_toArray, List.size_toArray]; omega)
  have ea : its.toArray ++ its2.toArray = (its ++ its2).toArray := by simp
  rw [ea]
  exact ⟨.ref _, _, I.lnew (t' := s.toks) (r.append r2) (by rw [List.length_append]; omega), rfl, q _ I.fresh⟩
/-- as op_rep, of a list that is read -/
def rRepR : R2 := fun x y H Q => ∃ l k xs, x = .ref l ∧ y = .int k ∧ Rd H l (.lst xs) ∧ -(2 ^ 63) ≤ k ∧ k < 2 ^ 63 ∧ xs.length * k.toNat ≤ sizeLine ∧
  ∀ p, H p = none → Q (.ref p) (upd H p (.lst (List.replicate k.toNat xs).flatten))
/-- where the object is locked, the rule for the tracked one is asked in the heap in which it is not -/
theorem op_repR : OpR X (binaryOp .Mult) rRepR := by
  intro pins s σ H x y v u Q I rx ry h
  obtain ⟨l, k, xs, rfl, rfl, hH, h1, h2, hz, q⟩ := h
  rcases hH with hH | ⟨o, hH⟩
  · exact op_rep pins s σ H _ _ v u Q I rx ry ⟨l, k, xs, rfl, rfl, hH, h1, h2, hz, q⟩
  · cases rx
    obtain ⟨t, rfl⟩ := ry
    obtain ⟨z, its, n, r, e⟩ := (Rd.ok (.inr ⟨o, hH⟩) I.hok : ObjOk X.prog X.w H s.heap l (.lst xs))
    have hl := r.length
    have hlen : its.toArray.size * k.toNat ≤ sizeLine := by rw [List.size_toArray, ← hl]; exact hz
    have hcap : ¬ its.toArray.size * k.toNat > (2 ^ 63 - 1) / 8 := by
      have : (sizeLine : Nat) ≤ (2 ^ 63 - 1) / 8 := by decide
      omega
    have hfit : ¬ (!Builtin.List.listFitsIndex k) = true := by
      rw [fitsIndex_both h1 h2]; exact Bool.false_ne_true
    have hlong : ¬ Builtin.List.listTooLong (its.toArray.size * k.toNat) = true := by
      rw [notLongL hlen]; exact Bool.false_ne_true
    have hnew : List.foldl (fun x1 x2 => x1 ++ x2) #[] (List.replicate (if its.toArray.isEmpty = true then 0 else k.toNat) its.toArray) = (List.replicate k.toNat its).flatten.toArray := by
      rw [size_rep]
      cases its with
      | nil => simp
      | cons a r' => rw [if_neg (by simp)]
    refine wpAny_binaryOp_repeat_ref (T := "list") (U := "int") (by decide) ⟨_, e, rfl⟩ (fun s' => typeIs_int s' k t) noFill_list_mul F.fills_int_mul F.slot_int_rmul repeat_list F.slot_int_index.lookup
      (call_meets F.slot_int_rmul (typeIs_int s k t) F.entry_int_rmul (F.args_int_rmul_2 _ _) (int___rmul___int_list k t l its.toArray n)
        ⟨e, rfl, ⟨_, e, rfl⟩, call_meets F.slot_list_mul ⟨_, e, rfl⟩ F.entry_list_mul (F.args_list_mul_2 _ _) (AutoListH.list___mul___list_int_3 l its.toArray n k t hfit hcap hlong) ⟨e, ?_⟩⟩)
    rw [hnew]
    exact ⟨.ref _, _, I.lnew (t' := s.toks) (r.rep k.toNat) (by rw [PyProof.Rows.lm_len_rep_flat, Nat.mul_comm]; exact hz), rfl, q _ I.fresh⟩

def bopP : Bop → Operator
  | .add => .Add | .sub => .Sub | .mul => .Mult | .fdv => .FloorDiv | .mod => .Mod | .pow => .Pow | .shl => .LShift | .shr => .RShift | .band => .BitAnd | .bor => .BitOr | .bxor => .BitXor
theorem tup_at {w : Wd} (ok : WOk ct w) {l : List D} {v : V} (r : w.R ct (.tup l) v) : ∃ a vs, v = .ref a ∧ w.H a = some (.tup vs) ∧ w.Rs ct l vs := by
  have r : Rel ct w.m w.F (.tup l) v := r
  unfold Rel at r
  obtain ⟨a, vs, e, f, r⟩ := r
  exact ⟨a, vs, e, ok.sub _ _ f, r⟩
theorem tup_new {w : Wd} (ok : WOk ct w) {p : Addr} (hp : w.H p = none) {l : List D} {vs : List V} (r : w.Rs ct l vs) :
    ∃ w', Le w w' ∧ WOk ct w' ∧ w'.st = w.st ∧ w'.H = upd w.H p (.tup vs) ∧ w'.R ct (.tup l) (.ref p) := by
  obtain ⟨le, ok'⟩ := Wd.frzNew ok hp (.tup vs)
  refine ⟨_, le, ok', rfl, rfl, ?_⟩
  show Rel ct _ _ (.tup l) (.ref p)
  unfold Rel
  exact ⟨p, vs, rfl, upd_same, Wd.Rs.le le r⟩
theorem lst_new {w : Wd} (ok : WOk ct w) {p : Addr} (hp : w.H p = none) {l : List D} {vs : List V} (r : w.Rs ct l vs) :
    ∃ w', Le w w' ∧ WOk ct w' ∧ w'.st = w.st ∧ w'.H = upd w.H p (.lst vs) ∧ w'.R ct (.lst l) (.ref p) := by
  obtain ⟨le, ok'⟩ := Wd.frzNew ok hp (.lst vs)
  refine ⟨_, le, ok', rfl, rfl, ?_⟩
  show Rel ct _ _ (.lst l) (.ref p)
  unfold Rel
  exact ⟨p, vs, rfl, .inl upd_same, Wd.Rs.le le r⟩
theorem szL_eq : sizeLine = szL := by rw [sizeLine_eq]; rfl
theorem okMul_cases {i j : Int} (h : okMul i j = true) : CMul i j ∨ CMulW i j := by
  unfold okMul at h
  simp only [Bool.or_eq_true, Bool.and_eq_true, decide_eq_true_eq] at h
  rcases h with (h | h) | ⟨h1, h2⟩
  · exact .inl (.inl ⟨by omega, by omega⟩)
  · exact .inl (.inr ⟨by omega, by omega⟩)
  · exact .inr (wide_mul h1 h2 (by decide) (by decide) (by decide))
theorem snd_binI (op : Bop) {pins : List (Addr × Obj)} {s : Shared} {σ : L2.St} {H : Hp} {i j k : Int} {v u : Value} {Q : VK} (I : Inv X pins σ H s) (rx : RelV (.int i) v) (ry : RelV (.int j) u) (e : opInt op i j = some k) (q : Q (.int k) H) :
    wpAny (model X.prog X.w) X.A (binaryOp (bopP op) v u) (EP X pins σ Q) X.xe s := by
  cases op with
  | add => simp [opInt] at e; subst e; exact op_add pins s σ H _ _ v u Q I rx ry ⟨i, j, rfl, rfl, q⟩
  | sub => simp [opInt] at e; subst e; exact op_sub pins s σ H _ _ v u Q I rx ry ⟨i, j, rfl, rfl, q⟩
  | mul =>
    simp only [opInt] at e
    split at e
    · rename_i h
      cases e
      rcases okMul_cases h with h | h
      · exact op_mul pins s σ H _ _ v u Q I rx ry ⟨i, j, rfl, rfl, h, q⟩
      · exact op_mulW pins s σ H _ _ v u Q I rx ry ⟨i, j, rfl, rfl, h, q⟩
    · cases e
  | fdv =>
    simp only [opInt] at e
    split at e
    · rename_i h
      cases e
      exact op_fdivW pins s σ H _ _ v u Q I rx ry ⟨i, j, rfl, rfl, wide_div h.1 h.2 (by decide) (by decide), q⟩
    · cases e
  | mod =>
    simp only [opInt] at e
    split at e
    · rename_i h
      cases e
      exact op_mod pins s σ H _ _ v u Q I rx ry ⟨i, j, rfl, rfl, h, q⟩
    · cases e
  | pow =>
    simp only [opInt] at e
    split at e
    · rename_i h
      cases e
      exact op_pow pins s σ H _ _ v u Q I rx ry ⟨i, j, rfl, rfl, ⟨h.1, h.2.1, Nat.lt_of_lt_of_le h.2.2 (by decide)⟩, q⟩
    · cases e
  | shl =>
    simp only [opInt] at e
    split at e
    · rename_i h
      cases e
      exact op_shl pins s σ H _ _ v u Q I rx ry ⟨i, j, rfl, rfl, ⟨h.1, h.2.1, Nat.lt_of_lt_of_le h.2.2 (by decide)⟩, q⟩
    · cases e
  | shr =>
    simp only [opInt] at e
    split at e
    · rename_i h
      cases e
      exact op_shr pins s σ H _ _ v u Q I rx ry ⟨i, j, rfl, rfl, h, q⟩
    · cases e
  | band => simp [opInt] at e; subst e; exact op_and pins s σ H _ _ v u Q I rx ry ⟨i, j, rfl, rfl, q⟩
  | bor => simp [opInt] at e; subst e; exact op_or pins s σ H _ _ v u Q I rx ry ⟨i, j, rfl, rfl, q⟩
  | bxor => simp [opInt] at e; subst e; exact op_xor pins s σ H _ _ v u Q I rx ry ⟨i, j, rfl, rfl, q⟩

theorem snd_binL (op : Bop) {pins : List (Addr × Obj)} {s : Shared} {σ : L2.St} {x y : V} {v u : Value} {Q : VK} {w : Wd} {a b : D} {l : List D} {z : D} (I : Inv X pins σ w.H s) (rx : RelV x v) (ry : RelV y u)
    (ok : WOk ct w) (ra : w.R ct a x) (rb : w.R ct b y) (el : lstOf w.st a = some l)
    (e : opLst op w.st l b = some z)
    (q : ∀ w' v, Le w w' → WOk ct w' → w'.st = w.st → w'.R ct z v → Q v w'.H) :
    wpAny (model X.prog X.w) X.A (binaryOp (bopP op) v u) (EP X pins σ Q) X.xe s := by
  obtain ⟨p, vs, rfl, rd, rs⟩ := lst_at ok el ra
  cases op with
  | add =>
    simp only [opLst, Option.bind_eq_some_iff] at e
    obtain ⟨m, em, e⟩ := e
    split at e
    · rename_i hz
      cases e
      obtain ⟨p2, vs2, rfl, rd2, rs2⟩ := lst_at ok em rb
      refine op_catR pins s σ w.H _ _ v u Q I rx ry ⟨p, p2, vs, vs2, rfl, rfl, rd, rd2, ?_, fun p3 h3 => ?_⟩
      · rw [szL_eq, ← rs.length, ← rs2.length]; exact hz
      · obtain ⟨w', le, ok', st, hH, r'⟩ := lst_new ok h3 (Rels.append rs rs2)
        rw [← hH]
        exact q w' _ le ok' st r'
    · cases e
  | mul =>
    cases b with
    | int n =>
      simp only [opLst] at e
      split at e
      · rename_i hz
        cases e
        have := rel_int rb
        subst this
        refine op_repR pins s σ w.H _ _ v u Q I rx ry ⟨p, n, vs, rfl, rfl, rd, by omega, by omega, ?_, fun p3 h3 => ?_⟩
        · rw [szL_eq, ← rs.length]; exact hz.2.2
        · obtain ⟨w', le, ok', st, hH, r'⟩ := lst_new ok h3 (Rels.rep rs n.toNat)
          rw [← hH]
          exact q w' _ le ok' st r'
      · cases e
    | _ => simp [opLst] at e
  | _ => simp [opLst] at e
theorem snd_bin (op : Bop) : OpR X (binaryOp (bopP op)) (rB ct (opBin op)) := by
  intro pins s σ H x y v u Q I rx ry h
  obtain ⟨w, a, b, z, rfl, ok, ra, rb, e, q⟩ := h
  cases a with
  | int i =>
    cases b with
    | int j =>
      simp only [opBin, Option.map_eq_some_iff] at e
      obtain ⟨k, e, rfl⟩ := e
      have h1 := rel_int ra
      have h2 := rel_int rb
      subst h1 h2
      exact snd_binI op I rx ry e (q w _ (Le.refl w) ok rfl of_int)
    | _ => simp [opBin] at e
  | str i =>
    cases b with
    | str j =>
      cases op with
      | add =>
        simp only [opBin] at e
        split at e
        · rename_i hz
          cases e
          have h1 := rel_str ra
          have h2 := rel_str rb
          subst h1 h2
          exact op_add_str pins s σ w.H _ _ v u Q I rx ry ⟨i, j, rfl, rfl, by rw [szL_eq]; exact hz, q w _ (Le.refl w) ok rfl of_str⟩
        · cases e
      | _ => simp [opBin] at e
    | _ => simp [opBin] at e
  | tup l =>
    cases b with
    | tup m =>
      cases op with
      | add =>
        simp only [opBin] at e
        split at e
        · rename_i hz
          cases e
          obtain ⟨p, vs, rfl, hp, rs⟩ := tup_at ok ra
          obtain ⟨p2, vs2, rfl, hp2, rs2⟩ := tup_at ok rb
          refine op_catA pins s σ w.H _ _ v u Q I rx ry ⟨p, p2, vs, vs2, rfl, rfl, .inl (.inl hp), .inl (.inl hp2), by rw [szL_eq, ← rs.length, ← rs2.length]; exact hz, fun h0 => ?_, fun h0 h1 => ?_, fun h0 h1 p3 h3 => ?_⟩
          · have e0 : l = [] := List.eq_nil_of_length_eq_zero (by rw [rs.length, h0]; rfl)
            subst e0
            exact q w _ (Le.refl w) ok rfl rb
          · have e0 : m = [] := List.eq_nil_of_length_eq_zero (by rw [rs2.length, h1]; rfl)
            subst e0
            rw [List.append_nil] at q
            exact q w _ (Le.refl w) ok rfl ra
          · obtain ⟨w', le, ok', st, hH, r'⟩ := tup_new ok h3 (Rels.append rs rs2)
            rw [← hH]
            exact q w' _ le ok' st r'
        · cases e
      | _ => simp [opBin] at e
    | int n =>
      cases op with
      | mul =>
        simp only [opBin] at e
        split at e
        · rename_i hz
          cases e
          obtain ⟨p, vs, rfl, hp, rs⟩ := tup_at ok ra
          have h2 := rel_int rb
          subst h2
          refine op_repA pins s σ w.H _ _ v u Q I rx ry ⟨p, n, vs, rfl, rfl, .inl (.inl hp), by omega, by omega, by rw [← rs.length]; omega, fun h0 => ?_, fun _ _ p3 h3 => ?_⟩
          · refine q w _ (Le.refl w) ok rfl ?_
            rcases h0 with h0 | h0
            · rw [h0]; simpa using ra
            · subst h0
              have e0 : l = [] := List.eq_nil_of_length_eq_zero rs.length
              subst e0
              simpa using ra
          · obtain ⟨w', le, ok', st, hH, r'⟩ := tup_new ok h3 (Rels.rep rs n.toNat)
            rw [← hH]
            exact q w' _ le ok' st r'
        · cases e
      | _ => simp [opBin] at e
    | _ => simp [opBin] at e
  | lst l =>
    simp only [opBin, Option.bind_eq_some_iff] at e
    obtain ⟨l', hl, e⟩ := e
    exact snd_binL op I rx ry ok ra rb hl e q
  | ref n =>
    simp only [opBin, Option.bind_eq_some_iff] at e
    obtain ⟨l', hl, e⟩ := e
    exact snd_binL op I rx ry ok ra rb hl e q
  | _ => simp [opBin, lstOf] at e
end
end Ev

set_option linter.all false
set_option maxRecDepth 100000
/-! Cp: comparisons by values, dicts. -/
namespace Ev
open PySem L2
section
variable {ct : Nat → Option Addr} {X : Cx}

/-! ### keys -/
theorem peq_kD (a b : Key) : D.peq (kD a) (kD b) = decide (a = b) := by
  cases a with
  | inl i => cases b with
    | inl j => simp [kD, D.peq]
    | inr y => simp [kD, D.peq]
  | inr x => cases b with
    | inl j => simp [kD, D.peq]
    | inr y => simp [kD, D.peq]
theorem peqs_kD : ∀ a b : List Key, D.peqs (a.map kD) (b.map kD) = decide (a = b)
  | [], [] => by simp [D.peqs]
  | [], _ :: _ => by simp [D.peqs]
  | _ :: _, [] => by simp [D.peqs]
  | x :: a, y :: b => by
    simp only [List.map_cons, D.peqs]
    rw [peq_kD, peqs_kD a b]
    simp only [List.cons.injEq, Bool.decide_and]
theorem peq_ktD (a b : List Key) : D.peq (ktD a) (ktD b) = decide (a = b) := by
  simp only [ktD, D.peq]; exact peqs_kD a b
theorem key_of {m : List Addr} {F : Hp} {d : D} {v : V} (h : d.key1 = true) (r : Rel ct m F d v) : ∃ k : Key, d = kD k ∧ v = kV k := by
  cases d with
  | int i => exact ⟨.inl i, rfl, rel_int r⟩
  | str x => exact ⟨.inr x, rfl, rel_str r⟩
  | _ => simp [D.key1] at h
theorem keys_of {m : List Addr} {F : Hp} : ∀ {l : List D} {vs : List V}, l.all D.key1 = true → Rels ct m F l vs → ∃ k : List Key, l = k.map kD ∧ vs = k.map kV
  | [], _, _, r => by unfold Rels at r; subst r; exact ⟨[], rfl, rfl⟩
  | d :: l, _, h, r => by
    unfold Rels at r
    obtain ⟨v, rr, rfl, h3, h4⟩ := r
    rw [List.all_cons, Bool.and_eq_true] at h
    obtain ⟨k, e1, e2⟩ := key_of h.1 h3
    obtain ⟨ks, e3, e4⟩ := keys_of h.2 h4
    exact ⟨k :: ks, by rw [e1, e3]; rfl, by rw [e2, e4]; rfl⟩
theorem keyT_of {m : List Addr} {F : Hp} {d : D} {v : V} (h : d.keyT = true) (r : Rel ct m F d v) : ∃ (k : List Key) (b : Addr), d = ktD k ∧ v = .ref b ∧ F b = some (.tup (k.map kV)) := by
  cases d with
  | tup l =>
    unfold Rel at r
    obtain ⟨a, vs, rfl, f, r⟩ := r
    obtain ⟨k, e1, e2⟩ := keys_of (by simpa [D.keyT] using h) r
    subst e1 e2
    exact ⟨k, a, rfl, rfl, f⟩
  | _ => simp [D.keyT] at h
theorem isIn_val {κ : Type} [DecidableEq κ] (g : κ → D) (hg : ∀ a b, D.peq (g a) (g b) = decide (a = b)) (k : κ) : ∀ kvs : List (κ × V), D.isIn (g k) (kvs.map fun p => g p.1) = (valV kvs k).isSome
  | [] => rfl
  | p :: r => by
    simp only [List.map_cons, D.isIn]
    rw [hg, isIn_val g hg k r]
    by_cases e : p.1 = k
    · rw [valV_pos e]; simp [e]
    · rw [show valV (p :: r) k = valV r k by simp [valV, List.find?_cons, e]]; simp [e]
theorem find_val {κ : Type} [DecidableEq κ] {m : List Addr} {F : Hp} (g : κ → D) (hg : ∀ a b, D.peq (g a) (g b) = decide (a = b)) (k : κ) : ∀ (kvs : List (κ × V)) (vs : List D), Rels ct m F vs (kvs.map (·.2)) →
    (∀ d, D.find (g k) (kvs.map fun p => g p.1) vs = some d → ∃ v, valV kvs k = some v ∧ Rel ct m F d v) ∧ (D.find (g k) (kvs.map fun p => g p.1) vs = none → valV kvs k = none)
  | [], vs, _ => ⟨fun d h => by simp [D.find] at h, fun _ => rfl⟩
  | p :: r, vs, h => by
    cases vs with
    | nil => unfold Rels at h; cases h
    | cons d vs =>
      unfold Rels at h
      obtain ⟨v, rr, e, h3, h4⟩ := h
      simp only [List.map_cons, List.cons.injEq] at e
      obtain ⟨rfl, rfl⟩ := e
      obtain ⟨i1, i2⟩ := find_val g hg k r vs h4
      simp only [List.map_cons, D.find, hg]
      by_cases e : p.1 = k
      · simp only [e, decide_true, if_true]
        refine ⟨fun x hx => ?_, fun hx => by cases hx⟩
        cases hx
        exact ⟨_, valV_pos e, h3⟩
      · have e2 : valV (p :: r) k = valV r k := by simp [valV, List.find?_cons, e]
        simp only [e, decide_false, Bool.false_eq_true, if_false, e2]
        exact ⟨i1, i2⟩
/-- a dict as it stands -/
theorem dct_at {w : Wd} (ok : WOk ct w) {x : D} {tk : Bool} {ks vs : List D} {v : V} (e : dctOf w.st x = some (tk, ks, vs)) (r : w.R ct x v) : ∃ a, v = .ref a ∧
    ((∃ kvs : List (Key × V), tk = false ∧ w.H a = some (.dK kvs) ∧ ks = kvs.map (fun p => kD p.1) ∧ w.Rs ct vs (kvs.map (·.2))) ∨
      (∃ kvs : List (List Key × V), tk = true ∧ w.H a = some (.dT kvs) ∧ ks = kvs.map (fun p => ktD p.1) ∧ w.Rs ct vs (kvs.map (·.2)))) := by
  cases x with
  | dct t k v' =>
    simp only [dctOf] at e
    cases e
    have r : Rel ct w.m w.F (.dct tk ks vs) v := r
    unfold Rel at r
    obtain ⟨a, e, h⟩ := r
    refine ⟨a, e, ?_⟩
    rcases h with ⟨kvs, t, f, k, r⟩ | ⟨kvs, t, f, k, r⟩
    · exact .inl ⟨kvs, t, ok.sub _ _ f, k, r⟩
    · exact .inr ⟨kvs, t, ok.sub _ _ f, k, r⟩
  | ref n =>
    simp only [dctOf] at e
    split at e
    · rename_i t' k' v' hm
      cases e
      have r : Rel ct w.m w.F (.ref n) v := r
      unfold Rel at r
      obtain ⟨a, e, h⟩ := r
      rcases ok.ob n a _ h hm with z | ⟨_, o, h1, h2⟩
      · cases z
      · refine ⟨a, e, ?_⟩
        rcases h2 with ⟨kvs, t, rfl, k, r⟩ | ⟨kvs, t, rfl, k, r⟩
        · exact .inl ⟨kvs, t, h1, k, r⟩
        · exact .inr ⟨kvs, t, h1, k, r⟩
    · cases e
  | _ => simp [dctOf] at e
/-- a look into a dict -/
theorem dct_look {w : Wd} (ok : WOk ct w) {x k : D} {tk : Bool} {ks vs : List D} {v y : V} (e : dctOf w.st x = some (tk, ks, vs)) (hk : D.keyOk tk k = true) (r : w.R ct x v) (rk : w.R ct k y) :
    ∃ a o, v = .ref a ∧ DGet w.H a y o ∧ D.isIn k ks = o.isSome ∧ (∀ d, D.find k ks vs = some d → ∃ u, o = some u ∧ w.R ct d u) ∧ (D.find k ks vs = none → o = none) := by
  obtain ⟨a, rfl, h⟩ := dct_at ok e r
  rcases h with ⟨kvs, rfl, f, rfl, rs⟩ | ⟨kvs, rfl, f, rfl, rs⟩
  · obtain ⟨key, rfl, rfl⟩ := key_of (by simpa [D.keyOk] using hk) rk
    obtain ⟨i1, i2⟩ := find_val kD peq_kD key kvs vs rs
    exact ⟨a, valV kvs key, rfl, .inl ⟨kvs, key, .inl f, rfl, rfl⟩, isIn_val kD peq_kD key kvs, i1, i2⟩
  · obtain ⟨key, b, rfl, rfl, hb⟩ := keyT_of (by simpa [D.keyOk] using hk) rk
    obtain ⟨i1, i2⟩ := find_val ktD peq_ktD key kvs vs rs
    exact ⟨a, valV kvs key, rfl, .inr ⟨kvs, key, b, .inl f, rfl, ok.sub _ _ hb, rfl⟩, isIn_val ktD peq_ktD key kvs, i1, i2⟩

/-! ### comparisons -/
def copP : Cop → CmpOp
  | .eq => .Eq | .ne => .NotEq | .lt => .Lt | .le => .LtE | .gt => .Gt | .ge => .GtE | .isin => .In | .notin => .NotIn
/-- two data, read now -/
theorem cmp_dp {w : Wd} (ok : WOk ct w) {K : PySem.W.Frag} {a d : D} {x : V} (e : frz w.st 0 a = some d) (h : d.cmpb = true) (r : w.R ct a x) : Dp K w.H x d.py :=
  Rel.dp (Wd.now_sub ok) d h (frz_now ok e r)
theorem shaped_of {d : D} (h : d.cmpb = true) (h2 : d.depth ≤ 62) : SeqAt.shaped d.py = true := by
  unfold SeqAt.shaped
  rw [py_lay d h, py_depth d h, Bool.true_and]
  exact decide_eq_true (by omega)
def rC (ct : Nat → Option Addr) (op : Cop) : R2 := fun x y H Q => ∃ w a b z, w.H = H ∧ WOk ct w ∧ w.R ct a x ∧ w.R ct b y ∧ opCmp op w.st a b = some z ∧ Q (.bl z) H
theorem snd_in {neg : Bool} (hu : X.A.units + 65 < cLine) {pins : List (Addr × Obj)} {s : Shared} {σ : L2.St} {x y : V} {v u : Value} {Q : VK} {w : Wd} {a b : D} {z : Bool} (I : Inv X pins σ w.H s) (rx : RelV x v) (ry : RelV y u)
    (ok : WOk ct w) (ra : w.R ct a x) (rb : w.R ct b y) (e : opCmp.inCmp w.st a b = some z) (q : Q (.bl (if neg = true then !z else z)) w.H) :
    wpAny (model X.prog X.w) X.A (compareOp (if neg = true then .NotIn else .In) v u) (EP X pins σ Q) X.xe s := by
  unfold opCmp.inCmp at e
  split at e
  · rename_i l hl
    split at e
    · rename_i d m hd hm
      split at e
      · rename_i hc
        cases e
        simp only [Bool.and_eq_true, decide_eq_true_eq] at hc
        obtain ⟨⟨c1, c2⟩, c3, c4⟩ := hc
        obtain ⟨p, vs, rfl, hp, rs⟩ := seq_at ok hl rb
        have da : DpAll X.K w.H vs (D.pys m) := Rels.dp (Wd.now_sub ok) m c2 (frzs_now ok hm rs)
        have dx : Dp X.K w.H x d.py := cmp_dp ok hd c1 ra
        have sd := shaped_of c1 (by omega)
        obtain ⟨as, r1⟩ := Dp.reads I d.py x v dx rx
        have ly := pys_lay m c2
        have room := PyProof.Rows.room_in_shaped sd hu (xs := D.pys m)
        have an := py_any d c1 m c2
        rcases hp with hp | hp
        · obtain ⟨bs, r2⟩ := Dp.reads I (.list (D.pys m)) (.ref p) u (.lst (.inl hp) da) ry
          cases neg with
          | false => exact SeqAt.in_list_reads r2 r1 ly (SeqAt.canLay_of_shaped sd) room ⟨.bl _, w.H, I, rfl, by rw [an]; exact q⟩
          | true => exact SeqAt.notIn_list_reads r2 r1 ly (SeqAt.canLay_of_shaped sd) room ⟨.bl _, w.H, I, rfl, by rw [an]; exact q⟩
        · obtain ⟨bs, r2⟩ := Dp.reads I (.tuple (D.pys m)) (.ref p) u (.tup (.inl (.inl hp)) da) ry
          cases neg with
          | false => exact SeqAt.in_tuple_reads r2 r1 ly (SeqAt.canLay_of_shaped sd) room ⟨.bl _, w.H, I, rfl, by rw [an]; exact q⟩
          | true => exact SeqAt.notIn_tuple_reads r2 r1 ly (SeqAt.canLay_of_shaped sd) room ⟨.bl _, w.H, I, rfl, by rw [an]; exact q⟩
      · cases e
    · cases e
  · split at e
    · rename_i tk ks vs hd
      split at e
      · rename_i hk
        cases e
        obtain ⟨p, o, rfl, g, hi, _, _⟩ := dct_look ok hd hk rb ra
        obtain rfl : u = Value.ref p := ry
        cases neg with
        | false => exact d_in (by omega) I g rx fun s' I' => ⟨.bl _, w.H, I', rfl, by rw [← hi]; exact q⟩
        | true => exact d_notIn (by omega) I g rx fun s' I' => ⟨.bl _, w.H, I', rfl, by rw [← hi]; exact q⟩
      · cases e
    · split at e
      · rename_i i j _ _
        cases e
        have h1 := rel_str ra
        have h2 := rel_str rb
        subst h1 h2
        cases neg with
        | false => exact op_in_str pins s σ w.H _ _ v u Q I rx ry ⟨i, j, rfl, rfl, q⟩
        | true => exact op_notin_str pins s σ w.H _ _ v u Q I rx ry ⟨i, j, rfl, rfl, q⟩
      · cases e
theorem snd_cmp (op : Cop) (hu : X.A.units + 65 < cLine) : OpR X (compareOp (copP op)) (rC ct op) := by
  intro pins s σ H x y v u Q I rx ry h
  obtain ⟨w, a, b, z, rfl, ok, ra, rb, e, q⟩ := h
  cases op with
  | eq =>
    simp only [opCmp] at e
    split at e
    · rename_i d d' h1 h2
      split at e
      · rename_i hc
        cases e
        simp only [Bool.and_eq_true, decide_eq_true_eq] at hc
        obtain ⟨⟨c1, c2⟩, c3, c4⟩ := hc
        exact op_eqD (by omega) pins s σ w.H _ _ v u Q I rx ry ⟨d.py, d'.py, cmp_dp ok h1 c1 ra, cmp_dp ok h2 c2 rb, shaped_of c1 (by omega), shaped_of c2 (by omega), by rw [py_eqv d d' c1 c2]; exact q⟩
      · cases e
    · cases e
  | ne =>
    simp only [opCmp] at e
    split at e
    · rename_i d d' h1 h2
      split at e
      · rename_i hc
        cases e
        simp only [Bool.and_eq_true, decide_eq_true_eq] at hc
        obtain ⟨⟨c1, c2⟩, c3, c4⟩ := hc
        exact op_neD (by omega) pins s σ w.H _ _ v u Q I rx ry ⟨d.py, d'.py, cmp_dp ok h1 c1 ra, cmp_dp ok h2 c2 rb, shaped_of c1 (by omega), shaped_of c2 (by omega), by rw [py_eqv d d' c1 c2]; exact q⟩
      · cases e
    · cases e
  | lt =>
    simp only [opCmp] at e
    split at e
    · rename_i d d' h1 h2
      split at e
      · rename_i hc
        cases e
        simp only [Bool.and_eq_true, decide_eq_true_eq] at hc
        obtain ⟨⟨⟨c1, c2⟩, c5⟩, c3, c4⟩ := hc
        obtain ⟨as, r1⟩ := Dp.reads I d.py x v (cmp_dp ok h1 c1 ra) rx
        obtain ⟨bs, r2⟩ := Dp.reads I d'.py y u (cmp_dp ok h2 c2 rb) ry
        refine W.lt_data r1 r2 (alike_py d d' c5) (alike_cmp d d' c5) (by rw [py_depth d c1]; omega) ⟨.bl _, w.H, I, rfl, ?_⟩
        rw [py_lt d d' c5]; exact q
      · cases e
    · cases e
  | le =>
    simp only [opCmp] at e
    split at e
    · rename_i d d' h1 h2
      split at e
      · rename_i hc
        cases e
        simp only [Bool.and_eq_true, decide_eq_true_eq] at hc
        obtain ⟨⟨⟨c1, c2⟩, c5⟩, c3, c4⟩ := hc
        obtain ⟨as, r1⟩ := Dp.reads I d.py x v (cmp_dp ok h1 c1 ra) rx
        obtain ⟨bs, r2⟩ := Dp.reads I d'.py y u (cmp_dp ok h2 c2 rb) ry
        refine W.le_data r1 r2 (alike_py d d' c5) (alike_cmp d d' c5) (by rw [py_depth d c1]; omega) ⟨.bl _, w.H, I, rfl, ?_⟩
        rw [py_lt d' d (by rw [alike_sym]; exact c5)]; exact q
      · cases e
    · cases e
  | gt =>
    simp only [opCmp] at e
    split at e
    · rename_i d d' h1 h2
      split at e
      · rename_i hc
        cases e
        simp only [Bool.and_eq_true, decide_eq_true_eq] at hc
        obtain ⟨⟨⟨c1, c2⟩, c5⟩, c3, c4⟩ := hc
        obtain ⟨as, r1⟩ := Dp.reads I d.py x v (cmp_dp ok h1 c1 ra) rx
        obtain ⟨bs, r2⟩ := Dp.reads I d'.py y u (cmp_dp ok h2 c2 rb) ry
        refine W.gt_data r1 r2 (alike_py d d' c5) (alike_cmp d d' c5) (by rw [py_depth d c1]; omega) ⟨.bl _, w.H, I, rfl, ?_⟩
        rw [py_lt d' d (by rw [alike_sym]; exact c5)]; exact q
      · cases e
    · cases e
  | ge =>
    simp only [opCmp] at e
    split at e
    · rename_i d d' h1 h2
      split at e
      · rename_i hc
        cases e
        simp only [Bool.and_eq_true, decide_eq_true_eq] at hc
        obtain ⟨⟨⟨c1, c2⟩, c5⟩, c3, c4⟩ := hc
        obtain ⟨as, r1⟩ := Dp.reads I d.py x v (cmp_dp ok h1 c1 ra) rx
        obtain ⟨bs, r2⟩ := Dp.reads I d'.py y u (cmp_dp ok h2 c2 rb) ry
        refine W.ge_data r1 r2 (alike_py d d' c5) (alike_cmp d d' c5) (by rw [py_depth d c1]; omega) ⟨.bl _, w.H, I, rfl, ?_⟩
        rw [py_lt d d' c5]; exact q
      · cases e
    · cases e
  | isin =>
    simp only [opCmp] at e
    exact snd_in (neg := false) hu I rx ry ok ra rb e q
  | notin =>
    simp only [opCmp, Option.map_eq_some_iff] at e
    obtain ⟨z', e, rfl⟩ := e
    exact snd_in (neg := true) hu I rx ry ok ra rb e q
end
end Ev

set_option linter.all false
set_option maxRecDepth 100000
/-! Ex: built-in functions by values. -/
namespace Ev
open PySem PySem.Spec PyProof.Rows L2
section
variable {ct : Nat → Option Addr} {X : Cx}

/-- a built-in called -/
def rL (ct : Nat → Option Addr) (f : List Ob → List D → Option D) : List V → Hp → VK → Prop := fun xs H Q => ∃ w l z, w.H = H ∧ WOk ct w ∧ w.Rs ct l xs ∧ f w.st l = some z ∧
  ∀ w' v, Le w w' → WOk ct w' → w'.st = w.st → w'.R ct z v → Q v w'.H
theorem rs1 {m : List Addr} {F : Hp} {d : D} {vs : List V} (h : Rels ct m F [d] vs) : ∃ v, vs = [v] ∧ Rel ct m F d v := by
  unfold Rels at h
  obtain ⟨v, r, rfl, h1, h2⟩ := h
  unfold Rels at h2; subst h2
  exact ⟨v, rfl, h1⟩
theorem rs2 {m : List Addr} {F : Hp} {d e : D} {vs : List V} (h : Rels ct m F [d, e] vs) : ∃ v u, vs = [v, u] ∧ Rel ct m F d v ∧ Rel ct m F e u := by
  unfold Rels at h
  obtain ⟨v, r, rfl, h1, h2⟩ := h
  obtain ⟨u, rfl, h3⟩ := rs1 h2
  exact ⟨v, u, rfl, h1, h3⟩
theorem ints_of {m : List Addr} {F : Hp} : ∀ {l : List D} {ns : List Int} {vs : List V}, intsOf l = some ns → Rels ct m F l vs → vs = ns.map V.int
  | [], _, _, e, h => by simp [intsOf] at e; subst e; unfold Rels at h; exact h
  | d :: l, _, _, e, h => by
    unfold Rels at h
    obtain ⟨v, r, rfl, h1, h2⟩ := h
    cases d with
    | int i =>
      simp only [intsOf, Option.map_eq_some_iff] at e
      obtain ⟨ns, e, rfl⟩ := e
      rw [ints_of e h2, rel_int h1]; rfl
    | _ => simp [intsOf] at e
theorem bls_of {m : List Addr} {F : Hp} : ∀ {l : List D} {ns : List Bool} {vs : List V}, blsOf l = some ns → Rels ct m F l vs → vs = ns.map V.bl
  | [], _, _, e, h => by simp [blsOf] at e; subst e; unfold Rels at h; exact h
  | d :: l, _, _, e, h => by
    unfold Rels at h
    obtain ⟨v, r, rfl, h1, h2⟩ := h
    cases d with
    | bl i =>
      simp only [blsOf, Option.map_eq_some_iff] at e
      obtain ⟨ns, e, rfl⟩ := e
      rw [bls_of e h2, rel_bl h1]; rfl
    | _ => simp [blsOf] at e
theorem strs_of {m : List Addr} {F : Hp} : ∀ {l : List D} {ns : List Str} {vs : List V}, strsOf l = some ns → Rels ct m F l vs → vs = ns.map V.str
  | [], _, _, e, h => by simp [strsOf] at e; subst e; unfold Rels at h; exact h
  | d :: l, _, _, e, h => by
    unfold Rels at h
    obtain ⟨v, r, rfl, h1, h2⟩ := h
    cases d with
    | str i =>
      simp only [strsOf, Option.map_eq_some_iff] at e
      obtain ⟨ns, e, rfl⟩ := e
      rw [strs_of e h2, rel_str h1]; rfl
    | _ => simp [strsOf] at e

/-! len -/
theorem snd_len : CallR X (.builtin "len") (rL ct (opBlt .len)) := by
  intro pins s σ H xs us Q I r h
  obtain ⟨w, l, z, rfl, ok, rs, e, q⟩ := h
  match l, e, rs with
  | [x], e, rs =>
    obtain ⟨v, rfl, rx⟩ := rs1 rs
    have done : ∀ n : Int, z = .int n → Q (.int n) w.H := fun n e => q w _ (Le.refl w) ok rfl (by subst e; exact of_int)
    have seq : ∀ l', seqOf w.st x = some l' → z = .int (l'.length : Nat) → wpAny (model X.prog X.w) X.A (call (.builtin "len") us) (EP X pins σ Q) X.xe s := fun l' e1 e2 => by
      obtain ⟨a, vs, rfl, h1, h2⟩ := seq_at ok e1 rx
      exact call_len_seq pins s σ w.H _ us Q I r ⟨a, vs, rfl, seq_sq h1, by rw [← h2.length]; exact done _ e2⟩
    have dct : ∀ p, dctOf w.st x = some p → z = .int (p.2.1.length : Nat) → wpAny (model X.prog X.w) X.A (call (.builtin "len") us) (EP X pins σ Q) X.xe s := fun ⟨tk, ks, vs⟩ e1 e2 => by
      obtain ⟨a, rfl, h⟩ := dct_at ok e1 rx
      rcases h with ⟨kvs, rfl, f, rfl, _⟩ | ⟨kvs, rfl, f, rfl, _⟩
      · exact call_lenD pins s σ w.H _ us Q I r ⟨a, kvs, rfl, f, done _ (by rw [e2]; simp)⟩
      · exact call_len_dT pins s σ w.H _ us Q I r ⟨a, kvs, rfl, f, done _ (by rw [e2]; simp)⟩
    cases x with
    | str a =>
      simp only [opBlt] at e
      split at e
      · rename_i hz
        cases e
        have := rel_str rx; subst this
        exact call_len_str pins s σ w.H _ us Q I r ⟨a, rfl, by rw [szL_eq]; exact hz, done _ rfl⟩
      · cases e
    | set l => have rx : Rel ct w.m w.F (.set l) v := rx; unfold Rel at rx; exact rx.elim
    | tup l => simp [opBlt, seqOf] at e; exact seq l rfl e.symm
    | lst l => simp [opBlt, seqOf] at e; exact seq l rfl e.symm
    | dct tk ks vs => simp [opBlt, seqOf, dctOf] at e; exact dct (tk, ks, vs) rfl e.symm
    | ref n =>
      simp only [opBlt] at e
      split at e
      · rename_i l' hl; cases e; exact seq l' hl rfl
      · rw [Option.map_eq_some_iff] at e
        obtain ⟨p, hp, rfl⟩ := e
        exact dct p hp rfl
    | _ => simp [opBlt, seqOf, dctOf] at e
  | [], e, _ => simp [opBlt] at e
  | _ :: _ :: _, e, _ => simp [opBlt] at e
theorem snd_abs : CallR X (.builtin "abs") (rL ct (opBlt .abs)) := by
  intro pins s σ H xs us Q I r h
  obtain ⟨w, l, z, rfl, ok, rs, e, q⟩ := h
  match l, e, rs with
  | [.int i], e, rs =>
    obtain ⟨v, rfl, rx⟩ := rs1 rs
    have := rel_int rx; subst this
    simp only [opBlt, Option.some.injEq] at e
    exact call_abs pins s σ w.H _ us Q I r ⟨i, rfl, q w _ (Le.refl w) ok rfl (by subst e; exact of_int)⟩
theorem snd_int : CallR X (.type "int") (rL ct fun st l => match l with | [.int i] => some (.int i) | [.bl b] => some (.int (if b = true then 1 else 0)) | _ => none) := by
  intro pins s σ H xs us Q I r h
  obtain ⟨w, l, z, rfl, ok, rs, e, q⟩ := h
  match l, e, rs with
  | [.int i], e, rs =>
    obtain ⟨v, rfl, rx⟩ := rs1 rs
    have := rel_int rx; subst this
    cases e
    exact call_int1 pins s σ w.H _ us Q I r (.inl ⟨i, rfl, q w _ (Le.refl w) ok rfl of_int⟩)
  | [.bl b], e, rs =>
    obtain ⟨v, rfl, rx⟩ := rs1 rs
    have := rel_bl rx; subst this
    cases e
    exact call_int1 pins s σ w.H _ us Q I r (.inr ⟨b, rfl, q w _ (Le.refl w) ok rfl of_int⟩)
theorem snd_tuple : CallR X (.type "tuple") (rL ct (opBlt .tuple)) := by
  intro pins s σ H xs us Q I r h
  obtain ⟨w, l, z, rfl, ok, rs, e, q⟩ := h
  match l, e, rs with
  | [x], e, rs =>
    obtain ⟨v, rfl, rx⟩ := rs1 rs
    simp only [opBlt, Option.map_eq_some_iff] at e
    obtain ⟨l', e1, rfl⟩ := e
    by_cases ht : ∃ l', x = .tup l'
    · obtain ⟨l2, rfl⟩ := ht
      simp [seqOf] at e1; subst e1
      obtain ⟨a, vs, rfl, h1, h2⟩ := tup_at ok rx
      exact call_tuple_of pins s σ w.H _ us Q I r ⟨a, vs, rfl, .inr ⟨.inl (.inl h1), q w _ (Le.refl w) ok rfl rx⟩⟩
    · have e2 : lstOf w.st x = some l' := by
        cases x with
        | tup l => exact absurd ⟨l, rfl⟩ ht
        | _ => simpa [seqOf, lstOf] using e1
      obtain ⟨a, vs, rfl, h1, h2⟩ := lst_at ok e2 rx
      refine call_tuple_of pins s σ w.H _ us Q I r ⟨a, vs, rfl, .inl ⟨.inl h1, fun p hp => ?_⟩⟩
      obtain ⟨w', le, ok', st, hH, r'⟩ := tup_new ok hp h2
      rw [← hH]
      exact q w' _ le ok' st r'
  | [], e, _ => simp [opBlt] at e
  | _ :: _ :: _, e, _ => simp [opBlt] at e
/-- key tuples that stand become data -/
theorem keys_frz : ∀ {kvs : List (List Key × V)} {bs : List Addr} {w : Wd}, WOk ct w → IsKeys w.H kvs bs → ∃ w', Le w w' ∧ WOk ct w' ∧ w'.st = w.st ∧ w'.H = w.H ∧ w'.Rs ct (kvs.map fun p => ktD p.1) (bs.map V.ref)
  | _, _, w, ok, .nil => ⟨w, Le.refl w, ok, rfl, rfl, Rels.nil⟩
  | p :: kvs, b :: bs, w, ok, .cons h t => by
    obtain ⟨le, ok1⟩ := Wd.frzTup ok h
    obtain ⟨w', le', ok', st, hH, rs⟩ := keys_frz (kvs := kvs) (bs := bs) ok1 t
    refine ⟨w', le.trans le', ok', st, hH, Rels.cons ?_ rs⟩
    unfold ktD Rel
    refine ⟨b, p.1.map kV, rfl, le'.fr _ _ upd_same, ?_⟩
    have : ∀ l : List Key, Rels ct w'.m w'.F (l.map kD) (l.map kV) := fun l => by
      induction l with
      | nil => exact Rels.nil
      | cons k l ih =>
        refine Rels.cons ?_ ih
        cases k with
        | inl i => exact of_int
        | inr i => exact of_str
    exact this p.1
theorem kD_rels {m : List Addr} {F : Hp} : ∀ kvs : List (Key × V), Rels ct m F (kvs.map fun p => kD p.1) (kvs.map fun p => kV p.1)
  | [] => Rels.nil
  | p :: l => Rels.cons (by obtain ⟨k, v⟩ := p; cases k with | inl i => exact of_int | inr i => exact of_str) (kD_rels l)
theorem snd_list (hc : X.calm = true) : CallR X (.type "list") (rL ct (opBlt .list)) := by
  intro pins s σ H xs us Q I r h
  obtain ⟨w, l, z, rfl, ok, rs, e, q⟩ := h
  match l, e, rs with
  | [x], e, rs =>
    obtain ⟨v, rfl, rx⟩ := rs1 rs
    simp only [opBlt] at e
    split at e
    · rename_i l' e1
      cases e
      obtain ⟨a, vs, rfl, h1, h2⟩ := seq_at ok e1 rx
      refine call_list_of pins s σ w.H _ us Q I r ⟨a, vs, rfl, seq_sq h1, fun p hp => ?_⟩
      obtain ⟨w', le, ok', st, hH, r'⟩ := lst_new ok hp h2
      rw [← hH]
      exact q w' _ le ok' st r'
    · rw [Option.map_eq_some_iff] at e
      obtain ⟨⟨tk, ks, vs⟩, e1, rfl⟩ := e
      obtain ⟨a, rfl, h⟩ := dct_at ok e1 rx
      rcases h with ⟨kvs, rfl, f, rfl, _⟩ | ⟨kvs, rfl, f, rfl, _⟩
      · refine call_listD hc pins s σ w.H _ us Q I r ⟨a, kvs, rfl, .inl f, fun p hp => ?_⟩
        obtain ⟨w', le, ok', st, hH, r'⟩ := lst_new ok hp (kD_rels (m := w.m) (F := w.F) kvs)
        rw [← hH]
        exact q w' _ le ok' st r'
      · refine call_list_dT hc pins s σ w.H _ us Q I r ⟨a, kvs, rfl, .inl f, fun p bs hp hk => ?_⟩
        obtain ⟨w1, le1, ok1, st1, hH1, rs1⟩ := keys_frz ok hk
        rw [← hH1] at hp
        obtain ⟨w', le, ok', st, hH, r'⟩ := lst_new ok1 hp rs1
        rw [← hH1, ← hH]
        exact q w' _ (le1.trans le) ok' (st.trans st1) r'
  | [], e, _ => simp [opBlt] at e
  | _ :: _ :: _, e, _ => simp [opBlt] at e

/-! sums, least, greatest -/
theorem call_sumT (hc : X.calm = true) : CallR X (.builtin "sum") (fun vs H Q => ∃ (a : Addr) (ns : List Int), vs = [V.ref a] ∧ SqT X.K H a (ns.map V.int) ∧ Q (.int ns.sum) H) := by
  intro pins s σ H vs us Q I r h
  obtain ⟨a, ns, rfl, hs, q⟩ := h
  obtain ⟨its, rv, hl, _⟩ := I.tuple hs
  rw [Vals.ref1 r]
  have hi := rv.ints
  obtain ⟨xs, e⟩ := hi.allInts.items
  have hn : numsOf (intItems xs).toList = ns := by rw [← e]; exact hi.numsOf
  rw [nums_intItems] at hn
  rw [e] at hl
  refine PySem.W.ktm_sumG (I.ok.hd hc) hl fun h' tk t' hk => ⟨.int ns.sum, H, I.kept hk, ⟨t', ?_⟩, q⟩
  rw [preSum_eq, List.take_of_length_le (by simp), hn]
theorem snd_sum (hc : X.calm = true) : CallR X (.builtin "sum") (rL ct (opBlt .sum)) := by
  intro pins s σ H xs us Q I r h
  obtain ⟨w, l, z, rfl, ok, rs, e, q⟩ := h
  match l, e, rs with
  | [x], e, rs =>
    obtain ⟨v, rfl, rx⟩ := rs1 rs
    simp only [opBlt, Option.map_eq_some_iff, Option.bind_eq_some_iff] at e
    obtain ⟨ns, ⟨l', e1, e2⟩, rfl⟩ := e
    obtain ⟨a, vs, rfl, h1, h2⟩ := seq_at ok e1 rx
    have := ints_of e2 h2; subst this
    rcases h1 with h1 | h1
    · exact cr_sum hc pins s σ w.H _ us Q I r ⟨a, ns, rfl, .inl h1, q w _ (Le.refl w) ok rfl of_int⟩
    · exact call_sumT hc pins s σ w.H _ us Q I r ⟨a, ns, rfl, .inl (.inl h1), q w _ (Le.refl w) ok rfl of_int⟩
  | [], e, _ => simp [opBlt] at e
  | _ :: _ :: _, e, _ => simp [opBlt] at e
theorem minI_of {ns : List Int} {n : Int} (h : minI ns = some n) {m : Int} (hm : m ∈ ns) (hl : ∀ y ∈ ns, m ≤ y) : m = n := by
  cases ns with
  | nil => simp [minI] at h
  | cons x r =>
    simp only [minI, Option.some.injEq] at h
    subst h
    have key : ∀ (r : List Int) (x : Int), (r.foldl (fun a b => if b < a then b else a) x) ∈ x :: r ∧ ∀ y ∈ x :: r, (r.foldl (fun a b => if b < a then b else a) x) ≤ y := by
      intro r
      induction r with
      | nil => intro x; simp
      | cons y r ih =>
        intro x
        simp only [List.foldl_cons]
        obtain ⟨h1, h2⟩ := ih (if y < x then y else x)
        refine ⟨?_, fun z hz => ?_⟩
        · rcases List.mem_cons.mp h1 with h | h
          · rw [h]; split <;> simp
          · exact List.mem_cons_of_mem _ (List.mem_cons_of_mem _ h)
        · have h3 := h2 _ (List.mem_cons_self ..)
          have h4 : (if y < x then y else x) ≤ x ∧ (if y < x then y else x) ≤ y := by split <;> omega
          rcases List.mem_cons.mp hz with h | h
          · rw [h]; exact Int.le_trans h3 h4.1
          · rcases List.mem_cons.mp h with h | h
            · rw [h]; exact Int.le_trans h3 h4.2
            · exact h2 z (List.mem_cons_of_mem _ h)
    obtain ⟨h1, h2⟩ := key r x
    have a := hl _ h1
    have b := h2 _ hm
    omega
theorem maxI_of {ns : List Int} {n : Int} (h : maxI ns = some n) {m : Int} (hm : m ∈ ns) (hl : ∀ y ∈ ns, y ≤ m) : m = n := by
  cases ns with
  | nil => simp [maxI] at h
  | cons x r =>
    simp only [maxI, Option.some.injEq] at h
    subst h
    have key : ∀ (r : List Int) (x : Int), (r.foldl (fun a b => if a < b then b else a) x) ∈ x :: r ∧ ∀ y ∈ x :: r, y ≤ (r.foldl (fun a b => if a < b then b else a) x) := by
      intro r
      induction r with
      | nil => intro x; simp
      | cons y r ih =>
        intro x
        simp only [List.foldl_cons]
        obtain ⟨h1, h2⟩ := ih (if x < y then y else x)
        refine ⟨?_, fun z hz => ?_⟩
        · rcases List.mem_cons.mp h1 with h | h
          · rw [h]; split <;> simp
          · exact List.mem_cons_of_mem _ (List.mem_cons_of_mem _ h)
        · have h3 := h2 _ (List.mem_cons_self ..)
          have h4 : x ≤ (if x < y then y else x) ∧ y ≤ (if x < y then y else x) := by split <;> omega
          rcases List.mem_cons.mp hz with h | h
          · rw [h]; exact Int.le_trans h4.1 h3
          · rcases List.mem_cons.mp h with h | h
            · rw [h]; exact Int.le_trans h4.2 h3
            · exact h2 z (List.mem_cons_of_mem _ h)
    obtain ⟨h1, h2⟩ := key r x
    have a := hl _ h1
    have b := h2 _ hm
    omega
theorem minI_pos {ns : List Int} {n : Int} (h : minI ns = some n) : 0 < ns.length := by cases ns <;> simp [minI] at h ⊢
theorem maxI_pos {ns : List Int} {n : Int} (h : maxI ns = some n) : 0 < ns.length := by cases ns <;> simp [maxI] at h ⊢
theorem snd_min (hc : X.calm = true) : CallR X (.builtin "min") (rL ct (opBlt .min)) := by
  intro pins s σ H xs us Q I r h
  obtain ⟨w, l, z, rfl, ok, rs, e, q⟩ := h
  match l, e, rs with
  | [x], e, rs =>
    obtain ⟨v, rfl, rx⟩ := rs1 rs
    simp only [opBlt, Option.map_eq_some_iff, Option.bind_eq_some_iff] at e
    obtain ⟨ns, ⟨l', e1, e2⟩, n, e3, rfl⟩ := e
    obtain ⟨a, vs, rfl, h1, h2⟩ := lst_at ok e1 rx
    have := ints_of e2 h2; subst this
    refine cr_min hc pins s σ w.H _ us Q I r ⟨a, ns, rfl, .inl h1, minI_pos e3, fun m hm hl => ?_⟩
    rw [minI_of e3 hm hl]
    exact q w _ (Le.refl w) ok rfl of_int
  | [x, y], e, rs =>
    cases x with
    | int i =>
      cases y with
      | int j =>
        obtain ⟨v, u, rfl, rx, ry⟩ := rs2 rs
        have := rel_int rx; subst this
        have := rel_int ry; subst this
        simp only [opBlt, Option.some.injEq] at e
        exact call_min2 hc pins s σ w.H _ us Q I r ⟨i, j, rfl, q w _ (Le.refl w) ok rfl (by subst e; exact of_int)⟩
      | _ => simp [opBlt] at e
    | _ => simp [opBlt] at e
  | [], e, _ => simp [opBlt] at e
  | _ :: _ :: _ :: _, e, _ => simp [opBlt] at e
theorem snd_max (hc : X.calm = true) : CallR X (.builtin "max") (rL ct (opBlt .max)) := by
  intro pins s σ H xs us Q I r h
  obtain ⟨w, l, z, rfl, ok, rs, e, q⟩ := h
  match l, e, rs with
  | [x], e, rs =>
    obtain ⟨v, rfl, rx⟩ := rs1 rs
    simp only [opBlt, Option.map_eq_some_iff, Option.bind_eq_some_iff] at e
    obtain ⟨ns, ⟨l', e1, e2⟩, n, e3, rfl⟩ := e
    obtain ⟨a, vs, rfl, h1, h2⟩ := lst_at ok e1 rx
    have := ints_of e2 h2; subst this
    refine cr_max hc pins s σ w.H _ us Q I r ⟨a, ns, rfl, .inl h1, maxI_pos e3, fun m hm hl => ?_⟩
    rw [maxI_of e3 hm hl]
    exact q w _ (Le.refl w) ok rfl of_int
  | [x, y], e, rs =>
    cases x with
    | int i =>
      cases y with
      | int j =>
        obtain ⟨v, u, rfl, rx, ry⟩ := rs2 rs
        have := rel_int rx; subst this
        have := rel_int ry; subst this
        simp only [opBlt, Option.some.injEq] at e
        exact call_max2 hc pins s σ w.H _ us Q I r ⟨i, j, rfl, q w _ (Le.refl w) ok rfl (by subst e; exact of_int)⟩
      | _ => simp [opBlt] at e
    | _ => simp [opBlt] at e
  | [], e, _ => simp [opBlt] at e
  | _ :: _ :: _ :: _, e, _ => simp [opBlt] at e
theorem snd_all (hc : X.calm = true) : CallR X (.builtin "all") (rL ct (opBlt .all)) := by
  intro pins s σ H xs us Q I r h
  obtain ⟨w, l, z, rfl, ok, rs, e, q⟩ := h
  match l, e, rs with
  | [x], e, rs =>
    obtain ⟨v, rfl, rx⟩ := rs1 rs
    simp only [opBlt, Option.map_eq_some_iff, Option.bind_eq_some_iff] at e
    obtain ⟨ns, ⟨l', e1, e2⟩, rfl⟩ := e
    obtain ⟨a, vs, rfl, h1, h2⟩ := lst_at ok e1 rx
    have := bls_of e2 h2; subst this
    exact cr_all hc pins s σ w.H _ us Q I r ⟨a, ns, rfl, .inl h1, q w _ (Le.refl w) ok rfl of_bl⟩
  | [], e, _ => simp [opBlt] at e
  | _ :: _ :: _, e, _ => simp [opBlt] at e
theorem snd_any (hc : X.calm = true) : CallR X (.builtin "any") (rL ct (opBlt .any)) := by
  intro pins s σ H xs us Q I r h
  obtain ⟨w, l, z, rfl, ok, rs, e, q⟩ := h
  match l, e, rs with
  | [x], e, rs =>
    obtain ⟨v, rfl, rx⟩ := rs1 rs
    simp only [opBlt, Option.map_eq_some_iff, Option.bind_eq_some_iff] at e
    obtain ⟨ns, ⟨l', e1, e2⟩, rfl⟩ := e
    obtain ⟨a, vs, rfl, h1, h2⟩ := lst_at ok e1 rx
    have := bls_of e2 h2; subst this
    exact cr_any hc pins s σ w.H _ us Q I r ⟨a, ns, rfl, .inl h1, q w _ (Le.refl w) ok rfl of_bl⟩
  | [], e, _ => simp [opBlt] at e
  | _ :: _ :: _, e, _ => simp [opBlt] at e
theorem log2_small {n : Nat} (h : n < 2 ^ 1000) : n.log2 < 1920 := by
  by_cases z : n = 0
  · subst z; decide
  · have := (Nat.log2_lt z).mpr h
    omega
theorem snd_str : CallR X (.type "str") (rL ct (opBlt .str)) := by
  intro pins s σ H xs us Q I r h
  obtain ⟨w, l, z, rfl, ok, rs, e, q⟩ := h
  match l, e, rs with
  | [.int i], e, rs =>
    obtain ⟨v, rfl, rx⟩ := rs1 rs
    have := rel_int rx; subst this
    simp only [opBlt] at e
    split at e
    · rename_i hz
      cases e
      exact call_str_int pins s σ w.H _ us Q I r ⟨i, rfl, log2_small hz, q w _ (Le.refl w) ok rfl of_str⟩
    · cases e
  | [.str a], e, rs =>
    obtain ⟨v, rfl, rx⟩ := rs1 rs
    have := rel_str rx; subst this
    simp only [opBlt, Option.some.injEq] at e
    exact SkE.call_str_str pins s σ w.H _ us Q I r ⟨a, rfl, q w _ (Le.refl w) ok rfl (by subst e; exact of_str)⟩
theorem dctK_new {w : Wd} (ok : WOk ct w) {p : Addr} (hp : w.H p = none) {kvs : List (Key × V)} {vs : List D} (r : w.Rs ct vs (kvs.map (·.2))) :
    ∃ w', Le w w' ∧ WOk ct w' ∧ w'.st = w.st ∧ w'.H = upd w.H p (.dK kvs) ∧ w'.R ct (.dct false (kvs.map fun p => kD p.1) vs) (.ref p) := by
  obtain ⟨le, ok'⟩ := Wd.frzNew ok hp (.dK kvs)
  refine ⟨_, le, ok', rfl, rfl, ?_⟩
  show Rel ct _ _ (.dct false _ vs) (.ref p)
  unfold Rel
  exact ⟨p, rfl, .inl ⟨kvs, rfl, upd_same, rfl, Wd.Rs.le le r⟩⟩
theorem dctT_new {w : Wd} (ok : WOk ct w) {p : Addr} (hp : w.H p = none) {kvs : List (List Key × V)} {vs : List D} (r : w.Rs ct vs (kvs.map (·.2))) :
    ∃ w', Le w w' ∧ WOk ct w' ∧ w'.st = w.st ∧ w'.H = upd w.H p (.dT kvs) ∧ w'.R ct (.dct true (kvs.map fun p => ktD p.1) vs) (.ref p) := by
  obtain ⟨le, ok'⟩ := Wd.frzNew ok hp (.dT kvs)
  refine ⟨_, le, ok', rfl, rfl, ?_⟩
  show Rel ct _ _ (.dct true _ vs) (.ref p)
  unfold Rel
  exact ⟨p, rfl, .inr ⟨kvs, rfl, upd_same, rfl, Wd.Rs.le le r⟩⟩
theorem snd_dict : CallR X (.type "dict") (rL ct (opBlt .dict)) := by
  intro pins s σ H xs us Q I r h
  obtain ⟨w, l, z, rfl, ok, rs, e, q⟩ := h
  match l, e, rs with
  | [x], e, rs =>
    obtain ⟨v, rfl, rx⟩ := rs1 rs
    simp only [opBlt, Option.bind_eq_some_iff] at e
    obtain ⟨⟨tk, ks, vs⟩, e1, e⟩ := e
    split at e
    · rename_i ht
      cases e
      simp only at ht; subst ht
      obtain ⟨a, rfl, h⟩ := dct_at ok e1 rx
      rcases h with ⟨kvs, _, f, rfl, rs⟩ | ⟨kvs, h, f, rfl, rs⟩
      · refine call_dictD pins s σ w.H _ us Q I r ⟨a, kvs, rfl, .inl f, fun p hp => ?_⟩
        obtain ⟨w', le, ok', st, hH, r'⟩ := dctK_new ok hp rs
        rw [← hH]
        exact q w' _ le ok' st r'
      · cases h
    · cases e
  | [], e, _ => simp [opBlt] at e
  | _ :: _ :: _, e, _ => simp [opBlt] at e

/-! sorted -/
theorem mem_cmp : ∀ {l : List D} {d : D}, D.cmpbs l = true → d ∈ l → d.cmpb = true
  | x :: l, d, h, m => by
    have h' : x.cmpb = true ∧ D.cmpbs l = true := by simpa [D.cmpbs] using h
    rcases List.mem_cons.mp m with e | m
    · rw [e]; exact h'.1
    · exact mem_cmp h'.2 m
theorem mem_depth : ∀ {l : List D} {d : D}, d ∈ l → d.depth ≤ D.depths l
  | x :: l, d, m => by
    simp only [D.depths]
    rcases List.mem_cons.mp m with e | m
    · rw [e]; omega
    · have := mem_depth m; omega
theorem each_rel {m : List Addr} {F : Hp} : ∀ {l : List D} {vs : List V} {us : List Value}, Rels ct m F l vs → Vals vs us → W.EachIs (fun u d => ∃ v, RelV v u ∧ Rel ct m F d v) us l
  | [], _, _, h, r => by unfold Rels at h; subst h; cases r; exact .nil
  | d :: l, _, _, h, r => by
    unfold Rels at h
    obtain ⟨v, vs, rfl, h1, h2⟩ := h
    cases r with
    | cons r rr => exact .cons ⟨v, r, h1⟩ (each_rel h2 rr)
theorem rel_each {m : List Addr} {F : Hp} : ∀ {l : List D} {us : List Value}, W.EachIs (fun u d => ∃ v, RelV v u ∧ Rel ct m F d v) us l → ∃ vs, Rels ct m F l vs ∧ Vals vs us
  | _, _, .nil => ⟨[], Rels.nil, .nil⟩
  | _, _, .cons ⟨v, r, h⟩ t => by
    obtain ⟨vs, h1, h2⟩ := rel_each t
    exact ⟨v :: vs, Rels.cons h h1, .cons r h2⟩
theorem snd_sorted (hu : X.A.units + 66 < cLine) : CallR X (.builtin "sorted") (rL ct (opBlt .sorted)) := by
  intro pins s σ H xs us Q I r h
  obtain ⟨w, l, z, rfl, ok, rs, e, q⟩ := h
  match l, e, rs with
  | [x], e, rs =>
    obtain ⟨v, rfl, rx⟩ := rs1 rs
    simp only [opBlt, Option.bind_eq_some_iff] at e
    obtain ⟨l, e1, e⟩ := e
    split at e
    · rename_i hc
      cases e
      simp only [Bool.and_eq_true, decide_eq_true_eq] at hc
      obtain ⟨⟨ha, hk⟩, hd⟩ := hc
      unfold allAlike at ha
      rw [Bool.and_eq_true] at ha
      obtain ⟨hcm, hal⟩ := ha
      obtain ⟨a, vs, rfl, h1, h2⟩ := lst_at ok e1 rx
      obtain ⟨its, rv, pl, hz⟩ := I.list (.inl h1)
      rw [Vals.ref1 r]
      have hlen : l.length = its.length := h2.length.trans rv.length
      have er : W.EachIs (fun u d => ∃ as, Reads s.heap u d.py as) its l := by
        have : ∀ {l : List D} {vs : List V} {us : List Value}, D.cmpbs l = true → w.Rs ct l vs → Vals vs us → W.EachIs (fun u d => ∃ as, Reads s.heap u d.py as) us l := by
          intro l
          induction l with
          | nil => intro vs us _ h r; unfold Wd.Rs Rels at h; subst h; cases r; exact .nil
          | cons d l ih =>
            intro vs us c h r
            unfold Wd.Rs Rels at h
            obtain ⟨v, vs, rfl, h1, h2⟩ := h
            have c' : d.cmpb = true ∧ D.cmpbs l = true := by simpa [D.cmpbs] using c
            cases r with
            | cons r rr => exact .cons (Dp.reads I d.py v _ (Rel.dp ok.sub d c'.1 h1) r) (ih c'.2 h2 rr)
        exact this hcm h2 rv
      have memo : ∀ d d', d ∈ l → d' ∈ l → D.alike d d' = true := fun d d' h1 h2 => List.all_eq_true.mp (List.all_eq_true.mp hal d h1) d' h2
      have esrt : l.mergeSort (W.dataLe false D.py) = srt l := by
        have := List.map_mergeSort (r := W.dataLe false D.py) (s := fun a b => !D.plt b a) (f := id) (l := l) (fun a ha b hb => by
          show (!W.dataLt b.py a.py) = !D.plt b a
          rw [py_lt b a (memo b a hb ha)])
        rw [List.map_id, List.map_id] at this
        exact this
      refine W.sorted_data (R := fun u d => ∃ v, RelV v u ∧ w.R ct d v) (enc := D.py) pl.isList (each_rel h2 rv) er ?_ ?_ (by rw [← h2.length] at hz; exact hz) (fun d hd' => ?_) fun out ho hE => ?_
      · intro d h3 d' h4
        obtain ⟨x, h5, rfl⟩ := List.mem_map.mp h3
        obtain ⟨y, h6, rfl⟩ := List.mem_map.mp h4
        exact alike_py x y (memo x y h5 h6)
      · unfold sortable at hk
        rw [Bool.or_eq_true] at hk
        rcases hk with hk | hk
        · refine .inl fun d h3 => ?_
          obtain ⟨x, h5, rfl⟩ := List.mem_map.mp h3
          have h6 := List.all_eq_true.mp hk x h5
          cases x with
          | tup l' =>
            cases l' with
            | nil => simp at h6
            | cons a r => exact ⟨a.py, D.pys r, by simp [D.py, D.pys]⟩
          | _ => simp at h6
        · refine .inr fun d h3 => ?_
          obtain ⟨x, h5, rfl⟩ := List.mem_map.mp h3
          have h6 := List.all_eq_true.mp hk x h5
          have h7 := mem_cmp hcm h5
          cases x <;> simp_all [D.py, D.cmpb]
      · have h3 := mem_depth hd'
        have h4 := py_depth d (mem_cmp hcm hd')
        rw [h4]; omega
      · rw [esrt] at hE
        obtain ⟨vs', r1, r2⟩ := rel_each hE
        obtain ⟨ep, he'⟩ := PyProof.Rows.sortedAll_at s.heap its out.toArray
        have hf := I.hok.fresh (Nat.le_succ s.heap.objs.size)
        obtain ⟨w', le, ok', st, hH, r'⟩ := lst_new ok hf r1
        refine ⟨.ref _, upd w.H (s.heap.objs.size + 1) (.lst vs'), I.laid (t' := s.toks) (fun _ _ => PyProof.Rows.sortedAll_old) (Nat.le_succ _) ⟨?_, out, ep, r2, he'⟩, rfl, ?_⟩
        · rw [r2.length, ho, h2.length]; exact hz
        · rw [← hH]; exact q w' _ le ok' st r'
    · cases e
  | [], e, _ => simp [opBlt] at e
  | _ :: _ :: _, e, _ => simp [opBlt] at e
end
end Ev

set_option linter.all false
set_option maxRecDepth 100000
/-! Ix: subscripts, slices, fields, isinstance, methods by values. -/
namespace Ev
open PySem PySem.Spec PyProof.Rows L2
section
variable {ct : Nat → Option Addr} {X : Cx}

/-! truth -/
theorem snd_truth {w : Wd} {K : PySem.W.Frag} (ok : WOk ct w) {x : D} {v : V} {b : Bool} (e : truth w.st x = some b) (r : w.R ct x v) : TruV K v w.H b := by
  have seq : ∀ l, seqOf w.st x = some l → b = !l.isEmpty → TruV K v w.H b := fun l e1 e2 => by
    obtain ⟨a, vs, rfl, h1, h2⟩ := seq_at ok e1 r
    have hl := h2.length
    have h3 : b = !vs.isEmpty := by
      rw [e2]; congr 1
      cases l <;> cases vs <;> simp_all
    rcases h1 with h1 | h1
    · exact .inl ⟨vs, .inl h1, h3⟩
    · exact .inr (.inl ⟨vs, .inl (.inl h1), h3⟩)
  cases x with
  | non => have := rel_non r; subst this; cases e; rfl
  | bl c => have := rel_bl r; subst this; cases e; rfl
  | int i => have := rel_int r; subst this; simp [truth] at e; exact e.symm
  | str a =>
    have := rel_str r; subst this
    simp only [truth] at e
    split at e
    · rename_i hz
      cases e
      refine ⟨by rw [szL_eq]; exact hz, ?_⟩
      rw [Bool.eq_iff_iff, bne_iff_ne, bne_iff_ne]; omega
    · cases e
  | tup l => simp [truth, seqOf] at e; exact seq l rfl (by rw [e, Bool.not_not])
  | lst l => simp [truth, seqOf] at e; exact seq l rfl (by rw [e, Bool.not_not])
  | ref n =>
    simp only [truth, Option.map_eq_some_iff] at e
    obtain ⟨l, e1, e2⟩ := e
    exact seq l e1 e2.symm
  | _ => simp [truth, seqOf] at e

/-! subscripts -/
theorem ixN_eq (n : Nat) (i : Int) : L2.ixN n i = Ev.ixN n i := by
  unfold L2.ixN Ev.ixN
  by_cases h : 0 ≤ i
  · simp [h]
  · simp only [h, if_false]
    by_cases h2 : 0 ≤ i + n
    · rw [if_pos (by omega), if_pos h2]
    · rw [if_neg (by omega), if_neg h2]
theorem ix_dct (hu : X.A.units + 1 < cLine) : IxR X (fun x y H Q => ∃ a v, x = .ref a ∧ DGet H a y (some v) ∧ Q v H) := by
  intro value slice pins s σ H x y v u Q I rx ry h hs
  obtain ⟨a, z, rfl, g, q⟩ := h
  obtain rfl : v = Value.ref a := rx
  exact tail_any (dict_typeIs I g) PySem.F.slot_dict_getitem.lookup (d_getItem hu I g ry fun w' s' I' rw' => ⟨z, H, I', rw', q⟩) hs
theorem snd_ix (hu : X.A.units + 65 < cLine) : IxR X (rB ct opIx) := by
  intro value slice pins s σ H x y v u Q I rx ry h hs
  obtain ⟨w, a, i, z, rfl, ok, ra, ri, e, q⟩ := h
  unfold opIx at e
  split at e
  · rename_i tk ks vs hd
    split at e
    · rename_i hk
      obtain ⟨p, o, rfl, g, _, hf, _⟩ := dct_look ok hd hk ra ri
      obtain ⟨uv, rfl, ru⟩ := hf _ e
      exact ix_dct (by omega) value slice pins s σ w.H _ y v u Q I rx ry ⟨p, uv, rfl, g, q w _ (Le.refl w) ok rfl ru⟩ hs
    · cases e
  · split at e
    · rename_i j
      have := rel_int ri; subst this
      split at e
      · rename_i l hl
        obtain ⟨p, vs, rfl, hp, rs⟩ := seq_at ok hl ra
        rw [Option.bind_eq_some_iff] at e
        obtain ⟨k, e1, e2⟩ := e
        obtain ⟨uv, h1, h2⟩ := rs.get e2
        have hat : atI vs j = some uv := by
          unfold atI
          rw [ixN_eq, ← rs.length, e1]; exact h1
        rcases hp with hp | hp
        · exact ix_list value slice pins s σ w.H _ _ v u Q I rx ry ⟨p, vs, j, uv, rfl, rfl, .inl hp, hat, q w _ (Le.refl w) ok rfl h2⟩ hs
        · exact ix_tup value slice pins s σ w.H _ _ v u Q I rx ry ⟨p, vs, j, uv, rfl, rfl, .inl (.inl hp), hat, q w _ (Le.refl w) ok rfl h2⟩ hs
      · split at e
        · rename_i a' _ _
          have := rel_str ra; subst this
          split at e
          · rename_i hz
            rw [Option.bind_eq_some_iff] at e
            obtain ⟨k, e1, e2⟩ := e
            rw [Option.map_eq_some_iff] at e2
            obtain ⟨c, e2, rfl⟩ := e2
            exact ix_str value slice pins s σ w.H _ _ v u Q I rx ry ⟨a', j, c, rfl, rfl, by rw [szL_eq]; exact hz, by unfold atI; rw [ixN_eq, e1]; exact e2, q w _ (Le.refl w) ok rfl of_str⟩ hs
          · cases e
        · cases e
    · cases e

/-! slices -/
def rS (ct : Nat → Option Addr) : V → Option Int → Option Int → Hp → VK → Prop := fun x lo hi H Q => ∃ w d z, w.H = H ∧ WOk ct w ∧ w.R ct d x ∧ opSl w.st d lo hi = some z ∧
  ∀ w' v, Le w w' → WOk ct w' → w'.st = w.st → w'.R ct z v → Q v w'.H
theorem clampIx_eq (n d : Nat) (o : Option Int) : HT.sIx n d o = clampIx n d o := by cases o <;> rfl
theorem cutV_eq (xs : List V) (lo hi : Option Int) : cutV xs lo hi = cut xs lo hi := by
  unfold cutV cut
  rw [clampIx_eq, clampIx_eq]
theorem cut_rels {w : Wd} {l : List D} {vs : List V} (rs : w.Rs ct l vs) (lo hi : Option Int) : w.Rs ct (cut l lo hi) (cut vs lo hi) := by
  unfold cut
  rw [rs.length]
  exact Rels.take _ (Rels.drop _ rs)
theorem cut_whole {α : Type} {xs : List α} {lo hi : Option Int} (h : clampIx xs.length 0 lo = 0 ∧ clampIx xs.length xs.length hi = xs.length) : cut xs lo hi = xs := by
  unfold cut
  rw [h.1, h.2]; simp
theorem snd_sl : SlR X (rS ct) := by
  intro pins s σ H x v vl vu lo hi sl Q I rx hs pl pu h
  obtain ⟨w, d, z, rfl, ok, rd, e, q⟩ := h
  have lst : ∀ l, lstOf w.st d = some l → z = .lst (cut l lo hi) → ∃ T id, typeLookup (.type T) "__getitem__" = pure (some (.builtin id)) ∧ s.TypeIs v T ∧ wpAny (model X.prog X.w) X.A (getItem v (.ref sl)) (EP X pins σ Q) X.xe s := fun l e1 e2 => by
    subst e2
    obtain ⟨a, vs, rfl, h1, h2⟩ := lst_at ok e1 rd
    refine sl_list pins s σ w.H _ v vl vu lo hi sl Q I rx hs pl pu ⟨a, vs, rfl, .inl h1, fun p hp => ?_⟩
    obtain ⟨w', le, ok', st, hH, r'⟩ := lst_new ok hp (cut_rels h2 lo hi)
    rw [cutV_eq, ← hH]
    exact q w' _ le ok' st r'
  cases d with
  | tup l =>
    simp only [opSl, Option.some.injEq] at e
    subst e
    obtain ⟨a, vs, rfl, h1, h2⟩ := tup_at ok rd
    refine sl_tupA pins s σ w.H _ v vl vu lo hi sl Q I rx hs pl pu ⟨a, vs, rfl, .inl (.inl h1), fun hw => ?_, fun hw p hp => ?_⟩
    · rw [clampIx_eq, clampIx_eq, ← h2.length] at hw
      refine q w _ (Le.refl w) ok rfl ?_
      rw [cut_whole hw]; exact rd
    · obtain ⟨w', le, ok', st, hH, r'⟩ := tup_new ok hp (cut_rels h2 lo hi)
      rw [cutV_eq, ← hH]
      exact q w' _ le ok' st r'
  | str a =>
    simp only [opSl] at e
    split at e
    · rename_i hz
      cases e
      have := rel_str rd; subst this
      refine sl_str pins s σ w.H _ v vl vu lo hi sl Q I rx hs pl pu ⟨a, rfl, by rw [szL_eq]; exact hz, ?_⟩
      have : cutS a lo hi = ⟨(cut a.cps.toList lo hi).toArray⟩ := by
        unfold cutS cut
        simp only [← clampIx_eq, Array.length_toList]
        rfl
      rw [this]
      exact q w _ (Le.refl w) ok rfl of_str
    · cases e
  | lst l => simp [opSl, lstOf] at e; exact lst l rfl e.symm
  | ref n =>
    simp only [opSl, Option.map_eq_some_iff] at e
    obtain ⟨l, e1, e2⟩ := e
    exact lst l e1 e2.symm
  | _ => simp [opSl, lstOf] at e

/-! fields -/
theorem look_lookup {w : Wd} {f : Str} {z : D} : ∀ {fvs : List (Str × V)} {vs : List D}, w.Rs ct vs (fvs.map (·.2)) → opFld.look f (fvs.map (·.1)) vs = some z → ∃ u, fvs.lookup f = some u ∧ w.R ct z u
  | [], vs, r, e => by simp [opFld.look] at e
  | (g, u) :: fvs, vs, r, e => by
    unfold Wd.Rs Rels at r
    cases vs with
    | nil => simp at r
    | cons d vs =>
      obtain ⟨v, r', e1, h1, h2⟩ := r
      simp only [List.map_cons, List.cons.injEq] at e1
      obtain ⟨rfl, rfl⟩ := e1
      simp only [List.map_cons, opFld.look] at e
      split at e
      · rename_i hg
        cases e
        exact ⟨u, by simp [List.lookup, hg], h1⟩
      · rename_i hg
        obtain ⟨u', h3, h4⟩ := look_lookup (w := w) h2 e
        refine ⟨u', ?_, h4⟩
        rw [List.lookup_cons]
        have : (f == g) = false := by rw [beq_eq_false_iff_ne]; exact fun q => hg q.symm
        rw [this]; exact h3
theorem fld_at {w : Wd} (ok : WOk ct w) {x z : D} {f : Str} {v : V} (e : opFld w.st x f = some z) (r : w.R ct x v) : ∃ c a C dx fs u, ct c = some C ∧ v = .ref a ∧ w.H a = some (.ins C dx fs) ∧ fs.lookup f = some u ∧ w.R ct z u := by
  cases x with
  | obj c fs vs =>
    have r : Rel ct w.m w.F (.obj c fs vs) v := r
    unfold Rel at r
    obtain ⟨a, C, dx, fvs, rfl, hc, h1, rfl, h2⟩ := r
    simp only [opFld] at e
    obtain ⟨u, h3, h4⟩ := look_lookup h2 e
    exact ⟨c, a, C, dx, fvs, u, hc, rfl, ok.sub _ _ h1, h3, h4⟩
  | ref n =>
    have r : Rel ct w.m w.F (.ref n) v := r
    unfold Rel at r
    obtain ⟨a, rfl, hm⟩ := r
    simp only [opFld] at e
    split at e
    · rename_i c fs vs hst
      rcases ok.ob n a _ hm hst with g | ⟨_, h, h1, h2⟩
      · cases g
      · obtain ⟨C, dx, fvs, hc, rfl, rfl, h3⟩ := h2
        obtain ⟨u, h4, h5⟩ := look_lookup h3 e
        exact ⟨c, a, C, dx, fvs, u, hc, rfl, h1, h4, h5⟩
    · cases e
  | _ => simp [opFld] at e

/-! isinstance -/
/-- what is asked of the classes -/
structure ClF (K : PySem.W.Frag) (ct : Nat → Option Addr) : Prop where
  cl : ∀ c C, ct c = some C → Cls K C
  own : ∀ c C, ct c = some C → PySem.W.findIn K (.ref C) "__class__" = some (some (.builtin "object.__class__"))
  hn : PySem.W.specialIn K (.builtin "object.__class__") "__get__" = some (some (.builtin "getset_descriptor.__get__"))
  htk : PySem.W.takesIn K (.builtin "object.__class__") = some true
  mro : ∀ c C, ct c = some C → PySem.W.mroIn K C (.type "object") = some true
  kk : ∀ c C c' C', ct c = some C → ct c' = some C' → PySem.W.kitOne K (.ref C) (.ref C') = some (decide (c = c'))
  kt : ∀ c C T, ct c = some C → T ∈ ["int", "bool", "str", "tuple", "list"] → PySem.W.kitOne K (.ref C) (.type T) = some false
  tk : ∀ c C T, ct c = some C → T ∈ ["NoneType", "bool", "int", "str", "tuple", "list"] → PySem.W.kitOne K (.type T) (.ref C) = some false
def tyP (ct : Nat → Option Addr) : Ty → Option V
  | .int => some (.ty "int") | .bool => some (.ty "bool") | .str => some (.ty "str") | .tuple => some (.ty "tuple") | .list => some (.ty "list")
  | .cls c => (ct c).map .ref
theorem isi_at {K : PySem.W.Frag} (cf : ClF K ct) {w : Wd} (ok : WOk ct w) {x : D} {t : Ty} {z : Bool} {v cv : V} (e : isTy t w.st x = some z) (r : w.R ct x v) (et : tyP ct t = some cv) :
    ∃ tv u, ClsV cv u ∧ TyX K w.H v tv ∧ PySem.W.kitOne K tv u = some z := by
  have main : ∀ T : String, T ∈ ["NoneType", "bool", "int", "str", "tuple", "list"] → TyX K w.H v (.type T) → (∀ T', t = .int ∧ T' = "int" ∨ t = .bool ∧ T' = "bool" ∨ t = .str ∧ T' = "str" ∨ t = .tuple ∧ T' = "tuple" ∨ t = .list ∧ T' = "list" → kitB T T' = some z) → (∀ c, t = .cls c → z = false) →
      ∃ tv u, ClsV cv u ∧ TyX K w.H v tv ∧ PySem.W.kitOne K tv u = some z := fun T hT hx hk hc => by
    cases t with
    | cls c =>
      simp only [tyP, Option.map_eq_some_iff] at et
      obtain ⟨C, h1, rfl⟩ := et
      rw [hc c rfl]
      exact ⟨_, _, .own C, hx, cf.tk c C T h1 hT⟩
    | int => cases et; exact ⟨_, _, .ty _, hx, kit_ty (hk "int" (by simp))⟩
    | bool => cases et; exact ⟨_, _, .ty _, hx, kit_ty (hk "bool" (by simp))⟩
    | str => cases et; exact ⟨_, _, .ty _, hx, kit_ty (hk "str" (by simp))⟩
    | tuple => cases et; exact ⟨_, _, .ty _, hx, kit_ty (hk "tuple" (by simp))⟩
    | list => cases et; exact ⟨_, _, .ty _, hx, kit_ty (hk "list" (by simp))⟩
  have lst : ∀ l, lstOf w.st x = some l → (some (t == .list) = some z) → ∃ tv u, ClsV cv u ∧ TyX K w.H v tv ∧ PySem.W.kitOne K tv u = some z := fun l e1 e2 => by
    obtain ⟨a, vs, rfl, h1, _⟩ := lst_at ok e1 r
    refine main "list" (by simp) (by rcases h1 with h1 | ⟨o, h1⟩; exact .base (.lst h1); exact .base (.frz h1)) (fun T' h => ?_) (fun c h => by subst h; cases e2; rfl)
    rcases h with ⟨rfl, rfl⟩ | ⟨rfl, rfl⟩ | ⟨rfl, rfl⟩ | ⟨rfl, rfl⟩ | ⟨rfl, rfl⟩ <;> (cases e2; decide +kernel)
  cases x with
  | non =>
    have := rel_non r; subst this
    refine main "NoneType" (by simp) (.base .non) (fun T' h => ?_) (fun c h => by subst h; simp [isTy] at e; exact e)
    rcases h with ⟨rfl, rfl⟩ | ⟨rfl, rfl⟩ | ⟨rfl, rfl⟩ | ⟨rfl, rfl⟩ | ⟨rfl, rfl⟩ <;> (cases e; decide +kernel)
  | bl b =>
    have := rel_bl r; subst this
    refine main "bool" (by simp) (.base (.bl b)) (fun T' h => ?_) (fun c h => by subst h; cases e; rfl)
    rcases h with ⟨rfl, rfl⟩ | ⟨rfl, rfl⟩ | ⟨rfl, rfl⟩ | ⟨rfl, rfl⟩ | ⟨rfl, rfl⟩ <;> (cases e; decide +kernel)
  | int i =>
    have := rel_int r; subst this
    refine main "int" (by simp) (.base (.int i)) (fun T' h => ?_) (fun c h => by subst h; cases e; rfl)
    rcases h with ⟨rfl, rfl⟩ | ⟨rfl, rfl⟩ | ⟨rfl, rfl⟩ | ⟨rfl, rfl⟩ | ⟨rfl, rfl⟩ <;> (cases e; decide +kernel)
  | str a =>
    have := rel_str r; subst this
    refine main "str" (by simp) (.base (.str a)) (fun T' h => ?_) (fun c h => by subst h; cases e; rfl)
    rcases h with ⟨rfl, rfl⟩ | ⟨rfl, rfl⟩ | ⟨rfl, rfl⟩ | ⟨rfl, rfl⟩ | ⟨rfl, rfl⟩ <;> (cases e; decide +kernel)
  | tup l =>
    obtain ⟨a, vs, rfl, h1, _⟩ := tup_at ok r
    refine main "tuple" (by simp) (.base (.tup h1)) (fun T' h => ?_) (fun c h => by subst h; cases e; rfl)
    rcases h with ⟨rfl, rfl⟩ | ⟨rfl, rfl⟩ | ⟨rfl, rfl⟩ | ⟨rfl, rfl⟩ | ⟨rfl, rfl⟩ <;> (cases e; decide +kernel)
  | lst l => exact lst l rfl e
  | ref n =>
    simp only [isTy] at e
    split at e
    · rename_i l hl; exact lst l (by simp [lstOf, hl]) e
    · cases e
  | obj c fs vs =>
    have r : Rel ct w.m w.F (.obj c fs vs) v := r
    unfold Rel at r
    obtain ⟨a, C, dx, fvs, rfl, hc, h1, _, _⟩ := r
    have hx : TyX K w.H (.ref a) (.ref C) := .base (.ins (ok.sub _ _ h1) (cf.cl c C hc) (cf.own c C hc) cf.hn cf.htk (cf.mro c C hc))
    simp only [isTy, Option.some.injEq] at e
    cases t with
    | cls c' =>
      simp only [tyP, Option.map_eq_some_iff] at et
      obtain ⟨C', h2, rfl⟩ := et
      refine ⟨_, _, .own C', hx, ?_⟩
      rw [cf.kk c C c' C' hc h2, ← e]
      congr 1
      by_cases q : c = c'
      · subst q; simp
      · rw [decide_eq_false q]; symm; rw [beq_eq_false_iff_ne]; intro z; injection z with z; exact q z.symm
    | int => cases et; exact ⟨_, _, .ty _, hx, by rw [cf.kt c C _ hc (by simp), ← e]; rfl⟩
    | bool => cases et; exact ⟨_, _, .ty _, hx, by rw [cf.kt c C _ hc (by simp), ← e]; rfl⟩
    | str => cases et; exact ⟨_, _, .ty _, hx, by rw [cf.kt c C _ hc (by simp), ← e]; rfl⟩
    | tuple => cases et; exact ⟨_, _, .ty _, hx, by rw [cf.kt c C _ hc (by simp), ← e]; rfl⟩
    | list => cases et; exact ⟨_, _, .ty _, hx, by rw [cf.kt c C _ hc (by simp), ← e]; rfl⟩
  | _ => simp [isTy] at e

/-! methods of built-in types -/
def rM (ct : Nat → Option Addr) (m : Bm) : V → List V → Hp → VK → Prop := fun x vs H Q => ∃ w d l z st', w.H = H ∧ WOk ct w ∧ w.R ct d x ∧ w.Rs ct l vs ∧ opBm m w.st d l = .ok z st' ∧
  ∀ w' v, Le w w' → WOk ct w' → w'.st = st' → w'.R ct z v → Q v w'.H
/-- a list of the store -/
theorem ref_lst {w : Wd} (ok : WOk ct w) {n : Nat} {l : List D} {v : V} (e : w.st[n]? = some (.lst l)) (r : w.R ct (.ref n) v) : ∃ a vs, v = .ref a ∧ w.m[n]? = some a ∧ w.F a = none ∧ w.H a = some (.lst vs) ∧ w.Rs ct l vs := by
  have r : Rel ct w.m w.F (.ref n) v := r
  unfold Rel at r
  obtain ⟨a, rfl, hm⟩ := r
  rcases ok.ob n a _ hm e with g | ⟨hF, h, h1, h2⟩
  · cases g
  · obtain ⟨vs, rfl, h3⟩ := h2
    exact ⟨a, vs, rfl, hm, hF, h1, h3⟩
/-- a list of the store is written -/
theorem put_lst {w : Wd} (ok : WOk ct w) {n : Nat} {a : Addr} {l : List D} {vs : List V} (hm : w.m[n]? = some a) (hF : w.F a = none) (r : w.Rs ct l vs) :
    ∃ w', Le w w' ∧ WOk ct w' ∧ w'.st = w.st.set n (.lst l) ∧ w'.H = upd w.H a (.lst vs) := by
  obtain ⟨le, ok'⟩ := Wd.put ok hm hF (o := .lst vs) (ob := .lst l) ⟨vs, rfl, r⟩
  exact ⟨_, le, ok', rfl, rfl⟩
theorem snd_append : MtR X "list.append" (rM ct .append) := by
  intro pins s σ H x xs v us Q I rx rs h
  obtain ⟨w, d, l, z, st', rfl, ok, rd, rl, e, q⟩ := h
  match l, rl, e with
  | [y], rl, e =>
    obtain ⟨u, rfl, ru⟩ := rs1 rl
    cases d with
    | ref n =>
      simp only [opBm] at e
      split at e
      · rename_i l hl
        split at e
        · rename_i hz
          cases e
          obtain ⟨a, vs, rfl, hm, hF, hH, hr⟩ := ref_lst ok hl rd
          obtain ⟨w', le, ok', st, hH'⟩ := put_lst ok hm hF (hr.append (Rels.cons ru Rels.nil))
          refine mt_append pins s σ w.H _ _ v us Q I rx rs ⟨a, vs, u, rfl, rfl, hH, by rw [szL_eq, ← hr.length]; exact hz, ?_⟩
          rw [← hH']
          exact q w' _ le ok' st of_non
        · cases e
      · cases e
    | _ => simp [opBm] at e
  | [], _, e => simp [opBm] at e
  | _ :: _ :: _, _, e => simp [opBm] at e
theorem rels_dropLast {m : List Addr} {F : Hp} : ∀ {l : List D} {vs : List V}, Rels ct m F l vs → Rels ct m F l.dropLast vs.dropLast := fun {l vs} h => by
  rw [List.dropLast_eq_take, List.dropLast_eq_take, h.length]; exact Rels.take _ h
theorem snd_pop : MtR X "list.pop" (rM ct .pop) := by
  intro pins s σ H x xs v us Q I rx rs h
  obtain ⟨w, d, l, z, st', rfl, ok, rd, rl, e, q⟩ := h
  cases l with
  | nil =>
    unfold Wd.Rs Rels at rl; subst rl
    cases d with
    | ref n =>
      simp only [opBm] at e
      split at e
      · rename_i l hl
        split at e
        · rename_i y hy
          cases e
          obtain ⟨a, vs, rfl, hm, hF, hH, hr⟩ := ref_lst ok hl rd
          rw [List.getLast?_eq_getElem?] at hy
          obtain ⟨u, h1, h2⟩ := hr.get hy
          obtain ⟨w', le, ok', st, hH'⟩ := put_lst ok hm hF (rels_dropLast hr)
          refine mt_pop pins s σ w.H _ _ v us Q I rx rs ⟨a, vs, u, rfl, rfl, hH, by rw [← hr.length]; exact h1, ?_⟩
          rw [← hH']
          exact q w' _ le ok' st (Wd.R.le le h2)
        · cases e
      · cases e
    | _ => simp [opBm] at e
  | cons d0 r0 =>
    cases r0 with
    | cons _ _ => cases d0 <;> simp [opBm] at e
    | nil =>
      cases d0 with
      | int i =>
        obtain ⟨u, rfl, ru⟩ := rs1 rl
        have := rel_int ru; subst this
        cases d with
        | ref n =>
          simp only [opBm] at e
          split at e
          · rename_i l hl
            split at e
            · rename_i y r
              cases e
              obtain ⟨a, vs, rfl, hm, hF, hH, hr⟩ := ref_lst ok hl rd
              unfold Wd.Rs Rels at hr
              obtain ⟨u, vs, rfl, h1, h2⟩ := hr
              obtain ⟨w', le, ok', st, hH'⟩ := put_lst ok hm hF h2
              refine mt_popAt pins s σ w.H _ _ v us Q I rx rs ⟨a, u :: vs, 0, 0, u, rfl, rfl, hH, by decide, by decide, by simp [seqIndex?], rfl, ?_⟩
              rw [List.eraseIdx_cons_zero, ← hH']
              exact q w' _ le ok' st (Wd.R.le le h1)
            · cases e
          · cases e
        | _ => simp [opBm] at e
      | _ => simp [opBm] at e
theorem snd_reverse : MtR X "list.reverse" (rM ct .reverse) := by
  intro pins s σ H x xs v us Q I rx rs h
  obtain ⟨w, d, l, z, st', rfl, ok, rd, rl, e, q⟩ := h
  match l, rl, e with
  | [], rl, e =>
    unfold Wd.Rs Rels at rl; subst rl
    cases d with
    | ref n =>
      simp only [opBm] at e
      split at e
      · rename_i l hl
        cases e
        obtain ⟨a, vs, rfl, hm, hF, hH, hr⟩ := ref_lst ok hl rd
        obtain ⟨w', le, ok', st, hH'⟩ := put_lst ok hm hF (Rels.reverse hr)
        refine mt_reverse pins s σ w.H _ _ v us Q I rx rs ⟨a, vs, rfl, rfl, hH, ?_⟩
        rw [← hH']
        exact q w' _ le ok' st of_non
      · cases e
    | _ => simp [opBm] at e
  | _ :: _, _, e => simp [opBm] at e
theorem snd_join : MtR X "str.join" (rM ct .join) := by
  intro pins s σ H x xs v us Q I rx rs h
  obtain ⟨w, d, l, z, st', rfl, ok, rd, rl, e, q⟩ := h
  match l, rl, e with
  | [y], rl, e =>
    obtain ⟨u, rfl, ru⟩ := rs1 rl
    cases d with
    | str a =>
      simp only [opBm] at e
      split at e
      · rename_i l hl
        rw [Option.bind_eq_some_iff] at hl
        obtain ⟨l', e1, e2⟩ := hl
        split at e
        · rename_i hz
          cases e
          have := rel_str rd; subst this
          obtain ⟨p, vs, rfl, hp, hr⟩ := lst_at ok e1 ru
          have := strs_of e2 hr; subst this
          exact mt_join pins s σ w.H _ _ v us Q I rx rs ⟨a, p, l, rfl, rfl, .inl (.inl hp), hz, q w _ (Le.refl w) ok rfl of_str⟩
        · cases e
      · cases e
    | _ => simp [opBm] at e
  | [], _, e => simp [opBm] at e
  | _ :: _ :: _, _, e => simp [opBm] at e
end
end Ev

set_option linter.all false
set_option maxRecDepth 100000
/-! Im: count, index, stores. -/
namespace Ev
open PySem PySem.Spec PyProof.Rows L2
mutual
theorem py_plain : ∀ d : D, d.cmpb = true → d.py.plain = true
  | .non, _ => by simp [D.py, PyData.plain]
  | .bl _, _ => by simp [D.py, PyData.plain]
  | .int _, _ => by simp [D.py, PyData.plain]
  | .str x, h => by simp [D.py, PyData.plain]
  | .tup l, h => by simp only [D.py, PyData.plain]; exact pys_plain l (by simpa [D.cmpb] using h)
  | .lst l, h => by simp only [D.py, PyData.plain]; exact pys_plain l (by simpa [D.cmpb] using h)
  | .dct _ _ _, h => by simp [D.cmpb] at h
  | .set _, h => by simp [D.cmpb] at h
  | .obj _ _ _, h => by simp [D.cmpb] at h
  | .ref _, h => by simp [D.cmpb] at h
theorem pys_plain : ∀ l : List D, D.cmpbs l = true → PyData.plainAll (D.pys l) = true
  | [], _ => by simp [D.pys, PyData.plainAll]
  | d :: l, h => by
    have h' : d.cmpb = true ∧ D.cmpbs l = true := by simpa [D.cmpbs] using h
    simp only [D.pys, PyData.plainAll]
    rw [py_plain d h'.1, pys_plain l h'.2]; rfl
end
theorem py_count (d : D) (hd : d.cmpb = true) : ∀ l : List D, D.cmpbs l = true → ((D.pys l).countP fun z => PyData.eqv z d.py) = countD d l
  | [], _ => rfl
  | x :: l, h => by
    have h' : x.cmpb = true ∧ D.cmpbs l = true := by simpa [D.cmpbs] using h
    unfold countD
    simp only [D.pys, List.countP_cons]
    rw [py_eqv x d h'.1 hd, py_count d hd l h'.2]; rfl
section
variable {ct : Nat → Option Addr} {X : Cx}
theorem snd_count (hu : X.A.units + 65 < cLine) : MtR X "list.count" (rM ct .count) := by
  intro pins s σ H x xs v us Q I rx rs h
  obtain ⟨w, d, l, z, st', rfl, ok, rd, rl, e, q⟩ := h
  match l, rl, e with
  | [y], rl, e =>
    obtain ⟨u, rfl, ru⟩ := rs1 rl
    simp only [opBm] at e
    split at e
    · rename_i l a h1 h2
      split at e
      · rename_i hc
        cases e
        simp only [Bool.and_eq_true, decide_eq_true_eq] at hc
        obtain ⟨⟨c1, c2⟩, c3, c4⟩ := hc
        rw [Option.bind_eq_some_iff] at h1
        obtain ⟨l', e1, e2⟩ := h1
        obtain ⟨p, vs, rfl, hp, hr⟩ := lst_at ok e1 rd
        obtain ⟨its, rv, pl, hz⟩ := I.list (.inl hp)
        have da : DpAll X.K w.H vs (D.pys l) := Rels.dp (Wd.now_sub ok) l c2 (frzs_now ok e2 hr)
        have dx : Dp X.K w.H u a.py := cmp_dp ok h2 c1 ru
        obtain ⟨uv, rfl, ruv⟩ := rs.one
        obtain ⟨as, r1⟩ := Dp.readsAll I _ _ its da rv
        obtain ⟨bs, r2⟩ := Dp.reads I a.py u uv dx ruv
        cases (show v = Value.ref p from rx)
        refine SeqAt.count_list_data pl.isList r1 r2 (pys_plain l c2) (py_plain a c1) ?_ ⟨.int (countD a l : Nat), w.H, I.tok _, ⟨s.toks, ?_⟩, q w _ (Le.refl w) ok rfl of_int⟩
        · rw [pys_depth l c2, py_depth a c1]; omega
        · rw [py_count a c1 l c2]
      · cases e
    · cases e
  | [], _, e => simp [opBm] at e
  | _ :: _ :: _, _, e => simp [opBm] at e
theorem pys_get : ∀ (l : List D) (j : Nat), (D.pys l)[j]? = (l[j]?).map D.py
  | [], j => by simp [D.pys]
  | d :: l, 0 => by simp [D.pys]
  | d :: l, j + 1 => by simp only [D.pys, List.getElem?_cons_succ]; exact pys_get l j
theorem mem_cmp' {l : List D} {d : D} {j : Nat} (h : D.cmpbs l = true) (e : l[j]? = some d) : d.cmpb = true := mem_cmp h (List.mem_of_getElem? e)
theorem snd_index (hu : X.A.units + 65 < cLine) : MtR X "list.index" (rM ct .index) := by
  intro pins s σ H x xs v us Q I rx rs h
  obtain ⟨w, d, l, z, st', rfl, ok, rd, rl, e, q⟩ := h
  match l, rl, e with
  | [y], rl, e =>
    obtain ⟨u, rfl, ru⟩ := rs1 rl
    simp only [opBm] at e
    split at e
    · rename_i l a h1 h2
      split at e
      · rename_i hc
        split at e
        · rename_i k hk
          cases e
          simp only [Bool.and_eq_true, decide_eq_true_eq] at hc
          obtain ⟨⟨c1, c2⟩, c3, c4⟩ := hc
          rw [Option.bind_eq_some_iff] at h1
          obtain ⟨l', e1, e2⟩ := h1
          obtain ⟨p, vs, rfl, hp, hr⟩ := lst_at ok e1 rd
          have da : DpAll X.K w.H vs (D.pys l) := Rels.dp (Wd.now_sub ok) l c2 (frzs_now ok e2 hr)
          have dx : Dp X.K w.H u a.py := cmp_dp ok h2 c1 ru
          unfold placeD at hk
          rw [List.findIdx?_eq_some_iff_getElem] at hk
          obtain ⟨hlt, hp1, hp2⟩ := hk
          have hg : l[k]? = some l[k] := List.getElem?_eq_getElem hlt
          have hgp : (D.pys l)[k]? = some l[k].py := by rw [pys_get, hg]; rfl
          have hsl : SeqAt.shaped (.list (D.pys l)) = true := by
            have := shaped_of (d := .lst l) (by simpa [D.cmpb] using c2) (by
              simp only [D.depth]
              omega)
            simpa [D.py] using this
          refine mt_indexD hu pins s σ w.H _ _ v us Q I rx rs ⟨p, u, a.py, D.pys l, k, l[k].py, rfl, rfl, .lst (.inl hp) da, dx, hsl, shaped_of c1 (by omega), hgp, ?_, fun m z' hm hz => ?_, q w _ (Le.refl w) ok rfl of_int⟩
          · rw [py_eqv _ _ (mem_cmp' c2 hg) c1]; exact hp1
          · rw [pys_get] at hz
            rw [Option.map_eq_some_iff] at hz
            obtain ⟨d', h5, rfl⟩ := hz
            rw [py_eqv _ _ (mem_cmp' c2 h5) c1]
            have := hp2 m hm
            obtain ⟨h6, h7⟩ := List.getElem?_eq_some_iff.mp h5
            rw [h7] at this
            simpa using this
        · cases e
      · cases e
    · cases e
  | [], _, e => simp [opBm] at e
  | _ :: _ :: _, _, e => simp [opBm] at e

/-! stores -/
theorem putKeys {κ : Type} [DecidableEq κ] (g : κ → D) (hg : ∀ a b, D.peq (g a) (g b) = decide (a = b)) (k : κ) (v : V) (kvs : List (κ × V)) : D.putK (g k) (kvs.map fun p => g p.1) = (putK kvs k v).map fun p => g p.1 := by
  unfold D.putK putK
  rw [isIn_val g hg k kvs]
  have e : (valV kvs k).isSome = kvs.any fun kv => decide (kv.1 = k) := by
    unfold valV
    rw [Option.isSome_map, Bool.eq_iff_iff, List.find?_isSome, List.any_eq_true]
  rw [e]
  split
  · rw [List.map_map]
    refine List.map_congr_left fun p _ => ?_
    show g p.1 = g (if p.1 = k then (p.1, v) else p).1
    split <;> rfl
  · rw [List.map_append]; rfl
theorem putVals {κ : Type} [DecidableEq κ] (g : κ → D) (hg : ∀ a b, D.peq (g a) (g b) = decide (a = b)) {m : List Addr} {F : Hp} (k : κ) {d : D} {v : V} (r : Rel ct m F d v) {kvs : List (κ × V)} {vs : List D} (rs : Rels ct m F vs (kvs.map (·.2))) :
    Rels ct m F (D.putV (g k) d (kvs.map fun p => g p.1) vs) ((putK kvs k v).map (·.2)) := by
  unfold D.putV putK
  rw [isIn_val g hg k kvs]
  have e : (valV kvs k).isSome = kvs.any fun kv => decide (kv.1 = k) := by
    unfold valV
    rw [Option.isSome_map, Bool.eq_iff_iff, List.find?_isSome, List.any_eq_true]
  rw [e]
  have key : ∀ (kvs : List (κ × V)) (vs : List D), Rels ct m F vs (kvs.map (·.2)) → Rels ct m F (D.repV (g k) d (kvs.map fun p => g p.1) vs) ((kvs.map fun kv => if kv.1 = k then (kv.1, v) else kv).map (·.2)) := by
    intro kvs
    induction kvs with
    | nil => intro vs h; simp only [List.map_nil] at h ⊢; cases vs <;> exact Rels.nil
    | cons p kvs ih =>
      intro vs h
      cases vs with
      | nil => unfold Rels at h; simp at h
      | cons x vs =>
        unfold Rels at h
        obtain ⟨y, r', e1, h1, h2⟩ := h
        simp only [List.map_cons, List.cons.injEq] at e1
        obtain ⟨rfl, rfl⟩ := e1
        simp only [List.map_cons, D.repV, hg]
        refine Rels.cons ?_ (ih vs h2)
        by_cases q : p.1 = k
        · simp only [q, decide_true, if_true]; exact r
        · simp only [q, decide_false, Bool.false_eq_true, if_false]; exact h1
  split
  · exact key kvs vs rs
  · rw [List.map_append]; exact rs.append (Rels.cons r Rels.nil)
/-- a dict of the store -/
theorem ref_dct {w : Wd} (ok : WOk ct w) {n : Nat} {tk : Bool} {ks vs : List D} {v : V} (e : w.st[n]? = some (.dct tk ks vs)) (r : w.R ct (.ref n) v) : ∃ a, v = .ref a ∧ w.m[n]? = some a ∧ w.F a = none ∧
    ((∃ kvs : List (Key × V), tk = false ∧ w.H a = some (.dK kvs) ∧ ks = kvs.map (fun p => kD p.1) ∧ w.Rs ct vs (kvs.map (·.2))) ∨
      (∃ kvs : List (List Key × V), tk = true ∧ w.H a = some (.dT kvs) ∧ ks = kvs.map (fun p => ktD p.1) ∧ w.Rs ct vs (kvs.map (·.2)))) := by
  have r : Rel ct w.m w.F (.ref n) v := r
  unfold Rel at r
  obtain ⟨a, rfl, hm⟩ := r
  rcases ok.ob n a _ hm e with g | ⟨hF, h, h1, h2⟩
  · cases g
  · refine ⟨a, rfl, hm, hF, ?_⟩
    rcases h2 with ⟨kvs, t, rfl, k, h3⟩ | ⟨kvs, t, rfl, k, h3⟩
    · exact .inl ⟨kvs, t, h1, k, h3⟩
    · exact .inr ⟨kvs, t, h1, k, h3⟩
/-- o[i] = v -/
theorem set_dct (hu : X.A.units + 1 < cLine) : PSet X (fun o i v H Q => ∃ a H', o = .ref a ∧ DPut H a i v H' ∧ Q H') := by
  intro pins s σ H o i v ov iv u Q I ro ri rv h
  obtain ⟨a, H', rfl, g, q⟩ := h
  cases ro
  exact d_setItem hu I g ri rv fun s' I' => ⟨H', I', q⟩
def rSet (ct : Nat → Option Addr) : TSet := fun o i v H Q => ∃ w x y z st', w.H = H ∧ WOk ct w ∧ w.R ct x o ∧ w.R ct y i ∧ w.R ct z v ∧ opSet w.st x y z = some st' ∧ ∀ w', Le w w' → WOk ct w' → w'.st = st' → Q w'.H
theorem snd_set (hu : X.A.units + 1 < cLine) : PSet X (rSet ct) := by
  intro pins s σ H o i v ov iv u Q I ro ri rv h
  obtain ⟨w, x, y, z, st', rfl, ok, rx, ry, rz, e, q⟩ := h
  cases x with
  | ref n =>
    simp only [opSet] at e
    split at e
    · rename_i l hl
      split at e
      · rename_i j
        rw [Option.map_eq_some_iff] at e
        obtain ⟨k, e1, rfl⟩ := e
        have := rel_int ry; subst this
        obtain ⟨a, vs, rfl, hm, hF, hH, hr⟩ := ref_lst ok hl rx
        obtain ⟨w', le, ok', st, hH'⟩ := put_lst ok hm hF (Rels.set rz k hr)
        refine set_list pins s σ w.H _ _ _ ov iv u Q I ro ri rv ⟨a, vs, j, k, rfl, rfl, hH, by rw [ixN_eq, ← hr.length]; exact e1, ?_⟩
        rw [← hH']
        exact q w' le ok' st
      · cases e
    · rename_i tk ks vs hd
      split at e
      · rename_i hc
        cases e
        rw [Bool.and_eq_true, decide_eq_true_eq] at hc
        obtain ⟨a, rfl, hm, hF, h⟩ := ref_dct ok hd rx
        rcases h with ⟨kvs, rfl, hH, rfl, hr⟩ | ⟨kvs, rfl, hH, rfl, hr⟩
        · obtain ⟨key, rfl, rfl⟩ := key_of (by simpa [D.keyOk] using hc.1) ry
          have hz : kvs.length < sizeLine := by rw [szL_eq]; have := hc.2; simp at this; unfold szL; omega
          obtain ⟨le, ok'⟩ := Wd.put ok hm hF (o := .dK (putK kvs key v)) (ob := .dct false (D.putK (kD key) (kvs.map fun p => kD p.1)) (D.putV (kD key) z (kvs.map fun p => kD p.1) vs)) (.inl ⟨_, rfl, rfl, putKeys kD peq_kD key v kvs, putVals kD peq_kD key rz hr⟩)
          exact set_dct hu pins s σ w.H _ _ _ ov iv u Q I ro ri rv ⟨a, _, rfl, DPut.k hH hz, q _ le ok' rfl⟩
        · obtain ⟨key, b, rfl, rfl, hb⟩ := keyT_of (by simpa [D.keyOk] using hc.1) ry
          have hz : kvs.length < sizeLine := by rw [szL_eq]; have := hc.2; simp at this; unfold szL; omega
          obtain ⟨le, ok'⟩ := Wd.put ok hm hF (o := .dT (putK kvs key v)) (ob := .dct true (D.putK (ktD key) (kvs.map fun p => ktD p.1)) (D.putV (ktD key) z (kvs.map fun p => ktD p.1) vs)) (.inr ⟨_, rfl, rfl, putKeys ktD peq_ktD key v kvs, putVals ktD peq_ktD key rz hr⟩)
          exact set_dct hu pins s σ w.H _ _ _ ov iv u Q I ro ri rv ⟨a, _, rfl, DPut.t hH (ok.sub _ _ hb) hz, q _ le ok' rfl⟩
      · cases e
    · cases e
  | _ => simp [opSet] at e
end
end Ev

set_option linter.all false
set_option maxRecDepth 100000
/-! Jd: readings by the evaluator, and how they are put together. -/
namespace Ev
open PySem L2
theorem bnd_of {α β : Type} {m : R α} {f : α → List Ob → R β} {b : β} {st : List Ob} (h : bnd m f = .ok b st) : ∃ a st1, m = .ok a st1 ∧ f a st1 = .ok b st := by
  cases m with
  | ok a st1 => exact ⟨a, st1, rfl, h⟩
  | bad => cases h
theorem ofO_of {α β : Type} {o : Option α} {f : α → R β} {b : β} {st : List Ob} (h : ofO o f = .ok b st) : ∃ a, o = some a ∧ f a = .ok b st := by
  cases o with
  | some a => exact ⟨a, rfl, h⟩
  | none => cases h
theorem chk_of {β : Type} {c : Bool} {m : R β} {b : β} {st : List Ob} (h : chk c m = .ok b st) : c = true ∧ m = .ok b st := by
  cases c with
  | true => exact ⟨rfl, h⟩
  | false => cases h
section
variable {ct : Nat → Option Addr} {X : Cx}

/-! ### the slots -/
structure EnvR (ct : Nat → Option Addr) (w : Wd) (ρ : Env) (σ : St) : Prop where
  len : ρ.length = σ.length
  get : ∀ (i : Nat) d, ρ[i]? = some (some d) → ∃ v, σ[i]? = some (some v) ∧ w.R ct d v
theorem EnvR.le {w w' : Wd} (l : Le w w') {ρ : Env} {σ : St} (r : EnvR ct w ρ σ) : EnvR ct w' ρ σ := ⟨r.len, fun i d h => by
  obtain ⟨v, h1, h2⟩ := r.get i d h
  exact ⟨v, h1, Wd.R.le l h2⟩⟩
theorem EnvR.set {w : Wd} {ρ : Env} {σ : St} (r : EnvR ct w ρ σ) (i : Nat) {d : D} {v : V} (h : w.R ct d v) : EnvR ct w (ρ.set i (some d)) (σ.set i (some v)) := by
  refine ⟨by simp [r.len], fun j e hj => ?_⟩
  by_cases q : i = j
  · subst q
    have hlt : i < ρ.length := by
      have := (List.getElem?_eq_some_iff.mp hj).1
      simpa using this
    rw [List.getElem?_set_self hlt] at hj
    simp only [Option.some.injEq] at hj; subst hj
    exact ⟨v, List.getElem?_set_self (by rw [← r.len]; exact hlt), h⟩
  · rw [List.getElem?_set_ne q] at hj
    obtain ⟨u, h1, h2⟩ := r.get j e hj
    exact ⟨u, by rw [List.getElem?_set_ne q]; exact h1, h2⟩
theorem EnvR.wipe {w : Wd} {ρ : Env} {σ : St} (r : EnvR ct w ρ σ) : ∀ vs : List Nat, EnvR ct w (wipeE ρ vs) (L2.wipe σ vs)
  | [] => r
  | i :: vs => by
    have ih := EnvR.wipe r vs
    unfold wipeE L2.wipe
    refine ⟨by simp [ih.len], fun j e hj => ?_⟩
    by_cases q : i = j
    · subst q
      have hlt : i < (wipeE ρ vs).length := by
        have := (List.getElem?_eq_some_iff.mp hj).1
        simpa using this
      rw [List.getElem?_set_self hlt] at hj
      simp at hj
    · rw [List.getElem?_set_ne q] at hj
      obtain ⟨u, h1, h2⟩ := ih.get j e hj
      exact ⟨u, by rw [List.getElem?_set_ne q]; exact h1, h2⟩

/-! ### readings -/
/-- an expression's -/
def tE (ct : Nat → Option Addr) (f : Env → List Ob → R D) : TE := fun σ H Q => ∃ w ρ d st', w.H = H ∧ WOk ct w ∧ EnvR ct w ρ σ ∧ f ρ w.st = .ok d st' ∧ ∀ w' v, Le w w' → WOk ct w' → w'.st = st' → w'.R ct d v → Q v w'.H
/-- of what makes a new list or dict: it does not yet belong to the state -/
def tN (ct : Nat → Option Addr) (f : Env → List Ob → R Ob) : TE := fun σ H Q => ∃ w ρ o st', w.H = H ∧ WOk ct w ∧ EnvR ct w ρ σ ∧ f ρ w.st = .ok o st' ∧
  ∀ w' p h, Le w w' → WOk ct w' → w'.st = st' → w'.H p = none → ORel ct w'.m w'.F o h → Q (.ref p) (upd w'.H p h)
def tT (ct : Nat → Option Addr) (f : Env → List Ob → R Bool) : TT := fun σ H Q => ∃ w ρ b st', w.H = H ∧ WOk ct w ∧ EnvR ct w ρ σ ∧ f ρ w.st = .ok b st' ∧ ∀ w', Le w w' → WOk ct w' → w'.st = st' → Q b w'.H
def tAs (ct : Nat → Option Addr) (f : Env → List Ob → R (List D)) : TA := fun σ H Q => ∃ w ρ l st', w.H = H ∧ WOk ct w ∧ EnvR ct w ρ σ ∧ f ρ w.st = .ok l st' ∧ ∀ w' vs, Le w w' → WOk ct w' → w'.st = st' → w'.Rs ct l vs → Q vs w'.H
def tPo (ct : Nat → Option Addr) (f : Env → List Ob → R (Option Int)) : TO := fun σ H Q => ∃ w ρ o st', w.H = H ∧ WOk ct w ∧ EnvR ct w ρ σ ∧ f ρ w.st = .ok o st' ∧ ∀ w', Le w w' → WOk ct w' → w'.st = st' → Q o w'.H
theorem PE.imp {e : Expr} {t t' : TE} (h : PE X e t) (i : ∀ σ H Q, t' σ H Q → t σ H Q) : PE X e t' := ⟨fun pins s σ H Q I q => h.run pins s σ H Q I (i σ H Q q)⟩
theorem PT.imp {e : Expr} {t t' : TT} (h : PT X e t) (i : ∀ σ H Q, t' σ H Q → t σ H Q) : PT X e t' := ⟨fun pins s σ H Q I q => h.run pins s σ H Q I (i σ H Q q)⟩
theorem PW.imp {e : Expr} {t t' : TT} (h : PW X e t) (i : ∀ σ H Q, t' σ H Q → t σ H Q) : PW X e t' := ⟨fun wh pins s σ H Q I q => h.run wh pins s σ H Q I (i σ H Q q)⟩
theorem PA.imp {e : List Expr} {t t' : TA} (h : PA X e t) (i : ∀ σ H Q, t' σ H Q → t σ H Q) : PA X e t' := ⟨fun pos pins s σ H Q I q => h.run pos pins s σ H Q I (i σ H Q q)⟩
theorem PO.imp {e : Option Expr} {t t' : TO} (h : PO X e t) (i : ∀ σ H Q, t' σ H Q → t σ H Q) : PO X e t' := ⟨fun pins s σ H Q I q => h.run pins s σ H Q I (i σ H Q q)⟩

abbrev FE := Env → List Ob → R D
abbrev FT := Env → List Ob → R Bool
abbrev FA := Env → List Ob → R (List D)
def obD : Ob → Option D
  | .lst l => some (.lst l)
  | .dct tk ks vs => some (.dct tk ks vs)
  | _ => none
/-- a new object becomes data, becomes an object that may change -/
theorem new_frz {w : Wd} (ok : WOk ct w) {p : Addr} (hp : w.H p = none) {d : D} {h : HO} {o : Ob} (eo : obD o = some d) (r : ORel ct w.m w.F o h) :
    ∃ w', Le w w' ∧ WOk ct w' ∧ w'.st = w.st ∧ w'.H = upd w.H p h ∧ w'.R ct d (.ref p) := by
  cases o with
  | lst l =>
    obtain ⟨vs, rfl, r⟩ := r
    obtain ⟨w', h1, h2, h3, h4, h5⟩ := lst_new ok hp r
    exact ⟨w', h1, h2, h3, h4, by cases eo; exact h5⟩
  | dct tk ks vs =>
    rcases r with ⟨kvs, rfl, rfl, rfl, r⟩ | ⟨kvs, rfl, rfl, rfl, r⟩
    · obtain ⟨w', h1, h2, h3, h4, h5⟩ := dctK_new ok hp r
      exact ⟨w', h1, h2, h3, h4, by cases eo; exact h5⟩
    · obtain ⟨w', h1, h2, h3, h4, h5⟩ := dctT_new ok hp r
      exact ⟨w', h1, h2, h3, h4, by cases eo; exact h5⟩
  | _ => simp [obD] at eo
theorem new_mut {w : Wd} (ok : WOk ct w) {p : Addr} (hp : w.H p = none) {h : HO} {o : Ob} (r : ORel ct w.m w.F o h) :
    ∃ w', Le w w' ∧ WOk ct w' ∧ w'.st = w.st ++ [o] ∧ w'.H = upd w.H p h ∧ w'.R ct (.ref w.st.length) (.ref p) := by
  obtain ⟨le, ok'⟩ := Wd.mutNew ok hp (ob := o) (o := h) (r.mono (List.prefix_append _ _) fun _ _ h => h)
  refine ⟨_, le, ok', rfl, rfl, ?_⟩
  show Rel ct (w.m ++ [p]) _ (.ref w.st.length) (.ref p)
  unfold Rel
  exact ⟨p, rfl, by rw [← ok.len]; simp⟩
/-- what makes a new list, as a value -/
theorem JN_val {e : Expr} {f : Env → List Ob → R Ob} (h : PE X e (tN ct f)) : PE X e (tE ct fun ρ st => bnd (f ρ st) fun o st1 => ofO (obD o) fun d => .ok d st1) := by
  refine PE.imp h fun σ H Q q => ?_
  obtain ⟨w, ρ, d, st', rfl, ok, env, e, q⟩ := q
  obtain ⟨o, st1, e1, e2⟩ := bnd_of e
  obtain ⟨d', e3, e4⟩ := ofO_of e2
  cases e4
  refine ⟨w, ρ, o, _, rfl, ok, env, e1, fun w' p hh le ok' st hp r => ?_⟩
  obtain ⟨w2, le2, ok2, st2, hH, r2⟩ := new_frz ok' hp e3 r
  rw [← hH]
  exact q w2 _ (le.trans le2) ok2 (st2.trans st) r2
theorem JN_mk {e : Expr} {f : Env → List Ob → R Ob} (h : PE X e (tN ct f)) : PE X e (tE ct fun ρ st => bnd (f ρ st) fun o st1 => .ok (.ref st1.length) (st1 ++ [o])) := by
  refine PE.imp h fun σ H Q q => ?_
  obtain ⟨w, ρ, d, st', rfl, ok, env, e, q⟩ := q
  obtain ⟨o, st1, e1, e2⟩ := bnd_of e
  cases e2
  refine ⟨w, ρ, o, _, rfl, ok, env, e1, fun w' p hh le ok' st hp r => ?_⟩
  obtain ⟨w2, le2, ok2, st2, hH, r2⟩ := new_mut ok' hp r
  rw [← hH]
  exact q w2 _ (le.trans le2) ok2 (by rw [st2, st]) (by rw [st] at r2; exact r2)

/-! ### expressions -/
theorem JE_var {i : Nat} {x : Str} {pos : Pos} (hN : X.N[i]? = some x) (hv : Vis X.env.scope x) (hd : (x == ("__debug__" : Str)) = false) (hcd : (x == ("__classdict__" : Str)) = false) :
    PE X (.Name x pos) (tE ct fun ρ st => match ρ[i]? with | some (some d) => .ok d st | _ => .bad) := by
  refine PE.imp (pe_var hN hv hd hcd) fun σ H Q q => ?_
  obtain ⟨w, ρ, d, st', rfl, ok, env, e, q⟩ := q
  simp only at e
  split at e
  · rename_i d' hd'
    cases e
    obtain ⟨v, h1, h2⟩ := env.get i d hd'
    exact ⟨v, h1, q w v (Le.refl w) ok rfl h2⟩
  · cases e
theorem JE_c {e : Expr} {d : D} {v : V} (h : PE X e (tC v)) (r : ∀ m F, Rel ct m F d v) : PE X e (tE ct fun _ st => .ok d st) := by
  refine PE.imp h fun σ H Q q => ?_
  obtain ⟨w, ρ, d', st', rfl, ok, env, e, q⟩ := q
  cases e
  exact q w v (Le.refl w) ok rfl (r _ _)
/-- two operands, an operation by values -/
theorem two_imp {r : R2} {g : List Ob → D → D → Option D} (hr : ∀ x y H Q, rB ct g x y H Q → r x y H Q) {fa fb : FE} {σ : St} {H : Hp} {Q : VK}
    (q : tE ct (fun ρ st => bnd (fa ρ st) fun x st1 => bnd (fb ρ st1) fun y st2 => ofO (g st2 x y) fun z => .ok z st2) σ H Q) : tOp r (tE ct fa) (tE ct fb) σ H Q := by
  obtain ⟨w, ρ, d, st', rfl, ok, env, e, q⟩ := q
  obtain ⟨x, st1, e1, e⟩ := bnd_of e
  obtain ⟨y, st2, e2, e⟩ := bnd_of e
  obtain ⟨z, e3, e⟩ := ofO_of e
  cases e
  refine ⟨w, ρ, x, st1, rfl, ok, env, e1, fun w1 v le1 ok1 hs1 r1 => ?_⟩
  refine ⟨w1, ρ, y, st', rfl, ok1, env.le le1, by rw [hs1]; exact e2, fun w2 u le2 ok2 hs2 r2 => ?_⟩
  refine hr _ _ _ _ ⟨w2, x, y, d, rfl, ok2, Wd.R.le le2 r1, r2, by rw [hs2]; exact e3, fun w3 z' le3 ok3 hs3 r3 => ?_⟩
  exact q w3 z' (le1.trans (le2.trans le3)) ok3 (hs3.trans hs2) r3
theorem JE_bin {a b : Expr} {op : Bop} {pos : Pos} {fa fb : FE} (ha : PE X a (tE ct fa)) (hb : PE X b (tE ct fb)) :
    PE X (.BinOp a (bopP op) b pos) (tE ct fun ρ st => bnd (fa ρ st) fun x st1 => bnd (fb ρ st1) fun y st2 => ofO (opBin op st2 x y) fun z => .ok z st2) :=
  PE.imp (pe_op (snd_bin op) ha hb) fun σ H Q q => two_imp (fun _ _ _ _ h => h) q
theorem JE_neg {a : Expr} {pos : Pos} {fa : FE} (ha : PE X a (tE ct fa)) : PE X (.UnaryOp .USub a pos) (tE ct fun ρ st => bnd (fa ρ st) fun x st1 => match x with | .int i => .ok (.int (-i)) st1 | _ => .bad) := by
  refine PE.imp (pe_un un_neg ha) fun σ H Q q => ?_
  obtain ⟨w, ρ, d, st', rfl, ok, env, e, q⟩ := q
  obtain ⟨x, st1, e1, e⟩ := bnd_of e
  cases x with
  | int i =>
    cases e
    refine ⟨w, ρ, .int i, st', rfl, ok, env, e1, fun w1 v le1 ok1 hs1 r1 => ?_⟩
    exact ⟨i, rel_int r1, q w1 _ le1 ok1 hs1 of_int⟩
  | _ => cases e
theorem JE_cmp {a b : Expr} {op : Cop} {pos : Pos} {fa fb : FE} (hu : X.A.units + 65 < cLine) (hm : behindInMarks (copP op) b = false) (ha : PE X a (tE ct fa)) (hb : PE X b (tE ct fb)) :
    PE X (.Compare a [copP op] [b] pos) (tE ct fun ρ st => bnd (fa ρ st) fun x st1 => bnd (fb ρ st1) fun y st2 => ofO (opCmp op st2 x y) fun z => .ok (.bl z) st2) := by
  refine PE.imp (pe_cmpR (r := rC ct op) (snd_cmp op hu) ha hb hm) fun σ H Q q => ?_
  obtain ⟨w, ρ, d, st', rfl, ok, env, e, q⟩ := q
  obtain ⟨x, st1, e1, e⟩ := bnd_of e
  obtain ⟨y, st2, e2, e⟩ := bnd_of e
  obtain ⟨z, e3, e⟩ := ofO_of e
  cases e
  refine ⟨w, ρ, x, st1, rfl, ok, env, e1, fun w1 v le1 ok1 hs1 r1 => ?_⟩
  refine ⟨w1, ρ, y, st', rfl, ok1, env.le le1, by rw [hs1]; exact e2, fun w2 u le2 ok2 hs2 r2 => ?_⟩
  exact ⟨w2, x, y, z, rfl, ok2, Wd.R.le le2 r1, r2, by rw [hs2]; exact e3, q w2 _ (le1.trans le2) ok2 hs2 of_bl⟩
theorem JT_cmp {a b : Expr} {op : Cop} {pos : Pos} {fa fb : FE} (hu : X.A.units + 65 < cLine) (hm : behindInMarks (copP op) b = false) (ha : PE X a (tE ct fa)) (hb : PE X b (tE ct fb)) :
    PT X (.Compare a [copP op] [b] pos) (tT ct fun ρ st => bnd (fa ρ st) fun x st1 => bnd (fb ρ st1) fun y st2 => ofO (opCmp op st2 x y) fun z => .ok z st2) := by
  refine PT.imp (pt_cmpR (r := rC ct op) (snd_cmp op hu) ha hb hm) fun σ H Q q => ?_
  obtain ⟨w, ρ, d, st', rfl, ok, env, e, q⟩ := q
  obtain ⟨x, st1, e1, e⟩ := bnd_of e
  obtain ⟨y, st2, e2, e⟩ := bnd_of e
  obtain ⟨z, e3, e⟩ := ofO_of e
  cases e
  refine ⟨w, ρ, x, st1, rfl, ok, env, e1, fun w1 v le1 ok1 hs1 r1 => ?_⟩
  refine ⟨w1, ρ, y, st', rfl, ok1, env.le le1, by rw [hs1]; exact e2, fun w2 u le2 ok2 hs2 r2 => ?_⟩
  exact ⟨w2, x, y, d, rfl, ok2, Wd.R.le le2 r1, r2, by rw [hs2]; exact e3, d, rfl, q w2 (le1.trans le2) ok2 hs2⟩
end
end Ev

set_option linter.all false
set_option maxRecDepth 100000
/-! Jx: more of expressions; what is seen of the text. -/
namespace Ev
open PySem L2
/-! ### what is seen of the text -/
def noStar : Expr → Bool
  | .Starred _ _ => false
  | _ => true
theorem star_cons {e : Expr} {es : List Expr} {env : PySem.Env} (h : noStar e = true) : starEach (e :: es) env = (false, eval e env) :: starEach es env := by
  cases e <;> first | rfl | simp [noStar] at h
theorem star_any {pos : Pos} {env : PySem.Env} : ∀ {es : List Expr}, es.all noStar = true → (backTo pos (starEach es env)).any (·.1) = false
  | [], _ => rfl
  | e :: es, h => by
    rw [List.all_cons, Bool.and_eq_true] at h
    rw [star_cons h.1]
    show (false || (backTo pos (starEach es env)).any (·.1)) = false
    rw [star_any h.2]; rfl
theorem star_all {pos : Pos} {env : PySem.Env} : ∀ {es : List Expr}, es.all noStar = true → (backTo pos (starEach es env)).all (fun x => !x.1) = true
  | [], _ => rfl
  | e :: es, h => by
    rw [List.all_cons, Bool.and_eq_true] at h
    rw [star_cons h.1]
    show (!false && (backTo pos (starEach es env)).all (fun x => !x.1)) = true
    rw [star_all h.2]; rfl
def plainIx : Expr → Bool
  | .Slice _ _ none _ => false
  | _ => true
theorem plainIx_of {e : Expr} (h : plainIx e = true) : PlainIx e := fun o i => by
  unfold subscripted
  split
  · simp [plainIx] at h
  · rename_i q; cases q
  · rfl
def noSuper : Expr → Bool
  | .Call (.Name _ _) [] [] _ => false
  | _ => true
theorem base_of {o : Expr} {f : Str} {env : PySem.Env} {whole : Sem Value} (h : noSuper o = true) : attributeBase o f env whole = whole := by
  unfold attributeBase
  split
  · simp [noSuper] at h
  · rfl
def plainTest : Expr → Bool
  | .UnaryOp .Not _ _ => false
  | .BoolOp _ _ _ => false
  | .IfExp _ _ _ _ => false
  | .Compare _ _ _ _ => false
  | _ => true
theorem plainTest_of {e : Expr} {env : PySem.Env} (h : plainTest e = true) (whole : Sem Value) : isTrue e env whole = (do let v ← whole; standAt e.pos; holding [v] (truthy v)) := by
  cases e with
  | UnaryOp op x p => cases op <;> first | rfl | simp [plainTest] at h
  | _ => first | rfl | simp [plainTest] at h
section
variable {ct : Nat → Option Addr} {X : Cx}
/-! ### and, or, not, if -/
theorem JE_and {a b : Expr} {rest : List Expr} {pos : Pos} {fa fb : FE} (ha : PE X a (tE ct fa)) (hb : PE X (.BoolOp .And (b :: rest) pos) (tE ct fb)) :
    PE X (.BoolOp .And (a :: b :: rest) pos) (tE ct fun ρ st => bnd (fa ρ st) fun x st1 => ofO (truth st1 x) fun t => match t with | true => fb ρ st1 | false => .ok x st1) := by
  refine ⟨fun pins s σ H Q I q => ?_⟩
  obtain ⟨w, ρ, d, st', rfl, ok, env, e, q⟩ := q
  obtain ⟨x, st1, e1, e⟩ := bnd_of e
  obtain ⟨t, e2, e⟩ := ofO_of e
  refine PyProof.Rows.BoolOp_and (thn (ha.run pins s σ w.H (fun v H1 => ∃ w', Le w w' ∧ WOk ct w' ∧ w'.st = st1 ∧ w'.R ct x v ∧ w'.H = H1) I ⟨w, ρ, x, st1, rfl, ok, env, e1, fun w' v le ok' hs r => ⟨w', le, ok', hs, r, rfl⟩⟩) fun v s1 ⟨y, H1, I1, r1, w', le, ok', hs, r, hH⟩ => ?_)
  subst hH
  refine thn (tru_ok pins s1 σ w'.H y v (fun b H2 => b = t ∧ H2 = w'.H) I1 r1 ⟨t, snd_truth ok' (by rw [hs]; exact e2) r, rfl, rfl⟩) fun b s2 ⟨H2, I2, hb', hH2⟩ => ?_
  subst hb' hH2
  cases b with
  | true => exact hb.run pins s2 σ w'.H Q I2 ⟨w', ρ, d, st', rfl, ok', env.le le, by rw [hs]; exact e, fun w2 u le2 ok2 hs2 r2 => q w2 u (le.trans le2) ok2 hs2 r2⟩
  | false => cases e; exact ⟨y, w'.H, I2, r1, q w' y le ok' hs r⟩
theorem JE_or {a b : Expr} {rest : List Expr} {pos : Pos} {fa fb : FE} (ha : PE X a (tE ct fa)) (hb : PE X (.BoolOp .Or (b :: rest) pos) (tE ct fb)) :
    PE X (.BoolOp .Or (a :: b :: rest) pos) (tE ct fun ρ st => bnd (fa ρ st) fun x st1 => ofO (truth st1 x) fun t => match t with | true => .ok x st1 | false => fb ρ st1) := by
  refine ⟨fun pins s σ H Q I q => ?_⟩
  obtain ⟨w, ρ, d, st', rfl, ok, env, e, q⟩ := q
  obtain ⟨x, st1, e1, e⟩ := bnd_of e
  obtain ⟨t, e2, e⟩ := ofO_of e
  refine PyProof.Rows.BoolOp_or (thn (ha.run pins s σ w.H (fun v H1 => ∃ w', Le w w' ∧ WOk ct w' ∧ w'.st = st1 ∧ w'.R ct x v ∧ w'.H = H1) I ⟨w, ρ, x, st1, rfl, ok, env, e1, fun w' v le ok' hs r => ⟨w', le, ok', hs, r, rfl⟩⟩) fun v s1 ⟨y, H1, I1, r1, w', le, ok', hs, r, hH⟩ => ?_)
  subst hH
  refine thn (tru_ok pins s1 σ w'.H y v (fun b H2 => b = t ∧ H2 = w'.H) I1 r1 ⟨t, snd_truth ok' (by rw [hs]; exact e2) r, rfl, rfl⟩) fun b s2 ⟨H2, I2, hb', hH2⟩ => ?_
  subst hb' hH2
  cases b with
  | false => exact hb.run pins s2 σ w'.H Q I2 ⟨w', ρ, d, st', rfl, ok', env.le le, by rw [hs]; exact e, fun w2 u le2 ok2 hs2 r2 => q w2 u (le.trans le2) ok2 hs2 r2⟩
  | true => cases e; exact ⟨y, w'.H, I2, r1, q w' y le ok' hs r⟩
theorem JE_not {a : Expr} {pos : Pos} {fa : FE} (ha : PE X a (tE ct fa)) :
    PE X (.UnaryOp .Not a pos) (tE ct fun ρ st => bnd (fa ρ st) fun x st1 => ofO (truth st1 x) fun t => .ok (.bl (!t)) st1) := by
  refine ⟨fun pins s σ H Q I q => ?_⟩
  obtain ⟨w, ρ, d, st', rfl, ok, env, e, q⟩ := q
  obtain ⟨x, st1, e1, e⟩ := bnd_of e
  obtain ⟨t, e2, e⟩ := ofO_of e
  cases e
  refine PyProof.Rows.UnaryOp_ (thn (ha.run pins s σ w.H (fun v H1 => ∃ w', Le w w' ∧ WOk ct w' ∧ w'.st = st' ∧ w'.R ct x v ∧ w'.H = H1) I ⟨w, ρ, x, st', rfl, ok, env, e1, fun w' v le ok' hs r => ⟨w', le, ok', hs, r, rfl⟩⟩) fun v s1 ⟨y, H1, I1, r1, w', le, ok', hs, r, hH⟩ => ?_)
  subst hH
  refine PyProof.Rows.not_of (thn (tru_ok pins s1 σ w'.H y v (fun b H2 => b = t ∧ H2 = w'.H) I1 r1 ⟨t, snd_truth ok' (by rw [hs]; exact e2) r, rfl, rfl⟩) fun b s2 ⟨H2, I2, hb', hH2⟩ => ?_)
  subst hb' hH2
  exact ⟨.bl (!b), w'.H, I2, rfl, q w' _ le ok' hs of_bl⟩
theorem JE_if {c a b : Expr} {pos : Pos} {ft : FT} {fa fb : FE} (hc : PT X c (tT ct ft)) (ha : PE X a (tE ct fa)) (hb : PE X b (tE ct fb)) :
    PE X (.IfExp c a b pos) (tE ct fun ρ st => bnd (ft ρ st) fun v st1 => match v with | true => fa ρ st1 | false => fb ρ st1) := by
  refine PE.imp (pe_ifExp hc ha hb) fun σ H Q q => ?_
  obtain ⟨w, ρ, d, st', rfl, ok, env, e, q⟩ := q
  obtain ⟨t, st1, e1, e⟩ := bnd_of e
  refine ⟨w, ρ, t, st1, rfl, ok, env, e1, fun w1 le1 ok1 hs1 => ?_⟩
  cases t with
  | true => exact ⟨w1, ρ, d, st', rfl, ok1, env.le le1, by rw [hs1]; exact e, fun w2 v le2 ok2 hs2 r2 => q w2 v (le1.trans le2) ok2 hs2 r2⟩
  | false => exact ⟨w1, ρ, d, st', rfl, ok1, env.le le1, by rw [hs1]; exact e, fun w2 v le2 ok2 hs2 r2 => q w2 v (le1.trans le2) ok2 hs2 r2⟩
/-! ### tests -/
theorem JT_val {a : Expr} {fa : FE} (ha : PE X a (tE ct fa)) (hp : plainTest a = true) : PT X a (tT ct fun ρ st => bnd (fa ρ st) fun x st1 => ofO (truth st1 x) fun b => .ok b st1) := by
  refine PT.imp (pt_truth ha (plainTest_of hp)) fun σ H Q q => ?_
  obtain ⟨w, ρ, d, st', rfl, ok, env, e, q⟩ := q
  obtain ⟨x, st1, e1, e⟩ := bnd_of e
  obtain ⟨t, e2, e⟩ := ofO_of e
  cases e
  exact ⟨w, ρ, x, st', rfl, ok, env, e1, fun w1 v le1 ok1 hs1 r1 => ⟨d, snd_truth ok1 (by rw [hs1]; exact e2) r1, q w1 le1 ok1 hs1⟩⟩
theorem JT_not {a : Expr} {pos : Pos} {fa : FT} (ha : PT X a (tT ct fa)) : PT X (.UnaryOp .Not a pos) (tT ct fun ρ st => bnd (fa ρ st) fun b st1 => .ok (!b) st1) := by
  refine PT.imp (pt_not ha) fun σ H Q q => ?_
  obtain ⟨w, ρ, d, st', rfl, ok, env, e, q⟩ := q
  obtain ⟨x, st1, e1, e⟩ := bnd_of e
  cases e
  exact ⟨w, ρ, x, st', rfl, ok, env, e1, fun w1 le1 ok1 hs1 => q w1 le1 ok1 hs1⟩
theorem JW_and {a b : Expr} {rest : List Expr} {pos : Pos} {fa fb : FT} (ha : PT X a (tT ct fa)) (hb : PW X (.BoolOp .And (b :: rest) pos) (tT ct fb)) :
    PW X (.BoolOp .And (a :: b :: rest) pos) (tT ct fun ρ st => bnd (fa ρ st) fun t st1 => match t with | true => fb ρ st1 | false => .ok false st1) := by
  refine PW.imp (pw_and ha hb) fun σ H Q q => ?_
  obtain ⟨w, ρ, d, st', rfl, ok, env, e, q⟩ := q
  obtain ⟨x, st1, e1, e⟩ := bnd_of e
  refine ⟨w, ρ, x, st1, rfl, ok, env, e1, fun w1 le1 ok1 hs1 => ?_⟩
  cases x with
  | true => exact ⟨w1, ρ, d, st', rfl, ok1, env.le le1, by rw [hs1]; exact e, fun w2 le2 ok2 hs2 => q w2 (le1.trans le2) ok2 hs2⟩
  | false => cases e; exact q w1 le1 ok1 hs1
theorem JW_or {a b : Expr} {rest : List Expr} {pos : Pos} {fa fb : FT} (ha : PT X a (tT ct fa)) (hb : PW X (.BoolOp .Or (b :: rest) pos) (tT ct fb)) :
    PW X (.BoolOp .Or (a :: b :: rest) pos) (tT ct fun ρ st => bnd (fa ρ st) fun t st1 => match t with | true => .ok true st1 | false => fb ρ st1) := by
  refine PW.imp (pw_or ha hb) fun σ H Q q => ?_
  obtain ⟨w, ρ, d, st', rfl, ok, env, e, q⟩ := q
  obtain ⟨x, st1, e1, e⟩ := bnd_of e
  refine ⟨w, ρ, x, st1, rfl, ok, env, e1, fun w1 le1 ok1 hs1 => ?_⟩
  cases x with
  | false => exact ⟨w1, ρ, d, st', rfl, ok1, env.le le1, by rw [hs1]; exact e, fun w2 le2 ok2 hs2 => q w2 (le1.trans le2) ok2 hs2⟩
  | true => cases e; exact q w1 le1 ok1 hs1
/-! ### lists of arguments, displays -/
theorem JA_nil : PA X [] (tAs ct fun _ st => .ok [] st) := by
  refine PA.imp pa_nil fun σ H Q q => ?_
  obtain ⟨w, ρ, d, st', rfl, ok, env, e, q⟩ := q
  cases e
  exact q w [] (Le.refl w) ok rfl Rels.nil
theorem JA_cons {e : Expr} {es : List Expr} {fa : FE} {fs : FA} (ha : PE X e (tE ct fa)) (hs : PA X es (tAs ct fs)) (h : noStar e = true) :
    PA X (e :: es) (tAs ct fun ρ st => bnd (fa ρ st) fun x st1 => bnd (fs ρ st1) fun l st2 => .ok (x :: l) st2) := by
  refine PA.imp (pa_cons ha hs (star_cons h)) fun σ H Q q => ?_
  obtain ⟨w, ρ, d, st', rfl, ok, env, e, q⟩ := q
  obtain ⟨x, st1, e1, e⟩ := bnd_of e
  obtain ⟨l, st2, e2, e⟩ := bnd_of e
  cases e
  refine ⟨w, ρ, x, st1, rfl, ok, env, e1, fun w1 v le1 ok1 hs1 r1 => ?_⟩
  exact ⟨w1, ρ, l, st', rfl, ok1, env.le le1, by rw [hs1]; exact e2, fun w2 vs le2 ok2 hs2 r2 => q w2 (v :: vs) (le1.trans le2) ok2 hs2 (Rels.cons (Wd.R.le le2 r1) r2)⟩
theorem JE_tup {es : List Expr} {k : Nat} {pos : Pos} {fs : FA} (hs : PA X es (tAs ct fs)) : PE X (.Tuple es k pos) (tE ct fun ρ st => bnd (fs ρ st) fun l st1 => chk (decide (l.length ≤ szL)) (.ok (.tup l) st1)) := by
  refine PE.imp (pe_tup hs) fun σ H Q q => ?_
  obtain ⟨w, ρ, d, st', rfl, ok, env, e, q⟩ := q
  obtain ⟨l, st1, e1, e⟩ := bnd_of e
  obtain ⟨hc, e⟩ := chk_of e
  cases e
  refine ⟨w, ρ, l, st', rfl, ok, env, e1, fun w1 vs le1 ok1 hs1 r1 => ⟨by rw [szL_eq, ← r1.length]; exact of_decide_eq_true hc, fun p hp => ?_⟩⟩
  obtain ⟨w', le, ok', st, hH, r'⟩ := tup_new ok1 hp r1
  rw [← hH]
  exact q w' _ (le1.trans le) ok' (st.trans hs1) r'
theorem JN_lst {es : List Expr} {pos : Pos} {fs : FA} (hs : PA X es (tAs ct fs)) : PE X (.List es pos) (tN ct fun ρ st => bnd (fs ρ st) fun l st1 => chk (decide (l.length ≤ szL)) (.ok (.lst l) st1)) := by
  refine PE.imp (pe_lst hs) fun σ H Q q => ?_
  obtain ⟨w, ρ, d, st', rfl, ok, env, e, q⟩ := q
  obtain ⟨l, st1, e1, e⟩ := bnd_of e
  obtain ⟨hc, e⟩ := chk_of e
  cases e
  exact ⟨w, ρ, l, st', rfl, ok, env, e1, fun w1 vs le1 ok1 hs1 r1 => ⟨by rw [szL_eq, ← r1.length]; exact of_decide_eq_true hc, fun p hp => q w1 p _ le1 ok1 hs1 hp ⟨vs, rfl, r1⟩⟩⟩
theorem JN_dnew {tk : Bool} {pos : Pos} : PE X (.Dict [] [] pos) (tN ct fun _ st => .ok (.dct tk [] []) st) := by
  cases tk with
  | false =>
    refine PE.imp pe_dnewK fun σ H Q q => ?_
    obtain ⟨w, ρ, d, st', rfl, ok, env, e, q⟩ := q
    cases e
    exact fun p hp => q w p _ (Le.refl w) ok rfl hp (.inl ⟨[], rfl, rfl, rfl, Rels.nil⟩)
  | true =>
    refine PE.imp pe_dnewT fun σ H Q q => ?_
    obtain ⟨w, ρ, d, st', rfl, ok, env, e, q⟩ := q
    cases e
    exact fun p hp => q w p _ (Le.refl w) ok rfl hp (.inr ⟨[], rfl, rfl, rfl, Rels.nil⟩)
/-! ### subscripts, slices, fields -/
theorem JE_ix {a b : Expr} {pos : Pos} {fa fb : FE} (hu : X.A.units + 65 < cLine) (hp : plainIx b = true) (ha : PE X a (tE ct fa)) (hb : PE X b (tE ct fb)) :
    PE X (.Subscript a b pos) (tE ct fun ρ st => bnd (fa ρ st) fun x st1 => bnd (fb ρ st1) fun y st2 => ofO (opIx st2 x y) fun z => .ok z st2) :=
  PE.imp (pe_ix (snd_ix (ct := ct) hu) ha hb (plainIx_of hp)) fun σ H Q q => two_imp (fun _ _ _ _ h => h) q
theorem JO_none : PO X none (tPo ct fun _ st => .ok none st) := by
  refine PO.imp po_none fun σ H Q q => ?_
  obtain ⟨w, ρ, d, st', rfl, ok, env, e, q⟩ := q
  cases e
  exact q w (Le.refl w) ok rfl
theorem JO_some {e : Expr} {fa : FE} (ha : PE X e (tE ct fa)) : PO X (some e) (tPo ct fun ρ st => bnd (fa ρ st) fun x st1 => match x with | .int i => .ok (some i) st1 | _ => .bad) := by
  refine PO.imp (po_some ha) fun σ H Q q => ?_
  obtain ⟨w, ρ, d, st', rfl, ok, env, e, q⟩ := q
  obtain ⟨x, st1, e1, e⟩ := bnd_of e
  cases x with
  | int i =>
    cases e
    exact ⟨w, ρ, .int i, st', rfl, ok, env, e1, fun w1 v le1 ok1 hs1 r1 => ⟨i, rel_int r1, q w1 le1 ok1 hs1⟩⟩
  | _ => cases e
theorem JE_sl {a : Expr} {lo hi : Option Expr} {pos p2 : Pos} {fa : FE} {fl fh : Env → List Ob → R (Option Int)} (ha : PE X a (tE ct fa)) (hl : PO X lo (tPo ct fl)) (hh : PO X hi (tPo ct fh)) :
    PE X (.Subscript a (.Slice lo hi none p2) pos) (tE ct fun ρ st => bnd (fa ρ st) fun x st1 => bnd (fl ρ st1) fun l st2 => bnd (fh ρ st2) fun h st3 => ofO (opSl st3 x l h) fun z => .ok z st3) := by
  refine PE.imp (pe_slice (snd_sl (ct := ct)) ha hl hh) fun σ H Q q => ?_
  obtain ⟨w, ρ, d, st', rfl, ok, env, e, q⟩ := q
  obtain ⟨x, st1, e1, e⟩ := bnd_of e
  obtain ⟨l, st2, e2, e⟩ := bnd_of e
  obtain ⟨h, st3, e3, e⟩ := bnd_of e
  obtain ⟨z, e4, e⟩ := ofO_of e
  cases e
  refine ⟨w, ρ, x, st1, rfl, ok, env, e1, fun w1 v le1 ok1 hs1 r1 => ?_⟩
  refine ⟨w1, ρ, l, st2, rfl, ok1, env.le le1, by rw [hs1]; exact e2, fun w2 le2 ok2 hs2 => ?_⟩
  refine ⟨w2, ρ, h, st', rfl, ok2, env.le (le1.trans le2), by rw [hs2]; exact e3, fun w3 le3 ok3 hs3 => ?_⟩
  exact ⟨w3, x, d, rfl, ok3, Wd.R.le (le2.trans le3) r1, by rw [hs3]; exact e4, fun w4 u le4 ok4 hs4 r4 => q w4 u (le1.trans (le2.trans (le3.trans le4))) ok4 (hs4.trans hs3) r4⟩
/-! ### built-in functions -/
theorem JE_cb {r : List V → Hp → VK → Prop} {g : List Ob → List D → Option D} (hr : ∀ vs H Q, rL ct g vs H Q → r vs H Q) {fs : FA} {σ : L2.St} {H : Hp} {Q : VK}
    (q : tE ct (fun ρ st => bnd (fs ρ st) fun l st1 => ofO (g st1 l) fun z => .ok z st1) σ H Q) : tCB r (tAs ct fs) σ H Q := by
  obtain ⟨w, ρ, d, st', rfl, ok, env, e, q⟩ := q
  obtain ⟨l, st1, e1, e⟩ := bnd_of e
  obtain ⟨z, e2, e⟩ := ofO_of e
  cases e
  refine ⟨w, ρ, l, st', rfl, ok, env, e1, fun w1 vs le1 ok1 hs1 r1 => ?_⟩
  exact hr _ _ _ ⟨w1, l, d, rfl, ok1, r1, by rw [hs1]; exact e2, fun w2 u le2 ok2 hs2 r2 => q w2 u (le1.trans le2) ok2 (hs2.trans hs1) r2⟩
theorem JE_callB {x : Str} {id : String} {p pos : Pos} {e : Expr} {es : List Expr} {g : List Ob → List D → Option D} {fs : FA} (hc : CallR X (.builtin id) (rL ct g)) (hg : Gl X x) (hm : X.mg x = none) (hv : bootBuiltins x = some (.builtin id)) (ha : PA X (e :: es) (tAs ct fs))
    (hn : x ≠ "__name__") (hd : (x == ("__debug__" : Str)) = false) (hs : (e :: es).all noStar = true) :
    PE X (.Call (.Name x p) (e :: es) [] pos) (tE ct fun ρ st => bnd (fs ρ st) fun l st1 => ofO (g st1 l) fun z => .ok z st1) := by
  rw [List.all_cons, Bool.and_eq_true] at hs
  exact PE.imp (pe_callB hc hg hm hv ha hn hd (star_cons hs.1) (star_any hs.2)) fun σ H Q q => JE_cb (fun _ _ _ h => h) q
theorem JE_callTy {x : Str} {T : String} {p pos : Pos} {e : Expr} {es : List Expr} {g : List Ob → List D → Option D} {fs : FA} (hc : CallR X (.type T) (rL ct g)) (hg : Gl X x) (hm : X.mg x = none) (hv : bootBuiltins x = some (.type T)) (ha : PA X (e :: es) (tAs ct fs))
    (hn : x ≠ "__name__") (hd : (x == ("__debug__" : Str)) = false) (hs : (e :: es).all noStar = true) :
    PE X (.Call (.Name x p) (e :: es) [] pos) (tE ct fun ρ st => bnd (fs ρ st) fun l st1 => ofO (g st1 l) fun z => .ok z st1) := by
  rw [List.all_cons, Bool.and_eq_true] at hs
  exact PE.imp (pe_callTy hc hg hm hv ha hn hd (star_cons hs.1) (star_any hs.2)) fun σ H Q q => JE_cb (fun _ _ _ h => h) q
end
end Ev

set_option linter.all false
set_option maxRecDepth 100000
/-! Ji: what is walked; fields, isinstance, methods of built-in types. -/
namespace Ev
open PySem L2 RT RZ
section
variable {ct : Nat → Option Addr} {X : Cx}
/-- data stay data -/
structure Lf (w w' : Wd) : Prop where
  pre : w.m <+: w'.m
  fr : ∀ a o, w.F a = some o → w'.F a = some o
theorem Le.lf {w w' : Wd} (l : Le w w') : Lf w w' := ⟨l.pre, l.fr⟩
theorem Lf.trans {a b c : Wd} (l : Lf a b) (l' : Lf b c) : Lf a c := ⟨l.pre.trans l'.pre, fun x o h => l'.fr x o (l.fr x o h)⟩
theorem Lf.refl (w : Wd) : Lf w w := ⟨List.prefix_refl _, fun _ _ h => h⟩
theorem Lf.R {w w' : Wd} (l : Lf w w') {d : D} {v : V} (r : w.R ct d v) : w'.R ct d v := Rel.mono l.pre l.fr d r
/-- J yields the items, one after another -/
structure ItOk (ct : Nat → Option Addr) (w : Wd) (J : It) (items : List D) : Prop where
  go : ∀ i w', i < items.length → Lf w w' → WOk ct w' → J.go i w'.H
  stop : ∀ w', Lf w w' → WOk ct w' → J.stop items.length w'.H
  yld : ∀ i d w' x H', items[i]? = some d → Lf w w' → WOk ct w' → J.yld i w'.H x H' → ∃ w2, Le w' w2 ∧ WOk ct w2 ∧ w2.st = w'.st ∧ w2.H = H' ∧ w2.R ct d x
def tI (ct : Nat → Option Addr) (f : Env → List Ob → R (List D)) : TI := fun σ H R => ∃ w ρ items st', w.H = H ∧ WOk ct w ∧ EnvR ct w ρ σ ∧ f ρ w.st = .ok items st' ∧ ∀ w' J, Le w w' → WOk ct w' → w'.st = st' → ItOk ct w' J items → R J w'.H
theorem PI.imp {tg e : Expr} {t t' : TI} (h : PI X tg e t) (i : ∀ σ H R, t' σ H R → t σ H R) : PI X tg e t' := ⟨fun pins s σ H R I q => h.run pins s σ H R I (i σ H R q)⟩
/-- a list that changes no more -/
theorem it_list {K : PySem.W.Frag} {w : Wd} {a : Addr} {l : List D} {vs : List V} (hF : Rd w.F a (.lst vs)) (r : w.Rs ct l vs) : ItOk ct w (Itl K a) l := by
  have key : ∀ w', Lf w w' → WOk ct w' → SqL K w'.H a vs := fun w' le ok' => .inl (rd_fr ok'.sub (rd_fr le.fr hF))
  refine ⟨fun i w' hi le ok' => ?_, fun w' le ok' => ⟨vs, key w' le ok', by rw [r.length]; exact Nat.le_refl _⟩, fun i d w' x H' hd le ok' y => ?_⟩
  · obtain ⟨v, h1, h2⟩ := Rels.get r (List.getElem?_eq_getElem hi)
    exact ⟨vs, v, key w' le ok', h1⟩
  · obtain ⟨rfl, y⟩ := y
    obtain ⟨v, h1, h2⟩ := Rels.get r hd
    have := y vs (key w' le ok')
    rw [h1] at this; cases this
    exact ⟨w', Le.refl _, ok', rfl, rfl, le.R h2⟩
theorem it_tup {K : PySem.W.Frag} {w : Wd} {a : Addr} {l : List D} {vs : List V} (hF : w.F a = some (.tup vs)) (r : w.Rs ct l vs) : ItOk ct w (Itt K a) l := by
  have key : ∀ w', Lf w w' → WOk ct w' → SqT K w'.H a vs := fun w' le ok' => .inl (.inl (ok'.sub _ _ (le.fr _ _ hF)))
  refine ⟨fun i w' hi le ok' => ?_, fun w' le ok' => ⟨vs, key w' le ok', by rw [r.length]; exact Nat.le_refl _⟩, fun i d w' x H' hd le ok' y => ?_⟩
  · obtain ⟨v, h1, h2⟩ := Rels.get r (List.getElem?_eq_getElem hi)
    exact ⟨vs, v, key w' le ok', h1⟩
  · obtain ⟨rfl, y⟩ := y
    obtain ⟨v, h1, h2⟩ := Rels.get r hd
    have := y vs (key w' le ok')
    rw [h1] at this; cases this
    exact ⟨w', Le.refl _, ok', rfl, rfl, le.R h2⟩
theorem it_range {w : Wd} {lo : Int} {n : Nat} : ItOk ct w (Itr lo n) ((List.range n).map fun (k : Nat) => D.int (lo + k)) := by
  refine ⟨fun i w' hi le ok' => by show i < n; simpa using hi, fun w' le ok' => by show n ≤ _; simp, fun i d w' x H' hd le ok' y => ?_⟩
  obtain ⟨rfl, rfl⟩ := y
  simp only [List.getElem?_map, Option.map_eq_some_iff] at hd
  obtain ⟨k, hk, rfl⟩ := hd
  obtain ⟨h1, h2⟩ := List.getElem?_eq_some_iff.mp hk
  rw [List.getElem_range] at h2
  subst h2
  exact ⟨w', Le.refl _, ok', rfl, rfl, of_int⟩
theorem rev_at {α : Type} (l : List α) (i : Nat) (h : i < l.length) : l.reverse[i]? = l[l.length - 1 - i]? := by
  rw [List.getElem?_reverse h]
theorem it_rev {K : PySem.W.Frag} {w : Wd} {a : Addr} {l : List D} {vs : List V} (hF : Rd w.F a (.lst vs)) (r : w.Rs ct l vs) : ItOk ct w (Itv K a vs.length) l.reverse := by
  have key : ∀ w', Lf w w' → WOk ct w' → SqL K w'.H a vs := fun w' le ok' => .inl (rd_fr ok'.sub (rd_fr le.fr hF))
  have hl := r.length
  refine ⟨fun i w' hi le ok' => ?_, fun w' le ok' => ?_, fun i d w' x H' hd le ok' y => ?_⟩
  · rw [List.length_reverse] at hi
    obtain ⟨v, h1, h2⟩ := Rels.get r (List.getElem?_eq_getElem (show l.length - 1 - i < l.length by omega))
    exact ⟨by omega, vs, v, key w' le ok', by rw [← hl]; exact h1⟩
  · show vs.length ≤ l.reverse.length
    rw [List.length_reverse]; omega
  · obtain ⟨rfl, y⟩ := y
    have hi : i < l.length := by
      have := (List.getElem?_eq_some_iff.mp hd).1
      simpa using this
    rw [rev_at l i hi] at hd
    obtain ⟨v, h1, h2⟩ := Rels.get r hd
    have := y vs (key w' le ok')
    rw [← hl, h1] at this; cases this
    exact ⟨w', Le.refl _, ok', rfl, rfl, le.R h2⟩
theorem it_revT {K : PySem.W.Frag} {w : Wd} {a : Addr} {l : List D} {vs : List V} (hF : w.F a = some (.tup vs)) (r : w.Rs ct l vs) : ItOk ct w (ItvT K a vs.length) l.reverse := by
  have key : ∀ w', Lf w w' → WOk ct w' → SqT K w'.H a vs := fun w' le ok' => .inl (.inl (ok'.sub _ _ (le.fr _ _ hF)))
  have hl := r.length
  refine ⟨fun i w' hi le ok' => ?_, fun w' le ok' => ?_, fun i d w' x H' hd le ok' y => ?_⟩
  · rw [List.length_reverse] at hi
    obtain ⟨v, h1, h2⟩ := Rels.get r (List.getElem?_eq_getElem (show l.length - 1 - i < l.length by omega))
    exact ⟨by omega, vs, v, key w' le ok', by rw [← hl]; exact h1⟩
  · show vs.length ≤ l.reverse.length
    rw [List.length_reverse]; omega
  · obtain ⟨rfl, y⟩ := y
    have hi : i < l.length := by
      have := (List.getElem?_eq_some_iff.mp hd).1
      simpa using this
    rw [rev_at l i hi] at hd
    obtain ⟨v, h1, h2⟩ := Rels.get r hd
    have := y vs (key w' le ok')
    rw [← hl, h1] at this; cases this
    exact ⟨w', Le.refl _, ok', rfl, rfl, le.R h2⟩
theorem enum_at : ∀ (l : List D) (j i : Nat), (enumD j l)[i]? = (l[i]?).map fun d => D.tup [.int ((j + i : Nat)), d]
  | [], _, _ => by simp [enumD]
  | d :: l, j, 0 => by simp [enumD]
  | d :: l, j, i + 1 => by
    simp only [enumD, List.getElem?_cons_succ]
    rw [enum_at l (j + 1) i]
    congr 1; funext d; congr 4; omega
theorem enum_len : ∀ (l : List D) (j : Nat), (enumD j l).length = l.length
  | [], _ => rfl
  | d :: l, j => by simp [enumD, enum_len l (j + 1)]
theorem it_enum {K : PySem.W.Frag} {w : Wd} {a : Addr} {l : List D} {vs : List V} (hF : Rd w.F a (.lst vs)) (r : w.Rs ct l vs) : ItOk ct w (Ite K a) (enumD 0 l) := by
  have key : ∀ w', Lf w w' → WOk ct w' → SqL K w'.H a vs := fun w' le ok' => .inl (rd_fr ok'.sub (rd_fr le.fr hF))
  refine ⟨fun i w' hi le ok' => ?_, fun w' le ok' => ⟨vs, key w' le ok', by rw [enum_len, r.length]; exact Nat.le_refl _⟩, fun i d w' x H' hd le ok' y => ?_⟩
  · rw [enum_len] at hi
    obtain ⟨v, h1, h2⟩ := Rels.get r (List.getElem?_eq_getElem hi)
    exact ⟨vs, v, key w' le ok', h1⟩
  · obtain ⟨T, z, rfl, hT, rfl, y⟩ := y
    rw [enum_at, Option.map_eq_some_iff] at hd
    obtain ⟨d', hd', rfl⟩ := hd
    obtain ⟨v, h1, h2⟩ := Rels.get r hd'
    have h9 := y vs (key w' le ok')
    rw [h1] at h9
    obtain rfl : v = z := Option.some.inj h9
    obtain ⟨w2, l2, o2, s2, h3, r2⟩ := tup_new ok' hT (l := [.int ((0 + i : Nat)), d']) (vs := [.int (i : Nat), v]) (Rels.cons (by rw [Nat.zero_add]; exact of_int) (Rels.cons (le.R h2) Rels.nil))
    exact ⟨w2, l2, o2, s2, h3, r2⟩
theorem zip_at : ∀ (l m : List D) (i : Nat), (zipD l m)[i]? = match l[i]?, m[i]? with | some a, some b => some (.tup [a, b]) | _, _ => none
  | [], m, i => by simp [zipD]
  | a :: l, [], i => by
    simp only [zipD, List.getElem?_nil]
    cases (a :: l)[i]? <;> rfl
  | a :: l, b :: m, 0 => by simp [zipD]
  | a :: l, b :: m, i + 1 => by simp only [zipD, List.getElem?_cons_succ]; exact zip_at l m i
theorem zip_len : ∀ (l m : List D), (zipD l m).length = min l.length m.length
  | [], m => by simp [zipD]
  | a :: l, [] => by simp [zipD]
  | a :: l, b :: m => by simp [zipD, zip_len l m]
theorem it_zip {w : Wd} {J : It} {l m : List D} {vs us : List V} (r : w.Rs ct l vs) (r' : w.Rs ct m us)
    (hgo : ∀ i w' x y, Lf w w' → WOk ct w' → vs[i]? = some x → us[i]? = some y → J.go i w'.H) (hst : ∀ i w', Lf w w' → WOk ct w' → vs.length ≤ i ∨ us.length ≤ i → J.stop i w'.H)
    (hy : ∀ i w' x H', Lf w w' → WOk ct w' → J.yld i w'.H x H' → ∃ T x' y', x = .ref T ∧ w'.H T = none ∧ H' = upd w'.H T (.tup [x', y']) ∧ vs[i]? = some x' ∧ us[i]? = some y') : ItOk ct w J (zipD l m) := by
  refine ⟨fun i w' hi le ok' => ?_, fun w' le ok' => hst _ _ le ok' (by rw [zip_len, r.length, r'.length]; omega), fun i d w' x H' hd le ok' y => ?_⟩
  · rw [zip_len] at hi
    obtain ⟨v, h1, _⟩ := Rels.get r (List.getElem?_eq_getElem (show i < l.length by omega))
    obtain ⟨u, h2, _⟩ := Rels.get r' (List.getElem?_eq_getElem (show i < m.length by omega))
    exact hgo i w' v u le ok' h1 h2
  · obtain ⟨T, x', y', rfl, hT, rfl, h1, h2⟩ := hy i w' x H' le ok' y
    obtain ⟨a, ha, ra⟩ := Rels.get' r h1
    obtain ⟨b, hb, rb⟩ := Rels.get' r' h2
    rw [zip_at, ha, hb] at hd
    cases hd
    obtain ⟨w2, l2, o2, s2, h3, r2⟩ := tup_new ok' hT (l := [a, b]) (vs := [x', y']) (Rels.cons (le.R ra) (Rels.cons (le.R rb) Rels.nil))
    exact ⟨w2, l2, o2, s2, h3, r2⟩

/-! ### the rules -/
/-- an expression that gives a list or a tuple, walked -/
def iSeq (K : PySem.W.Frag) (tl : TE) : TI := fun σ H R => tl σ H fun x H1 => ∃ a xs, x = .ref a ∧ ((SqL K H1 a xs ∧ R (Itl K a) H1) ∨ (SqT K H1 a xs ∧ R (Itt K a) H1))
theorem pi_seq {tg l : Expr} {tl : TE} (hl : PE X l tl) : PI X tg l (iSeq X.K tl) := by
  constructor
  intro pins s σ H R I h
  apply thn (hl.run pins s σ H _ I h)
  intro v s1 hv
  obtain ⟨x, H1, I1, r1, a, xs, ex, q⟩ := hv
  subst ex
  obtain rfl : v = Value.ref a := r1
  have fr : ∀ b ∈ [s1.heap.objs.size], FpOk X pins H1 b := by
    intro b hb
    obtain rfl := List.mem_singleton.mp hb
    exact I1.fpOk (Nat.le_refl _) (I1.hok.fresh (Nat.le_refl _))
  rcases q with ⟨hq, q⟩ | ⟨hq, q⟩
  · obtain ⟨its, rv, pl, _⟩ := I1.list hq
    apply wpAny_pyIter_list pl.isList
    exact ⟨_, [s1.heap.objs.size], _, Itl X.K a, H1, rfl, I1.kept (t' := s1.toks) (fun b o e => Heap.get?_push_of_some _ e), turn_list a _, ⟨_, Heap.get?_push_size _ rfl, rfl, rfl⟩, fr, q⟩
  · obtain ⟨its, rv, pl, _⟩ := I1.tuple hq
    apply wpAny_pyIter_tuple (show s1.heap.IsTuple a its.toArray from pl)
    exact ⟨_, [s1.heap.objs.size], _, Itt X.K a, H1, rfl, I1.kept (t' := s1.toks) (fun b o e => Heap.get?_push_of_some _ e), turn_tuple a _, ⟨_, Heap.get?_push_size _ rfl, rfl, rfl⟩, fr, q⟩
theorem lst_F {w : Wd} {l : List D} {v : V} (r : w.R ct (.lst l) v) : ∃ a vs, v = .ref a ∧ Rd w.F a (.lst vs) ∧ w.Rs ct l vs := by
  have r : Rel ct w.m w.F (.lst l) v := r
  unfold Rel at r
  exact r
theorem tup_F {w : Wd} {l : List D} {v : V} (r : w.R ct (.tup l) v) : ∃ a vs, v = .ref a ∧ w.F a = some (.tup vs) ∧ w.Rs ct l vs := by
  have r : Rel ct w.m w.F (.tup l) v := r
  unfold Rel at r
  exact r
theorem JI_over {tg e : Expr} {fa : FE} (ha : PE X e (tE ct fa)) : PI X tg e (tI ct fun ρ st => bnd (fa ρ st) fun x st1 => match x with | .lst l => .ok l st1 | .tup l => .ok l st1 | _ => .bad) := by
  refine PI.imp (pi_seq ha) fun σ H R q => ?_
  obtain ⟨w, ρ, items, st', rfl, ok, env, e, q⟩ := q
  obtain ⟨x, st1, e1, e⟩ := bnd_of e
  cases x with
  | lst l =>
    cases e
    refine ⟨w, ρ, .lst items, st', rfl, ok, env, e1, fun w1 v le1 ok1 hs1 r1 => ?_⟩
    obtain ⟨a, vs, rfl, hF, rs⟩ := lst_F r1
    exact ⟨a, vs, rfl, .inl ⟨.inl (rd_fr ok1.sub hF), q w1 _ le1 ok1 hs1 (it_list hF rs)⟩⟩
  | tup l =>
    cases e
    refine ⟨w, ρ, .tup items, st', rfl, ok, env, e1, fun w1 v le1 ok1 hs1 r1 => ?_⟩
    obtain ⟨a, vs, rfl, hF, rs⟩ := tup_F r1
    exact ⟨a, vs, rfl, .inr ⟨.inl (.inl (ok1.sub _ _ hF)), q w1 _ le1 ok1 hs1 (it_tup hF rs)⟩⟩
  | _ => cases e
theorem JI_rng1 {tg a : Expr} {p pos : Pos} {fa : FE} (hg : Gl X "range") (hm : X.mg "range" = none) (ha : PE X a (tE ct fa)) (hs : noStar a = true) :
    PI X tg (.Call (.Name "range" p) [a] [] pos) (tI ct fun ρ st => bnd (fa ρ st) fun x st1 => match x with | .int n => chk (decide (-(2 ^ 62) ≤ n ∧ n < 2 ^ 62)) (.ok ((List.range n.toNat).map fun (k : Nat) => D.int k) st1) | _ => .bad) := by
  refine PI.imp (pi_range1 hg hm (JA_cons (ct := ct) ha JA_nil hs) (star_cons hs)) fun σ H R q => ?_
  obtain ⟨w, ρ, items, st', rfl, ok, env, e, q⟩ := q
  obtain ⟨x, st1, e1, e⟩ := bnd_of e
  cases x with
  | int n =>
    obtain ⟨hc, e⟩ := chk_of e
    cases e
    refine ⟨w, ρ, [.int n], st', rfl, ok, env, by simp only [e1, bnd_ok], fun w1 vs le1 ok1 hs1 r1 => ?_⟩
    obtain ⟨v, rfl, rv⟩ := rs1 r1
    have := rel_int rv; subst this
    obtain ⟨c1, c2⟩ := of_decide_eq_true hc
    refine ⟨n, rfl, c1, c2, q w1 _ le1 ok1 hs1 ?_⟩
    have := it_range (ct := ct) (w := w1) (lo := 0) (n := n.toNat)
    simpa using this
  | _ => cases e
theorem JI_rng2 {tg a b : Expr} {p pos : Pos} {fa fb : FE} (hg : Gl X "range") (hm : X.mg "range" = none) (ha : PE X a (tE ct fa)) (hb : PE X b (tE ct fb)) (hs : noStar a = true) (hs2 : noStar b = true) :
    PI X tg (.Call (.Name "range" p) [a, b] [] pos) (tI ct fun ρ st => bnd (fa ρ st) fun x st1 => bnd (fb ρ st1) fun y st2 => match x, y with
      | .int lo, .int hi => chk (decide (-(2 ^ 62) ≤ lo ∧ lo < 2 ^ 62 ∧ -(2 ^ 62) ≤ hi ∧ hi < 2 ^ 62)) (.ok ((List.range (hi - lo).toNat).map fun (k : Nat) => D.int (lo + k)) st2)
      | _, _ => .bad) := by
  refine PI.imp (pi_range2 hg hm (JA_cons (ct := ct) ha (JA_cons hb JA_nil hs2) hs) (by rw [star_cons hs, star_cons hs2]; rfl) (star_cons hs2)) fun σ H R q => ?_
  obtain ⟨w, ρ, items, st', rfl, ok, env, e, q⟩ := q
  obtain ⟨x, st1, e1, e⟩ := bnd_of e
  obtain ⟨y, st2, e2, e⟩ := bnd_of e
  split at e
  · rename_i lo hi _
    obtain ⟨hc, e⟩ := chk_of e
    cases e
    refine ⟨w, ρ, [.int lo, .int hi], st', rfl, ok, env, by simp only [e1, bnd_ok, e2], fun w1 vs le1 ok1 hs1 r1 => ?_⟩
    obtain ⟨v, u, rfl, rv, ru⟩ := rs2 r1
    have := rel_int rv; subst this
    have := rel_int ru; subst this
    exact ⟨lo, hi, rfl, of_decide_eq_true hc, q w1 _ le1 ok1 hs1 it_range⟩
  · cases e
theorem JI_rev {tg a : Expr} {p pos : Pos} {fa : FE} (hg : Gl X "reversed") (hm : X.mg "reversed" = none) (ha : PE X a (tE ct fa)) (hs : noStar a = true) :
    PI X tg (.Call (.Name "reversed" p) [a] [] pos) (tI ct fun ρ st => bnd (fa ρ st) fun x st1 => match x with | .lst l => .ok l.reverse st1 | .tup l => .ok l.reverse st1 | _ => .bad) := by
  refine PI.imp (pi_revA hg hm ha (star_cons hs)) fun σ H R q => ?_
  obtain ⟨w, ρ, items, st', rfl, ok, env, e, q⟩ := q
  obtain ⟨x, st1, e1, e⟩ := bnd_of e
  cases x with
  | lst l =>
    cases e
    refine ⟨w, ρ, .lst l, st', rfl, ok, env, e1, fun w1 v le1 ok1 hs1 r1 => ?_⟩
    obtain ⟨a, vs, rfl, hF, rs⟩ := lst_F r1
    exact ⟨a, vs, rfl, .inl ⟨.inl (rd_fr ok1.sub hF), q w1 _ le1 ok1 hs1 (it_rev hF rs)⟩⟩
  | tup l =>
    cases e
    refine ⟨w, ρ, .tup l, st', rfl, ok, env, e1, fun w1 v le1 ok1 hs1 r1 => ?_⟩
    obtain ⟨a, vs, rfl, hF, rs⟩ := tup_F r1
    exact ⟨a, vs, rfl, .inr ⟨.inl (.inl (ok1.sub _ _ hF)), q w1 _ le1 ok1 hs1 (it_revT hF rs)⟩⟩
  | _ => cases e
theorem JI_enum {elts : List Expr} {kk : Nat} {tpos : Pos} {a : Expr} {p pos : Pos} {fa : FE} (hg : Gl X "enumerate") (hm : X.mg "enumerate" = none) (ha : PE X a (tE ct fa)) (hs : noStar a = true) :
    PI X (.Tuple elts kk tpos) (.Call (.Name "enumerate" p) [a] [] pos) (tI ct fun ρ st => bnd (fa ρ st) fun x st1 => match x with | .lst l => .ok (enumD 0 l) st1 | _ => .bad) := by
  refine PI.imp (pi_enum hg hm (JA_cons (ct := ct) ha JA_nil hs) (star_cons hs)) fun σ H R q => ?_
  obtain ⟨w, ρ, items, st', rfl, ok, env, e, q⟩ := q
  obtain ⟨x, st1, e1, e⟩ := bnd_of e
  cases x with
  | lst l =>
    cases e
    refine ⟨w, ρ, [.lst l], st', rfl, ok, env, by simp only [e1, bnd_ok], fun w1 v le1 ok1 hs1 r1 => ?_⟩
    obtain ⟨u, rfl, ru⟩ := rs1 r1
    obtain ⟨a, vs, rfl, hF, rs⟩ := lst_F ru
    exact ⟨a, vs, rfl, .inl (rd_fr ok1.sub hF), q w1 _ le1 ok1 hs1 (it_enum hF rs)⟩
  | _ => cases e
theorem JI_zip {elts : List Expr} {kk : Nat} {tpos : Pos} {a b : Expr} {p pos : Pos} {fa fb : FE} (hg : Gl X "zip") (hm : X.mg "zip" = none) (ha : PE X a (tE ct fa)) (hb : PE X b (tE ct fb)) (hs : noStar a = true) (hs2 : noStar b = true) :
    PI X (.Tuple elts kk tpos) (.Call (.Name "zip" p) [a, b] [] pos) (tI ct fun ρ st => bnd (fa ρ st) fun x st1 => bnd (fb ρ st1) fun y st2 => match x, y with
      | .lst l, .lst m => .ok (zipD l m) st2
      | .tup l, .tup m => .ok (zipD l m) st2
      | _, _ => .bad) := by
  refine PI.imp (pi_zipA hg hm (JA_cons (ct := ct) ha (JA_cons hb JA_nil hs2) hs) (star_cons hs) (by rw [star_cons hs2]; rfl)) fun σ H R q => ?_
  obtain ⟨w, ρ, items, st', rfl, ok, env, e, q⟩ := q
  obtain ⟨x, st1, e1, e⟩ := bnd_of e
  obtain ⟨y, st2, e2, e⟩ := bnd_of e
  split at e
  · rename_i l m _
    cases e
    refine ⟨w, ρ, [.lst l, .lst m], st', rfl, ok, env, by simp only [e1, bnd_ok, e2], fun w1 vs le1 ok1 hs1 r1 => ?_⟩
    obtain ⟨v, u, rfl, rv, ru⟩ := rs2 r1
    obtain ⟨a, vs, rfl, hF, rs⟩ := lst_F rv
    obtain ⟨b, us, rfl, hG, ss⟩ := lst_F ru
    have k1 : ∀ w', Lf w1 w' → WOk ct w' → SqL X.K w'.H a vs := fun w' le ok' => .inl (rd_fr ok'.sub (rd_fr le.fr hF))
    have k2 : ∀ w', Lf w1 w' → WOk ct w' → SqL X.K w'.H b us := fun w' le ok' => .inl (rd_fr ok'.sub (rd_fr le.fr hG))
    refine ⟨a, b, vs, us, rfl, .inl ⟨k1 w1 (Lf.refl _) ok1, k2 w1 (Lf.refl _) ok1, q w1 _ le1 ok1 hs1 (it_zip rs ss (fun i w' x y le ok' h1 h2 => ⟨vs, us, x, y, k1 w' le ok', k2 w' le ok', h1, h2⟩) (fun i w' le ok' h => ⟨vs, us, k1 w' le ok', k2 w' le ok', h⟩) fun i w' x H' le ok' y => ?_)⟩⟩
    obtain ⟨T, x', y', h1, h2, h3, h4, h5⟩ := y
    exact ⟨T, x', y', h1, h2, h3, h4 vs (k1 w' le ok'), h5 us (k2 w' le ok')⟩
  · rename_i l m _
    cases e
    refine ⟨w, ρ, [.tup l, .tup m], st', rfl, ok, env, by simp only [e1, bnd_ok, e2], fun w1 vs le1 ok1 hs1 r1 => ?_⟩
    obtain ⟨v, u, rfl, rv, ru⟩ := rs2 r1
    obtain ⟨a, vs, rfl, hF, rs⟩ := tup_F rv
    obtain ⟨b, us, rfl, hG, ss⟩ := tup_F ru
    have k1 : ∀ w', Lf w1 w' → WOk ct w' → SqT X.K w'.H a vs := fun w' le ok' => .inl (.inl (ok'.sub _ _ (le.fr _ _ hF)))
    have k2 : ∀ w', Lf w1 w' → WOk ct w' → SqT X.K w'.H b us := fun w' le ok' => .inl (.inl (ok'.sub _ _ (le.fr _ _ hG)))
    refine ⟨a, b, vs, us, rfl, .inr ⟨k1 w1 (Lf.refl _) ok1, k2 w1 (Lf.refl _) ok1, q w1 _ le1 ok1 hs1 (it_zip rs ss (fun i w' x y le ok' h1 h2 => ⟨vs, us, x, y, k1 w' le ok', k2 w' le ok', h1, h2⟩) (fun i w' le ok' h => ⟨vs, us, k1 w' le ok', k2 w' le ok', h⟩) fun i w' x H' le ok' y => ?_)⟩⟩
    obtain ⟨T, x', y', h1, h2, h3, h4, h5⟩ := y
    exact ⟨T, x', y', h1, h2, h3, h4 vs (k1 w' le ok'), h5 us (k2 w' le ok')⟩
  · cases e
end
end Ev

set_option linter.all false
set_option maxRecDepth 100000
/-! Jk: fields, isinstance, methods of built-in types, new lists. -/
namespace Ev
open PySem L2
section
variable {ct : Nat → Option Addr} {X : Cx}
theorem fok_at {fok : Nat → Str → Bool} {K : PySem.W.Frag} (cf : ClF K ct) (hn : ∀ c C f, ct c = some C → fok c f = true → NoAttr K C f) {w : Wd} (ok : WOk ct w) {x z : D} {f : Str} {v : V} (e : opFld w.st x f = some z) (hf : fokD fok w.st x f = true) (r : w.R ct x v) :
    ∃ a C dx fs u, v = .ref a ∧ w.H a = some (.ins C dx fs) ∧ Cls K C ∧ NoAttr K C f ∧ fs.lookup f = some u ∧ w.R ct z u := by
  cases x with
  | obj c fs vs =>
    have r : Rel ct w.m w.F (.obj c fs vs) v := r
    unfold Rel at r
    obtain ⟨a, C, dx, fvs, rfl, hc, h1, rfl, h2⟩ := r
    simp only [opFld] at e
    obtain ⟨u, h3, h4⟩ := look_lookup (w := w) h2 e
    exact ⟨a, C, dx, fvs, u, rfl, ok.sub _ _ h1, cf.cl c C hc, hn c C f hc hf, h3, h4⟩
  | ref n =>
    have r : Rel ct w.m w.F (.ref n) v := r
    unfold Rel at r
    obtain ⟨a, rfl, hm⟩ := r
    simp only [opFld] at e
    split at e
    · rename_i c fs vs hst
      simp only [fokD, hst] at hf
      rcases ok.ob n a _ hm hst with g | ⟨_, h, h1, h2⟩
      · cases g
      · obtain ⟨C, dx, fvs, hc, rfl, rfl, h3⟩ := h2
        obtain ⟨u, h4, h5⟩ := look_lookup (w := w) h3 e
        exact ⟨a, C, dx, fvs, u, rfl, h1, cf.cl c C hc, hn c C f hc hf, h4, h5⟩
    · cases e
  | _ => simp [opFld] at e
theorem JE_fld {fok : Nat → Str → Bool} {a : Expr} {f : Str} {pos : Pos} {fa : FE} (cf : ClF X.K ct) (hn : ∀ c C f, ct c = some C → fok c f = true → NoAttr X.K C f) (hb : noSuper a = true) (ha : PE X a (tE ct fa)) :
    PE X (.Attribute a f pos) (tE ct fun ρ st => bnd (fa ρ st) fun x st1 => chk (fokD fok st1 x f) (ofO (opFld st1 x f) fun z => .ok z st1)) := by
  refine PE.imp (pe_fld ha (base_of hb)) fun σ H Q q => ?_
  obtain ⟨w, ρ, d, st', rfl, ok, env, e, q⟩ := q
  obtain ⟨x, st1, e1, e⟩ := bnd_of e
  obtain ⟨hf, e⟩ := chk_of e
  obtain ⟨z, e2, e⟩ := ofO_of e
  cases e
  refine ⟨w, ρ, x, st', rfl, ok, env, e1, fun w1 v le1 ok1 hs1 r1 => ?_⟩
  obtain ⟨a, C, dx, fs, u, rfl, h1, h2, h3, h4, h5⟩ := fok_at cf hn ok1 (by rw [hs1]; exact e2) (by rw [hs1]; exact hf) r1
  exact ⟨a, C, dx, fs, u, rfl, h1, h2, h3, h4, q w1 u le1 ok1 hs1 h5⟩
/-! ### isinstance -/
theorem isi_bi : PySem.bootBuiltins "isinstance" = some (.builtin "isinstance") := by first | rfl | decide +kernel
theorem JE_isi {a tyE : Expr} {t : Ty} {cv : V} {p pos : Pos} {fa : FE} (cf : ClF X.K ct) (et : tyP ct t = some cv) (ht : PE X tyE (tC cv)) (hg : Gl X "isinstance") (hm : X.mg "isinstance" = none) (ha : PE X a (tE ct fa)) (hs : noStar a = true) (hs2 : noStar tyE = true) :
    PE X (.Call (.Name "isinstance" p) [a, tyE] [] pos) (tE ct fun ρ st => bnd (fa ρ st) fun x st1 => ofO (isTy t st1 x) fun z => .ok (.bl z) st1) := by
  refine PE.imp (pe_callB (call_isi) hg hm isi_bi (pa_cons ha (pa_cons ht pa_nil (star_cons hs2)) (star_cons hs)) (by decide) (by decide) (star_cons hs) (by rw [star_cons hs2]; rfl)) fun σ H Q q => ?_
  obtain ⟨w, ρ, d, st', rfl, ok, env, e, q⟩ := q
  obtain ⟨x, st1, e1, e⟩ := bnd_of e
  obtain ⟨z, e2, e⟩ := ofO_of e
  cases e
  refine ⟨w, ρ, x, st', rfl, ok, env, e1, fun w1 v le1 ok1 hs1 r1 => ?_⟩
  obtain ⟨tv, u, h1, h2, h3⟩ := isi_at cf ok1 (by rw [hs1]; exact e2) r1 et
  exact ⟨v, cv, tv, u, z, rfl, h1, h2, h3, q w1 _ le1 ok1 hs1 of_bl⟩
/-! ### methods of built-in types -/
theorem few_of {cpos : Pos} {env : PySem.Env} {es : List Expr} (h : es.all noStar = true) (hl : es.length < 30) :
    ((backTo cpos (starEach es env)).all (fun x => !x.1) && (backToKw cpos (keywordEach [] env)).all (fun x => x.1.isSome) && decide (es.length + ([] : List Keyword).length + (if ([] : List Keyword).isEmpty then 0 else 1) < 30)) = true := by
  rw [star_all h]
  have : decide (es.length + ([] : List Keyword).length + (if ([] : List Keyword).isEmpty then 0 else 1) < 30) = true := decide_eq_true (by simpa using hl)
  rw [this]; rfl
theorem lst_ty {K : PySem.W.Frag} {w : Wd} (ok : WOk ct w) {x : D} {v : V} (h : (lstOf w.st x).isSome = true) (r : w.R ct x v) : tyV K "list" v w.H := by
  obtain ⟨l, hl⟩ := Option.isSome_iff_exists.mp h
  obtain ⟨a, vs, rfl, hp, _⟩ := lst_at ok hl r
  exact .inl ⟨rfl, vs, .inl hp⟩
theorem bmR_of {m : Bm} {T : String} {r : V → List V → Hp → VK → Prop} (hr : ∀ x vs H Q, rM ct m x vs H Q → r x vs H Q) (hT : ∀ w : Wd, WOk ct w → ∀ x v, recvOk m w.st x = true → w.R ct x v → tyV X.K T v w.H) {fo : FE} {fs : FA} {σ : St} {H : Hp} {Q : VK}
    (q : tE ct (fun ρ st => bnd (fo ρ st) fun x st1 => chk (recvOk m st1 x) (bnd (fs ρ st1) fun l st2 => opBm m st2 x l)) σ H Q) : tBM X.K T r (tE ct fo) (tAs ct fs) σ H Q := by
  obtain ⟨w, ρ, d, st', rfl, ok, env, e, q⟩ := q
  obtain ⟨x, st1, e1, e⟩ := bnd_of e
  obtain ⟨hc, e⟩ := chk_of e
  obtain ⟨l, st2, e2, e⟩ := bnd_of e
  refine ⟨w, ρ, x, st1, rfl, ok, env, e1, fun w1 v le1 ok1 hs1 r1 => ⟨hT w1 ok1 x v (by rw [hs1]; exact hc) r1, ?_⟩⟩
  refine ⟨w1, ρ, l, st2, rfl, ok1, env.le le1, by rw [hs1]; exact e2, fun w2 vs le2 ok2 hs2 r2 => ?_⟩
  exact hr _ _ _ _ ⟨w2, x, l, d, st', rfl, ok2, Wd.R.le le2 r1, r2, by rw [hs2]; exact e, fun w3 u le3 ok3 hs3 r3 => q w3 u (le1.trans (le2.trans le3)) ok3 hs3 r3⟩
theorem JE_bm {m : Bm} {T id : String} {nm : Str} {o e : Expr} {es : List Expr} {apos cpos : Pos} {fo : FE} {fs : FA} (pa : PlainAttrs T) (slot : Slot T nm id) (hty : typeOf (.builtin id) = pure (.type "method_descriptor")) (hm : MtR X id (rM ct m))
    (hT : ∀ w : Wd, WOk ct w → ∀ x v, recvOk m w.st x = true → w.R ct x v → tyV X.K T v w.H) (ho : PE X o (tE ct fo)) (ha : PA X (e :: es) (tAs ct fs)) (hb : noSuper o = true) (hs : (e :: es).all noStar = true) (hl : (e :: es).length < 30) (hline : (apos.endLine == cpos.line) = true) :
    PE X (.Call (.Attribute o nm apos) (e :: es) [] cpos) (tE ct fun ρ st => bnd (fo ρ st) fun x st1 => chk (recvOk m st1 x) (bnd (fs ρ st1) fun l st2 => opBm m st2 x l)) := by
  have hs' := hs
  rw [List.all_cons, Bool.and_eq_true] at hs'
  exact PE.imp (pe_bm pa slot hty hm ho ha (base_of hb) (few_of hs hl) hline (star_cons hs'.1) (star_any hs'.2)) fun σ H Q q => bmR_of (fun _ _ _ _ h => h) hT q
theorem JE_bm0 {m : Bm} {T id : String} {nm : Str} {o : Expr} {apos cpos : Pos} {fo : FE} (pa : PlainAttrs T) (slot : Slot T nm id) (hty : typeOf (.builtin id) = pure (.type "method_descriptor")) (hm : MtR X id (rM ct m))
    (hT : ∀ w : Wd, WOk ct w → ∀ x v, recvOk m w.st x = true → w.R ct x v → tyV X.K T v w.H) (ho : PE X o (tE ct fo)) (hb : noSuper o = true) (hline : (apos.endLine == cpos.line) = true) :
    PE X (.Call (.Attribute o nm apos) [] [] cpos) (tE ct fun ρ st => bnd (fo ρ st) fun x st1 => chk (recvOk m st1 x) (bnd (.ok [] st1) fun l st2 => opBm m st2 x l)) := by
  refine PE.imp (pe_bm0 pa slot hty hm ho (base_of hb) hline) fun σ H Q q => ?_
  obtain ⟨w, ρ, d, st', rfl, ok, env, e, q⟩ := q
  obtain ⟨x, st1, e1, e⟩ := bnd_of e
  obtain ⟨hc, e⟩ := chk_of e
  refine ⟨w, ρ, x, st1, rfl, ok, env, e1, fun w1 v le1 ok1 hs1 r1 => ⟨hT w1 ok1 x v (by rw [hs1]; exact hc) r1, ?_⟩⟩
  exact ⟨w1, x, [], d, st', rfl, ok1, r1, Rels.nil, by rw [hs1]; exact e, fun w3 u le3 ok3 hs3 r3 => q w3 u (le1.trans le3) ok3 hs3 r3⟩
/-- d.get(k, v) -/
theorem JE_get {o e f : Expr} {apos cpos : Pos} {fo fe ff : FE} (hu : X.A.units + 65 < cLine) (ho : PE X o (tE ct fo)) (he : PE X e (tE ct fe)) (hf : PE X f (tE ct ff)) (hb : noSuper o = true) (hs : noStar e = true) (hs2 : noStar f = true) (hline : (apos.endLine == cpos.line) = true) :
    PE X (.Call (.Attribute o "get" apos) [e, f] [] cpos) (tE ct fun ρ st => bnd (fo ρ st) fun x st1 => chk (recvOk .get st1 x) (bnd (bnd (fe ρ st1) fun x st1 => bnd (bnd (ff ρ st1) fun x st1 => bnd (.ok [] st1) fun l st2 => .ok (x :: l) st2) fun l st2 => .ok (x :: l) st2) fun l st2 => opBm .get st2 x l)) := by
  have m : M2 X o "get" apos e f cpos := ⟨base_of hb, few_of (es := [e, f]) (by simp [hs, hs2]) (by simp), hline, by rw [star_cons hs, star_cons hs2]; rfl⟩
  refine PE.imp (pe_dget2 (by omega) ho he hf m) fun σ H Q q => ?_
  obtain ⟨w, ρ, d, st', rfl, ok, env, e, q⟩ := q
  obtain ⟨x, st1, e1, e⟩ := bnd_of e
  obtain ⟨hc, e⟩ := chk_of e
  obtain ⟨l, st2, e2, e⟩ := bnd_of e
  obtain ⟨k, st3, e3, e2⟩ := bnd_of e2
  obtain ⟨l', st4, e4, e2⟩ := bnd_of e2
  obtain ⟨v, st5, e5, e4⟩ := bnd_of e4
  cases e2
  cases e4
  refine ⟨w, ρ, x, st1, rfl, ok, env, e1, fun w1 xv le1 ok1 hs1 r1 => ?_⟩
  have hd : (dctOf st1 x).isSome = true := hc
  obtain ⟨⟨tk, ks, vs⟩, hd⟩ := Option.isSome_iff_exists.mp hd
  obtain ⟨a, rfl, hD⟩ := dct_at ok1 (by rw [hs1]; exact hd) r1
  refine ⟨a, rfl, by rcases hD with ⟨kvs, _, h, _⟩ | ⟨kvs, _, h, _⟩; exact .inl ⟨kvs, .inl h⟩; exact .inr ⟨kvs, .inl h⟩, ?_⟩
  refine ⟨w1, ρ, k, st3, rfl, ok1, env.le le1, by rw [hs1]; exact e3, fun w2 kv le2 ok2 hs2 r2 => ?_⟩
  refine ⟨w2, ρ, v, _, rfl, ok2, env.le (le1.trans le2), by rw [hs2]; exact e5, fun w3 vv le3 ok3 hs3 r3 => ?_⟩
  simp only [opBm] at e
  split at e
  · rename_i tk2 ks2 vs2 hd2
    split at e
    · rename_i hk
      cases e
      obtain ⟨a2, o, ea, g, _, h1, h2⟩ := dct_look ok3 (by rw [hs3]; exact hd2) hk (Wd.R.le (le2.trans le3) r1) (Wd.R.le le3 r2)
      cases ea
      refine ⟨o, g, ?_⟩
      cases hfi : D.find k ks2 vs2 with
      | some d =>
        obtain ⟨u, rfl, ru⟩ := h1 d hfi
        rw [hfi] at q
        exact q w3 u (le1.trans (le2.trans le3)) ok3 hs3 ru
      | none =>
        rw [h2 hfi]
        rw [hfi] at q
        exact q w3 vv (le1.trans (le2.trans le3)) ok3 hs3 r3
    · cases e
  · cases e
/-! ### is None, a < b < c -/
theorem non_iff {w : Wd} {d : D} {v : V} (r : w.R ct d v) : decide (v = .non) = (match d with | .non => true | _ => false) := by
  have r : Rel ct w.m w.F d v := r
  cases d <;> unfold Rel at r
  case non => subst r; rfl
  case bl => subst r; rfl
  case int => subst r; rfl
  case str => subst r; rfl
  case tup => obtain ⟨a, vs, rfl, _⟩ := r; rfl
  case lst => obtain ⟨a, vs, rfl, _⟩ := r; rfl
  case dct => obtain ⟨a, rfl, _⟩ := r; rfl
  case set => exact r.elim
  case obj => obtain ⟨a, C, dx, fvs, rfl, _⟩ := r; rfl
  case ref => obtain ⟨a, rfl, _⟩ := r; rfl
theorem JE_isN {a : Expr} {no : Bool} {k : Nat} {p2 pos : Pos} {fa : FE} (ha : PE X a (tE ct fa)) :
    PE X (.Compare a [if no = true then .IsNot else .Is] [.Constant .none k p2] pos) (tE ct fun ρ st => bnd (fa ρ st) fun x st1 => .ok (.bl (no != (match x with | .non => true | _ => false))) st1) := by
  cases no with
  | false =>
    refine PE.imp (pe_cmpR (op := .Is) op_isN ha pe_non (nomark _)) fun σ H Q q => ?_
    obtain ⟨w, ρ, d, st', rfl, ok, env, e, q⟩ := q
    obtain ⟨x, st1, e1, e⟩ := bnd_of e
    cases e
    refine ⟨w, ρ, x, st', rfl, ok, env, e1, fun w1 v le1 ok1 hs1 r1 => ⟨rfl, ?_⟩⟩
    refine q w1 _ le1 ok1 hs1 ?_
    rw [non_iff r1]
    cases x <;> exact of_bl
  | true =>
    refine PE.imp (pe_cmpR (op := .IsNot) op_notN ha pe_non (nomark _)) fun σ H Q q => ?_
    obtain ⟨w, ρ, d, st', rfl, ok, env, e, q⟩ := q
    obtain ⟨x, st1, e1, e⟩ := bnd_of e
    cases e
    refine ⟨w, ρ, x, st', rfl, ok, env, e1, fun w1 v le1 ok1 hs1 r1 => ⟨rfl, ?_⟩⟩
    refine q w1 _ le1 ok1 hs1 ?_
    rw [non_iff r1]
    cases x <;> exact of_bl
theorem JT_isN {a : Expr} {no : Bool} {k : Nat} {p2 pos : Pos} {fa : FE} (ha : PE X a (tE ct fa)) :
    PT X (.Compare a [if no = true then .IsNot else .Is] [.Constant .none k p2] pos) (tT ct fun ρ st => bnd (fa ρ st) fun x st1 => .ok (no != (match x with | .non => true | _ => false)) st1) := by
  cases no with
  | false =>
    refine PT.imp (pt_cmpR (op := .Is) op_isN ha pe_non (nomark _)) fun σ H Q q => ?_
    obtain ⟨w, ρ, d, st', rfl, ok, env, e, q⟩ := q
    obtain ⟨x, st1, e1, e⟩ := bnd_of e
    cases e
    refine ⟨w, ρ, x, st', rfl, ok, env, e1, fun w1 v le1 ok1 hs1 r1 => ⟨rfl, _, rfl, ?_⟩⟩
    have := q w1 le1 ok1 hs1
    rw [non_iff r1]
    cases x <;> exact this
  | true =>
    refine PT.imp (pt_cmpR (op := .IsNot) op_notN ha pe_non (nomark _)) fun σ H Q q => ?_
    obtain ⟨w, ρ, d, st', rfl, ok, env, e, q⟩ := q
    obtain ⟨x, st1, e1, e⟩ := bnd_of e
    cases e
    refine ⟨w, ρ, x, st', rfl, ok, env, e1, fun w1 v le1 ok1 hs1 r1 => ⟨rfl, _, rfl, ?_⟩⟩
    have := q w1 le1 ok1 hs1
    rw [non_iff r1]
    cases x <;> exact this
end
end Ev

set_option linter.all false
set_option maxRecDepth 100000
/-! Jl: new lists and dicts; comprehensions. -/
namespace Ev
open PySem L2
section
variable {ct : Nat → Option Addr} {X : Cx}
/-! ### a list made by + or * -/
theorem snd_binN (op : Bop) {pins : List (Addr × Obj)} {s : Shared} {σ : St} {x y : V} {v u : Value} {Q : VK} {w : Wd} {a b : D} {o : Ob} (I : Inv X pins σ w.H s) (rx : RelV x v) (ry : RelV y u) (ok : WOk ct w) (ra : w.R ct a x) (rb : w.R ct b y) (e : opLstN op w.st a b = some o)
    (q : ∀ p h, w.H p = none → ORel ct w.m w.F o h → Q (.ref p) (upd w.H p h)) : wpAny (model X.prog X.w) X.A (binaryOp (bopP op) v u) (EP X pins σ Q) X.xe s := by
  unfold opLstN at e
  rw [Option.bind_eq_some_iff] at e
  obtain ⟨l, el, e⟩ := e
  obtain ⟨p, vs, rfl, rd, rs⟩ := lst_at ok el ra
  split at e
  · rename_i m em
    cases e
    cases op with
    | add =>
      simp only [opLst, Option.bind_eq_some_iff] at em
      obtain ⟨m2, h1, h2⟩ := em
      split at h2
      · rename_i hz
        cases h2
        obtain ⟨p2, vs2, rfl, rd2, rs2⟩ := lst_at ok h1 rb
        exact op_catR pins s σ w.H _ _ v u Q I rx ry ⟨p, p2, vs, vs2, rfl, rfl, rd, rd2, by rw [szL_eq, ← rs.length, ← rs2.length]; exact hz, fun p3 h3 => q p3 _ h3 ⟨_, rfl, Rels.append rs rs2⟩⟩
      · cases h2
    | mul =>
      cases b with
      | int n =>
        simp only [opLst] at em
        split at em
        · rename_i hz
          cases em
          have := rel_int rb; subst this
          exact op_repR pins s σ w.H _ _ v u Q I rx ry ⟨p, n, vs, rfl, rfl, rd, by omega, by omega, by rw [szL_eq, ← rs.length]; exact hz.2.2, fun p3 h3 => q p3 _ h3 ⟨_, rfl, Rels.rep rs n.toNat⟩⟩
        · cases em
      | _ => simp [opLst] at em
    | _ => simp [opLst] at em
  · cases e
def rBN (ct : Nat → Option Addr) (op : Bop) : R2 := fun x y H Q => ∃ w a b o, w.H = H ∧ WOk ct w ∧ w.R ct a x ∧ w.R ct b y ∧ opLstN op w.st a b = some o ∧ ∀ p h, w.H p = none → ORel ct w.m w.F o h → Q (.ref p) (upd w.H p h)
theorem JN_bin {a b : Expr} {op : Bop} {pos : Pos} {fa fb : FE} (ha : PE X a (tE ct fa)) (hb : PE X b (tE ct fb)) :
    PE X (.BinOp a (bopP op) b pos) (tN ct fun ρ st => bnd (fa ρ st) fun x st1 => bnd (fb ρ st1) fun y st2 => ofO (opLstN op st2 x y) fun z => .ok z st2) := by
  refine PE.imp (pe_op (r := rBN ct op) (fun pins s σ H x y v u Q I rx ry h => ?_) ha hb) fun σ H Q q => ?_
  · obtain ⟨w, a, b, o, rfl, ok, ra, rb, e, q⟩ := h
    exact snd_binN op I rx ry ok ra rb e q
  · obtain ⟨w, ρ, d, st', rfl, ok, env, e, q⟩ := q
    obtain ⟨x, st1, e1, e⟩ := bnd_of e
    obtain ⟨y, st2, e2, e⟩ := bnd_of e
    obtain ⟨z, e3, e⟩ := ofO_of e
    cases e
    refine ⟨w, ρ, x, st1, rfl, ok, env, e1, fun w1 v le1 ok1 hs1 r1 => ?_⟩
    refine ⟨w1, ρ, y, st', rfl, ok1, env.le le1, by rw [hs1]; exact e2, fun w2 u le2 ok2 hs2 r2 => ?_⟩
    exact ⟨w2, x, y, d, rfl, ok2, Wd.R.le le2 r1, r2, by rw [hs2]; exact e3, fun p h hp r => q w2 p h (le1.trans le2) ok2 hs2 hp r⟩
/-! ### list(x), dict(x) -/
def rLN (ct : Nat → Option Addr) (b : Blt) : List V → Hp → VK → Prop := fun xs H Q => ∃ w l o, w.H = H ∧ WOk ct w ∧ w.Rs ct l xs ∧ opBltN b w.st l = some o ∧ ∀ p h, w.H p = none → ORel ct w.m w.F o h → Q (.ref p) (upd w.H p h)
theorem snd_listN (hc : X.calm = true) : CallR X (.type "list") (rLN ct .list) := by
  intro pins s σ H xs us Q I r h
  obtain ⟨w, l, z, rfl, ok, rs, e, q⟩ := h
  match l, e, rs with
  | [x], e, rs =>
    obtain ⟨v, rfl, rx⟩ := rs1 rs
    simp only [opBltN] at e
    split at e
    · rename_i l' e1
      cases e
      obtain ⟨a, vs, rfl, h1, h2⟩ := seq_at ok e1 rx
      exact call_list_of pins s σ w.H _ us Q I r ⟨a, vs, rfl, seq_sq h1, fun p hp => q p _ hp ⟨vs, rfl, h2⟩⟩
    · split at e
      · rename_i ks vs' e1
        cases e
        obtain ⟨a, rfl, h⟩ := dct_at ok e1 rx
        rcases h with ⟨kvs, _, f, rfl, _⟩ | ⟨kvs, h, f, rfl, _⟩
        · exact call_listD hc pins s σ w.H _ us Q I r ⟨a, kvs, rfl, .inl f, fun p hp => q p _ hp ⟨_, rfl, kD_rels kvs⟩⟩
        · cases h
      · cases e
  | [], e, _ => simp [opBltN] at e
  | _ :: _ :: _, e, _ => simp [opBltN] at e
theorem snd_dictN : CallR X (.type "dict") (rLN ct .dict) := by
  intro pins s σ H xs us Q I r h
  obtain ⟨w, l, z, rfl, ok, rs, e, q⟩ := h
  match l, e, rs with
  | [x], e, rs =>
    obtain ⟨v, rfl, rx⟩ := rs1 rs
    simp only [opBltN, Option.bind_eq_some_iff] at e
    obtain ⟨⟨tk, ks, vs⟩, e1, e⟩ := e
    split at e
    · rename_i ht
      cases e
      simp only at ht; subst ht
      obtain ⟨a, rfl, h⟩ := dct_at ok e1 rx
      rcases h with ⟨kvs, _, f, rfl, rs⟩ | ⟨kvs, h, f, rfl, rs⟩
      · exact call_dictD pins s σ w.H _ us Q I r ⟨a, kvs, rfl, .inl f, fun p hp => q p _ hp (.inl ⟨kvs, rfl, rfl, rfl, rs⟩)⟩
      · cases h
    · cases e
  | [], e, _ => simp [opBltN] at e
  | _ :: _ :: _, e, _ => simp [opBltN] at e
theorem JN_call {x : Str} {T : String} {p pos : Pos} {e : Expr} {es : List Expr} {b : Blt} {fs : FA} (hc : CallR X (.type T) (rLN ct b)) (hg : Gl X x) (hm : X.mg x = none) (hv : bootBuiltins x = some (.type T)) (ha : PA X (e :: es) (tAs ct fs))
    (hn : x ≠ "__name__") (hd : (x == ("__debug__" : Str)) = false) (hs : (e :: es).all noStar = true) :
    PE X (.Call (.Name x p) (e :: es) [] pos) (tN ct fun ρ st => bnd (fs ρ st) fun l st1 => ofO (opBltN b st1 l) fun z => .ok z st1) := by
  rw [List.all_cons, Bool.and_eq_true] at hs
  refine PE.imp (pe_callTy hc hg hm hv ha hn hd (star_cons hs.1) (star_any hs.2)) fun σ H Q q => ?_
  obtain ⟨w, ρ, d, st', rfl, ok, env, e, q⟩ := q
  obtain ⟨l, st1, e1, e⟩ := bnd_of e
  obtain ⟨z, e2, e⟩ := ofO_of e
  cases e
  exact ⟨w, ρ, l, st', rfl, ok, env, e1, fun w1 vs le1 ok1 hs1 r1 => ⟨w1, l, d, rfl, ok1, r1, by rw [hs1]; exact e2, fun p h hp r => q w1 p h le1 ok1 hs1 hp r⟩⟩
/-! ### list(range(..)), tuple(range(..)) -/
def tRg (ct : Nat → Option Addr) (f : Env → List Ob → R (Int × Int)) : St → Hp → (Int → Int → Hp → Prop) → Prop := fun σ H Q => ∃ w ρ p st', w.H = H ∧ WOk ct w ∧ EnvR ct w ρ σ ∧ f ρ w.st = .ok p st' ∧ ∀ w', Le w w' → WOk ct w' → w'.st = st' → Q p.1 p.2 w'.H
theorem PRg.imp {e : Expr} {t t' : St → Hp → (Int → Int → Hp → Prop) → Prop} (h : PRg X e t) (i : ∀ σ H Q, t' σ H Q → t σ H Q) : PRg X e t' := fun pins s σ H Q I q => h pins s σ H Q I (i σ H Q q)
theorem JR_1 {a : Expr} {p pos : Pos} {fa : FE} (hg : Gl X "range") (hm : X.mg "range" = none) (ha : PE X a (tE ct fa)) (hs : noStar a = true) :
    PRg X (.Call (.Name "range" p) [a] [] pos) (tRg ct fun ρ st => bnd (fa ρ st) fun x st1 => match x with | .int n => .ok (0, n) st1 | _ => .bad) := by
  refine PRg.imp (prg_1 hg hm ha (star_cons hs)) fun σ H Q q => ?_
  obtain ⟨w, ρ, d, st', rfl, ok, env, e, q⟩ := q
  obtain ⟨x, st1, e1, e⟩ := bnd_of e
  cases x with
  | int n =>
    cases e
    exact ⟨w, ρ, .int n, st', rfl, ok, env, e1, fun w1 v le1 ok1 hs1 r1 => ⟨n, rel_int r1, q w1 le1 ok1 hs1⟩⟩
  | _ => cases e
theorem JR_2 {a b : Expr} {p pos : Pos} {fa fb : FE} (hg : Gl X "range") (hm : X.mg "range" = none) (ha : PE X a (tE ct fa)) (hb : PE X b (tE ct fb)) (hs : noStar a = true) (hs2 : noStar b = true) :
    PRg X (.Call (.Name "range" p) [a, b] [] pos) (tRg ct fun ρ st => bnd (fa ρ st) fun x st1 => bnd (fb ρ st1) fun y st2 => match x, y with | .int i, .int j => .ok (i, j) st2 | _, _ => .bad) := by
  refine PRg.imp (prg_2 hg hm ha hb (star_cons hs) (star_cons hs2) (by rw [star_cons hs2]; rfl)) fun σ H Q q => ?_
  obtain ⟨w, ρ, d, st', rfl, ok, env, e, q⟩ := q
  obtain ⟨x, st1, e1, e⟩ := bnd_of e
  obtain ⟨y, st2, e2, e⟩ := bnd_of e
  cases x with
  | int n =>
    cases y with
    | int m =>
      cases e
      refine ⟨w, ρ, .int n, st1, rfl, ok, env, e1, fun w1 v le1 ok1 hs1 r1 => ?_⟩
      exact ⟨w1, ρ, .int m, st', rfl, ok1, env.le le1, by rw [hs1]; exact e2, fun w2 u le2 ok2 hs2 r2 => ⟨n, m, rel_int r1, rel_int r2, q w2 (le1.trans le2) ok2 hs2⟩⟩
    | _ => cases e
  | _ => cases e
theorem rgOk_of {i j : Int} (h : rgOk i j = true) : RgOk i j := by
  have := of_decide_eq_true h
  unfold szL at this
  exact ⟨this.1, this.2.1, this.2.2.1, this.2.2.2.1, by omega⟩
theorem rg_rels {m : List Addr} {F : Hp} (i j : Int) : Rels ct m F (rgD i j) (rgV i j) := Rels.ints _ _
theorem JN_listRg {e : Expr} {p pos : Pos} {f : Env → List Ob → R (Int × Int)} (hc : X.calm = true) (hg : Gl X "list") (hm : X.mg "list" = none) (he : PRg X e (tRg ct f)) (hs : noStar e = true) :
    PE X (.Call (.Name "list" p) [e] [] pos) (tN ct fun ρ st => bnd (f ρ st) fun q st1 => chk (rgOk q.1 q.2) (.ok (.lst (rgD q.1 q.2)) st1)) := by
  refine PE.imp (pe_listRg hc hg hm he (star_cons hs)) fun σ H Q q => ?_
  obtain ⟨w, ρ, d, st', rfl, ok, env, e, q⟩ := q
  obtain ⟨x, st1, e1, e⟩ := bnd_of e
  obtain ⟨hc, e⟩ := chk_of e
  cases e
  exact ⟨w, ρ, x, st', rfl, ok, env, e1, fun w1 le1 ok1 hs1 => ⟨rgOk_of hc, fun p hp => q w1 p _ le1 ok1 hs1 hp ⟨_, rfl, rg_rels _ _⟩⟩⟩
theorem JE_tupRg {e : Expr} {p pos : Pos} {f : Env → List Ob → R (Int × Int)} (hc : X.calm = true) (hg : Gl X "tuple") (hm : X.mg "tuple" = none) (he : PRg X e (tRg ct f)) (hs : noStar e = true) :
    PE X (.Call (.Name "tuple" p) [e] [] pos) (tE ct fun ρ st => bnd (f ρ st) fun q st1 => chk (rgOk q.1 q.2) (.ok (.tup (rgD q.1 q.2)) st1)) := by
  refine PE.imp (pe_tupRg hc hg hm he (star_cons hs)) fun σ H Q q => ?_
  obtain ⟨w, ρ, d, st', rfl, ok, env, e, q⟩ := q
  obtain ⟨x, st1, e1, e⟩ := bnd_of e
  obtain ⟨hc, e⟩ := chk_of e
  cases e
  refine ⟨w, ρ, x, st', rfl, ok, env, e1, fun w1 le1 ok1 hs1 => ⟨rgOk_of hc, fun p hp => ?_⟩⟩
  obtain ⟨w', le, ok', st, hH, r'⟩ := tup_new ok1 hp (rg_rels (ct := ct) (m := w1.m) (F := w1.F) x.1 x.2)
  rw [← hH]
  exact q w' _ (le1.trans le) ok' (st.trans hs1) r'

/-! ### an object that does not belong to the state -/
def Wd.plus (w : Wd) (p : Addr) (h : HO) : Wd := { w with H := upd w.H p h }
def Wd.minus (w : Wd) (p : Addr) : Wd := { w with H := fun a => if a = p then none else w.H a }
theorem plus_ok {w : Wd} (ok : WOk ct w) {p : Addr} (hp : w.H p = none) (h : HO) : WOk ct (w.plus p h) ∧ Le w (w.plus p h) := by
  have hm : p ∉ w.m := fun z => ok.tr p z hp
  have hF : w.F p = none := by
    cases q : w.F p with
    | none => rfl
    | some x => have := ok.sub p x q; rw [hp] at this; cases this
  have ne : ∀ a, w.H a ≠ none → a ≠ p := fun a ha z => ha (z ▸ hp)
  refine ⟨⟨fun a o ho => ?_, ok.len, ok.nd, fun n a o h1 h2 => ?_, fun a ha => ?_⟩, ⟨List.prefix_refl _, fun _ _ x => x, fun a o ho _ => ?_, fun _ h h' => absurd h h', fun _ _ _ => .inl rfl, fun a ha => ?_⟩⟩
  · show upd w.H p h a = some o
    rw [upd_ne (ne_of_none ho hF)]; exact ok.sub a o ho
  · rcases ok.ob n a o h1 h2 with e | ⟨e, u, h3, h4⟩
    · exact .inl e
    · exact .inr ⟨e, u, by show upd w.H p h a = some u; rw [upd_ne (ne a (by rw [h3]; exact fun z => nomatch z))]; exact h3, h4⟩
  · show upd w.H p h a ≠ none
    rw [upd_ne (show a ≠ p from fun z => hm (by rw [← z]; exact ha))]; exact ok.tr a ha
  · show upd w.H p h a = some o
    rw [upd_ne (ne a (by rw [ho]; exact fun z => nomatch z))]; exact ho
  · show upd w.H p h a ≠ none
    rw [upd_ne (ne a ha)]; exact ha
theorem minus_ok {w w' : Wd} (ok : WOk ct w) {p : Addr} (hp : w.H p = none) {h : HO} (hh : ∀ xs, h ≠ .tup xs) (le : Le (w.plus p h) w') (ok' : WOk ct w') :
    WOk ct (w'.minus p) ∧ Le w (w'.minus p) ∧ (w'.minus p).H p = none ∧ w'.H = upd (w'.minus p).H p h := by
  have hm : p ∉ w.m := fun z => ok.tr p z hp
  have hF : w.F p = none := by
    cases q : w.F p with
    | none => rfl
    | some x => have := ok.sub p x q; rw [hp] at this; cases this
  have at_p : (w.plus p h).H p = some h := upd_same
  have hm' : p ∉ w'.m := fun z => by have := le.new p z hm; rw [at_p] at this; cases this
  have hF' : w'.F p = none := by
    rcases le.ff p (by rw [at_p]; exact fun z => nomatch z) hm with e | ⟨xs, e⟩
    · exact e.trans hF
    · rw [at_p] at e; exact absurd (Option.some.inj e) (hh xs)
  have hH' : w'.H p = some h := le.keep p h at_p hm
  have low : ∀ a, a ≠ p → (w'.minus p).H a = w'.H a := fun a ha => by show (if a = p then none else w'.H a) = _; rw [if_neg ha]
  have pl : ∀ a, a ≠ p → (w.plus p h).H a = w.H a := fun a ha => upd_ne ha
  refine ⟨⟨fun a o ho => ?_, ok'.len, ok'.nd, fun n a o h1 h2 => ?_, fun a ha => ?_⟩, ⟨le.pre, le.fr, fun a o ho hn => ?_, fun a h1 h2 => ?_, fun a h1 h2 => ?_, fun a ha => ?_⟩, by show (if p = p then none else w'.H p) = none; rw [if_pos rfl], ?_⟩
  · rw [low a (ne_of_none ho hF')]; exact ok'.sub a o ho
  · rcases ok'.ob n a o h1 h2 with e | ⟨e, u, h3, h4⟩
    · exact .inl e
    · exact .inr ⟨e, u, by rw [low a (fun z => hm' (z ▸ List.mem_of_getElem? h1))]; exact h3, h4⟩
  · rw [low a (fun z => hm' (z ▸ ha))]; exact ok'.tr a ha
  · have ne : a ≠ p := fun z => by subst z; rw [hp] at ho; cases ho
    rw [low a ne]
    exact le.keep a o (by rw [pl a ne]; exact ho) hn
  · have ne : a ≠ p := fun z => hm' (z ▸ h1)
    have := le.new a h1 h2
    rw [pl a ne] at this; exact this
  · have ne : a ≠ p := fun z => h1 (z ▸ hp)
    have := le.ff a (by rw [pl a ne]; exact h1) h2
    rw [pl a ne] at this; exact this
  · have ne : a ≠ p := fun z => ha (z ▸ hp)
    rw [low a ne]
    exact le.there a (by rw [pl a ne]; exact ha)
  · funext a
    by_cases z : a = p
    · subst z; rw [upd_same]; exact hH'
    · rw [upd_ne z, low a z]
end
end Ev

set_option linter.all false
set_option maxRecDepth 100000
/-! Jm: targets; list comprehensions. -/
namespace Ev
open PySem L2
/-! ### slots that are stored to -/
structure Same (ss : List Nat) (σ σ' : St) : Prop where
  len : σ'.length = σ.length
  at_ : ∀ i : Nat, i ∉ ss → σ'[i]? = σ[i]?
theorem Same.refl (ss : List Nat) (σ : St) : Same ss σ σ := ⟨rfl, fun _ _ => rfl⟩
theorem Same.trans {ss ss' : List Nat} {a b c : St} (h : Same ss a b) (h' : Same ss' b c) : Same (ss ++ ss') a c :=
  ⟨h'.len.trans h.len, fun i hi => by rw [List.mem_append, not_or] at hi; rw [h'.at_ i hi.2, h.at_ i hi.1]⟩
theorem Same.mono {ss ss' : List Nat} {a b : St} (h : Same ss a b) (i : ∀ x ∈ ss, x ∈ ss') : Same ss' a b := ⟨h.len, fun j hj => h.at_ j fun z => hj (i j z)⟩
theorem wipe_get (σ : St) : ∀ (vs : List Nat) (i : Nat), (L2.wipe σ vs)[i]? = if i ∈ vs then (if i < σ.length then some none else none) else σ[i]?
  | [], i => by simp [L2.wipe]
  | v :: vs, i => by
    unfold L2.wipe
    rw [List.getElem?_set, wipe_get σ vs i, wipe_length]
    by_cases h : v = i
    · subst h; simp
    · have h' : ¬ i = v := fun z => h z.symm
      simp [h, h']
theorem Same.wipe {ss vs : List Nat} {a b : St} (h : Same ss a b) (i : ∀ x ∈ ss, x ∈ vs) : L2.wipe b vs = L2.wipe a vs := by
  apply List.ext_getElem?
  intro j
  rw [wipe_get, wipe_get, h.len]
  split
  · rfl
  · rename_i hj
    exact h.at_ j fun z => hj (i j z)
theorem wipe_wipe (σ : St) (vs : List Nat) : L2.wipe (L2.wipe σ vs) vs = L2.wipe σ vs := by
  apply List.ext_getElem?
  intro j
  rw [wipe_get, wipe_get, wipe_length]
  split <;> rfl
def E.slots : E → List Nat
  | .var i => [i]
  | .tup es => E.slots es
  | .cons e es => E.slots e ++ E.slots es
  | _ => []
section
variable {ct : Nat → Option Addr} {X : Cx}
def tG (ct : Nat → Option Addr) (ss : List Nat) (f : D → Env → List Ob → R Env) : TG := fun v σ H Q => ∃ w d ρ ρ' st', w.H = H ∧ WOk ct w ∧ EnvR ct w ρ σ ∧ w.R ct d v ∧ f d ρ w.st = .ok ρ' st' ∧
  ∀ w' σ', Le w w' → WOk ct w' → w'.st = st' → EnvR ct w' ρ' σ' → Same ss σ σ' → Q σ' w'.H
def tGl (ct : Nat → Option Addr) (ss : List Nat) (f : List D → Env → List Ob → R Env) : TGs := fun vs σ H Q => ∃ w l ρ ρ' st', w.H = H ∧ WOk ct w ∧ EnvR ct w ρ σ ∧ w.Rs ct l vs ∧ f l ρ w.st = .ok ρ' st' ∧
  ∀ w' σ', Le w w' → WOk ct w' → w'.st = st' → EnvR ct w' ρ' σ' → Same ss σ σ' → Q σ' w'.H
theorem PG.imp {e : Expr} {t t' : TG} (h : PG X e t) (i : ∀ v σ H Q, t' v σ H Q → t v σ H Q) : PG X e t' := ⟨fun pins s σ H v u Q I r q => h.run pins s σ H v u Q I r (i v σ H Q q)⟩
theorem PGs.imp {e : List Expr} {t t' : TGs} (h : PGs X e t) (i : ∀ v σ H Q, t' v σ H Q → t v σ H Q) : PGs X e t' := ⟨fun pins s σ H v u Q I r q => h.run pins s σ H v u Q I r (i v σ H Q q)⟩
theorem JG_name {i : Nat} {x : Str} {pos : Pos} (hN : X.N.Nodup) (hi : X.N[i]? = some x) (hx : Loc X.env.scope x) (hf : X.fn x = true ∨ X.env.scope.names.lookup x = some .local) :
    PG X (.Name x pos) (tG ct [i] fun d ρ st => chk (decide (i < ρ.length)) (.ok (ρ.set i (some d)) st)) := by
  refine PG.imp (pg_name hN hi hx hf) fun v σ H Q q => ?_
  obtain ⟨w, d, ρ, ρ', st', rfl, ok, env, r, e, q⟩ := q
  obtain ⟨_, e⟩ := chk_of e
  cases e
  exact q w _ (Le.refl w) ok rfl (env.set i r) ⟨by simp, fun j hj => List.getElem?_set_ne (by simpa using fun z => hj (by simp [z]))⟩
theorem JGs_nil : PGs X [] (tGl ct [] fun l ρ st => match l with | [] => .ok ρ st | _ :: _ => .bad) := by
  refine PGs.imp pgs_nil fun v σ H Q q => ?_
  obtain ⟨w, l, ρ, ρ', st', rfl, ok, env, r, e, q⟩ := q
  cases l with
  | nil =>
    cases e
    have r : Rels ct w.m w.F [] v := r
    unfold Rels at r
    exact ⟨r, q w σ (Le.refl w) ok rfl env (Same.refl _ _)⟩
  | cons _ _ => cases e
theorem JGs_cons {e : Expr} {es : List Expr} {ss ss' : List Nat} {f : D → Env → List Ob → R Env} {g : List D → Env → List Ob → R Env} (h : PG X e (tG ct ss f)) (hs : PGs X es (tGl ct ss' g)) (hn : noStar e = true) :
    PGs X (e :: es) (tGl ct (ss ++ ss') fun l ρ st => match l with | d :: r => bnd (f d ρ st) fun ρ1 st1 => g r ρ1 st1 | [] => .bad) := by
  refine PGs.imp (pgs_cons h hs (by cases e <;> first | rfl | simp [noStar] at hn)) fun v σ H Q q => ?_
  obtain ⟨w, l, ρ, ρ', st', rfl, ok, env, r, e, q⟩ := q
  cases l with
  | nil => cases e
  | cons d l =>
    have r : Rels ct w.m w.F (d :: l) v := r
    unfold Rels at r
    obtain ⟨x, vs, rfl, r1, r2⟩ := r
    obtain ⟨ρ1, st1, e1, e⟩ := bnd_of e
    refine ⟨x, vs, rfl, w, d, ρ, ρ1, st1, rfl, ok, env, r1, e1, fun w1 σ1 le1 ok1 hs1 env1 sm1 => ?_⟩
    exact ⟨w1, l, ρ1, ρ', st', rfl, ok1, env1, Wd.Rs.le le1 r2, by rw [hs1]; exact e, fun w2 σ2 le2 ok2 hs2 env2 sm2 => q w2 σ2 (le1.trans le2) ok2 hs2 env2 (sm1.trans sm2)⟩
theorem each_len {env : PySem.Env} : ∀ es : List Expr, (assignEach es env).length = es.length
  | [] => rfl
  | e :: es => by cases e <;> exact congrArg (· + 1) (each_len es)
theorem each_star {env : PySem.Env} : ∀ {es : List Expr}, es.all noStar = true → (assignEach es env).findIdx? (·.1) = none
  | [], _ => rfl
  | e :: es, h => by
    rw [List.all_cons, Bool.and_eq_true] at h
    have ih := each_star (env := env) h.2
    have : ∃ f, assignEach (e :: es) env = (false, f) :: assignEach es env := by
      cases e <;> first | exact ⟨_, rfl⟩ | simp [noStar] at h
    obtain ⟨f, hf⟩ := this
    rw [hf, List.findIdx?_cons, ih]; rfl
theorem JG_tup {es : List Expr} {k : Nat} {pos : Pos} {ss : List Nat} {g : List D → Env → List Ob → R Env} (hc : X.calm = true) (hs : PGs X es (tGl ct ss g)) (hn : es.all noStar = true) (hl : ∀ l ρ st r st', g l ρ st = .ok r st' → l.length = es.length) :
    PG X (.Tuple es k pos) (tG ct ss fun d ρ st => match d with | .tup l => g l ρ st | _ => .bad) := by
  refine PG.imp (pg_tup hc hs (each_len es) (each_star hn)) fun v σ H Q q => ?_
  obtain ⟨w, d, ρ, ρ', st', rfl, ok, env, r, e, q⟩ := q
  cases d with
  | tup l =>
    obtain ⟨a, vs, rfl, h1, h2⟩ := tup_at ok r
    exact ⟨a, vs, rfl, .inl (.inl h1), by rw [← h2.length]; exact hl _ _ _ _ _ e, w, l, ρ, ρ', st', rfl, ok, env, h2, e, q⟩
  | _ => cases e
theorem JG_ix {o i : Expr} {pos : Pos} {fo fi : FE} (hu : X.A.units + 65 < cLine) (hp : plainIx i = true) (ho : PE X o (tE ct fo)) (hi : PE X i (tE ct fi)) :
    PG X (.Subscript o i pos) (tG ct [] fun d ρ st => bnd (fo ρ st) fun x st1 => bnd (fi ρ st1) fun y st2 => ofO (opSet st2 x y d) fun st3 => .ok ρ st3) := by
  refine PG.imp (pg_sub ho hi (snd_set (ct := ct) (by omega)) (fun v => ?_)) fun v σ H Q q => ?_
  · show assign (.Subscript o i pos) X.env v = _
    cases i <;> first | rfl | skip
    rename_i lo hi st p
    cases st with
    | none => simp [plainIx] at hp
    | some z => rfl
  · obtain ⟨w, d, ρ, ρ', st', rfl, ok, env, r, e, q⟩ := q
    obtain ⟨x, st1, e1, e⟩ := bnd_of e
    obtain ⟨y, st2, e2, e⟩ := bnd_of e
    obtain ⟨st3, e3, e⟩ := ofO_of e
    cases e
    refine ⟨w, ρ, x, st1, rfl, ok, env, e1, fun w1 v1 le1 ok1 hs1 r1 => ?_⟩
    refine ⟨w1, ρ, y, st2, rfl, ok1, env.le le1, by rw [hs1]; exact e2, fun w2 v2 le2 ok2 hs2 r2 => ?_⟩
    refine ⟨w2, x, y, d, st', rfl, ok2, Wd.R.le le2 r1, r2, Wd.R.le (le1.trans le2) r, by rw [hs2]; exact e3, fun w3 le3 ok3 hs3 => ?_⟩
    exact q w3 σ (le1.trans (le2.trans le3)) ok3 hs3 (env.le (le1.trans (le2.trans le3))) (Same.refl _ _)
/-! ### list comprehensions -/
theorem JTs_nil : PTs X [] (tT ct fun _ st => .ok true st) := ⟨fun pins s σ H Q I q => by
  obtain ⟨w, ρ, d, st', rfl, ok, env, e, q⟩ := q
  cases e
  exact pts_nil.run pins s σ w.H Q I (q w (Le.refl w) ok rfl)⟩
theorem JTs_one {c : Expr} {ft : FT} (h : PT X c (tT ct ft)) : PTs X [c] (tT ct ft) := pts_one h
/-- a block's context -/
abbrev Blk (X : Cx) (scope : Scope) (P : Cx → Prop) : Prop := ∀ (s : Shared) (H : Hp) (C : Addr) (cl : List (Str × Addr)) (fp : List Addr), P (X.blk s H scope (compEnvC scope cl C X.env) fp)
theorem lcD_cons {turn : D → List Ob → R (List D)} {d : D} {r : List D} {st : List Ob} {l : List D} {st' : List Ob} (h : lcD turn (d :: r) st = .ok l st') : ∃ l1 st1 l2, turn d st = .ok l1 st1 ∧ lcD turn r st1 = .ok l2 st' ∧ l = l1 ++ l2 := by
  unfold lcD at h
  obtain ⟨l1, st1, h1, h⟩ := bnd_of h
  obtain ⟨l2, st2, h2, h⟩ := bnd_of h
  cases h
  exact ⟨l1, st1, l2, h1, h2, rfl⟩
/-- a new list D, outside the state v -/
theorem lst_plus {v w : Wd} {D : Addr} {acc : List V} (ok : WOk ct v) (hD : v.H D = none) (le : Le (v.plus D (.lst acc)) w) (ok' : WOk ct w) : WOk ct (w.minus D) ∧ Le v (w.minus D) ∧ (w.minus D).H D = none ∧ w.H = upd (w.minus D).H D (.lst acc) :=
  minus_ok ok hD (fun _ h => nomatch h) le ok'
theorem lc_imp {own : List (Str × Nat)} {tgE : E} {fi : FA} {ft : FT} {fe : FE} (hss : ∀ x ∈ tgE.slots, x ∈ own.map (·.2)) {σ : St} {H : Hp} {Q : VK}
    (q : tN ct (fun ρ st => bnd (fi ρ st) fun items st1 => bnd (lcD (fun d s => ofO (tgs tgE d (wipeE ρ (own.map (·.2)))) fun ρ1 => bnd (ft ρ1 s) fun b s1 => (match b with
        | true => bnd (fe ρ1 s1) fun x s2 => .ok [x] s2
        | false => .ok [] s1)) items st1) fun l st2 => chk (decide (l.length ≤ szL)) (.ok (.lst l) st2)) σ H Q) :
    tLc (tI ct fi) (tG ct tgE.slots fun d ρ st => ofO (tgs tgE d ρ) fun ρ1 => .ok ρ1 st) (tT ct ft) (tE ct fe) (own.map (·.2)) σ H Q := by
  obtain ⟨w, ρ, o, st', rfl, wok, env, e, q⟩ := q
  obtain ⟨items, st1, e1, e⟩ := bnd_of e
  obtain ⟨l, st2, e2, e⟩ := bnd_of e
  obtain ⟨hz, e⟩ := chk_of e
  have hz := of_decide_eq_true hz
  cases e
  revert e2
  generalize hturn : (fun (d : D) (s : List Ob) => ofO (tgs tgE d (wipeE ρ (own.map (·.2)))) fun ρ1 => bnd (ft ρ1 s) fun b s1 => (match b with
        | true => bnd (fe ρ1 s1) fun x s2 => R.ok [x] s2
        | false => R.ok [] s1)) = turn
  intro e2
  refine ⟨w, ρ, items, st1, rfl, wok, env, e1, fun w1 J le1 ok1 hs1 hJ => fun D hD => ?_⟩
  let Inv0 : Nat → Hp → Prop := fun i H => ∃ v acc accV l2, Le w1 v ∧ WOk ct v ∧ v.H D = none ∧ H = upd v.H D (.lst accV) ∧ v.Rs ct acc accV ∧ lcD turn (items.drop i) v.st = .ok l2 st' ∧ l = acc ++ l2
  refine ⟨fun i m H => m = items.length - i ∧ i ≤ items.length ∧ Inv0 i H, ⟨items.length, by simp, Nat.zero_le _, w1, [], [], l, Le.refl _, ok1, hD, rfl, Rels.nil, by rw [List.drop_zero, hs1]; exact e2, rfl⟩, ?_⟩
  rintro i m H ⟨rfl, hle, v, acc, accV, l2, lev, okv, hvD, rfl, rs, el, hl⟩
  obtain ⟨pok, ple⟩ := plus_ok okv hvD (.lst accV)
  by_cases hlt : i < items.length
  · refine .inr ⟨hJ.go i (v.plus D (.lst accV)) hlt (lev.trans ple).lf pok, Inv0 (i + 1), fun H' p => ⟨items.length - (i + 1), by omega, rfl, hlt, p⟩, fun x H' y => ?_⟩
    have hd : items[i]? = some items[i] := List.getElem?_eq_getElem hlt
    obtain ⟨w2, le2, ok2, hs2, hH2, r2⟩ := hJ.yld i items[i] (v.plus D (.lst accV)) x H' hd (lev.trans ple).lf pok y
    rw [List.drop_eq_getElem_cons hlt] at el
    obtain ⟨l1, s1, l3, t1, t2, rfl⟩ := lcD_cons el
    rw [← hturn] at t1
    obtain ⟨ρ1, t3, t1⟩ := ofO_of t1
    obtain ⟨b, s2, t4, t1⟩ := bnd_of t1
    rw [← hH2]
    refine ⟨w2, items[i], wipeE ρ (own.map (·.2)), ρ1, w2.st, rfl, ok2, (env.wipe _).le (le1.trans (lev.trans (ple.trans le2))), r2, by simp only [t3, ofO_some], fun w3 σ3 le3 ok3 hs3 env3 sm3 => ⟨by rw [sm3.wipe hss, wipe_wipe], ?_⟩⟩
    refine ⟨w3, ρ1, b, s2, rfl, ok3, env3, by rw [hs3, hs2]; exact t4, fun w4 le4 ok4 hs4 => ?_⟩
    have leA : Le (v.plus D (.lst accV)) w4 := le2.trans (le3.trans le4)
    cases b with
    | true =>
      obtain ⟨z, s3, t5, t1⟩ := bnd_of t1
      cases t1
      refine ⟨w4, ρ1, z, _, rfl, ok4, env3.le le4, by rw [hs4]; exact t5, fun w5 y5 le5 ok5 hs5 r5 => ?_⟩
      obtain ⟨m1, m2, m3, m4⟩ := lst_plus okv hvD (leA.trans le5) ok5
      refine ⟨accV, by rw [m4]; exact upd_same, ?_, w5.minus D, acc ++ [z], accV ++ [y5], l3, lev.trans m2, m1, m3, by rw [m4, upd_upd], ?_, by rw [show (w5.minus D).st = w5.st from rfl, hs5]; exact t2, by rw [hl]; simp⟩
      · rw [szL_eq, ← rs.length]
        have := congrArg List.length hl
        simp at this
        omega
      · exact Rels.append (Wd.Rs.le m2 rs) (Rels.cons r5 Rels.nil)
    | false =>
      cases t1
      obtain ⟨m1, m2, m3, m4⟩ := lst_plus okv hvD leA ok4
      exact ⟨w4.minus D, acc, accV, l3, lev.trans m2, m1, m3, m4, Wd.Rs.le m2 rs, by rw [show (w4.minus D).st = w4.st from rfl, hs4]; exact t2, by rw [hl]; rfl⟩
  · have hi' : i = items.length := by omega
    subst hi'
    rw [List.drop_length] at el
    cases el
    refine .inl ⟨hJ.stop (v.plus D (.lst accV)) (lev.trans ple).lf pok, ?_⟩
    rw [hl, List.append_nil] at q
    exact q v D _ (le1.trans lev) okv rfl hvD ⟨accV, rfl, rs⟩
theorem JN_lc {elt tg iter : Expr} {ifs : List Expr} {scope : Scope} {own : List (Str × Nat)} {pos : Pos} {tgE : E} {fi : FA} {ft : FT} {fe : FE} (hc : X.calm = true) (hN : X.N.Nodup) (hi : PI X tg iter (tI ct fi)) (ok : BlkOk X.N X.env.scope scope own)
    (hg : Blk X scope fun Y => PG Y tg (tG ct tgE.slots fun d ρ st => ofO (tgs tgE d ρ) fun ρ1 => .ok ρ1 st)) (ht : Blk X scope fun Y => PTs Y ifs (tT ct ft)) (he : Blk X scope fun Y => PE Y elt (tE ct fe))
    (hss : ∀ x ∈ tgE.slots, x ∈ own.map (·.2)) (hs : ∀ x, foldedSetIterable iter X.env x = pure x) :
    PE X (.ListComp elt [⟨tg, iter, ifs, 0⟩] scope pos) (tN ct fun ρ st => bnd (fi ρ st) fun items st1 => bnd (lcD (fun d s => ofO (tgs tgE d (wipeE ρ (own.map (·.2)))) fun ρ1 => bnd (ft ρ1 s) fun b s1 => (match b with
        | true => bnd (fe ρ1 s1) fun x s2 => .ok [x] s2
        | false => .ok [] s1)) items st1) fun l st2 => chk (decide (l.length ≤ szL)) (.ok (.lst l) st2)) := by
  exact PE.imp (pe_lc hc hN hi ok hg ht he hs) fun σ H Q q => lc_imp hss q
end
end Ev

set_option linter.all false
set_option maxRecDepth 100000
/-! Jn: list comprehensions with two sources. -/
namespace Ev
open PySem L2
section
variable {ct : Nat → Option Addr} {X : Cx}
theorem EnvR.lf {w w' : Wd} (l : Lf w w') {ρ : Env} {σ : St} (r : EnvR ct w ρ σ) : EnvR ct w' ρ σ := ⟨r.len, fun i d h => by
  obtain ⟨v, h1, h2⟩ := r.get i d h
  exact ⟨v, h1, l.R h2⟩⟩
theorem lc2_imp {own : List (Str × Nat)} {own1 : List Nat} {tgE tgE1 : E} {fi fi1 : FA} {ft ft1 : FT} {fe : FE} (hss : ∀ x ∈ tgE.slots, x ∈ own.map (·.2)) (hss1 : ∀ x ∈ tgE1.slots, x ∈ own1) {σ : St} {H : Hp} {Q : VK}
    (q : tN ct (fun ρ st => bnd (fi ρ st) fun items st1 => bnd (lcD (fun d s => ofO (tgs tgE d (wipeE ρ (own.map (·.2)))) fun ρ1 => bnd (ft ρ1 s) fun b s1 => (match b with
        | true => bnd (fi1 ρ1 s1) fun items1 s2 => lcD (fun d1 s3 => ofO (tgs tgE1 d1 (wipeE ρ1 own1)) fun ρ2 => bnd (ft1 ρ2 s3) fun b1 s4 => (match b1 with
            | true => bnd (fe ρ2 s4) fun x s5 => .ok [x] s5
            | false => .ok [] s4)) items1 s2
        | false => .ok [] s1)) items st1) fun l st2 => chk (decide (l.length ≤ szL)) (.ok (.lst l) st2)) σ H Q) :
    tLc2 (tI ct fi) (tG ct tgE.slots fun d ρ st => ofO (tgs tgE d ρ) fun ρ1 => .ok ρ1 st) (tT ct ft) (tI ct fi1) (tG ct tgE1.slots fun d ρ st => ofO (tgs tgE1 d ρ) fun ρ1 => .ok ρ1 st) (tT ct ft1) (tE ct fe) (own.map (·.2)) own1 σ H Q := by
  obtain ⟨w, ρ, o, st', rfl, wok, env, e, q⟩ := q
  obtain ⟨items, st1, e1, e⟩ := bnd_of e
  obtain ⟨l, st2, e2, e⟩ := bnd_of e
  obtain ⟨hz, e⟩ := chk_of e
  have hz := of_decide_eq_true hz
  cases e
  revert e2
  generalize hturn : (fun (d : D) (s : List Ob) => ofO (tgs tgE d (wipeE ρ (own.map (·.2)))) fun ρ1 => bnd (ft ρ1 s) fun b s1 => (match b with
        | true => bnd (fi1 ρ1 s1) fun items1 s2 => lcD (fun d1 s3 => ofO (tgs tgE1 d1 (wipeE ρ1 own1)) fun ρ2 => bnd (ft1 ρ2 s3) fun b1 s4 => (match b1 with
            | true => bnd (fe ρ2 s4) fun x s5 => R.ok [x] s5
            | false => R.ok [] s4)) items1 s2
        | false => R.ok [] s1)) = turn
  intro e2
  refine ⟨w, ρ, items, st1, rfl, wok, env, e1, fun w1 J le1 ok1 hs1 hJ => fun D hD => ?_⟩
  let Inv0 : Nat → Hp → Prop := fun i H => ∃ v acc accV l2, Le w1 v ∧ WOk ct v ∧ v.H D = none ∧ H = upd v.H D (.lst accV) ∧ v.Rs ct acc accV ∧ lcD turn (items.drop i) v.st = .ok l2 st' ∧ l = acc ++ l2
  refine ⟨fun i m H => m = items.length - i ∧ i ≤ items.length ∧ Inv0 i H, ⟨items.length, by simp, Nat.zero_le _, w1, [], [], l, Le.refl _, ok1, hD, rfl, Rels.nil, by rw [List.drop_zero, hs1]; exact e2, rfl⟩, ?_⟩
  rintro i m H ⟨rfl, hle, v, acc, accV, l2, lev, okv, hvD, rfl, rs, el, hl⟩
  obtain ⟨pok, ple⟩ := plus_ok okv hvD (.lst accV)
  by_cases hlt : i < items.length
  · refine .inr ⟨hJ.go i (v.plus D (.lst accV)) hlt (lev.trans ple).lf pok, Inv0 (i + 1), fun H' p => ⟨items.length - (i + 1), by omega, rfl, hlt, p⟩, fun x H' y => ?_⟩
    have hd : items[i]? = some items[i] := List.getElem?_eq_getElem hlt
    obtain ⟨w2, le2, ok2, hs2, hH2, r2⟩ := hJ.yld i items[i] (v.plus D (.lst accV)) x H' hd (lev.trans ple).lf pok y
    rw [List.drop_eq_getElem_cons hlt] at el
    obtain ⟨l1, s1, l3, t1, t2, rfl⟩ := lcD_cons el
    rw [← hturn] at t1
    obtain ⟨ρ1, t3, t1⟩ := ofO_of t1
    obtain ⟨b, s2, t4, t1⟩ := bnd_of t1
    rw [← hH2]
    refine ⟨w2, items[i], wipeE ρ (own.map (·.2)), ρ1, w2.st, rfl, ok2, (env.wipe _).le (le1.trans (lev.trans (ple.trans le2))), r2, by simp only [t3, ofO_some], fun w3 σ3 le3 ok3 hs3 env3 sm3 => ⟨by rw [sm3.wipe hss, wipe_wipe], ?_⟩⟩
    refine ⟨w3, ρ1, b, s2, rfl, ok3, env3, by rw [hs3, hs2]; exact t4, fun w4 le4 ok4 hs4 => ?_⟩
    have leA : Le (v.plus D (.lst accV)) w4 := le2.trans (le3.trans le4)
    cases b with
    | true =>
      obtain ⟨items1, s3, t5, t1⟩ := bnd_of t1
      revert t1
      generalize hturn1 : (fun (d1 : Ev.D) (s3 : List Ob) => ofO (tgs tgE1 d1 (wipeE ρ1 own1)) fun ρ2 => bnd (ft1 ρ2 s3) fun b1 s4 => (match b1 with
            | true => bnd (fe ρ2 s4) fun x s5 => R.ok [x] s5
            | false => R.ok [] s4)) = turn1
      intro t1
      refine ⟨w4, ρ1, items1, s3, rfl, ok4, env3.le le4, by rw [hs4]; exact t5, fun w5 J1 le5 ok5 hs5 hJ1 => ?_⟩
      have leB : Le (v.plus D (.lst accV)) w5 := leA.trans le5
      obtain ⟨m1, m2, m3, m4⟩ := lst_plus okv hvD leB ok5
      let Inv2 : Nat → Hp → Prop := fun j H => ∃ u acc1 accV1 l4, Le (w5.minus D) u ∧ WOk ct u ∧ u.H D = none ∧ H = upd u.H D (.lst accV1) ∧ u.Rs ct (acc ++ acc1) accV1 ∧ lcD turn1 (items1.drop j) u.st = .ok l4 s1 ∧ l1 = acc1 ++ l4
      refine ⟨fun j k H => k = items1.length - j ∧ j ≤ items1.length ∧ Inv2 j H, ⟨items1.length, by simp, Nat.zero_le _, w5.minus D, [], accV, l1, Le.refl _, m1, m3, m4, by rw [List.append_nil]; exact Wd.Rs.le m2 rs, by rw [List.drop_zero, show (w5.minus D).st = w5.st from rfl, hs5]; exact t1, rfl⟩, ?_⟩
      rintro j k H ⟨rfl, hlej, u, acc1, accV1, l4, leu, oku, huD, rfl, rsu, elu, hl1⟩
      obtain ⟨puok, pule⟩ := plus_ok oku huD (.lst accV1)
      have lfu : Lf w5 (u.plus D (.lst accV1)) := ⟨leu.pre.trans pule.pre, fun a o h => pule.fr a o (leu.fr a o h)⟩
      by_cases hltj : j < items1.length
      · refine .inr ⟨hJ1.go j _ hltj lfu puok, Inv2 (j + 1), fun H' p => ⟨items1.length - (j + 1), by omega, rfl, hltj, p⟩, fun x1 H1' y1 => ?_⟩
        have hd1 : items1[j]? = some items1[j] := List.getElem?_eq_getElem hltj
        obtain ⟨w6, le6, ok6, hs6, hH6, r6⟩ := hJ1.yld j items1[j] _ x1 H1' hd1 lfu puok y1
        rw [List.drop_eq_getElem_cons hltj] at elu
        obtain ⟨k1, u1, k3, b1, b2, rfl⟩ := lcD_cons elu
        rw [← hturn1] at b1
        obtain ⟨ρ2, b3, b1⟩ := ofO_of b1
        obtain ⟨c, u2, b4, b1⟩ := bnd_of b1
        rw [← hH6]
        refine ⟨w6, items1[j], wipeE ρ1 own1, ρ2, w6.st, rfl, ok6, ((env3.le (le4.trans le5)).wipe own1).lf (lfu.trans le6.lf), r6, by simp only [b3, ofO_some], fun w7 σ7 le7 ok7 hs7 env7 sm7 => ⟨by rw [sm7.wipe hss1, wipe_wipe], ?_⟩⟩
        refine ⟨w7, ρ2, c, u2, rfl, ok7, env7, by rw [hs7, hs6]; exact b4, fun w8 le8 ok8 hs8 => ?_⟩
        have leC : Le (u.plus D (.lst accV1)) w8 := le6.trans (le7.trans le8)
        cases c with
        | true =>
          obtain ⟨z, u3, b5, b1⟩ := bnd_of b1
          cases b1
          refine ⟨w8, ρ2, z, _, rfl, ok8, env7.le le8, by rw [hs8]; exact b5, fun w9 y9 le9 ok9 hs9 r9 => ?_⟩
          obtain ⟨n1, n2, n3, n4⟩ := lst_plus oku huD (leC.trans le9) ok9
          refine ⟨accV1, by rw [n4]; exact upd_same, ?_, w9.minus D, acc1 ++ [z], accV1 ++ [y9], k3, leu.trans n2, n1, n3, by rw [n4, upd_upd], ?_, by rw [show (w9.minus D).st = w9.st from rfl, hs9]; exact b2, by rw [hl1]; simp⟩
          · rw [szL_eq, ← rsu.length]
            have h1 := congrArg List.length hl
            have h2 := congrArg List.length hl1
            simp at h1 h2 ⊢
            omega
          · rw [← List.append_assoc]
            exact Rels.append (Wd.Rs.le n2 rsu) (Rels.cons r9 Rels.nil)
        | false =>
          cases b1
          obtain ⟨n1, n2, n3, n4⟩ := lst_plus oku huD leC ok8
          exact ⟨w8.minus D, acc1, accV1, k3, leu.trans n2, n1, n3, n4, Wd.Rs.le n2 rsu, by rw [show (w8.minus D).st = w8.st from rfl, hs8]; exact b2, by rw [hl1]; rfl⟩
      · have hj' : j = items1.length := by omega
        subst hj'
        rw [List.drop_length] at elu
        cases elu
        rw [List.append_nil] at hl1
        subst hl1
        exact .inl ⟨hJ1.stop _ lfu puok, u, acc ++ l1, accV1, l3, lev.trans (m2.trans leu), oku, huD, rfl, rsu, t2, by rw [hl]; simp⟩
    | false =>
      cases t1
      obtain ⟨m1, m2, m3, m4⟩ := lst_plus okv hvD leA ok4
      exact ⟨w4.minus D, acc, accV, l3, lev.trans m2, m1, m3, m4, Wd.Rs.le m2 rs, by rw [show (w4.minus D).st = w4.st from rfl, hs4]; exact t2, by rw [hl]; rfl⟩
  · have hi' : i = items.length := by omega
    subst hi'
    rw [List.drop_length] at el
    cases el
    refine .inl ⟨hJ.stop (v.plus D (.lst accV)) (lev.trans ple).lf pok, ?_⟩
    rw [hl, List.append_nil] at q
    exact q v D _ (le1.trans lev) okv rfl hvD ⟨accV, rfl, rs⟩
theorem JN_lc2 {elt tg iter tg1 iter1 : Expr} {ifs ifs1 : List Expr} {scope : Scope} {own : List (Str × Nat)} {own1 : List Nat} {pos : Pos} {tgE tgE1 : E} {fi fi1 : FA} {ft ft1 : FT} {fe : FE} (hc : X.calm = true) (hN : X.N.Nodup) (hi : PI X tg iter (tI ct fi)) (ok : BlkOk X.N X.env.scope scope own)
    (hg : Blk X scope fun Y => PG Y tg (tG ct tgE.slots fun d ρ st => ofO (tgs tgE d ρ) fun ρ1 => .ok ρ1 st)) (ht : Blk X scope fun Y => PTs Y ifs (tT ct ft))
    (hi1 : Blk X scope fun Y => PI Y tg1 iter1 (tI ct fi1)) (hg1 : Blk X scope fun Y => PG Y tg1 (tG ct tgE1.slots fun d ρ st => ofO (tgs tgE1 d ρ) fun ρ1 => .ok ρ1 st)) (ht1 : Blk X scope fun Y => PTs Y ifs1 (tT ct ft1)) (he : Blk X scope fun Y => PE Y elt (tE ct fe))
    (hss : ∀ x ∈ tgE.slots, x ∈ own.map (·.2)) (hss1 : ∀ x ∈ tgE1.slots, x ∈ own1) (hv : ∀ i ∈ own1, i ∈ own.map (·.2)) (hs : ∀ x, foldedSetIterable iter X.env x = pure x) (hs1 : ∀ env x, foldedSetIterable iter1 env x = pure x) :
    PE X (.ListComp elt [⟨tg, iter, ifs, 0⟩, ⟨tg1, iter1, ifs1, 0⟩] scope pos) (tN ct fun ρ st => bnd (fi ρ st) fun items st1 => bnd (lcD (fun d s => ofO (tgs tgE d (wipeE ρ (own.map (·.2)))) fun ρ1 => bnd (ft ρ1 s) fun b s1 => (match b with
        | true => bnd (fi1 ρ1 s1) fun items1 s2 => lcD (fun d1 s3 => ofO (tgs tgE1 d1 (wipeE ρ1 own1)) fun ρ2 => bnd (ft1 ρ2 s3) fun b1 s4 => (match b1 with
            | true => bnd (fe ρ2 s4) fun x s5 => .ok [x] s5
            | false => .ok [] s4)) items1 s2
        | false => .ok [] s1)) items st1) fun l st2 => chk (decide (l.length ≤ szL)) (.ok (.lst l) st2)) := by
  exact PE.imp (pe_lc2 (vs1 := own1) hc hN hi ok hv hg ht hi1 hg1 ht1 he hs hs1) fun σ H Q q => lc2_imp hss hss1 q
end
end Ev

set_option linter.all false
set_option maxRecDepth 100000
/-! Jo: dict comprehensions, whatever their keys. -/
namespace Ev
open PySem PySem.Spec PyProof.Rows L2
section
variable {X : Cx}
/-- D[y] = z within a comprehension -/
theorem dictSet_put {pins : List (Addr × Obj)} {σ : L2.St} {H H' : Hp} {s : Shared} {E : Value → Shared → Prop} {D : Addr} {y z : V} {u r : Value} {Q : Unit → Shared → Prop} (hu : X.A.units + 1 < cLine) (I : L2.Inv X pins σ H s) (g : DPut H D y z H')
    (ry : RelV y u) (rz : RelV z r) (h : ∀ s', L2.Inv X pins σ H' s' → Q () s') : wpAny (model X.prog X.w) X.A (dictSet D u r) Q E s := by
  rcases g with ⟨kvs, k, e, rfl, l, rfl⟩ | ⟨kvs, k, b, e, rfl, eb, l, rfl⟩
  · exact d_dictSet I e l ry rz h
  · obtain rfl : u = Value.ref b := ry
    obtain ⟨_, hd, xs, rel, dd⟩ := dt_of I.hok e
    have hn : kvs.length = xs.length := Paired.length rel
    have room : (tupleKind (mixKind X.prog X.w)).room X.A := show X.A.units < cLine by omega
    apply wpAny_dictSet_heap (hsz := by omega) room (L2.key_of I.hok eb) dd
    intro h2 dd2 same
    apply h
    obtain ⟨ob, es, ep, e1, e2, e3, e4, _, e5⟩ := dd2
    apply d_write I (by rw [e]; exact True.intro) same ⟨ob, e1⟩
    have hl := length_putK kvs k z
    exact ⟨by omega, hd, _, (rel.put k eb rz).keeps (fun c ys ec => by rw [upd_ne (ne_of ec e (fun q => nomatch q))]; exact ec), ob, es, ep, e1, e2, e3, e4, e5⟩
/-- the reading; o0: the dict as it is made -/
def tDcG (wi : TI) (g : TG) (tt : TT) (tk tv : TE) (vs : List Nat) (o0 : HO) : TE := fun σ H Q => wi σ H fun J H1 => ∀ D, H1 D = none → ∃ W : Nat → Nat → Hp → Prop, (∃ m, W 0 m (upd H1 D o0)) ∧ ∀ i m H, W i m H →
  (J.stop i H ∧ Q (.ref D) H) ∨ (J.go i H ∧ ∃ Nx : Hp → Prop, (∀ H', Nx H' → ∃ m', m' < m ∧ W (i + 1) m' H') ∧ ∀ x H', J.yld i H x H' → g x (L2.wipe σ vs) H' fun σ2 H2 => L2.wipe σ2 vs = L2.wipe σ vs ∧ tt σ2 H2 fun b H3 =>
    if b = true then tk σ2 H3 fun y H4 => tv σ2 H4 fun z H5 => ∃ H6, DPut H5 D y z H6 ∧ Nx H6 else Nx H3)
theorem dcG_core {pins : List (Addr × Obj)} {σ : L2.St} {H : Hp} {Q : VK} {s : Shared} {kx vx tg iter : Expr} {ifs : List Expr} {scope : Scope} {own : List (Str × Nat)} {pos pos' : Pos} {wi : TI} {g : TG} {tt : TT} {tk tv : TE} {o0 : HO} {use : Option (Value → Sem Unit)} {Qf : Value → Shared → Prop}
    (hu : X.A.units + 1 < cLine) (ho : o0 = .dK [] ∨ o0 = .dT []) (calm : X.calm = true) (nd : X.N.Nodup) (hi : PI X tg iter wi) (ok : BlkOk X.N X.env.scope scope own)
    (hg : Blk X scope fun Y => PG Y tg g) (ht : Blk X scope fun Y => PTs Y ifs tt) (hk : Blk X scope fun Y => PE Y kx tk) (hv : Blk X scope fun Y => PE Y vx tv) (hs : ∀ x, foldedSetIterable iter X.env x = pure x)
    (I : L2.Inv X pins σ H s) (h : tDcG wi g tt tk tv (own.map (·.2)) o0 σ H Q)
    (back : ∀ L C t m K, L2.Inv X pins σ K t → Q (.ref L) K → t.heap.Ns C m → FpOk X pins K C → compPost (model X.prog X.w) X.A X.xe use Qf (.ref L) C (.ok .next) t) :
    wpAny (model X.prog X.w) X.A (comprehension (.DictComp kx vx [⟨tg, iter, ifs, 0⟩] scope pos) scope X.env pos' newDict false (eval iter X.env) use) Qf X.xe s := by
  have clo : ∀ y ∈ scope.names, y.2 = .free → ∃ c, X.env.cells.lookup y.1 = some c := by
    intro y hy e
    exact (ok.free y hy e).elim (fun k => I.ok.has _ (.inl k)) fun k => I.ok.has _ (.inr k)
  apply wpAny_comprehension_free (use := use) rfl hs (closure_ok clo) ok.kind
  · intro y hy e
    rw [ok.uniq y hy, e]
  apply thn (hi.run pins s σ H _ I h)
  intro xv s1 hx
  apply thn hx
  intro itv s2 h2
  obtain ⟨it, fp, tn, J, H2, rfl, I2, T, st2, f2, q⟩ := h2
  refine wpAny_newObj_type (newEnv_comp ?_)
  -- the dict
  have hDn : H2 s2.heap.objs.size = none := I2.hok.fresh (Nat.le_refl _)
  obtain ⟨W, ⟨m0, w0⟩, turn⟩ := q s2.heap.objs.size hDn
  revert w0 turn
  generalize eD : s2.heap.objs.size = D at hDn
  intro turn w0
  generalize e3 : ({ s2 with heap := s2.heap.push { cls := .type "dict", data := .dict #[] } } : Shared) = s3
  generalize eH3 : upd H2 D o0 = H3 at w0
  have hp3 : s3.heap = s2.heap.push { cls := .type "dict", data := .dict #[] } := by rw [← e3]
  have I3 : L2.Inv X pins σ H3 s3 := by
    subst eH3 e3 eD
    apply I2.laid (t' := s2.toks) (fun b o e => Heap.get?_push_of_some _ e) (Nat.le_refl _)
    rcases ho with rfl | rfl
    · exact dk_empty s2.heap I2.big
    · exact dt_empty s2.heap I2.big
  have old : ∀ b ∈ fp, b < s2.heap.objs.size := by
    intro b hb
    obtain ⟨o, e, _⟩ := T.obj _ _ st2 b hb
    exact Heap.lt_size e
  have f3 : ∀ b ∈ fp, FpOk X pins H3 b ∧ b < s3.heap.objs.size := by
    intro b hb
    have lt : b < s2.heap.objs.size := old b hb
    refine ⟨⟨?_, (f2 b hb).2⟩, ?_⟩
    · rw [← eH3, upd_ne (by rw [← eD]; exact Nat.ne_of_lt lt)]; exact (f2 b hb).1
    · rw [hp3, Heap.size_push]; exact Nat.lt_succ_of_lt lt
  have st3 : tn 0 s3.heap := T.keep _ _ _ st2 (by intro b _ o e; rw [hp3]; exact Heap.get?_push_of_some _ e)
  have I4 := block_start I3 ok nd f3
  generalize ecl : cellsFrom (s3.heap.objs.size + 1) scope.names (cloFrom X.env.cells scope.names []) = cl at I4
  have pg := hg s3 H3 s3.heap.objs.size cl fp
  have pt := ht s3 H3 s3.heap.objs.size cl fp
  have pk := hk s3 H3 s3.heap.objs.size cl fp
  have pv := hv s3 H3 s3.heap.objs.size cl fp
  subst e3
  generalize e3 : ({ s2 with heap := s2.heap.push { cls := .type "dict", data := .dict #[] } } : Shared) = s3 at *
  show codeAny (model X.prog X.w) X.A (.compStart (.DictComp kx vx [⟨tg, iter, ifs, 0⟩] scope pos) 0 (.ref it) (.ref D) (compEnvC scope cl s3.heap.objs.size X.env)) (compPost (model X.prog X.w) X.A X.xe use Qf (.ref D) s3.heap.objs.size) { s3 with heap := pushCells (s3.heap.push { cls := .type "dict", data := .dict #[] }) scope.names }
  have cL : (compEnvC scope cl s3.heap.objs.size X.env).locals = s3.heap.objs.size := rfl
  generalize ece : compEnvC scope cl s3.heap.objs.size X.env = ce at I4 pg pt pk pv cL ⊢
  generalize e4 : ({ s3 with heap := pushCells (s3.heap.push { cls := .type "dict", data := .dict #[] }) scope.names } : Shared) = s4 at I4 ⊢
  have st4 : tn 0 s4.heap := T.keep _ _ _ st3 (by intro b _ o e; rw [← e4]; exact pushCells_keeps _ _ _ _ (Heap.get?_push_of_some _ e))
  have none0 : ∀ b ∈ fp, H3 b = none := fun b hb => (f3 b hb).1.1
  -- the iterator's objects within the block
  have apart : ∀ {τ : L2.St} {K : Hp} {t : Shared}, L2.Inv (X.blk s3 H3 scope ce fp) [] τ K t → (∀ b ∈ fp, K b = none) → ∀ b ∈ fp, FpOk (X.blk s3 H3 scope ce fp) [] K b := by
    intro τ K t J' hn b hb
    refine ⟨hn b hb, (J'.ok.exf b hb).1, J'.ok.exfs b hb, .inl hb, (J'.ok.exf b hb).2, ?_⟩
    intro p hp
    exact absurd hp List.not_mem_nil
  suffices loop : codeAny (model X.prog X.w) X.A (.compLoop (.DictComp kx vx [⟨tg, iter, ifs, 0⟩] scope pos) 0 (.ref it) (.ref D) ce) (compPost (model X.prog X.w) X.A X.xe use Qf (.ref D) s3.heap.objs.size) s4 from
    codeAny_compStart_dict loop (T.self X.A 0 _ _ _ st4 loop)
  refine compLoop_anyD (fun n t => ∃ i K, L2.Inv (X.blk s3 H3 scope ce fp) [] (L2.wipe σ (own.map (·.2))) K t ∧ tn i t.heap ∧ (∀ b ∈ fp, K b = none) ∧ W i n K) ?_ m0 ⟨0, H3, I4, st4, none0, w0⟩
  intro n s5 h5
  obtain ⟨i, H5, I5, st5, n5, w5⟩ := h5
  rcases turn i n H5 w5 with ⟨stop, fin⟩ | ⟨go, Nx, hNx, step⟩
  · -- no more: back among the def's names
    apply thnF (T.done (X.blk s3 H3 scope ce fp) rfl rfl rfl calm i [] s5 _ H5 (fun _ _ => False) I5 (apart I5 n5) st5 stop)
    intro r s6 hr
    obtain ⟨rfl, I6⟩ := hr
    have I7 : L2.Inv X pins σ H5 s6 := by
      apply I3.call' (ch := fp) I6.os I6.base I6.hok I6.bare
      intro b hb
      obtain ⟨⟨_, a1, a2, a3, a4, a5⟩, _⟩ := f3 b hb
      exact ⟨a3, a1, a4, a5⟩
    obtain ⟨m, hn, _⟩ := I6.loc
    have hn2 : s6.heap.Ns ce.locals m := hn
    have free : H5 ce.locals = none := I6.free
    rw [cL] at hn2 free
    exact back D _ s6 m H5 I7 fin hn2 (I3.fpOk (Nat.le_refl _) free)
  · apply thnF (T.item (X.blk s3 H3 scope ce fp) rfl rfl rfl calm i [] s5 _ H5 (fun _ _ => False) I5 (apart I5 n5) st5 go)
    intro r s6 hr
    obtain ⟨u, rfl, h6⟩ := hr
    apply thnF h6
    intro _ s7 h7
    obtain ⟨x, H7, I7, r7, y7, st7, n7⟩ := h7
    have I7p := I7.pinned (apart I7 n7) (T.obj _ _ st7)
    apply thnF (pg.run _ s7 _ H7 x u _ I7p r7 (step x H7 y7))
    intro _ s8 h8
    obtain ⟨σ8, H8, I8, hw, q8⟩ := h8
    apply thnF (pt.run _ s8 σ8 H8 _ I8 q8)
    intro b s9 h9
    obtain ⟨H9, I9, q9⟩ := h9
    -- a turn's end
    have over : ∀ {t : Shared} {K : Hp}, L2.Inv (X.blk s3 H3 scope ce fp) ([] ++ pinsAt fp s7.heap) σ8 K t → Nx K → ∃ m, m < n ∧ ∃ i K, L2.Inv (X.blk s3 H3 scope ce fp) [] (L2.wipe σ (own.map (·.2))) K t ∧ tn i t.heap ∧ (∀ b ∈ fp, K b = none) ∧ W i m K := by
      intro t K J' nx
      obtain ⟨m', lt, w'⟩ := hNx K nx
      have pinned : ∀ b ∈ fp, ∀ o, s7.heap.get? b = some o → t.heap.get? b = some o ∧ K b = none := by
        intro b hb o e
        have z := J'.pin (b, o) (List.mem_append_right _ (List.mem_append_right _ (mem_pinsAt hb e)))
        exact ⟨z.1, z.2.1⟩
      refine ⟨m', lt, i + 1, K, (J'.unpinned (pins := [])).weak (by rw [← hw, wipe_length]) ?_, T.keep _ _ _ st7 (fun b hb o e => (pinned b hb o e).1), ?_, w'⟩
      · intro j v e
        rw [← hw] at e
        exact (wipe_some e).1
      · intro b hb
        obtain ⟨o, e, _⟩ := T.obj _ _ st7 b hb
        exact (pinned b hb o e).2
    cases b with
    | false =>
      rw [if_neg Bool.false_ne_true] at q9 ⊢
      exact over I9 q9
    | true =>
      rw [if_pos rfl] at q9 ⊢
      apply thnF (pk.run _ s9 σ8 H9 _ I9 q9)
      intro kv s10 h10
      obtain ⟨yk, H10, I10, r10, q10⟩ := h10
      apply thnF (pv.run _ s10 σ8 H10 _ I10 q10)
      intro vv s11 h11
      obtain ⟨yv, H11, I11, r11, H12, put, nx⟩ := h11
      exact dictSet_put (X := X.blk s3 H3 scope ce fp) hu I11 put r10 r11 fun s12 I12 => over I12 nx
theorem pe_dcG {kx vx tg iter : Expr} {ifs : List Expr} {scope : Scope} {own : List (Str × Nat)} {pos : Pos} {wi : TI} {g : TG} {tt : TT} {tk tv : TE} {o0 : HO} (hu : X.A.units + 1 < cLine) (ho : o0 = .dK [] ∨ o0 = .dT []) (calm : X.calm = true) (nd : X.N.Nodup) (hi : PI X tg iter wi) (ok : BlkOk X.N X.env.scope scope own)
    (hg : Blk X scope fun Y => PG Y tg g) (ht : Blk X scope fun Y => PTs Y ifs tt) (hk : Blk X scope fun Y => PE Y kx tk) (hv : Blk X scope fun Y => PE Y vx tv) (hs : ∀ x, foldedSetIterable iter X.env x = pure x) :
    PE X (.DictComp kx vx [⟨tg, iter, ifs, 0⟩] scope pos) (tDcG wi g tt tk tv (own.map (·.2)) o0) := by
  constructor
  intro pins s σ H Q I h
  rw [arm_eval_DictComp]
  apply dcG_core hu ho calm nd hi ok hg ht hk hv hs I h
  intro L C t m K I' q hn f
  refine ⟨m, hn, ?_⟩
  intro h6 same
  obtain ⟨g0, g1, g2, g3, g4, g5⟩ := f
  exact ⟨.ref L, K, I'.turned (t' := t.toks) (fun b o hb e => (same.2 b hb).trans e) g0 g1 g3 g4 g5, rfl, q⟩
/-- name = {..} on one line, the name a local -/
theorem ps_setDcG {i : Nat} {y : Str} {py spos : Pos} {kx vx tg iter : Expr} {ifs : List Expr} {scope : Scope} {own : List (Str × Nat)} {pos : Pos} {wi : TI} {g : TG} {tt : TT} {tk tv : TE} {o0 : HO} (hu : X.A.units + 1 < cLine) (ho : o0 = .dK [] ∨ o0 = .dT []) (calm : X.calm = true) (nd : X.N.Nodup)
    (hy : X.N[i]? = some y) (loc : X.env.scope.names.lookup y = some .local) (sw : swapsWith (.DictComp kx vx [⟨tg, iter, ifs, 0⟩] scope pos) (some (.Name y py)) spos.line X.env = pure true) (hi : PI X tg iter wi) (ok : BlkOk X.N X.env.scope scope own)
    (hg : Blk X scope fun Y => PG Y tg g) (ht : Blk X scope fun Y => PTs Y ifs tt) (hk : Blk X scope fun Y => PE Y kx tk) (hv : Blk X scope fun Y => PE Y vx tv) (hs : ∀ x, foldedSetIterable iter X.env x = pure x) :
    PS X (.Assign [.Name y py] (.DictComp kx vx [⟨tg, iter, ifs, 0⟩] scope pos) spos) (tAsg (tDcG wi g tt tk tv (own.map (·.2)) o0) (gName i)) := by
  constructor
  intro pins s σ H D I h
  rw [exec_Assign_Name_used _ _ _ _ sw]
  apply wpAny_bind
  apply wpAny_standAt
  apply wpAny_bind
  show wpAny _ X.A (do let _ ← comprehension (.DictComp kx vx [⟨tg, iter, ifs, 0⟩] scope pos) scope X.env (firstIterPos [⟨tg, iter, ifs, 0⟩] pos) newDict false (eval iter X.env) (some (assign (.Name y py) X.env)); _) _ _ s
  have h2 : tDcG wi g tt tk tv (own.map (·.2)) o0 σ H (fun x K => gName i x σ K D.nx) := h
  refine wpAny_bind (thn (dcG_core (use := some (assign (.Name y py) X.env)) (Qf := fun _ t => SP X pins D .next t) hu ho calm nd hi ok hg ht hk hv hs I h2 fun L C t m K I' q hn f => ?_) fun _ t q => wpAny_pure (wpAny_pure q))
  show wpAny _ _ (assign (.Name y py) X.env (.ref L)) _ _ _
  apply wpAny_assign_Name
  refine store_ok2 (v := V.ref L) I' nd hy (.inl loc) rfl (fun t2 I2 ⟨a, same, ha⟩ => ?_) (.inr loc)
  obtain ⟨g0, g1, g2, g3, g4, g5⟩ := f
  have ne : C ≠ a := by
    rcases ha with z | z
    · rw [z]; exact g1
    · intro e; exact g4 y a z e.symm
  refine ⟨m, hn.sameBut same ne, ?_⟩
  intro h3 same3
  exact ⟨_, K, I2.turned (t' := t2.toks) (fun b o hb e => (same3.2 b hb).trans e) g0 g1 g3 g4 g5, q⟩
end
end Ev
namespace Ev
open PySem L2
section
variable {ct : Nat → Option Addr} {X : Cx}
theorem putK_len (k : Ev.D) (ks : List Ev.D) : ks.length ≤ (D.putK k ks).length := by
  unfold D.putK; split <;> simp
theorem dcD_len {turn : Ev.D → List Ob → R (Option (Ev.D × Ev.D))} : ∀ {items : List Ev.D} {a : List Ev.D × List Ev.D} {st : List Ob} {p : List Ev.D × List Ev.D} {st' : List Ob}, dcD turn items a st = .ok p st' → a.1.length ≤ p.1.length
  | [], a, st, p, st', h => by simp [dcD] at h; rw [h.1]; exact Nat.le_refl _
  | d :: r, a, st, p, st', h => by
    unfold dcD at h
    obtain ⟨o, st1, h1, h⟩ := bnd_of h
    cases o with
    | none => exact dcD_len h
    | some kv =>
      obtain ⟨k, v⟩ := kv
      have := dcD_len h
      have h2 := putK_len k a.1
      simp only at this
      omega
theorem dct_nottup {m : List Addr} {F : Hp} {tk : Bool} {ks vs : List Ev.D} {h : HO} (r : ORel ct m F (.dct tk ks vs) h) : ∀ xs, h ≠ .tup xs := by
  intro xs e
  subst e
  rcases r with ⟨_, _, e, _⟩ | ⟨_, _, e, _⟩ <;> cases e
/-- a dict outside the state is written -/
theorem dct_put {v : Wd} (ok : WOk ct v) {D : Addr} (hD : v.H D = none) {tk : Bool} {ks vs : List Ev.D} {h : HO} (r : ORel ct v.m v.F (.dct tk ks vs) h) {x y : Ev.D} {xv yv : V} (rx : v.R ct x xv) (ry : v.R ct y yv) (hk : Ev.D.keyOk tk x = true) (hz : ks.length < sizeLine) :
    ∃ h', DPut (upd v.H D h) D xv yv (upd v.H D h') ∧ ORel ct v.m v.F (.dct tk (Ev.D.putK x ks) (Ev.D.putV x y ks vs)) h' := by
  rcases r with ⟨kvs, rfl, rfl, rfl, rs⟩ | ⟨kvs, rfl, rfl, rfl, rs⟩
  · obtain ⟨k, rfl, rfl⟩ := key_of (by simpa [Ev.D.keyOk] using hk) rx
    refine ⟨.dK (putK kvs k yv), .inl ⟨kvs, k, upd_same, rfl, by simpa using hz, by rw [upd_upd]⟩, .inl ⟨_, rfl, rfl, putKeys kD peq_kD k yv kvs, putVals kD peq_kD k ry rs⟩⟩
  · obtain ⟨k, b, rfl, rfl, hb⟩ := keyT_of (by simpa [Ev.D.keyOk] using hk) rx
    have hb2 := ok.sub _ _ hb
    refine ⟨.dT (putK kvs k yv), .inr ⟨kvs, k, b, upd_same, rfl, by rw [upd_ne (ne_of_none hb2 hD)]; exact hb2, by simpa using hz, by rw [upd_upd]⟩, .inr ⟨_, rfl, rfl, putKeys ktD peq_ktD k yv kvs, putVals ktD peq_ktD k ry rs⟩⟩
theorem dc_imp {own : List (Str × Nat)} {tk : Bool} {tgE : E} {fi : FA} {ft : FT} {fk fv : FE} {o0 : HO} (ho0 : ∀ (m : List Addr) F, ORel ct m F (.dct tk [] []) o0) (hss : ∀ x ∈ tgE.slots, x ∈ own.map (·.2)) {σ : L2.St} {H : Hp} {Q : VK}
    (q : tN ct (fun ρ st => bnd (fi ρ st) fun items st1 => bnd (dcD (fun d s => ofO (tgs tgE d (wipeE ρ (own.map (·.2)))) fun ρ1 => bnd (ft ρ1 s) fun b s1 => (match b with
        | true => bnd (fk ρ1 s1) fun x s2 => bnd (fv ρ1 s2) fun y s3 => chk (D.keyOk tk x) (.ok (some (x, y)) s3)
        | false => .ok none s1)) items ([], []) st1) fun p st2 => chk (decide (p.1.length ≤ 1000000)) (.ok (.dct tk p.1 p.2) st2)) σ H Q) :
    tDcG (tI ct fi) (tG ct tgE.slots fun d ρ st => ofO (tgs tgE d ρ) fun ρ1 => .ok ρ1 st) (tT ct ft) (tE ct fk) (tE ct fv) (own.map (·.2)) o0 σ H Q := by
  obtain ⟨w, ρ, o, st', rfl, wok, env, e, q⟩ := q
  obtain ⟨items, st1, e1, e⟩ := bnd_of e
  obtain ⟨p, st2, e2, e⟩ := bnd_of e
  obtain ⟨hz, e⟩ := chk_of e
  have hz := of_decide_eq_true hz
  cases e
  revert e2
  generalize hturn : (fun (d : Ev.D) (s : List Ob) => ofO (tgs tgE d (wipeE ρ (own.map (·.2)))) fun ρ1 => bnd (ft ρ1 s) fun b s1 => (match b with
        | true => bnd (fk ρ1 s1) fun x s2 => bnd (fv ρ1 s2) fun y s3 => chk (D.keyOk tk x) (R.ok (some (x, y)) s3)
        | false => R.ok none s1)) = turn
  intro e2
  refine ⟨w, ρ, items, st1, rfl, wok, env, e1, fun w1 J le1 ok1 hs1 hJ => fun D hD => ?_⟩
  let Inv0 : Nat → Hp → Prop := fun i H => ∃ v a h, Le w1 v ∧ WOk ct v ∧ v.H D = none ∧ H = upd v.H D h ∧ ORel ct v.m v.F (.dct tk a.1 a.2) h ∧ dcD turn (items.drop i) a v.st = .ok p st'
  refine ⟨fun i m H => m = items.length - i ∧ i ≤ items.length ∧ Inv0 i H, ⟨items.length, by simp, Nat.zero_le _, w1, ([], []), o0, Le.refl _, ok1, hD, rfl, ho0 _ _, by rw [List.drop_zero, hs1]; exact e2⟩, ?_⟩
  rintro i m H ⟨rfl, hle, v, a, h, lev, okv, hvD, rfl, ro, el⟩
  obtain ⟨pok, ple⟩ := plus_ok okv hvD h
  by_cases hlt : i < items.length
  · refine .inr ⟨hJ.go i (v.plus D h) hlt (lev.trans ple).lf pok, Inv0 (i + 1), fun H' q' => ⟨items.length - (i + 1), by omega, rfl, hlt, q'⟩, fun x H' y => ?_⟩
    have hd : items[i]? = some items[i] := List.getElem?_eq_getElem hlt
    obtain ⟨w2, le2, ok2, hs2, hH2, r2⟩ := hJ.yld i items[i] (v.plus D h) x H' hd (lev.trans ple).lf pok y
    rw [List.drop_eq_getElem_cons hlt] at el
    unfold dcD at el
    obtain ⟨ov, s1, t1, t2⟩ := bnd_of el
    rw [← hturn] at t1
    obtain ⟨ρ1, t3, t1⟩ := ofO_of t1
    obtain ⟨b, s2, t4, t1⟩ := bnd_of t1
    rw [← hH2]
    refine ⟨w2, items[i], wipeE ρ (own.map (·.2)), ρ1, w2.st, rfl, ok2, (env.wipe _).le (le1.trans (lev.trans (ple.trans le2))), r2, by simp only [t3, ofO_some], fun w3 σ3 le3 ok3 hs3 env3 sm3 => ⟨by rw [sm3.wipe hss, wipe_wipe], ?_⟩⟩
    refine ⟨w3, ρ1, b, s2, rfl, ok3, env3, by rw [hs3, hs2]; exact t4, fun w4 le4 ok4 hs4 => ?_⟩
    have leA : Le (v.plus D h) w4 := le2.trans (le3.trans le4)
    cases b with
    | true =>
      obtain ⟨kd, s3, t5, t1⟩ := bnd_of t1
      obtain ⟨vd, s4, t6, t1⟩ := bnd_of t1
      obtain ⟨hk, t1⟩ := chk_of t1
      cases t1
      refine ⟨w4, ρ1, kd, s3, rfl, ok4, env3.le le4, by rw [hs4]; exact t5, fun w5 kv le5 ok5 hs5 r5 => ?_⟩
      refine ⟨w5, ρ1, vd, _, rfl, ok5, env3.le (le4.trans le5), by rw [hs5]; exact t6, fun w6 vv le6 ok6 hs6 r6 => ?_⟩
      obtain ⟨m1, m2, m3, m4⟩ := minus_ok okv hvD (dct_nottup ro) (leA.trans (le5.trans le6)) ok6
      have hlen := dcD_len t2
      have h1 := putK_len kd a.1
      simp only at hlen
      have hsz : a.1.length < sizeLine := by rw [szL_eq]; unfold szL; omega
      have r5' : (w6.minus D).R ct kd kv := Wd.R.le le6 r5
      have r6' : (w6.minus D).R ct vd vv := r6
      obtain ⟨h', p1, p2⟩ := dct_put m1 m3 (ro.mono m2.pre m2.fr) r5' r6' hk hsz
      refine ⟨upd (w6.minus D).H D h', by rw [m4]; exact p1, w6.minus D, (Ev.D.putK kd a.1, Ev.D.putV kd vd a.1 a.2), h', lev.trans m2, m1, m3, rfl, p2, ?_⟩
      rw [show (w6.minus D).st = w6.st from rfl, hs6]; exact t2
    | false =>
      cases t1
      obtain ⟨m1, m2, m3, m4⟩ := minus_ok okv hvD (dct_nottup ro) leA ok4
      exact ⟨w4.minus D, a, h, lev.trans m2, m1, m3, m4, ro.mono m2.pre m2.fr, by rw [show (w4.minus D).st = w4.st from rfl, hs4]; exact t2⟩
  · have hi' : i = items.length := by omega
    subst hi'
    rw [List.drop_length] at el
    simp only [dcD] at el
    cases el
    exact .inl ⟨hJ.stop (v.plus D h) (lev.trans ple).lf pok, q v D h (le1.trans lev) okv rfl hvD ro⟩
theorem JN_dc {kx vx tg iter : Expr} {ifs : List Expr} {scope : Scope} {own : List (Str × Nat)} {pos : Pos} {tk : Bool} {tgE : E} {fi : FA} {ft : FT} {fk fv : FE} (hu : X.A.units + 65 < cLine) (hc : X.calm = true) (hN : X.N.Nodup) (hi : PI X tg iter (tI ct fi)) (ok : BlkOk X.N X.env.scope scope own)
    (hg : Blk X scope fun Y => PG Y tg (tG ct tgE.slots fun d ρ st => ofO (tgs tgE d ρ) fun ρ1 => .ok ρ1 st)) (ht : Blk X scope fun Y => PTs Y ifs (tT ct ft)) (hk : Blk X scope fun Y => PE Y kx (tE ct fk)) (hv : Blk X scope fun Y => PE Y vx (tE ct fv))
    (hss : ∀ x ∈ tgE.slots, x ∈ own.map (·.2)) (hs : ∀ x, foldedSetIterable iter X.env x = pure x) :
    PE X (.DictComp kx vx [⟨tg, iter, ifs, 0⟩] scope pos) (tN ct fun ρ st => bnd (fi ρ st) fun items st1 => bnd (dcD (fun d s => ofO (tgs tgE d (wipeE ρ (own.map (·.2)))) fun ρ1 => bnd (ft ρ1 s) fun b s1 => (match b with
        | true => bnd (fk ρ1 s1) fun x s2 => bnd (fv ρ1 s2) fun y s3 => chk (D.keyOk tk x) (.ok (some (x, y)) s3)
        | false => .ok none s1)) items ([], []) st1) fun p st2 => chk (decide (p.1.length ≤ 1000000)) (.ok (.dct tk p.1 p.2) st2)) := by
  have o0 : ∃ o0 : HO, (o0 = .dK [] ∨ o0 = .dT []) ∧ ∀ (m : List Addr) F, ORel ct m F (.dct tk [] []) o0 := by
    cases tk with
    | false => exact ⟨.dK [], .inl rfl, fun m F => .inl ⟨[], rfl, rfl, rfl, Rels.nil⟩⟩
    | true => exact ⟨.dT [], .inr rfl, fun m F => .inr ⟨[], rfl, rfl, rfl, Rels.nil⟩⟩
  obtain ⟨o0, ho, ho0⟩ := o0
  exact PE.imp (pe_dcG (by omega) ho hc hN hi ok hg ht hk hv hs) fun σ H Q q => dc_imp ho0 hss q
end
end Ev

set_option linter.all false
set_option maxRecDepth 100000
/-! Jp: statements. -/
namespace Ev
open PySem PySem.Spec PyProof.Rows L2
section
variable {ct : Nat → Option Addr} {X : Cx}
/-! ### a op= b by values -/
def rAug (ct : Nat → Option Addr) (op : Bop) : TIp := fun x y H Q => ∃ w a b z, w.H = H ∧ WOk ct w ∧ w.R ct a x ∧ w.R ct b y ∧ opAug op a b = some z ∧ ∀ v, w.R ct z v → Q v w.H
theorem snd_aug (op : Bop) : PIp X (bopP op) (rAug ct op) := by
  intro pins s σ H x y v u Q I rx ry h
  obtain ⟨w, a, b, z, rfl, ok, ra, rb, e, q⟩ := h
  cases a with
  | int i =>
    cases b with
    | int j =>
      have := rel_int ra; subst this
      have := rel_int rb; subst this
      have fin : ∀ k, z = .int k → Q (.int k) w.H := fun k hk => q _ (by subst hk; exact of_int)
      cases op with
      | add => simp [opAug, opInt] at e; exact iop_add pins s σ w.H _ _ v u Q I rx ry ⟨i, j, rfl, rfl, fin _ e.symm⟩
      | sub => simp [opAug, opInt] at e; exact iop_sub pins s σ w.H _ _ v u Q I rx ry ⟨i, j, rfl, rfl, fin _ e.symm⟩
      | mul =>
        simp only [opAug] at e
        split at e
        · rename_i h
          cases e
          exact iop_mul pins s σ w.H _ _ v u Q I rx ry ⟨i, j, rfl, rfl, by rcases h with h | h; exact .inl ⟨by omega, by omega⟩; exact .inr ⟨by omega, by omega⟩, fin _ rfl⟩
        · cases e
      | fdv =>
        simp only [opAug, opInt] at e
        split at e
        · rename_i h
          cases e
          exact iop_fdivW pins s σ w.H _ _ v u Q I rx ry ⟨i, j, rfl, rfl, wide_div h.1 h.2 (by decide) (by decide), fin _ rfl⟩
        · cases e
      | mod =>
        simp only [opAug, opInt] at e
        split at e
        · rename_i h
          cases e
          exact iop_mod pins s σ w.H _ _ v u Q I rx ry ⟨i, j, rfl, rfl, h, fin _ rfl⟩
        · cases e
      | pow => simp [opAug] at e
      | shl =>
        simp only [opAug, opInt] at e
        split at e
        · rename_i h
          cases e
          exact iop_shl pins s σ w.H _ _ v u Q I rx ry ⟨i, j, rfl, rfl, ⟨h.1, h.2.1, Nat.lt_of_lt_of_le h.2.2 (by decide)⟩, fin _ rfl⟩
        · cases e
      | shr =>
        simp only [opAug, opInt] at e
        split at e
        · rename_i h
          cases e
          exact iop_shr pins s σ w.H _ _ v u Q I rx ry ⟨i, j, rfl, rfl, h, fin _ rfl⟩
        · cases e
      | band => simp [opAug, opInt] at e; exact iop_and pins s σ w.H _ _ v u Q I rx ry ⟨i, j, rfl, rfl, fin _ e.symm⟩
      | bor => simp [opAug, opInt] at e; exact iop_or pins s σ w.H _ _ v u Q I rx ry ⟨i, j, rfl, rfl, fin _ e.symm⟩
      | bxor => simp [opAug, opInt] at e; exact iop_xor pins s σ w.H _ _ v u Q I rx ry ⟨i, j, rfl, rfl, fin _ e.symm⟩
    | _ => simp [opAug] at e
  | str a =>
    cases b with
    | str b =>
      have := rel_str ra; subst this
      have := rel_str rb; subst this
      cases op with
      | add =>
        simp only [opAug] at e
        split at e
        · rename_i hz
          cases e
          exact iop_add_str pins s σ w.H _ _ v u Q I rx ry ⟨a, b, rfl, rfl, by rw [szL_eq]; exact hz, q _ of_str⟩
        · cases e
      | _ => simp [opAug] at e
    | _ => simp [opAug] at e
  | _ => simp [opAug] at e
/-! ### o[i], by values -/
theorem get_lst {pins : List (Addr × Obj)} {s : Shared} {σ : L2.St} {H : Hp} {p : Addr} {xs : List V} {i : Int} {z : V} {iv : Value} {Q : VK} (I : L2.Inv X pins σ H s) (ri : RelV (.int i) iv) (hq : Rd H p (.lst xs)) (he : atI xs i = some z) (q : Q z H) :
    wpAny (model X.prog X.w) X.A (getItem (.ref p) iv) (EP X pins σ Q) X.xe s := by
  obtain ⟨t, rfl⟩ := ri
  obtain ⟨its, r, pl, hz⟩ := I.list (.inl hq)
  obtain ⟨j, h1, h2, h3, h4, h5⟩ := atI_get he
  obtain ⟨w, ew, rw'⟩ := r.get h2
  have hl := r.length
  have hn := line63
  have fin : EP X pins σ Q w s := ⟨z, H, I, rw', q⟩
  by_cases h0 : 0 ≤ i
  · have hj : i.toNat = j := by
      rw [seqIndex_of h0 h5] at h1
      exact Option.some.inj h1
    exact wpAny_getItem_list pl.isList h0 (by omega) (by rw [hj]; simpa using ew) fin
  · have hj : (i + (its.toArray.size : Int)).toNat = j := by
      rw [seqIndex_neg (by omega) h4] at h1
      rw [List.size_toArray, ← hl]
      exact Option.some.inj h1
    exact wpAny_getItem_list_neg pl.isList (by omega) (by rw [List.size_toArray] <;> omega) (by omega) (by rw [hj]; simpa using ew) fin
def rGet (ct : Nat → Option Addr) : V → V → Hp → VK → Prop := fun x y H Q => ∃ w a b z, w.H = H ∧ WOk ct w ∧ w.R ct a x ∧ w.R ct b y ∧ opIx w.st a b = some z ∧ ((dctOf w.st a).isSome = true ∨ (lstOf w.st a).isSome = true) ∧ ∀ v, w.R ct z v → Q v w.H
theorem snd_get (hu : X.A.units + 65 < cLine) : PGet X (rGet ct) := by
  intro pins s σ H o i ov iv Q I ro ri h
  obtain ⟨w, a, b, z, rfl, ok, ra, rb, e, hk, q⟩ := h
  unfold opIx at e
  split at e
  · rename_i tk ks vs hd
    split at e
    · rename_i hkk
      obtain ⟨p, o', rfl, g, _, hf, _⟩ := dct_look ok hd hkk ra rb
      obtain ⟨uv, rfl, ru⟩ := hf _ e
      obtain rfl : ov = Value.ref p := ro
      exact d_getItem (by omega) I g ri fun w' s' I' rw' => ⟨uv, w.H, I', rw', q uv ru⟩
    · cases e
  · rename_i hd
    split at e
    · rename_i j
      have := rel_int rb; subst this
      have hl : (lstOf w.st a).isSome = true := by
        rcases hk with hk | hk
        · rw [hd] at hk; cases hk
        · exact hk
      obtain ⟨l, hl⟩ := Option.isSome_iff_exists.mp hl
      have hs : seqOf w.st a = some l := by
        cases a <;> simp_all [lstOf, seqOf]
      rw [hs] at e
      simp only [Option.bind_eq_some_iff] at e
      obtain ⟨k, e1, e2⟩ := e
      obtain ⟨p, vs, rfl, hp, rs⟩ := lst_at ok hl ra
      obtain ⟨uv, h1, h2⟩ := Rels.get rs e2
      obtain rfl : ov = Value.ref p := ro
      exact get_lst I ri hp (by unfold atI; rw [ixN_eq, ← rs.length, e1]; exact h1) (q uv h2)
    · cases e

/-! ### statements -/
/-- what a statement's end is asked for -/
def finS (ct : Nat → Option Addr) (D : Ends) (fl : Fl) (w : Wd) (σ : L2.St) : Prop :=
  match fl with
  | .nx => D.nx σ w.H
  | .brk => D.bk σ w.H
  | .cnt => D.ct σ w.H
  | .ret d => ∀ v, w.R ct d v → D.rt v w.H
abbrev FS := Env → List Ob → R (Fl × Env)
def tS (ct : Nat → Option Addr) (f : FS) : TS := fun D σ H => ∃ w ρ p st', w.H = H ∧ WOk ct w ∧ EnvR ct w ρ σ ∧ f ρ w.st = .ok p st' ∧ ∀ w' σ', Le w w' → WOk ct w' → w'.st = st' → EnvR ct w' p.2 σ' → finS ct D p.1 w' σ'
theorem PS.imp {e : Stmt} {t t' : TS} (h : PS X e t) (i : ∀ D σ H, t' D σ H → t D σ H) : PS X e t' := ⟨fun pins s σ H D I q => h.run pins s σ H D I (i D σ H q)⟩
theorem PSs.imp {e : List Stmt} {t t' : TS} (h : PSs X e t) (i : ∀ D σ H, t' D σ H → t D σ H) : PSs X e t' := ⟨fun pins s σ H D I q => h.run pins s σ H D I (i D σ H q)⟩
theorem JSs_nil : PSs X [] (tS ct fun ρ st => .ok (.nx, ρ) st) := by
  refine PSs.imp pss_nil fun D σ H q => ?_
  obtain ⟨w, ρ, p, st', rfl, ok, env, e, q⟩ := q
  cases e
  exact q w σ (Le.refl w) ok rfl env
theorem JS_pass {pos : Pos} : PS X (.Pass pos) (tS ct fun ρ st => .ok (.nx, ρ) st) := by
  refine PS.imp ps_pass fun D σ H q => ?_
  obtain ⟨w, ρ, p, st', rfl, ok, env, e, q⟩ := q
  cases e
  exact q w σ (Le.refl w) ok rfl env
theorem JSs_one {st : Stmt} {f : FS} (h : PS X st (tS ct f)) : PSs X [st] (tS ct f) := pss_one h
theorem JSs_cons {st : Stmt} {rest : List Stmt} {f g : FS} (h : PS X st (tS ct f)) (hs : PSs X rest (tS ct g)) : PSs X (st :: rest) (tS ct fun ρ s => bnd (f ρ s) fun p st1 => match p.1 with
      | .nx => g p.2 st1
      | .brk => .ok (.brk, p.2) st1
      | .cnt => .ok (.cnt, p.2) st1
      | .ret v => .ok (.ret v, p.2) st1) := by
  refine PSs.imp (pss_cons h hs) fun D σ H q => ?_
  obtain ⟨w, ρ, p, st', rfl, ok, env, e, q⟩ := q
  obtain ⟨p1, st1, e1, e⟩ := bnd_of e
  obtain ⟨fl, ρ1⟩ := p1
  refine ⟨w, ρ, (fl, ρ1), st1, rfl, ok, env, e1, fun w1 σ1 le1 ok1 hs1 env1 => ?_⟩
  cases fl with
  | nx => exact ⟨w1, ρ1, p, st', rfl, ok1, env1, by rw [hs1]; exact e, fun w2 σ2 le2 ok2 hs2 env2 => q w2 σ2 (le1.trans le2) ok2 hs2 env2⟩
  | brk => cases e; exact q w1 σ1 le1 ok1 hs1 env1
  | cnt => cases e; exact q w1 σ1 le1 ok1 hs1 env1
  | ret d => cases e; exact fun v rv => q w1 σ1 le1 ok1 hs1 env1 v rv
theorem JS_break {pos : Pos} : PS X (.Break pos) (tS ct fun ρ st => .ok (.brk, ρ) st) := by
  refine PS.imp ps_break fun D σ H q => ?_
  obtain ⟨w, ρ, p, st', rfl, ok, env, e, q⟩ := q
  cases e
  exact q w σ (Le.refl w) ok rfl env
theorem JS_cont {pos : Pos} : PS X (.Continue pos) (tS ct fun ρ st => .ok (.cnt, ρ) st) := by
  refine PS.imp ps_continue fun D σ H q => ?_
  obtain ⟨w, ρ, p, st', rfl, ok, env, e, q⟩ := q
  cases e
  exact q w σ (Le.refl w) ok rfl env
theorem JS_ret {e : Expr} {pos : Pos} {fa : FE} (ha : PE X e (tE ct fa)) : PS X (.Return (some e) pos) (tS ct fun ρ st => bnd (fa ρ st) fun x st1 => .ok (.ret x, ρ) st1) := by
  refine PS.imp (ps_ret ha) fun D σ H q => ?_
  obtain ⟨w, ρ, p, st', rfl, ok, env, e, q⟩ := q
  obtain ⟨x, st1, e1, e⟩ := bnd_of e
  cases e
  exact ⟨w, ρ, x, st', rfl, ok, env, e1, fun w1 v le1 ok1 hs1 r1 => q w1 σ le1 ok1 hs1 (env.le le1) v r1⟩
theorem JS_retN {pos : Pos} : PS X (.Return none pos) (tS ct fun ρ st => .ok (.ret .non, ρ) st) := by
  refine PS.imp ps_retN fun D σ H q => ?_
  obtain ⟨w, ρ, p, st', rfl, ok, env, e, q⟩ := q
  cases e
  exact q w σ (Le.refl w) ok rfl env .non of_non
theorem JS_expr {e : Expr} {pos : Pos} {fa : FE} (ha : PE X e (tE ct fa)) (hs : swapsWith e none pos.line X.env = pure false) : PS X (.Expr e pos) (tS ct fun ρ st => bnd (fa ρ st) fun _ st1 => .ok (.nx, ρ) st1) := by
  refine PS.imp (ps_expr ha hs) fun D σ H q => ?_
  obtain ⟨w, ρ, p, st', rfl, ok, env, e, q⟩ := q
  obtain ⟨x, st1, e1, e⟩ := bnd_of e
  cases e
  exact ⟨w, ρ, x, st', rfl, ok, env, e1, fun w1 v le1 ok1 hs1 r1 => q w1 σ le1 ok1 hs1 (env.le le1)⟩
theorem JS_if {c : Expr} {a b : List Stmt} {pos : Pos} {ft : FT} {fa fb : FS} (hc : PT X c (tT ct ft)) (ha : PSs X a (tS ct fa)) (hb : PSs X b (tS ct fb)) :
    PS X (.If c a b pos) (tS ct fun ρ st => bnd (ft ρ st) fun v st1 => match v with | true => fa ρ st1 | false => fb ρ st1) := by
  refine PS.imp (ps_if hc ha hb) fun D σ H q => ?_
  obtain ⟨w, ρ, p, st', rfl, ok, env, e, q⟩ := q
  obtain ⟨t, st1, e1, e⟩ := bnd_of e
  refine ⟨w, ρ, t, st1, rfl, ok, env, e1, fun w1 le1 ok1 hs1 => ?_⟩
  cases t with
  | true => exact ⟨w1, ρ, p, st', rfl, ok1, env.le le1, by rw [hs1]; exact e, fun w2 σ2 le2 ok2 hs2 env2 => q w2 σ2 (le1.trans le2) ok2 hs2 env2⟩
  | false => exact ⟨w1, ρ, p, st', rfl, ok1, env.le le1, by rw [hs1]; exact e, fun w2 σ2 le2 ok2 hs2 env2 => q w2 σ2 (le1.trans le2) ok2 hs2 env2⟩
/-- code that is never come to -/
theorem JS_stop {st : Stmt} : PS X st (tS ct fun _ _ => .bad) := PS.imp ps_never fun D σ H q => by
  obtain ⟨w, ρ, p, st', rfl, ok, env, e, q⟩ := q
  cases e
theorem each_cons {e : Expr} {es : List Expr} {env : PySem.Env} (h : noStar e = true) : assignEach (e :: es) env = (false, assign e env) :: assignEach es env := by
  cases e <;> first | rfl | simp [noStar] at h
theorem JS_asg {tg e : Expr} {pos : Pos} {ss : List Nat} {fa : FE} {g : Ev.D → Env → List Ob → R Env} (ha : PE X e (tE ct fa)) (hg : PG X tg (tG ct ss g)) (hs : swapsWithSole [tg] e pos.line X.env = pure false) (hw : swappedStores [tg] e X.env = pure none) (h1 : noStar tg = true) :
    PS X (.Assign [tg] e pos) (tS ct fun ρ st => bnd (fa ρ st) fun x st1 => bnd (g x ρ st1) fun ρ1 st2 => .ok (.nx, ρ1) st2) := by
  refine PS.imp (ps_asg ha hg hs hw (by rw [each_cons h1]; rfl)) fun D σ H q => ?_
  obtain ⟨w, ρ, p, st', rfl, ok, env, e, q⟩ := q
  obtain ⟨x, st1, e1, e⟩ := bnd_of e
  obtain ⟨ρ1, st2, e2, e⟩ := bnd_of e
  cases e
  refine ⟨w, ρ, x, st1, rfl, ok, env, e1, fun w1 v le1 ok1 hs1 r1 => ?_⟩
  exact ⟨w1, x, ρ, ρ1, st', rfl, ok1, env.le le1, r1, by rw [hs1]; exact e2, fun w2 σ2 le2 ok2 hs2 env2 _ => q w2 σ2 (le1.trans le2) ok2 hs2 env2⟩
theorem JS_asg2 {t1 t2 e : Expr} {pos : Pos} {ss ss' : List Nat} {fa : FE} {g g' : Ev.D → Env → List Ob → R Env} (ha : PE X e (tE ct fa)) (hg : PG X t1 (tG ct ss g)) (hg' : PG X t2 (tG ct ss' g')) (hw : swappedStores [t1, t2] e X.env = pure none) (h1 : noStar t1 = true) (h2 : noStar t2 = true) :
    PS X (.Assign [t1, t2] e pos) (tS ct fun ρ st => bnd (fa ρ st) fun x st1 => bnd (g x ρ st1) fun ρ1 st2 => bnd (g' x ρ1 st2) fun ρ2 st3 => .ok (.nx, ρ2) st3) := by
  refine PS.imp (ps_asg2 ha hg hg' (by rw [each_cons h1, each_cons h2]; rfl) hw) fun D σ H q => ?_
  obtain ⟨w, ρ, p, st', rfl, ok, env, e, q⟩ := q
  obtain ⟨x, st1, e1, e⟩ := bnd_of e
  obtain ⟨ρ1, st2, e2, e⟩ := bnd_of e
  obtain ⟨ρ2, st3, e3, e⟩ := bnd_of e
  cases e
  refine ⟨w, ρ, x, st1, rfl, ok, env, e1, fun w1 v le1 ok1 hs1 r1 => ?_⟩
  refine ⟨w1, x, ρ, ρ1, st2, rfl, ok1, env.le le1, r1, by rw [hs1]; exact e2, fun w2 σ2 le2 ok2 hs2 env2 _ => ?_⟩
  exact ⟨w2, x, ρ1, ρ2, st', rfl, ok2, env2, Wd.R.le le2 r1, by rw [hs2]; exact e3, fun w3 σ3 le3 ok3 hs3 env3 _ => q w3 σ3 (le1.trans (le2.trans le3)) ok3 hs3 env3⟩
theorem JS_aug {i : Nat} {x : Str} {e : Expr} {op : Bop} {pos pos' : Pos} {fa : FE} (hN : X.N.Nodup) (hi : X.N[i]? = some x) (hx : Loc X.env.scope x) (hf : X.fn x = true ∨ X.env.scope.names.lookup x = some .local) (ha : PE X e (tE ct fa)) :
    PS X (.AugAssign (.Name x pos') (bopP op) e pos) (tS ct fun ρ st => match ρ[i]? with
      | some (some x) => bnd (fa ρ st) fun y st1 => ofO (opAug op x y) fun z => .ok (.nx, ρ.set i (some z)) st1
      | _ => .bad) := by
  refine PS.imp (ps_aug hN hi hx ha (snd_aug (ct := ct) op) hf) fun D σ H q => ?_
  obtain ⟨w, ρ, p, st', rfl, ok, env, e, q⟩ := q
  simp only at e
  split at e
  · rename_i d hd
    obtain ⟨y, st1, e1, e⟩ := bnd_of e
    obtain ⟨z, e2, e⟩ := ofO_of e
    cases e
    obtain ⟨v, h1, h2⟩ := env.get i d hd
    refine ⟨v, h1, w, ρ, y, st', rfl, ok, env, e1, fun w1 u le1 ok1 hs1 r1 => ?_⟩
    exact ⟨w1, d, y, z, rfl, ok1, Wd.R.le le1 h2, r1, e2, fun zv rz => q w1 _ le1 ok1 hs1 ((env.le le1).set i rz)⟩
  · cases e
theorem JS_augS {o i e : Expr} {op : Bop} {tpos pos : Pos} {fo fi fe : FE} (hu : X.A.units + 65 < cLine) (hp : plainIx i = true) (ho : PE X o (tE ct fo)) (hi : PE X i (tE ct fi)) (he : PE X e (tE ct fe)) :
    PS X (.AugAssign (.Subscript o i tpos) (bopP op) e pos) (tS ct fun ρ st => bnd (fo ρ st) fun x st1 => bnd (fi ρ st1) fun y st2 => ofO (opIx st2 x y) fun z => bnd (fe ρ st2) fun w st3 => ofO (opAug op z w) fun v => ofO (opSet st3 x y v) fun st4 => .ok (.nx, ρ) st4) := by
  refine PS.imp (ps_augS ho hi (snd_get (ct := ct) hu) he (snd_aug (ct := ct) op) (snd_set (ct := ct) (by omega)) (fun ov iv new => ?_)) fun D σ H q => ?_
  · unfold augStore
    split
    · simp [plainIx] at hp
    · rfl
  · obtain ⟨w, ρ, p, st', rfl, ok, env, e, q⟩ := q
    obtain ⟨x, st1, e1, e⟩ := bnd_of e
    obtain ⟨y, st2, e2, e⟩ := bnd_of e
    obtain ⟨z, e3, e⟩ := ofO_of e
    obtain ⟨wd, st3, e4, e⟩ := bnd_of e
    obtain ⟨v, e5, e⟩ := ofO_of e
    obtain ⟨st4, e6, e⟩ := ofO_of e
    cases e
    have hkind : (dctOf st2 x).isSome = true ∨ (lstOf st2 x).isSome = true := by
      cases x with
      | ref n =>
        unfold opIx at e3
        split at e3
        · rename_i h; exact .inl (by rw [h]; rfl)
        · split at e3
          · split at e3
            · rename_i l h; exact .inr (by simpa [seqOf, lstOf] using Option.isSome_iff_exists.mpr ⟨l, h⟩)
            · cases e3
          · cases e3
      | _ => simp [opSet] at e6
    refine ⟨w, ρ, x, st1, rfl, ok, env, e1, fun w1 xv le1 ok1 hs1 r1 => ?_⟩
    refine ⟨w1, ρ, y, st2, rfl, ok1, env.le le1, by rw [hs1]; exact e2, fun w2 yv le2 ok2 hs2 r2 => ?_⟩
    refine ⟨w2, x, y, z, rfl, ok2, Wd.R.le le2 r1, r2, by rw [hs2]; exact e3, by rw [hs2]; exact hkind, fun zv r3 => ?_⟩
    refine ⟨w2, ρ, wd, st3, rfl, ok2, env.le (le1.trans le2), by rw [hs2]; exact e4, fun w3 wv le3 ok3 hs3 r4 => ?_⟩
    refine ⟨w3, z, wd, v, rfl, ok3, Wd.R.le le3 r3, r4, e5, fun vv r5 => ?_⟩
    refine ⟨w3, x, y, v, st', rfl, ok3, Wd.R.le (le2.trans le3) r1, Wd.R.le le3 r2, r5, by rw [hs3]; exact e6, fun w4 le4 ok4 hs4 => ?_⟩
    exact q w4 σ (le1.trans (le2.trans (le3.trans le4))) ok4 hs4 (env.le (le1.trans (le2.trans (le3.trans le4))))
end
end Ev

set_option linter.all false
set_option maxRecDepth 100000
/-! Jq: loops, stores of comprehensions, swapped stores, fields. -/
namespace Ev
open PySem L2
section
variable {ct : Nat → Option Addr} {X : Cx}
theorem JS_for {tg iter : Expr} {body : List Stmt} {pos : Pos} {tgE : E} {fi : FA} {fb : FS} (hp : PassesOwn (model X.prog X.w) X.A X.env X.xe) (hc : X.calm = true) (hi : PI X tg iter (tI ct fi)) (hg : PG X tg (tG ct tgE.slots fun d ρ st => ofO (tgs tgE d ρ) fun ρ1 => .ok ρ1 st)) (hb : PSs X body (tS ct fb))
    (hs : ∀ x, foldedSetIterable iter X.env x = pure x) :
    PS X (.For tg iter body [] pos) (tS ct fun ρ st => bnd (fi ρ st) fun items st1 => forD (fun d ρ s => ofO (tgs tgE d ρ) fun ρ1 => fb ρ1 s) items ρ st1) := by
  refine PS.imp (ps_for hp hc hi hg hb hs) fun D σ H q => ?_
  obtain ⟨w, ρ, p, st', rfl, ok, env, e, q⟩ := q
  obtain ⟨items, st1, e1, e⟩ := bnd_of e
  refine ⟨w, ρ, items, st1, rfl, ok, env, e1, fun w1 J le1 ok1 hs1 hJ => ?_⟩
  let Inv0 : Nat → St → Hp → Prop := fun i σ H => ∃ v ρi, Le w1 v ∧ WOk ct v ∧ v.H = H ∧ EnvR ct v ρi σ ∧ forD (fun d ρ s => ofO (tgs tgE d ρ) fun ρ1 => fb ρ1 s) (items.drop i) ρi v.st = .ok p st'
  refine ⟨fun i m σ H => m = items.length - i ∧ i ≤ items.length ∧ Inv0 i σ H, ⟨items.length, by simp, Nat.zero_le _, w1, ρ, Le.refl _, ok1, rfl, env.le le1, by rw [List.drop_zero, hs1]; exact e⟩, ?_⟩
  rintro i m σ' H ⟨rfl, hle, v, ρi, lev, okv, rfl, envv, el⟩
  by_cases hlt : i < items.length
  · refine .inr ⟨hJ.go i v hlt lev.lf okv, Inv0 (i + 1), fun σ2 H' q' => ⟨items.length - (i + 1), by omega, rfl, hlt, q'⟩, fun x H' y => ?_⟩
    have hd : items[i]? = some items[i] := List.getElem?_eq_getElem hlt
    obtain ⟨w2, le2, ok2, hs2, hH2, r2⟩ := hJ.yld i items[i] v x H' hd lev.lf okv y
    rw [List.drop_eq_getElem_cons hlt] at el
    unfold forD at el
    obtain ⟨p1, s1, t1, t2⟩ := bnd_of el
    obtain ⟨ρ1, t3, t1⟩ := ofO_of t1
    rw [← hH2]
    refine ⟨w2, items[i], ρi, ρ1, w2.st, rfl, ok2, envv.le le2, r2, by simp only [t3, ofO_some], fun w3 σ3 le3 ok3 hs3 env3 sm3 => ?_⟩
    refine ⟨w3, ρ1, p1, s1, rfl, ok3, env3, by rw [hs3, hs2]; exact t1, fun w4 σ4 le4 ok4 hs4 env4 => ?_⟩
    have leA : Le w1 w4 := lev.trans (le2.trans (le3.trans le4))
    obtain ⟨fl, ρ2⟩ := p1
    cases fl with
    | nx => exact ⟨w4, ρ2, leA, ok4, rfl, env4, by rw [hs4]; exact t2⟩
    | cnt => exact ⟨w4, ρ2, leA, ok4, rfl, env4, by rw [hs4]; exact t2⟩
    | brk => cases t2; exact q w4 σ4 (le1.trans leA) ok4 hs4 env4
    | ret d => cases t2; exact fun u ru => q w4 σ4 (le1.trans leA) ok4 hs4 env4 u ru
  · have hi' : i = items.length := by omega
    subst hi'
    rw [List.drop_length] at el
    simp only [forD] at el
    cases el
    exact .inl ⟨hJ.stop v lev.lf okv, q v σ' (le1.trans lev) okv rfl envv⟩
theorem JS_while {c : Expr} {body : List Stmt} {pos : Pos} {ft : FT} {fb : FS} {fuel : Nat} (hp : PassesOwn (model X.prog X.w) X.A X.env X.xe) (hc : PT X c (tT ct ft)) (hb : PSs X body (tS ct fb)) :
    PS X (.While c body [] pos) (tS ct fun ρ st => whlD ft fb fuel ρ st) := by
  refine PS.imp (ps_while hp hc hb) fun D σ H q => ?_
  obtain ⟨w, ρ, p, st', rfl, ok, env, e, q⟩ := q
  refine ⟨fun m σ H => ∃ v ρi, Le w v ∧ WOk ct v ∧ v.H = H ∧ EnvR ct v ρi σ ∧ whlD ft fb m ρi v.st = .ok p st', ⟨fuel, w, ρ, Le.refl _, ok, rfl, env, e⟩, ?_⟩
  rintro m σ' H ⟨v, ρi, lev, okv, rfl, envv, el⟩
  cases m with
  | zero => cases el
  | succ n =>
    unfold whlD at el
    obtain ⟨b, s1, t1, t2⟩ := bnd_of el
    refine ⟨v, ρi, b, s1, rfl, okv, envv, t1, fun w1 le1 ok1 hs1 => ?_⟩
    cases b with
    | false => cases t2; exact q w1 σ' (lev.trans le1) ok1 hs1 (envv.le le1)
    | true =>
      obtain ⟨p1, s2, t3, t4⟩ := bnd_of t2
      refine ⟨fun σ2 H2 => ∃ v ρi, Le w v ∧ WOk ct v ∧ v.H = H2 ∧ EnvR ct v ρi σ2 ∧ whlD ft fb n ρi v.st = .ok p st', fun σ2 H2 h => ⟨n, Nat.lt_succ_self n, h⟩, ?_⟩
      refine ⟨w1, ρi, p1, s2, rfl, ok1, envv.le le1, by rw [hs1]; exact t3, fun w2 σ2 le2 ok2 hs2 env2 => ?_⟩
      have leA : Le w w2 := lev.trans (le1.trans le2)
      obtain ⟨fl, ρ2⟩ := p1
      cases fl with
      | nx => exact ⟨w2, ρ2, leA, ok2, rfl, env2, by rw [hs2]; exact t4⟩
      | cnt => exact ⟨w2, ρ2, leA, ok2, rfl, env2, by rw [hs2]; exact t4⟩
      | brk => cases t4; exact q w2 σ2 leA ok2 hs2 env2
      | ret d => cases t4; exact fun u ru => q w2 σ2 leA ok2 hs2 env2 u ru
/-! ### name = a new list, as one statement -/
/-- what makes the new list is the statement's own value -/
theorem JS_setN {st : Stmt} {i : Nat} {te : TE} {f : Env → List Ob → R Ob} (h : PS X st (tAsg te (gName i))) (hi : ∀ σ H Q, tN ct f σ H Q → te σ H Q) :
    PS X st (tS ct fun ρ s => bnd (bnd (f ρ s) fun o st1 => ofO (obD o) fun d => .ok d st1) fun x st1 => bnd (chk (decide (i < ρ.length)) (.ok (ρ.set i (some x)) st1)) fun ρ1 st2 => .ok (.nx, ρ1) st2) := by
  refine PS.imp h fun D σ H q => ?_
  obtain ⟨w, ρ, p, st', rfl, ok, env, e, q⟩ := q
  obtain ⟨x, st1, e1, e⟩ := bnd_of e
  obtain ⟨o, st2, e2, e1⟩ := bnd_of e1
  obtain ⟨d, e3, e1⟩ := ofO_of e1
  obtain ⟨ρ1, st3, e4, e⟩ := bnd_of e
  obtain ⟨_, e4⟩ := chk_of e4
  cases e
  cases e4
  cases e1
  refine hi _ _ _ ⟨w, ρ, o, st', rfl, ok, env, e2, fun w' p hh le ok' st hp r => ?_⟩
  obtain ⟨w2, le2, ok2, st2, hH, r2⟩ := new_frz ok' hp e3 r
  show D.nx _ _
  rw [← hH]
  exact q w2 _ (le.trans le2) ok2 (st2.trans st) ((env.le (le.trans le2)).set i r2)
theorem JS_setM {st : Stmt} {i : Nat} {te : TE} {f : Env → List Ob → R Ob} (h : PS X st (tAsg te (gName i))) (hi : ∀ σ H Q, tN ct f σ H Q → te σ H Q) :
    PS X st (tS ct fun ρ s => bnd (bnd (f ρ s) fun o st1 => .ok (.ref st1.length) (st1 ++ [o])) fun x st1 => bnd (chk (decide (i < ρ.length)) (.ok (ρ.set i (some x)) st1)) fun ρ1 st2 => .ok (.nx, ρ1) st2) := by
  refine PS.imp h fun D σ H q => ?_
  obtain ⟨w, ρ, p, st', rfl, ok, env, e, q⟩ := q
  obtain ⟨x, st1, e1, e⟩ := bnd_of e
  obtain ⟨o, st2, e2, e1⟩ := bnd_of e1
  obtain ⟨ρ1, st3, e4, e⟩ := bnd_of e
  obtain ⟨_, e4⟩ := chk_of e4
  cases e
  cases e4
  cases e1
  refine hi _ _ _ ⟨w, ρ, o, st2, rfl, ok, env, e2, fun w' p hh le ok' st hp r => ?_⟩
  obtain ⟨w2, le2, ok2, st2', hH, r2⟩ := new_mut ok' hp r
  show D.nx _ _
  rw [← hH]
  rw [st] at r2 st2'
  exact q w2 _ (le.trans le2) ok2 st2' ((env.le (le.trans le2)).set i r2)
/-! ### stores from the right -/
theorem JS_par {i j : Nat} {x y : Str} {a b : Expr} {px py pt pos : Pos} {kt k2 pt2} {fa fb : FE} (hc : X.calm = true) (hN : X.N.Nodup) (hi : X.N[i]? = some x) (hj : X.N[j]? = some y) (hij : i ≠ j)
    (hx : X.env.scope.names.lookup x = some .local) (hy : X.env.scope.names.lookup y = some .local) (ha : PE X a (tE ct fa)) (hb : PE X b (tE ct fb)) (na : noStar a = true) (nb : noStar b = true)
    (hw : swappedStores [.Tuple [.Name x px, .Name y py] kt pt] (.Tuple [a, b] k2 pt2) X.env = pure (some [x, y])) (hs : swapsWithSole [.Tuple [.Name x px, .Name y py] kt pt] (.Tuple [a, b] k2 pt2) pos.line X.env = pure false) :
    PS X (.Assign [.Tuple [.Name x px, .Name y py] kt pt] (.Tuple [a, b] k2 pt2) pos) (tS ct fun ρ st => bnd (fa ρ st) fun u st1 => bnd (fb ρ st1) fun v st2 => chk (decide (i < ρ.length ∧ j < ρ.length)) (.ok (.nx, (ρ.set i (some u)).set j (some v)) st2)) := by
  refine PS.imp (ps_par hc hN hi hj hij hx hy (JA_cons (ct := ct) ha (JA_cons hb JA_nil nb) na) hw hs) fun D σ H q => ?_
  obtain ⟨w, ρ, p, st', rfl, ok, env, e, q⟩ := q
  obtain ⟨u, st1, e1, e⟩ := bnd_of e
  obtain ⟨v, st2, e2, e⟩ := bnd_of e
  obtain ⟨_, e⟩ := chk_of e
  cases e
  refine ⟨w, ρ, [u, v], st', rfl, ok, env, by simp only [e1, e2, bnd_ok], fun w1 vs le1 ok1 hs1 r1 => ?_⟩
  obtain ⟨a, b, rfl, ra, rb⟩ := rs2 r1
  exact ⟨a, b, rfl, q w1 _ le1 ok1 hs1 (((env.le le1).set i ra).set j rb)⟩
theorem JS_par3 {i j l : Nat} {x y z : Str} {a b c : Expr} {px py pz pt pos : Pos} {kt k2 pt2} {fa fb fc : FE} (hc : X.calm = true) (hN : X.N.Nodup) (hi : X.N[i]? = some x) (hj : X.N[j]? = some y) (hl : X.N[l]? = some z) (hij : i ≠ j) (hil : i ≠ l) (hjl : j ≠ l)
    (hx : X.env.scope.names.lookup x = some .local) (hy : X.env.scope.names.lookup y = some .local) (hz : X.env.scope.names.lookup z = some .local) (ha : PE X a (tE ct fa)) (hb : PE X b (tE ct fb)) (hcc : PE X c (tE ct fc)) (na : noStar a = true) (nb : noStar b = true) (nc : noStar c = true)
    (hw : swappedStores [.Tuple [.Name x px, .Name y py, .Name z pz] kt pt] (.Tuple [a, b, c] k2 pt2) X.env = pure (some [x, y, z])) (hs : swapsWithSole [.Tuple [.Name x px, .Name y py, .Name z pz] kt pt] (.Tuple [a, b, c] k2 pt2) pos.line X.env = pure false) :
    PS X (.Assign [.Tuple [.Name x px, .Name y py, .Name z pz] kt pt] (.Tuple [a, b, c] k2 pt2) pos) (tS ct fun ρ st => bnd (fa ρ st) fun u st1 => bnd (fb ρ st1) fun v st2 => bnd (fc ρ st2) fun t st3 => chk (decide (i < ρ.length ∧ j < ρ.length ∧ l < ρ.length)) (.ok (.nx, ((ρ.set i (some u)).set j (some v)).set l (some t)) st3)) := by
  refine PS.imp (ps_par3 hc hN hi hj hl hij hil hjl hx hy hz (JA_cons (ct := ct) ha (JA_cons hb (JA_cons hcc JA_nil nc) nb) na) hw hs) fun D σ H q => ?_
  obtain ⟨w, ρ, p, st', rfl, ok, env, e, q⟩ := q
  obtain ⟨u, st1, e1, e⟩ := bnd_of e
  obtain ⟨v, st2, e2, e⟩ := bnd_of e
  obtain ⟨t, st3, e3, e⟩ := bnd_of e
  obtain ⟨_, e⟩ := chk_of e
  cases e
  refine ⟨w, ρ, [u, v, t], st', rfl, ok, env, by simp only [e1, e2, e3, bnd_ok], fun w1 vs le1 ok1 hs1 r1 => ?_⟩
  have r1 : Rels ct w1.m w1.F [u, v, t] vs := r1
  unfold Rels at r1
  obtain ⟨a, vs, rfl, ra, r1⟩ := r1
  obtain ⟨b, c, rfl, rb, rc⟩ := rs2 r1
  exact ⟨a, b, c, rfl, q w1 _ le1 ok1 hs1 ((((env.le le1).set i ra).set j rb).set l rc)⟩
/-! ### o.f = v -/
theorem putF_fs (f : Str) (v : V) : ∀ fs : List (Str × V), (putF f v fs).map (·.1) = putFs f (fs.map (·.1))
  | [] => rfl
  | (g, u) :: fs => by
    simp only [List.map_cons, putF, putFs]
    split <;> simp_all [putF_fs f v fs]
theorem putF_vs {m : List Addr} {F : Hp} (f : Str) {d : D} {v : V} (r : Rel ct m F d v) : ∀ {fs : List (Str × V)} {vs : List D}, Rels ct m F vs (fs.map (·.2)) → Rels ct m F (putFv f d (fs.map (·.1)) vs) ((putF f v fs).map (·.2))
  | [], vs, h => by
    unfold Rels at h
    cases vs with
    | nil => exact Rels.cons r Rels.nil
    | cons _ _ => obtain ⟨_, _, h, _⟩ := h; cases h
  | (g, u) :: fs, vs, h => by
    cases vs with
    | nil => unfold Rels at h; simp at h
    | cons x vs =>
      unfold Rels at h
      obtain ⟨y, r', e, h1, h2⟩ := h
      simp only [List.map_cons, List.cons.injEq] at e
      obtain ⟨rfl, rfl⟩ := e
      simp only [List.map_cons, putF, putFv]
      split
      · exact Rels.cons r h2
      · exact Rels.cons h1 (putF_vs f r h2)
theorem JS_fld {fok : Nat → Str → Bool} {o value : Expr} {f : Str} {pos pos' : Pos} {fo fv : FE} (cf : ClF X.K ct) (hn : ∀ c C f, ct c = some C → fok c f = true → NoAttr X.K C f) (ho : PE X o (tE ct fo)) (hv : PE X value (tE ct fv)) (hs : swapsWith value (some (.Attribute o f pos')) pos.line X.env = pure false) :
    PS X (.Assign [.Attribute o f pos'] value pos) (tS ct fun ρ st => bnd (fv ρ st) fun d st1 => bnd (bnd (fo ρ st1) fun x st2 => match x with
      | .ref n => (match st2[n]? with
        | some (.ins k fs vs) => chk (fok k f && decide (fs.length < 100)) (.ok ρ (st2.set n (.ins k (putFs f fs) (putFv f d fs vs))))
        | _ => .bad)
      | _ => .bad) fun ρ1 st2 => .ok (.nx, ρ1) st2) := by
  refine PS.imp (ps_fld ho hv hs) fun D σ H q => ?_
  obtain ⟨w, ρ, p, st', rfl, ok, env, e, q⟩ := q
  obtain ⟨d, st1, e1, e⟩ := bnd_of e
  obtain ⟨ρ1, st2, e2, e⟩ := bnd_of e
  obtain ⟨x, st3, e3, e2⟩ := bnd_of e2
  cases x with
  | ref n =>
    simp only at e2
    split at e2
    · rename_i k fs vs hst
      obtain ⟨hc, e2⟩ := chk_of e2
      rw [Bool.and_eq_true, decide_eq_true_eq] at hc
      cases e2
      cases e
      refine ⟨w, ρ, d, st1, rfl, ok, env, e1, fun w1 v le1 ok1 hs1 r1 => ?_⟩
      refine ⟨w1, ρ, .ref n, st3, rfl, ok1, env.le le1, by rw [hs1]; exact e3, fun w2 ov le2 ok2 hs2 r2 => ?_⟩
      have r2 : Rel ct w2.m w2.F (.ref n) ov := r2
      unfold Rel at r2
      obtain ⟨a, rfl, hm⟩ := r2
      rw [← hs2] at hst
      rcases ok2.ob n a _ hm hst with g | ⟨hF, h, h1, h2⟩
      · cases g
      · obtain ⟨C, dx, fvs, hC, rfl, rfl, h3⟩ := h2
        obtain ⟨le3, ok3⟩ := Wd.put ok2 hm hF (o := .ins C dx (putF f v fvs)) (ob := .ins k (putFs f (fvs.map (·.1))) (putFv f d (fvs.map (·.1)) vs)) ⟨C, dx, _, hC, rfl, putF_fs f v fvs, putF_vs f (Wd.R.le le2 r1) h3⟩
        refine ⟨a, C, dx, fvs, rfl, h1, cf.cl k C hC, hn k C f hC hc.1, by have := hc.2; rw [List.length_map] at this; omega, ?_⟩
        exact q _ σ (le1.trans (le2.trans le3)) ok3 (by rw [← hs2]) (env.le (le1.trans (le2.trans le3)))
    · cases e2
  | _ => cases e2
end
end Ev

set_option linter.all false
set_option maxRecDepth 100000
/-! Jr: objects that change no more; calls. -/
namespace Ev
open PySem L2
section
variable {ct : Nat → Option Addr} {X : Cx}
/-- the object at n changes no more -/
theorem Wd.freeze {w : Wd} (ok : WOk ct w) {n : Nat} {a : Addr} {h : HO} (hn : w.m[n]? = some a) (hF : w.F a = none) (hH : w.H a = some h) :
    Le w { w with st := w.st.set n .gone, F := upd w.F a h } ∧ WOk ct { w with st := w.st.set n .gone, F := upd w.F a h } := by
  have ha : a ∈ w.m := List.mem_of_getElem? hn
  have fr : ∀ b o, w.F b = some o → upd w.F a h b = some o := fun b o e => by rw [upd_ne (ne_of_none e hF)]; exact e
  refine ⟨⟨List.prefix_refl _, fr, fun b o e _ => e, fun _ h h' => absurd h h', fun b e hb => .inl (upd_ne (fun z => hb (z ▸ ha))), fun b e => e⟩, ⟨fun b o e => ?_, by simp [ok.len], ok.nd, fun k b o h1 h2 => ?_, ok.tr⟩⟩
  · have e : upd w.F a h b = some o := e
    show w.H b = some o
    by_cases z : b = a
    · subst z; rw [upd_same] at e; cases e; exact hH
    · rw [upd_ne z] at e; exact ok.sub b o e
  · have h1 : w.m[k]? = some b := h1
    have h2 : (w.st.set n .gone)[k]? = some o := h2
    by_cases hk : k = n
    · subst hk
      have hlt : k < w.st.length := by rw [← ok.len]; exact (List.getElem?_eq_some_iff.mp hn).1
      rw [List.getElem?_set_self hlt] at h2
      cases h2
      exact .inl rfl
    · rw [List.getElem?_set_ne (Ne.symm hk)] at h2
      have z : b ≠ a := fun z => by
        subst z
        obtain ⟨p1, p2⟩ := List.getElem?_eq_some_iff.mp h1
        obtain ⟨p3, p4⟩ := List.getElem?_eq_some_iff.mp hn
        exact hk ((List.getElem_inj ok.nd).mp (p2.trans p4.symm))
      rcases ok.ob k b o h1 h2 with e | ⟨e, u, h3, h4⟩
      · exact .inl e
      · exact .inr ⟨by show upd w.F a h b = none; rw [upd_ne z]; exact e, u, h3, h4.mono (List.prefix_refl _) fr⟩
theorem frz_step {w : Wd} (ok : WOk ct w) {n : Nat} {d : D} {v : V} (e : obPure w.st n = some d) (r : w.R ct (.ref n) v) : ∃ w', Le w w' ∧ WOk ct w' ∧ w'.st = w.st.set n .gone ∧ w'.H = w.H ∧ w'.R ct d v := by
  have r : Rel ct w.m w.F (.ref n) v := r
  unfold Rel at r
  obtain ⟨a, rfl, hm⟩ := r
  unfold obPure at e
  split at e
  · rename_i l hst
    split at e
    · cases e
      rcases ok.ob n a _ hm hst with g | ⟨hF, h, h1, vs, rfl, h2⟩
      · cases g
      · obtain ⟨le, ok'⟩ := Wd.freeze ok hm hF h1
        refine ⟨_, le, ok', rfl, rfl, ?_⟩
        show Rel ct _ _ (.lst l) (.ref a)
        unfold Rel
        exact ⟨a, vs, rfl, .inl upd_same, Rels.mono le.pre le.fr l h2⟩
    · cases e
  · rename_i tk ks vs hst
    split at e
    · cases e
      rcases ok.ob n a _ hm hst with g | ⟨hF, h, h1, h2⟩
      · cases g
      · obtain ⟨le, ok'⟩ := Wd.freeze ok hm hF h1
        refine ⟨_, le, ok', rfl, rfl, ?_⟩
        show Rel ct _ _ (.dct tk ks vs) (.ref a)
        unfold Rel
        rcases h2 with ⟨kvs, h2, rfl, h3, h4⟩ | ⟨kvs, h2, rfl, h3, h4⟩
        · exact ⟨a, rfl, .inl ⟨kvs, h2, upd_same, h3, Rels.mono le.pre le.fr vs h4⟩⟩
        · exact ⟨a, rfl, .inr ⟨kvs, h2, upd_same, h3, Rels.mono le.pre le.fr vs h4⟩⟩
    · cases e
  · cases e
theorem JSs_frz {l : List Stmt} {i : Nat} {g : FS} (hs : PSs X l (tS ct g)) : PSs X l (tS ct fun ρ s => bnd (match ρ[i]? with
      | some (some (.ref n)) => ofO (obPure s n) fun d => .ok (Fl.nx, ρ.set i (some d)) (s.set n .gone)
      | _ => .bad) fun p st1 => match p.1 with
      | .nx => g p.2 st1
      | .brk => .ok (.brk, p.2) st1
      | .cnt => .ok (.cnt, p.2) st1
      | .ret v => .ok (.ret v, p.2) st1) := by
  refine PSs.imp hs fun D σ H q => ?_
  obtain ⟨w, ρ, p, st', rfl, ok, env, e, q⟩ := q
  obtain ⟨p1, st1, e1, e⟩ := bnd_of e
  split at e1
  · rename_i n hn
    obtain ⟨d, e2, e1⟩ := ofO_of e1
    cases e1
    obtain ⟨v, h1, h2⟩ := env.get i _ hn
    obtain ⟨w', le, ok', st, hH, r⟩ := frz_step ok e2 h2
    have env' : EnvR ct w' (ρ.set i (some d)) σ := by
      have := (env.le le).set i r
      have e3 : σ.set i (some v) = σ := by
        apply List.ext_getElem?
        intro j
        by_cases hj : i = j
        · subst hj
          have hlt : i < σ.length := (List.getElem?_eq_some_iff.mp h1).1
          rw [List.getElem?_set_self hlt, h1]
        · rw [List.getElem?_set_ne hj]
      rw [e3] at this; exact this
    exact ⟨w', _, p, st', hH, ok', env', by rw [st]; exact e, fun w2 σ2 le2 ok2 hs2 env2 => q w2 σ2 (le.trans le2) ok2 hs2 env2⟩
  · cases e1

/-! ### what a call does to the state -/
/-- a callee's state without objects -/
def Wd.sub (w : Wd) (F : Hp) : Wd := { m := [], st := [], F := F, H := w.H }
theorem sub_ok {w : Wd} {F : Hp} (h : ∀ a o, F a = some o → w.H a = some o) : WOk ct (w.sub F) :=
  ⟨h, rfl, List.nodup_nil, fun n a o h1 _ => by simp [Wd.sub] at h1, fun a h => by simp [Wd.sub] at h⟩
/-- behind a call that was given data alone -/
theorem back_pure {w u' : Wd} (ok : WOk ct w) (le : Le (w.sub w.F) u') (ok' : WOk ct u') : Le w { w with F := u'.F, H := u'.H } ∧ WOk ct { w with F := u'.F, H := u'.H } := by
  have nm : ∀ a, a ∉ (w.sub w.F).m := fun a h => by simp [Wd.sub] at h
  have keep : ∀ a o, w.H a = some o → u'.H a = some o := fun a o h => le.keep a o h (nm a)
  refine ⟨⟨List.prefix_refl _, fun a o h => le.fr a o h, fun a o h _ => keep a o h, fun _ h h' => absurd h h', fun a h _ => le.ff a h (nm a), fun a h => le.there a h⟩, ⟨ok'.sub, ok.len, ok.nd, fun n a o h1 h2 => ?_, fun a h => le.there a (ok.tr a h)⟩⟩
  by_cases g : o = .gone
  · exact .inl g
  · rcases ok.ob n a o h1 h2 with e | ⟨e, h, h3, h4⟩
    · exact absurd e g
    · refine .inr ⟨?_, h, keep a h h3, h4.mono (List.prefix_refl _) fun b o hb => le.fr b o hb⟩
      rcases le.ff a (by show w.H a ≠ none; rw [h3]; exact fun z => nomatch z) (nm a) with q | ⟨xs, q⟩
      · exact q.trans e
      · have q : w.H a = some (.tup xs) := q
        rw [h3] at q; cases q
        cases o with
        | lst l => obtain ⟨_, h4, _⟩ := h4; cases h4
        | dct tk ks vs => rcases h4 with ⟨_, _, h4, _⟩ | ⟨_, _, h4, _⟩ <;> cases h4
        | ins c fs vs => obtain ⟨_, _, _, _, h4, _⟩ := h4; cases h4
        | gone => exact absurd rfl g
/-- behind a call that read objects -/
theorem back_read {w u' : Wd} (ok : WOk ct w) (le : Le (w.sub w.now) u') (ok' : WOk ct u') : Le w { w with H := u'.H } ∧ WOk ct { w with H := u'.H } := by
  have nm : ∀ a, a ∉ (w.sub w.now).m := fun a h => by simp [Wd.sub] at h
  have keep : ∀ a o, w.H a = some o → u'.H a = some o := fun a o h => le.keep a o h (nm a)
  refine ⟨⟨List.prefix_refl _, fun a o h => h, fun a o h _ => keep a o h, fun _ h h' => absurd h h', fun a h _ => .inl rfl, fun a h => le.there a h⟩, ⟨fun a o h => keep a o (ok.sub a o h), ok.len, ok.nd, fun n a o h1 h2 => ?_, fun a h => le.there a (ok.tr a h)⟩⟩
  rcases ok.ob n a o h1 h2 with e | ⟨e, h, h3, h4⟩
  · exact .inl e
  · exact .inr ⟨e, h, keep a h h3, h4⟩
theorem scalar_rel {m m' : List Addr} {F F' : Hp} {d : D} {v : V} (h : d.scalar = true) (r : Rel ct m F d v) : Rel ct m' F' d v := by
  cases d with
  | non => rw [rel_non r]; exact of_non
  | bl b => rw [rel_bl r]; exact of_bl
  | int i => rw [rel_int r]; exact of_int
  | str x => rw [rel_str r]; exact of_str
  | _ => simp [D.scalar] at h
/-! a def's promise -/
abbrev FN := List D → List Ob → R D
/-- objects that are handed in keep their places; what comes back is data -/
def spF (ct : Nat → Option Addr) (f : FN) : Sp := fun vs H Q E => ∃ w ds d st', w.H = H ∧ WOk ct w ∧ w.Rs ct ds vs ∧ f ds w.st = .ok d st' ∧ ∀ w' v, Le w w' → WOk ct w' → w'.m = w.m → w'.st = st' → w'.R ct d v → Q v w'.H
/-- what comes back is a new object -/
def spN (ct : Nat → Option Addr) (f : List D → R Ob) : Sp := fun vs H Q E => ∃ w ds o st', w.H = H ∧ WOk ct w ∧ w.m = [] ∧ w.Rs ct ds vs ∧ f ds = .ok o st' ∧ ∀ w' p h, Le w w' → WOk ct w' → w'.m = [] → w'.H p = none → ORel ct w'.m w'.F o h → Q (.ref p) (upd w'.H p h)
def spA (ct : Nat → Option Addr) (f : FN) (g : List D → R Ob) : Sp := fun vs H Q E => spF ct f vs H Q E ∨ spN ct g vs H Q E
/-- a call of data, or of objects that are read -/
theorem call_imp {f : FN} {g : List D → R Ob} {fs : FA} {σ : St} {H : Hp} {Q : VK} {E : XK} (hp : ∀ ds st d st', f ds st = .ok d st' → d.pure = true)
    (q : tE ct (fun ρ st => bnd (fs ρ st) fun l st1 => ofO (frzs st1 0 l) fun m => bnd (f m []) fun d _ => chk (D.pures l || d.scalar) (.ok d st1)) σ H Q) : tCall (spA ct f g) [] E (tAs ct fs) σ H Q := by
  obtain ⟨w, ρ, d, st', rfl, ok, env, e, q⟩ := q
  obtain ⟨l, st1, e1, e⟩ := bnd_of e
  obtain ⟨m, e2, e⟩ := ofO_of e
  obtain ⟨d', st2, e3, e⟩ := bnd_of e
  obtain ⟨hc, e⟩ := chk_of e
  cases e
  refine ⟨w, ρ, l, st', rfl, ok, env, e1, fun w1 vs le1 ok1 hs1 r1 => ?_⟩
  show spA ct f g (vs ++ []) w1.H Q E
  rw [List.append_nil]
  rw [← hs1] at e2
  by_cases hl : D.pures l = true
  · have em : m = l := by
      have : ∀ {l m : List D}, D.pures l = true → frzs w1.st 0 l = some m → m = l := by
        intro l
        induction l with
        | nil => intro m _ e; simp [frzs] at e; exact e
        | cons x l ih =>
          intro m p e
          have p' : D.pure x = true ∧ D.pures l = true := by simpa [D.pures] using p
          unfold frzs at e
          rw [show frz w1.st 0 x = some x by unfold frz; rw [if_pos p'.1]] at e
          split at e
          · rename_i a b h1 h2
            cases e; cases h1
            rw [ih p'.2 h2]
          · cases e
      exact this hl e2
    subst em
    refine .inl ⟨w1.sub w1.F, m, d, st2, rfl, sub_ok ok1.sub, Rels.pure m hl r1, e3, fun u' v le ok' hm hs r => ?_⟩
    obtain ⟨leb, okb⟩ := back_pure ok1 le ok'
    exact q { w1 with F := u'.F, H := u'.H } v (le1.trans leb) okb hs1 (Rel.pure d (hp _ _ _ _ e3) r)
  · have hd : d.scalar = true := by
      rw [Bool.or_eq_true] at hc
      exact hc.resolve_left hl
    refine .inl ⟨w1.sub w1.now, m, d, st2, rfl, sub_ok (Wd.now_sub ok1), frzs_now ok1 e2 r1, e3, fun u' v le ok' hm hs r => ?_⟩
    obtain ⟨leb, okb⟩ := back_read ok1 le ok'
    exact q { w1 with H := u'.H } v (le1.trans leb) okb hs1 (scalar_rel hd r)
/-- a call whose result the caller may change -/
theorem callN_imp {f : FN} {g : List D → R Ob} {fs : FA} {σ : St} {H : Hp} {Q : VK} {E : XK} (hp : ∀ ds o st', g ds = .ok o st' → o.pure = true)
    (q : tN ct (fun ρ st => bnd (fs ρ st) fun l st1 => chk (D.pures l) (bnd (g l) fun o _ => .ok o st1)) σ H Q) : tCall (spA ct f g) [] E (tAs ct fs) σ H Q := by
  obtain ⟨w, ρ, o, st', rfl, ok, env, e, q⟩ := q
  obtain ⟨l, st1, e1, e⟩ := bnd_of e
  obtain ⟨hl, e⟩ := chk_of e
  obtain ⟨o', st2, e3, e⟩ := bnd_of e
  cases e
  refine ⟨w, ρ, l, st', rfl, ok, env, e1, fun w1 vs le1 ok1 hs1 r1 => ?_⟩
  show spA ct f g (vs ++ []) w1.H Q E
  rw [List.append_nil]
  refine .inr ⟨w1.sub w1.F, l, o, st2, rfl, sub_ok ok1.sub, rfl, Rels.pure l hl r1, e3, fun u' p h le ok' hm hp' r => ?_⟩
  obtain ⟨leb, okb⟩ := back_pure ok1 le ok'
  refine q { w1 with F := u'.F, H := u'.H } p h (le1.trans leb) okb hs1 hp' ?_
  have po := hp _ _ _ e3
  cases o with
  | lst l => obtain ⟨vs, rfl, r⟩ := r; exact ⟨vs, rfl, Rels.pure l po r⟩
  | dct tk ks vs =>
    have po : (D.pures ks && D.pures vs) = true := po
    rw [Bool.and_eq_true] at po
    rcases r with ⟨kvs, h1, rfl, h2, r⟩ | ⟨kvs, h1, rfl, h2, r⟩
    · exact .inl ⟨kvs, h1, rfl, h2, Rels.pure vs po.2 r⟩
    · exact .inr ⟨kvs, h1, rfl, h2, Rels.pure vs po.2 r⟩
  | ins c fs vs => obtain ⟨C, dx, fvs, h1, rfl, h2, r⟩ := r; exact ⟨C, dx, fvs, h1, rfl, h2, Rels.pure vs po r⟩
  | gone => trivial
/-- a method of an instance that is data -/
theorem meth_imp {f : FN} {g : List D → R Ob} {fo : FE} {fs : FA} {k : Nat} {C : Addr} {m : Str} {σ : St} {H : Hp} {Q : VK} {E : XK} (hC : ct k = some C) (hp : ∀ ds st d st', f ds st = .ok d st' → d.pure = true)
    (q : tE ct (fun ρ st => bnd (fo ρ st) fun x st1 => match x with
      | .obj k' fs' _ => chk (decide (k = k') && D.pure x && (fs'.all fun g => !decide (g = m))) (bnd (fs ρ st1) fun l st2 => chk (D.pures l) (bnd (f (x :: l) []) fun d _ => .ok d st2))
      | _ => .bad) σ H Q) : tMeth C m (spA ct f g) [] E (tE ct fo) (tAs ct fs) σ H Q := by
  obtain ⟨w, ρ, d, st', rfl, ok, env, e, q⟩ := q
  obtain ⟨x, st1, e1, e⟩ := bnd_of e
  cases x with
  | obj k' fs' vs' =>
    obtain ⟨hc, e⟩ := chk_of e
    obtain ⟨l, st2, e2, e⟩ := bnd_of e
    obtain ⟨hl, e⟩ := chk_of e
    obtain ⟨d', st3, e3, e⟩ := bnd_of e
    cases e
    rw [Bool.and_eq_true, Bool.and_eq_true, decide_eq_true_eq] at hc
    obtain ⟨⟨rfl, hx⟩, hm⟩ := hc
    refine ⟨w, ρ, _, st1, rfl, ok, env, e1, fun w1 xv le1 ok1 hs1 r1 => ?_⟩
    have r1' : Rel ct w1.m w1.F (.obj k fs' vs') xv := r1
    unfold Rel at r1'
    obtain ⟨a, C', dx, fvs, rfl, hC', h1, h2, _⟩ := r1'
    rw [hC] at hC'; cases hC'
    refine ⟨a, dx, fvs, rfl, ok1.sub _ _ h1, ?_, ?_⟩
    · have : ∀ fvs : List (Str × V), ((fvs.map (·.1)).all fun g => !decide (g = m)) = true → fvs.lookup m = none := by
        intro fvs
        induction fvs with
        | nil => intro _; rfl
        | cons p fvs ih =>
          intro h
          rw [List.map_cons, List.all_cons, Bool.and_eq_true] at h
          have hne : (m == p.1) = false := by
            rw [beq_eq_false_iff_ne]
            intro z
            have := h.1
            rw [← z] at this; simp at this
          rw [List.lookup_cons, hne]
          exact ih h.2
      exact this fvs (by rw [h2]; exact hm)
    · refine ⟨w1, ρ, l, st', rfl, ok1, env.le le1, by rw [hs1]; exact e2, fun w2 vs le2 ok2 hs2 r2 => ?_⟩
      show spA ct f g (_ :: (vs ++ [])) w2.H Q E
      rw [List.append_nil]
      refine .inl ⟨w2.sub w2.F, _ :: l, d, st3, rfl, sub_ok ok2.sub, Rels.cons (Rel.pure _ hx (Wd.R.le le2 r1)) (Rels.pure l hl r2), e3, fun u' v le ok' hm hs r => ?_⟩
      obtain ⟨leb, okb⟩ := back_pure ok2 le ok'
      exact q { w2 with F := u'.F, H := u'.H } v (le1.trans (le2.trans leb)) okb hs2 (Rel.pure d (hp _ _ _ _ e3) r)
  | _ => cases e
end
end Ev

set_option linter.all false
set_option maxRecDepth 100000
/-! Js: instances made, objects handed in, a body's end. -/
namespace Ev
open PySem L2
section
variable {ct : Nat → Option Addr} {X : Cx}
theorem nottup {m : List Addr} {F : Hp} {o : Ob} {h : HO} (g : o ≠ .gone) (r : ORel ct m F o h) : ∀ xs, h ≠ .tup xs := by
  intro xs e
  subst e
  cases o with
  | lst l => obtain ⟨_, h4, _⟩ := r; cases h4
  | dct tk ks vs => rcases r with ⟨_, _, h4, _⟩ | ⟨_, _, h4, _⟩ <;> cases h4
  | ins c fs vs => obtain ⟨_, _, _, _, h4, _⟩ := r; cases h4
  | gone => exact g rfl
/-- what a def's run keeps: data come back, objects of data alone -/
def PureF (f : FN) : Prop := ∀ ds st d st', f ds st = .ok d st' → d.pure = true ∧ ∀ o ∈ st', Ob.pure o = true
theorem make_imp {f : FN} {g : List D → R Ob} {fs : FA} {k : Nat} {C : Addr} {σ : St} {H : Hp} {Q : VK} {E : XK} (hC : ct k = some C) (hp : PureF f)
    (q : tE ct (fun ρ st => bnd (fs ρ st) fun l st1 => chk (D.pures l) (bnd (bnd (f (.ref 0 :: l) [.ins k [] []]) fun d os => match d, os with
      | .non, [.ins k' fs vs] => chk (decide (k' = k)) (.ok (.obj k fs vs) [])
      | _, _ => .bad) fun d _ => .ok d st1)) σ H Q) : tMake C (spA ct f g) [] E (tAs ct fs) σ H Q := by
  obtain ⟨w, ρ, d, st', rfl, ok, env, e, q⟩ := q
  obtain ⟨l, st1, e1, e⟩ := bnd_of e
  obtain ⟨hl, e⟩ := chk_of e
  obtain ⟨d', st2, e2, e⟩ := bnd_of e
  cases e
  obtain ⟨dn, os, e3, e2⟩ := bnd_of e2
  refine ⟨w, ρ, l, st', rfl, ok, env, e1, fun w1 vs le1 ok1 hs1 r1 => fun x dx hx hdx hne => ?_⟩
  show spA ct f g (.ref x :: (vs ++ [])) _ _ E
  rw [List.append_nil]
  have hFx : w1.F x = none := by
    cases z : w1.F x with
    | none => rfl
    | some o => have := ok1.sub x o z; rw [hx] at this; cases this
  have hFd : w1.F dx = none := by
    cases z : w1.F dx with
    | none => rfl
    | some o => have := ok1.sub dx o z; rw [hdx] at this; cases this
  have hH2 : ∀ a, a ≠ x → a ≠ dx → (upd (upd w1.H dx (.own x)) x (.ins C dx [])) a = w1.H a := fun a h1 h2 => by rw [upd_ne h1, upd_ne h2]
  let u : Wd := { m := [x], st := [.ins k [] []], F := w1.F, H := upd (upd w1.H dx (.own x)) x (.ins C dx []) }
  have oku : WOk ct u := by
    refine ⟨fun a o h => ?_, rfl, by simp [u], fun n a o h1 h2 => ?_, fun a h => ?_⟩
    · have h : w1.F a = some o := h
      show (upd (upd w1.H dx (.own x)) x (.ins C dx [])) a = some o
      rw [hH2 a (ne_of_none h hFx) (ne_of_none h hFd)]; exact ok1.sub a o h
    · cases n with
      | zero =>
        have h1 : some x = some a := h1
        have h2 : some (Ob.ins k [] []) = some o := h2
        cases h1; cases h2
        exact .inr ⟨hFx, _, upd_same, C, dx, [], hC, rfl, rfl, Rels.nil⟩
      | succ n => simp [u] at h1
    · have h : a ∈ [x] := h
      rw [List.mem_singleton] at h; subst h
      show (upd (upd w1.H dx (.own a)) a (.ins C dx [])) a ≠ none
      rw [upd_same]; exact fun z => nomatch z
  refine .inl ⟨u, .ref 0 :: l, dn, os, rfl, oku, Rels.cons (by unfold Rel; exact ⟨x, rfl, rfl⟩) (Rels.pure l hl r1), e3, fun u' v le ok' hm hs r => ?_⟩
  split at e2
  · rename_i k' fs' vs'
    obtain ⟨hk, e2⟩ := chk_of e2
    have hk := of_decide_eq_true hk
    subst hk
    cases e2
    refine ⟨rel_non r, ?_⟩
    have hm0 : u'.m[0]? = some x := by rw [hm]; rfl
    have hs0 : u'.st[0]? = some (.ins k' fs' vs') := by rw [hs]; rfl
    rcases ok'.ob 0 x _ hm0 hs0 with z | ⟨hF', h, h1, C', dx', fvs, hC', rfl, hfs, h2⟩
    · cases z
    have pv : D.pures vs' = true := (hp _ _ _ _ e3).2 (.ins k' fs' vs') (by simp)
    have nxd : ∀ a, w1.H a ≠ none → a ≠ x ∧ a ≠ dx := fun a ha => ⟨fun z => ha (z ▸ hx), fun z => ha (z ▸ hdx)⟩
    have nu : ∀ a, w1.H a ≠ none → a ∉ u.m := fun a ha z => (nxd a ha).1 (by have z : a ∈ [x] := z; simpa using z)
    have keep : ∀ a o, w1.H a = some o → u'.H a = some o := fun a o ha => by
      have hn : w1.H a ≠ none := by rw [ha]; exact fun z => nomatch z
      exact le.keep a o (by show (upd (upd w1.H dx (.own x)) x (.ins C dx [])) a = some o; rw [hH2 a (nxd a hn).1 (nxd a hn).2]; exact ha) (nu a hn)
    have fr : ∀ a o, w1.F a = some o → upd u'.F x (.ins C' dx' fvs) a = some o := fun a o ha => by
      rw [upd_ne (ne_of_none ha hFx)]; exact le.fr a o ha
    have ff : ∀ a, w1.H a ≠ none → upd u'.F x (.ins C' dx' fvs) a = w1.F a ∨ ∃ xs, w1.H a = some (.tup xs) := fun a ha => by
      obtain ⟨n1, n2⟩ := nxd a ha
      rw [upd_ne n1]
      rcases le.ff a (by show (upd (upd w1.H dx (.own x)) x (.ins C dx [])) a ≠ none; rw [hH2 a n1 n2]; exact ha) (nu a ha) with z | ⟨xs, z⟩
      · exact .inl z
      · refine .inr ⟨xs, ?_⟩
        have z : (upd (upd w1.H dx (.own x)) x (.ins C dx [])) a = some (.tup xs) := z
        rw [hH2 a n1 n2] at z; exact z
    have le2 : Le w1 { w1 with F := upd u'.F x (.ins C' dx' fvs), H := u'.H } := by
      refine ⟨List.prefix_refl _, fr, fun a o ha _ => keep a o ha, fun _ h h' => absurd h h', fun a ha _ => ff a ha, fun a ha => ?_⟩
      cases z : w1.H a with
      | none => exact absurd z ha
      | some o => show u'.H a ≠ none; rw [keep a o z]; exact fun z => nomatch z
    have ok2 : WOk ct { w1 with F := upd u'.F x (.ins C' dx' fvs), H := u'.H } := by
      refine ⟨fun a o ha => ?_, ok1.len, ok1.nd, fun n a o h3 h4 => ?_, fun a ha => le2.there a (ok1.tr a ha)⟩
      · have ha : upd u'.F x (.ins C' dx' fvs) a = some o := ha
        show u'.H a = some o
        by_cases z : a = x
        · subst z; rw [upd_same] at ha; cases ha; exact h1
        · rw [upd_ne z] at ha; exact ok'.sub a o ha
      · by_cases g : o = .gone
        · exact .inl g
        · rcases ok1.ob n a o h3 h4 with z | ⟨hF, h, h5, h6⟩
          · exact absurd z g
          · refine .inr ⟨?_, h, keep a h h5, h6.mono (List.prefix_refl _) fr⟩
            rcases ff a (by rw [h5]; exact fun z => nomatch z) with z | ⟨xs, z⟩
            · exact z.trans hF
            · rw [h5] at z; exact absurd (Option.some.inj z) (nottup g h6 xs)
    refine q { w1 with F := upd u'.F x (.ins C' dx' fvs), H := u'.H } (.ref x) (le1.trans le2) ok2 hs1 ?_
    show Rel ct w1.m (upd u'.F x (.ins C' dx' fvs)) (.obj k' fs' vs') (.ref x)
    unfold Rel
    refine ⟨x, C', dx', fvs, rfl, hC', upd_same, hfs, ?_⟩
    exact Rels.mono (List.prefix_refl _) (fun a o ha => by rw [upd_ne (ne_of_none ha hF')]; exact ha) vs' (Rels.pure (m' := w1.m) vs' pv h2)
  · cases e2
/-! ### objects handed in as they are -/
theorem hand_rel {w : Wd} : ∀ {l : List D} {j : Nat} {p : List D × List Nat} {vs : List V}, handIn l j = some p → w.Rs ct l vs → ∀ (pre as : List Addr), pre.length = j → as.length = p.2.length → (∀ (i n : Nat), p.2[i]? = some n → ∃ a, as[i]? = some a ∧ w.m[n]? = some a) →
    Rels ct (pre ++ as) w.F p.1 vs
  | [], j, p, vs, e, r, pre, as, _, _, _ => by simp [handIn] at e; subst e; have r : Rels ct w.m w.F [] vs := r; unfold Rels at r ⊢; exact r
  | d :: l, j, p, vs, e, r, pre, as, hl, hn, ha => by
    have r : Rels ct w.m w.F (d :: l) vs := r
    unfold Rels at r
    obtain ⟨v, vs', rfl, r1, r2⟩ := r
    have pureCase : (if d.pure = true then (handIn l j).map fun p => (d :: p.1, p.2) else none) = some p → Rels ct (pre ++ as) w.F p.1 (v :: vs') := fun e => by
      split at e
      · rename_i hp
        rw [Option.map_eq_some_iff] at e
        obtain ⟨p', e', rfl⟩ := e
        exact Rels.cons (Rel.pure d hp r1) (hand_rel (p := p') e' r2 pre as hl hn ha)
      · cases e
    cases d with
    | ref n =>
      simp only [handIn, Option.map_eq_some_iff] at e
      obtain ⟨p', e, rfl⟩ := e
      cases as with
      | nil => simp at hn
      | cons a as =>
        obtain ⟨a', h1, h2⟩ := ha 0 n rfl
        cases h1
        unfold Rel at r1
        obtain ⟨b, rfl, hb⟩ := r1
        have hab : a = b := Option.some.inj (h2.symm.trans hb)
        subst hab
        refine Rels.cons ?_ ?_
        · unfold Rel
          exact ⟨a, rfl, by rw [← hl, List.getElem?_append_right (Nat.le_refl _), Nat.sub_self]; rfl⟩
        · have := hand_rel (j := j + 1) e r2 (pre ++ [a]) as (by simp [hl]) (by simpa using hn) (fun i m h => by simpa using ha (i + 1) m (by simpa using h))
          simpa using this
    | _ => exact pureCase (by simpa [handIn] using e)
theorem obs_at {st : List Ob} : ∀ {ps : List Nat} {os : List Ob}, obsAt st ps = some os → os.length = ps.length ∧ ∀ (i n : Nat), ps[i]? = some n → ∃ o, os[i]? = some o ∧ st[n]? = some o ∧ o.pure = true ∧ o ≠ .gone
  | [], os, e => by simp [obsAt] at e; subst e; simp
  | n :: ps, os, e => by
    simp only [obsAt] at e
    cases h1 : st[n]? with
    | none => rw [h1] at e; cases e
    | some o =>
      cases h2 : obsAt st ps with
      | none => rw [h1, h2] at e; cases e
      | some l =>
        rw [h1, h2] at e
        obtain ⟨h3, h4⟩ := obs_at h2
        have fin : o.pure = true → o ≠ .gone → os = o :: l → os.length = (n :: ps).length ∧ ∀ (i m : Nat), (n :: ps)[i]? = some m → ∃ o, os[i]? = some o ∧ st[m]? = some o ∧ o.pure = true ∧ o ≠ .gone := fun p1 p2 p3 => by
          subst p3
          refine ⟨by simp [h3], fun i m h => ?_⟩
          cases i with
          | zero => simp at h; subst h; exact ⟨o, rfl, h1, p1, p2⟩
          | succ i => simpa using h4 i m (by simpa using h)
        cases o with
        | lst x => simp only at e; split at e; rename_i hp; exact fin hp (fun z => nomatch z) (Option.some.inj e).symm; cases e
        | dct tk x y => simp only at e; split at e; rename_i hp; exact fin hp (fun z => nomatch z) (Option.some.inj e).symm; cases e
        | ins c x y => simp at e
        | gone => simp at e
theorem put_len : ∀ {ps : List Nat} {os : List Ob} {st : List Ob}, (putAt st ps os).length = st.length
  | [], _, _ => by simp [putAt]
  | n :: ps, [], _ => by simp [putAt]
  | n :: ps, o :: os, st => by simp only [putAt]; rw [put_len]; simp
theorem put_out : ∀ {ps : List Nat} {os : List Ob} {st : List Ob} {n : Nat}, n ∉ ps → (putAt st ps os)[n]? = st[n]?
  | [], _, _, _, _ => by simp [putAt]
  | m :: ps, [], _, _, _ => by simp [putAt]
  | m :: ps, o :: os, st, n, h => by
    rw [List.mem_cons, not_or] at h
    simp only [putAt]
    rw [put_out h.2, List.getElem?_set_ne (Ne.symm h.1)]
theorem put_in : ∀ {ps : List Nat} {os : List Ob} {st : List Ob} {i n : Nat} {o : Ob}, ps.Nodup → ps[i]? = some n → os[i]? = some o → n < st.length → (putAt st ps os)[n]? = some o
  | [], _, _, _, _, _, _, h, _, _ => by simp at h
  | m :: ps, [], _, _, _, _, _, _, h, _ => by simp at h
  | m :: ps, o :: os, st, 0, n, o', nd, h1, h2, hl => by
    simp at h1 h2; subst h1; subst h2
    simp only [putAt]
    rw [put_out (List.nodup_cons.mp nd).1, List.getElem?_set_self hl]
  | m :: ps, o :: os, st, i + 1, n, o', nd, h1, h2, hl => by
    simp only [putAt]
    exact put_in (i := i) (List.nodup_cons.mp nd).2 (by simpa using h1) (by simpa using h2) (by simpa using hl)
theorem nodupN_of : ∀ {ps : List Nat}, nodupN ps = true → ps.Nodup
  | [], _ => List.nodup_nil
  | n :: ps, h => by
    unfold nodupN at h
    rw [Bool.and_eq_true] at h
    exact List.nodup_cons.mpr ⟨by simpa using h.1, nodupN_of h.2⟩
theorem addrs {w : Wd} (ok : WOk ct w) : ∀ {ps : List Nat}, (∀ n ∈ ps, n < w.st.length) → ∃ as : List Addr, as.length = ps.length ∧ ∀ (i n : Nat), ps[i]? = some n → ∃ a, as[i]? = some a ∧ w.m[n]? = some a
  | [], _ => ⟨[], rfl, fun i n h => by simp at h⟩
  | n :: ps, h => by
    obtain ⟨as, h1, h2⟩ := addrs ok (ps := ps) fun m hm => h m (List.mem_cons_of_mem _ hm)
    have hn : n < w.m.length := by rw [ok.len]; exact h n (List.mem_cons_self ..)
    refine ⟨w.m[n] :: as, by simp [h1], fun i m hm => ?_⟩
    cases i with
    | zero => simp at hm; subst hm; exact ⟨_, rfl, List.getElem?_eq_getElem hn⟩
    | succ i => simpa using h2 i m (by simpa using hm)
theorem callR_imp {f : FN} {g : List D → R Ob} {fs : FA} {σ : St} {H : Hp} {Q : VK} {E : XK} (hp : PureF f)
    (q : tE ct (fun ρ st => bnd (fs ρ st) fun l st1 => ofO (handIn l 0) fun p => ofO (obsAt st1 p.2) fun os => chk (nodupN p.2) (bnd (f p.1 os) fun d os' => chk (decide (os'.length = p.2.length)) (.ok d (putAt st1 p.2 os')))) σ H Q) : tCall (spA ct f g) [] E (tAs ct fs) σ H Q := by
  obtain ⟨w, ρ, d, st', rfl, ok, env, e, q⟩ := q
  obtain ⟨l, st1, e1, e⟩ := bnd_of e
  obtain ⟨p, e2, e⟩ := ofO_of e
  obtain ⟨os, e3, e⟩ := ofO_of e
  obtain ⟨hnd, e⟩ := chk_of e
  obtain ⟨d', os', e4, e⟩ := bnd_of e
  obtain ⟨hlen, e⟩ := chk_of e
  have hlen := of_decide_eq_true hlen
  have hnd := nodupN_of hnd
  cases e
  refine ⟨w, ρ, l, st1, rfl, ok, env, e1, fun w1 vs le1 ok1 hs1 r1 => ?_⟩
  show spA ct f g (vs ++ []) w1.H Q E
  rw [List.append_nil]
  subst hs1
  obtain ⟨ol, oat⟩ := obs_at e3
  have hps : ∀ n ∈ p.2, n < w1.st.length := fun n hn => by
    obtain ⟨i, hi⟩ := List.getElem?_of_mem hn
    obtain ⟨o, _, h, _⟩ := oat i n hi
    exact (List.getElem?_eq_some_iff.mp h).1
  obtain ⟨as, al, aat⟩ := addrs ok1 hps
  have a_in : ∀ a ∈ as, a ∈ w1.m := fun a ha => by
    obtain ⟨i, hi⟩ := List.getElem?_of_mem ha
    have hi' : i < p.2.length := by rw [← al]; exact (List.getElem?_eq_some_iff.mp hi).1
    obtain ⟨b, h1, h2⟩ := aat i p.2[i] (List.getElem?_eq_getElem hi')
    rw [hi] at h1; cases h1
    exact List.mem_of_getElem? h2
  have and_ : as.Nodup := by
    refine List.pairwise_iff_getElem.mpr fun i j hi hj hij z => ?_
    have hi' : i < p.2.length := by omega
    have hj' : j < p.2.length := by omega
    obtain ⟨a, h1, h2⟩ := aat i p.2[i] (List.getElem?_eq_getElem hi')
    obtain ⟨b, h3, h4⟩ := aat j p.2[j] (List.getElem?_eq_getElem hj')
    rw [List.getElem?_eq_getElem hi] at h1
    rw [List.getElem?_eq_getElem hj] at h3
    have hab : a = b := (Option.some.inj h1).symm.trans (z.trans (Option.some.inj h3))
    subst hab
    obtain ⟨q1, q2⟩ := List.getElem?_eq_some_iff.mp h2
    obtain ⟨q3, q4⟩ := List.getElem?_eq_some_iff.mp h4
    have e5 : p.2[i] = p.2[j] := (List.getElem_inj ok1.nd).mp (q2.trans q4.symm)
    have := (List.getElem_inj hnd).mp e5
    omega
  let u : Wd := { m := as, st := os, F := w1.F, H := w1.H }
  have oku : WOk ct u := by
    refine ⟨ok1.sub, by show as.length = os.length; omega, and_, fun i a o h1 h2 => ?_, fun a h => ok1.tr a (a_in a h)⟩
    have h1 : as[i]? = some a := h1
    have h2 : os[i]? = some o := h2
    have hi' : i < p.2.length := by rw [← al]; exact (List.getElem?_eq_some_iff.mp h1).1
    obtain ⟨b, h3, h4⟩ := aat i p.2[i] (List.getElem?_eq_getElem hi')
    rw [h1] at h3; cases h3
    obtain ⟨o2, h5, h6, h7, h8⟩ := oat i p.2[i] (List.getElem?_eq_getElem hi')
    rw [h2] at h5; cases h5
    rcases ok1.ob _ a o h4 h6 with z | ⟨hF, h, h9, h10⟩
    · exact absurd z h8
    · refine .inr ⟨hF, h, h9, ?_⟩
      cases o with
      | lst l => obtain ⟨vs, rfl, r⟩ := h10; exact ⟨vs, rfl, Rels.pure l h7 r⟩
      | dct tk ks vs =>
        have h7 : (D.pures ks && D.pures vs) = true := h7
        rw [Bool.and_eq_true] at h7
        rcases h10 with ⟨kvs, z1, rfl, z2, r⟩ | ⟨kvs, z1, rfl, z2, r⟩
        · exact .inl ⟨kvs, z1, rfl, z2, Rels.pure vs h7.2 r⟩
        · exact .inr ⟨kvs, z1, rfl, z2, Rels.pure vs h7.2 r⟩
      | ins c fs vs => obtain ⟨C, dx, fvs, z1, rfl, z2, r⟩ := h10; exact ⟨C, dx, fvs, z1, rfl, z2, Rels.pure vs h7 r⟩
      | gone => trivial
  refine .inl ⟨u, p.1, d, os', rfl, oku, by have := hand_rel e2 r1 [] as rfl al aat; simpa using this, e4, fun u' v le ok' hm hs r => ?_⟩
  have pu := hp _ _ _ _ e4
  have keep : ∀ a o, w1.H a = some o → a ∉ as → u'.H a = some o := fun a o h hn => le.keep a o h hn
  have le2 : Le w1 { m := w1.m, st := putAt w1.st p.2 os', F := u'.F, H := u'.H } :=
    ⟨List.prefix_refl _, fun a o h => le.fr a o h, fun a o h hn => keep a o h fun z => hn (a_in a z), fun _ h h' => absurd h h', fun a h hn => le.ff a h fun z => hn (a_in a z), fun a h => le.there a h⟩
  have ok2 : WOk ct { m := w1.m, st := putAt w1.st p.2 os', F := u'.F, H := u'.H } := by
    refine ⟨ok'.sub, by show w1.m.length = (putAt w1.st p.2 os').length; rw [put_len]; exact ok1.len, ok1.nd, fun n a o h1 h2 => ?_, fun a h => le2.there a (ok1.tr a h)⟩
    have h1 : w1.m[n]? = some a := h1
    have h2 : (putAt w1.st p.2 os')[n]? = some o := h2
    by_cases hn : n ∈ p.2
    · obtain ⟨i, hi⟩ := List.getElem?_of_mem hn
      obtain ⟨b, h3, h4⟩ := aat i n hi
      rw [h1] at h4; cases h4
      have hi' : i < os'.length := by rw [hlen]; exact (List.getElem?_eq_some_iff.mp hi).1
      have h5 := put_in (st := w1.st) hnd hi (List.getElem?_eq_getElem hi') (hps n hn)
      rw [h2] at h5
      have h6 : os'[i]? = some o := by rw [List.getElem?_eq_getElem hi']; exact h5.symm
      rcases ok'.ob i a o (by rw [hm]; exact h3) (by rw [hs]; exact h6) with z | ⟨hF, h, h7, h8⟩
      · exact .inl z
      · refine .inr ⟨hF, h, h7, ?_⟩
        have po := pu.2 o (List.mem_of_getElem? h6)
        cases o with
        | lst l => obtain ⟨vs, rfl, r⟩ := h8; exact ⟨vs, rfl, Rels.pure l po r⟩
        | dct tk ks vs =>
          have po : (D.pures ks && D.pures vs) = true := po
          rw [Bool.and_eq_true] at po
          rcases h8 with ⟨kvs, z1, rfl, z2, r⟩ | ⟨kvs, z1, rfl, z2, r⟩
          · exact .inl ⟨kvs, z1, rfl, z2, Rels.pure vs po.2 r⟩
          · exact .inr ⟨kvs, z1, rfl, z2, Rels.pure vs po.2 r⟩
        | ins c fs vs => obtain ⟨C, dx, fvs, z1, rfl, z2, r⟩ := h8; exact ⟨C, dx, fvs, z1, rfl, z2, Rels.pure vs po r⟩
        | gone => trivial
    · rw [put_out hn] at h2
      by_cases g : o = .gone
      · exact .inl g
      · rcases ok1.ob n a o h1 h2 with z | ⟨hF, h, h3, h4⟩
        · exact absurd z g
        · have na : a ∉ as := fun z => by
            obtain ⟨i, hi⟩ := List.getElem?_of_mem z
            have hi' : i < p.2.length := by rw [← al]; exact (List.getElem?_eq_some_iff.mp hi).1
            obtain ⟨b, h5, h6⟩ := aat i p.2[i] (List.getElem?_eq_getElem hi')
            rw [hi] at h5; cases h5
            obtain ⟨q1, q2⟩ := List.getElem?_eq_some_iff.mp h1
            obtain ⟨q3, q4⟩ := List.getElem?_eq_some_iff.mp h6
            have e5 : n = p.2[i] := (List.getElem_inj ok1.nd).mp (q2.trans q4.symm)
            exact hn (e5 ▸ List.getElem_mem hi')
          refine .inr ⟨?_, h, keep a h h3 na, h4.mono (List.prefix_refl _) fun b x hb => le.fr b x hb⟩
          rcases le.ff a (by show w1.H a ≠ none; rw [h3]; exact fun z => nomatch z) na with z | ⟨xs, z⟩
          · exact z.trans hF
          · have z : w1.H a = some (.tup xs) := z
            rw [h3] at z; exact absurd (Option.some.inj z) (nottup g h4 xs)
  exact q { m := w1.m, st := putAt w1.st p.2 os', F := u'.F, H := u'.H } v (le1.trans le2) ok2 rfl (Rel.pure d pu.1 r)
end
end Ev

set_option linter.all false
set_option maxRecDepth 100000
/-! Jt: a body's end. -/
namespace Ev
open PySem L2
open Classical in
/-- what stands behind a body: data, and the objects that the body made -/
noncomputable def Wd.end (w : Wd) (k : Nat) : Hp := fun a => match w.F a with
  | some o => some o
  | none => if a ∈ w.m.drop k then w.H a else none
section
variable {ct : Nat → Option Addr} {X : Cx}
theorem end_fr {w : Wd} {k : Nat} : ∀ a o, w.F a = some o → w.end k a = some o := fun a o h => by unfold Wd.end; rw [h]
theorem end_sub {w : Wd} (ok : WOk ct w) {k : Nat} : ∀ a o, w.end k a = some o → w.H a = some o := fun a o h => by
  unfold Wd.end at h
  split at h
  · rename_i q; cases h; exact ok.sub a _ q
  · split at h
    · exact h
    · cases h
theorem end_out {w : Wd} {k : Nat} {a : Addr} (h : a ∉ w.m.drop k) : w.end k a = w.F a := by
  unfold Wd.end
  cases q : w.F a with
  | some o => rfl
  | none => simp only; rw [if_neg h]
theorem end_ok {w : Wd} (ok : WOk ct w) (k : Nat) : FzOk w k (w.end k) := by
  refine ⟨end_fr, fun n a o hk h1 h2 h3 => ?_⟩
  rcases ok.ob n a o h1 h2 with e | ⟨e, _⟩
  · exact absurd e h3
  · unfold Wd.end
    rw [e]
    have : a ∈ w.m.drop k := List.mem_of_getElem? (i := n - k) (by rw [List.getElem?_drop, show k + (n - k) = n by omega]; exact h1)
    simp only; rw [if_pos this]
theorem leave_ok {u w : Wd} (oku : WOk ct u) (le : Le u w) (okw : WOk ct w) {d : D} {v : V} (r : w.R ct d v) {d' : D} {os : List Ob} (e : leave u.st.length d w.st = .ok d' os) :
    ∃ w', Le u w' ∧ WOk ct w' ∧ w'.m = u.m ∧ w'.st = os ∧ w'.H = w.H ∧ w'.R ct d' v := by
  unfold leave at e
  obtain ⟨d2, e1, e⟩ := ofO_of e
  obtain ⟨os2, e2, e⟩ := ofO_of e
  cases e
  have hk : u.st.length = u.m.length := oku.len.symm
  have fz := end_ok okw u.st.length
  obtain ⟨l1, l2, l3⟩ := frzObs_all e2
  have hml : u.m.length ≤ w.m.length := le.pre.length_le
  have hlen : (w.st.take u.st.length).length = u.st.length := by rw [List.length_take, ← okw.len]; omega
  have mem_w : ∀ a, a ∈ u.m → a ∈ w.m := fun a h => le.pre.subset h
  have dropm : ∀ a, a ∈ w.m.drop u.st.length → a ∈ w.m ∧ a ∉ u.m := fun a h => by
    refine ⟨List.mem_of_mem_drop h, fun z => ?_⟩
    obtain ⟨r', hr⟩ := le.pre
    rw [← hr, hk, List.drop_left] at h
    have nd := okw.nd
    rw [← hr, List.nodup_append] at nd
    exact nd.2.2 a z a h rfl
  have ff : ∀ a, u.H a ≠ none → a ∉ u.m → w.end u.st.length a = u.F a ∨ ∃ xs, u.H a = some (.tup xs) := fun a h1 h2 => by
    have : a ∉ w.m.drop u.st.length := fun z => h1 (le.new a (dropm a z).1 h2)
    rw [end_out this]
    exact le.ff a h1 h2
  refine ⟨{ m := u.m, st := os, F := w.end u.st.length, H := w.H }, ⟨List.prefix_refl _, fun a o h => end_fr a o (le.fr a o h), fun a o h hn => le.keep a o h hn, fun _ h h' => absurd h h', ff, fun a h => le.there a h⟩, ⟨end_sub okw, by show u.m.length = os.length; omega, oku.nd, fun n a o h1 h2 => ?_, fun a h => okw.tr a (mem_w a h)⟩, rfl, rfl, rfl, frz_rel okw fz e1 r⟩
  have h1 : u.m[n]? = some a := h1
  have h2 : os[n]? = some o := h2
  have hn : n < u.st.length := by rw [hk]; exact (List.getElem?_eq_some_iff.mp h1).1
  have h3 : w.m[n]? = some a := pre_get le.pre h1
  have hn2 : n < (w.st.take u.st.length).length := by rw [hlen]; exact hn
  obtain ⟨o', h4, h5⟩ := l2 n _ (List.getElem?_eq_getElem hn2)
  rw [h2] at h4; cases h4
  have h6 : w.st[n]? = some (w.st.take u.st.length)[n] := by rw [← List.getElem?_eq_getElem hn2, List.getElem?_take_of_lt hn]
  rcases okw.ob n a _ h3 h6 with g | ⟨hF, h, h7, h8⟩
  · rw [g] at h5
    simp [frzOb] at h5
    exact .inl h5.symm
  · refine .inr ⟨?_, h, h7, frzOb_rel okw fz h5 h8⟩
    show w.end u.st.length a = none
    rw [end_out fun z => (dropm a z).2 (List.mem_of_getElem? h1)]; exact hF
open Classical in
theorem leaveN_ok {u w : Wd} (um : u.m = []) (le : Le u w) (okw : WOk ct w) {d : D} {v : V} (r : w.R ct d v) {o : Ob} {st' : List Ob} (e : leaveN d w.st = .ok o st') :
    ∃ w' p h, Le u w' ∧ WOk ct w' ∧ w'.m = [] ∧ w'.H p = none ∧ ORel ct w'.m w'.F o h ∧ v = .ref p ∧ w.H = upd w'.H p h := by
  cases d with
  | ref n =>
    have r : Rel ct w.m w.F (.ref n) v := r
    unfold Rel at r
    obtain ⟨a, rfl, hm⟩ := r
    have main : ∀ o1, w.st[n]? = some o1 → o1 ≠ .gone → frzOb (w.st.set n .gone) 0 o1 = some o → ∃ w' p h, Le u w' ∧ WOk ct w' ∧ w'.m = [] ∧ w'.H p = none ∧ ORel ct w'.m w'.F o h ∧ V.ref a = .ref p ∧ w.H = upd w'.H p h := fun o1 hst hg hfr => by
      rcases okw.ob n a o1 hm hst with g | ⟨hF, h, h1, h2⟩
      · exact absurd g hg
      have ha : a ∈ w.m := List.mem_of_getElem? hm
      have hua : u.H a = none := le.new a ha (by rw [um]; simp)
      -- the state without the new object
      let w1 : Wd := { w with st := w.st.set n .gone }
      have ok1 : WOk ct w1 := by
        refine ⟨okw.sub, by show w.m.length = (w.st.set n .gone).length; rw [List.length_set]; exact okw.len, okw.nd, fun k b x q1 q2 => ?_, okw.tr⟩
        have q2 : (w.st.set n .gone)[k]? = some x := q2
        by_cases hk : n = k
        · subst hk
          have hlt : n < w.st.length := (List.getElem?_eq_some_iff.mp hst).1
          rw [List.getElem?_set_self hlt] at q2
          cases q2; exact .inl rfl
        · rw [List.getElem?_set_ne hk] at q2
          exact okw.ob k b x q1 q2
      let Fz : Hp := fun b => match w.F b with | some x => some x | none => if b ∈ w.m ∧ b ≠ a then w.H b else none
      have Fa : Fz a = none := by show (match w.F a with | some x => some x | none => if a ∈ w.m ∧ a ≠ a then w.H a else none) = none; rw [hF]; simp
      have Ffr : ∀ b x, w.F b = some x → Fz b = some x := fun b x q => by show (match w.F b with | some x => some x | none => if b ∈ w.m ∧ b ≠ a then w.H b else none) = _; rw [q]
      have Fsub : ∀ b x, Fz b = some x → w.H b = some x := fun b x q => by
        have q : (match w.F b with | some x => some x | none => if b ∈ w.m ∧ b ≠ a then w.H b else none) = some x := q
        split at q
        · rename_i y hy; cases q; exact okw.sub b _ hy
        · split at q
          · exact q
          · cases q
      have fz : FzOk w1 0 Fz := by
        refine ⟨Ffr, fun k b x _ q1 q2 q3 => ?_⟩
        have q1 : w.m[k]? = some b := q1
        have q2 : (w.st.set n .gone)[k]? = some x := q2
        have hk : n ≠ k := fun z => by
          subst z
          have hlt : n < w.st.length := (List.getElem?_eq_some_iff.mp hst).1
          rw [List.getElem?_set_self hlt] at q2
          cases q2; exact q3 rfl
        have hb : b ≠ a := fun z => by
          subst z
          obtain ⟨p1, p2⟩ := List.getElem?_eq_some_iff.mp q1
          obtain ⟨p3, p4⟩ := List.getElem?_eq_some_iff.mp hm
          exact hk ((List.getElem_inj okw.nd).mp (p2.trans p4.symm)).symm
        rcases ok1.ob k b x q1 (show (w.st.set n .gone)[k]? = some x from q2) with g | ⟨g, _⟩
        · exact absurd g q3
        · have g : w.F b = none := g
          show (match w.F b with | some x => some x | none => if b ∈ w.m ∧ b ≠ a then w.H b else none) = w.H b
          rw [g]
          simp only
          rw [if_pos ⟨List.mem_of_getElem? q1, hb⟩]
      have ro : ORel ct [] Fz o h := frzOb_rel (w := w1) ok1 fz hfr h2
      have low : ∀ b, b ≠ a → (if b = a then none else w.H b) = w.H b := fun b hb => if_neg hb
      have ne : ∀ b, u.H b ≠ none → b ≠ a := fun b hb z => hb (z ▸ hua)
      refine ⟨{ m := [], st := [], F := Fz, H := fun b => if b = a then none else w.H b }, a, h, ⟨by rw [um]; exact List.prefix_refl _, fun b x q => Ffr b x (le.fr b x q), fun b x q hn => ?_, fun _ q => by simp at q, fun b q hn => ?_, fun b q => ?_⟩, ⟨fun b x q => ?_, rfl, List.nodup_nil, fun k b x q => by simp at q, fun b q => by simp at q⟩, rfl, if_pos rfl, ro, rfl, ?_⟩
      · show (if b = a then none else w.H b) = some x
        rw [low b (ne b (by rw [q]; exact fun z => nomatch z))]
        exact le.keep b x q hn
      · have hbm : b ∉ w.m := fun z => q (le.new b z hn)
        rcases le.ff b q hn with z | z
        · left
          show Fz b = u.F b
          rw [← z]
          show (match w.F b with | some x => some x | none => if b ∈ w.m ∧ b ≠ a then w.H b else none) = w.F b
          cases w.F b with
          | some x => rfl
          | none => simp only; rw [if_neg fun z => hbm z.1]
        · exact .inr z
      · show (if b = a then none else w.H b) ≠ none
        rw [low b (ne b q)]
        exact le.there b q
      · have q : Fz b = some x := q
        show (if b = a then none else w.H b) = some x
        have hb : b ≠ a := fun z => by subst z; rw [Fa] at q; cases q
        rw [low b hb]; exact Fsub b x q
      · funext b
        by_cases hb : b = a
        · subst hb; rw [upd_same]; exact h1
        · rw [upd_ne hb]; exact (low b hb).symm
    simp only [leaveN] at e
    split at e
    · rename_i l hl
      obtain ⟨o', e1, e⟩ := ofO_of e
      cases e
      exact main _ hl (fun z => nomatch z) e1
    · rename_i tk ks vs hl
      obtain ⟨o', e1, e⟩ := ofO_of e
      cases e
      exact main _ hl (fun z => nomatch z) e1
    · cases e
  | _ => cases e
/-! what comes out is data -/
theorem leave_pure {k : Nat} {d d' : D} {st os : List Ob} (e : leave k d st = .ok d' os) : d'.pure = true ∧ ∀ o ∈ os, Ob.pure o = true := by
  unfold leave at e
  obtain ⟨d2, e1, e⟩ := ofO_of e
  obtain ⟨os2, e2, e⟩ := ofO_of e
  cases e
  exact ⟨frz_pure e1, (frzObs_all e2).2.2⟩
theorem leaveN_pure {d : D} {o : Ob} {st st' : List Ob} (e : leaveN d st = .ok o st') : o.pure = true := by
  unfold leaveN at e
  split at e
  · split at e
    · obtain ⟨o', e1, e⟩ := ofO_of e
      cases e
      exact frzOb_pure e1
    · obtain ⟨o', e1, e⟩ := ofO_of e
      cases e
      exact frzOb_pure e1
    · cases e
  · cases e
theorem runB_pure {c : Cfg} {fd : Fd} : PureF (runB c fd) := fun ds st d st' e => by
  unfold runB at e
  obtain ⟨_, e⟩ := chk_of e
  obtain ⟨p, st1, e1, e⟩ := bnd_of e
  split at e
  · exact leave_pure e
  · exact leave_pure e
  · cases e
theorem callF_pure (P : Prog) (n i : Nat) : PureF (callF P n i) := fun ds st d st' e => by
  cases n with
  | zero => simp [callF] at e
  | succ n =>
    unfold callF at e
    split at e
    · exact runB_pure _ _ _ _ e
    · cases e
theorem callN_pure (P : Prog) (n i : Nat) : ∀ ds o st', callN P n i ds = .ok o st' → o.pure = true := fun ds o st' e => by
  cases n with
  | zero => simp [callN] at e
  | succ n =>
    unfold callN at e
    split at e
    · unfold runN at e
      obtain ⟨_, e⟩ := chk_of e
      obtain ⟨p, st1, e1, e⟩ := bnd_of e
      split at e
      · exact leaveN_pure e
      · cases e
    · cases e
/-! a body that is read keeps the promise -/
theorem start_env {w : Wd} {N : List Str} {ds : List D} {vs : List V} (r : w.Rs ct ds vs) {ns np : Nat} (h1 : ds.length = np) (h2 : N.length = ns) : EnvR ct w (ds.map some ++ List.replicate (ns - np) none) (L2.start N vs) := by
  have hl := r.length
  refine ⟨by simp [L2.start]; omega, fun i d h => ?_⟩
  by_cases hi : i < ds.length
  · rw [List.getElem?_append_left (by simpa using hi), List.getElem?_map] at h
    rw [List.getElem?_eq_getElem hi] at h
    simp at h; subst h
    obtain ⟨v, h3, h4⟩ := Rels.get r (List.getElem?_eq_getElem hi)
    refine ⟨v, ?_, h4⟩
    unfold L2.start
    rw [List.getElem?_append_left (by simp; omega), List.getElem?_map, h3]; rfl
  · rw [List.getElem?_append_right (by simpa using hi), List.getElem?_replicate] at h
    split at h <;> cases h
theorem body_ok {c : Cfg} {fd : Fd} {N : List Str} {vs : List V} {H : Hp} {Q : VK} {E : XK} (hN : N.length = fd.ns) (h : spA ct (runB c fd) (runN c fd) vs H Q E) : tS ct (evS c fd.body) { nx := fun _ H' => Q .non H', rt := Q } (L2.start N vs) H := by
  rcases h with ⟨w, ds, d, st', rfl, ok, r, e, q⟩ | ⟨w, ds, o, st', rfl, ok, hm, r, e, q⟩
  · unfold runB at e
    obtain ⟨hl, e⟩ := chk_of e
    have hl := of_decide_eq_true hl
    obtain ⟨p, st1, e1, e⟩ := bnd_of e
    obtain ⟨fl, ρ1⟩ := p
    refine ⟨w, _, (fl, ρ1), st1, rfl, ok, start_env r hl hN, e1, fun w1 σ1 le1 ok1 hs1 env1 => ?_⟩
    cases fl with
    | ret x =>
      intro v rv
      rw [← hs1] at e
      obtain ⟨w', le', ok', hm', hst', hH', r'⟩ := leave_ok ok le1 ok1 rv e
      rw [← hH']
      exact q w' v le' ok' hm' hst' r'
    | nx =>
      rw [← hs1] at e
      obtain ⟨w', le', ok', hm', hst', hH', r'⟩ := leave_ok ok le1 ok1 (d := .non) (v := .non) of_non e
      show Q .non w1.H
      rw [← hH']
      exact q w' .non le' ok' hm' hst' r'
    | brk => cases e
    | cnt => cases e
  · unfold runN at e
    obtain ⟨hl, e⟩ := chk_of e
    have hl := of_decide_eq_true hl
    obtain ⟨p, st1, e1, e⟩ := bnd_of e
    obtain ⟨fl, ρ1⟩ := p
    have hst : w.st = [] := by
      have := ok.len
      rw [hm] at this
      exact List.eq_nil_of_length_eq_zero this.symm
    refine ⟨w, _, (fl, ρ1), st1, rfl, ok, start_env r hl hN, by rw [hst]; exact e1, fun w1 σ1 le1 ok1 hs1 env1 => ?_⟩
    cases fl with
    | ret x =>
      intro v rv
      rw [← hs1] at e
      obtain ⟨w', p, h, le', ok', hm', hp, ro, rfl, hH⟩ := leaveN_ok hm le1 ok1 rv e
      rw [hH]
      exact q w' p h le' ok' hm' hp ro
    | nx => cases e
    | brk => cases e
    | cnt => cases e
theorem spA_len {c : Cfg} {fd : Fd} {vs : List V} {H : Hp} {Q : VK} {E : XK} (h : spA ct (runB c fd) (runN c fd) vs H Q E) : vs.length = fd.np := by
  rcases h with ⟨w, ds, d, st', _, _, r, e, _⟩ | ⟨w, ds, o, st', _, _, _, r, e, _⟩
  · unfold runB at e
    obtain ⟨hl, _⟩ := chk_of e
    rw [← r.length]; exact of_decide_eq_true hl
  · unfold runN at e
    obtain ⟨hl, _⟩ := chk_of e
    rw [← r.length]; exact of_decide_eq_true hl
end
end Ev

set_option linter.all false
set_option maxRecDepth 100000
/-! Ag0: what is seen of the text, decided. -/
namespace Ev
open PySem L2
structure Cxt where
  N : List Str
  sc : Scope
  /-- names whose cells may be stored to -/
  fn : Str → Bool
def Cxt.blk (Γ : Cxt) (scope : Scope) : Cxt := { N := Γ.N, sc := relS scope Γ.sc, fn := fun x => scope.names.lookup x == some .cell }
def visB (Γ : Cxt) (x : Str) : Bool := match Γ.sc.names.lookup x with | some .local => true | some .cell => true | some .free => true | _ => false
def locB (Γ : Cxt) (x : Str) : Bool := match Γ.sc.names.lookup x with | some .local => true | some .cell => Γ.fn x | _ => false
def plB (Γ : Cxt) (x : Str) : Bool := match Γ.sc.names.lookup x with | some .local => true | _ => false
def glB (Γ : Cxt) (x : Str) : Bool := match Γ.sc.names.lookup x with | some .globalImplicit => true | _ => false
def slotB (Γ : Cxt) (i : Nat) (x : Str) : Bool := match Γ.N[i]? with | some y => decide (y = x) | none => false
def okName (x : Str) : Bool := !(x == ("__debug__" : Str)) && !(x == ("__classdict__" : Str)) && !decide (x = ("__name__" : Str))
/-- where code runs -/
structure XAt (Γ : Cxt) (X : Cx) : Prop where
  sc : X.env.scope = Γ.sc
  N : X.N = Γ.N
  nd : X.N.Nodup
  calm : X.calm = true
  xe : X.xe = fun _ _ => False
  fn : ∀ x, Γ.fn x = true → X.fn x = true
  kind : Γ.sc.kind = .function
section
variable {Γ : Cxt} {X : Cx}
theorem XAt.vis (h : XAt Γ X) {x : Str} (e : visB Γ x = true) : Vis X.env.scope x := by
  unfold visB at e
  unfold Vis
  rw [h.sc]
  split at e <;> simp_all
theorem XAt.loc (h : XAt Γ X) {x : Str} (e : locB Γ x = true) : L2.Loc X.env.scope x ∧ (X.fn x = true ∨ X.env.scope.names.lookup x = some .local) := by
  unfold locB at e
  unfold L2.Loc
  rw [h.sc]
  split at e
  · rename_i q; exact ⟨.inl q, .inr q⟩
  · rename_i q; exact ⟨.inr q, .inl (h.fn x e)⟩
  · cases e
theorem XAt.pl (h : XAt Γ X) {x : Str} (e : plB Γ x = true) : X.env.scope.names.lookup x = some .local := by
  unfold plB at e
  rw [h.sc]
  split at e
  · assumption
  · cases e
theorem XAt.gl (h : XAt Γ X) {x : Str} (e : glB Γ x = true) : Gl X x := by
  unfold glB at e
  show X.env.scope.names.lookup x = _
  rw [h.sc]
  split at e
  · assumption
  · cases e
theorem XAt.slot (h : XAt Γ X) {i : Nat} {x : Str} (e : slotB Γ i x = true) : X.N[i]? = some x := by
  unfold slotB at e
  rw [h.N]
  split at e
  · rename_i q; rw [q, of_decide_eq_true e]
  · cases e
theorem okName_of {x : Str} (e : okName x = true) : (x == ("__debug__" : Str)) = false ∧ (x == ("__classdict__" : Str)) = false ∧ x ≠ ("__name__" : Str) := by
  unfold okName at e
  simp only [Bool.and_eq_true, Bool.not_eq_true', decide_eq_false_iff_not] at e
  exact ⟨e.1.1, e.1.2, e.2⟩
/-- within a comprehension's block -/
theorem XAt.blk (h : XAt Γ X) {scope : Scope} (hk : scope.kind = .function) (s : Shared) (H : Hp) (C : Addr) (cl : List (Str × Addr)) (fp : List Addr) : XAt (Γ.blk scope) (X.blk s H scope (compEnvC scope cl C X.env) fp) := by
  refine ⟨?_, h.N, h.nd, h.calm, rfl, fun x e => e, hk⟩
  show relS scope X.env.scope = relS scope Γ.sc
  rw [h.sc]
theorem XAt.bk (h : XAt Γ X) : X.env.blockKind = .function := by
  unfold Env.blockKind
  rw [h.sc, h.kind]; rfl
/-! stores of comprehensions -/
def swB (Γ : Cxt) (value target : Expr) : Bool :=
  let f := fun (scope : Scope) => (match target with
    | .Name t pos => plB Γ t && pos.line == value.pos.line && !(scope.names.any fun p => p.1 == t && (p.2 == .local || p.2 == .cell))
    | _ => false)
  match value with
  | .ListComp _ _ s _ => f s
  | .SetComp _ _ s _ => f s
  | .DictComp _ _ _ s _ => f s
  | _ => false
theorem kind_pl (h : XAt Γ X) (t : Str) : (X.env.kindOf t == some NameKind.local) = plB Γ t := by
  show (X.env.scope.names.lookup t == some NameKind.local) = plB Γ t
  unfold plB
  rw [h.sc]
  cases Γ.sc.names.lookup t with
  | none => rfl
  | some k => cases k <;> rfl
theorem sw_eq (h : XAt Γ X) (value target : Expr) (l : Nat) : swapsWith value (some target) l X.env = pure (swB Γ value target) := by
  have hb : (X.env.blockKind == ScopeKind.function) = true := by rw [h.bk]; rfl
  unfold swapsWith swB
  cases value <;> first | rfl | skip
  all_goals (cases target <;> first | rfl | skip)
  all_goals (rename_i t tp; simp only [hb, kind_pl h t, Bool.true_and]; try rfl)
theorem sws_eq (h : XAt Γ X) (value target : Expr) (l : Nat) : swapsWithSole [target] value l X.env = pure (swB Γ value target) := sw_eq h value target l
def noComp : Expr → Bool
  | .ListComp _ _ _ _ => false
  | .SetComp _ _ _ _ => false
  | .DictComp _ _ _ _ _ => false
  | _ => true
theorem swn_eq {value : Expr} {l : Nat} {env : PySem.Env} (h : noComp value = true) : swapsWith value none l env = pure false := by
  unfold swapsWith
  cases value <;> first | rfl | simp [noComp] at h
/-! stores from the right -/
def pairTs (targets : List Expr) (value : Expr) : Option (List Expr × List Expr) :=
  match targets, value with
  | [.Tuple ts _ _], .Tuple vs _ _ => some (ts, vs)
  | [.List ts _], .Tuple vs _ _ => some (ts, vs)
  | _, _ => none
def isStar : Expr → Bool
  | .Starred .. => true
  | _ => false
def plainNm (p : Str → Bool) (line : Nat) : Expr → Option Str
  | .Name id pos => if (p id && pos.line == line) = true then some id else none
  | _ => none
def headLn (ts : List Expr) : Nat := (ts.head?.map fun (e : Expr) => e.pos.line).getD 0
def sw3 (p : Str → Bool) (ts vs : List Expr) : Option (Option (List Str)) :=
  if (!(ts.length == 2 || ts.length == 3) || vs.length != ts.length) = true then some none else
  if vs.any isStar = true then some none else
  if ((ts.filterMap (plainNm p (headLn ts))).length != ts.length || (ts.filterMap (plainNm p (headLn ts))).eraseDups.length != (ts.filterMap (plainNm p (headLn ts))).length) = true then some none else
  if vs.all (foldedForSure 8) = true then some none else
  if vs.all (constantsAlone 8) = true then none else some (some (ts.filterMap (plainNm p (headLn ts))))
/-- none: not seen -/
def sw2 (Γ : Cxt) (targets : List Expr) (value : Expr) : Option (Option (List Str)) :=
  match pairTs targets value with
  | none => some none
  | some (ts, vs) => sw3 (plB Γ) ts vs
theorem sw2_eq (h : XAt Γ X) {targets : List Expr} {value : Expr} {r : Option (List Str)} (e : sw2 Γ targets value = some r) : swappedStores targets value X.env = pure r := by
  have hb : (X.env.blockKind != ScopeKind.function) = false := by rw [h.bk]; rfl
  have hp : (fun t => X.env.kindOf t == some NameKind.local) = plB Γ := funext fun t => kind_pl h t
  unfold sw2 at e
  change (match pairTs targets value with
    | some (ts, vs) => (if (!(ts.length == 2 || ts.length == 3) || vs.length != ts.length || X.env.blockKind != ScopeKind.function) = true then (pure none : Sem (Option (List Str))) else
      if vs.any isStar = true then pure none else
      let names := ts.filterMap (plainNm (fun t => X.env.kindOf t == some NameKind.local) (headLn ts))
      if (names.length != ts.length || names.eraseDups.length != names.length) = true then pure none else
      if vs.all (foldedForSure 8) = true then pure none else
      if vs.all (constantsAlone 8) = true then (do let __r ← (unsupported "assign.tuple-of-constant-expressions:order-of-the-stores" : Sem PUnit.{1}); (fun (_ : PUnit.{1}) => pure (some names)) __r) else (fun (_ : PUnit.{1}) => pure (some names)) PUnit.unit)
    | _ => pure none) = pure r
  rw [hp]
  cases q : pairTs targets value with
  | none => rw [q] at e; cases e; rfl
  | some p =>
    obtain ⟨ts, vs⟩ := p
    rw [q] at e
    simp only [hb, Bool.or_false] at e ⊢
    unfold sw3 at e
    split at e
    · rename_i h1; cases e; rw [if_pos h1]
    · rename_i h1
      rw [if_neg h1]
      split at e
      · rename_i h2; cases e; rw [if_pos h2]
      · rename_i h2
        rw [if_neg h2]
        split at e
        · rename_i h3; cases e; rw [if_pos h3]
        · rename_i h3
          rw [if_neg h3]
          split at e
          · rename_i h4; cases e; rw [if_pos h4]
          · rename_i h4
            rw [if_neg h4]
            split at e
            · cases e
            · rename_i h5; cases e; rw [if_neg h5]
end
end Ev

set_option linter.all false
set_option maxRecDepth 100000
/-! Ag: does the term stand for that text? -/
namespace Ev
open PySem L2
structure Tbl where
  /-- the defs' global names, the classes', the constants'; the methods of the classes -/
  fnm : List (Option Str)
  cnm : List Str
  gnm : List Str
  mets : List (Nat × Nat)
  mnm : Nat → Str
def bltNm : Blt → Str
  | .len => "len" | .abs => "abs" | .int => "int" | .min => "min" | .max => "max" | .sum => "sum" | .sorted => "sorted" | .tuple => "tuple" | .list => "list" | .set => "set" | .all => "all" | .any => "any" | .str => "str" | .dict => "dict"
/-- the names of built-in things that the text must not hide -/
def bNames : List Str := ["len", "abs", "int", "min", "max", "sum", "sorted", "tuple", "list", "all", "any", "str", "dict", "bool", "isinstance", "range", "enumerate", "zip", "reversed"]
def bmNm : Bm → Str
  | .append => "append" | .pop => "pop" | .get => "get" | .count => "count" | .index => "index" | .join => "join" | .remove => "remove" | .reverse => "reverse" | .update => "update" | .extend => "extend"
def tyNm (T : Tbl) : Ty → Option Str
  | .int => some "int" | .bool => some "bool" | .str => some "str" | .tuple => some "tuple" | .list => some "list" | .cls c => T.cnm[c]?
def noSet : Expr → Bool
  | .Set _ _ _ => false
  | _ => true
def subB (l m : List Nat) : Bool := l.all fun x => m.contains x
def ownOf (Γ : Cxt) (own : List Nat) : List (Str × Nat) := own.map fun i => ((Γ.N[i]?).getD "", i)
def isGl (Γ : Cxt) (x y : Str) : Bool := decide (x = y) && glB Γ x
def isTupE : Expr → Bool
  | .Tuple _ _ _ => true
  | _ => false
mutual
def agE (T : Tbl) : Nat → Cxt → E → Expr → Bool
  | 0, _, _, _ => false
  | n + 1, Γ, e, pe => match e with
    | .var i => (match pe with | .Name x _ => slotB Γ i x && visB Γ x && okName x | _ => false)
    | .cint i => (match pe with | .Constant (.int j) _ _ => decide (i = j) | _ => false)
    | .cbl b => (match pe with | .Constant (.bool d) _ _ => decide (b = d) | _ => false)
    | .cnon => (match pe with | .Constant .none _ _ => true | _ => false)
    | .cstr x => (match pe with | .Constant (.str y) _ _ => decide (x = y) | _ => false)
    | .glob g => (match pe with | .Name x _ => glB Γ x && okName x && decide (T.gnm[g]? = some x) | _ => false)
    | .bin op a b => (match pe with | .BinOp pa pop pb _ => decide (pop = bopP op) && agE T n Γ a pa && agE T n Γ b pb | _ => false)
    | .neg a => (match pe with | .UnaryOp .USub pa _ => agE T n Γ a pa | _ => false)
    | .cmp op a b => (match pe with | .Compare pa [pop] [pb] _ => decide (pop = copP op) && noSet pb && agE T n Γ a pa && agE T n Γ b pb | _ => false)
    | .chain op op' a b d => (match pe with | .Compare pa [p1, p2] [pb, pd] _ => decide (p1 = copP op) && decide (p2 = copP op') && noSet pb && noSet pd && agE T n Γ a pa && agE T n Γ b pb && agE T n Γ d pd | _ => false)
    | .isN no a => (match pe with | .Compare pa [pop] [.Constant .none _ _] _ => decide (pop = if no = true then CmpOp.IsNot else CmpOp.Is) && agE T n Γ a pa | _ => false)
    | .andE a b => (match pe with | .BoolOp .And (p :: q :: r) _ => agE T n Γ a p && agBV T n Γ true b (q :: r) | _ => false)
    | .orE a b => (match pe with | .BoolOp .Or (p :: q :: r) _ => agE T n Γ a p && agBV T n Γ false b (q :: r) | _ => false)
    | .notE a => (match pe with | .UnaryOp .Not pa _ => agE T n Γ a pa | _ => false)
    | .ifE t a b => (match pe with | .IfExp pt pa pb _ => agT T n Γ t pt && agE T n Γ a pa && agE T n Γ b pb | _ => false)
    | .tup es => (match pe with | .Tuple ps _ _ => agEs T n Γ es ps | _ => false)
    | .fld a f => (match pe with | .Attribute pa g _ => decide (g = f) && noSuper pa && agE T n Γ a pa | _ => false)
    | .ix a i => (match pe with | .Subscript pa pi _ => plainIx pi && agE T n Γ a pa && agE T n Γ i pi | _ => false)
    | .sl a lo hi => (match pe with | .Subscript pa (.Slice plo phi none _) _ => agE T n Γ a pa && agO T n Γ lo plo && agO T n Γ hi phi | _ => false)
    | .call f _ es => (match pe with | .Call (.Name x _) ps [] _ => decide (T.fnm[f]? = some (some x)) && glB Γ x && okName x && ps.all noStar && agEs T n Γ es ps | _ => false)
    | .make k es => (match pe with | .Call (.Name x _) ps [] _ => decide (T.cnm[k]? = some x) && glB Γ x && okName x && ps.all noStar && agEs T n Γ es ps | _ => false)
    | .meth o k m es => (match pe with | .Call (.Attribute po nm apos) ps [] cpos => T.mets.contains (k, m) && decide (T.mnm m = nm) && noSuper po && ps.all noStar && decide (ps.length < 30) && (apos.endLine == cpos.line) && agE T n Γ o po && agEs T n Γ es ps | _ => false)
    | .blt b es => (match pe with | .Call (.Name x _) ps [] _ => isGl Γ x (bltNm b) && (match b with | .set => false | _ => true) && !ps.isEmpty && ps.all noStar && agEs T n Γ es ps | _ => false)
    | .isi a t => (match pe with | .Call (.Name f _) [pa, .Name x _] [] _ => isGl Γ f "isinstance" && decide (tyNm T t = some x) && glB Γ x && okName x && noStar pa && agE T n Γ a pa | _ => false)
    | .bm m o es => (match pe with | .Call (.Attribute po nm apos) ps [] cpos => decide (nm = bmNm m) && noSuper po && ps.all noStar && decide (ps.length < 30) && (apos.endLine == cpos.line) && (match m with | .get => (match es, ps with | .cons e (.cons f .nil), [p, q] => agE T n Γ e p && agE T n Γ f q | _, _ => false) | .append => true | .pop => true | .count => true | .index => true | .join => true | .reverse => true | _ => false) && agE T n Γ o po && agEs T n Γ es ps | _ => false)
    | .mk e => agN T n Γ e pe
    | .tupI it => (match pe with | .Call (.Name x _) [p] [] _ => isGl Γ x "tuple" && noStar p && agR T n Γ it p | _ => false)
    | .lst es => agN T n Γ (.lst es) pe
    | .dnew tk => agN T n Γ (.dnew tk) pe
    | .lstI it => agN T n Γ (.lstI it) pe
    | .lc own tg it cnd el => agN T n Γ (.lc own tg it cnd el) pe
    | .lc2 own own1 tg it cnd tg1 it1 cnd1 el => agN T n Γ (.lc2 own own1 tg it cnd tg1 it1 cnd1 el) pe
    | .dc own tk tg it cnd k v => agN T n Γ (.dc own tk tg it cnd k v) pe
    | _ => false
/-- and, or of the rest, as a value -/
def agBV (T : Tbl) : Nat → Cxt → Bool → E → List Expr → Bool
  | 0, _, _, _, _ => false
  | n + 1, Γ, d, e, ps => match ps with
    | [p] => agE T n Γ e p
    | p :: q :: r => (match d with
      | true => (match e with | .andE a b => agE T n Γ a p && agBV T n Γ true b (q :: r) | _ => false)
      | false => (match e with | .orE a b => agE T n Γ a p && agBV T n Γ false b (q :: r) | _ => false))
    | _ => false
/-- .. as a test -/
def agBT (T : Tbl) : Nat → Cxt → Bool → E → List Expr → Bool
  | 0, _, _, _, _ => false
  | n + 1, Γ, d, e, ps => match ps with
    | [p] => agT T n Γ e p
    | p :: q :: r => (match d with
      | true => (match e with | .andE a b => agT T n Γ a p && agBT T n Γ true b (q :: r) | _ => false)
      | false => (match e with | .orE a b => agT T n Γ a p && agBT T n Γ false b (q :: r) | _ => false))
    | _ => false
def agEs (T : Tbl) : Nat → Cxt → E → List Expr → Bool
  | 0, _, _, _ => false
  | n + 1, Γ, es, ps => match ps with
    | [] => (match es with | .nil => true | _ => false)
    | p :: ps => (match es with | .cons e es => noStar p && agE T n Γ e p && agEs T n Γ es ps | _ => false)
def agO (T : Tbl) : Nat → Cxt → E → Option Expr → Bool
  | 0, _, _, _ => false
  | n + 1, Γ, e, p => match p with
    | none => (match e with | .nil => true | _ => false)
    | some p => (match e with | .cons e .nil => agE T n Γ e p | _ => false)
def agT (T : Tbl) : Nat → Cxt → E → Expr → Bool
  | 0, _, _, _ => false
  | n + 1, Γ, e, pe => match e with
    | .notE a => (match pe with | .UnaryOp .Not pa _ => agT T n Γ a pa | _ => false)
    | .andE a b => (match pe with | .BoolOp .And (p :: q :: r) _ => agT T n Γ a p && agBT T n Γ true b (q :: r) | _ => false)
    | .orE a b => (match pe with | .BoolOp .Or (p :: q :: r) _ => agT T n Γ a p && agBT T n Γ false b (q :: r) | _ => false)
    | .cmp op a b => (match pe with | .Compare pa [pop] [pb] _ => decide (pop = copP op) && noSet pb && agE T n Γ a pa && agE T n Γ b pb | _ => false)
    | .chain op op' a b d => (match pe with | .Compare pa [p1, p2] [pb, pd] _ => decide (p1 = copP op) && decide (p2 = copP op') && noSet pb && noSet pd && agE T n Γ a pa && agE T n Γ b pb && agE T n Γ d pd | _ => false)
    | .isN no a => (match pe with | .Compare pa [pop] [.Constant .none _ _] _ => decide (pop = if no = true then CmpOp.IsNot else CmpOp.Is) && agE T n Γ a pa | _ => false)
    | .yes => false
    | e => plainTest pe && agE T n Γ e pe
/-- what is walked, for that target -/
def agI (T : Tbl) : Nat → Cxt → E → Expr → Expr → Bool
  | 0, _, _, _, _ => false
  | n + 1, Γ, it, tg, pe => match it with
    | .rng1 a => (match pe with | .Call (.Name x _) [p] [] _ => isGl Γ x "range" && noStar p && agE T n Γ a p | _ => false)
    | .rng2 a b => (match pe with | .Call (.Name x _) [p, q] [] _ => isGl Γ x "range" && noStar p && noStar q && agE T n Γ a p && agE T n Γ b q | _ => false)
    | .enum a => (match pe with | .Call (.Name x _) [p] [] _ => isTupE tg && isGl Γ x "enumerate" && noStar p && agE T n Γ a p | _ => false)
    | .zip a b => (match pe with | .Call (.Name x _) [p, q] [] _ => isTupE tg && isGl Γ x "zip" && noStar p && noStar q && agE T n Γ a p && agE T n Γ b q | _ => false)
    | .reved a => (match pe with | .Call (.Name x _) [p] [] _ => isGl Γ x "reversed" && noStar p && agE T n Γ a p | _ => false)
    | .over a => agE T n Γ a pe
    | _ => false
def agR (T : Tbl) : Nat → Cxt → E → Expr → Bool
  | 0, _, _, _ => false
  | n + 1, Γ, it, pe => match it with
    | .rng1 a => (match pe with | .Call (.Name x _) [p] [] _ => isGl Γ x "range" && noStar p && agE T n Γ a p | _ => false)
    | .rng2 a b => (match pe with | .Call (.Name x _) [p, q] [] _ => isGl Γ x "range" && noStar p && noStar q && agE T n Γ a p && agE T n Γ b q | _ => false)
    | _ => false
/-- the tests of a comprehension -/
def agC (T : Tbl) : Nat → Cxt → E → List Expr → Bool
  | 0, _, _, _ => false
  | n + 1, Γ, e, ps => match ps with
    | [] => (match e with | .yes => true | _ => false)
    | [p] => agT T n Γ e p
    | _ => false
/-- names, tuples of names -/
def agV (T : Tbl) : Nat → Cxt → E → Expr → Bool
  | 0, _, _, _ => false
  | n + 1, Γ, tg, pe => match tg with
    | .var i => (match pe with | .Name x _ => slotB Γ i x && locB Γ x | _ => false)
    | .tup es => (match pe with | .Tuple ps _ _ => agVs T n Γ es ps | _ => false)
    | _ => false
def agVs (T : Tbl) : Nat → Cxt → E → List Expr → Bool
  | 0, _, _, _ => false
  | n + 1, Γ, es, ps => match ps with
    | [] => (match es with | .nil => true | _ => false)
    | p :: ps => (match es with | .cons e es => noStar p && agV T n Γ e p && agVs T n Γ es ps | _ => false)
/-- what makes a new list or dict -/
def agN (T : Tbl) : Nat → Cxt → E → Expr → Bool
  | 0, _, _, _ => false
  | n + 1, Γ, e, pe => match e with
    | .lst es => (match pe with | .List ps _ => agEs T n Γ es ps | _ => false)
    | .dnew _ => (match pe with | .Dict [] [] _ => true | _ => false)
    | .bin op a b => (match pe with | .BinOp pa pop pb _ => decide (pop = bopP op) && agE T n Γ a pa && agE T n Γ b pb | _ => false)
    | .blt b es => (match pe with | .Call (.Name x _) ps [] _ => isGl Γ x (bltNm b) && (match b with | .list => true | .dict => true | _ => false) && !ps.isEmpty && ps.all noStar && agEs T n Γ es ps | _ => false)
    | .lstI it => (match pe with | .Call (.Name x _) [p] [] _ => isGl Γ x "list" && noStar p && agR T n Γ it p | _ => false)
    | .call f _ es => (match pe with | .Call (.Name x _) ps [] _ => decide (T.fnm[f]? = some (some x)) && glB Γ x && okName x && ps.all noStar && agEs T n Γ es ps | _ => false)
    | .lc own tg it cnd el => (match pe with | .ListComp pel [⟨ptg, pit, pifs, 0⟩] scope _ => agLc T n Γ own tg it cnd el pel ptg pit pifs scope | _ => false)
    | .lc2 own own1 tg it cnd tg1 it1 cnd1 el => (match pe with | .ListComp pel [⟨ptg, pit, pifs, 0⟩, ⟨ptg1, pit1, pifs1, 0⟩] scope _ => agLc T n Γ own tg it cnd el pel ptg pit pifs scope && noSet pit1 && subB tg1.slots own1 && subB own1 own && agI T n (Γ.blk scope) it1 ptg1 pit1 && agV T n (Γ.blk scope) tg1 ptg1 && agC T n (Γ.blk scope) cnd1 pifs1 | _ => false)
    | .dc own _ tg it cnd k v => (match pe with | .DictComp pk pv [⟨ptg, pit, pifs, 0⟩] scope _ => agLc T n Γ own tg it cnd k pk ptg pit pifs scope && agE T n (Γ.blk scope) v pv | _ => false)
    | _ => false
/-- a comprehension's one source -/
def agLc (T : Tbl) : Nat → Cxt → List Nat → E → E → E → E → Expr → Expr → Expr → List Expr → Scope → Bool
  | 0, _, _, _, _, _, _, _, _, _, _, _ => false
  | n + 1, Γ, own, tg, it, cnd, el, pel, ptg, pit, pifs, scope => blkC Γ.N Γ.sc scope (ownOf Γ own) && noSet pit && subB tg.slots own && agI T n Γ it ptg pit && agV T n (Γ.blk scope) tg ptg && agC T n (Γ.blk scope) cnd pifs && agE T n (Γ.blk scope) el pel
end
/-- targets of statements -/
def agG (T : Tbl) : Nat → Cxt → E → Expr → Bool
  | 0, _, _, _ => false
  | n + 1, Γ, tg, pe => match tg with
    | .var i => (match pe with | .Name x _ => slotB Γ i x && locB Γ x | _ => false)
    | .tup es => (match pe with | .Tuple ps _ _ => agGs T n Γ es ps | _ => false)
    | .ix a i => (match pe with | .Subscript pa pi _ => plainIx pi && agE T n Γ a pa && agE T n Γ i pi | _ => false)
    | _ => false
where
  agGs (T : Tbl) : Nat → Cxt → E → List Expr → Bool
    | 0, _, _, _ => false
    | n + 1, Γ, es, ps => match ps with
      | [] => (match es with | .nil => true | _ => false)
      | p :: ps => (match es with | .cons e es => noStar p && agG T n Γ e p && agGs T n Γ es ps | _ => false)
/-- a comprehension stored to a local name on one line -/
def agX (T : Tbl) (n : Nat) (Γ : Cxt) (i : Nat) (e : E) (ptg pe : Expr) : Bool :=
  match ptg with
  | .Name y _ => slotB Γ i y && plB Γ y && swB Γ pe ptg && (match e with
    | .lc _ _ _ _ _ => agN T n Γ e pe
    | .lc2 _ _ _ _ _ _ _ _ _ => agN T n Γ e pe
    | .dc _ _ _ _ _ _ _ => agN T n Γ e pe
    | _ => false)
  | _ => false
def agP2 (T : Tbl) (n : Nat) (Γ : Cxt) (tg e : E) (ptg pe : Expr) : Bool :=
  match tg with
  | .tup (.cons (.var i) (.cons (.var j) .nil)) => (match e with
    | .tup (.cons a (.cons b .nil)) => (match ptg, pe with
      | .Tuple [.Name x _, .Name y _] _ _, .Tuple [pa, pb] _ _ => decide (i ≠ j) && slotB Γ i x && slotB Γ j y && plB Γ x && plB Γ y && decide (sw2 Γ [ptg] pe = some (some [x, y])) && noStar pa && noStar pb && agE T n Γ a pa && agE T n Γ b pb
      | _, _ => false)
    | _ => false)
  | _ => false
def agP3 (T : Tbl) (n : Nat) (Γ : Cxt) (tg e : E) (ptg pe : Expr) : Bool :=
  match tg with
  | .tup (.cons (.var i) (.cons (.var j) (.cons (.var l) .nil))) => (match e with
    | .tup (.cons a (.cons b (.cons d .nil))) => (match ptg, pe with
      | .Tuple [.Name x _, .Name y _, .Name z _] _ _, .Tuple [pa, pb, pd] _ _ => decide (i ≠ j ∧ i ≠ l ∧ j ≠ l) && slotB Γ i x && slotB Γ j y && slotB Γ l z && plB Γ x && plB Γ y && plB Γ z && decide (sw2 Γ [ptg] pe = some (some [x, y, z])) && noStar pa && noStar pb && noStar pd && agE T n Γ a pa && agE T n Γ b pb && agE T n Γ d pd
      | _, _ => false)
    | _ => false)
  | _ => false
mutual
def agS (T : Tbl) : Nat → Cxt → S → Stmt → Bool
  | 0, _, _, _ => false
  | n + 1, Γ, s, p => match s with
    | .skip => (match p with | .Pass _ => true | _ => false)
    | .asg tg e => (match p with
      | .Assign [ptg] pe _ => (match tg with
        | .fld o f => (match ptg with | .Attribute po g _ => decide (g = f) && !swB Γ pe ptg && agE T n Γ o po && agE T n Γ e pe | _ => false)
        | .var i => (!swB Γ pe ptg && decide (sw2 Γ [ptg] pe = some none) && noStar ptg && agG T n Γ tg ptg && agE T n Γ e pe) || (match e with | .mk e => agX T n Γ i e ptg pe | e => agX T n Γ i e ptg pe)
        | _ => (!swB Γ pe ptg && decide (sw2 Γ [ptg] pe = some none) && noStar ptg && agG T n Γ tg ptg && agE T n Γ e pe) || (!swB Γ pe ptg && (agP2 T n Γ tg e ptg pe || agP3 T n Γ tg e ptg pe)))
      | _ => false)
    | .asg2 tg tg' e => (match p with | .Assign [p1, p2] pe _ => decide (sw2 Γ [p1, p2] pe = some none) && noStar p1 && noStar p2 && agG T n Γ tg p1 && agG T n Γ tg' p2 && agE T n Γ e pe | _ => false)
    | .aug i op e => (match p with | .AugAssign (.Name x _) pop pe _ => decide (pop = bopP op) && slotB Γ i x && locB Γ x && agE T n Γ e pe | _ => false)
    | .augS o i op e => (match p with | .AugAssign (.Subscript po pi _) pop pe _ => decide (pop = bopP op) && plainIx pi && agE T n Γ o po && agE T n Γ i pi && agE T n Γ e pe | _ => false)
    | .ite t a b => (match p with | .If pt pa pb _ => agT T n Γ t pt && agSs T n Γ a pa && agSs T n Γ b pb | _ => false)
    | .whl t a => (match p with | .While pt pa [] _ => agT T n Γ t pt && agSs T n Γ a pa | _ => false)
    | .for_ tg it a => (match p with | .For ptg pit pa [] _ => noSet pit && agI T n Γ it ptg pit && agV T n Γ tg ptg && agSs T n Γ a pa | _ => false)
    | .ret e => (match p with | .Return (some pe) _ => agE T n Γ e pe | _ => false)
    | .retN => (match p with | .Return none _ => true | _ => false)
    | .ex e => (match p with | .Expr pe _ => noComp pe && agE T n Γ e pe | _ => false)
    | .brk => (match p with | .Break _ => true | _ => false)
    | .cnt => (match p with | .Continue _ => true | _ => false)
    | .stop => true
    | _ => false
def agSs (T : Tbl) : Nat → Cxt → S → List Stmt → Bool
  | 0, _, _, _ => false
  | n + 1, Γ, s, ps => match s with
    | .stop => true
    | .seq (.frz _) b => agSs T n Γ b ps
    | .seq a b => (match ps with | p :: r => agS T n Γ a p && agSs T n Γ b r | _ => false)
    | .skip => (match ps with | [] => true | [p] => agS T n Γ .skip p | _ => false)
    | s => (match ps with | [p] => agS T n Γ s p | _ => false)
end
end Ev

set_option linter.all false
set_option maxRecDepth 100000
/-! Sd: the text does what the term says. -/
namespace Ev
open PySem L2 C8
section
variable {ct : Nat → Option Addr} {X : Cx}
theorem tE_mono {e : Expr} {f g : FE} (h : PE X e (tE ct g)) (i : ∀ ρ st d st', f ρ st = .ok d st' → g ρ st = .ok d st') : PE X e (tE ct f) := PE.imp h fun σ H Q q => by
  obtain ⟨w, ρ, d, st', a, ok, env, e, q⟩ := q
  exact ⟨w, ρ, d, st', a, ok, env, i _ _ _ _ e, q⟩
theorem tN_mono {e : Expr} {f g : Env → List Ob → R Ob} (h : PE X e (tN ct g)) (i : ∀ ρ st d st', f ρ st = .ok d st' → g ρ st = .ok d st') : PE X e (tN ct f) := PE.imp h fun σ H Q q => by
  obtain ⟨w, ρ, d, st', a, ok, env, e, q⟩ := q
  exact ⟨w, ρ, d, st', a, ok, env, i _ _ _ _ e, q⟩
theorem tT_mono {e : Expr} {f g : FT} (h : PT X e (tT ct g)) (i : ∀ ρ st d st', f ρ st = .ok d st' → g ρ st = .ok d st') : PT X e (tT ct f) := PT.imp h fun σ H Q q => by
  obtain ⟨w, ρ, d, st', a, ok, env, e, q⟩ := q
  exact ⟨w, ρ, d, st', a, ok, env, i _ _ _ _ e, q⟩
theorem tG_mono {e : Expr} {ss : List Nat} {f g : Ev.D → Env → List Ob → R Env} (h : PG X e (tG ct ss g)) (i : ∀ d ρ st r st', f d ρ st = .ok r st' → g d ρ st = .ok r st') : PG X e (tG ct ss f) := PG.imp h fun v σ H Q q => by
  obtain ⟨w, d, ρ, ρ', st', a, ok, env, r, e, q⟩ := q
  exact ⟨w, d, ρ, ρ', st', a, ok, env, r, i _ _ _ _ _ e, q⟩
theorem tGl_mono {e : List Expr} {ss : List Nat} {f g : List Ev.D → Env → List Ob → R Env} (h : PGs X e (tGl ct ss g)) (i : ∀ d ρ st r st', f d ρ st = .ok r st' → g d ρ st = .ok r st') : PGs X e (tGl ct ss f) := PGs.imp h fun v σ H Q q => by
  obtain ⟨w, d, ρ, ρ', st', a, ok, env, r, e, q⟩ := q
  exact ⟨w, d, ρ, ρ', st', a, ok, env, r, i _ _ _ _ _ e, q⟩
theorem tS_mono {e : Stmt} {f g : FS} (h : PS X e (tS ct g)) (i : ∀ ρ st d st', f ρ st = .ok d st' → g ρ st = .ok d st') : PS X e (tS ct f) := PS.imp h fun D σ H q => by
  obtain ⟨w, ρ, d, st', a, ok, env, e, q⟩ := q
  exact ⟨w, ρ, d, st', a, ok, env, i _ _ _ _ e, q⟩
theorem noSet_mark {op : CmpOp} {e : Expr} (h : noSet e = true) : behindInMarks op e = false := by
  unfold behindInMarks
  split
  · simp [noSet] at h
  · rfl
theorem noSet_fold {e : Expr} {env : PySem.Env} (h : noSet e = true) (x : Value) : foldedSetIterable e env x = pure x := by
  unfold foldedSetIterable
  split
  · simp [noSet] at h
  · rfl
/-- what is known of the program where code runs -/
structure Fct (T : Tbl) (c : Cfg) (ct : Nat → Option Addr) (k : Nat) (X : Cx) : Prop where
  cal : ∀ f x, T.fnm[f]? = some (some x) → Cal X.prog X.w X.K X.mg X.base k x (spA ct (c.fn f) (c.fnN f)) []
  mak : ∀ q x, T.cnm[q]? = some x → ∃ C f, ct q = some C ∧ Mak X.prog X.w X.K X.mg X.base k x C (spA ct (c.fn f) (c.fnN f)) [] ∧
    ∀ ds, c.new q ds = bnd (c.fn f (.ref 0 :: ds) [.ins q [] []]) fun d os => match d, os with | .non, [.ins k' fs vs] => chk (decide (k' = q)) (.ok (.obj q fs vs) []) | _, _ => .bad
  met : ∀ q m, (q, m) ∈ T.mets → ∃ C, ct q = some C ∧ Met X.prog X.w X.K X.mg X.base k C (c.mnm m) (spA ct (c.fn m) (c.fnN m)) []
  mnm : c.mnm = T.mnm
  pf : ∀ f, PureF (c.fn f)
  pn : ∀ f ds o st', c.fnN f ds = .ok o st' → o.pure = true
  cf : ClF X.K ct
  fld : ∀ q C f, ct q = some C → c.fok q f = true → NoAttr X.K C f
  bi : ∀ x ∈ bNames, X.mg x = none
  glb : ∀ g x z, T.gnm[g]? = some x → c.glb g = some z → ∃ t, X.mg x = some (.str z t)
  cls : ∀ q x, T.cnm[q]? = some x → ∃ C, ct q = some C ∧ X.mg x = some (.ref C)
  room : Room (k + 1) X.A
theorem Fct.blk {T : Tbl} {c : Cfg} {k : Nat} (h : Fct T c ct k X) (s : Shared) (H : Hp) (scope : Scope) (env : PySem.Env) (fp : List Addr) : Fct T c ct k (X.blk s H scope env fp) :=
  ⟨h.cal, h.mak, h.met, h.mnm, h.pf, h.pn, h.cf, h.fld, h.bi, h.glb, h.cls, h.room⟩
theorem Fct.hu {T : Tbl} {c : Cfg} {k : Nat} (h : Fct T c ct k X) : X.A.units + 66 < cLine := by have := h.room.un; omega
structure Sd (T : Tbl) (c : Cfg) (ct : Nat → Option Addr) (k n : Nat) : Prop where
  e : ∀ {Γ : Cxt} {X : Cx} {e : E} {pe : Expr}, XAt Γ X → Fct T c ct k X → agE T n Γ e pe = true → PE X pe (tE ct (evE c e))
  bv : ∀ {Γ : Cxt} {X : Cx} {d : Bool} {e : E} {ps : List Expr} {pos : Pos}, XAt Γ X → Fct T c ct k X → agBV T n Γ d e ps = true → PE X (.BoolOp (if d = true then .And else .Or) ps pos) (tE ct (evE c e))
  bt : ∀ {Γ : Cxt} {X : Cx} {d : Bool} {e : E} {ps : List Expr} {pos : Pos}, XAt Γ X → Fct T c ct k X → agBT T n Γ d e ps = true → PW X (.BoolOp (if d = true then .And else .Or) ps pos) (tT ct (evT c e))
  es : ∀ {Γ : Cxt} {X : Cx} {e : E} {ps : List Expr}, XAt Γ X → Fct T c ct k X → agEs T n Γ e ps = true → PA X ps (tAs ct (evEs c e))
  o : ∀ {Γ : Cxt} {X : Cx} {e : E} {p : Option Expr}, XAt Γ X → Fct T c ct k X → agO T n Γ e p = true → PO X p (tPo ct (evB c e))
  t : ∀ {Γ : Cxt} {X : Cx} {e : E} {pe : Expr}, XAt Γ X → Fct T c ct k X → agT T n Γ e pe = true → PT X pe (tT ct (evT c e))
  i : ∀ {Γ : Cxt} {X : Cx} {e : E} {tg pe : Expr}, XAt Γ X → Fct T c ct k X → agI T n Γ e tg pe = true → PI X tg pe (tI ct (evI c e))
  r : ∀ {Γ : Cxt} {X : Cx} {e : E} {pe : Expr}, XAt Γ X → Fct T c ct k X → agR T n Γ e pe = true → PRg X pe (tRg ct (evR c e))
  cc : ∀ {Γ : Cxt} {X : Cx} {e : E} {ps : List Expr}, XAt Γ X → Fct T c ct k X → agC T n Γ e ps = true → PTs X ps (tT ct (evT c e))
  v : ∀ {Γ : Cxt} {X : Cx} {e : E} {pe : Expr}, XAt Γ X → agV T n Γ e pe = true → PG X pe (tG ct e.slots fun d ρ st => ofO (tgs e d ρ) fun ρ1 => .ok ρ1 st)
  vs : ∀ {Γ : Cxt} {X : Cx} {e : E} {ps : List Expr}, XAt Γ X → agVs T n Γ e ps = true → PGs X ps (tGl ct e.slots fun l ρ st => ofO (tgs.tgss e l ρ) fun ρ1 => .ok ρ1 st) ∧ ps.all noStar = true ∧ ∀ l ρ r, tgs.tgss e l ρ = some r → l.length = ps.length
  nw : ∀ {Γ : Cxt} {X : Cx} {e : E} {pe : Expr}, XAt Γ X → Fct T c ct k X → agN T n Γ e pe = true → PE X pe (tN ct (evN c e))
  lc : ∀ {Γ : Cxt} {X : Cx} {own : List Nat} {tg it cnd el : E} {pel ptg pit : Expr} {pifs : List Expr} {scope : Scope}, XAt Γ X → Fct T c ct k X → agLc T n Γ own tg it cnd el pel ptg pit pifs scope = true →
    BlkOk X.N X.env.scope scope (ownOf Γ own) ∧ (∀ x, foldedSetIterable pit X.env x = pure x) ∧ (∀ x ∈ tg.slots, x ∈ (ownOf Γ own).map (·.2)) ∧ PI X ptg pit (tI ct (evI c it)) ∧
    (Blk X scope fun Y => PG Y ptg (tG ct tg.slots fun d ρ st => ofO (tgs tg d ρ) fun ρ1 => .ok ρ1 st)) ∧ (Blk X scope fun Y => PTs Y pifs (tT ct (evT c cnd))) ∧ (Blk X scope fun Y => PE Y pel (tE ct (evE c el))) ∧ (Blk X scope fun Y => XAt (Γ.blk scope) Y ∧ Fct T c ct k Y)
theorem own_map (Γ : Cxt) (own : List Nat) : (ownOf Γ own).map (·.2) = own := by
  unfold ownOf
  rw [List.map_map]
  exact List.map_id own
theorem subB_of {l m : List Nat} (h : subB l m = true) : ∀ x ∈ l, x ∈ m := fun x hx => by
  have := List.all_eq_true.mp h x hx
  simpa using this
theorem isGl_of {Γ : Cxt} (a : XAt Γ X) {x y : Str} (h : isGl Γ x y = true) : x = y ∧ Gl X y := by
  unfold isGl at h
  rw [Bool.and_eq_true, decide_eq_true_eq] at h
  obtain ⟨rfl, h2⟩ := h
  exact ⟨rfl, a.gl h2⟩
variable {T : Tbl} {c : Cfg} {k n : Nat}
theorem evE_new {e : E} (h : (match e with | .lst _ => true | .dnew _ => true | .lstI _ => true | .lc _ _ _ _ _ => true | .lc2 _ _ _ _ _ _ _ _ _ => true | .dc _ _ _ _ _ _ _ => true | _ => false) = true) (ρ : Env) (st : List Ob) (d : Ev.D) (st' : List Ob) (he : evE c e ρ st = .ok d st') :
    (bnd (evN c e ρ st) fun o st1 => ofO (obD o) fun d => .ok d st1) = .ok d st' := by
  cases e <;> first | (simp at h; done) | skip
  case lst es =>
    simp only [evE, evN] at he ⊢
    obtain ⟨l, st1, e1, he⟩ := bnd_of he
    obtain ⟨hc, he⟩ := chk_of he
    cases he
    simp only [e1, bnd_ok, hc, chk_true, obD, ofO_some]
  case dnew tk =>
    simp only [evE, evN] at he ⊢
    cases he
    simp only [bnd_ok, obD, ofO_some]
  case lstI it =>
    simp only [evE, evN] at he ⊢
    obtain ⟨l, st1, e1, he⟩ := bnd_of he
    obtain ⟨hc, he⟩ := chk_of he
    cases he
    simp only [e1, bnd_ok, hc, chk_true, obD, ofO_some]
  case lc own tg it cnd el =>
    simp only [evE, evN] at he ⊢
    obtain ⟨l, st1, e1, he⟩ := bnd_of he
    obtain ⟨m, st2, e2, he⟩ := bnd_of he
    obtain ⟨hc, he⟩ := chk_of he
    cases he
    simp only [e1, bnd_ok]
    rw [e2]
    simp only [bnd_ok, hc, chk_true, obD, ofO_some]
  case lc2 =>
    simp only [evE, evN] at he ⊢
    obtain ⟨l, st1, e1, he⟩ := bnd_of he
    obtain ⟨m, st2, e2, he⟩ := bnd_of he
    obtain ⟨hc, he⟩ := chk_of he
    cases he
    simp only [e1, bnd_ok]
    rw [e2]
    simp only [bnd_ok, hc, chk_true, obD, ofO_some]
  case dc =>
    simp only [evE, evN] at he ⊢
    obtain ⟨l, st1, e1, he⟩ := bnd_of he
    obtain ⟨m, st2, e2, he⟩ := bnd_of he
    obtain ⟨hc, he⟩ := chk_of he
    cases he
    simp only [e1, bnd_ok]
    rw [e2]
    simp only [bnd_ok, hc, chk_true, obD, ofO_some]
/-! names, tuples of names -/
theorem sd_v (ih : Sd T c ct k n) {Γ : Cxt} {X : Cx} {e : E} {pe : Expr} (a : XAt Γ X) (h : agV T (n + 1) Γ e pe = true) : PG X pe (tG ct e.slots fun d ρ st => ofO (tgs e d ρ) fun ρ1 => .ok ρ1 st) := by
  unfold agV at h
  split at h
  · split at h
    · rw [Bool.and_eq_true] at h
      obtain ⟨h1, h2⟩ := a.loc h.2
      refine tG_mono (JG_name a.nd (a.slot h.1) h1 h2) fun d ρ st r st' e => ?_
      obtain ⟨ρ1, e1, e⟩ := ofO_of e
      cases e
      simp only [tgs] at e1
      split at e1
      · rename_i hl
        cases e1
        simp only [decide_eq_true hl, chk_true]
      · cases e1
    · cases h
  · split at h
    · obtain ⟨h1, h2, h3⟩ := ih.vs a h
      refine tG_mono (JG_tup a.calm h1 h2 fun l ρ st r st' e => ?_) fun d ρ st r st' e => ?_
      · obtain ⟨ρ1, e1, e⟩ := ofO_of e
        exact h3 l ρ ρ1 e1
      · obtain ⟨ρ1, e1, e⟩ := ofO_of e
        cases e
        cases d with
        | tup l =>
          simp only [tgs] at e1
          simp only [e1, ofO_some]
        | _ => simp [tgs] at e1
    · cases h
  · cases h
theorem sd_vs (ih : Sd T c ct k n) {Γ : Cxt} {X : Cx} {e : E} {ps : List Expr} (a : XAt Γ X) (h : agVs T (n + 1) Γ e ps = true) :
    PGs X ps (tGl ct e.slots fun l ρ st => ofO (tgs.tgss e l ρ) fun ρ1 => .ok ρ1 st) ∧ ps.all noStar = true ∧ ∀ l ρ r, tgs.tgss e l ρ = some r → l.length = ps.length := by
  unfold agVs at h
  split at h
  · split at h
    · refine ⟨tGl_mono JGs_nil fun l ρ st r st' e => ?_, rfl, fun l ρ r e => ?_⟩
      · obtain ⟨ρ1, e1, e⟩ := ofO_of e
        cases e
        cases l with
        | nil => simp only [tgs.tgss] at e1; cases e1; rfl
        | cons _ _ => simp [tgs.tgss] at e1
      · cases l with
        | nil => rfl
        | cons _ _ => simp [tgs.tgss] at e
    · cases h
  · split at h
    · simp only [Bool.and_eq_true] at h
      obtain ⟨h1, h2, h3⟩ := ih.vs a h.2
      have := ih.v a h.1.2
      refine ⟨tGl_mono (JGs_cons this h1 h.1.1) fun l ρ st r st' e => ?_, by rw [List.all_cons, h.1.1, h2]; rfl, fun l ρ r e => ?_⟩
      · obtain ⟨ρ1, e1, e⟩ := ofO_of e
        cases e
        cases l with
        | nil => simp [tgs.tgss] at e1
        | cons d l =>
          simp only [tgs.tgss] at e1
          split at e1
          · rename_i ρ2 q
            simp only [q, ofO_some, bnd_ok, e1]
          · cases e1
      · cases l with
        | nil => simp [tgs.tgss] at e
        | cons d l =>
          simp only [tgs.tgss] at e
          split at e
          · rw [List.length_cons, List.length_cons, h3 _ _ _ e]
          · cases e
    · cases h
end
end Ev

set_option linter.all false
set_option maxRecDepth 100000
/-! Se: the parts of expressions. -/
namespace Ev
open PySem L2 C8
section
variable {ct : Nat → Option Addr} {X : Cx} {T : Tbl} {c : Cfg} {k n : Nat}
theorem tAs_mono {e : List Expr} {f g : FA} (h : PA X e (tAs ct g)) (i : ∀ ρ st d st', f ρ st = .ok d st' → g ρ st = .ok d st') : PA X e (tAs ct f) := PA.imp h fun σ H Q q => by
  obtain ⟨w, ρ, d, st', a, ok, env, e, q⟩ := q
  exact ⟨w, ρ, d, st', a, ok, env, i _ _ _ _ e, q⟩
theorem tPo_mono {e : Option Expr} {f g : Env → List Ob → R (Option Int)} (h : PO X e (tPo ct g)) (i : ∀ ρ st d st', f ρ st = .ok d st' → g ρ st = .ok d st') : PO X e (tPo ct f) := PO.imp h fun σ H Q q => by
  obtain ⟨w, ρ, d, st', a, ok, env, e, q⟩ := q
  exact ⟨w, ρ, d, st', a, ok, env, i _ _ _ _ e, q⟩
theorem tI_mono {tg e : Expr} {f g : FA} (h : PI X tg e (tI ct g)) (i : ∀ ρ st d st', f ρ st = .ok d st' → g ρ st = .ok d st') : PI X tg e (tI ct f) := PI.imp h fun σ H Q q => by
  obtain ⟨w, ρ, d, st', a, ok, env, e, q⟩ := q
  exact ⟨w, ρ, d, st', a, ok, env, i _ _ _ _ e, q⟩
theorem tRg_mono {e : Expr} {f g : Env → List Ob → R (Int × Int)} (h : PRg X e (tRg ct g)) (i : ∀ ρ st d st', f ρ st = .ok d st' → g ρ st = .ok d st') : PRg X e (tRg ct f) := PRg.imp h fun σ H Q q => by
  obtain ⟨w, ρ, d, st', a, ok, env, e, q⟩ := q
  exact ⟨w, ρ, d, st', a, ok, env, i _ _ _ _ e, q⟩
theorem tTs_mono {e : List Expr} {f g : FT} (h : PTs X e (tT ct g)) (i : ∀ ρ st d st', f ρ st = .ok d st' → g ρ st = .ok d st') : PTs X e (tT ct f) := ⟨fun pins s σ H Q I q => h.run pins s σ H Q I (by
  obtain ⟨w, ρ, d, st', a, ok, env, e, q⟩ := q
  exact ⟨w, ρ, d, st', a, ok, env, i _ _ _ _ e, q⟩)⟩
theorem tW_mono {e : Expr} {f g : FT} (h : PW X e (tT ct g)) (i : ∀ ρ st d st', f ρ st = .ok d st' → g ρ st = .ok d st') : PW X e (tT ct f) := PW.imp h fun σ H Q q => by
  obtain ⟨w, ρ, d, st', a, ok, env, e, q⟩ := q
  exact ⟨w, ρ, d, st', a, ok, env, i _ _ _ _ e, q⟩
theorem sd_es (ih : Sd T c ct k n) {Γ : Cxt} {X : Cx} {e : E} {ps : List Expr} (a : XAt Γ X) (f : Fct T c ct k X) (h : agEs T (n + 1) Γ e ps = true) : PA X ps (tAs ct (evEs c e)) := by
  unfold agEs at h
  split at h
  · split at h
    · refine tAs_mono JA_nil fun ρ st d st' e => ?_
      simp only [evEs] at e; exact e
    · cases h
  · split at h
    · simp only [Bool.and_eq_true] at h
      refine tAs_mono (JA_cons (ih.e a f h.1.2) (ih.es a f h.2) h.1.1) fun ρ st d st' e => ?_
      simp only [evEs] at e; exact e
    · cases h
theorem sd_o (ih : Sd T c ct k n) {Γ : Cxt} {X : Cx} {e : E} {p : Option Expr} (a : XAt Γ X) (f : Fct T c ct k X) (h : agO T (n + 1) Γ e p = true) : PO X p (tPo ct (evB c e)) := by
  unfold agO at h
  split at h
  · split at h
    · refine tPo_mono JO_none fun ρ st d st' e => ?_
      simp only [evB] at e; exact e
    · cases h
  · split at h
    · refine tPo_mono (JO_some (ih.e a f h)) fun ρ st d st' e => ?_
      simp only [evB] at e; exact e
    · cases h
theorem sd_cc (ih : Sd T c ct k n) {Γ : Cxt} {X : Cx} {e : E} {ps : List Expr} (a : XAt Γ X) (f : Fct T c ct k X) (h : agC T (n + 1) Γ e ps = true) : PTs X ps (tT ct (evT c e)) := by
  unfold agC at h
  split at h
  · split at h
    · refine tTs_mono JTs_nil fun ρ st d st' e => ?_
      simp only [evT] at e; exact e
    · cases h
  · exact JTs_one (ih.t a f h)
  · cases h
theorem sd_bv (ih : Sd T c ct k n) {Γ : Cxt} {X : Cx} {d : Bool} {e : E} {ps : List Expr} {pos : Pos} (a : XAt Γ X) (f : Fct T c ct k X) (h : agBV T (n + 1) Γ d e ps = true) : PE X (.BoolOp (if d = true then .And else .Or) ps pos) (tE ct (evE c e)) := by
  unfold agBV at h
  split at h
  · exact pe_one (ih.e a f h)
  · split at h
    · split at h
      · rw [Bool.and_eq_true] at h
        refine tE_mono (JE_and (ih.e a f h.1) (ih.bv (d := true) a f h.2)) fun ρ st d st' e => ?_
        simp only [evE] at e; exact e
      · cases h
    · split at h
      · rw [Bool.and_eq_true] at h
        refine tE_mono (JE_or (ih.e a f h.1) (ih.bv (d := false) a f h.2)) fun ρ st d st' e => ?_
        simp only [evE] at e; exact e
      · cases h
  · cases h
theorem sd_bt (ih : Sd T c ct k n) {Γ : Cxt} {X : Cx} {d : Bool} {e : E} {ps : List Expr} {pos : Pos} (a : XAt Γ X) (f : Fct T c ct k X) (h : agBT T (n + 1) Γ d e ps = true) : PW X (.BoolOp (if d = true then .And else .Or) ps pos) (tT ct (evT c e)) := by
  unfold agBT at h
  split at h
  · cases d with
    | true => exact pw_and1 (ih.t a f h)
    | false => exact pw_or1 (ih.t a f h)
  · split at h
    · split at h
      · rw [Bool.and_eq_true] at h
        refine tW_mono (JW_and (ih.t a f h.1) (ih.bt (d := true) a f h.2)) fun ρ st d st' e => ?_
        simp only [evT] at e; exact e
      · cases h
    · split at h
      · rw [Bool.and_eq_true] at h
        refine tW_mono (JW_or (ih.t a f h.1) (ih.bt (d := false) a f h.2)) fun ρ st d st' e => ?_
        simp only [evT] at e; exact e
      · cases h
  · cases h
/-! a < b < c as a value, as a test -/
theorem chain_imp {op op' : Cop} {fa fb fc : FE} {σ : St} {H : Hp} {Q : VK}
    (q : tE ct (fun ρ st => bnd (fa ρ st) fun x st1 => bnd (fb ρ st1) fun y st2 => ofO (opCmp op st2 x y) fun z => match z with
       | true => bnd (fc ρ st2) fun w st3 => ofO (opCmp op' st3 y w) fun z' => .ok (.bl z') st3
       | false => .ok (.bl false) st2) σ H Q) : tChain (rC ct op) (rC ct op') (tE ct fa) (tE ct fb) (tE ct fc) σ H Q := by
  obtain ⟨w, ρ, d, st', rfl, ok, env, e, q⟩ := q
  obtain ⟨x, st1, e1, e⟩ := bnd_of e
  obtain ⟨y, st2, e2, e⟩ := bnd_of e
  obtain ⟨z, e3, e⟩ := ofO_of e
  refine ⟨w, ρ, x, st1, rfl, ok, env, e1, fun w1 v le1 ok1 hs1 r1 => ?_⟩
  refine ⟨w1, ρ, y, st2, rfl, ok1, env.le le1, by rw [hs1]; exact e2, fun w2 u le2 ok2 hs2 r2 => ?_⟩
  refine ⟨w2, x, y, z, rfl, ok2, Wd.R.le le2 r1, r2, by rw [hs2]; exact e3, z, rfl, ?_⟩
  cases z with
  | true =>
    obtain ⟨wd, st3, e4, e⟩ := bnd_of e
    obtain ⟨z', e5, e⟩ := ofO_of e
    cases e
    rw [if_pos rfl]
    refine ⟨w2, ρ, wd, st', rfl, ok2, env.le (le1.trans le2), by rw [hs2]; exact e4, fun w3 wv le3 ok3 hs3 r3 => ?_⟩
    exact ⟨w3, y, wd, z', rfl, ok3, Wd.R.le le3 r2, r3, by rw [hs3]; exact e5, q w3 _ (le1.trans (le2.trans le3)) ok3 hs3 of_bl⟩
  | false =>
    cases e
    rw [if_neg Bool.false_ne_true]
    exact q w2 _ (le1.trans le2) ok2 hs2 of_bl
theorem marks_of {op op' : CmpOp} {b d : Expr} (h : noSet d = true) : lastMarks [op, op'] [b, d] = false := by
  show lastMarks [op'] [d] = false
  exact noSet_mark h
theorem sd_t (ih : Sd T c ct k n) {Γ : Cxt} {X : Cx} {e : E} {pe : Expr} (a : XAt Γ X) (f : Fct T c ct k X) (h : agT T (n + 1) Γ e pe = true) : PT X pe (tT ct (evT c e)) := by
  have plain : ∀ {e pe}, (∀ ρ st d st', evT c e ρ st = .ok d st' → (bnd (evE c e ρ st) fun x st1 => ofO (truth st1 x) fun b => .ok b st1) = .ok d st') → (plainTest pe && agE T n Γ e pe) = true → PT X pe (tT ct (evT c e)) := fun hm h => by
    rw [Bool.and_eq_true] at h
    exact tT_mono (JT_val (ih.e a f h.2) h.1) hm
  cases e <;> (try (simp only [agT] at h; refine plain (fun ρ st d st' e => ?_) h; simp only [evT] at e; exact e))
  case notE x =>
    simp only [agT] at h
    split at h
    · refine tT_mono (JT_not (ih.t a f h)) fun ρ st d st' e => ?_
      simp only [evT] at e; exact e
    · cases h
  case andE x y =>
    simp only [agT] at h
    split at h
    · rw [Bool.and_eq_true] at h
      refine tT_mono (PW.pt (JW_and (ih.t a f h.1) (ih.bt (d := true) a f h.2))) fun ρ st d st' e => ?_
      simp only [evT] at e; exact e
    · cases h
  case orE x y =>
    simp only [agT] at h
    split at h
    · rw [Bool.and_eq_true] at h
      refine tT_mono (PW.pt (JW_or (ih.t a f h.1) (ih.bt (d := false) a f h.2))) fun ρ st d st' e => ?_
      simp only [evT] at e; exact e
    · cases h
  case cmp op x y =>
    simp only [agT] at h
    split at h
    · simp only [Bool.and_eq_true, decide_eq_true_eq] at h
      obtain ⟨⟨⟨rfl, h1⟩, h2⟩, h3⟩ := h
      refine tT_mono (JT_cmp (by have := f.hu; omega) (noSet_mark h1) (ih.e a f h2) (ih.e a f h3)) fun ρ st d st' e => ?_
      simp only [evT, evE] at e
      obtain ⟨v, st1, e1, e⟩ := bnd_of e
      obtain ⟨u, st2, e2, e1⟩ := bnd_of e1
      obtain ⟨u', st3, e3, e1⟩ := bnd_of e1
      obtain ⟨z, e4, e1⟩ := ofO_of e1
      cases e1
      obtain ⟨b, e5, e⟩ := ofO_of e
      cases e
      cases e5
      simp only [e2, e3, e4, bnd_ok, ofO_some]
    · cases h
  case chain op op' x y z =>
    simp only [agT] at h
    split at h
    · simp only [Bool.and_eq_true, decide_eq_true_eq] at h
      obtain ⟨⟨⟨⟨⟨⟨rfl, rfl⟩, h1⟩, h2⟩, h3⟩, h4⟩, h5⟩ := h
      have hu : X.A.units + 65 < cLine := by have := f.hu; omega
      refine PT.imp (pt_chain (r := rC ct op) (r' := rC ct op') (snd_cmp op hu) (snd_cmp op' hu) (ih.e a f h3) (ih.e a f h4) (ih.e a f h5) (marks_of h2)) fun σ H Q q => ?_
      obtain ⟨w, ρ, d, st', rfl, ok, env, e, q⟩ := q
      simp only [evT, evE] at e
      obtain ⟨v, st1, e1, e⟩ := bnd_of e
      obtain ⟨b, e2, e⟩ := ofO_of e
      cases e
      refine chain_imp ⟨w, ρ, v, st', rfl, ok, env, e1, fun w1 u le1 ok1 hs1 r1 => ?_⟩
      have hv : v = .bl d := by
        obtain ⟨_, _, _, e1⟩ := bnd_of e1
        obtain ⟨_, _, _, e1⟩ := bnd_of e1
        obtain ⟨zz, _, e1⟩ := ofO_of e1
        cases zz with
        | true =>
          obtain ⟨_, _, _, e1⟩ := bnd_of e1
          obtain ⟨_, _, e1⟩ := ofO_of e1
          cases e1; simp only [truth, Option.some.injEq] at e2; rw [e2]
        | false => cases e1; simp only [truth, Option.some.injEq] at e2; rw [e2]
      subst hv
      exact ⟨d, rel_bl r1, q w1 le1 ok1 hs1⟩
    · cases h
  case isN no x =>
    simp only [agT] at h
    split at h
    · simp only [Bool.and_eq_true, decide_eq_true_eq] at h
      obtain ⟨rfl, h⟩ := h
      refine tT_mono (JT_isN (ih.e a f h)) fun ρ st d st' e => ?_
      simp only [evT, evE] at e
      obtain ⟨v, st1, e1, e⟩ := bnd_of e
      obtain ⟨u, st2, e2, e1⟩ := bnd_of e1
      cases e1
      obtain ⟨b, e5, e⟩ := ofO_of e
      cases e
      simp only [truth, Option.some.injEq] at e5
      simp only [e2, bnd_ok]
      rw [← e5]
      try (cases u <;> rfl)
    · cases h
  case yes => simp [agT] at h
theorem sd_i (ih : Sd T c ct k n) {Γ : Cxt} {X : Cx} {e : E} {tg pe : Expr} (a : XAt Γ X) (f : Fct T c ct k X) (h : agI T (n + 1) Γ e tg pe = true) : PI X tg pe (tI ct (evI c e)) := by
  cases e <;> simp only [agI] at h <;> (try (cases h; done))
  case rng1 x =>
    split at h
    · simp only [Bool.and_eq_true] at h
      obtain ⟨⟨h1, h2⟩, h3⟩ := h
      obtain ⟨rfl, g⟩ := isGl_of a h1
      refine tI_mono (JI_rng1 g (f.bi _ (by simp [bNames])) (ih.e a f h3) h2) fun ρ st d st' e => ?_
      simp only [evI] at e; exact e
    · cases h
  case rng2 x y =>
    split at h
    · simp only [Bool.and_eq_true] at h
      obtain ⟨⟨⟨⟨h1, h2⟩, h3⟩, h4⟩, h5⟩ := h
      obtain ⟨rfl, g⟩ := isGl_of a h1
      refine tI_mono (JI_rng2 g (f.bi _ (by simp [bNames])) (ih.e a f h4) (ih.e a f h5) h2 h3) fun ρ st d st' e => ?_
      simp only [evI] at e; exact e
    · cases h
  case enum x =>
    split at h
    · simp only [Bool.and_eq_true] at h
      obtain ⟨⟨⟨h0, h1⟩, h2⟩, h3⟩ := h
      obtain ⟨rfl, g⟩ := isGl_of a h1
      cases tg <;> simp [isTupE] at h0
      refine tI_mono (JI_enum g (f.bi _ (by simp [bNames])) (ih.e a f h3) h2) fun ρ st d st' e => ?_
      simp only [evI] at e; exact e
    · cases h
  case zip x y =>
    split at h
    · simp only [Bool.and_eq_true] at h
      obtain ⟨⟨⟨⟨⟨h0, h1⟩, h2⟩, h3⟩, h4⟩, h5⟩ := h
      obtain ⟨rfl, g⟩ := isGl_of a h1
      cases tg <;> simp [isTupE] at h0
      refine tI_mono (JI_zip g (f.bi _ (by simp [bNames])) (ih.e a f h4) (ih.e a f h5) h2 h3) fun ρ st d st' e => ?_
      simp only [evI] at e; exact e
    · cases h
  case reved x =>
    split at h
    · simp only [Bool.and_eq_true] at h
      obtain ⟨⟨h1, h2⟩, h3⟩ := h
      obtain ⟨rfl, g⟩ := isGl_of a h1
      refine tI_mono (JI_rev g (f.bi _ (by simp [bNames])) (ih.e a f h3) h2) fun ρ st d st' e => ?_
      simp only [evI] at e; exact e
    · cases h
  case over x =>
    refine tI_mono (JI_over (ih.e a f h)) fun ρ st d st' e => ?_
    simp only [evI] at e; exact e
theorem sd_r (ih : Sd T c ct k n) {Γ : Cxt} {X : Cx} {e : E} {pe : Expr} (a : XAt Γ X) (f : Fct T c ct k X) (h : agR T (n + 1) Γ e pe = true) : PRg X pe (tRg ct (evR c e)) := by
  cases e <;> simp only [agR] at h <;> (try (cases h; done))
  case rng1 x =>
    split at h
    · simp only [Bool.and_eq_true] at h
      obtain ⟨⟨h1, h2⟩, h3⟩ := h
      obtain ⟨rfl, g⟩ := isGl_of a h1
      refine tRg_mono (JR_1 g (f.bi _ (by simp [bNames])) (ih.e a f h3) h2) fun ρ st d st' e => ?_
      simp only [evR] at e; exact e
    · cases h
  case rng2 x y =>
    split at h
    · simp only [Bool.and_eq_true] at h
      obtain ⟨⟨⟨⟨h1, h2⟩, h3⟩, h4⟩, h5⟩ := h
      obtain ⟨rfl, g⟩ := isGl_of a h1
      refine tRg_mono (JR_2 g (f.bi _ (by simp [bNames])) (ih.e a f h4) (ih.e a f h5) h2 h3) fun ρ st d st' e => ?_
      simp only [evR] at e; exact e
    · cases h
theorem sd_lc (ih : Sd T c ct k n) {Γ : Cxt} {X : Cx} {own : List Nat} {tg it cnd el : E} {pel ptg pit : Expr} {pifs : List Expr} {scope : Scope} (a : XAt Γ X) (f : Fct T c ct k X) (h : agLc T (n + 1) Γ own tg it cnd el pel ptg pit pifs scope = true) :
    BlkOk X.N X.env.scope scope (ownOf Γ own) ∧ (∀ x, foldedSetIterable pit X.env x = pure x) ∧ (∀ x ∈ tg.slots, x ∈ (ownOf Γ own).map (·.2)) ∧ PI X ptg pit (tI ct (evI c it)) ∧
    (Blk X scope fun Y => PG Y ptg (tG ct tg.slots fun d ρ st => ofO (tgs tg d ρ) fun ρ1 => .ok ρ1 st)) ∧ (Blk X scope fun Y => PTs Y pifs (tT ct (evT c cnd))) ∧ (Blk X scope fun Y => PE Y pel (tE ct (evE c el))) ∧ (Blk X scope fun Y => XAt (Γ.blk scope) Y ∧ Fct T c ct k Y) := by
  unfold agLc at h
  simp only [Bool.and_eq_true] at h
  obtain ⟨⟨⟨⟨⟨⟨h1, h2⟩, h3⟩, h4⟩, h5⟩, h6⟩, h7⟩ := h
  have hb := blkOk_by h1
  have hk : scope.kind = .function := hb.kind
  have ab := fun s H C cl fp => a.blk hk s H C cl fp
  refine ⟨by rw [a.N, a.sc]; exact hb, noSet_fold h2, by rw [own_map]; exact subB_of h3, ih.i a f h4, fun s H C cl fp => ih.v (ab s H C cl fp) h5, fun s H C cl fp => ih.cc (ab s H C cl fp) (f.blk ..) h6, fun s H C cl fp => ih.e (ab s H C cl fp) (f.blk ..) h7, fun s H C cl fp => ⟨ab s H C cl fp, f.blk ..⟩⟩
end
end Ev

set_option linter.all false
set_option maxRecDepth 100000
/-! Sf: expressions. -/
namespace Ev
open PySem L2 C8
section
variable {ct : Nat → Option Addr} {X : Cx} {T : Tbl} {c : Cfg} {k n : Nat}
/-! calls by name -/
theorem pe_c0 {x : Str} {p pos : Pos} {sp : Sp} {j : Nat} (cl : Cal X.prog X.w X.K X.mg X.base k x sp []) (hr : Room j X.A) (hk : k ≤ j) (hg : Gl X x) (hd : (x == ("__debug__" : Str)) = false) : PE X (.Call (.Name x p) [] [] pos) (tCall sp [] C8.E0 tNil) := by
  obtain ⟨f, fd, ps, ds, F, hm, kp, b, d⟩ := cl.ex
  exact pe_call0 F (hr.mono hk) hg hm kp b d C8.pass0 hd
theorem pe_mk0 {x : Str} {C : Addr} {p pos : Pos} {sp : Sp} {j : Nat} (cl : Mak X.prog X.w X.K X.mg X.base k x C sp []) (hr : Room j X.A) (hk : k + 1 ≤ j) (hg : Gl X x) (hd : (x == ("__debug__" : Str)) = false) : PE X (.Call (.Name x p) [] [] pos) (tMake C sp [] C8.E0 tNil) := by
  obtain ⟨f, fd, ps, ds, M, F, hm, b, d⟩ := cl.ex
  exact pe_make0 M F (hr.mono hk) hg hm b d C8.pass0 hd
theorem nil_imp {fs : FA} (h : PA X [] (tAs ct fs)) : True := trivial
/-- an empty argument list as a reading -/
theorem tNil_of {fs : FA} (hs : ∀ ρ st l st', fs ρ st = .ok l st' → l = [] ∧ st' = st) {σ : St} {H : Hp} {Q : List V → Hp → Prop} (q : tAs ct fs σ H Q) : tNil σ H Q := by
  obtain ⟨w, ρ, l, st', rfl, ok, env, e, q⟩ := q
  obtain ⟨rfl, rfl⟩ := hs _ _ _ _ e
  exact q w [] (Le.refl w) ok rfl Rels.nil
theorem evEs_nil {e : E} {Γ : Cxt} (h : agEs T (n + 1) Γ e [] = true) (ρ : Env) (st : List Ob) (l : List D) (st' : List Ob) (he : evEs c e ρ st = .ok l st') : l = [] ∧ st' = st := by
  simp only [agEs] at h
  split at h
  · simp only [evEs] at he
    cases he
    exact ⟨rfl, rfl⟩
  · cases h
theorem evEs_nil' {e : E} {Γ : Cxt} : ∀ {n : Nat}, agEs T n Γ e [] = true → ∀ (ρ : Env) (st : List Ob) (l : List D) (st' : List Ob), evEs c e ρ st = .ok l st' → l = [] ∧ st' = st
  | 0, h => by simp [agEs] at h
  | n + 1, h => evEs_nil h
theorem J_call (f : Fct T c ct k X) {Γ : Cxt} (a : XAt Γ X) (ih : Sd T c ct k n) {g : Nat} {es : E} {x : Str} {p pos : Pos} {ps : List Expr} (h1 : T.fnm[g]? = some (some x)) (h2 : glB Γ x = true) (h3 : okName x = true) (h4 : ps.all noStar = true) (h5 : agEs T n Γ es ps = true)
    {te : TE} (hi : ∀ σ H Q, te σ H Q → tCall (spA ct (c.fn g) (c.fnN g)) [] C8.E0 (tAs ct (evEs c es)) σ H Q) : PE X (.Call (.Name x p) ps [] pos) te := by
  have hn := okName_of h3
  cases ps with
  | nil => exact PE.imp (pe_c0 (f.cal g x h1) f.room (Nat.le_succ k) (a.gl h2) hn.1) fun σ H Q q => tNil_of (evEs_nil' h5) (hi σ H Q q)
  | cons e es' =>
    rw [List.all_cons, Bool.and_eq_true] at h4
    exact PE.imp (pe_c (f.cal g x h1) f.room (Nat.le_succ k) (a.gl h2) (ih.es a f h5) hn.1 (star_cons h4.1) (star_any h4.2)) fun σ H Q q => hi σ H Q q
theorem meth_ht {o : Expr} {m : Str} {apos pos : Pos} {as : List Expr} {env : PySem.Env} (hb : noSuper o = true) (hs : as.all noStar = true) (hl : as.length < 30) (hline : (apos.endLine == pos.line) = true) :
    eval (.Call (.Attribute o m apos) as [] pos) env = (do
      let ov ← eval o env
      standAt apos.atName
      let (f, first) ← holding [ov] (getMethod ov m (do return (← importBound o env).getD true))
      callWith pos f first (backTo pos (starEach as env)) (backToKw pos (keywordEach [] env))) := by
  show (do
    let ov ← attributeBase o m env (eval o env)
    standAt apos.atName
    methodCall o m apos pos env ov (as.length + ([] : List Keyword).length) (backTo pos (starEach as env)) (backToKw pos (keywordEach [] env))) = _
  rw [base_of hb]
  have hf : methodCallForm (as.length + ([] : List Keyword).length) (backTo pos (starEach as env)) (backToKw pos (keywordEach [] env)) = true := by
    unfold methodCallForm
    rw [star_all hs]
    show (true && true && decide (as.length + 0 + 0 < 30)) = true
    rw [decide_eq_true (by omega)]; rfl
  unfold methodCall
  rw [hf]
  have hp : methodCallPos true o env apos pos = pure pos := by
    unfold methodCallPos
    rw [hline]; rfl
  rw [hp]
  simp only [calleeOf, pure_bind, if_true]
theorem sd_nw (ih : Sd T c ct k n) {Γ : Cxt} {X : Cx} {e : E} {pe : Expr} (a : XAt Γ X) (f : Fct T c ct k X) (h : agN T (n + 1) Γ e pe = true) : PE X pe (tN ct (evN c e)) := by
  cases e <;> simp only [agN] at h <;> (try (cases h; done))
  case lst es =>
    split at h
    · refine tN_mono (JN_lst (ih.es a f h)) fun ρ st d st' e => ?_
      simp only [evN] at e; exact e
    · cases h
  case dnew tk =>
    split at h
    · refine tN_mono (JN_dnew (tk := tk)) fun ρ st d st' e => ?_
      simp only [evN] at e; exact e
    · cases h
  case bin op x y =>
    split at h
    · simp only [Bool.and_eq_true, decide_eq_true_eq] at h
      obtain ⟨⟨rfl, h1⟩, h2⟩ := h
      refine tN_mono (JN_bin (op := op) (ih.e a f h1) (ih.e a f h2)) fun ρ st d st' e => ?_
      simp only [evN] at e; exact e
    · cases h
  case blt b es =>
    split at h
    · rename_i x p ps pos
      simp only [Bool.and_eq_true, Bool.not_eq_true'] at h
      obtain ⟨⟨⟨⟨h1, h2⟩, h3⟩, h4⟩, h5⟩ := h
      obtain ⟨rfl, g⟩ := isGl_of a h1
      cases ps with
      | nil => simp at h3
      | cons q ps =>
        cases b <;> (try (simp at h2; done))
        case list =>
          refine tN_mono (JN_call (snd_listN a.calm) g (f.bi _ (by simp [bNames, bltNm])) (by decide +kernel) (ih.es a f h5) (by decide) (by decide) h4) fun ρ st d st' e => ?_
          simp only [evN] at e; exact e
        case dict =>
          refine tN_mono (JN_call snd_dictN g (f.bi _ (by simp [bNames, bltNm])) (by decide +kernel) (ih.es a f h5) (by decide) (by decide) h4) fun ρ st d st' e => ?_
          simp only [evN] at e; exact e
    · cases h
  case lstI it =>
    split at h
    · simp only [Bool.and_eq_true] at h
      obtain ⟨⟨h1, h2⟩, h3⟩ := h
      obtain ⟨rfl, g⟩ := isGl_of a h1
      refine tN_mono (JN_listRg a.calm g (f.bi _ (by simp [bNames])) (ih.r a f h3) h2) fun ρ st d st' e => ?_
      simp only [evN] at e; exact e
    · cases h
  case call g br es =>
    split at h
    · simp only [Bool.and_eq_true, decide_eq_true_eq] at h
      obtain ⟨⟨⟨⟨h1, h2⟩, h3⟩, h4⟩, h5⟩ := h
      refine J_call f a ih h1 h2 h3 h4 h5 fun σ H Q q => callN_imp (f.pn g) ?_
      obtain ⟨w, ρ, d, st', rfl, ok, env, e, q⟩ := q
      simp only [evN] at e
      exact ⟨w, ρ, d, st', rfl, ok, env, e, q⟩
    · cases h
  case lc own tg it cnd el =>
    split at h
    · obtain ⟨h1, h2, h3, h4, h5, h6, h7, _⟩ := ih.lc a f h
      refine tN_mono (JN_lc a.calm a.nd h4 h1 h5 h6 h7 h3 h2) fun ρ st d st' e => ?_
      simp only [evN] at e
      rw [own_map]; exact e
    · cases h
  case lc2 own own1 tg it cnd tg1 it1 cnd1 el =>
    split at h
    · simp only [Bool.and_eq_true] at h
      obtain ⟨⟨⟨⟨⟨⟨h, k1⟩, k2⟩, k3⟩, k4⟩, k5⟩, k6⟩ := h
      obtain ⟨h1, h2, h3, h4, h5, h6, h7, h8⟩ := ih.lc a f h
      refine tN_mono (JN_lc2 (own1 := own1) a.calm a.nd h4 h1 h5 h6 (fun s H C cl fp => ih.i (h8 s H C cl fp).1 (h8 s H C cl fp).2 k4) (fun s H C cl fp => ih.v (h8 s H C cl fp).1 k5) (fun s H C cl fp => ih.cc (h8 s H C cl fp).1 (h8 s H C cl fp).2 k6) h7 h3 (subB_of k2) (by rw [own_map]; exact subB_of k3) h2 fun env x => noSet_fold k1 x) fun ρ st d st' e => ?_
      simp only [evN] at e
      rw [own_map]; exact e
    · cases h
  case dc own tk tg it cnd kx vx =>
    split at h
    · rw [Bool.and_eq_true] at h
      obtain ⟨h, k1⟩ := h
      obtain ⟨h1, h2, h3, h4, h5, h6, h7, h8⟩ := ih.lc a f h
      refine tN_mono (JN_dc (tk := tk) (by have := f.hu; omega) a.calm a.nd h4 h1 h5 h6 h7 (fun s H C cl fp => ih.e (h8 s H C cl fp).1 (h8 s H C cl fp).2 k1) h3 h2) fun ρ st d st' e => ?_
      simp only [evN] at e
      rw [own_map]; exact e
    · cases h
end
end Ev

set_option linter.all false
set_option maxRecDepth 100000
/-! Sg: expressions. -/
namespace Ev
open PySem L2 C8
section
variable {ct : Nat → Option Addr} {X : Cx} {T : Tbl} {c : Cfg} {k n : Nat}
/-! what the program does not name -/
theorem snd_int' : CallR X (.type "int") (rL ct (opBlt .int)) := by
  have : opBlt .int = fun st l => match l with | [.int i] => some (.int i) | [.bl b] => some (.int (if b = true then 1 else 0)) | _ => none := by
    funext st l
    rcases l with _ | ⟨x, _ | ⟨y, l⟩⟩
    · rfl
    · cases x <;> rfl
    · cases x <;> rfl
  rw [this]
  exact snd_int
theorem JE_glob (f : Fct T c ct k X) {Γ : Cxt} (a : XAt Γ X) {g : Nat} {x : Str} {pos : Pos} (h1 : T.gnm[g]? = some x) (h2 : glB Γ x = true) (h3 : okName x = true) : PE X (.Name x pos) (tE ct fun _ st => ofO (c.glb g) fun x => .ok (.str x) st) := by
  cases hz : c.glb g with
  | none =>
    refine PE.imp (t := fun _ _ _ => False) ⟨fun pins s σ H Q I h => h.elim⟩ fun σ H Q q => ?_
    obtain ⟨w, ρ, d, st', rfl, ok, env, e, q⟩ := q
    cases e
  | some z =>
    obtain ⟨t, ht⟩ := f.glb g x z h1 hz
    exact JE_c (d := .str z) (v := .str z) (pe_glob (a.gl h2) ht ⟨_, rfl⟩ (okName_of h3).1) fun m F => of_str
theorem tyE_ok (f : Fct T c ct k X) {Γ : Cxt} (a : XAt Γ X) {t : Ty} {x : Str} {pos : Pos} (h1 : tyNm T t = some x) (h2 : glB Γ x = true) (h3 : okName x = true) : ∃ cv, tyP ct t = some cv ∧ PE X (.Name x pos) (tC cv) := by
  cases t with
  | cls q =>
    obtain ⟨C, hC, hm⟩ := f.cls q x h1
    exact ⟨.ref C, by simp [tyP, hC], pe_glob (a.gl h2) hm rfl (okName_of h3).1⟩
  | int => cases h1; exact ⟨_, rfl, pe_bltn (a.gl h2) (f.bi _ (by simp [bNames])) (by decide +kernel) rfl (okName_of h3).2.2 (okName_of h3).1⟩
  | bool => cases h1; exact ⟨_, rfl, pe_bltn (a.gl h2) (f.bi _ (by simp [bNames])) (by decide +kernel) rfl (okName_of h3).2.2 (okName_of h3).1⟩
  | str => cases h1; exact ⟨_, rfl, pe_bltn (a.gl h2) (f.bi _ (by simp [bNames])) (by decide +kernel) rfl (okName_of h3).2.2 (okName_of h3).1⟩
  | tuple => cases h1; exact ⟨_, rfl, pe_bltn (a.gl h2) (f.bi _ (by simp [bNames])) (by decide +kernel) rfl (okName_of h3).2.2 (okName_of h3).1⟩
  | list => cases h1; exact ⟨_, rfl, pe_bltn (a.gl h2) (f.bi _ (by simp [bNames])) (by decide +kernel) rfl (okName_of h3).2.2 (okName_of h3).1⟩
theorem JE_blt (f : Fct T c ct k X) {Γ : Cxt} (a : XAt Γ X) {b : Blt} {p pos : Pos} {q : Expr} {ps : List Expr} {fs : FA} (h1 : glB Γ (bltNm b) = true) (h2 : b ≠ .set) (h4 : (q :: ps).all noStar = true) (ha : PA X (q :: ps) (tAs ct fs)) :
    PE X (.Call (.Name (bltNm b) p) (q :: ps) [] pos) (tE ct fun ρ st => bnd (fs ρ st) fun l st1 => ofO (opBlt b st1 l) fun z => .ok z st1) := by
  have g := a.gl h1
  cases b with
  | len => exact JE_callB snd_len g (f.bi _ (by simp [bNames, bltNm])) (by decide +kernel) ha (by decide) (by decide) h4
  | abs => exact JE_callB snd_abs g (f.bi _ (by simp [bNames, bltNm])) (by decide +kernel) ha (by decide) (by decide) h4
  | int => exact JE_callTy snd_int' g (f.bi _ (by simp [bNames, bltNm])) (by decide +kernel) ha (by decide) (by decide) h4
  | min => exact JE_callB (snd_min a.calm) g (f.bi _ (by simp [bNames, bltNm])) (by decide +kernel) ha (by decide) (by decide) h4
  | max => exact JE_callB (snd_max a.calm) g (f.bi _ (by simp [bNames, bltNm])) (by decide +kernel) ha (by decide) (by decide) h4
  | sum => exact JE_callB (snd_sum a.calm) g (f.bi _ (by simp [bNames, bltNm])) (by decide +kernel) ha (by decide) (by decide) h4
  | sorted => exact JE_callB (snd_sorted f.hu) g (f.bi _ (by simp [bNames, bltNm])) (by decide +kernel) ha (by decide) (by decide) h4
  | tuple => exact JE_callTy snd_tuple g (f.bi _ (by simp [bNames, bltNm])) (by decide +kernel) ha (by decide) (by decide) h4
  | list => exact JE_callTy (snd_list a.calm) g (f.bi _ (by simp [bNames, bltNm])) (by decide +kernel) ha (by decide) (by decide) h4
  | set => exact absurd rfl h2
  | all => exact JE_callB (snd_all a.calm) g (f.bi _ (by simp [bNames, bltNm])) (by decide +kernel) ha (by decide) (by decide) h4
  | any => exact JE_callB (snd_any a.calm) g (f.bi _ (by simp [bNames, bltNm])) (by decide +kernel) ha (by decide) (by decide) h4
  | str => exact JE_callTy snd_str g (f.bi _ (by simp [bNames, bltNm])) (by decide +kernel) ha (by decide) (by decide) h4
  | dict => exact JE_callTy snd_dict g (f.bi _ (by simp [bNames, bltNm])) (by decide +kernel) ha (by decide) (by decide) h4
theorem JE_bmL (f : Fct T c ct k X) {Γ : Cxt} (a : XAt Γ X) {o : E} {m : Bm} {es : E} {po : Expr} {ps : List Expr} {apos cpos : Pos} (ih : Sd T c ct k n)
    (hm : (match m with | .get => (match es, ps with | .cons e (.cons f .nil), [p, q] => agE T n Γ e p && agE T n Γ f q | _, _ => false) | .append => true | .pop => true | .count => true | .index => true | .join => true | .reverse => true | _ => false) = true)
    (hb : noSuper po = true) (hs : ps.all noStar = true) (hl : ps.length < 30) (hline : (apos.endLine == cpos.line) = true) (ho : agE T n Γ o po = true) (ha : agEs T n Γ es ps = true) :
    PE X (.Call (.Attribute po (bmNm m) apos) ps [] cpos) (tE ct (evE c (.bm m o es))) := by
  have ho' := ih.e a f ho
  have hu : X.A.units + 65 < cLine := by have := f.hu; omega
  have main : ∀ {T' id : String} {m : Bm}, PlainAttrs T' → Slot T' (bmNm m) id → typeOf (.builtin id) = pure (.type "method_descriptor") → MtR X id (rM ct m) →
      (∀ w : Wd, WOk ct w → ∀ x v, recvOk m w.st x = true → w.R ct x v → tyV X.K T' v w.H) → PE X (.Call (.Attribute po (bmNm m) apos) ps [] cpos) (tE ct (evE c (.bm m o es))) := fun pa slot hty hmt hT => by
    cases ps with
    | nil =>
      refine tE_mono (JE_bm0 pa slot hty hmt hT ho' hb hline) fun ρ st d st' e => ?_
      simp only [evE] at e
      obtain ⟨x, st1, e1, e⟩ := bnd_of e
      obtain ⟨hc, e⟩ := chk_of e
      obtain ⟨l, st2, e2, e3⟩ := bnd_of e
      obtain ⟨hl, hst⟩ := evEs_nil' ha _ _ _ _ e2
      subst hl hst
      simp only [e1, bnd_ok, hc, chk_true]
      exact e3
    | cons p ps =>
      refine tE_mono (JE_bm pa slot hty hmt hT ho' (ih.es a f ha) hb hs hl hline) fun ρ st d st' e => ?_
      simp only [evE] at e
      exact e
  cases m with
  | append => exact main (m := .append) PySem.F.plainAttrs_list PySem.F.slot_list_append PySem.F.type_list_append snd_append fun w ok x v h r => lst_ty ok h r
  | pop => exact main (m := .pop) PySem.F.plainAttrs_list PySem.F.slot_list_pop PySem.F.type_list_pop snd_pop fun w ok x v h r => lst_ty ok h r
  | count => exact main (m := .count) PySem.F.plainAttrs_list PySem.F.slot_list_count PySem.F.type_list_count (snd_count hu) fun w ok x v h r => lst_ty ok h r
  | index => exact main (m := .index) PySem.F.plainAttrs_list PySem.F.slot_list_index PySem.F.type_list_index (snd_index hu) fun w ok x v h r => lst_ty ok h r
  | reverse => exact main (m := .reverse) PySem.F.plainAttrs_list PySem.F.slot_list_reverse PySem.F.type_list_reverse snd_reverse fun w ok x v h r => lst_ty ok h r
  | join =>
    refine main (m := .join) PySem.F.plainAttrs_str PySem.F.slot_str_join PySem.F.type_str_join snd_join fun w ok x v h r => ?_
    cases x <;> (try (simp [recvOk] at h; done))
    rw [rel_str r]
    rfl
  | get =>
    match es, ps, hm, hs, ha with
    | .cons e1 (.cons e2 .nil), [p, q], hm, hs, ha =>
      simp only [List.all_cons, Bool.and_eq_true] at hs hm
      refine tE_mono (JE_get hu ho' (ih.e a f hm.1) (ih.e a f hm.2) hb hs.1 hs.2.1 hline) fun ρ st d st' e => ?_
      simp only [evE, evEs] at e
      exact e
  | remove => cases hm
  | update => cases hm
  | extend => cases hm
theorem meth_nil {C : Addr} {m : Str} {sp : Sp} {E : XK} {fo : FE} {fs : FA} (hs : ∀ ρ st l st', fs ρ st = .ok l st' → l = [] ∧ st' = st) {σ : St} {H : Hp} {Q : VK} (q : tMeth C m sp [] E (tE ct fo) (tAs ct fs) σ H Q) : tMeth C m sp [] E (tE ct fo) tNil σ H Q := by
  obtain ⟨w, ρ, d, st', rfl, ok, env, e, q⟩ := q
  refine ⟨w, ρ, d, st', rfl, ok, env, e, fun w1 v le1 ok1 hs1 r1 => ?_⟩
  obtain ⟨a, dx, fvs, h1, h2, h3, h4⟩ := q w1 v le1 ok1 hs1 r1
  exact ⟨a, dx, fvs, h1, h2, h3, tNil_of hs h4⟩
theorem sd_e (ih : Sd T c ct k n) {Γ : Cxt} {X : Cx} {e : E} {pe : Expr} (a : XAt Γ X) (f : Fct T c ct k X) (h : agE T (n + 1) Γ e pe = true) : PE X pe (tE ct (evE c e)) := by
  have hu : X.A.units + 65 < cLine := by have := f.hu; omega
  have new : ∀ {e : E}, (match e with | .lst _ => true | .dnew _ => true | .lstI _ => true | .lc _ _ _ _ _ => true | .lc2 _ _ _ _ _ _ _ _ _ => true | .dc _ _ _ _ _ _ _ => true | _ => false) = true → agN T n Γ e pe = true → PE X pe (tE ct (evE c e)) :=
    fun hk h => tE_mono (JN_val (ih.nw a f h)) fun ρ st d st' e => evE_new hk ρ st d st' e
  cases e <;> simp only [agE] at h <;> (try (cases h; done))
  case var i =>
    split at h
    · simp only [Bool.and_eq_true] at h
      have hn := okName_of h.2
      refine tE_mono (JE_var (a.slot h.1.1) (a.vis h.1.2) hn.1 hn.2.1) fun ρ st d st' e => ?_
      simp only [evE] at e; exact e
    · cases h
  case cint i =>
    split at h
    · have h := of_decide_eq_true h; subst h
      refine tE_mono (JE_c (d := .int i) pe_int fun m F => of_int) fun ρ st d st' e => ?_
      simp only [evE] at e; exact e
    · cases h
  case cbl i =>
    split at h
    · have h := of_decide_eq_true h; subst h
      refine tE_mono (JE_c (d := .bl i) pe_bl fun m F => of_bl) fun ρ st d st' e => ?_
      simp only [evE] at e; exact e
    · cases h
  case cnon =>
    split at h
    · refine tE_mono (JE_c (d := .non) pe_non fun m F => of_non) fun ρ st d st' e => ?_
      simp only [evE] at e; exact e
    · cases h
  case cstr x =>
    split at h
    · have h := of_decide_eq_true h; subst h
      refine tE_mono (JE_c (d := .str x) pe_str fun m F => of_str) fun ρ st d st' e => ?_
      simp only [evE] at e; exact e
    · cases h
  case glob g =>
    split at h
    · simp only [Bool.and_eq_true, decide_eq_true_eq] at h
      refine tE_mono (JE_glob f a h.2 h.1.1 h.1.2) fun ρ st d st' e => ?_
      simp only [evE] at e; exact e
    · cases h
  case bin op x y =>
    split at h
    · simp only [Bool.and_eq_true, decide_eq_true_eq] at h
      obtain ⟨⟨rfl, h1⟩, h2⟩ := h
      refine tE_mono (JE_bin (ih.e a f h1) (ih.e a f h2)) fun ρ st d st' e => ?_
      simp only [evE] at e; exact e
    · cases h
  case neg x =>
    split at h
    · refine tE_mono (JE_neg (ih.e a f h)) fun ρ st d st' e => ?_
      simp only [evE] at e; exact e
    · cases h
  case cmp op x y =>
    split at h
    · simp only [Bool.and_eq_true, decide_eq_true_eq] at h
      obtain ⟨⟨⟨rfl, h1⟩, h2⟩, h3⟩ := h
      refine tE_mono (JE_cmp hu (noSet_mark h1) (ih.e a f h2) (ih.e a f h3)) fun ρ st d st' e => ?_
      simp only [evE] at e; exact e
    · cases h
  case chain op op' x y z =>
    split at h
    · simp only [Bool.and_eq_true, decide_eq_true_eq] at h
      obtain ⟨⟨⟨⟨⟨⟨rfl, rfl⟩, h1⟩, h2⟩, h3⟩, h4⟩, h5⟩ := h
      refine PE.imp (pe_chain (r := rC ct op) (r' := rC ct op') (snd_cmp op hu) (snd_cmp op' hu) (ih.e a f h3) (ih.e a f h4) (ih.e a f h5) (marks_of h2)) fun σ H Q q => chain_imp ?_
      obtain ⟨w, ρ, d, st', rfl, ok, env, e, q⟩ := q
      simp only [evE] at e
      exact ⟨w, ρ, d, st', rfl, ok, env, e, q⟩
    · cases h
  case isN no x =>
    split at h
    · simp only [Bool.and_eq_true, decide_eq_true_eq] at h
      obtain ⟨rfl, h⟩ := h
      refine tE_mono (JE_isN (ih.e a f h)) fun ρ st d st' e => ?_
      simp only [evE] at e; exact e
    · cases h
  case andE x y =>
    split at h
    · rw [Bool.and_eq_true] at h
      refine tE_mono (JE_and (ih.e a f h.1) (ih.bv (d := true) a f h.2)) fun ρ st d st' e => ?_
      simp only [evE] at e; exact e
    · cases h
  case orE x y =>
    split at h
    · rw [Bool.and_eq_true] at h
      refine tE_mono (JE_or (ih.e a f h.1) (ih.bv (d := false) a f h.2)) fun ρ st d st' e => ?_
      simp only [evE] at e; exact e
    · cases h
  case notE x =>
    split at h
    · refine tE_mono (JE_not (ih.e a f h)) fun ρ st d st' e => ?_
      simp only [evE] at e; exact e
    · cases h
  case ifE t x y =>
    split at h
    · simp only [Bool.and_eq_true] at h
      refine tE_mono (JE_if (ih.t a f h.1.1) (ih.e a f h.1.2) (ih.e a f h.2)) fun ρ st d st' e => ?_
      simp only [evE] at e; exact e
    · cases h
  case tup es =>
    split at h
    · refine tE_mono (JE_tup (ih.es a f h)) fun ρ st d st' e => ?_
      simp only [evE] at e; exact e
    · cases h
  case lst es => exact new rfl h
  case dnew tk => exact new rfl h
  case lstI it => exact new rfl h
  case lc => exact new rfl h
  case lc2 => exact new rfl h
  case dc => exact new rfl h
  case mk x =>
    refine tE_mono (JN_mk (ih.nw a f h)) fun ρ st d st' e => ?_
    simp only [evE] at e; exact e
  case fld x g =>
    split at h
    · simp only [Bool.and_eq_true, decide_eq_true_eq] at h
      obtain ⟨⟨rfl, h1⟩, h2⟩ := h
      refine tE_mono (JE_fld (fok := c.fok) f.cf (fun q C g hC hg => f.fld q C g hC hg) h1 (ih.e a f h2)) fun ρ st d st' e => ?_
      simp only [evE] at e; exact e
    · cases h
  case ix x i =>
    split at h
    · simp only [Bool.and_eq_true] at h
      refine tE_mono (JE_ix hu h.1.1 (ih.e a f h.1.2) (ih.e a f h.2)) fun ρ st d st' e => ?_
      simp only [evE] at e; exact e
    · cases h
  case sl x lo hi =>
    split at h
    · simp only [Bool.and_eq_true] at h
      refine tE_mono (JE_sl (ih.e a f h.1.1) (ih.o a f h.1.2) (ih.o a f h.2)) fun ρ st d st' e => ?_
      simp only [evE] at e; exact e
    · cases h
  case call g br es =>
    split at h
    · simp only [Bool.and_eq_true, decide_eq_true_eq] at h
      obtain ⟨⟨⟨⟨h1, h2⟩, h3⟩, h4⟩, h5⟩ := h
      cases br with
      | false =>
        refine J_call f a ih h1 h2 h3 h4 h5 fun σ H Q q => call_imp (fun ds st d st' e => (f.pf g ds st d st' e).1) ?_
        obtain ⟨w, ρ, d, st', rfl, ok, env, e, q⟩ := q
        simp only [evE] at e
        exact ⟨w, ρ, d, st', rfl, ok, env, e, q⟩
      | true =>
        refine J_call f a ih h1 h2 h3 h4 h5 fun σ H Q q => callR_imp (f.pf g) ?_
        obtain ⟨w, ρ, d, st', rfl, ok, env, e, q⟩ := q
        simp only [evE] at e
        exact ⟨w, ρ, d, st', rfl, ok, env, e, q⟩
    · cases h
  case make q es =>
    split at h
    · simp only [Bool.and_eq_true, decide_eq_true_eq] at h
      obtain ⟨⟨⟨⟨h1, h2⟩, h3⟩, h4⟩, h5⟩ := h
      have hn := okName_of h3
      obtain ⟨C, g, hC, M, hnew⟩ := f.mak q _ h1
      have fin : ∀ σ H Q, tE ct (evE c (.make q es)) σ H Q → tMake C (spA ct (c.fn g) (c.fnN g)) [] C8.E0 (tAs ct (evEs c es)) σ H Q := fun σ H Q qq => make_imp hC (f.pf g) (by
        obtain ⟨w, ρ, d, st', rfl, ok, env, e, qq⟩ := qq
        simp only [evE, hnew] at e
        exact ⟨w, ρ, d, st', rfl, ok, env, e, qq⟩)
      rename_i ps pos
      cases ps with
      | nil => exact PE.imp (pe_mk0 M f.room (Nat.le_refl _) (a.gl h2) hn.1) fun σ H Q qq => fun x dx hx hdx hne => tNil_of (evEs_nil' h5) (fin σ H Q qq) x dx hx hdx hne
      | cons e es' =>
        rw [List.all_cons, Bool.and_eq_true] at h4
        exact PE.imp (pe_mk M f.room (Nat.le_refl _) (a.gl h2) (ih.es a f h5) hn.1 (star_cons h4.1) (star_any h4.2)) fun σ H Q qq => fin σ H Q qq
    · cases h
  case meth o q m es =>
    split at h
    · simp only [Bool.and_eq_true, decide_eq_true_eq] at h
      obtain ⟨⟨⟨⟨⟨⟨⟨h1, rfl⟩, h3⟩, h4⟩, h5⟩, h6⟩, h7⟩, h8⟩ := h
      obtain ⟨C, hC, M⟩ := f.met q m (by simpa using h1)
      have fin : ∀ σ H Q, tE ct (evE c (.meth o q m es)) σ H Q → tMeth C (c.mnm m) (spA ct (c.fn m) (c.fnN m)) [] C8.E0 (tE ct (evE c o)) (tAs ct (evEs c es)) σ H Q := fun σ H Q qq => meth_imp hC (fun ds st d st' e => (f.pf m ds st d st' e).1) (by
        obtain ⟨w, ρ, d, st', rfl, ok, env, e, qq⟩ := qq
        simp only [evE] at e
        exact ⟨w, ρ, d, st', rfl, ok, env, e, qq⟩)
      rw [← f.mnm]
      rename_i ps pos
      cases ps with
      | nil => exact PE.imp (pe_mt0 M f.room (Nat.le_succ k) (ih.e a f h7) (meth_ht h3 h4 h5 h6)) fun σ H Q qq => meth_nil (evEs_nil' h8) (fin σ H Q qq)
      | cons e es' =>
        have h4' := h4
        rw [List.all_cons, Bool.and_eq_true] at h4'
        exact PE.imp (pe_mt M f.room (Nat.le_succ k) (ih.e a f h7) (ih.es a f h8) (star_cons h4'.1) (star_any h4'.2) (meth_ht h3 h4 h5 h6)) fun σ H Q qq => fin σ H Q qq
    · cases h
  case blt b es =>
    split at h
    · rename_i x p ps pos
      simp only [Bool.and_eq_true, Bool.not_eq_true'] at h
      obtain ⟨⟨⟨⟨h1, h2⟩, h3⟩, h4⟩, h5⟩ := h
      unfold isGl at h1
      rw [Bool.and_eq_true, decide_eq_true_eq] at h1
      obtain ⟨rfl, h1⟩ := h1
      cases ps with
      | nil => simp at h3
      | cons q ps =>
        refine tE_mono (JE_blt f a h1 (fun z => by subst z; cases h2) h4 (ih.es a f h5)) fun ρ st d st' e => ?_
        simp only [evE] at e; exact e
    · cases h
  case isi x t =>
    split at h
    · simp only [Bool.and_eq_true, decide_eq_true_eq] at h
      obtain ⟨⟨⟨⟨⟨h1, h2⟩, h3⟩, h4⟩, h5⟩, h6⟩ := h
      obtain ⟨rfl, g⟩ := isGl_of a h1
      obtain ⟨cv, et, ht⟩ := tyE_ok f a h2 h3 h4
      refine tE_mono (JE_isi f.cf et ht g (f.bi _ (by simp [bNames])) (ih.e a f h6) h5 rfl) fun ρ st d st' e => ?_
      simp only [evE] at e; exact e
    · cases h
  case bm m o es =>
    split at h
    · simp only [Bool.and_eq_true, decide_eq_true_eq] at h
      obtain ⟨⟨⟨⟨⟨⟨⟨rfl, h2⟩, h3⟩, h4⟩, h5⟩, h6⟩, h7⟩, h8⟩ := h
      exact JE_bmL f a ih h6 h2 h3 h4 h5 h7 h8
    · cases h
  case tupI it =>
    split at h
    · simp only [Bool.and_eq_true] at h
      obtain ⟨⟨h1, h2⟩, h3⟩ := h
      obtain ⟨rfl, g⟩ := isGl_of a h1
      refine tE_mono (JE_tupRg a.calm g (f.bi _ (by simp [bNames])) (ih.r a f h3) h2) fun ρ st d st' e => ?_
      simp only [evE] at e; exact e
    · cases h
theorem sd : ∀ n, Sd T c ct k n
  | 0 => by
    constructor <;> intros <;> first | (rename_i h; simp [agE] at h; done) | (rename_i h; simp [agBV] at h; done) | (rename_i h; simp [agBT] at h; done) | (rename_i h; simp [agEs] at h; done) | (rename_i h; simp [agO] at h; done) | (rename_i h; simp [agT] at h; done) | (rename_i h; simp [agI] at h; done) | (rename_i h; simp [agR] at h; done) | (rename_i h; simp [agC] at h; done) | (rename_i h; simp [agV] at h; done) | (rename_i h; simp [agVs] at h; done) | (rename_i h; simp [agN] at h; done) | (rename_i h; simp [agLc] at h; done)
  | n + 1 => {
    e := fun a f h => sd_e (sd n) a f h
    bv := fun a f h => sd_bv (sd n) a f h
    bt := fun a f h => sd_bt (sd n) a f h
    es := fun a f h => sd_es (sd n) a f h
    o := fun a f h => sd_o (sd n) a f h
    t := fun a f h => sd_t (sd n) a f h
    i := fun a f h => sd_i (sd n) a f h
    r := fun a f h => sd_r (sd n) a f h
    cc := fun a f h => sd_cc (sd n) a f h
    v := fun a h => sd_v (sd n) a h
    vs := fun a h => sd_vs (sd n) a h
    nw := fun a f h => sd_nw (sd n) a f h
    lc := fun a f h => sd_lc (sd n) a f h }
end
end Ev

set_option linter.all false
set_option maxRecDepth 100000
/-! Sh: statements. -/
namespace Ev
open PySem L2 C8
section
variable {ct : Nat → Option Addr} {X : Cx} {T : Tbl} {c : Cfg} {k n : Nat}
theorem tSs_mono {e : List Stmt} {f g : FS} (h : PSs X e (tS ct g)) (i : ∀ ρ st d st', f ρ st = .ok d st' → g ρ st = .ok d st') : PSs X e (tS ct f) := PSs.imp h fun D σ H q => by
  obtain ⟨w, ρ, d, st', a, ok, env, e, q⟩ := q
  exact ⟨w, ρ, d, st', a, ok, env, i _ _ _ _ e, q⟩
/-! ### targets -/
mutual
theorem sd_g (f : Fct T c ct k X) {Γ : Cxt} (a : XAt Γ X) : ∀ {n : Nat} {e : E} {pe : Expr}, agG T n Γ e pe = true → ∃ ss, PG X pe (tG ct ss (evTg c e))
  | 0, e, pe, h => by simp [agG] at h
  | n + 1, e, pe, h => by
    unfold agG at h
    split at h
    · split at h
      · rw [Bool.and_eq_true] at h
        obtain ⟨h1, h2⟩ := a.loc h.2
        refine ⟨_, tG_mono (JG_name a.nd (a.slot h.1) h1 h2) fun d ρ st r st' e => ?_⟩
        simp only [evTg] at e; exact e
      · cases h
    · split at h
      · obtain ⟨ss, h1, h2, h3⟩ := sd_gs f a h
        refine ⟨ss, tG_mono (JG_tup a.calm h1 h2 h3) fun d ρ st r st' e => ?_⟩
        simp only [evTg] at e; exact e
      · cases h
    · split at h
      · simp only [Bool.and_eq_true] at h
        refine ⟨_, tG_mono (JG_ix (by have := f.hu; omega) h.1.1 ((sd n).e a f h.1.2) ((sd n).e a f h.2)) fun d ρ st r st' e => ?_⟩
        simp only [evTg] at e; exact e
      · cases h
    · cases h
theorem sd_gs (f : Fct T c ct k X) {Γ : Cxt} (a : XAt Γ X) : ∀ {n : Nat} {e : E} {ps : List Expr}, agG.agGs T n Γ e ps = true → ∃ ss, PGs X ps (tGl ct ss (evTg.go c e)) ∧ ps.all noStar = true ∧ ∀ l ρ st r st', evTg.go c e l ρ st = .ok r st' → l.length = ps.length
  | 0, e, ps, h => by simp [agG.agGs] at h
  | n + 1, e, ps, h => by
    unfold agG.agGs at h
    split at h
    · split at h
      · refine ⟨_, tGl_mono JGs_nil fun l ρ st r st' e => ?_, rfl, fun l ρ st r st' e => ?_⟩
        · simp only [evTg.go] at e; exact e
        · cases l with
          | nil => rfl
          | cons _ _ => simp [evTg.go] at e
      · cases h
    · split at h
      · simp only [Bool.and_eq_true] at h
        obtain ⟨s1, h1⟩ := sd_g f a h.1.2
        obtain ⟨s2, h2, h3, h4⟩ := sd_gs f a h.2
        refine ⟨_, tGl_mono (JGs_cons h1 h2 h.1.1) fun l ρ st r st' e => ?_, by rw [List.all_cons, h.1.1, h3]; rfl, fun l ρ st r st' e => ?_⟩
        · simp only [evTg.go] at e; exact e
        · cases l with
          | nil => simp [evTg.go] at e
          | cons d l =>
            simp only [evTg.go] at e
            obtain ⟨ρ1, st1, e1, e⟩ := bnd_of e
            rw [List.length_cons, List.length_cons, h4 _ _ _ _ _ e]
      · cases h
end
/-! ### a comprehension stored -/
def newE (e : E) : Bool := match e with | .lst _ => true | .dnew _ => true | .lstI _ => true | .lc _ _ _ _ _ => true | .lc2 _ _ _ _ _ _ _ _ _ => true | .dc _ _ _ _ _ _ _ => true | _ => false
theorem sd_x (f : Fct T c ct k X) {Γ : Cxt} (a : XAt Γ X) {n i : Nat} {e : E} {ptg pe : Expr} {pos : Pos} (h : agX T n Γ i e ptg pe = true) :
    (∃ te, PS X (.Assign [ptg] pe pos) (tAsg te (gName i)) ∧ ∀ σ H Q, tN ct (evN c e) σ H Q → te σ H Q) ∧ newE e = true := by
  unfold agX at h
  split at h
  · rename_i y py
    simp only [Bool.and_eq_true] at h
    obtain ⟨⟨⟨h1, h2⟩, h3⟩, h⟩ := h
    have hy := a.slot h1
    have hl := a.pl h2
    have sw : ∀ l, swapsWith pe (some (.Name y py)) l X.env = pure true := fun l => by rw [sw_eq a, h3]
    have hu : X.A.units + 65 < cLine := by have := f.hu; omega
    cases n with
    | zero => split at h <;> simp [agN] at h
    | succ n =>
    have ih := sd (T := T) (c := c) (ct := ct) (k := k) n
    match e, h with
    | .lc own tg it cnd el, h =>
      simp only [agN] at h
      refine ⟨?_, rfl⟩
      split at h
      · obtain ⟨g1, g2, g3, g4, g5, g6, g7, _⟩ := ih.lc a f h
        refine ⟨_, ps_setLc a.calm a.nd hy hl (sw _) g4 g1 g5 g6 g7 g2, fun σ H Q q => lc_imp g3 ?_⟩
        obtain ⟨w, ρ, d, st', b, ok, env, e, q⟩ := q
        simp only [evN] at e
        rw [own_map]
        exact ⟨w, ρ, d, st', b, ok, env, e, q⟩
      · cases h
    | .lc2 own own1 tg it cnd tg1 it1 cnd1 el, h =>
      simp only [agN] at h
      refine ⟨?_, rfl⟩
      split at h
      · simp only [Bool.and_eq_true] at h
        obtain ⟨⟨⟨⟨⟨⟨h, k1⟩, k2⟩, k3⟩, k4⟩, k5⟩, k6⟩ := h
        obtain ⟨g1, g2, g3, g4, g5, g6, g7, g8⟩ := ih.lc a f h
        refine ⟨_, ps_setLc2 (vs1 := own1) a.calm a.nd hy hl (sw _) g4 g1 (by rw [own_map]; exact subB_of k3) g5 g6 (fun s H C cl fp => ih.i (g8 s H C cl fp).1 (g8 s H C cl fp).2 k4) (fun s H C cl fp => ih.v (g8 s H C cl fp).1 k5) (fun s H C cl fp => ih.cc (g8 s H C cl fp).1 (g8 s H C cl fp).2 k6) g7 g2 (fun env x => noSet_fold k1 x), fun σ H Q q => lc2_imp g3 (subB_of k2) ?_⟩
        obtain ⟨w, ρ, d, st', b, ok, env, e, q⟩ := q
        simp only [evN] at e
        rw [own_map]
        exact ⟨w, ρ, d, st', b, ok, env, e, q⟩
      · cases h
    | .dc own tk tg it cnd kx vx, h =>
      simp only [agN] at h
      refine ⟨?_, rfl⟩
      split at h
      · rw [Bool.and_eq_true] at h
        obtain ⟨h, k1⟩ := h
        obtain ⟨g1, g2, g3, g4, g5, g6, g7, g8⟩ := ih.lc a f h
        have o0 : ∃ o0 : HO, (o0 = .dK [] ∨ o0 = .dT []) ∧ ∀ (m : List Addr) F, ORel ct m F (.dct tk [] []) o0 := by
          cases tk with
          | false => exact ⟨.dK [], .inl rfl, fun m F => .inl ⟨[], rfl, rfl, rfl, Rels.nil⟩⟩
          | true => exact ⟨.dT [], .inr rfl, fun m F => .inr ⟨[], rfl, rfl, rfl, Rels.nil⟩⟩
        obtain ⟨o0, ho, ho0⟩ := o0
        refine ⟨_, ps_setDcG (by omega) ho a.calm a.nd hy hl (sw _) g4 g1 g5 g6 g7 (fun s H C cl fp => ih.e (g8 s H C cl fp).1 (g8 s H C cl fp).2 k1) g2, fun σ H Q q => dc_imp (tk := tk) ho0 g3 ?_⟩
        obtain ⟨w, ρ, d, st', b, ok, env, e, q⟩ := q
        simp only [evN] at e
        rw [own_map]
        exact ⟨w, ρ, d, st', b, ok, env, e, q⟩
      · cases h
  · cases h
theorem sd_xN (f : Fct T c ct k X) {Γ : Cxt} (a : XAt Γ X) {n i : Nat} {e' : E} {ptg pe : Expr} {pos : Pos} (h : agX T n Γ i e' ptg pe = true) : PS X (.Assign [ptg] pe pos) (tS ct (evS c (.asg (.var i) e'))) := by
  obtain ⟨⟨te, h1, h2⟩, h3⟩ := sd_x (pos := pos) f a h
  refine tS_mono (JS_setN h1 h2) fun ρ st d st' e => ?_
  simp only [evS, evTg] at e
  obtain ⟨x, st1, e1, e⟩ := bnd_of e
  have := evE_new (e := e') h3 _ _ _ _ e1
  rw [this]
  exact e
theorem sd_xM (f : Fct T c ct k X) {Γ : Cxt} (a : XAt Γ X) {n i : Nat} {e : E} {ptg pe : Expr} {pos : Pos} (h : agX T n Γ i e ptg pe = true) : PS X (.Assign [ptg] pe pos) (tS ct (evS c (.asg (.var i) (.mk e)))) := by
  obtain ⟨⟨te, h1, h2⟩, h3⟩ := sd_x (pos := pos) f a h
  refine tS_mono (JS_setM h1 h2) fun ρ st d st' e => ?_
  simp only [evS, evTg, evE] at e
  exact e
theorem evTg_nm2 {i j : Nat} {a b : E} {ρ : Env} {st : List Ob} {p : Fl × Env} {st' : List Ob} (h : evS c (.asg (.tup (.cons (.var i) (.cons (.var j) .nil))) (.tup (.cons a (.cons b .nil)))) ρ st = .ok p st') :
    (bnd (evE c a ρ st) fun u st1 => bnd (evE c b ρ st1) fun v st2 => chk (decide (i < ρ.length ∧ j < ρ.length)) (.ok (Fl.nx, (ρ.set i (some u)).set j (some v)) st2)) = .ok p st' := by
  simp only [evS, evE, evEs, evTg] at h
  obtain ⟨x, st1, e1, h⟩ := bnd_of h
  obtain ⟨l, st2, e2, e1⟩ := bnd_of e1
  obtain ⟨u, st3, e3, e2⟩ := bnd_of e2
  obtain ⟨l2, st4, e4, e2⟩ := bnd_of e2
  obtain ⟨v, st5, e5, e4⟩ := bnd_of e4
  cases e4
  cases e2
  obtain ⟨_, e1⟩ := chk_of e1
  cases e1
  simp only [e3, bnd_ok, e5]
  simp only [bnd_ok, evTg.go, evTg] at h
  obtain ⟨ρ1, st6, e6, h⟩ := bnd_of h
  obtain ⟨ρ2, st7, e7, e6⟩ := bnd_of e6
  obtain ⟨hi, e7⟩ := chk_of e7
  cases e7
  obtain ⟨ρ3, st8, e8, e6⟩ := bnd_of e6
  obtain ⟨hj, e8⟩ := chk_of e8
  cases e8
  cases e6
  cases h
  rw [decide_eq_true_eq] at hi hj
  rw [List.length_set] at hj
  rw [decide_eq_true ⟨hi, hj⟩]; rfl
theorem evTg_nm3 {i j l : Nat} {a b d : E} {ρ : Env} {st : List Ob} {p : Fl × Env} {st' : List Ob} (h : evS c (.asg (.tup (.cons (.var i) (.cons (.var j) (.cons (.var l) .nil)))) (.tup (.cons a (.cons b (.cons d .nil))))) ρ st = .ok p st') :
    (bnd (evE c a ρ st) fun u st1 => bnd (evE c b ρ st1) fun v st2 => bnd (evE c d ρ st2) fun t st3 => chk (decide (i < ρ.length ∧ j < ρ.length ∧ l < ρ.length)) (.ok (Fl.nx, ((ρ.set i (some u)).set j (some v)).set l (some t)) st3)) = .ok p st' := by
  simp only [evS, evE, evEs, evTg] at h
  obtain ⟨x, st1, e1, h⟩ := bnd_of h
  obtain ⟨l0, st2, e2, e1⟩ := bnd_of e1
  obtain ⟨u, st3, e3, e2⟩ := bnd_of e2
  obtain ⟨l2, st4, e4, e2⟩ := bnd_of e2
  obtain ⟨v, st5, e5, e4⟩ := bnd_of e4
  obtain ⟨l3, st4', e4', e4⟩ := bnd_of e4
  obtain ⟨v', st5', e5', e4'⟩ := bnd_of e4'
  cases e4'
  cases e4
  cases e2
  obtain ⟨_, e1⟩ := chk_of e1
  cases e1
  simp only [e3, bnd_ok, e5, e5']
  simp only [bnd_ok, evTg.go, evTg] at h
  obtain ⟨ρ1, st6, e6, h⟩ := bnd_of h
  obtain ⟨ρ2, st7, e7, e6⟩ := bnd_of e6
  obtain ⟨hi, e7⟩ := chk_of e7
  cases e7
  obtain ⟨ρ3, st8, e8, e6⟩ := bnd_of e6
  obtain ⟨hj, e8⟩ := chk_of e8
  cases e8
  obtain ⟨ρ4, st9, e9, e6⟩ := bnd_of e6
  obtain ⟨hl, e9⟩ := chk_of e9
  cases e9
  cases e6
  cases h
  rw [decide_eq_true_eq] at hi hj hl
  rw [List.length_set] at hj
  rw [List.length_set, List.length_set] at hl
  rw [decide_eq_true ⟨hi, hj, hl⟩]; rfl
theorem sd_p2 (f : Fct T c ct k X) {Γ : Cxt} (a : XAt Γ X) {n : Nat} {tg e : E} {ptg pe : Expr} {pos : Pos} (hs : swB Γ pe ptg = false) (h : agP2 T n Γ tg e ptg pe = true) : PS X (.Assign [ptg] pe pos) (tS ct (evS c (.asg tg e))) := by
  unfold agP2 at h
  split at h
  · split at h
    · split at h
      · simp only [Bool.and_eq_true, decide_eq_true_eq] at h
        obtain ⟨⟨⟨⟨⟨⟨⟨⟨⟨h1, h2⟩, h3⟩, h4⟩, h5⟩, h6⟩, h7⟩, h8⟩, h9⟩, h10⟩ := h
        exact tS_mono (JS_par a.calm a.nd (a.slot h2) (a.slot h3) h1 (a.pl h4) (a.pl h5) ((sd n).e a f h9) ((sd n).e a f h10) h7 h8 (sw2_eq a h6) (by rw [sws_eq a, hs])) fun ρ st d st' e => evTg_nm2 e
      · cases h
    · cases h
  · cases h
theorem sd_p3 (f : Fct T c ct k X) {Γ : Cxt} (a : XAt Γ X) {n : Nat} {tg e : E} {ptg pe : Expr} {pos : Pos} (hs : swB Γ pe ptg = false) (h : agP3 T n Γ tg e ptg pe = true) : PS X (.Assign [ptg] pe pos) (tS ct (evS c (.asg tg e))) := by
  unfold agP3 at h
  split at h
  · split at h
    · split at h
      · simp only [Bool.and_eq_true, decide_eq_true_eq] at h
        obtain ⟨⟨⟨⟨⟨⟨⟨⟨⟨⟨⟨⟨⟨h1, h2⟩, h3⟩, h3'⟩, h4⟩, h5⟩, h5'⟩, h6⟩, h7⟩, h8⟩, h8'⟩, h9⟩, h10⟩, h11⟩ := h
        exact tS_mono (JS_par3 a.calm a.nd (a.slot h2) (a.slot h3) (a.slot h3') h1.1 h1.2.1 h1.2.2 (a.pl h4) (a.pl h5) (a.pl h5') ((sd n).e a f h9) ((sd n).e a f h10) ((sd n).e a f h11) h7 h8 h8' (sw2_eq a h6) (by rw [sws_eq a, hs])) fun ρ st d st' e => evTg_nm3 e
      · cases h
    · cases h
  · cases h
theorem sd_asg (f : Fct T c ct k X) {Γ : Cxt} (a : XAt Γ X) {n : Nat} {tg e : E} {ptg pe : Expr} {pos : Pos} (h : (!swB Γ pe ptg && decide (sw2 Γ [ptg] pe = some none) && noStar ptg && agG T n Γ tg ptg && agE T n Γ e pe) = true) : PS X (.Assign [ptg] pe pos) (tS ct (evS c (.asg tg e))) := by
  simp only [Bool.and_eq_true, decide_eq_true_eq, Bool.not_eq_true'] at h
  obtain ⟨⟨⟨⟨h1, h2⟩, h3⟩, h4⟩, h5⟩ := h
  obtain ⟨ss, hg⟩ := sd_g f a h4
  refine tS_mono (JS_asg ((sd n).e a f h5) hg (by rw [sws_eq a, h1]) (sw2_eq a h2) h3) fun ρ st d st' e => ?_
  simp only [evS] at e; exact e
mutual
theorem sd_s (f : Fct T c ct k X) {Γ : Cxt} (a : XAt Γ X) : ∀ {n : Nat} {s : S} {p : Stmt}, agS T n Γ s p = true → PS X p (tS ct (evS c s))
  | 0, s, p, h => by simp [agS] at h
  | n + 1, s, p, h => by
    have hu : X.A.units + 65 < cLine := by have := f.hu; omega
    have own : PassesOwn (model X.prog X.w) X.A X.env X.xe := by rw [a.xe]; exact PassesOwn.never
    unfold agS at h
    cases s <;> simp only at h <;> (try (cases h; done))
    case skip =>
      split at h
      · refine tS_mono JS_pass fun ρ st d st' e => ?_
        simp only [evS] at e; exact e
      · cases h
    case asg tg e =>
      split at h
      · split at h
        · split at h
          · simp only [Bool.and_eq_true, decide_eq_true_eq, Bool.not_eq_true'] at h
            obtain ⟨⟨⟨rfl, h1⟩, h2⟩, h3⟩ := h
            refine tS_mono (JS_fld (fok := c.fok) f.cf (fun q C g hC hg => f.fld q C g hC hg) ((sd n).e a f h2) ((sd n).e a f h3) (by rw [sw_eq a, h1])) fun ρ st d st' e => ?_
            simp only [evS, evTg] at e; exact e
          · cases h
        · rw [Bool.or_eq_true] at h
          rcases h with h | h
          · exact sd_asg f a h
          · split at h
            · exact sd_xM f a h
            · exact sd_xN f a h
        · rw [Bool.or_eq_true] at h
          rcases h with h | h
          · exact sd_asg f a h
          · rw [Bool.and_eq_true, Bool.or_eq_true, Bool.not_eq_true'] at h
            rcases h.2 with g | g
            · exact sd_p2 f a h.1 g
            · exact sd_p3 f a h.1 g
      · cases h
    case asg2 tg tg' e =>
      split at h
      · simp only [Bool.and_eq_true, decide_eq_true_eq] at h
        obtain ⟨⟨⟨⟨⟨h1, h2⟩, h3⟩, h4⟩, h5⟩, h6⟩ := h
        obtain ⟨ss, hg⟩ := sd_g f a h4
        obtain ⟨ss', hg'⟩ := sd_g f a h5
        refine tS_mono (JS_asg2 ((sd n).e a f h6) hg hg' (sw2_eq a h1) h2 h3) fun ρ st d st' e => ?_
        simp only [evS] at e; exact e
      · cases h
    case aug i op e =>
      split at h
      · simp only [Bool.and_eq_true, decide_eq_true_eq] at h
        obtain ⟨⟨⟨rfl, h1⟩, h2⟩, h3⟩ := h
        obtain ⟨g1, g2⟩ := a.loc h2
        refine tS_mono (JS_aug (op := op) a.nd (a.slot h1) g1 g2 ((sd n).e a f h3)) fun ρ st d st' e => ?_
        simp only [evS] at e; exact e
      · cases h
    case augS o i op e =>
      split at h
      · simp only [Bool.and_eq_true, decide_eq_true_eq] at h
        obtain ⟨⟨⟨⟨rfl, h1⟩, h2⟩, h3⟩, h4⟩ := h
        refine tS_mono (JS_augS (op := op) hu h1 ((sd n).e a f h2) ((sd n).e a f h3) ((sd n).e a f h4)) fun ρ st d st' e => ?_
        simp only [evS] at e; exact e
      · cases h
    case ite t x y =>
      split at h
      · simp only [Bool.and_eq_true] at h
        refine tS_mono (JS_if ((sd n).t a f h.1.1) (sd_ss f a h.1.2) (sd_ss f a h.2)) fun ρ st d st' e => ?_
        simp only [evS] at e; exact e
      · cases h
    case whl t x =>
      split at h
      · simp only [Bool.and_eq_true] at h
        refine tS_mono (JS_while (fuel := c.fuel) own ((sd n).t a f h.1) (sd_ss f a h.2)) fun ρ st d st' e => ?_
        simp only [evS] at e; exact e
      · cases h
    case for_ tg it x =>
      split at h
      · simp only [Bool.and_eq_true] at h
        refine tS_mono (JS_for own a.calm ((sd n).i a f h.1.1.2) ((sd (T := T) (c := c) (ct := ct) (k := k) n).v a h.1.2) (sd_ss f a h.2) (noSet_fold h.1.1.1)) fun ρ st d st' e => ?_
        simp only [evS] at e; exact e
      · cases h
    case ret e =>
      split at h
      · refine tS_mono (JS_ret ((sd n).e a f h)) fun ρ st d st' e => ?_
        simp only [evS] at e; exact e
      · cases h
    case retN =>
      split at h
      · refine tS_mono JS_retN fun ρ st d st' e => ?_
        simp only [evS] at e; exact e
      · cases h
    case ex e =>
      split at h
      · rw [Bool.and_eq_true] at h
        refine tS_mono (JS_expr ((sd n).e a f h.2) (swn_eq h.1)) fun ρ st d st' e => ?_
        simp only [evS] at e; exact e
      · cases h
    case brk =>
      split at h
      · refine tS_mono JS_break fun ρ st d st' e => ?_
        simp only [evS] at e; exact e
      · cases h
    case cnt =>
      split at h
      · refine tS_mono JS_cont fun ρ st d st' e => ?_
        simp only [evS] at e; exact e
      · cases h
    case stop =>
      refine tS_mono JS_stop fun ρ st d st' e => ?_
      simp only [evS] at e; exact e
theorem sd_ss (f : Fct T c ct k X) {Γ : Cxt} (a : XAt Γ X) : ∀ {n : Nat} {s : S} {ps : List Stmt}, agSs T n Γ s ps = true → PSs X ps (tS ct (evS c s))
  | 0, s, p, h => by simp [agSs] at h
  | n + 1, s, p, h => by
    have one : ∀ {s p}, (match p with | [p] => agS T n Γ s p | _ => false) = true → PSs X p (tS ct (evS c s)) := fun {s p} h => by
      split at h
      · exact JSs_one (sd_s f a h)
      · cases h
    unfold agSs at h
    split at h
    · refine PSs.imp pss_never fun D σ H q => ?_
      obtain ⟨w, ρ, d, st', rfl, ok, env, e, q⟩ := q
      simp only [evS] at e; cases e
    · rename_i i b
      refine tSs_mono (JSs_frz (i := i) (sd_ss f a h)) fun ρ st d st' e => ?_
      simp only [evS] at e; exact e
    · split at h
      · rw [Bool.and_eq_true] at h
        refine tSs_mono (JSs_cons (sd_s f a h.1) (sd_ss f a h.2)) fun ρ st d st' e => ?_
        simp only [evS] at e; exact e
      · cases h
    · split at h
      · refine tSs_mono JSs_nil fun ρ st d st' e => ?_
        simp only [evS] at e; exact e
      · exact JSs_one (sd_s f a h)
      · cases h
    · exact one h
end
end
end Ev

set_option linter.all false
set_option maxRecDepth 100000
/-! Si: the whole program. -/
namespace Ev
open PySem L2 C8 PyProof.Rows
/-- a def of the text stands for a def of the term -/
def okFn (T : Tbl) (fuel : Nat) (t : List Str × Stmt) (fd : Fd) : Bool :=
  scC t.1 (t.1.take fd.np) (fnScope t.2) && decide (t.1.length = fd.ns) && decide (fd.np ≤ fd.ns) && agSs T fuel ⟨t.1, fnScope t.2, fun _ => true⟩ fd.body (fnBody t.2)
def okAll (T : Tbl) (fuel : Nat) : List (List Str × Stmt) → List Fd → Bool
  | t :: ts, fd :: fds => okFn T fuel t fd && okAll T fuel ts fds
  | [], [] => true
  | _, _ => false
theorem okAll_at {T : Tbl} {fuel : Nat} : ∀ {ts : List (List Str × Stmt)} {fds : List Fd}, okAll T fuel ts fds = true → ∀ (i : Nat) t fd, ts[i]? = some t → fds[i]? = some fd → okFn T fuel t fd = true
  | t :: ts, fd :: fds, h, i, t', fd', h1, h2 => by
    unfold okAll at h
    rw [Bool.and_eq_true] at h
    cases i with
    | zero => simp at h1 h2; subst h1 h2; exact h.1
    | succ i => exact okAll_at h.2 i t' fd' (by simpa using h1) (by simpa using h2)
  | [], [], _, i, _, _, h1, _ => by simp at h1
  | _ :: _, [], h, _, _, _, _, _ => by simp [okAll] at h
  | [], _ :: _, h, _, _, _, _, _ => by simp [okAll] at h
/-- what is known of the text, where its top has run -/
structure Tx (T : Tbl) (P : Prog) (tx : List (List Str × Stmt)) (ct : Nat → Option Addr) (fuel : Nat) (K : PySem.W.Frag) (mg : Str → Option Value) : Prop where
  ok : okAll T fuel tx P.fns = true
  cal : ∀ (i : Nat) (x : Str), T.fnm[i]? = some (some x) → ∃ (t : List Str × Stmt) (fd : Fd) (f : Addr) (fdd : FuncData), tx[i]? = some t ∧ P.fns[i]? = some fd ∧ C8.Def K mg x t.2 f fdd ∧ Binds K fdd (t.1.take fd.np) []
  mak : ∀ (q : Nat) (x : Str), T.cnm[q]? = some x → ∃ (C : Addr) (cd : Cd) (t : List Str × Stmt) (fd : Fd) (f : Addr) (fdd : FuncData) (qual : Str), ct q = some C ∧ P.cls[q]? = some cd ∧ tx[cd.init]? = some t ∧ P.fns[cd.init]? = some fd ∧ Mk K C f ∧ mg x = some (.ref C) ∧ C8.Fun K "__init__" qual t.2 f fdd ∧ Binds K fdd (t.1.take fd.np) []
  met : ∀ (q m : Nat), (q, m) ∈ T.mets → ∃ (C : Addr) (t : List Str × Stmt) (fd : Fd) (f : Addr) (fdd : FuncData) (qual : Str), ct q = some C ∧ tx[m]? = some t ∧ P.fns[m]? = some fd ∧ Cls K C ∧ Meth K C (T.mnm m) f ∧ C8.Fun K (T.mnm m) qual t.2 f fdd ∧ Binds K fdd (t.1.take fd.np) []
  mnm : T.mnm = fun f => match P.fns[f]? with | some fd => fd.nm | none => ""
  cf : ClF K ct
  fld : ∀ (q : Nat) (C : Addr) (f : Str), ct q = some C → P.fok q f = true → NoAttr K C f
  bi : ∀ x ∈ bNames, mg x = none
  glb : ∀ (g : Nat) (x z : Str), T.gnm[g]? = some x → P.glb[g]? = some z → ∃ t, mg x = some (.str z t)
section
variable {T : Tbl} {P : Prog} {tx : List (List Str × Stmt)} {ct : Nat → Option Addr} {fuel : Nat} {K : PySem.W.Frag} {mg : Str → Option Value} {prog : Program} {w : World} {base : Heap}
/-- every def keeps its promise, calls to the depth n -/
structure Prom (T : Tbl) (P : Prog) (ct : Nat → Option Addr) (K : PySem.W.Frag) (mg : Str → Option Value) (prog : Program) (w : World) (base : Heap) (n : Nat) : Prop where
  cal : ∀ (i : Nat) (x : Str), T.fnm[i]? = some (some x) → Cal prog w K mg base (2 * n + 1) x (spA ct (callF P n i) (callN P n i)) []
  mak : ∀ (q : Nat) (x : Str), T.cnm[q]? = some x → ∃ C cd, ct q = some C ∧ P.cls[q]? = some cd ∧ mg x = some (.ref C) ∧ Mak prog w K mg base (2 * n + 1) x C (spA ct (callF P n cd.init) (callN P n cd.init)) []
  met : ∀ (q m : Nat), (q, m) ∈ T.mets → ∃ C, ct q = some C ∧ Met prog w K mg base (2 * n + 1) C (T.mnm m) (spA ct (callF P n m) (callN P n m)) []
theorem Prom.fct {n : Nat} (h : Prom T P ct K mg prog w base n) (x : Tx T P tx ct fuel K mg) {X : Cx} (hp : X.prog = prog) (hw : X.w = w) (hK : X.K = K) (hm : X.mg = mg) (hb : X.base = base) (hr : Room (2 * n + 2) X.A) : Fct T (P.cfg (callF P n) (callN P n)) ct (2 * n + 1) X := by
  subst hp hw hK hm hb
  refine ⟨h.cal, fun q y hq => ?_, fun q m hq => ?_, x.mnm.symm, fun f => callF_pure P n f, fun f => callN_pure P n f, x.cf, x.fld, x.bi, x.glb, fun q y hq => ?_, hr⟩
  · obtain ⟨C, cd, h1, h2, h3, h4⟩ := h.mak q y hq
    refine ⟨C, cd.init, h1, h4, fun ds => ?_⟩
    show newF P (callF P n) q ds = _
    unfold newF
    rw [h2]
    rfl
  · obtain ⟨C, h1, h2⟩ := h.met q m hq
    refine ⟨C, h1, ?_⟩
    have e : (P.cfg (callF P n) (callN P n)).mnm m = T.mnm m := by rw [x.mnm]; rfl
    rw [e]
    exact h2
  · obtain ⟨C, cd, h1, h2, h3, h4⟩ := h.mak q y hq
    exact ⟨C, h1, h3⟩
theorem spA0 {i : Nat} {vs : List V} {H : Hp} {Q : VK} {E : XK} (h : spA ct (callF P 0 i) (callN P 0 i) vs H Q E) : False := by
  rcases h with ⟨w, ds, d, st', _, _, _, e, _⟩ | ⟨w, ds, d, st', _, _, _, _, e, _⟩
  · simp [callF] at e
  · simp [callN] at e
theorem spAs {n i : Nat} {fd : Fd} (hf : P.fns[i]? = some fd) {vs : List V} {H : Hp} {Q : VK} {E : XK} (h : spA ct (callF P (n + 1) i) (callN P (n + 1) i) vs H Q E) :
    spA ct (runB (P.cfg (callF P n) (callN P n)) fd) (runN (P.cfg (callF P n) (callN P n)) fd) vs H Q E := by
  have e1 : callF P (n + 1) i = runB (P.cfg (callF P n) (callN P n)) fd := by funext ds st; simp only [callF, hf]
  have e2 : callN P (n + 1) i = runN (P.cfg (callF P n) (callN P n)) fd := by funext ds; simp only [callN, hf]
  rw [e1, e2] at h; exact h
/-- a body walked -/
theorem body_walk {n i : Nat} {t : List Str × Stmt} {fd : Fd} {f : Addr} {qual : Str} (x : Tx T P tx ct fuel K mg) (h : Prom T P ct K mg prog w base n) (ht : tx[i]? = some t) (hf : P.fns[i]? = some fd)
    (cdv : Value) (A : Around) (outer : List PySem.Env) (s : Shared) (H : Hp) (vs : List V) (Q : VK) (E : XK) (hr : Room (2 * n + 2) (A.deeper (envOfC qual (fnScope t.2) s.heap.objs.size f cdv))) (hsp : spA ct (callF P (n + 1) i) (callN P (n + 1) i) vs H Q E) :
    ∃ te, PSs (cxOf C8.CX0 prog w K mg base t.1 qual (fnScope t.2) f cdv A outer s H E).nox (fnBody t.2) te ∧ te { nx := fun _ H' => Q .non H', rt := Q } (start t.1 vs) H := by
  have ok := okAll_at x.ok i t fd ht hf
  unfold okFn at ok
  simp only [Bool.and_eq_true, decide_eq_true_eq] at ok
  obtain ⟨⟨⟨h1, h2⟩, h3⟩, h4⟩ := ok
  have S := fnScope_by h1
  have a : XAt ⟨t.1, fnScope t.2, fun _ => true⟩ (cxOf C8.CX0 prog w K mg base t.1 qual (fnScope t.2) f cdv A outer s H E).nox := ⟨rfl, rfl, S.nd, rfl, rfl, fun _ _ => rfl, S.kind⟩
  exact ⟨_, sd_ss (h.fct x rfl rfl rfl rfl rfl hr) a h4, body_ok h2 (spAs hf hsp)⟩
theorem len_walk {n i : Nat} {t : List Str × Stmt} {fd : Fd} (x : Tx T P tx ct fuel K mg) (ht : tx[i]? = some t) (hf : P.fns[i]? = some fd) (vs : List V) (H : Hp) (Q : VK) (E : XK) (hsp : spA ct (callF P n i) (callN P n i) vs H Q E) : vs.length = (t.1.take fd.np).length := by
  cases n with
  | zero => exact (spA0 hsp).elim
  | succ n =>
    have ok := okAll_at x.ok i t fd ht hf
    unfold okFn at ok
    simp only [Bool.and_eq_true, decide_eq_true_eq] at ok
    obtain ⟨⟨⟨h1, h2⟩, h3⟩, h4⟩ := ok
    rw [spA_len (spAs hf hsp), List.length_take]; omega
theorem scope_of {i : Nat} {t : List Str × Stmt} {fd : Fd} (x : Tx T P tx ct fuel K mg) (ht : tx[i]? = some t) (hf : P.fns[i]? = some fd) : FnScope t.1 (t.1.take fd.np) (fnScope t.2) := by
  have ok := okAll_at x.ok i t fd ht hf
  unfold okFn at ok
  simp only [Bool.and_eq_true, decide_eq_true_eq] at ok
  exact fnScope_by ok.1.1.1
theorem prom (x : Tx T P tx ct fuel K mg) : ∀ n, Prom T P ct K mg prog w base n
  | 0 => by
    refine ⟨fun i y hi => ?_, fun q y hq => ?_, fun q m hq => ?_⟩
    · obtain ⟨t, fd, f, fdd, h1, h2, h3, h4⟩ := x.cal i y hi
      exact cal0 h3 h4 .nil (scope_of x h1 h2) (len_walk x h1 h2) fun cdv A outer s H vs Q E hr hsp => (spA0 hsp).elim
    · obtain ⟨C, cd, t, fd, f, fdd, qual, h0, h0', h1, h2, h3, h4, h5, h6⟩ := x.mak q y hq
      exact ⟨C, cd, h0, h0', h4, mak0 h3 h4 h5 h6 .nil (scope_of x h1 h2) (len_walk x h1 h2) fun cdv A outer s H vs Q E hr hsp => (spA0 hsp).elim⟩
    · obtain ⟨C, t, fd, f, fdd, qual, h0, h1, h2, h3, h4, h5, h6⟩ := x.met q m hq
      exact ⟨C, h0, met0 h3 h4 h5 h6 (scope_of x h1 h2) (len_walk x h1 h2) fun cdv A outer s H vs Q E hr hsp => (spA0 hsp).elim⟩
  | n + 1 => by
    have ih := prom x n
    refine ⟨fun i y hi => ?_, fun q y hq => ?_, fun q m hq => ?_⟩
    · obtain ⟨t, fd, f, fdd, h1, h2, h3, h4⟩ := x.cal i y hi
      exact cal0 h3 h4 .nil (scope_of x h1 h2) (len_walk x h1 h2) fun cdv A outer s H vs Q E hr hsp => body_walk x ih h1 h2 cdv A outer s H vs Q E hr hsp
    · obtain ⟨C, cd, t, fd, f, fdd, qual, h0, h0', h1, h2, h3, h4, h5, h6⟩ := x.mak q y hq
      exact ⟨C, cd, h0, h0', h4, mak0 h3 h4 h5 h6 .nil (scope_of x h1 h2) (len_walk x h1 h2) fun cdv A outer s H vs Q E hr hsp => body_walk x ih h1 h2 cdv A outer s H vs Q E hr hsp⟩
    · obtain ⟨C, t, fd, f, fdd, qual, h0, h1, h2, h3, h4, h5, h6⟩ := x.met q m hq
      exact ⟨C, h0, met0 h3 h4 h5 h6 (scope_of x h1 h2) (len_walk x h1 h2) fun cdv A outer s H vs Q E hr hsp => body_walk x ih h1 h2 cdv A outer s H vs Q E hr hsp⟩
end
end Ev

set_option linter.all false
set_option maxRecDepth 100000
/-! Sj: the law's own end. -/
namespace Ev
open PySem L2 C8 PyProof.Rows
/-- no list stands behind the top -/
def noLst (K : PySem.W.Frag) : Bool := K.all fun p => !(p.2.cls == .type "list")
theorem noLst_at {a : Addr} {o : Obj} : ∀ {K : PySem.W.Frag}, noLst K = true → K.lookup a = some o → o.cls ≠ .type "list"
  | [], _, h => by simp [List.lookup] at h
  | p :: K, h, hl => by
    unfold noLst at h
    rw [List.all_cons, Bool.and_eq_true] at h
    rw [List.lookup_cons] at hl
    split at hl
    · cases hl
      intro z
      have := h.1
      rw [z] at this
      simp at this
    · exact noLst_at (K := K) h.2 hl
/-- law's promise -/
def spLaw (K : PySem.W.Frag) : Sp := fun vs H Q _ => ∃ (a : Addr) (ns : List Int), vs = [.ref a] ∧ SqL K H a (ns.map V.int) ∧ ns.length ≤ 63 ∧ ∀ H', Q (.bl true) H'
theorem ints_rel {ct : Nat → Option Addr} {m : List Addr} {F : Hp} : ∀ ns : List Int, Rels ct m F (ns.map Ev.D.int) (ns.map V.int)
  | [] => Rels.nil
  | n :: ns => Rels.cons of_int (ints_rel ns)
section
variable {T : Tbl} {P : Prog} {tx : List (List Str × Stmt)} {ct : Nat → Option Addr} {fuel : Nat} {K : PySem.W.Frag} {mg : Str → Option Value} {prog : Program} {w : World} {base : Heap}
theorem fn_ok {n i : Nat} {t : List Str × Stmt} {fd : Fd} {f : Addr} {fdd : FuncData} {x qual : Str} (X : Tx T P tx ct fuel K mg) (F : C8.Fun K x qual t.2 f fdd) (ht : tx[i]? = some t) (hf : P.fns[i]? = some fd) :
    FnOk prog w K mg base C8.CX0 (2 * n + 1) f fdd (t.1.take fd.np) (spA ct (callF P n i) (callN P n i)) := by
  refine fn0 F (scope_of X ht hf) (len_walk X ht hf) fun cdv A outer s H vs Q E hr hsp => ?_
  cases n with
  | zero => exact (spA0 hsp).elim
  | succ n => exact body_walk X (prom X n) ht hf cdv A outer s H vs Q E hr hsp
theorem law_fn {n i : Nat} {t : List Str × Stmt} {fd : Fd} {f : Addr} {fdd : FuncData} {x qual : Str} (X : Tx T P tx ct fuel K mg) (F : C8.Fun K x qual t.2 f fdd) (ht : tx[i]? = some t) (hf : P.fns[i]? = some fd) (hl : noLst K = true)
    (hT : ∀ ns : List Int, ns.length ≤ 63 → ∃ st, callF P n i [.lst (ns.map .int)] [] = .ok (.bl true) st) : FnOk prog w K mg base C8.CX0 (2 * n + 1) f fdd (t.1.take fd.np) (spLaw K) := by
  refine (fn_ok (n := n) X F ht hf).imp fun vs H Q E h => ?_
  obtain ⟨a, ns, rfl, hS, hn, hq⟩ := h
  obtain ⟨st, e⟩ := hT ns hn
  rcases hS with hS | ⟨o, its, m, h1, h2, _⟩
  · refine .inl ⟨{ m := [], st := [], F := H, H := H }, [.lst (ns.map .int)], .bl true, st, rfl, ⟨fun a o h => h, rfl, List.nodup_nil, fun n a o h1 _ => by simp at h1, fun a h => by simp at h⟩, ?_, e, fun w' v _ _ _ _ r => ?_⟩
    · refine Rels.cons ?_ Rels.nil
      unfold Rel
      exact ⟨a, ns.map V.int, rfl, hS, ints_rel ns⟩
    · rw [rel_bl r]
      exact hq _
  · exact absurd h2 (noLst_at hl h1)
end
end Ev

set_option linter.all false
set_option maxRecDepth 100000
/-! Ka: the evaluator's run on plain data: loops, comprehensions, levels. -/
namespace Ev
open PySem (Str)
theorem lev {P : Prog} {n i : Nat} {fd : Fd} (h : P.fns[i]? = some fd) (ds : List D) (st : List Ob) : callF P (n + 1) i ds st = runB (P.cfg (callF P n) (callN P n)) fd ds st := by
  simp only [callF, h]
theorem levN {P : Prog} {n i : Nat} {fd : Fd} (h : P.fns[i]? = some fd) (ds : List D) : callN P (n + 1) i ds = runN (P.cfg (callF P n) (callN P n)) fd ds := by
  simp only [callN, h]
/-- a comprehension: every turn gives its own part -/
theorem lcD_of {turn : D → List Ob → R (List D)} {g : D → List D} {st : List Ob} : ∀ {l : List D}, (∀ d ∈ l, turn d st = .ok (g d) st) → lcD turn l st = .ok (l.flatMap g) st
  | [], _ => rfl
  | d :: l, h => by
    rw [lcD, h d (List.mem_cons_self ..), bnd_ok, lcD_of (l := l) fun x hx => h x (List.mem_cons_of_mem _ hx), bnd_ok, List.flatMap_cons]
/-- .. of coded things -/
theorem lcD_map {α : Type} {enc : α → D} {turn : D → List Ob → R (List D)} {g : α → List D} {st : List Ob} : ∀ {l : List α}, (∀ x ∈ l, turn (enc x) st = .ok (g x) st) → lcD turn (l.map enc) st = .ok (l.flatMap g) st
  | [], _ => rfl
  | x :: l, h => by
    rw [List.map_cons, lcD, h x (List.mem_cons_self ..), bnd_ok, lcD_map (l := l) fun x hx => h x (List.mem_cons_of_mem _ hx), bnd_ok, List.flatMap_cons]
theorem flat_one {α : Type} {f : α → D} : ∀ l : List α, l.flatMap (fun x => [f x]) = l.map f
  | [] => rfl
  | x :: l => by rw [List.flatMap_cons, flat_one l]; rfl
theorem flat_if {α : Type} {p : α → Bool} {f : α → D} : ∀ l : List α, l.flatMap (fun x => if p x = true then [f x] else []) = (l.filter p).map f
  | [] => rfl
  | x :: l => by
    rw [List.flatMap_cons, flat_if l, List.filter_cons]
    split <;> simp
/-- every turn one element -/
theorem lcD_map1 {α : Type} {enc : α → D} {turn : D → List Ob → R (List D)} {f : α → D} {st : List Ob} {l : List α} (h : ∀ x ∈ l, turn (enc x) st = .ok [f x] st) : lcD turn (l.map enc) st = .ok (l.map f) st := by
  rw [lcD_map (g := fun x => [f x]) h, flat_one]
/-- .. or none -/
theorem lcD_mapF {α : Type} {enc : α → D} {turn : D → List Ob → R (List D)} {p : α → Bool} {f : α → D} {st : List Ob} {l : List α} (h : ∀ x ∈ l, turn (enc x) st = .ok (if p x = true then [f x] else []) st) : lcD turn (l.map enc) st = .ok ((l.filter p).map f) st := by
  rw [lcD_map (g := fun x => if p x = true then [f x] else []) h, flat_if]
/-- a loop that goes through -/
theorem forD_rel {α σ : Type} {enc : α → D} {body : D → Env → List Ob → R (Fl × Env)} {I : σ → Env → List Ob → Prop} {step : σ → α → σ} : ∀ {xs : List α} {s : σ} {ρ : Env} {st : List Ob},
    (∀ s x ρ st, x ∈ xs → I s ρ st → ∃ ρ' st', body (enc x) ρ st = .ok (.nx, ρ') st' ∧ I (step s x) ρ' st') → I s ρ st → ∃ ρ' st', forD body (xs.map enc) ρ st = .ok (.nx, ρ') st' ∧ I (xs.foldl step s) ρ' st'
  | [], s, ρ, st, _, h => ⟨ρ, st, rfl, h⟩
  | x :: xs, s, ρ, st, hb, h => by
    obtain ⟨ρ1, st1, e1, h1⟩ := hb s x ρ st (List.mem_cons_self ..) h
    obtain ⟨ρ2, st2, e2, h2⟩ := forD_rel (xs := xs) (fun s x ρ st hx => hb s x ρ st (List.mem_cons_of_mem _ hx)) h1
    exact ⟨ρ2, st2, by rw [List.map_cons, forD, e1, bnd_ok]; exact e2, h2⟩
/-- .. with the turn's number -/
theorem forD_idx {α : Type} {enc : α → D} {body : D → Env → List Ob → R (Fl × Env)} {I : Nat → Env → List Ob → Prop} {xs : List α} {ρ : Env} {st : List Ob}
    (hb : ∀ i x ρ st, xs[i]? = some x → I i ρ st → ∃ ρ' st', body (enc x) ρ st = .ok (.nx, ρ') st' ∧ I (i + 1) ρ' st') (h : I 0 ρ st) : ∃ ρ' st', forD body (xs.map enc) ρ st = .ok (.nx, ρ') st' ∧ I xs.length ρ' st' := by
  have main : ∀ (ys : List α) (k : Nat) ρ st, xs.drop k = ys → I k ρ st → ∃ ρ' st', forD body (ys.map enc) ρ st = .ok (.nx, ρ') st' ∧ I (k + ys.length) ρ' st' := by
    intro ys
    induction ys with
    | nil => intro k ρ st _ h; exact ⟨ρ, st, rfl, h⟩
    | cons y ys ih =>
      intro k ρ st hd h
      have hk : xs[k]? = some y := by
        have := congrArg (fun l => l[0]?) hd
        simpa using this
      obtain ⟨ρ1, st1, e1, h1⟩ := hb k y ρ st hk h
      have hd' : xs.drop (k + 1) = ys := by rw [← List.drop_drop, hd]; rfl
      obtain ⟨ρ2, st2, e2, h2⟩ := ih (k + 1) ρ1 st1 hd' h1
      refine ⟨ρ2, st2, by rw [List.map_cons, forD, e1, bnd_ok]; exact e2, ?_⟩
      rw [List.length_cons, show k + (ys.length + 1) = k + 1 + ys.length by omega]; exact h2
  obtain ⟨ρ', st', e, hI⟩ := main xs 0 ρ st rfl h
  exact ⟨ρ', st', e, by simpa using hI⟩
/-! a body's end on plain data -/
theorem leave_plain {d : D} (h : d.pure = true) (st : List Ob) : leave 0 d st = .ok d [] := by
  simp [leave, frz, h, frzObs]
theorem leave_int (i : Int) (st : List Ob) : leave 0 (.int i) st = .ok (.int i) [] := rfl
theorem leave_bl (i : Bool) (st : List Ob) : leave 0 (.bl i) st = .ok (.bl i) [] := rfl
theorem leave_non (st : List Ob) : leave 0 .non st = .ok .non [] := rfl
theorem leave_tup {l : List D} (h : D.pures l = true) (st : List Ob) : leave 0 (.tup l) st = .ok (.tup l) [] := leave_plain (by simpa [D.pure] using h) st
theorem leave_lst {l : List D} (h : D.pures l = true) (st : List Ob) : leave 0 (.lst l) st = .ok (.lst l) [] := leave_plain (by simpa [D.pure] using h) st
theorem leave_obj {q : Nat} {fs : List Str} {l : List D} (h : D.pures l = true) (st : List Ob) : leave 0 (.obj q fs l) st = .ok (.obj q fs l) [] := leave_plain (by simpa [D.pure] using h) st
theorem pures_append : ∀ l m : List D, D.pures (l ++ m) = (D.pures l && D.pures m)
  | [], m => by simp [D.pures]
  | d :: l, m => by simp [D.pures, pures_append l m, Bool.and_assoc]
theorem pures_map {α : Type} {f : α → D} (h : ∀ x, (f x).pure = true) : ∀ l : List α, D.pures (l.map f) = true
  | [] => rfl
  | x :: l => by rw [List.map_cons, D.pures, h, pures_map h l]; rfl
theorem pures_all : ∀ {l : List D}, (∀ d ∈ l, d.pure = true) → D.pures l = true
  | [], _ => rfl
  | d :: l, h => by rw [D.pures, h d (List.mem_cons_self ..), pures_all fun x hx => h x (List.mem_cons_of_mem _ hx)]; rfl
theorem frz_plain {d : D} {st : List Ob} (h : d.pure = true) : frz st 0 d = some d := by unfold frz; rw [if_pos h]
theorem frzs_plain {st : List Ob} : ∀ {l : List D}, D.pures l = true → frzs st 0 l = some l
  | [], _ => rfl
  | d :: l, h => by
    have h : (D.pure d && D.pures l) = true := h
    rw [Bool.and_eq_true] at h
    rw [frzs, frz_plain h.1, frzs_plain h.2]
/-- a call of plain data -/
theorem ev_call {c : Cfg} {f : Nat} {es : E} {ρ : Env} {st st1 : List Ob} {l : List D} {d : D} {os : List Ob} (h1 : evEs c es ρ st = .ok l st1) (h2 : D.pures l = true) (h3 : c.fn f l [] = .ok d os) : evE c (.call f false es) ρ st = .ok d st1 := by
  simp only [evE, h1, bnd_ok, frzs_plain h2, ofO_some, h3, h2, Bool.true_or, chk_true]
/-! numbers that are walked -/
theorem rng_items (n : Nat) : ((List.range (n : Int).toNat).map fun (k : Nat) => D.int k) = (List.range n).map fun (k : Nat) => D.int k := by simp
/-! operations on plain data -/
section
variable {st : List Ob}
theorem o_len_tup (l : List D) : opBlt .len st [.tup l] = some (.int l.length) := rfl
theorem o_len_lst (l : List D) : opBlt .len st [.lst l] = some (.int l.length) := rfl
theorem o_len_dct (tk : Bool) (ks vs : List D) : opBlt .len st [.dct tk ks vs] = some (.int ks.length) := rfl
theorem o_len_ref {n : Nat} {l : List D} (h : st[n]? = some (.lst l)) : opBlt .len st [.ref n] = some (.int l.length) := by simp [opBlt, seqOf, h]
theorem o_tuple_tup (l : List D) : opBlt .tuple st [.tup l] = some (.tup l) := rfl
theorem o_tuple_lst (l : List D) : opBlt .tuple st [.lst l] = some (.tup l) := rfl
theorem o_list_tup (l : List D) : opBlt .list st [.tup l] = some (.lst l) := rfl
theorem o_list_lst (l : List D) : opBlt .list st [.lst l] = some (.lst l) := rfl
theorem o_min (i j : Int) : opBlt .min st [.int i, .int j] = some (.int (if j < i then j else i)) := rfl
theorem o_max (i j : Int) : opBlt .max st [.int i, .int j] = some (.int (if j > i then j else i)) := rfl
theorem o_abs (i : Int) : opBlt .abs st [.int i] = some (.int (if i < 0 then -i else i)) := rfl
theorem o_int (i : Int) : opBlt .int st [.int i] = some (.int i) := rfl
theorem o_intb (b : Bool) : opBlt .int st [.bl b] = some (.int (if b = true then 1 else 0)) := rfl
theorem o_eq (a b : Int) : opCmp .eq st (.int a) (.int b) = some (decide (a = b)) := rfl
theorem o_ne (a b : Int) : opCmp .ne st (.int a) (.int b) = some (!decide (a = b)) := rfl
theorem o_lt (a b : Int) : opCmp .lt st (.int a) (.int b) = some (decide (a < b)) := rfl
theorem o_le (a b : Int) : opCmp .le st (.int a) (.int b) = some (!decide (b < a)) := rfl
theorem o_gt (a b : Int) : opCmp .gt st (.int a) (.int b) = some (decide (b < a)) := rfl
theorem o_ge (a b : Int) : opCmp .ge st (.int a) (.int b) = some (!decide (a < b)) := rfl
theorem o_add (a b : Int) : opBin .add st (.int a) (.int b) = some (.int (a + b)) := rfl
theorem o_sub (a b : Int) : opBin .sub st (.int a) (.int b) = some (.int (a - b)) := rfl
theorem o_mul {a b : Int} (h : okMul a b = true) : opBin .mul st (.int a) (.int b) = some (.int (a * b)) := by simp [opBin, opInt, h]
theorem o_addT {l m : List D} (h : l.length + m.length ≤ szL) : opBin .add st (.tup l) (.tup m) = some (.tup (l ++ m)) := by simp [opBin, h]
theorem o_addL {l m : List D} (h : l.length + m.length ≤ szL) : opBin .add st (.lst l) (.lst m) = some (.lst (l ++ m)) := by simp [opBin, opLst, lstOf, h]
theorem o_ixT (l : List D) (k : Nat) : opIx st (.tup l) (.int k) = l[k]? := by
  by_cases h : k < l.length
  · simp [opIx, dctOf, seqOf, ixN, h]
  · simp [opIx, dctOf, seqOf, ixN, h, List.getElem?_eq_none (Nat.le_of_not_lt h)]
theorem o_ixL (l : List D) (k : Nat) : opIx st (.lst l) (.int k) = l[k]? := by
  by_cases h : k < l.length
  · simp [opIx, dctOf, seqOf, ixN, h]
  · simp [opIx, dctOf, seqOf, ixN, h, List.getElem?_eq_none (Nat.le_of_not_lt h)]
theorem o_ixR {n : Nat} {l : List D} (h : st[n]? = some (.lst l)) (k : Nat) : opIx st (.ref n) (.int k) = l[k]? := by
  by_cases h2 : k < l.length
  · simp [opIx, dctOf, seqOf, ixN, h2, h]
  · simp [opIx, dctOf, seqOf, ixN, h2, h, List.getElem?_eq_none (Nat.le_of_not_lt h2)]
theorem o_ixT0 (l : List D) : opIx st (.tup l) (.int 0) = l[0]? := o_ixT l 0
theorem o_ixT1 (l : List D) : opIx st (.tup l) (.int 1) = l[1]? := o_ixT l 1
theorem o_ixT2 (l : List D) : opIx st (.tup l) (.int 2) = l[2]? := o_ixT l 2
theorem o_ixL0 (l : List D) : opIx st (.lst l) (.int 0) = l[0]? := o_ixL l 0
theorem o_ixL1 (l : List D) : opIx st (.lst l) (.int 1) = l[1]? := o_ixL l 1
theorem t_bl (b : Bool) : truth st (.bl b) = some b := rfl
theorem t_int (i : Int) : truth st (.int i) = some (i != 0) := rfl
theorem i_int (i : Int) (t : Ty) : isTy t st (.int i) = some (decide (t = .int)) := rfl
theorem i_bl (b : Bool) (t : Ty) : isTy t st (.bl b) = some (decide (t = .int) || decide (t = .bool)) := rfl
theorem i_tup (l : List D) (t : Ty) : isTy t st (.tup l) = some (decide (t = .tuple)) := rfl
theorem i_lst (l : List D) (t : Ty) : isTy t st (.lst l) = some (decide (t = .list)) := rfl
theorem i_non (t : Ty) : isTy t st .non = some false := rfl
theorem i_str (x : Str) (t : Ty) : isTy t st (.str x) = some (decide (t = .str)) := rfl
theorem i_obj (q : Nat) (fs : List Str) (vs : List D) (t : Ty) : isTy t st (.obj q fs vs) = some (decide (t = .cls q)) := rfl
end
end Ev

set_option linter.all false
set_option maxRecDepth 100000
/-! Kb: statements run, by what holds behind. -/
namespace Ev
open PySem (Str)
def Run (c : Cfg) (s : S) (ρ : Env) (st : List Ob) (Q : Fl → Env → List Ob → Prop) : Prop := ∃ fl ρ' st', evS c s ρ st = .ok (fl, ρ') st' ∧ Q fl ρ' st'
section
variable {c : Cfg} {ρ : Env} {st st1 st2 : List Ob} {Q : Fl → Env → List Ob → Prop}
theorem Run.imp {s : S} {Q' : Fl → Env → List Ob → Prop} (h : Run c s ρ st Q) (i : ∀ fl ρ' st', Q fl ρ' st' → Q' fl ρ' st') : Run c s ρ st Q' := by
  obtain ⟨fl, ρ', st', e, q⟩ := h
  exact ⟨fl, ρ', st', e, i _ _ _ q⟩
/-- what a rest asks of its head -/
def Then (c : Cfg) (b : S) (Q : Fl → Env → List Ob → Prop) : Fl → Env → List Ob → Prop := fun fl ρ st => match fl with
  | .nx => Run c b ρ st Q
  | .brk => Q .brk ρ st
  | .cnt => Q .cnt ρ st
  | .ret d => Q (.ret d) ρ st
theorem run_seq {a b : S} (h : Run c a ρ st (Then c b Q)) : Run c (.seq a b) ρ st Q := by
  obtain ⟨fl, ρ1, st1, e, q⟩ := h
  cases fl with
  | nx =>
    obtain ⟨fl2, ρ2, st2, e2, q2⟩ := q
    exact ⟨fl2, ρ2, st2, by simp only [evS, e, bnd_ok, e2], q2⟩
  | brk => exact ⟨.brk, ρ1, st1, by simp only [evS, e, bnd_ok], q⟩
  | cnt => exact ⟨.cnt, ρ1, st1, by simp only [evS, e, bnd_ok], q⟩
  | ret d => exact ⟨.ret d, ρ1, st1, by simp only [evS, e, bnd_ok], q⟩
theorem run_skip (h : Q .nx ρ st) : Run c .skip ρ st Q := ⟨_, _, _, by simp only [evS], h⟩
theorem run_ret {e : E} {d : D} (he : evE c e ρ st = .ok d st1) (h : Q (.ret d) ρ st1) : Run c (.ret e) ρ st Q := ⟨_, _, _, by simp only [evS, he, bnd_ok], h⟩
theorem run_retN (h : Q (.ret .non) ρ st) : Run c .retN ρ st Q := ⟨_, _, _, by simp only [evS], h⟩
theorem run_brk (h : Q .brk ρ st) : Run c .brk ρ st Q := ⟨_, _, _, by simp only [evS], h⟩
theorem run_cnt (h : Q .cnt ρ st) : Run c .cnt ρ st Q := ⟨_, _, _, by simp only [evS], h⟩
theorem run_ex {e : E} {d : D} (he : evE c e ρ st = .ok d st1) (h : Q .nx ρ st1) : Run c (.ex e) ρ st Q := ⟨_, _, _, by simp only [evS, he, bnd_ok], h⟩
theorem run_asg {tg e : E} {d : D} {ρ1 : Env} (he : evE c e ρ st = .ok d st1) (ht : evTg c tg d ρ st1 = .ok ρ1 st2) (h : Q .nx ρ1 st2) : Run c (.asg tg e) ρ st Q := ⟨_, _, _, by simp only [evS, he, bnd_ok, ht], h⟩
theorem run_set {i : Nat} {e : E} {d : D} (he : evE c e ρ st = .ok d st1) (hi : i < ρ.length) (h : Q .nx (ρ.set i (some d)) st1) : Run c (.asg (.var i) e) ρ st Q :=
  run_asg he (by simp only [evTg, decide_eq_true hi, chk_true]) h
theorem run_asg2 {tg tg' e : E} {d : D} {ρ1 ρ2 : Env} {st3 : List Ob} (he : evE c e ρ st = .ok d st1) (ht : evTg c tg d ρ st1 = .ok ρ1 st2) (ht' : evTg c tg' d ρ1 st2 = .ok ρ2 st3) (h : Q .nx ρ2 st3) : Run c (.asg2 tg tg' e) ρ st Q := ⟨_, _, _, by simp only [evS, he, bnd_ok, ht, ht'], h⟩
theorem run_aug {i : Nat} {op : Bop} {e : E} {x y z : D} (hx : ρ[i]? = some (some x)) (he : evE c e ρ st = .ok y st1) (ho : opAug op x y = some z) (h : Q .nx (ρ.set i (some z)) st1) : Run c (.aug i op e) ρ st Q := ⟨_, _, _, by simp only [evS, hx, he, bnd_ok, ho, ofO_some], h⟩
theorem run_augS {o i e : E} {op : Bop} {x y z w v : D} {st3 st4 : List Ob} (ho : evE c o ρ st = .ok x st1) (hi : evE c i ρ st1 = .ok y st2) (hz : opIx st2 x y = some z) (he : evE c e ρ st2 = .ok w st3) (hv : opAug op z w = some v) (hs : opSet st3 x y v = some st4) (h : Q .nx ρ st4) : Run c (.augS o i op e) ρ st Q :=
  ⟨_, _, _, by simp only [evS, ho, hi, bnd_ok, hz, ofO_some, he, hv, hs], h⟩
theorem run_ite {t : E} {a b : S} {v : Bool} (ht : evT c t ρ st = .ok v st1) (h1 : v = true → Run c a ρ st1 Q) (h2 : v = false → Run c b ρ st1 Q) : Run c (.ite t a b) ρ st Q := by
  cases v with
  | true =>
    obtain ⟨fl, ρ', st', e, q⟩ := h1 rfl
    exact ⟨fl, ρ', st', by simp only [evS, ht, bnd_ok, e], q⟩
  | false =>
    obtain ⟨fl, ρ', st', e, q⟩ := h2 rfl
    exact ⟨fl, ρ', st', by simp only [evS, ht, bnd_ok, e], q⟩
theorem run_if {t : E} {a b : S} (ht : evT c t ρ st = .ok true st1) (h : Run c a ρ st1 Q) : Run c (.ite t a b) ρ st Q := run_ite ht (fun _ => h) fun z => nomatch z
theorem run_else {t : E} {a b : S} (ht : evT c t ρ st = .ok false st1) (h : Run c b ρ st1 Q) : Run c (.ite t a b) ρ st Q := run_ite ht (fun z => nomatch z) fun _ => h
theorem run_frz {i n : Nat} {d : D} (hx : ρ[i]? = some (some (.ref n))) (hd : obPure st n = some d) (h : Q .nx (ρ.set i (some d)) (st.set n .gone)) : Run c (.frz i) ρ st Q := ⟨_, _, _, by simp only [evS, hx, hd, ofO_some], h⟩
theorem run_fld {a e : E} {f : Str} {d : D} {n k : Nat} {fs : List Str} {vs : List D} (he : evE c e ρ st = .ok d st1) (ha : evE c a ρ st1 = .ok (.ref n) st2) (hs : st2[n]? = some (.ins k fs vs)) (hf : c.fok k f = true) (hl : fs.length < 100) (h : Q .nx ρ (st2.set n (.ins k (putFs f fs) (putFv f d fs vs)))) : Run c (.asg (.fld a f) e) ρ st Q :=
  run_asg (ρ1 := ρ) he (by simp only [evTg, ha, bnd_ok, hs, hf, decide_eq_true hl, Bool.true_and, chk_true]) h
/-- a loop that goes through: the invariant by the turn -/
theorem run_for {α : Type} {enc : α → D} {tg it : E} {a : S} {xs : List α} (I : Nat → Env → List Ob → Prop) (hi : evI c it ρ st = .ok (xs.map enc) st1) (h0 : I 0 ρ st1)
    (hb : ∀ i x ρ st, xs[i]? = some x → I i ρ st → ∃ ρ1, tgs tg (enc x) ρ = some ρ1 ∧ Run c a ρ1 st fun fl ρ' st' => (fl = .nx ∨ fl = .cnt) ∧ I (i + 1) ρ' st') (h : ∀ ρ' st', I xs.length ρ' st' → Q .nx ρ' st') : Run c (.for_ tg it a) ρ st Q := by
  have main : ∀ (ys : List α) (k : Nat) ρ st, xs.drop k = ys → I k ρ st → ∃ ρ' st', forD (fun d ρ s => ofO (tgs tg d ρ) fun ρ1 => evS c a ρ1 s) (ys.map enc) ρ st = .ok (.nx, ρ') st' ∧ I (k + ys.length) ρ' st' := by
    intro ys
    induction ys with
    | nil => intro k ρ st _ h; exact ⟨ρ, st, rfl, h⟩
    | cons y ys ih =>
      intro k ρ st hd h
      have hk : xs[k]? = some y := by
        have := congrArg (fun l => l[0]?) hd
        simpa using this
      obtain ⟨ρ0, e0, fl, ρ1, st1, e1, hf, h1⟩ := hb k y ρ st hk h
      have hd' : xs.drop (k + 1) = ys := by rw [← List.drop_drop, hd]; rfl
      obtain ⟨ρ2, st2, e2, h2⟩ := ih (k + 1) ρ1 st1 hd' h1
      refine ⟨ρ2, st2, ?_, ?_⟩
      · rw [List.map_cons, forD]
        simp only [e0, ofO_some, e1, bnd_ok]
        rcases hf with rfl | rfl <;> exact e2
      · rw [List.length_cons, show k + (ys.length + 1) = k + 1 + ys.length by omega]; exact h2
  obtain ⟨ρ', st', e, hI⟩ := main xs 0 ρ st1 rfl h0
  exact ⟨.nx, ρ', st', by simp only [evS, hi, bnd_ok, e], h _ _ (by simpa using hI)⟩
/-- .. that may hand back: the turns behind k are not made -/
theorem run_forR {α : Type} {enc : α → D} {tg it : E} {a : S} {xs : List α} {k : Nat} {y : α} (I : Nat → Env → List Ob → Prop) (hi : evI c it ρ st = .ok (xs.map enc) st1) (h0 : I 0 ρ st1) (hk : xs[k]? = some y)
    (hb : ∀ i x ρ st, i < k → xs[i]? = some x → I i ρ st → ∃ ρ1, tgs tg (enc x) ρ = some ρ1 ∧ Run c a ρ1 st fun fl ρ' st' => (fl = .nx ∨ fl = .cnt) ∧ I (i + 1) ρ' st')
    (hr : ∀ ρ st, I k ρ st → ∃ ρ1, tgs tg (enc y) ρ = some ρ1 ∧ Run c a ρ1 st fun fl ρ' st' => ∃ d, fl = .ret d ∧ Q (.ret d) ρ' st') : Run c (.for_ tg it a) ρ st Q := by
  have main : ∀ (m j : Nat) ρ st, j + m = k → I j ρ st → ∃ d ρ' st', forD (fun d ρ s => ofO (tgs tg d ρ) fun ρ1 => evS c a ρ1 s) ((xs.drop j).map enc) ρ st = .ok (.ret d, ρ') st' ∧ Q (.ret d) ρ' st' := by
    intro m
    induction m with
    | zero =>
      intro j ρ st hj hI
      have : j = k := by omega
      subst this
      obtain ⟨ρ0, e0, fl, ρ1, st1, e1, d, rfl, h1⟩ := hr ρ st hI
      have hd : xs.drop j = y :: xs.drop (j + 1) := by
        obtain ⟨h1, h2⟩ := List.getElem?_eq_some_iff.mp hk
        rw [List.drop_eq_getElem_cons h1, h2]
      refine ⟨d, ρ1, st1, ?_, h1⟩
      rw [hd, List.map_cons, forD]
      simp only [e0, ofO_some, e1, bnd_ok]
    | succ m ih =>
      intro j ρ st hj hI
      have hlt : j < xs.length := by have := (List.getElem?_eq_some_iff.mp hk).1; omega
      obtain ⟨ρ0, e0, fl, ρ1, st1, e1, hf, h1⟩ := hb j xs[j] ρ st (by omega) (List.getElem?_eq_getElem hlt) hI
      obtain ⟨d, ρ2, st2, e2, h2⟩ := ih (j + 1) ρ1 st1 (by omega) h1
      refine ⟨d, ρ2, st2, ?_, h2⟩
      rw [List.drop_eq_getElem_cons hlt, List.map_cons, forD]
      simp only [e0, ofO_some, e1, bnd_ok]
      rcases hf with rfl | rfl <;> exact e2
  obtain ⟨d, ρ', st', e, q⟩ := main k 0 ρ st1 (by omega) h0
  exact ⟨.ret d, ρ', st', by simp only [evS, hi, bnd_ok]; simpa using e, q⟩
/-- a body -/
theorem runB_of {fd : Fd} {ds : List D} {r : R D} (hl : ds.length = fd.np) (h : Run c fd.body (ds.map some ++ List.replicate (fd.ns - fd.np) none) st fun fl _ st1 => match fl with | .ret d => leave st.length d st1 = r | .nx => leave st.length .non st1 = r | _ => False) : runB c fd ds st = r := by
  obtain ⟨fl, ρ', st', e, q⟩ := h
  unfold runB
  rw [decide_eq_true hl, chk_true, e, bnd_ok]
  cases fl with
  | ret d => exact q
  | nx => exact q
  | brk => exact q.elim
  | cnt => exact q.elim
theorem runN_of {fd : Fd} {ds : List D} {r : R Ob} (hl : ds.length = fd.np) (h : Run c fd.body (ds.map some ++ List.replicate (fd.ns - fd.np) none) [] fun fl _ st1 => match fl with | .ret d => leaveN d st1 = r | _ => False) : runN c fd ds = r := by
  obtain ⟨fl, ρ', st', e, q⟩ := h
  unfold runN
  rw [decide_eq_true hl, chk_true, e, bnd_ok]
  cases fl with
  | ret d => exact q
  | nx => exact q.elim
  | brk => exact q.elim
  | cnt => exact q.elim
/-! what is walked -/
theorem q_two62 : (2 ^ 62 : Int) = 4611686018427387904 := rfl
theorem q_in62 {n : Nat} (h : (n : Int) < 4611686018427387904) : (-(2 ^ 62 : Int) ≤ (n : Int) ∧ (n : Int) < 2 ^ 62) := by
  rw [q_two62]
  exact ⟨Int.le_trans (by decide) (Int.natCast_nonneg n), h⟩
theorem q_rng0 {e : E} {n : Int} (he : evE c e ρ st = .ok (.int n) st1) : evI c (.rng1 e) ρ st = chk (decide (-(2 ^ 62) ≤ n ∧ n < 2 ^ 62)) (.ok ((List.range n.toNat).map fun (k : Nat) => D.int k) st1) := by
  simp only [evI, he, bnd_ok]
theorem q_rng {e : E} {n : Nat} (he : evE c e ρ st = .ok (.int n) st1) (h : (n : Int) < 4611686018427387904) : evI c (.rng1 e) ρ st = .ok ((List.range n).map fun (k : Nat) => D.int k) st1 := by
  rw [q_rng0 he, decide_eq_true (q_in62 h), chk_true, Int.toNat_natCast]
theorem q_tup {e : E} {l : List D} (he : evE c e ρ st = .ok (.tup l) st1) : evI c (.over e) ρ st = .ok l st1 := by simp only [evI, he, bnd_ok]
theorem q_lst {e : E} {l : List D} (he : evE c e ρ st = .ok (.lst l) st1) : evI c (.over e) ρ st = .ok l st1 := by simp only [evI, he, bnd_ok]
theorem q_rngat {n i x : Nat} (h : (List.range n)[i]? = some x) : x = i ∧ i < n := by
  obtain ⟨h1, h2⟩ := List.getElem?_eq_some_iff.mp h
  rw [List.length_range] at h1
  rw [List.getElem_range] at h2
  exact ⟨h2.symm, h1⟩
/-! comprehensions -/
theorem q_lc {α : Type} {enc : α → D} {own : List Nat} {tg it cnd el : E} {xs : List α} {p : α → Bool} {f : α → D} (hi : evI c it ρ st = .ok (xs.map enc) st1) (hz : xs.length ≤ szL)
    (h : ∀ x ∈ xs, ∃ ρ1, tgs tg (enc x) (wipeE ρ own) = some ρ1 ∧ evT c cnd ρ1 st1 = .ok (p x) st1 ∧ (p x = true → evE c el ρ1 st1 = .ok (f x) st1)) : evE c (.lc own tg it cnd el) ρ st = .ok (.lst ((xs.filter p).map f)) st1 := by
  simp only [evE, hi, bnd_ok]
  rw [lcD_mapF (p := p) (f := f) fun x hx => ?_, bnd_ok]
  · have : ((xs.filter p).map f).length ≤ szL := by rw [List.length_map]; exact Nat.le_trans (List.length_filter_le _ _) hz
    rw [decide_eq_true this, chk_true]
  · obtain ⟨ρ1, h1, h2, h3⟩ := h x hx
    simp only [h1, ofO_some, h2, bnd_ok]
    cases hp : p x with
    | true => simp [h3 hp]
    | false => simp
theorem q_lc1 {α : Type} {enc : α → D} {own : List Nat} {tg it el : E} {xs : List α} {f : α → D} (hi : evI c it ρ st = .ok (xs.map enc) st1) (hz : xs.length ≤ szL)
    (h : ∀ x ∈ xs, ∃ ρ1, tgs tg (enc x) (wipeE ρ own) = some ρ1 ∧ evE c el ρ1 st1 = .ok (f x) st1) : evE c (.lc own tg it .yes el) ρ st = .ok (.lst (xs.map f)) st1 := by
  have := q_lc (c := c) (own := own) (tg := tg) (it := it) (cnd := .yes) (el := el) (p := fun _ => true) (f := f) hi hz fun x hx => by
    obtain ⟨ρ1, h1, h2⟩ := h x hx
    exact ⟨ρ1, h1, by simp only [evT], fun _ => h2⟩
  have hf : xs.filter (fun _ => true) = xs := List.filter_eq_self.mpr fun _ _ => rfl
  rw [this, hf]
theorem q_lcN {α : Type} {enc : α → D} {own : List Nat} {tg it cnd el : E} {xs : List α} {p : α → Bool} {f : α → D} (hi : evI c it ρ st = .ok (xs.map enc) st1) (hz : xs.length ≤ szL)
    (h : ∀ x ∈ xs, ∃ ρ1, tgs tg (enc x) (wipeE ρ own) = some ρ1 ∧ evT c cnd ρ1 st1 = .ok (p x) st1 ∧ (p x = true → evE c el ρ1 st1 = .ok (f x) st1)) : evN c (.lc own tg it cnd el) ρ st = .ok (.lst ((xs.filter p).map f)) st1 := by
  simp only [evN, hi, bnd_ok]
  rw [lcD_mapF (p := p) (f := f) fun x hx => ?_, bnd_ok]
  · have : ((xs.filter p).map f).length ≤ szL := by rw [List.length_map]; exact Nat.le_trans (List.length_filter_le _ _) hz
    rw [decide_eq_true this, chk_true]
  · obtain ⟨ρ1, h1, h2, h3⟩ := h x hx
    simp only [h1, ofO_some, h2, bnd_ok]
    cases hp : p x with
    | true => simp [h3 hp]
    | false => simp
theorem rgD_zero (n : Nat) : rgD 0 (n : Int) = (List.range n).map fun (k : Nat) => D.int k := by
  unfold rgD
  rw [Int.sub_zero, Int.toNat_natCast]
  exact List.map_congr_left fun k _ => by rw [Int.zero_add]
theorem rgOk_zero {n : Nat} (h : n ≤ 1000000) : rgOk 0 (n : Int) = true := by
  have h1 : (-(2 ^ 62 : Int) ≤ 0 ∧ (0 : Int) < 2 ^ 62) := by decide
  have h2 := q_in62 (n := n) (by omega)
  have h3 : ((n : Int) - 0).toNat ≤ szL := by
    rw [Int.sub_zero, Int.toNat_natCast]
    show n ≤ 16777216
    omega
  exact decide_eq_true ⟨h1.1, h1.2, h2.1, h2.2, h3⟩
theorem q_list {e : E} {n : Nat} (he : evE c e ρ st = .ok (.int n) st1) (h : n ≤ 1000000) : evE c (.lstI (.rng1 e)) ρ st = .ok (.lst ((List.range n).map fun (k : Nat) => D.int k)) st1 := by
  have e1 : evR c (.rng1 e) ρ st = .ok (0, (n : Int)) st1 := by simp only [evR, he, bnd_ok]
  have e2 : evE c (.lstI (.rng1 e)) ρ st = bnd (evR c (.rng1 e) ρ st) fun q st1 => chk (rgOk q.1 q.2) (.ok (.lst (rgD q.1 q.2)) st1) := by simp only [evE]
  rw [e2, e1, bnd_ok, rgOk_zero h, chk_true, rgD_zero]
def dcStep {α : Type} (kf vf : α → D) (a : List D × List D) (x : α) : List D × List D := (D.putK (kf x) a.1, D.putV (kf x) (vf x) a.1 a.2)
theorem putK_le (k : D) (ks : List D) : (D.putK k ks).length ≤ ks.length + 1 := by
  unfold D.putK
  split
  · omega
  · simp
theorem dcStep_le {α : Type} {kf vf : α → D} : ∀ (xs : List α) (a : List D × List D), (xs.foldl (dcStep kf vf) a).1.length ≤ a.1.length + xs.length
  | [], a => Nat.le_refl _
  | x :: xs, a => by
    rw [List.foldl_cons]
    refine Nat.le_trans (dcStep_le xs _) ?_
    have := putK_le (kf x) a.1
    rw [List.length_cons]
    show (D.putK (kf x) a.1).length + _ ≤ _
    omega
theorem dcD_map {α : Type} {enc : α → D} {turn : D → List Ob → R (Option (D × D))} {kf vf : α → D} {st : List Ob} : ∀ {xs : List α} {a : List D × List D}, (∀ x ∈ xs, turn (enc x) st = .ok (some (kf x, vf x)) st) → dcD turn (xs.map enc) a st = .ok (xs.foldl (dcStep kf vf) a) st
  | [], a, _ => rfl
  | x :: xs, a, h => by
    rw [List.map_cons, dcD, h x (List.mem_cons_self ..), bnd_ok]
    exact dcD_map (xs := xs) fun y hy => h y (List.mem_cons_of_mem _ hy)
theorem q_dcN {α : Type} {enc : α → D} {own : List Nat} {tk : Bool} {tg it k v : E} {xs : List α} {kf vf : α → D} (hi : evI c it ρ st = .ok (xs.map enc) st1) (hz : xs.length ≤ 1000000)
    (h : ∀ x ∈ xs, ∃ ρ1, tgs tg (enc x) (wipeE ρ own) = some ρ1 ∧ evE c k ρ1 st1 = .ok (kf x) st1 ∧ evE c v ρ1 st1 = .ok (vf x) st1 ∧ D.keyOk tk (kf x) = true) :
    evN c (.dc own tk tg it .yes k v) ρ st = .ok (.dct tk (xs.foldl (dcStep kf vf) ([], [])).1 (xs.foldl (dcStep kf vf) ([], [])).2) st1 := by
  simp only [evN, hi, bnd_ok]
  rw [dcD_map (kf := kf) (vf := vf) fun x hx => ?_, bnd_ok]
  · have := dcStep_le (kf := kf) (vf := vf) xs ([], [])
    have : (xs.foldl (dcStep kf vf) ([], [])).1.length ≤ 1000000 := Nat.le_trans this (by show 0 + _ ≤ _; omega)
    rw [decide_eq_true this, chk_true]
  · obtain ⟨ρ1, h1, h2, h3, h4⟩ := h x hx
    simp only [h1, ofO_some, evT, bnd_ok, h2, h3, h4, chk_true]
theorem q_dc {α : Type} {enc : α → D} {own : List Nat} {tk : Bool} {tg it k v : E} {xs : List α} {kf vf : α → D} (hi : evI c it ρ st = .ok (xs.map enc) st1) (hz : xs.length ≤ 1000000)
    (h : ∀ x ∈ xs, ∃ ρ1, tgs tg (enc x) (wipeE ρ own) = some ρ1 ∧ evE c k ρ1 st1 = .ok (kf x) st1 ∧ evE c v ρ1 st1 = .ok (vf x) st1 ∧ D.keyOk tk (kf x) = true) :
    evE c (.dc own tk tg it .yes k v) ρ st = .ok (.dct tk (xs.foldl (dcStep kf vf) ([], [])).1 (xs.foldl (dcStep kf vf) ([], [])).2) st1 := by
  simp only [evE, hi, bnd_ok]
  rw [dcD_map (kf := kf) (vf := vf) fun x hx => ?_, bnd_ok]
  · have := dcStep_le (kf := kf) (vf := vf) xs ([], [])
    have : (xs.foldl (dcStep kf vf) ([], [])).1.length ≤ 1000000 := Nat.le_trans this (by show 0 + _ ≤ _; omega)
    rw [decide_eq_true this, chk_true]
  · obtain ⟨ρ1, h1, h2, h3, h4⟩ := h x hx
    simp only [h1, ofO_some, evT, bnd_ok, h2, h3, h4, chk_true]
theorem cut_take {α : Type} (l : List α) (k : Nat) : cut l none (some (k : Int)) = l.take k := by
  unfold cut clampIx
  have : ¬ ((k : Int) < 0) := by omega
  simp only [this, if_false, Int.toNat_natCast, List.drop_zero, Nat.sub_zero]
  rw [List.take_eq_take_iff]
  omega
theorem cut_drop {α : Type} (l : List α) (k : Nat) : cut l (some (k : Int)) none = l.drop k := by
  unfold cut clampIx
  have : ¬ ((k : Int) < 0) := by omega
  simp only [this, if_false, Int.toNat_natCast]
  by_cases h : k ≤ l.length
  · rw [Nat.min_eq_left h, List.take_of_length_le (by rw [List.length_drop]; omega)]
  · rw [Nat.min_eq_right (by omega), List.drop_of_length_le (Nat.le_refl _), List.drop_of_length_le (by omega)]
    simp
theorem cut_drop1 {α : Type} (l : List α) (k : Nat) : cut l (some ((k : Int) + 1)) none = l.drop (k + 1) := cut_drop l (k + 1)
theorem o_slT (l : List D) (lo hi : Option Int) : opSl st (.tup l) lo hi = some (.tup (cut l lo hi)) := rfl
theorem ev_make {k : Nat} {es : E} {l : List D} {d : D} {os : List Ob} (h1 : evEs c es ρ st = .ok l st1) (h2 : D.pures l = true) (h3 : c.new k l = .ok d os) : evE c (.make k es) ρ st = .ok d st1 := by
  simp only [evE, h1, bnd_ok, h2, chk_true, h3]
theorem es1 {a : E} {x : D} (h1 : evE c a ρ st = .ok x st1) : evEs c (.cons a .nil) ρ st = .ok [x] st1 := by simp only [evEs, h1, bnd_ok]
theorem es2 {a b : E} {x y : D} (h1 : evE c a ρ st = .ok x st1) (h2 : evE c b ρ st1 = .ok y st2) : evEs c (.cons a (.cons b .nil)) ρ st = .ok [x, y] st2 := by simp only [evEs, h1, h2, bnd_ok]
theorem es3 {a b e : E} {x y z : D} {st3 : List Ob} (h1 : evE c a ρ st = .ok x st1) (h2 : evE c b ρ st1 = .ok y st2) (h3 : evE c e ρ st2 = .ok z st3) : evEs c (.cons a (.cons b (.cons e .nil))) ρ st = .ok [x, y, z] st3 := by simp only [evEs, h1, h2, h3, bnd_ok]
theorem ev_bin {op : Bop} {a b : E} {x y z : D} (h1 : evE c a ρ st = .ok x st1) (h2 : evE c b ρ st1 = .ok y st2) (h3 : opBin op st2 x y = some z) : evE c (.bin op a b) ρ st = .ok z st2 := by simp only [evE, h1, h2, h3, bnd_ok, ofO_some]
theorem ev_blt {b : Blt} {es : E} {l : List D} {z : D} (h1 : evEs c es ρ st = .ok l st1) (h3 : opBlt b st1 l = some z) : evE c (.blt b es) ρ st = .ok z st1 := by simp only [evE, h1, h3, bnd_ok, ofO_some]
theorem ev_var {i : Nat} {d : D} (h : ρ[i]? = some (some d)) : evE c (.var i) ρ st = .ok d st := by simp only [evE, h]
theorem ev_ix {a i : E} {x y z : D} (h1 : evE c a ρ st = .ok x st1) (h2 : evE c i ρ st1 = .ok y st2) (h3 : opIx st2 x y = some z) : evE c (.ix a i) ρ st = .ok z st2 := by simp only [evE, h1, h2, h3, bnd_ok, ofO_some]
theorem ev_cmp {op : Cop} {a b : E} {x y : D} {z : Bool} (h1 : evE c a ρ st = .ok x st1) (h2 : evE c b ρ st1 = .ok y st2) (h3 : opCmp op st2 x y = some z) : evE c (.cmp op a b) ρ st = .ok (.bl z) st2 := by simp only [evE, h1, h2, h3, bnd_ok, ofO_some]
theorem ev_tup {es : E} {l : List D} (h1 : evEs c es ρ st = .ok l st1) (h : l.length ≤ szL) : evE c (.tup es) ρ st = .ok (.tup l) st1 := by simp only [evE, h1, bnd_ok]; rw [decide_eq_true h, chk_true]
theorem ev_lst {es : E} {l : List D} (h1 : evEs c es ρ st = .ok l st1) (h : l.length ≤ szL) : evE c (.lst es) ρ st = .ok (.lst l) st1 := by simp only [evE, h1, bnd_ok]; rw [decide_eq_true h, chk_true]
theorem ev_meth {o : E} {k m : Nat} {es : E} {fs : List Str} {vs l : List D} {d : D} {os : List Ob} (h1 : evE c o ρ st = .ok (.obj k fs vs) st1) (hp : D.pures vs = true) (hm : (fs.all fun g => !decide (g = c.mnm m)) = true) (h2 : evEs c es ρ st1 = .ok l st2) (h3 : D.pures l = true) (h4 : c.fn m (.obj k fs vs :: l) [] = .ok d os) : evE c (.meth o k m es) ρ st = .ok d st2 := by
  simp only [evE, h1, bnd_ok, decide_true, D.pure, hp, hm, Bool.and_self, chk_true, h2, h3, h4]
theorem q_lc2 {α β : Type} {enc : α → D} {enc1 : β → D} {own own1 : List Nat} {tg it tg1 it1 el : E} {xs : List α} {ys : α → List β} {f : α → β → D} (hi : evI c it ρ st = .ok (xs.map enc) st1) (hz : (xs.flatMap fun x => (ys x).map (f x)).length ≤ szL)
    (h : ∀ x ∈ xs, ∃ ρ1, tgs tg (enc x) (wipeE ρ own) = some ρ1 ∧ evI c it1 ρ1 st1 = .ok ((ys x).map enc1) st1 ∧ ∀ y ∈ ys x, ∃ ρ2, tgs tg1 (enc1 y) (wipeE ρ1 own1) = some ρ2 ∧ evE c el ρ2 st1 = .ok (f x y) st1) :
    evE c (.lc2 own own1 tg it .yes tg1 it1 .yes el) ρ st = .ok (.lst (xs.flatMap fun x => (ys x).map (f x))) st1 := by
  simp only [evE, hi, bnd_ok]
  rw [lcD_map (g := fun x => (ys x).map (f x)) fun x hx => ?_, bnd_ok, decide_eq_true hz, chk_true]
  obtain ⟨ρ1, h1, h2, h3⟩ := h x hx
  simp only [h1, ofO_some, evT, bnd_ok, h2]
  refine lcD_map1 fun y hy => ?_
  obtain ⟨ρ2, h4, h5⟩ := h3 y hy
  simp only [h4, ofO_some, bnd_ok, h5]
theorem ev_tcmp {op : Cop} {a b : E} {x y : D} {z : Bool} (h1 : evE c a ρ st = .ok x st1) (h2 : evE c b ρ st1 = .ok y st2) (h3 : opCmp op st2 x y = some z) : evT c (.cmp op a b) ρ st = .ok z st2 := by
  simp only [evT, ev_cmp h1 h2 h3, bnd_ok, t_bl, ofO_some]
theorem ev_fld {a : E} {f : Str} {x z : D} (h1 : evE c a ρ st = .ok x st1) (h2 : fokD c.fok st1 x f = true) (h3 : opFld st1 x f = some z) : evE c (.fld a f) ρ st = .ok z st1 := by
  simp only [evE, h1, bnd_ok, h2, chk_true, h3, ofO_some]
theorem es4 {a b e g : E} {x y z w : D} {st3 st4 : List Ob} (h1 : evE c a ρ st = .ok x st1) (h2 : evE c b ρ st1 = .ok y st2) (h3 : evE c e ρ st2 = .ok z st3) (h4 : evE c g ρ st3 = .ok w st4) : evEs c (.cons a (.cons b (.cons e (.cons g .nil)))) ρ st = .ok [x, y, z, w] st4 := by simp only [evEs, h1, h2, h3, h4, bnd_ok]
theorem o_tuple_ref {n : Nat} {l : List D} (h : st[n]? = some (.lst l)) : opBlt .tuple st [.ref n] = some (.tup l) := by simp [opBlt, seqOf, h]
theorem ixN_nat {n k : Nat} (h : k < n) : ixN n (k : Int) = some k := by simp [ixN, h]
theorem o_setR {n k : Nat} {l : List D} {v : D} (h : st[n]? = some (.lst l)) (hk : k < l.length) : opSet st (.ref n) (.int k) v = some (st.set n (.lst (l.set k v))) := by
  simp [opSet, h, ixN_nat hk]
theorem g_add (a b : Int) : opAug .add (.int a) (.int b) = some (.int (a + b)) := rfl
theorem flat_rep {x : D} : ∀ n : Nat, (List.replicate n [x]).flatten = List.replicate n x
  | 0 => rfl
  | n + 1 => by rw [List.replicate_succ, List.flatten_cons, flat_rep n, List.replicate_succ]; rfl
theorem rep_if {n : Int} {l : List D} (h : n < 2 ^ 62 ∧ -(2 ^ 62) ≤ n ∧ l.length * n.toNat ≤ szL) : opLst .mul st l (.int n) = some (.lst (List.replicate n.toNat l).flatten) := if_pos h
theorem rep_ok {n : Nat} {x : D} (hn : n ≤ 1000000) : ((n : Int) < 2 ^ 62 ∧ -(2 ^ 62) ≤ (n : Int) ∧ [x].length * (n : Int).toNat ≤ szL) := by
  have h3 := q_in62 (n := n) (by omega)
  exact ⟨h3.2, h3.1, by
    rw [Int.toNat_natCast]
    show 1 * n ≤ 16777216
    omega⟩
theorem repN {n : Nat} {x : D} (hn : n ≤ 1000000) : opLstN .mul st (.lst [x]) (.int n) = some (.lst (List.replicate n x)) := by
  have h := rep_if (st := st) (rep_ok (x := x) hn)
  rw [Int.toNat_natCast, flat_rep] at h
  unfold opLstN
  rw [show lstOf st (.lst [x]) = some [x] from rfl, Option.bind_some, h]
/-- [x] * n, to be changed -/
theorem q_repN {e : E} {x : D} {a : E} {n : Nat} (ha : evE c a ρ st = .ok x st1) (he : evE c e ρ st1 = .ok (.int n) st2) (hn : n ≤ 1000000) : evE c (.mk (.bin .mul (.lst (.cons a .nil)) e)) ρ st = .ok (.ref st2.length) (st2 ++ [.lst (List.replicate n x)]) := by
  have h2 : evE c (.lst (.cons a .nil)) ρ st = .ok (.lst [x]) st1 := ev_lst (es1 ha) (by show 1 ≤ 16777216; omega)
  have h3 : evN c (.bin .mul (.lst (.cons a .nil)) e) ρ st = .ok (.lst (List.replicate n x)) st2 := by
    have h4 : evN c (.bin .mul (.lst (.cons a .nil)) e) ρ st = bnd (evE c (.lst (.cons a .nil)) ρ st) fun x st1 => bnd (evE c e ρ st1) fun y st2 => ofO (opLstN .mul st2 x y) fun z => .ok z st2 := by simp only [evN]
    rw [h4, h2, bnd_ok, he, bnd_ok, repN hn, ofO_some]
  have h5 : evE c (.mk (.bin .mul (.lst (.cons a .nil)) e)) ρ st = bnd (evN c (.bin .mul (.lst (.cons a .nil)) e) ρ st) fun o st1 => .ok (.ref st1.length) (st1 ++ [o]) := by simp only [evE]
  rw [h5, h3, bnd_ok]
theorem intsOf_map : ∀ l : List Int, intsOf (l.map .int) = some l
  | [] => rfl
  | x :: l => by rw [List.map_cons, intsOf, intsOf_map l]; rfl
theorem o_sumL (l : List Int) : opBlt .sum st [.lst (l.map .int)] = some (.int l.sum) := by
  show (((seqOf st (.lst (l.map .int))).bind intsOf).map fun l => D.int l.sum) = _
  rw [show seqOf st (.lst (l.map .int)) = some (l.map .int) from rfl, Option.bind_some, intsOf_map]; rfl
theorem o_sumT (l : List Int) : opBlt .sum st [.tup (l.map .int)] = some (.int l.sum) := by
  show (((seqOf st (.tup (l.map .int))).bind intsOf).map fun l => D.int l.sum) = _
  rw [show seqOf st (.tup (l.map .int)) = some (l.map .int) from rfl, Option.bind_some, intsOf_map]; rfl
theorem ok_right {i j : Int} (h : j.natAbs < 2 ^ 64) : okMul i j = true := by
  unfold okMul
  rw [decide_eq_true h, Bool.or_true, Bool.true_or]
theorem o_mulR {i j : Int} (h : j.natAbs < 2 ^ 64) : opBin .mul st (.int i) (.int j) = some (.int (i * j)) := o_mul (ok_right h)
theorem pow_small {v : Int} {t : Nat} (hv : v.natAbs ≤ 100) (ht : t ≤ 8) : (v ^ t).natAbs < 2 ^ 64 := by
  rw [Int.natAbs_pow]
  refine Nat.lt_of_le_of_lt (Nat.pow_le_pow_left hv t) (Nat.lt_of_le_of_lt (Nat.pow_le_pow_right (by decide) ht) (by decide))
end
end Ev

set_option linter.all false
set_option maxRecDepth 100000
namespace Lk68
open PySem Ev
/-- is_count -/
def n0 : List Str := (["value"] : List Str)
def b_is_count : S :=
  (.ret (.andE (.isi (.var 0) .int) (.andE (.notE (.isi (.var 0) .bool)) (.cmp .ge (.var 0) (.cint 0)))))
abbrev i_is_count : Nat := 0
abbrev fd_is_count : Fd := ⟨1, 1, b_is_count, "is_count"⟩
/-- Web.__init__ -/
def n1 : List Str := (["self", "many", "pairs", "k"] : List Str)
def b_Web___init__ : S :=
  (.seq (.asg (.var 2) (.blt .tuple (.cons (.var 2) .nil))) (.seq (.ite (.notE (.call 0 false (.cons (.var 1) .nil))) .stop .skip) (.seq (.for_ (.var 3) (.rng1 (.blt .len (.cons (.var 2) .nil))) (.ite (.notE (.call 4 false (.cons (.ix (.var 2) (.var 3)) (.cons (.var 1) .nil)))) .stop .skip)) (.seq (.asg (.fld (.var 0) "many") (.var 1)) (.asg (.fld (.var 0) "pairs") (.var 2))))))
abbrev i_Web___init__ : Nat := 1
abbrev fd_Web___init__ : Fd := ⟨3, 4, b_Web___init__, "__init__"⟩
/-- Web.__eq__ -/
def n2 : List Str := (["self", "other"] : List Str)
def b_Web___eq__ : S :=
  .stop
abbrev i_Web___eq__ : Nat := 2
abbrev fd_Web___eq__ : Fd := ⟨2, 2, b_Web___eq__, "__eq__"⟩
/-- Web.size -/
def n3 : List Str := (["self"] : List Str)
def b_Web_size : S :=
  (.ret (.blt .len (.cons (.fld (.var 0) "pairs") .nil)))
abbrev i_Web_size : Nat := 3
abbrev fd_Web_size : Fd := ⟨1, 1, b_Web_size, "size"⟩
/-- is_pair -/
def n4 : List Str := (["value", "many"] : List Str)
def b_is_pair : S :=
  (.seq (.ite (.orE (.notE (.isi (.var 0) .tuple)) (.orE (.cmp .ne (.blt .len (.cons (.var 0) .nil)) (.cint 2)) (.orE (.notE (.call 0 false (.cons (.ix (.var 0) (.cint 0)) .nil))) (.notE (.call 0 false (.cons (.ix (.var 0) (.cint 1)) .nil)))))) (.ret (.cbl false)) .skip) (.ret (.andE (.cmp .lt (.ix (.var 0) (.cint 0)) (.var 1)) (.cmp .lt (.ix (.var 0) (.cint 1)) (.var 1)))))
abbrev i_is_pair : Nat := 4
abbrev fd_is_pair : Fd := ⟨2, 2, b_is_pair, "is_pair"⟩
/-- names_of -/
def n5 : List Str := (["many", "pairs", "names", "a", "b", "low", "high", "one"] : List Str)
def b_names_of : S :=
  (.seq (.asg (.var 2) (.lstI (.rng1 (.var 0)))) (.seq (.for_ (.tup (.cons (.var 3) (.cons (.var 4) .nil))) (.over (.var 1)) (.ite (.cmp .ne (.ix (.var 2) (.var 3)) (.ix (.var 2) (.var 4))) (.seq (.asg (.tup (.cons (.var 5) (.cons (.var 6) .nil))) (.tup (.cons (.blt .min (.cons (.ix (.var 2) (.var 3)) (.cons (.ix (.var 2) (.var 4)) .nil))) (.cons (.blt .max (.cons (.ix (.var 2) (.var 3)) (.cons (.ix (.var 2) (.var 4)) .nil))) .nil)))) (.asg (.var 2) (.lc [7] (.var 7) (.over (.var 2)) .yes (.ifE (.cmp .eq (.var 7) (.var 6)) (.var 5) (.var 7))))) .skip)) (.ret (.var 2))))
abbrev i_names_of : Nat := 5
abbrev fd_names_of : Fd := ⟨2, 8, b_names_of, "names_of"⟩
/-- part_number -/
def n6 : List Str := (["many", "pairs", "one"] : List Str)
def b_part_number : S :=
  (.ret (.blt .len (.cons (.dc [2] false (.var 2) (.over (.call 5 false (.cons (.var 0) (.cons (.var 1) .nil)))) .yes (.var 2) (.cbl true)) .nil)))
abbrev i_part_number : Nat := 6
abbrev fd_part_number : Fd := ⟨2, 3, b_part_number, "part_number"⟩
/-- rank_of -/
def n7 : List Str := (["web", "some", "k"] : List Str)
def b_rank_of : S :=
  (.ret (.bin .sub (.fld (.var 0) "many") (.call 6 false (.cons (.fld (.var 0) "many") (.cons (.lc [2] (.var 2) (.over (.var 1)) .yes (.ix (.fld (.var 0) "pairs") (.var 2))) .nil)))))
abbrev i_rank_of : Nat := 7
abbrev fd_rank_of : Fd := ⟨2, 3, b_rank_of, "rank_of"⟩
/-- web_rank -/
def n8 : List Str := (["web"] : List Str)
def b_web_rank : S :=
  (.ret (.call 7 false (.cons (.var 0) (.cons (.lstI (.rng1 (.meth (.var 0) 0 3 .nil))) .nil))))
abbrev i_web_rank : Nat := 8
abbrev fd_web_rank : Fd := ⟨1, 1, b_web_rank, "web_rank"⟩
/-- without -/
def n9 : List Str := (["web", "k"] : List Str)
def b_without : S :=
  (.ret (.make 0 (.cons (.fld (.var 0) "many") (.cons (.bin .add (.sl (.fld (.var 0) "pairs") .nil (.cons (.var 1) .nil)) (.sl (.fld (.var 0) "pairs") (.cons (.bin .add (.var 1) (.cint 1)) .nil) .nil)) .nil))))
abbrev i_without : Nat := 9
abbrev fd_without : Fd := ⟨2, 2, b_without, "without"⟩
/-- joined -/
def n10 : List Str := (["web", "k", "a", "b", "low", "high", "renamed", "rest", "one", "c", "d"] : List Str)
def b_joined : S :=
  (.seq (.asg (.tup (.cons (.var 2) (.cons (.var 3) .nil))) (.ix (.fld (.var 0) "pairs") (.var 1))) (.seq (.asg (.tup (.cons (.var 4) (.cons (.var 5) .nil))) (.tup (.cons (.blt .min (.cons (.var 2) (.cons (.var 3) .nil))) (.cons (.blt .max (.cons (.var 2) (.cons (.var 3) .nil))) .nil)))) (.seq (.ite (.cmp .eq (.var 4) (.var 5)) (.ret (.call 9 false (.cons (.var 0) (.cons (.var 1) .nil)))) .skip) (.seq (.asg (.var 6) (.lc [8] (.var 8) (.rng1 (.fld (.var 0) "many")) .yes (.ifE (.cmp .eq (.var 8) (.var 5)) (.var 4) (.bin .sub (.var 8) (.blt .int (.cons (.cmp .gt (.var 8) (.var 5)) .nil)))))) (.seq (.asg (.var 7) (.bin .add (.sl (.fld (.var 0) "pairs") .nil (.cons (.var 1) .nil)) (.sl (.fld (.var 0) "pairs") (.cons (.bin .add (.var 1) (.cint 1)) .nil) .nil))) (.ret (.make 0 (.cons (.bin .sub (.fld (.var 0) "many") (.cint 1)) (.cons (.lc [9, 10] (.tup (.cons (.var 9) (.cons (.var 10) .nil))) (.over (.var 7)) .yes (.tup (.cons (.ix (.var 6) (.var 9)) (.cons (.ix (.var 6) (.var 10)) .nil)))) .nil)))))))))
abbrev i_joined : Nat := 10
abbrev fd_joined : Fd := ⟨2, 11, b_joined, "joined"⟩
/-- is_loop -/
def n11 : List Str := (["web", "k"] : List Str)
def b_is_loop : S :=
  (.ret (.cmp .eq (.ix (.ix (.fld (.var 0) "pairs") (.var 1)) (.cint 0)) (.ix (.ix (.fld (.var 0) "pairs") (.var 1)) (.cint 1))))
abbrev i_is_loop : Nat := 11
abbrev fd_is_loop : Fd := ⟨2, 2, b_is_loop, "is_loop"⟩
/-- is_bridge -/
def n12 : List Str := (["web", "k"] : List Str)
def b_is_bridge : S :=
  (.ret (.cmp .gt (.call 6 false (.cons (.fld (.var 0) "many") (.cons (.fld (.call 9 false (.cons (.var 0) (.cons (.var 1) .nil))) "pairs") .nil))) (.call 6 false (.cons (.fld (.var 0) "many") (.cons (.fld (.var 0) "pairs") .nil)))))
abbrev i_is_bridge : Nat := 12
abbrev fd_is_bridge : Fd := ⟨2, 2, b_is_bridge, "is_bridge"⟩
/-- all_pair_sets -/
def n13 : List Str := (["web", "rows", "k", "row", "size"] : List Str)
def b_all_pair_sets : S :=
  (.seq (.asg (.var 1) (.lst (.cons (.tup .nil) .nil))) (.seq (.for_ (.var 2) (.rng1 (.meth (.var 0) 0 3 .nil)) (.asg (.var 1) (.bin .add (.var 1) (.lc [3] (.var 3) (.over (.var 1)) .yes (.bin .add (.var 3) (.tup (.cons (.var 2) .nil))))))) (.ret (.lc [4, 3] (.tup (.cons (.var 4) (.cons (.var 3) .nil))) (.over (.blt .sorted (.cons (.lc [3] (.var 3) (.over (.var 1)) .yes (.tup (.cons (.blt .len (.cons (.var 3) .nil)) (.cons (.var 3) .nil)))) .nil))) .yes (.var 3)))))
abbrev i_all_pair_sets : Nat := 13
abbrev fd_all_pair_sets : Fd := ⟨1, 5, b_all_pair_sets, "all_pair_sets"⟩
/-- two_of -/
def n14 : List Str := (["table", "key"] : List Str)
def b_two_of : S :=
  (.ret (.blt .tuple (.cons (.lc [1] (.var 1) (.over (.blt .sorted (.cons (.blt .list (.cons (.var 0) .nil)) .nil))) (.cmp .ne (.ix (.var 0) (.var 1)) (.cint 0)) (.tup (.cons (.ix (.var 1) (.cint 0)) (.cons (.ix (.var 1) (.cint 1)) (.cons (.ix (.var 0) (.var 1)) .nil))))) .nil)))
abbrev i_two_of : Nat := 14
abbrev fd_two_of : Fd := ⟨1, 2, b_two_of, "two_of"⟩
/-- table_of -/
def n15 : List Str := (["poly", "i", "j", "number"] : List Str)
def b_table_of : S :=
  (.ret (.mk (.dc [1, 2, 3] true (.tup (.cons (.var 1) (.cons (.var 2) (.cons (.var 3) .nil)))) (.over (.var 0)) .yes (.tup (.cons (.var 1) (.cons (.var 2) .nil))) (.var 3))))
abbrev i_table_of : Nat := 15
abbrev fd_table_of : Fd := ⟨1, 4, b_table_of, "table_of"⟩
/-- two_plus -/
def n16 : List Str := (["first", "second", "table", "i", "j", "number"] : List Str)
def b_two_plus : S :=
  (.seq (.asg (.var 2) (.mk (.call 15 false (.cons (.var 0) .nil)))) (.seq (.for_ (.tup (.cons (.var 3) (.cons (.var 4) (.cons (.var 5) .nil)))) (.over (.var 1)) (.asg (.ix (.var 2) (.tup (.cons (.var 3) (.cons (.var 4) .nil)))) (.bin .add (.bm .get (.var 2) (.cons (.tup (.cons (.var 3) (.cons (.var 4) .nil))) (.cons (.cint 0) .nil))) (.var 5)))) (.seq (.frz 2) (.ret (.call 14 false (.cons (.var 2) .nil))))))
abbrev i_two_plus : Nat := 16
abbrev fd_two_plus : Fd := ⟨2, 6, b_two_plus, "two_plus"⟩
/-- tutte -/
def n17 : List Str := (["web", "bridges", "loops", "k"] : List Str)
def b_tutte : S :=
  (.seq (.asg (.tup (.cons (.var 1) (.cons (.var 2) .nil))) (.tup (.cons (.cint 0) (.cons (.cint 0) .nil)))) (.seq (.for_ (.var 3) (.rng1 (.meth (.var 0) 0 3 .nil)) (.ite (.call 11 false (.cons (.var 0) (.cons (.var 3) .nil))) (.aug 2 .add (.cint 1)) (.ite (.call 12 false (.cons (.var 0) (.cons (.var 3) .nil))) (.aug 1 .add (.cint 1)) (.ret (.call 16 false (.cons (.call 17 false (.cons (.call 9 false (.cons (.var 0) (.cons (.var 3) .nil))) .nil)) (.cons (.call 17 false (.cons (.call 10 false (.cons (.var 0) (.cons (.var 3) .nil))) .nil)) .nil))))))) (.ret (.tup (.cons (.tup (.cons (.var 1) (.cons (.var 2) (.cons (.cint 1) .nil)))) .nil)))))
abbrev i_tutte : Nat := 17
abbrev fd_tutte : Fd := ⟨1, 4, b_tutte, "tutte"⟩
/-- taken -/
def n18 : List Str := (["value", "times", "found", "k"] : List Str)
def b_taken : S :=
  (.seq (.asg (.var 2) (.cint 1)) (.seq (.for_ (.var 3) (.rng1 (.var 1)) (.aug 2 .mul (.var 0))) (.ret (.var 2))))
abbrev i_taken : Nat := 18
abbrev fd_taken : Fd := ⟨2, 4, b_taken, "taken"⟩
/-- all_rows -/
def n19 : List Str := (["many", "colours", "rows", "k", "row", "one"] : List Str)
def b_all_rows : S :=
  (.seq (.asg (.var 2) (.lst (.cons (.tup .nil) .nil))) (.seq (.for_ (.var 3) (.rng1 (.var 0)) (.asg (.var 2) (.lc2 [4, 5] [5] (.var 4) (.over (.var 2)) .yes (.var 5) (.rng1 (.var 1)) .yes (.bin .add (.var 4) (.tup (.cons (.var 5) .nil)))))) (.ret (.var 2))))
abbrev i_all_rows : Nat := 19
abbrev fd_all_rows : Fd := ⟨2, 6, b_all_rows, "all_rows"⟩
/-- like_pairs -/
def n20 : List Str := (["web", "row", "a", "b"] : List Str)
def b_like_pairs : S :=
  (.ret (.blt .len (.cons (.lc [2, 3] (.tup (.cons (.var 2) (.cons (.var 3) .nil))) (.over (.fld (.var 0) "pairs")) (.cmp .eq (.ix (.var 1) (.var 2)) (.ix (.var 1) (.var 3))) (.cint 1)) .nil)))
abbrev i_like_pairs : Nat := 20
abbrev fd_like_pairs : Fd := ⟨2, 4, b_like_pairs, "like_pairs"⟩
/-- like_counts -/
def n21 : List Str := (["web", "colours", "found", "row"] : List Str)
def b_like_counts : S :=
  (.seq (.asg (.var 2) (.mk (.bin .mul (.lst (.cons (.cint 0) .nil)) (.bin .add (.meth (.var 0) 0 3 .nil) (.cint 1))))) (.seq (.for_ (.var 3) (.over (.call 19 false (.cons (.fld (.var 0) "many") (.cons (.var 1) .nil)))) (.augS (.var 2) (.call 20 false (.cons (.var 0) (.cons (.var 3) .nil))) .add (.cint 1))) (.ret (.blt .tuple (.cons (.var 2) .nil)))))
abbrev i_like_counts : Nat := 21
abbrev fd_like_counts : Fd := ⟨2, 4, b_like_counts, "like_counts"⟩
/-- spin_sum -/
def n22 : List Str := (["web", "colours", "like", "unlike", "counts", "k"] : List Str)
def b_spin_sum : S :=
  (.seq (.asg (.var 4) (.call 21 false (.cons (.var 0) (.cons (.var 1) .nil)))) (.ret (.blt .sum (.cons (.lc [5] (.var 5) (.rng1 (.blt .len (.cons (.var 4) .nil))) .yes (.bin .mul (.bin .mul (.ix (.var 4) (.var 5)) (.call 18 false (.cons (.var 2) (.cons (.var 5) .nil)))) (.call 18 false (.cons (.var 3) (.cons (.bin .sub (.meth (.var 0) 0 3 .nil) (.var 5)) .nil))))) .nil))))
abbrev i_spin_sum : Nat := 22
abbrev fd_spin_sum : Fd := ⟨4, 6, b_spin_sum, "spin_sum"⟩
/-- spin_sum_by_sets -/
def n23 : List Str := (["web", "colours", "like", "unlike", "total", "some", "parts", "k"] : List Str)
def b_spin_sum_by_sets : S :=
  (.seq (.asg (.var 4) (.cint 0)) (.seq (.for_ (.var 5) (.over (.call 13 false (.cons (.var 0) .nil))) (.seq (.asg (.var 6) (.call 6 false (.cons (.fld (.var 0) "many") (.cons (.lc [7] (.var 7) (.over (.var 5)) .yes (.ix (.fld (.var 0) "pairs") (.var 7))) .nil)))) (.aug 4 .add (.bin .mul (.bin .mul (.call 18 false (.cons (.var 1) (.cons (.var 6) .nil))) (.call 18 false (.cons (.bin .sub (.var 2) (.var 3)) (.cons (.blt .len (.cons (.var 5) .nil)) .nil)))) (.call 18 false (.cons (.var 3) (.cons (.bin .sub (.meth (.var 0) 0 3 .nil) (.blt .len (.cons (.var 5) .nil))) .nil))))))) (.ret (.var 4))))
abbrev i_spin_sum_by_sets : Nat := 23
abbrev fd_spin_sum_by_sets : Fd := ⟨4, 8, b_spin_sum_by_sets, "spin_sum_by_sets"⟩
/-- potts_by_tutte -/
def n24 : List Str := (["web", "colours", "more", "rank", "total", "i", "j", "number"] : List Str)
def b_potts_by_tutte : S :=
  (.seq (.asg (.var 3) (.call 8 false (.cons (.var 0) .nil))) (.seq (.asg (.var 4) (.cint 0)) (.seq (.for_ (.tup (.cons (.var 5) (.cons (.var 6) (.cons (.var 7) .nil)))) (.over (.call 17 false (.cons (.var 0) .nil))) (.aug 4 .add (.bin .mul (.bin .mul (.bin .mul (.var 7) (.call 18 false (.cons (.bin .add (.var 1) (.var 2)) (.cons (.var 5) .nil)))) (.call 18 false (.cons (.var 2) (.cons (.bin .sub (.var 3) (.var 5)) .nil)))) (.call 18 false (.cons (.bin .add (.cint 1) (.var 2)) (.cons (.var 6) .nil)))))) (.ret (.bin .mul (.call 18 false (.cons (.var 1) (.cons (.call 6 false (.cons (.fld (.var 0) "many") (.cons (.fld (.var 0) "pairs") .nil))) .nil))) (.var 4))))))
abbrev i_potts_by_tutte : Nat := 24
abbrev fd_potts_by_tutte : Fd := ⟨3, 8, b_potts_by_tutte, "potts_by_tutte"⟩
/-- even_pair_sets -/
def n25 : List Str := (["web", "found", "some", "ends", "k", "one"] : List Str)
def b_even_pair_sets : S :=
  (.seq (.asg (.var 1) (.mk (.lst .nil))) (.seq (.for_ (.var 2) (.over (.call 13 false (.cons (.var 0) .nil))) (.seq (.asg (.var 3) (.mk (.bin .mul (.lst (.cons (.cint 0) .nil)) (.fld (.var 0) "many")))) (.seq (.for_ (.var 4) (.over (.var 2)) (.seq (.augS (.var 3) (.ix (.ix (.fld (.var 0) "pairs") (.var 4)) (.cint 0)) .add (.cint 1)) (.augS (.var 3) (.ix (.ix (.fld (.var 0) "pairs") (.var 4)) (.cint 1)) .add (.cint 1)))) (.seq (.frz 3) (.ite (.blt .all (.cons (.lc [5] (.var 5) (.over (.var 3)) .yes (.cmp .eq (.bin .band (.var 5) (.cint 1)) (.cint 0))) .nil)) (.ex (.bm .append (.var 1) (.cons (.var 2) .nil))) .skip))))) (.ret (.var 1))))
abbrev i_even_pair_sets : Nat := 25
abbrev fd_even_pair_sets : Fd := ⟨1, 6, b_even_pair_sets, "even_pair_sets"⟩
/-- two_by_even_sets -/
def n26 : List Str := (["web", "like", "unlike", "total", "some"] : List Str)
def b_two_by_even_sets : S :=
  (.seq (.asg (.var 3) (.cint 0)) (.seq (.for_ (.var 4) (.over (.call 25 false (.cons (.var 0) .nil))) (.aug 3 .add (.bin .mul (.call 18 false (.cons (.bin .add (.var 1) (.var 2)) (.cons (.bin .sub (.meth (.var 0) 0 3 .nil) (.blt .len (.cons (.var 4) .nil))) .nil))) (.call 18 false (.cons (.bin .sub (.var 1) (.var 2)) (.cons (.blt .len (.cons (.var 4) .nil)) .nil)))))) (.ret (.tup (.cons (.bin .mul (.var 3) (.call 18 false (.cons (.cint 2) (.cons (.fld (.var 0) "many") .nil)))) (.cons (.meth (.var 0) 0 3 .nil) .nil))))))
abbrev i_two_by_even_sets : Nat := 26
abbrev fd_two_by_even_sets : Fd := ⟨3, 5, b_two_by_even_sets, "two_by_even_sets"⟩
/-- best_rows -/
def n27 : List Str := (["web", "colours", "best", "row", "told"] : List Str)
def b_best_rows : S :=
  (.seq (.asg (.var 2) .cnon) (.seq (.for_ (.var 3) (.over (.call 19 false (.cons (.fld (.var 0) "many") (.cons (.var 1) .nil)))) (.seq (.asg (.var 4) (.call 20 false (.cons (.var 0) (.cons (.var 3) .nil)))) (.ite (.orE (.isN false (.var 2)) (.cmp .lt (.var 4) (.ix (.var 2) (.cint 0)))) (.asg (.var 2) (.tup (.cons (.var 4) (.cons (.var 3) .nil)))) .skip))) (.ret (.var 2))))
abbrev i_best_rows : Nat := 27
abbrev fd_best_rows : Fd := ⟨2, 5, b_best_rows, "best_rows"⟩
/-- greatest_cut -/
def n28 : List Str := (["web", "told"] : List Str)
def b_greatest_cut : S :=
  (.seq (.asg (.var 1) (.call 27 false (.cons (.var 0) (.cons (.cint 2) .nil)))) (.ret (.tup (.cons (.bin .sub (.meth (.var 0) 0 3 .nil) (.ix (.var 1) (.cint 0))) (.cons (.ix (.var 1) (.cint 1)) .nil)))))
abbrev i_greatest_cut : Nat := 28
abbrev fd_greatest_cut : Fd := ⟨1, 2, b_greatest_cut, "greatest_cut"⟩
/-- is_cut_row -/
def n29 : List Str := (["web", "number", "value", "one"] : List Str)
def b_is_cut_row : S :=
  (.seq (.ite (.orE (.notE (.isi (.var 2) .tuple)) (.cmp .ne (.blt .len (.cons (.var 2) .nil)) (.fld (.var 0) "many"))) (.ret (.cbl false)) .skip) (.seq (.ite (.notE (.blt .all (.cons (.lc [3] (.var 3) (.over (.var 2)) .yes (.andE (.isi (.var 3) .int) (.andE (.notE (.isi (.var 3) .bool)) (.cmp .isin (.var 3) (.tup (.cons (.cint 0) (.cons (.cint 1) .nil))))))) .nil))) (.ret (.cbl false)) .skip) (.ret (.cmp .ge (.bin .sub (.meth (.var 0) 0 3 .nil) (.call 20 false (.cons (.var 0) (.cons (.var 2) .nil)))) (.var 1)))))
abbrev i_is_cut_row : Nat := 29
abbrev fd_is_cut_row : Fd := ⟨3, 4, b_is_cut_row, "is_cut_row"⟩
/-- mean_unlike -/
def n30 : List Str := (["web", "colours", "counts", "k"] : List Str)
def b_mean_unlike : S :=
  (.seq (.asg (.var 2) (.call 21 false (.cons (.var 0) (.cons (.var 1) .nil)))) (.ret (.tup (.cons (.blt .sum (.cons (.lc [3] (.var 3) (.rng1 (.blt .len (.cons (.var 2) .nil))) .yes (.bin .mul (.ix (.var 2) (.var 3)) (.bin .sub (.meth (.var 0) 0 3 .nil) (.var 3)))) .nil)) (.cons (.blt .sum (.cons (.var 2) .nil)) .nil)))))
abbrev i_mean_unlike : Nat := 30
abbrev fd_mean_unlike : Fd := ⟨2, 4, b_mean_unlike, "mean_unlike"⟩
/-- _law_next -/
def n31 : List Str := (["tape", "many", "rest", "cell"] : List Str)
def b__law_next : S :=
  (.seq (.asg (.var 2) (.ix (.var 0) (.cint 2))) (.seq (.ite (.cmp .eq (.var 2) (.cint 0)) (.seq (.asg (.var 3) (.cint 0)) (.seq (.ite (.cmp .lt (.ix (.var 0) (.cint 1)) (.blt .len (.cons (.ix (.var 0) (.cint 0)) .nil))) (.seq (.asg (.var 3) (.blt .abs (.cons (.blt .int (.cons (.ix (.ix (.var 0) (.cint 0)) (.ix (.var 0) (.cint 1))) .nil)) .nil))) (.asg (.ix (.var 0) (.cint 1)) (.bin .add (.ix (.var 0) (.cint 1)) (.cint 1)))) .skip) (.seq (.asg (.var 2) (.var 3)) (.ite (.cmp .lt (.var 3) (.bin .pow (.cint 10) (.cint 18))) (.seq (.asg (.ix (.var 0) (.cint 3)) (.bin .mod (.blt .int (.cons (.bin .add (.bin .add (.bin .mul (.ix (.var 0) (.cint 3)) (.cint 69621)) (.bin .mul (.var 3) (.cint 40692))) (.cint 17)) .nil)) (.cint 2147483647))) (.ret (.bin .mod (.bin .mod (.blt .int (.cons (.bin .mul (.blt .int (.cons (.bin .fdv (.ix (.var 0) (.cint 3)) (.cint 5)) .nil)) (.cint 48271)) .nil)) (.cint 2147483647)) (.var 1)))) .skip)))) .skip) (.seq (.asg (.ix (.var 0) (.cint 2)) (.bin .fdv (.var 2) (.var 1))) (.ret (.bin .mod (.blt .int (.cons (.var 2) .nil)) (.var 1))))))
abbrev i__law_next : Nat := 31
abbrev fd__law_next : Fd := ⟨2, 4, b__law_next, "_law_next"⟩
/-- _law_same -/
def n32 : List Str := (["told", "due", "k"] : List Str)
def b__law_same : S :=
  (.seq (.ite (.isN false (.var 1)) (.ret (.isN false (.var 0))) .skip) (.seq (.ite (.isi (.var 1) .bool) (.ret (.andE (.isi (.var 0) .bool) (.cmp .eq (.var 0) (.var 1)))) .skip) (.seq (.ite (.isi (.var 1) .int) (.ret (.andE (.isi (.var 0) .int) (.andE (.notE (.isi (.var 0) .bool)) (.cmp .eq (.var 0) (.var 1))))) .skip) (.seq (.ite (.isi (.var 1) .str) (.ret (.andE (.isi (.var 0) .str) (.cmp .eq (.var 0) (.var 1)))) .skip) (.seq (.ite (.orE (.andE (.isi (.var 1) .list) (.notE (.isi (.var 0) .list))) (.andE (.isi (.var 1) .tuple) (.notE (.isi (.var 0) .tuple)))) (.ret (.cbl false)) .skip) (.ret (.andE (.cmp .eq (.blt .len (.cons (.var 0) .nil)) (.blt .len (.cons (.var 1) .nil))) (.cmp .eq (.lc [2] (.var 2) (.rng1 (.blt .len (.cons (.var 1) .nil))) (.notE (.call 32 false (.cons (.ix (.var 0) (.var 2)) (.cons (.ix (.var 1) (.var 2)) .nil)))) (.cint 1)) (.lst .nil)))))))))
abbrev i__law_same : Nat := 32
abbrev fd__law_same : Fd := ⟨2, 3, b__law_same, "_law_same"⟩
/-- _law_web -/
def n33 : List Str := (["tape", "most", "pairs", "many", "k"] : List Str)
def b__law_web : S :=
  (.seq (.asg (.var 3) (.bin .add (.cint 1) (.call 31 true (.cons (.var 0) (.cons (.var 1) .nil))))) (.ret (.tup (.cons (.var 3) (.cons (.blt .tuple (.cons (.lc [4] (.var 4) (.rng1 (.call 31 true (.cons (.var 0) (.cons (.bin .add (.var 2) (.cint 1)) .nil)))) .yes (.tup (.cons (.call 31 true (.cons (.var 0) (.cons (.var 3) .nil))) (.cons (.call 31 true (.cons (.var 0) (.cons (.var 3) .nil))) .nil)))) .nil)) .nil)))))
abbrev i__law_web : Nat := 33
abbrev fd__law_web : Fd := ⟨3, 5, b__law_web, "_law_web"⟩
/-- _law_names -/
def n34 : List Str := (["many", "pairs"] : List Str)
def b__law_names : S :=
  .stop
abbrev i__law_names : Nat := 34
abbrev fd__law_names : Fd := ⟨2, 2, b__law_names, "_law_names"⟩
/-- _law_parts -/
def n35 : List Str := (["many", "pairs"] : List Str)
def b__law_parts : S :=
  .stop
abbrev i__law_parts : Nat := 35
abbrev fd__law_parts : Fd := ⟨2, 2, b__law_parts, "_law_parts"⟩
/-- _law_sets -/
def n36 : List Str := (["many", "found", "k", "row", "size"] : List Str)
def b__law_sets : S :=
  (.seq (.asg (.var 1) (.lst (.cons (.tup .nil) .nil))) (.seq (.for_ (.var 2) (.rng1 (.var 0)) (.asg (.var 1) (.bin .add (.var 1) (.lc [3] (.var 3) (.over (.var 1)) .yes (.bin .add (.var 3) (.tup (.cons (.var 2) .nil))))))) (.ret (.lc [4, 3] (.tup (.cons (.var 4) (.cons (.var 3) .nil))) (.over (.blt .sorted (.cons (.lc [3] (.var 3) (.over (.var 1)) .yes (.tup (.cons (.blt .len (.cons (.var 3) .nil)) (.cons (.var 3) .nil)))) .nil))) .yes (.var 3)))))
abbrev i__law_sets : Nat := 36
abbrev fd__law_sets : Fd := ⟨1, 5, b__law_sets, "_law_sets"⟩
/-- _law_rows -/
def n37 : List Str := (["many", "colours", "found", "k", "later", "row", "one"] : List Str)
def b__law_rows : S :=
  (.seq (.asg (.var 2) (.lst (.cons (.tup .nil) .nil))) (.seq (.for_ (.var 3) (.rng1 (.var 0)) (.seq (.asg (.var 4) (.lst .nil)) (.seq (.for_ (.var 5) (.over (.var 2)) (.asg (.var 4) (.bin .add (.var 4) (.lc [6] (.var 6) (.rng1 (.var 1)) .yes (.bin .add (.var 5) (.tup (.cons (.var 6) .nil))))))) (.asg (.var 2) (.var 4))))) (.ret (.var 2))))
abbrev i__law_rows : Nat := 37
abbrev fd__law_rows : Fd := ⟨2, 7, b__law_rows, "_law_rows"⟩
/-- _law_power -/
def n38 : List Str := (["value", "times", "found", "turn"] : List Str)
def b__law_power : S :=
  (.seq (.asg (.var 2) (.cint 1)) (.seq (.for_ (.var 3) (.rng1 (.var 1)) (.asg (.var 2) (.bin .mul (.var 2) (.var 0)))) (.ret (.var 2))))
abbrev i__law_power : Nat := 38
abbrev fd__law_power : Fd := ⟨2, 4, b__law_power, "_law_power"⟩
/-- law -/
def n39 : List Str := (["script", "tape", "many", "pairs", "web", "colours", "length", "like", "unlike", "more", "rows", "counts", "at", "row", "whole", "potts", "told", "even", "some", "ends", "twos", "likes", "number", "times", "least"] : List Str) ++ (["cut", "plain", "bound", "drawn", "value", "right", "a", "b", "k", "s", "one"] : List Str)
def b_law : S :=
  (.seq (.asg (.var 1) (.mk (.lst (.cons (.blt .list (.cons (.var 0) .nil)) (.cons (.cint 0) (.cons (.cint 0) (.cons (.cint 68) .nil))))))) (.seq (.asg (.tup (.cons (.var 2) (.cons (.var 3) .nil))) (.call 33 true (.cons (.var 1) (.cons (.cint 4) (.cons (.cint 5) .nil))))) (.seq (.asg (.tup (.cons (.var 4) (.cons (.var 5) (.cons (.var 6) .nil)))) (.tup (.cons (.make 0 (.cons (.var 2) (.cons (.var 3) .nil))) (.cons (.bin .add (.cint 1) (.call 31 true (.cons (.var 1) (.cons (.cint 3) .nil)))) (.cons (.blt .len (.cons (.var 3) .nil)) .nil))))) (.seq (.asg (.tup (.cons (.var 7) (.cons (.var 8) (.cons (.var 9) .nil)))) (.tup (.cons (.bin .sub (.call 31 true (.cons (.var 1) (.cons (.cint 9) .nil))) (.cint 4)) (.cons (.bin .sub (.call 31 true (.cons (.var 1) (.cons (.cint 9) .nil))) (.cint 4)) (.cons (.bin .sub (.call 31 true (.cons (.var 1) (.cons (.cint 9) .nil))) (.cint 4)) .nil))))) (.seq (.asg (.var 10) (.call 37 false (.cons (.var 2) (.cons (.var 5) .nil)))) (.seq (.asg (.var 11) (.lc [13] (.var 13) (.over (.var 10)) .yes (.blt .len (.cons (.lc [31, 32] (.tup (.cons (.var 31) (.cons (.var 32) .nil))) (.over (.var 3)) (.cmp .eq (.ix (.var 13) (.var 31)) (.ix (.var 13) (.var 32))) (.cint 1)) .nil)))) (.seq (.asg (.var 12) (.call 31 true (.cons (.var 1) (.cons (.blt .len (.cons (.var 10) .nil)) .nil)))) (.seq (.asg (.var 13) (.blt .tuple (.cons (.lc [33] (.var 33) (.rng1 (.bin .add (.var 6) (.cint 1))) .yes (.bm .count (.var 11) (.cons (.var 33) .nil))) .nil))) (.seq (.ite (.notE (.call 32 false (.cons (.lst (.cons (.call 19 false (.cons (.var 2) (.cons (.var 5) .nil))) (.cons (.call 20 false (.cons (.var 4) (.cons (.ix (.var 10) (.var 12)) .nil))) (.cons (.call 21 false (.cons (.var 4) (.cons (.var 5) .nil))) .nil)))) (.cons (.lst (.cons (.var 10) (.cons (.ix (.var 11) (.var 12)) (.cons (.var 13) .nil)))) .nil)))) (.ret (.cbl false)) .skip) (.seq (.asg (.var 14) (.blt .sum (.cons (.lc [33] (.var 33) (.over (.var 11)) .yes (.bin .mul (.call 38 false (.cons (.var 7) (.cons (.var 33) .nil))) (.call 38 false (.cons (.var 8) (.cons (.bin .sub (.var 6) (.var 33)) .nil))))) .nil))) (.seq (.asg (.var 15) (.blt .sum (.cons (.lc [33] (.var 33) (.over (.var 11)) .yes (.call 38 false (.cons (.bin .add (.cint 1) (.var 9)) (.cons (.var 33) .nil)))) .nil))) (.seq (.asg (.var 16) (.lst (.cons (.call 22 false (.cons (.var 4) (.cons (.var 5) (.cons (.var 7) (.cons (.var 8) .nil))))) (.cons (.call 23 false (.cons (.var 4) (.cons (.var 5) (.cons (.var 7) (.cons (.var 8) .nil))))) (.cons (.call 24 false (.cons (.var 4) (.cons (.var 5) (.cons (.var 9) .nil)))) (.cons (.call 22 false (.cons (.var 4) (.cons (.var 5) (.cons (.bin .add (.cint 1) (.var 9)) (.cons (.cint 1) .nil))))) .nil)))))) (.seq (.ite (.notE (.call 32 false (.cons (.var 16) (.cons (.lst (.cons (.var 14) (.cons (.var 14) (.cons (.var 15) (.cons (.var 15) .nil))))) .nil)))) (.ret (.cbl false)) .skip) (.seq (.asg (.var 17) (.lst .nil)) (.seq (.for_ (.var 18) (.over (.call 36 false (.cons (.var 6) .nil))) (.seq (.asg (.var 19) (.lc [34] (.var 34) (.rng1 (.var 2)) .yes (.bin .add (.blt .len (.cons (.lc [33] (.var 33) (.over (.var 18)) (.cmp .eq (.ix (.ix (.var 3) (.var 33)) (.cint 0)) (.var 34)) (.cint 1)) .nil)) (.blt .len (.cons (.lc [33] (.var 33) (.over (.var 18)) (.cmp .eq (.ix (.ix (.var 3) (.var 33)) (.cint 1)) (.var 34)) (.cint 1)) .nil))))) (.asg (.var 17) (.bin .add (.var 17) (.ifE (.cmp .eq (.lc [35] (.var 35) (.over (.var 19)) (.cmp .eq (.bin .band (.var 35) (.cint 1)) (.cint 1)) (.var 35)) (.lst .nil)) (.lst (.cons (.var 18) .nil)) (.lst .nil)))))) (.seq (.asg (.var 20) (.call 37 false (.cons (.var 2) (.cons (.cint 2) .nil)))) (.seq (.asg (.var 21) (.lc [35] (.var 35) (.over (.var 20)) .yes (.blt .len (.cons (.lc [31, 32] (.tup (.cons (.var 31) (.cons (.var 32) .nil))) (.over (.var 3)) (.cmp .eq (.ix (.var 35) (.var 31)) (.ix (.var 35) (.var 32))) (.cint 1)) .nil)))) (.seq (.asg (.var 14) (.blt .sum (.cons (.lc [33] (.var 33) (.over (.var 21)) .yes (.bin .mul (.call 38 false (.cons (.var 7) (.cons (.var 33) .nil))) (.call 38 false (.cons (.var 8) (.cons (.bin .sub (.var 6) (.var 33)) .nil))))) .nil))) (.seq (.asg (.tup (.cons (.var 22) (.cons (.var 23) .nil))) (.call 26 false (.cons (.var 4) (.cons (.var 7) (.cons (.var 8) .nil))))) (.seq (.ite (.orE (.notE (.call 32 false (.cons (.lst (.cons (.call 25 false (.cons (.var 4) .nil)) (.cons (.var 23) .nil))) (.cons (.lst (.cons (.var 17) (.cons (.var 6) .nil))) .nil)))) (.cmp .ne (.var 22) (.bin .mul (.var 14) (.call 38 false (.cons (.cint 2) (.cons (.var 6) .nil)))))) (.ret (.cbl false)) .skip) (.seq (.asg (.var 24) (.blt .min (.cons (.var 11) .nil))) (.seq (.asg (.var 25) (.tup (.cons (.bin .sub (.var 6) (.blt .min (.cons (.var 21) .nil))) (.cons (.ix (.var 20) (.bm .index (.var 21) (.cons (.blt .min (.cons (.var 21) .nil)) .nil))) .nil)))) (.seq (.asg (.var 16) (.lst (.cons (.call 27 false (.cons (.var 4) (.cons (.var 5) .nil))) (.cons (.call 28 false (.cons (.var 4) .nil)) (.cons (.call 30 false (.cons (.var 4) (.cons (.var 5) .nil))) (.cons (.call 18 false (.cons (.var 9) (.cons (.var 5) .nil))) .nil)))))) (.seq (.ite (.notE (.call 32 false (.cons (.var 16) (.cons (.lst (.cons (.tup (.cons (.var 24) (.cons (.ix (.var 10) (.bm .index (.var 11) (.cons (.var 24) .nil))) .nil))) (.cons (.var 25) (.cons (.tup (.cons (.blt .sum (.cons (.lc [33] (.var 33) (.over (.var 11)) .yes (.bin .sub (.var 6) (.var 33))) .nil)) (.cons (.blt .len (.cons (.var 10) .nil)) .nil))) (.cons (.call 38 false (.cons (.var 9) (.cons (.var 5) .nil))) .nil))))) .nil)))) (.ret (.cbl false)) .skip) (.seq (.asg (.var 26) (.blt .len (.cons (.lc [31, 32] (.tup (.cons (.var 31) (.cons (.var 32) .nil))) (.over (.var 3)) (.cmp .ne (.var 31) (.var 32)) (.cint 1)) .nil))) (.seq (.ite (.orE (.cmp .ne (.bin .mul (.var 5) (.blt .sum (.cons (.lc [33] (.var 33) (.over (.var 11)) .yes (.bin .sub (.var 6) (.var 33))) .nil))) (.bin .mul (.bin .mul (.blt .len (.cons (.var 10) .nil)) (.bin .sub (.var 5) (.cint 1))) (.var 26))) (.cmp .lt (.bin .mul (.cint 2) (.ix (.var 25) (.cint 0))) (.var 26))) (.ret (.cbl false)) .skip) (.seq (.asg (.tup (.cons (.var 27) (.cons (.var 28) .nil))) (.tup (.cons (.call 31 true (.cons (.var 1) (.cons (.bin .add (.var 6) (.cint 2)) .nil))) (.cons (.ix (.var 20) (.call 31 true (.cons (.var 1) (.cons (.blt .len (.cons (.var 20) .nil)) .nil)))) .nil)))) (.seq (.for_ (.var 29) (.over (.tup (.cons (.ix (.var 25) (.cint 1)) (.cons (.var 28) (.cons (.blt .list (.cons (.var 28) .nil)) (.cons (.bin .add (.var 28) (.tup (.cons (.cint 0) .nil))) (.cons (.sl (.var 28) (.cons (.cint 1) .nil) .nil) (.cons .cnon (.cons (.bin .mul (.tup (.cons (.cint 2) .nil)) (.var 2)) (.cons (.bin .mul (.tup (.cons (.cbl true) .nil)) (.var 2)) .nil)))))))))) (.seq (.asg (.var 30) (.andE (.isi (.var 29) .tuple) (.andE (.cmp .isin (.var 29) (.var 20)) (.cmp .eq (.lc [33] (.var 33) (.over (.var 29)) (.isi (.var 33) .bool) (.var 33)) (.lst .nil))))) (.ite (.notE (.call 32 false (.cons (.call 29 false (.cons (.var 4) (.cons (.var 27) (.cons (.var 29) .nil)))) (.cons (.andE (.var 30) (.cmp .ge (.bin .sub (.var 6) (.ix (.var 21) (.bm .index (.var 20) (.cons (.var 29) .nil)))) (.var 27))) .nil)))) (.ret (.cbl false)) .skip))) (.ret (.cbl true))))))))))))))))))))))))))))))
abbrev i_law : Nat := 39
abbrev fd_law : Fd := ⟨1, 36, b_law, "law"⟩
def fns : List Fd := ([fd_is_count, fd_Web___init__, fd_Web___eq__, fd_Web_size, fd_is_pair, fd_names_of, fd_part_number, fd_rank_of, fd_web_rank, fd_without, fd_joined, fd_is_loop, fd_is_bridge, fd_all_pair_sets, fd_two_of, fd_table_of, fd_two_plus, fd_tutte, fd_taken, fd_all_rows, fd_like_pairs, fd_like_counts, fd_spin_sum, fd_spin_sum_by_sets, fd_potts_by_tutte] : List Fd) ++ ([fd_even_pair_sets, fd_two_by_even_sets, fd_best_rows, fd_greatest_cut, fd_is_cut_row, fd_mean_unlike, fd__law_next, fd__law_same, fd__law_web, fd__law_names, fd__law_parts, fd__law_sets, fd__law_rows, fd__law_power, fd_law] : List Fd)
def cls : List Cd := [⟨1, none, ["many", "pairs"]⟩]
def glb : List Str := []
def P : Prog := { fns := fns, cls := cls, glb := glb, fuel := 100000 }
theorem at_is_count : P.fns[i_is_count]? = some fd_is_count := rfl
theorem at_Web___init__ : P.fns[i_Web___init__]? = some fd_Web___init__ := rfl
theorem at_Web_size : P.fns[i_Web_size]? = some fd_Web_size := rfl
theorem at_is_pair : P.fns[i_is_pair]? = some fd_is_pair := rfl
theorem at_names_of : P.fns[i_names_of]? = some fd_names_of := rfl
theorem at_part_number : P.fns[i_part_number]? = some fd_part_number := rfl
theorem at_rank_of : P.fns[i_rank_of]? = some fd_rank_of := rfl
theorem at_web_rank : P.fns[i_web_rank]? = some fd_web_rank := rfl
theorem at_without : P.fns[i_without]? = some fd_without := rfl
theorem at_joined : P.fns[i_joined]? = some fd_joined := rfl
theorem at_is_loop : P.fns[i_is_loop]? = some fd_is_loop := rfl
theorem at_is_bridge : P.fns[i_is_bridge]? = some fd_is_bridge := rfl
theorem at_all_pair_sets : P.fns[i_all_pair_sets]? = some fd_all_pair_sets := rfl
theorem at_two_of : P.fns[i_two_of]? = some fd_two_of := rfl
theorem at_table_of : P.fns[i_table_of]? = some fd_table_of := rfl
theorem at_two_plus : P.fns[i_two_plus]? = some fd_two_plus := rfl
theorem at_tutte : P.fns[i_tutte]? = some fd_tutte := rfl
theorem at_taken : P.fns[i_taken]? = some fd_taken := rfl
theorem at_all_rows : P.fns[i_all_rows]? = some fd_all_rows := rfl
theorem at_like_pairs : P.fns[i_like_pairs]? = some fd_like_pairs := rfl
theorem at_like_counts : P.fns[i_like_counts]? = some fd_like_counts := rfl
theorem at_spin_sum : P.fns[i_spin_sum]? = some fd_spin_sum := rfl
theorem at_spin_sum_by_sets : P.fns[i_spin_sum_by_sets]? = some fd_spin_sum_by_sets := rfl
theorem at_potts_by_tutte : P.fns[i_potts_by_tutte]? = some fd_potts_by_tutte := rfl
theorem at_even_pair_sets : P.fns[i_even_pair_sets]? = some fd_even_pair_sets := rfl
theorem at_two_by_even_sets : P.fns[i_two_by_even_sets]? = some fd_two_by_even_sets := rfl
theorem at_best_rows : P.fns[i_best_rows]? = some fd_best_rows := rfl
theorem at_greatest_cut : P.fns[i_greatest_cut]? = some fd_greatest_cut := rfl
theorem at_is_cut_row : P.fns[i_is_cut_row]? = some fd_is_cut_row := rfl
theorem at_mean_unlike : P.fns[i_mean_unlike]? = some fd_mean_unlike := rfl
theorem at__law_next : P.fns[i__law_next]? = some fd__law_next := rfl
theorem at__law_same : P.fns[i__law_same]? = some fd__law_same := rfl
theorem at__law_web : P.fns[i__law_web]? = some fd__law_web := rfl
theorem at__law_sets : P.fns[i__law_sets]? = some fd__law_sets := rfl
theorem at__law_rows : P.fns[i__law_rows]? = some fd__law_rows := rfl
theorem at__law_power : P.fns[i__law_power]? = some fd__law_power := rfl
theorem at_law : P.fns[i_law]? = some fd_law := rfl
def top (i : Nat) : Stmt := PySem.Challenge.pw_nozeroflows_k68_whole_sums_over_colours.main.body.getD i (.Pass ⟨0, 0, 0, 0⟩)
abbrev st0 : Stmt := top 4
abbrev st1 : Stmt := L2.inClass (top 5) 0
abbrev st2 : Stmt := L2.inClass (top 5) 1
abbrev st3 : Stmt := L2.inClass (top 5) 2
abbrev st4 : Stmt := top 6
abbrev st5 : Stmt := top 7
abbrev st6 : Stmt := top 8
abbrev st7 : Stmt := top 9
abbrev st8 : Stmt := top 10
abbrev st9 : Stmt := top 11
abbrev st10 : Stmt := top 12
abbrev st11 : Stmt := top 13
abbrev st12 : Stmt := top 14
abbrev st13 : Stmt := top 15
abbrev st14 : Stmt := top 17
abbrev st15 : Stmt := top 18
abbrev st16 : Stmt := top 19
abbrev st17 : Stmt := top 21
abbrev st18 : Stmt := top 23
abbrev st19 : Stmt := top 24
abbrev st20 : Stmt := top 25
abbrev st21 : Stmt := top 26
abbrev st22 : Stmt := top 27
abbrev st23 : Stmt := top 28
abbrev st24 : Stmt := top 29
abbrev st25 : Stmt := top 30
abbrev st26 : Stmt := top 31
abbrev st27 : Stmt := top 32
abbrev st28 : Stmt := top 33
abbrev st29 : Stmt := top 34
abbrev st30 : Stmt := top 35
abbrev st31 : Stmt := top 37
abbrev st32 : Stmt := top 38
abbrev st33 : Stmt := top 39
abbrev st34 : Stmt := top 40
abbrev st35 : Stmt := top 41
abbrev st36 : Stmt := top 42
abbrev st37 : Stmt := top 43
abbrev st38 : Stmt := top 44
abbrev st39 : Stmt := top 45
def tx : List (List Str × Stmt) := ([(n0, st0), (n1, st1), (n2, st2), (n3, st3), (n4, st4), (n5, st5), (n6, st6), (n7, st7), (n8, st8), (n9, st9), (n10, st10), (n11, st11), (n12, st12), (n13, st13), (n14, st14), (n15, st15), (n16, st16), (n17, st17), (n18, st18), (n19, st19), (n20, st20), (n21, st21), (n22, st22), (n23, st23), (n24, st24)] : List (List Str × Stmt)) ++ ([(n25, st25), (n26, st26), (n27, st27), (n28, st28), (n29, st29), (n30, st30), (n31, st31), (n32, st32), (n33, st33), (n34, st34), (n35, st35), (n36, st36), (n37, st37), (n38, st38), (n39, st39)] : List (List Str × Stmt))
def fnm : List (Option Str) := ([some "is_count", none, none, none, some "is_pair", some "names_of", some "part_number", some "rank_of", some "web_rank", some "without", some "joined", some "is_loop", some "is_bridge", some "all_pair_sets", some "two_of", some "table_of", some "two_plus", some "tutte", some "taken", some "all_rows", some "like_pairs", some "like_counts", some "spin_sum", some "spin_sum_by_sets", some "potts_by_tutte"] : List (Option Str)) ++ ([some "even_pair_sets", some "two_by_even_sets", some "best_rows", some "greatest_cut", some "is_cut_row", some "mean_unlike", some "_law_next", some "_law_same", some "_law_web", none, none, some "_law_sets", some "_law_rows", some "_law_power", some "law"] : List (Option Str))
def mets : List (Nat × Nat) := [(0, 3)]
def tbl : Tbl := { fnm := fnm, cnm := ["Web"], gnm := [], mets := mets, mnm := fun f => match P.fns[f]? with | some fd => fd.nm | none => "" }
set_option maxHeartbeats 0 in
theorem okA : okAll tbl 400 tx P.fns = true := by decide +kernel
set_option maxHeartbeats 0 in
theorem all_mk {l : PySem.W.OpenLaw} {w : World} {K : PySem.W.Frag} {h : Heap} {mg : Str → Option Value} {fa C0 f0 f1 f3 f4 f5 f6 f7 f8 f9 f10 f11 f12 f13 f14 f15 f16 f17 f18 f19 f20 f21 f22 f23 f24 f25 f26 f27 f28 f29 f30 f31 f32 f33 f36 f37 f38 f39 : Addr} (X : K.In h) (G : h.Ns mainGlobals mg) (hfa : mg "law" = some (.ref fa))
    {od0 an0 : Option Addr} {sl0 : Array (Option Value)} {oc0 kV0 dc0 pm0 cd0 ct0 : Value}
    {od1 an1 : Option Addr} {sl1 : Array (Option Value)} {oc1 kV1 dc1 pm1 cd1 ct1 : Value}
    {od3 an3 : Option Addr} {sl3 : Array (Option Value)} {oc3 kV3 dc3 pm3 cd3 ct3 : Value}
    {od4 an4 : Option Addr} {sl4 : Array (Option Value)} {oc4 kV4 dc4 pm4 cd4 ct4 : Value}
    {od5 an5 : Option Addr} {sl5 : Array (Option Value)} {oc5 kV5 dc5 pm5 cd5 ct5 : Value}
    {od6 an6 : Option Addr} {sl6 : Array (Option Value)} {oc6 kV6 dc6 pm6 cd6 ct6 : Value}
    {od7 an7 : Option Addr} {sl7 : Array (Option Value)} {oc7 kV7 dc7 pm7 cd7 ct7 : Value}
    {od8 an8 : Option Addr} {sl8 : Array (Option Value)} {oc8 kV8 dc8 pm8 cd8 ct8 : Value}
    {od9 an9 : Option Addr} {sl9 : Array (Option Value)} {oc9 kV9 dc9 pm9 cd9 ct9 : Value}
    {od10 an10 : Option Addr} {sl10 : Array (Option Value)} {oc10 kV10 dc10 pm10 cd10 ct10 : Value}
    {od11 an11 : Option Addr} {sl11 : Array (Option Value)} {oc11 kV11 dc11 pm11 cd11 ct11 : Value}
    {od12 an12 : Option Addr} {sl12 : Array (Option Value)} {oc12 kV12 dc12 pm12 cd12 ct12 : Value}
    {od13 an13 : Option Addr} {sl13 : Array (Option Value)} {oc13 kV13 dc13 pm13 cd13 ct13 : Value}
    {od14 an14 : Option Addr} {sl14 : Array (Option Value)} {oc14 kV14 dc14 pm14 cd14 ct14 : Value}
    {od15 an15 : Option Addr} {sl15 : Array (Option Value)} {oc15 kV15 dc15 pm15 cd15 ct15 : Value}
    {od16 an16 : Option Addr} {sl16 : Array (Option Value)} {oc16 kV16 dc16 pm16 cd16 ct16 : Value}
    {od17 an17 : Option Addr} {sl17 : Array (Option Value)} {oc17 kV17 dc17 pm17 cd17 ct17 : Value}
    {od18 an18 : Option Addr} {sl18 : Array (Option Value)} {oc18 kV18 dc18 pm18 cd18 ct18 : Value}
    {od19 an19 : Option Addr} {sl19 : Array (Option Value)} {oc19 kV19 dc19 pm19 cd19 ct19 : Value}
    {od20 an20 : Option Addr} {sl20 : Array (Option Value)} {oc20 kV20 dc20 pm20 cd20 ct20 : Value}
    {od21 an21 : Option Addr} {sl21 : Array (Option Value)} {oc21 kV21 dc21 pm21 cd21 ct21 : Value}
    {od22 an22 : Option Addr} {sl22 : Array (Option Value)} {oc22 kV22 dc22 pm22 cd22 ct22 : Value}
    {od23 an23 : Option Addr} {sl23 : Array (Option Value)} {oc23 kV23 dc23 pm23 cd23 ct23 : Value}
    {od24 an24 : Option Addr} {sl24 : Array (Option Value)} {oc24 kV24 dc24 pm24 cd24 ct24 : Value}
    {od25 an25 : Option Addr} {sl25 : Array (Option Value)} {oc25 kV25 dc25 pm25 cd25 ct25 : Value}
    {od26 an26 : Option Addr} {sl26 : Array (Option Value)} {oc26 kV26 dc26 pm26 cd26 ct26 : Value}
    {od27 an27 : Option Addr} {sl27 : Array (Option Value)} {oc27 kV27 dc27 pm27 cd27 ct27 : Value}
    {od28 an28 : Option Addr} {sl28 : Array (Option Value)} {oc28 kV28 dc28 pm28 cd28 ct28 : Value}
    {od29 an29 : Option Addr} {sl29 : Array (Option Value)} {oc29 kV29 dc29 pm29 cd29 ct29 : Value}
    {od30 an30 : Option Addr} {sl30 : Array (Option Value)} {oc30 kV30 dc30 pm30 cd30 ct30 : Value}
    {od31 an31 : Option Addr} {sl31 : Array (Option Value)} {oc31 kV31 dc31 pm31 cd31 ct31 : Value}
    {od32 an32 : Option Addr} {sl32 : Array (Option Value)} {oc32 kV32 dc32 pm32 cd32 ct32 : Value}
    {od33 an33 : Option Addr} {sl33 : Array (Option Value)} {oc33 kV33 dc33 pm33 cd33 ct33 : Value}
    {od36 an36 : Option Addr} {sl36 : Array (Option Value)} {oc36 kV36 dc36 pm36 cd36 ct36 : Value}
    {od37 an37 : Option Addr} {sl37 : Array (Option Value)} {oc37 kV37 dc37 pm37 cd37 ct37 : Value}
    {od38 an38 : Option Addr} {sl38 : Array (Option Value)} {oc38 kV38 dc38 pm38 cd38 ct38 : Value}
    {od39 an39 : Option Addr} {sl39 : Array (Option Value)} {oc39 kV39 dc39 pm39 cd39 ct39 : Value}
    (aC0 : PySem.W.nsIn K mainGlobals "Web" = some (some (.ref C0)))
    (a0 : PySem.W.nsIn K mainGlobals "is_count" = some (some (.ref f0)))
    (l0 : K.lookup f0 = some ⟨oc0, od0, .func (PySem.W.fnOf "is_count" "is_count" (C8.fnArgs st0) (C8.fnBody st0) (C8.fnScope st0) .none kV0 dc0 pm0 an0 cd0 ct0), sl0⟩)
    (c0 : PySem.W.codeIn K cd0 "is_count" = true)
    (k0 : PySem.W.keepIn K (.ref f0) = true)
    (a1 : PySem.W.findIn K (.ref C0) "__init__" = some (some (.ref f1)))
    (i1 : PySem.W.isFn K (.ref f1) = true)
    (l1 : K.lookup f1 = some ⟨oc1, od1, .func (PySem.W.fnOf "__init__" "Web.__init__" (C8.fnArgs st1) (C8.fnBody st1) (C8.fnScope st1) .none kV1 dc1 pm1 an1 cd1 ct1), sl1⟩)
    (c1 : PySem.W.codeIn K cd1 "Web.__init__" = true)
    (k1 : PySem.W.keepIn K (.ref f1) = true)
    (a3 : PySem.W.findIn K (.ref C0) "size" = some (some (.ref f3)))
    (i3 : PySem.W.isFn K (.ref f3) = true)
    (l3 : K.lookup f3 = some ⟨oc3, od3, .func (PySem.W.fnOf "size" "Web.size" (C8.fnArgs st3) (C8.fnBody st3) (C8.fnScope st3) .none kV3 dc3 pm3 an3 cd3 ct3), sl3⟩)
    (c3 : PySem.W.codeIn K cd3 "Web.size" = true)
    (k3 : PySem.W.keepIn K (.ref f3) = true)
    (a4 : PySem.W.nsIn K mainGlobals "is_pair" = some (some (.ref f4)))
    (l4 : K.lookup f4 = some ⟨oc4, od4, .func (PySem.W.fnOf "is_pair" "is_pair" (C8.fnArgs st4) (C8.fnBody st4) (C8.fnScope st4) .none kV4 dc4 pm4 an4 cd4 ct4), sl4⟩)
    (c4 : PySem.W.codeIn K cd4 "is_pair" = true)
    (k4 : PySem.W.keepIn K (.ref f4) = true)
    (a5 : PySem.W.nsIn K mainGlobals "names_of" = some (some (.ref f5)))
    (l5 : K.lookup f5 = some ⟨oc5, od5, .func (PySem.W.fnOf "names_of" "names_of" (C8.fnArgs st5) (C8.fnBody st5) (C8.fnScope st5) .none kV5 dc5 pm5 an5 cd5 ct5), sl5⟩)
    (c5 : PySem.W.codeIn K cd5 "names_of" = true)
    (k5 : PySem.W.keepIn K (.ref f5) = true)
    (a6 : PySem.W.nsIn K mainGlobals "part_number" = some (some (.ref f6)))
    (l6 : K.lookup f6 = some ⟨oc6, od6, .func (PySem.W.fnOf "part_number" "part_number" (C8.fnArgs st6) (C8.fnBody st6) (C8.fnScope st6) .none kV6 dc6 pm6 an6 cd6 ct6), sl6⟩)
    (c6 : PySem.W.codeIn K cd6 "part_number" = true)
    (k6 : PySem.W.keepIn K (.ref f6) = true)
    (a7 : PySem.W.nsIn K mainGlobals "rank_of" = some (some (.ref f7)))
    (l7 : K.lookup f7 = some ⟨oc7, od7, .func (PySem.W.fnOf "rank_of" "rank_of" (C8.fnArgs st7) (C8.fnBody st7) (C8.fnScope st7) .none kV7 dc7 pm7 an7 cd7 ct7), sl7⟩)
    (c7 : PySem.W.codeIn K cd7 "rank_of" = true)
    (k7 : PySem.W.keepIn K (.ref f7) = true)
    (a8 : PySem.W.nsIn K mainGlobals "web_rank" = some (some (.ref f8)))
    (l8 : K.lookup f8 = some ⟨oc8, od8, .func (PySem.W.fnOf "web_rank" "web_rank" (C8.fnArgs st8) (C8.fnBody st8) (C8.fnScope st8) .none kV8 dc8 pm8 an8 cd8 ct8), sl8⟩)
    (c8 : PySem.W.codeIn K cd8 "web_rank" = true)
    (k8 : PySem.W.keepIn K (.ref f8) = true)
    (a9 : PySem.W.nsIn K mainGlobals "without" = some (some (.ref f9)))
    (l9 : K.lookup f9 = some ⟨oc9, od9, .func (PySem.W.fnOf "without" "without" (C8.fnArgs st9) (C8.fnBody st9) (C8.fnScope st9) .none kV9 dc9 pm9 an9 cd9 ct9), sl9⟩)
    (c9 : PySem.W.codeIn K cd9 "without" = true)
    (k9 : PySem.W.keepIn K (.ref f9) = true)
    (a10 : PySem.W.nsIn K mainGlobals "joined" = some (some (.ref f10)))
    (l10 : K.lookup f10 = some ⟨oc10, od10, .func (PySem.W.fnOf "joined" "joined" (C8.fnArgs st10) (C8.fnBody st10) (C8.fnScope st10) .none kV10 dc10 pm10 an10 cd10 ct10), sl10⟩)
    (c10 : PySem.W.codeIn K cd10 "joined" = true)
    (k10 : PySem.W.keepIn K (.ref f10) = true)
    (a11 : PySem.W.nsIn K mainGlobals "is_loop" = some (some (.ref f11)))
    (l11 : K.lookup f11 = some ⟨oc11, od11, .func (PySem.W.fnOf "is_loop" "is_loop" (C8.fnArgs st11) (C8.fnBody st11) (C8.fnScope st11) .none kV11 dc11 pm11 an11 cd11 ct11), sl11⟩)
    (c11 : PySem.W.codeIn K cd11 "is_loop" = true)
    (k11 : PySem.W.keepIn K (.ref f11) = true)
    (a12 : PySem.W.nsIn K mainGlobals "is_bridge" = some (some (.ref f12)))
    (l12 : K.lookup f12 = some ⟨oc12, od12, .func (PySem.W.fnOf "is_bridge" "is_bridge" (C8.fnArgs st12) (C8.fnBody st12) (C8.fnScope st12) .none kV12 dc12 pm12 an12 cd12 ct12), sl12⟩)
    (c12 : PySem.W.codeIn K cd12 "is_bridge" = true)
    (k12 : PySem.W.keepIn K (.ref f12) = true)
    (a13 : PySem.W.nsIn K mainGlobals "all_pair_sets" = some (some (.ref f13)))
    (l13 : K.lookup f13 = some ⟨oc13, od13, .func (PySem.W.fnOf "all_pair_sets" "all_pair_sets" (C8.fnArgs st13) (C8.fnBody st13) (C8.fnScope st13) .none kV13 dc13 pm13 an13 cd13 ct13), sl13⟩)
    (c13 : PySem.W.codeIn K cd13 "all_pair_sets" = true)
    (k13 : PySem.W.keepIn K (.ref f13) = true)
    (a14 : PySem.W.nsIn K mainGlobals "two_of" = some (some (.ref f14)))
    (l14 : K.lookup f14 = some ⟨oc14, od14, .func (PySem.W.fnOf "two_of" "two_of" (C8.fnArgs st14) (C8.fnBody st14) (C8.fnScope st14) .none kV14 dc14 pm14 an14 cd14 ct14), sl14⟩)
    (c14 : PySem.W.codeIn K cd14 "two_of" = true)
    (k14 : PySem.W.keepIn K (.ref f14) = true)
    (a15 : PySem.W.nsIn K mainGlobals "table_of" = some (some (.ref f15)))
    (l15 : K.lookup f15 = some ⟨oc15, od15, .func (PySem.W.fnOf "table_of" "table_of" (C8.fnArgs st15) (C8.fnBody st15) (C8.fnScope st15) .none kV15 dc15 pm15 an15 cd15 ct15), sl15⟩)
    (c15 : PySem.W.codeIn K cd15 "table_of" = true)
    (k15 : PySem.W.keepIn K (.ref f15) = true)
    (a16 : PySem.W.nsIn K mainGlobals "two_plus" = some (some (.ref f16)))
    (l16 : K.lookup f16 = some ⟨oc16, od16, .func (PySem.W.fnOf "two_plus" "two_plus" (C8.fnArgs st16) (C8.fnBody st16) (C8.fnScope st16) .none kV16 dc16 pm16 an16 cd16 ct16), sl16⟩)
    (c16 : PySem.W.codeIn K cd16 "two_plus" = true)
    (k16 : PySem.W.keepIn K (.ref f16) = true)
    (a17 : PySem.W.nsIn K mainGlobals "tutte" = some (some (.ref f17)))
    (l17 : K.lookup f17 = some ⟨oc17, od17, .func (PySem.W.fnOf "tutte" "tutte" (C8.fnArgs st17) (C8.fnBody st17) (C8.fnScope st17) .none kV17 dc17 pm17 an17 cd17 ct17), sl17⟩)
    (c17 : PySem.W.codeIn K cd17 "tutte" = true)
    (k17 : PySem.W.keepIn K (.ref f17) = true)
    (a18 : PySem.W.nsIn K mainGlobals "taken" = some (some (.ref f18)))
    (l18 : K.lookup f18 = some ⟨oc18, od18, .func (PySem.W.fnOf "taken" "taken" (C8.fnArgs st18) (C8.fnBody st18) (C8.fnScope st18) .none kV18 dc18 pm18 an18 cd18 ct18), sl18⟩)
    (c18 : PySem.W.codeIn K cd18 "taken" = true)
    (k18 : PySem.W.keepIn K (.ref f18) = true)
    (a19 : PySem.W.nsIn K mainGlobals "all_rows" = some (some (.ref f19)))
    (l19 : K.lookup f19 = some ⟨oc19, od19, .func (PySem.W.fnOf "all_rows" "all_rows" (C8.fnArgs st19) (C8.fnBody st19) (C8.fnScope st19) .none kV19 dc19 pm19 an19 cd19 ct19), sl19⟩)
    (c19 : PySem.W.codeIn K cd19 "all_rows" = true)
    (k19 : PySem.W.keepIn K (.ref f19) = true)
    (a20 : PySem.W.nsIn K mainGlobals "like_pairs" = some (some (.ref f20)))
    (l20 : K.lookup f20 = some ⟨oc20, od20, .func (PySem.W.fnOf "like_pairs" "like_pairs" (C8.fnArgs st20) (C8.fnBody st20) (C8.fnScope st20) .none kV20 dc20 pm20 an20 cd20 ct20), sl20⟩)
    (c20 : PySem.W.codeIn K cd20 "like_pairs" = true)
    (k20 : PySem.W.keepIn K (.ref f20) = true)
    (a21 : PySem.W.nsIn K mainGlobals "like_counts" = some (some (.ref f21)))
    (l21 : K.lookup f21 = some ⟨oc21, od21, .func (PySem.W.fnOf "like_counts" "like_counts" (C8.fnArgs st21) (C8.fnBody st21) (C8.fnScope st21) .none kV21 dc21 pm21 an21 cd21 ct21), sl21⟩)
    (c21 : PySem.W.codeIn K cd21 "like_counts" = true)
    (k21 : PySem.W.keepIn K (.ref f21) = true)
    (a22 : PySem.W.nsIn K mainGlobals "spin_sum" = some (some (.ref f22)))
    (l22 : K.lookup f22 = some ⟨oc22, od22, .func (PySem.W.fnOf "spin_sum" "spin_sum" (C8.fnArgs st22) (C8.fnBody st22) (C8.fnScope st22) .none kV22 dc22 pm22 an22 cd22 ct22), sl22⟩)
    (c22 : PySem.W.codeIn K cd22 "spin_sum" = true)
    (k22 : PySem.W.keepIn K (.ref f22) = true)
    (a23 : PySem.W.nsIn K mainGlobals "spin_sum_by_sets" = some (some (.ref f23)))
    (l23 : K.lookup f23 = some ⟨oc23, od23, .func (PySem.W.fnOf "spin_sum_by_sets" "spin_sum_by_sets" (C8.fnArgs st23) (C8.fnBody st23) (C8.fnScope st23) .none kV23 dc23 pm23 an23 cd23 ct23), sl23⟩)
    (c23 : PySem.W.codeIn K cd23 "spin_sum_by_sets" = true)
    (k23 : PySem.W.keepIn K (.ref f23) = true)
    (a24 : PySem.W.nsIn K mainGlobals "potts_by_tutte" = some (some (.ref f24)))
    (l24 : K.lookup f24 = some ⟨oc24, od24, .func (PySem.W.fnOf "potts_by_tutte" "potts_by_tutte" (C8.fnArgs st24) (C8.fnBody st24) (C8.fnScope st24) .none kV24 dc24 pm24 an24 cd24 ct24), sl24⟩)
    (c24 : PySem.W.codeIn K cd24 "potts_by_tutte" = true)
    (k24 : PySem.W.keepIn K (.ref f24) = true)
    (a25 : PySem.W.nsIn K mainGlobals "even_pair_sets" = some (some (.ref f25)))
    (l25 : K.lookup f25 = some ⟨oc25, od25, .func (PySem.W.fnOf "even_pair_sets" "even_pair_sets" (C8.fnArgs st25) (C8.fnBody st25) (C8.fnScope st25) .none kV25 dc25 pm25 an25 cd25 ct25), sl25⟩)
    (c25 : PySem.W.codeIn K cd25 "even_pair_sets" = true)
    (k25 : PySem.W.keepIn K (.ref f25) = true)
    (a26 : PySem.W.nsIn K mainGlobals "two_by_even_sets" = some (some (.ref f26)))
    (l26 : K.lookup f26 = some ⟨oc26, od26, .func (PySem.W.fnOf "two_by_even_sets" "two_by_even_sets" (C8.fnArgs st26) (C8.fnBody st26) (C8.fnScope st26) .none kV26 dc26 pm26 an26 cd26 ct26), sl26⟩)
    (c26 : PySem.W.codeIn K cd26 "two_by_even_sets" = true)
    (k26 : PySem.W.keepIn K (.ref f26) = true)
    (a27 : PySem.W.nsIn K mainGlobals "best_rows" = some (some (.ref f27)))
    (l27 : K.lookup f27 = some ⟨oc27, od27, .func (PySem.W.fnOf "best_rows" "best_rows" (C8.fnArgs st27) (C8.fnBody st27) (C8.fnScope st27) .none kV27 dc27 pm27 an27 cd27 ct27), sl27⟩)
    (c27 : PySem.W.codeIn K cd27 "best_rows" = true)
    (k27 : PySem.W.keepIn K (.ref f27) = true)
    (a28 : PySem.W.nsIn K mainGlobals "greatest_cut" = some (some (.ref f28)))
    (l28 : K.lookup f28 = some ⟨oc28, od28, .func (PySem.W.fnOf "greatest_cut" "greatest_cut" (C8.fnArgs st28) (C8.fnBody st28) (C8.fnScope st28) .none kV28 dc28 pm28 an28 cd28 ct28), sl28⟩)
    (c28 : PySem.W.codeIn K cd28 "greatest_cut" = true)
    (k28 : PySem.W.keepIn K (.ref f28) = true)
    (a29 : PySem.W.nsIn K mainGlobals "is_cut_row" = some (some (.ref f29)))
    (l29 : K.lookup f29 = some ⟨oc29, od29, .func (PySem.W.fnOf "is_cut_row" "is_cut_row" (C8.fnArgs st29) (C8.fnBody st29) (C8.fnScope st29) .none kV29 dc29 pm29 an29 cd29 ct29), sl29⟩)
    (c29 : PySem.W.codeIn K cd29 "is_cut_row" = true)
    (k29 : PySem.W.keepIn K (.ref f29) = true)
    (a30 : PySem.W.nsIn K mainGlobals "mean_unlike" = some (some (.ref f30)))
    (l30 : K.lookup f30 = some ⟨oc30, od30, .func (PySem.W.fnOf "mean_unlike" "mean_unlike" (C8.fnArgs st30) (C8.fnBody st30) (C8.fnScope st30) .none kV30 dc30 pm30 an30 cd30 ct30), sl30⟩)
    (c30 : PySem.W.codeIn K cd30 "mean_unlike" = true)
    (k30 : PySem.W.keepIn K (.ref f30) = true)
    (a31 : PySem.W.nsIn K mainGlobals "_law_next" = some (some (.ref f31)))
    (l31 : K.lookup f31 = some ⟨oc31, od31, .func (PySem.W.fnOf "_law_next" "_law_next" (C8.fnArgs st31) (C8.fnBody st31) (C8.fnScope st31) .none kV31 dc31 pm31 an31 cd31 ct31), sl31⟩)
    (c31 : PySem.W.codeIn K cd31 "_law_next" = true)
    (k31 : PySem.W.keepIn K (.ref f31) = true)
    (a32 : PySem.W.nsIn K mainGlobals "_law_same" = some (some (.ref f32)))
    (l32 : K.lookup f32 = some ⟨oc32, od32, .func (PySem.W.fnOf "_law_same" "_law_same" (C8.fnArgs st32) (C8.fnBody st32) (C8.fnScope st32) .none kV32 dc32 pm32 an32 cd32 ct32), sl32⟩)
    (c32 : PySem.W.codeIn K cd32 "_law_same" = true)
    (k32 : PySem.W.keepIn K (.ref f32) = true)
    (a33 : PySem.W.nsIn K mainGlobals "_law_web" = some (some (.ref f33)))
    (l33 : K.lookup f33 = some ⟨oc33, od33, .func (PySem.W.fnOf "_law_web" "_law_web" (C8.fnArgs st33) (C8.fnBody st33) (C8.fnScope st33) .none kV33 dc33 pm33 an33 cd33 ct33), sl33⟩)
    (c33 : PySem.W.codeIn K cd33 "_law_web" = true)
    (k33 : PySem.W.keepIn K (.ref f33) = true)
    (a36 : PySem.W.nsIn K mainGlobals "_law_sets" = some (some (.ref f36)))
    (l36 : K.lookup f36 = some ⟨oc36, od36, .func (PySem.W.fnOf "_law_sets" "_law_sets" (C8.fnArgs st36) (C8.fnBody st36) (C8.fnScope st36) .none kV36 dc36 pm36 an36 cd36 ct36), sl36⟩)
    (c36 : PySem.W.codeIn K cd36 "_law_sets" = true)
    (k36 : PySem.W.keepIn K (.ref f36) = true)
    (a37 : PySem.W.nsIn K mainGlobals "_law_rows" = some (some (.ref f37)))
    (l37 : K.lookup f37 = some ⟨oc37, od37, .func (PySem.W.fnOf "_law_rows" "_law_rows" (C8.fnArgs st37) (C8.fnBody st37) (C8.fnScope st37) .none kV37 dc37 pm37 an37 cd37 ct37), sl37⟩)
    (c37 : PySem.W.codeIn K cd37 "_law_rows" = true)
    (k37 : PySem.W.keepIn K (.ref f37) = true)
    (a38 : PySem.W.nsIn K mainGlobals "_law_power" = some (some (.ref f38)))
    (l38 : K.lookup f38 = some ⟨oc38, od38, .func (PySem.W.fnOf "_law_power" "_law_power" (C8.fnArgs st38) (C8.fnBody st38) (C8.fnScope st38) .none kV38 dc38 pm38 an38 cd38 ct38), sl38⟩)
    (c38 : PySem.W.codeIn K cd38 "_law_power" = true)
    (k38 : PySem.W.keepIn K (.ref f38) = true)
    (a39 : PySem.W.nsIn K mainGlobals "law" = some (some (.ref f39)))
    (l39 : K.lookup f39 = some ⟨oc39, od39, .func (PySem.W.fnOf "law" "law" (C8.fnArgs st39) (C8.fnBody st39) (C8.fnScope st39) .none kV39 dc39 pm39 an39 cd39 ct39), sl39⟩)
    (c39 : PySem.W.codeIn K cd39 "law" = true)
    (k39 : PySem.W.keepIn K (.ref f39) = true)
    (pg0 : PySem.W.plainGet K C0 Str.empty = true)
    (hd0 : PySem.W.hasDictIn K C0 = true)
    (po0 : PySem.W.plainOver K C0 = true)
    (sa0 : PySem.W.findIn K (.ref C0) "__setattr__" = some (some (.builtin "object.__setattr__")))
    (mk0 : PySem.W.makesIn K C0 = true)
    (kc0 : PySem.W.keepIn K (.ref C0) = true)
    (ow0 : PySem.W.findIn K (.ref C0) "__class__" = some (some (.builtin "object.__class__")))
    (mr0 : PySem.W.mroIn K C0 (.type "object") = some true)
    (kk0_0 : PySem.W.kitOne K (.ref C0) (.ref C0) = some true)
    (kt0_int : PySem.W.kitOne K (.ref C0) (.type "int") = some false)
    (kt0_bool : PySem.W.kitOne K (.ref C0) (.type "bool") = some false)
    (kt0_str : PySem.W.kitOne K (.ref C0) (.type "str") = some false)
    (kt0_tuple : PySem.W.kitOne K (.ref C0) (.type "tuple") = some false)
    (kt0_list : PySem.W.kitOne K (.ref C0) (.type "list") = some false)
    (tk0_NoneType : PySem.W.kitOne K (.type "NoneType") (.ref C0) = some false)
    (tk0_bool : PySem.W.kitOne K (.type "bool") (.ref C0) = some false)
    (tk0_int : PySem.W.kitOne K (.type "int") (.ref C0) = some false)
    (tk0_str : PySem.W.kitOne K (.type "str") (.ref C0) = some false)
    (tk0_tuple : PySem.W.kitOne K (.type "tuple") (.ref C0) = some false)
    (tk0_list : PySem.W.kitOne K (.type "list") (.ref C0) = some false)
    (nA0_many : PySem.W.findIn K (.ref C0) "many" = some none)
    (nA0_pairs : PySem.W.findIn K (.ref C0) "pairs" = some none)
    (hn : PySem.W.specialIn K (.builtin "object.__class__") "__get__" = some (some (.builtin "getset_descriptor.__get__")))
    (htk : PySem.W.takesIn K (.builtin "object.__class__") = some true)
    (z_len : PySem.W.nsIn K mainGlobals "len" = some none)
    (z_abs : PySem.W.nsIn K mainGlobals "abs" = some none)
    (z_int : PySem.W.nsIn K mainGlobals "int" = some none)
    (z_min : PySem.W.nsIn K mainGlobals "min" = some none)
    (z_max : PySem.W.nsIn K mainGlobals "max" = some none)
    (z_sum : PySem.W.nsIn K mainGlobals "sum" = some none)
    (z_sorted : PySem.W.nsIn K mainGlobals "sorted" = some none)
    (z_tuple : PySem.W.nsIn K mainGlobals "tuple" = some none)
    (z_list : PySem.W.nsIn K mainGlobals "list" = some none)
    (z_all : PySem.W.nsIn K mainGlobals "all" = some none)
    (z_any : PySem.W.nsIn K mainGlobals "any" = some none)
    (z_str : PySem.W.nsIn K mainGlobals "str" = some none)
    (z_dict : PySem.W.nsIn K mainGlobals "dict" = some none)
    (z_bool : PySem.W.nsIn K mainGlobals "bool" = some none)
    (z_isinstance : PySem.W.nsIn K mainGlobals "isinstance" = some none)
    (z_range : PySem.W.nsIn K mainGlobals "range" = some none)
    (z_enumerate : PySem.W.nsIn K mainGlobals "enumerate" = some none)
    (z_zip : PySem.W.nsIn K mainGlobals "zip" = some none)
    (z_reversed : PySem.W.nsIn K mainGlobals "reversed" = some none)
    (nl : noLst K = true)
    (hT : ∀ ns : List Int, ns.length ≤ 63 → ∃ st, callF P 20 39 [.lst (ns.map .int)] [] = .ok (.bl true) st) :
    ∃ fd : FuncData, (∀ (s : Shared) (v : Value), BindsTo s fd ⟨[v], []⟩ [("script", v)]) ∧ ∀ base : Heap, K.In base → base.Ns mainGlobals mg → L2.FnOk l.prog w K mg base C8.CX0 (2 * 20 + 1) fa fd ["script"] (spLaw K) := by
  have e := hfa.symm.trans (PySem.W.mg_of X G a39)
  cases e
  have F0 : C8.Fun K "is_count" "is_count" st0 f0 _ := ⟨oc0, od0, .none, kV0, dc0, pm0, an0, cd0, ct0, sl0, rfl, l0, c0⟩
  have B0 := F0.binds rfl (ps := n0.take 1) fun _ _ _ _ _ _ us hl => match us, hl with | [_], _ => rfl
  have F1 : C8.Fun K "__init__" "Web.__init__" st1 f1 _ := ⟨oc1, od1, .none, kV1, dc1, pm1, an1, cd1, ct1, sl1, rfl, l1, c1⟩
  have B1 := F1.binds rfl (ps := n1.take 3) fun _ _ _ _ _ _ us hl => match us, hl with | [_, _, _], _ => rfl
  have F3 : C8.Fun K "size" "Web.size" st3 f3 _ := ⟨oc3, od3, .none, kV3, dc3, pm3, an3, cd3, ct3, sl3, rfl, l3, c3⟩
  have B3 := F3.binds rfl (ps := n3.take 1) fun _ _ _ _ _ _ us hl => match us, hl with | [_], _ => rfl
  have F4 : C8.Fun K "is_pair" "is_pair" st4 f4 _ := ⟨oc4, od4, .none, kV4, dc4, pm4, an4, cd4, ct4, sl4, rfl, l4, c4⟩
  have B4 := F4.binds rfl (ps := n4.take 2) fun _ _ _ _ _ _ us hl => match us, hl with | [_, _], _ => rfl
  have F5 : C8.Fun K "names_of" "names_of" st5 f5 _ := ⟨oc5, od5, .none, kV5, dc5, pm5, an5, cd5, ct5, sl5, rfl, l5, c5⟩
  have B5 := F5.binds rfl (ps := n5.take 2) fun _ _ _ _ _ _ us hl => match us, hl with | [_, _], _ => rfl
  have F6 : C8.Fun K "part_number" "part_number" st6 f6 _ := ⟨oc6, od6, .none, kV6, dc6, pm6, an6, cd6, ct6, sl6, rfl, l6, c6⟩
  have B6 := F6.binds rfl (ps := n6.take 2) fun _ _ _ _ _ _ us hl => match us, hl with | [_, _], _ => rfl
  have F7 : C8.Fun K "rank_of" "rank_of" st7 f7 _ := ⟨oc7, od7, .none, kV7, dc7, pm7, an7, cd7, ct7, sl7, rfl, l7, c7⟩
  have B7 := F7.binds rfl (ps := n7.take 2) fun _ _ _ _ _ _ us hl => match us, hl with | [_, _], _ => rfl
  have F8 : C8.Fun K "web_rank" "web_rank" st8 f8 _ := ⟨oc8, od8, .none, kV8, dc8, pm8, an8, cd8, ct8, sl8, rfl, l8, c8⟩
  have B8 := F8.binds rfl (ps := n8.take 1) fun _ _ _ _ _ _ us hl => match us, hl with | [_], _ => rfl
  have F9 : C8.Fun K "without" "without" st9 f9 _ := ⟨oc9, od9, .none, kV9, dc9, pm9, an9, cd9, ct9, sl9, rfl, l9, c9⟩
  have B9 := F9.binds rfl (ps := n9.take 2) fun _ _ _ _ _ _ us hl => match us, hl with | [_, _], _ => rfl
  have F10 : C8.Fun K "joined" "joined" st10 f10 _ := ⟨oc10, od10, .none, kV10, dc10, pm10, an10, cd10, ct10, sl10, rfl, l10, c10⟩
  have B10 := F10.binds rfl (ps := n10.take 2) fun _ _ _ _ _ _ us hl => match us, hl with | [_, _], _ => rfl
  have F11 : C8.Fun K "is_loop" "is_loop" st11 f11 _ := ⟨oc11, od11, .none, kV11, dc11, pm11, an11, cd11, ct11, sl11, rfl, l11, c11⟩
  have B11 := F11.binds rfl (ps := n11.take 2) fun _ _ _ _ _ _ us hl => match us, hl with | [_, _], _ => rfl
  have F12 : C8.Fun K "is_bridge" "is_bridge" st12 f12 _ := ⟨oc12, od12, .none, kV12, dc12, pm12, an12, cd12, ct12, sl12, rfl, l12, c12⟩
  have B12 := F12.binds rfl (ps := n12.take 2) fun _ _ _ _ _ _ us hl => match us, hl with | [_, _], _ => rfl
  have F13 : C8.Fun K "all_pair_sets" "all_pair_sets" st13 f13 _ := ⟨oc13, od13, .none, kV13, dc13, pm13, an13, cd13, ct13, sl13, rfl, l13, c13⟩
  have B13 := F13.binds rfl (ps := n13.take 1) fun _ _ _ _ _ _ us hl => match us, hl with | [_], _ => rfl
  have F14 : C8.Fun K "two_of" "two_of" st14 f14 _ := ⟨oc14, od14, .none, kV14, dc14, pm14, an14, cd14, ct14, sl14, rfl, l14, c14⟩
  have B14 := F14.binds rfl (ps := n14.take 1) fun _ _ _ _ _ _ us hl => match us, hl with | [_], _ => rfl
  have F15 : C8.Fun K "table_of" "table_of" st15 f15 _ := ⟨oc15, od15, .none, kV15, dc15, pm15, an15, cd15, ct15, sl15, rfl, l15, c15⟩
  have B15 := F15.binds rfl (ps := n15.take 1) fun _ _ _ _ _ _ us hl => match us, hl with | [_], _ => rfl
  have F16 : C8.Fun K "two_plus" "two_plus" st16 f16 _ := ⟨oc16, od16, .none, kV16, dc16, pm16, an16, cd16, ct16, sl16, rfl, l16, c16⟩
  have B16 := F16.binds rfl (ps := n16.take 2) fun _ _ _ _ _ _ us hl => match us, hl with | [_, _], _ => rfl
  have F17 : C8.Fun K "tutte" "tutte" st17 f17 _ := ⟨oc17, od17, .none, kV17, dc17, pm17, an17, cd17, ct17, sl17, rfl, l17, c17⟩
  have B17 := F17.binds rfl (ps := n17.take 1) fun _ _ _ _ _ _ us hl => match us, hl with | [_], _ => rfl
  have F18 : C8.Fun K "taken" "taken" st18 f18 _ := ⟨oc18, od18, .none, kV18, dc18, pm18, an18, cd18, ct18, sl18, rfl, l18, c18⟩
  have B18 := F18.binds rfl (ps := n18.take 2) fun _ _ _ _ _ _ us hl => match us, hl with | [_, _], _ => rfl
  have F19 : C8.Fun K "all_rows" "all_rows" st19 f19 _ := ⟨oc19, od19, .none, kV19, dc19, pm19, an19, cd19, ct19, sl19, rfl, l19, c19⟩
  have B19 := F19.binds rfl (ps := n19.take 2) fun _ _ _ _ _ _ us hl => match us, hl with | [_, _], _ => rfl
  have F20 : C8.Fun K "like_pairs" "like_pairs" st20 f20 _ := ⟨oc20, od20, .none, kV20, dc20, pm20, an20, cd20, ct20, sl20, rfl, l20, c20⟩
  have B20 := F20.binds rfl (ps := n20.take 2) fun _ _ _ _ _ _ us hl => match us, hl with | [_, _], _ => rfl
  have F21 : C8.Fun K "like_counts" "like_counts" st21 f21 _ := ⟨oc21, od21, .none, kV21, dc21, pm21, an21, cd21, ct21, sl21, rfl, l21, c21⟩
  have B21 := F21.binds rfl (ps := n21.take 2) fun _ _ _ _ _ _ us hl => match us, hl with | [_, _], _ => rfl
  have F22 : C8.Fun K "spin_sum" "spin_sum" st22 f22 _ := ⟨oc22, od22, .none, kV22, dc22, pm22, an22, cd22, ct22, sl22, rfl, l22, c22⟩
  have B22 := F22.binds rfl (ps := n22.take 4) fun _ _ _ _ _ _ us hl => match us, hl with | [_, _, _, _], _ => rfl
  have F23 : C8.Fun K "spin_sum_by_sets" "spin_sum_by_sets" st23 f23 _ := ⟨oc23, od23, .none, kV23, dc23, pm23, an23, cd23, ct23, sl23, rfl, l23, c23⟩
  have B23 := F23.binds rfl (ps := n23.take 4) fun _ _ _ _ _ _ us hl => match us, hl with | [_, _, _, _], _ => rfl
  have F24 : C8.Fun K "potts_by_tutte" "potts_by_tutte" st24 f24 _ := ⟨oc24, od24, .none, kV24, dc24, pm24, an24, cd24, ct24, sl24, rfl, l24, c24⟩
  have B24 := F24.binds rfl (ps := n24.take 3) fun _ _ _ _ _ _ us hl => match us, hl with | [_, _, _], _ => rfl
  have F25 : C8.Fun K "even_pair_sets" "even_pair_sets" st25 f25 _ := ⟨oc25, od25, .none, kV25, dc25, pm25, an25, cd25, ct25, sl25, rfl, l25, c25⟩
  have B25 := F25.binds rfl (ps := n25.take 1) fun _ _ _ _ _ _ us hl => match us, hl with | [_], _ => rfl
  have F26 : C8.Fun K "two_by_even_sets" "two_by_even_sets" st26 f26 _ := ⟨oc26, od26, .none, kV26, dc26, pm26, an26, cd26, ct26, sl26, rfl, l26, c26⟩
  have B26 := F26.binds rfl (ps := n26.take 3) fun _ _ _ _ _ _ us hl => match us, hl with | [_, _, _], _ => rfl
  have F27 : C8.Fun K "best_rows" "best_rows" st27 f27 _ := ⟨oc27, od27, .none, kV27, dc27, pm27, an27, cd27, ct27, sl27, rfl, l27, c27⟩
  have B27 := F27.binds rfl (ps := n27.take 2) fun _ _ _ _ _ _ us hl => match us, hl with | [_, _], _ => rfl
  have F28 : C8.Fun K "greatest_cut" "greatest_cut" st28 f28 _ := ⟨oc28, od28, .none, kV28, dc28, pm28, an28, cd28, ct28, sl28, rfl, l28, c28⟩
  have B28 := F28.binds rfl (ps := n28.take 1) fun _ _ _ _ _ _ us hl => match us, hl with | [_], _ => rfl
  have F29 : C8.Fun K "is_cut_row" "is_cut_row" st29 f29 _ := ⟨oc29, od29, .none, kV29, dc29, pm29, an29, cd29, ct29, sl29, rfl, l29, c29⟩
  have B29 := F29.binds rfl (ps := n29.take 3) fun _ _ _ _ _ _ us hl => match us, hl with | [_, _, _], _ => rfl
  have F30 : C8.Fun K "mean_unlike" "mean_unlike" st30 f30 _ := ⟨oc30, od30, .none, kV30, dc30, pm30, an30, cd30, ct30, sl30, rfl, l30, c30⟩
  have B30 := F30.binds rfl (ps := n30.take 2) fun _ _ _ _ _ _ us hl => match us, hl with | [_, _], _ => rfl
  have F31 : C8.Fun K "_law_next" "_law_next" st31 f31 _ := ⟨oc31, od31, .none, kV31, dc31, pm31, an31, cd31, ct31, sl31, rfl, l31, c31⟩
  have B31 := F31.binds rfl (ps := n31.take 2) fun _ _ _ _ _ _ us hl => match us, hl with | [_, _], _ => rfl
  have F32 : C8.Fun K "_law_same" "_law_same" st32 f32 _ := ⟨oc32, od32, .none, kV32, dc32, pm32, an32, cd32, ct32, sl32, rfl, l32, c32⟩
  have B32 := F32.binds rfl (ps := n32.take 2) fun _ _ _ _ _ _ us hl => match us, hl with | [_, _], _ => rfl
  have F33 : C8.Fun K "_law_web" "_law_web" st33 f33 _ := ⟨oc33, od33, .none, kV33, dc33, pm33, an33, cd33, ct33, sl33, rfl, l33, c33⟩
  have B33 := F33.binds rfl (ps := n33.take 3) fun _ _ _ _ _ _ us hl => match us, hl with | [_, _, _], _ => rfl
  have F36 : C8.Fun K "_law_sets" "_law_sets" st36 f36 _ := ⟨oc36, od36, .none, kV36, dc36, pm36, an36, cd36, ct36, sl36, rfl, l36, c36⟩
  have B36 := F36.binds rfl (ps := n36.take 1) fun _ _ _ _ _ _ us hl => match us, hl with | [_], _ => rfl
  have F37 : C8.Fun K "_law_rows" "_law_rows" st37 f37 _ := ⟨oc37, od37, .none, kV37, dc37, pm37, an37, cd37, ct37, sl37, rfl, l37, c37⟩
  have B37 := F37.binds rfl (ps := n37.take 2) fun _ _ _ _ _ _ us hl => match us, hl with | [_, _], _ => rfl
  have F38 : C8.Fun K "_law_power" "_law_power" st38 f38 _ := ⟨oc38, od38, .none, kV38, dc38, pm38, an38, cd38, ct38, sl38, rfl, l38, c38⟩
  have B38 := F38.binds rfl (ps := n38.take 2) fun _ _ _ _ _ _ us hl => match us, hl with | [_, _], _ => rfl
  have F39 : C8.Fun K "law" "law" st39 _ _ := ⟨oc39, od39, .none, kV39, dc39, pm39, an39, cd39, ct39, sl39, rfl, l39, c39⟩
  have B39 := F39.binds rfl (ps := n39.take 1) fun _ _ _ _ _ _ us hl => match us, hl with | [_], _ => rfl
  have K0 : L2.Cls K C0 := ⟨pg0, hd0, po0, sa0⟩
  let ct : Nat → Option Addr := fun q => match q with | 0 => some C0 | _ => none
  have ctn : ∀ q, q = 0 ∧ ct q = some C0 ∨ ct q = none := fun q => match q with | 0 => .inl ⟨rfl, rfl⟩ | q + 1 => .inr rfl
  have TX : Tx tbl P tx ct 400 K mg := by
    refine ⟨okA, ?cal, ?mak, ?met, rfl, ?cf, ?fld, ?bi, ?glb⟩
    case cal =>
      intro i x h
      match i, h with
      | 0, h => have h : some (some ("is_count" : Str)) = some (some x) := h; cases h; exact ⟨_, _, _, _, rfl, rfl, ⟨F0, PySem.W.mg_of X G a0, k0⟩, B0⟩
      | 1, h => exact (nomatch (show some (none : Option Str) = some (some x) from h))
      | 2, h => exact (nomatch (show some (none : Option Str) = some (some x) from h))
      | 3, h => exact (nomatch (show some (none : Option Str) = some (some x) from h))
      | 4, h => have h : some (some ("is_pair" : Str)) = some (some x) := h; cases h; exact ⟨_, _, _, _, rfl, rfl, ⟨F4, PySem.W.mg_of X G a4, k4⟩, B4⟩
      | 5, h => have h : some (some ("names_of" : Str)) = some (some x) := h; cases h; exact ⟨_, _, _, _, rfl, rfl, ⟨F5, PySem.W.mg_of X G a5, k5⟩, B5⟩
      | 6, h => have h : some (some ("part_number" : Str)) = some (some x) := h; cases h; exact ⟨_, _, _, _, rfl, rfl, ⟨F6, PySem.W.mg_of X G a6, k6⟩, B6⟩
      | 7, h => have h : some (some ("rank_of" : Str)) = some (some x) := h; cases h; exact ⟨_, _, _, _, rfl, rfl, ⟨F7, PySem.W.mg_of X G a7, k7⟩, B7⟩
      | 8, h => have h : some (some ("web_rank" : Str)) = some (some x) := h; cases h; exact ⟨_, _, _, _, rfl, rfl, ⟨F8, PySem.W.mg_of X G a8, k8⟩, B8⟩
      | 9, h => have h : some (some ("without" : Str)) = some (some x) := h; cases h; exact ⟨_, _, _, _, rfl, rfl, ⟨F9, PySem.W.mg_of X G a9, k9⟩, B9⟩
      | 10, h => have h : some (some ("joined" : Str)) = some (some x) := h; cases h; exact ⟨_, _, _, _, rfl, rfl, ⟨F10, PySem.W.mg_of X G a10, k10⟩, B10⟩
      | 11, h => have h : some (some ("is_loop" : Str)) = some (some x) := h; cases h; exact ⟨_, _, _, _, rfl, rfl, ⟨F11, PySem.W.mg_of X G a11, k11⟩, B11⟩
      | 12, h => have h : some (some ("is_bridge" : Str)) = some (some x) := h; cases h; exact ⟨_, _, _, _, rfl, rfl, ⟨F12, PySem.W.mg_of X G a12, k12⟩, B12⟩
      | 13, h => have h : some (some ("all_pair_sets" : Str)) = some (some x) := h; cases h; exact ⟨_, _, _, _, rfl, rfl, ⟨F13, PySem.W.mg_of X G a13, k13⟩, B13⟩
      | 14, h => have h : some (some ("two_of" : Str)) = some (some x) := h; cases h; exact ⟨_, _, _, _, rfl, rfl, ⟨F14, PySem.W.mg_of X G a14, k14⟩, B14⟩
      | 15, h => have h : some (some ("table_of" : Str)) = some (some x) := h; cases h; exact ⟨_, _, _, _, rfl, rfl, ⟨F15, PySem.W.mg_of X G a15, k15⟩, B15⟩
      | 16, h => have h : some (some ("two_plus" : Str)) = some (some x) := h; cases h; exact ⟨_, _, _, _, rfl, rfl, ⟨F16, PySem.W.mg_of X G a16, k16⟩, B16⟩
      | 17, h => have h : some (some ("tutte" : Str)) = some (some x) := h; cases h; exact ⟨_, _, _, _, rfl, rfl, ⟨F17, PySem.W.mg_of X G a17, k17⟩, B17⟩
      | 18, h => have h : some (some ("taken" : Str)) = some (some x) := h; cases h; exact ⟨_, _, _, _, rfl, rfl, ⟨F18, PySem.W.mg_of X G a18, k18⟩, B18⟩
      | 19, h => have h : some (some ("all_rows" : Str)) = some (some x) := h; cases h; exact ⟨_, _, _, _, rfl, rfl, ⟨F19, PySem.W.mg_of X G a19, k19⟩, B19⟩
      | 20, h => have h : some (some ("like_pairs" : Str)) = some (some x) := h; cases h; exact ⟨_, _, _, _, rfl, rfl, ⟨F20, PySem.W.mg_of X G a20, k20⟩, B20⟩
      | 21, h => have h : some (some ("like_counts" : Str)) = some (some x) := h; cases h; exact ⟨_, _, _, _, rfl, rfl, ⟨F21, PySem.W.mg_of X G a21, k21⟩, B21⟩
      | 22, h => have h : some (some ("spin_sum" : Str)) = some (some x) := h; cases h; exact ⟨_, _, _, _, rfl, rfl, ⟨F22, PySem.W.mg_of X G a22, k22⟩, B22⟩
      | 23, h => have h : some (some ("spin_sum_by_sets" : Str)) = some (some x) := h; cases h; exact ⟨_, _, _, _, rfl, rfl, ⟨F23, PySem.W.mg_of X G a23, k23⟩, B23⟩
      | 24, h => have h : some (some ("potts_by_tutte" : Str)) = some (some x) := h; cases h; exact ⟨_, _, _, _, rfl, rfl, ⟨F24, PySem.W.mg_of X G a24, k24⟩, B24⟩
      | 25, h => have h : some (some ("even_pair_sets" : Str)) = some (some x) := h; cases h; exact ⟨_, _, _, _, rfl, rfl, ⟨F25, PySem.W.mg_of X G a25, k25⟩, B25⟩
      | 26, h => have h : some (some ("two_by_even_sets" : Str)) = some (some x) := h; cases h; exact ⟨_, _, _, _, rfl, rfl, ⟨F26, PySem.W.mg_of X G a26, k26⟩, B26⟩
      | 27, h => have h : some (some ("best_rows" : Str)) = some (some x) := h; cases h; exact ⟨_, _, _, _, rfl, rfl, ⟨F27, PySem.W.mg_of X G a27, k27⟩, B27⟩
      | 28, h => have h : some (some ("greatest_cut" : Str)) = some (some x) := h; cases h; exact ⟨_, _, _, _, rfl, rfl, ⟨F28, PySem.W.mg_of X G a28, k28⟩, B28⟩
      | 29, h => have h : some (some ("is_cut_row" : Str)) = some (some x) := h; cases h; exact ⟨_, _, _, _, rfl, rfl, ⟨F29, PySem.W.mg_of X G a29, k29⟩, B29⟩
      | 30, h => have h : some (some ("mean_unlike" : Str)) = some (some x) := h; cases h; exact ⟨_, _, _, _, rfl, rfl, ⟨F30, PySem.W.mg_of X G a30, k30⟩, B30⟩
      | 31, h => have h : some (some ("_law_next" : Str)) = some (some x) := h; cases h; exact ⟨_, _, _, _, rfl, rfl, ⟨F31, PySem.W.mg_of X G a31, k31⟩, B31⟩
      | 32, h => have h : some (some ("_law_same" : Str)) = some (some x) := h; cases h; exact ⟨_, _, _, _, rfl, rfl, ⟨F32, PySem.W.mg_of X G a32, k32⟩, B32⟩
      | 33, h => have h : some (some ("_law_web" : Str)) = some (some x) := h; cases h; exact ⟨_, _, _, _, rfl, rfl, ⟨F33, PySem.W.mg_of X G a33, k33⟩, B33⟩
      | 34, h => exact (nomatch (show some (none : Option Str) = some (some x) from h))
      | 35, h => exact (nomatch (show some (none : Option Str) = some (some x) from h))
      | 36, h => have h : some (some ("_law_sets" : Str)) = some (some x) := h; cases h; exact ⟨_, _, _, _, rfl, rfl, ⟨F36, PySem.W.mg_of X G a36, k36⟩, B36⟩
      | 37, h => have h : some (some ("_law_rows" : Str)) = some (some x) := h; cases h; exact ⟨_, _, _, _, rfl, rfl, ⟨F37, PySem.W.mg_of X G a37, k37⟩, B37⟩
      | 38, h => have h : some (some ("_law_power" : Str)) = some (some x) := h; cases h; exact ⟨_, _, _, _, rfl, rfl, ⟨F38, PySem.W.mg_of X G a38, k38⟩, B38⟩
      | 39, h => have h : some (some ("law" : Str)) = some (some x) := h; cases h; exact ⟨_, _, _, _, rfl, rfl, ⟨F39, PySem.W.mg_of X G a39, k39⟩, B39⟩
      | n + 40, h => exact (nomatch (show (none : Option (Option Str)) = some (some x) from h))
    case mak =>
      intro q x h
      match q, h with
      | 0, h => have h : some ("Web" : Str) = some x := h; cases h; exact ⟨_, _, _, _, _, _, _, rfl, rfl, rfl, rfl, ⟨mk0, a1, i1, kc0⟩, PySem.W.mg_of X G aC0, F1, B1⟩
      | n + 1, h => exact (nomatch (show (none : Option Str) = some x from h))
    case met =>
      intro q m h
      simp only [tbl, mets, List.mem_cons, Prod.mk.injEq, List.not_mem_nil, or_false] at h
      rcases h with ⟨rfl, rfl⟩
      · exact ⟨_, _, _, _, _, _, rfl, rfl, rfl, K0, ⟨a3, i3, k3⟩, F3, B3⟩
    case cf =>
      refine ⟨?c1, ?c2, hn, htk, ?c3, ?c4, ?c5, ?c6⟩
      case c1 => intro q C h; rcases ctn q with ⟨rfl, e⟩ | e <;> (rw [e] at h; cases h) <;> assumption
      case c2 => intro q C h; rcases ctn q with ⟨rfl, e⟩ | e <;> (rw [e] at h; cases h) <;> assumption
      case c3 => intro q C h; rcases ctn q with ⟨rfl, e⟩ | e <;> (rw [e] at h; cases h) <;> assumption
      case c4 => intro q C q2 C2 h h2; rcases ctn q with ⟨rfl, e⟩ | e <;> (rw [e] at h; cases h) <;> (rcases ctn q2 with ⟨rfl, e⟩ | e <;> (rw [e] at h2; cases h2) <;> assumption)
      case c5 => intro q C t h ht; simp only [List.mem_cons, List.not_mem_nil, or_false] at ht; rcases ctn q with ⟨rfl, e⟩ | e <;> (rw [e] at h; cases h) <;> (rcases ht with rfl | rfl | rfl | rfl | rfl) <;> assumption
      case c6 => intro q C t h ht; simp only [List.mem_cons, List.not_mem_nil, or_false] at ht; rcases ctn q with ⟨rfl, e⟩ | e <;> (rw [e] at h; cases h) <;> (rcases ht with rfl | rfl | rfl | rfl | rfl | rfl) <;> assumption
    case fld =>
      intro q C f h hf
      rcases ctn q with ⟨rfl, e⟩ | e <;> (rw [e] at h; cases h)
      · replace hf : (["many", "pairs"] : List Str).any (fun g => decide (g = f)) = true := hf
        simp only [List.any_cons, List.any_nil, Bool.or_false, Bool.or_eq_true, decide_eq_true_eq] at hf
        rcases hf with rfl | rfl <;> assumption
    case bi =>
      intro x h
      simp only [bNames, List.mem_cons, List.not_mem_nil, or_false] at h
      rcases h with rfl | rfl | rfl | rfl | rfl | rfl | rfl | rfl | rfl | rfl | rfl | rfl | rfl | rfl | rfl | rfl | rfl | rfl | rfl
      · exact PySem.W.mg_none_of X G z_len
      · exact PySem.W.mg_none_of X G z_abs
      · exact PySem.W.mg_none_of X G z_int
      · exact PySem.W.mg_none_of X G z_min
      · exact PySem.W.mg_none_of X G z_max
      · exact PySem.W.mg_none_of X G z_sum
      · exact PySem.W.mg_none_of X G z_sorted
      · exact PySem.W.mg_none_of X G z_tuple
      · exact PySem.W.mg_none_of X G z_list
      · exact PySem.W.mg_none_of X G z_all
      · exact PySem.W.mg_none_of X G z_any
      · exact PySem.W.mg_none_of X G z_str
      · exact PySem.W.mg_none_of X G z_dict
      · exact PySem.W.mg_none_of X G z_bool
      · exact PySem.W.mg_none_of X G z_isinstance
      · exact PySem.W.mg_none_of X G z_range
      · exact PySem.W.mg_none_of X G z_enumerate
      · exact PySem.W.mg_none_of X G z_zip
      · exact PySem.W.mg_none_of X G z_reversed
    case glb =>
      intro g x z h h2
      match g, h, h2 with
      | n + 0, h, h2 => exact (nomatch (show (none : Option Str) = some x from h))
  exact ⟨_, fun s v => .of_eq rfl, fun base _ _ => law_fn (n := 20) (i := 39) TX F39 rfl rfl nl hT⟩
end Lk68

section
set_option linter.all false
set_option maxRecDepth 100000
namespace Lk68
open PySem Ev
/-! ### webs: the first defs -/
def pr (p : Nat × Nat) : D := .tup [.int p.1, .int p.2]
def webD (n : Nat) (ps : List (Nat × Nat)) : D := .obj 0 ["many", "pairs"] [.int n, .tup (ps.map pr)]
theorem pr_pure (p : Nat × Nat) : (pr p).pure = true := rfl
theorem prs_pure (ps : List (Nat × Nat)) : D.pures (ps.map pr) = true := pures_map pr_pure ps
theorem web_pure (n : Nat) (ps : List (Nat × Nat)) : (webD n ps).pure = true := by
  simp [webD, D.pure, D.pures, prs_pure]
theorem fok_many (st : List Ob) (n : Nat) (ps : List (Nat × Nat)) : fokD P.fok st (webD n ps) "many" = true := by
  show P.fok 0 "many" = true
  decide +kernel
theorem fok_pairs (st : List Ob) (n : Nat) (ps : List (Nat × Nat)) : fokD P.fok st (webD n ps) "pairs" = true := by
  show P.fok 0 "pairs" = true
  decide +kernel
theorem fld_many (st : List Ob) (n : Nat) (ps : List (Nat × Nat)) : opFld st (webD n ps) "many" = some (.int n) := by
  simp [opFld, webD, opFld.look]
theorem fld_pairs (st : List Ob) (n : Nat) (ps : List (Nat × Nat)) : opFld st (webD n ps) "pairs" = some (.tup (ps.map pr)) := by
  simp only [opFld, webD, opFld.look]
  rw [if_neg (by decide +kernel)]
  simp
theorem is_count_int {n : Nat} (hn : 1 ≤ n) (i : Int) : callF P n i_is_count [.int i] [] = .ok (.bl (decide (0 ≤ i))) [] := by
  obtain ⟨n, rfl⟩ := Nat.exists_eq_add_of_le' hn
  rw [lev at_is_count]
  by_cases h : i < 0 <;> simp [runB, evS, evE, evEs, evT, evI, evB, evR, evTg, evTg.go, Prog.cfg, frz_plain, frzs_plain, D.pure, D.pures, D.scalar, leave_plain, leave_int, leave_bl, leave_non, leave_tup, leave_lst, leave_obj, o_len_tup, o_len_lst, o_len_dct, o_tuple_tup, o_tuple_lst, o_list_tup, o_list_lst, o_min, o_max, o_abs, o_int, o_intb, o_eq, o_ne, o_lt, o_le, o_gt, o_ge, o_add, o_sub, o_ixT0, o_ixT1, o_ixT2, o_ixL0, o_ixL1, o_ixT, o_ixL, t_bl, t_int, i_int, i_bl, i_tup, i_lst, i_non, i_str, i_obj, prs_pure, web_pure, pr_pure, fok_many, fok_pairs, fld_many, fld_pairs, b_is_count, h] <;> omega
theorem is_count_nat {n : Nat} (hn : 1 ≤ n) (i : Nat) : callF P n i_is_count [.int i] [] = .ok (.bl true) [] := by
  rw [is_count_int hn]; simp
theorem size_web {n : Nat} (hn : 1 ≤ n) (m : Nat) (ps : List (Nat × Nat)) : callF P n i_Web_size [webD m ps] [] = .ok (.int ps.length) [] := by
  obtain ⟨n, rfl⟩ := Nat.exists_eq_add_of_le' hn
  rw [lev at_Web_size]
  simp [runB, evS, evE, evEs, evT, evI, evB, evR, evTg, evTg.go, Prog.cfg, frz_plain, frzs_plain, D.pure, D.pures, D.scalar, leave_plain, leave_int, leave_bl, leave_non, leave_tup, leave_lst, leave_obj, o_len_tup, o_len_lst, o_len_dct, o_tuple_tup, o_tuple_lst, o_list_tup, o_list_lst, o_min, o_max, o_abs, o_int, o_intb, o_eq, o_ne, o_lt, o_le, o_gt, o_ge, o_add, o_sub, o_ixT0, o_ixT1, o_ixT2, o_ixL0, o_ixL1, o_ixT, o_ixL, t_bl, t_int, i_int, i_bl, i_tup, i_lst, i_non, i_str, i_obj, prs_pure, web_pure, pr_pure, fok_many, fok_pairs, fld_many, fld_pairs, b_Web_size]
theorem is_pair_web {n : Nat} (hn : 2 ≤ n) (p : Nat × Nat) (m : Nat) : callF P n i_is_pair [pr p, .int m] [] = .ok (.bl (decide (p.1 < m) && decide (p.2 < m))) [] := by
  obtain ⟨n, rfl⟩ := Nat.exists_eq_add_of_le' hn
  rw [lev at_is_pair]
  have h1 : ∀ i : Nat, callF P (n + 1) 0 [.int i] [] = .ok (.bl true) [] := fun i => is_count_nat (by omega) i
  by_cases h : p.1 < m <;> simp [runB, evS, evE, evEs, evT, evI, evB, evR, evTg, evTg.go, Prog.cfg, frz_plain, frzs_plain, D.pure, D.pures, D.scalar, leave_plain, leave_int, leave_bl, leave_non, leave_tup, leave_lst, leave_obj, o_len_tup, o_len_lst, o_len_dct, o_tuple_tup, o_tuple_lst, o_list_tup, o_list_lst, o_min, o_max, o_abs, o_int, o_intb, o_eq, o_ne, o_lt, o_le, o_gt, o_ge, o_add, o_sub, o_ixT0, o_ixT1, o_ixT2, o_ixL0, o_ixL1, o_ixT, o_ixL, t_bl, t_int, i_int, i_bl, i_tup, i_lst, i_non, i_str, i_obj, prs_pure, web_pure, pr_pure, fok_many, fok_pairs, fld_many, fld_pairs, b_is_pair, pr, h1, h]
theorem Web_init_ok {n : Nat} (hn : 3 ≤ n) {m : Nat} {ps : List (Nat × Nat)} (hl : ps.length ≤ 1000) (hp : ∀ p ∈ ps, p.1 < m ∧ p.2 < m) {X : D} (hX : X = .tup (ps.map pr) ∨ X = .lst (ps.map pr)) :
    callF P n i_Web___init__ [.ref 0, .int m, X] [.ins 0 [] []] = .ok .non [.ins 0 ["many", "pairs"] [.int m, .tup (ps.map pr)]] := by
  obtain ⟨n, rfl⟩ := Nat.exists_eq_add_of_le' hn
  rw [lev at_Web___init__]
  refine runB_of rfl ?_
  show Run _ _ [some (.ref 0), some (.int m), some X, none] _ _
  have h1 : callF P (n + 2) 0 [.int m] [] = .ok (.bl true) [] := is_count_nat (by omega) m
  refine run_seq (run_set (d := .tup (ps.map pr)) (st1 := [.ins 0 [] []]) ?_ (by simp) ?_)
  · rcases hX with rfl | rfl <;> simp [runB, evS, evE, evEs, evT, evI, evB, evR, evTg, evTg.go, Prog.cfg, frz_plain, frzs_plain, D.pure, D.pures, D.scalar, leave_plain, leave_int, leave_bl, leave_non, leave_tup, leave_lst, leave_obj, o_len_tup, o_len_lst, o_len_dct, o_tuple_tup, o_tuple_lst, o_list_tup, o_list_lst, o_min, o_max, o_abs, o_int, o_intb, o_eq, o_ne, o_lt, o_le, o_gt, o_ge, o_add, o_sub, o_ixT0, o_ixT1, o_ixT2, o_ixL0, o_ixL1, o_ixT, o_ixL, t_bl, t_int, i_int, i_bl, i_tup, i_lst, i_non, i_str, i_obj, prs_pure, web_pure, pr_pure, fok_many, fok_pairs, fld_many, fld_pairs]
  refine run_seq (run_else (st1 := [.ins 0 [] []]) ?_ (run_skip ?_))
  · simp [runB, evS, evE, evEs, evT, evI, evB, evR, evTg, evTg.go, Prog.cfg, frz_plain, frzs_plain, D.pure, D.pures, D.scalar, leave_plain, leave_int, leave_bl, leave_non, leave_tup, leave_lst, leave_obj, o_len_tup, o_len_lst, o_len_dct, o_tuple_tup, o_tuple_lst, o_list_tup, o_list_lst, o_min, o_max, o_abs, o_int, o_intb, o_eq, o_ne, o_lt, o_le, o_gt, o_ge, o_add, o_sub, o_ixT0, o_ixT1, o_ixT2, o_ixL0, o_ixL1, o_ixT, o_ixL, t_bl, t_int, i_int, i_bl, i_tup, i_lst, i_non, i_str, i_obj, prs_pure, web_pure, pr_pure, fok_many, fok_pairs, fld_many, fld_pairs, h1]
  refine run_seq (run_for (xs := List.range ps.length) (enc := fun (k : Nat) => D.int k) (fun i ρ st => st = [.ins 0 [] []] ∧ ∃ o, ρ = [some (.ref 0), some (.int m), some (.tup (ps.map pr)), o]) (st1 := [.ins 0 [] []]) (q_rng ?_ (by omega)) ⟨rfl, _, rfl⟩ ?_ ?_)
  · simp [runB, evS, evE, evEs, evT, evI, evB, evR, evTg, evTg.go, Prog.cfg, frz_plain, frzs_plain, D.pure, D.pures, D.scalar, leave_plain, leave_int, leave_bl, leave_non, leave_tup, leave_lst, leave_obj, o_len_tup, o_len_lst, o_len_dct, o_tuple_tup, o_tuple_lst, o_list_tup, o_list_lst, o_min, o_max, o_abs, o_int, o_intb, o_eq, o_ne, o_lt, o_le, o_gt, o_ge, o_add, o_sub, o_ixT0, o_ixT1, o_ixT2, o_ixL0, o_ixL1, o_ixT, o_ixL, t_bl, t_int, i_int, i_bl, i_tup, i_lst, i_non, i_str, i_obj, prs_pure, web_pure, pr_pure, fok_many, fok_pairs, fld_many, fld_pairs]
  · rintro i x ρ st hx ⟨rfl, o, rfl⟩
    obtain ⟨rfl, hi⟩ := q_rngat hx
    have h2 : callF P (n + 2) 4 [pr ps[x], .int m] [] = .ok (.bl true) [] := by
      rw [is_pair_web (by omega)]
      have := hp ps[x] (List.getElem_mem hi)
      simp [this]
    refine ⟨_, rfl, run_else (st1 := [.ins 0 [] []]) ?_ (run_skip ⟨.inl rfl, rfl, _, rfl⟩)⟩
    simp [runB, evS, evE, evEs, evT, evI, evB, evR, evTg, evTg.go, Prog.cfg, frz_plain, frzs_plain, D.pure, D.pures, D.scalar, leave_plain, leave_int, leave_bl, leave_non, leave_tup, leave_lst, leave_obj, o_len_tup, o_len_lst, o_len_dct, o_tuple_tup, o_tuple_lst, o_list_tup, o_list_lst, o_min, o_max, o_abs, o_int, o_intb, o_eq, o_ne, o_lt, o_le, o_gt, o_ge, o_add, o_sub, o_ixT0, o_ixT1, o_ixT2, o_ixL0, o_ixL1, o_ixT, o_ixL, t_bl, t_int, i_int, i_bl, i_tup, i_lst, i_non, i_str, i_obj, prs_pure, web_pure, pr_pure, fok_many, fok_pairs, fld_many, fld_pairs, h2, hi]
  · rintro ρ st ⟨rfl, o, rfl⟩
    refine run_seq (run_fld (d := .int m) (n := 0) (k := 0) (fs := []) (vs := []) (st1 := [.ins 0 [] []]) (st2 := [.ins 0 [] []]) ?_ ?_ rfl ?_ (by decide) ?_)
    · simp [runB, evS, evE, evEs, evT, evI, evB, evR, evTg, evTg.go, Prog.cfg, frz_plain, frzs_plain, D.pure, D.pures, D.scalar, leave_plain, leave_int, leave_bl, leave_non, leave_tup, leave_lst, leave_obj, o_len_tup, o_len_lst, o_len_dct, o_tuple_tup, o_tuple_lst, o_list_tup, o_list_lst, o_min, o_max, o_abs, o_int, o_intb, o_eq, o_ne, o_lt, o_le, o_gt, o_ge, o_add, o_sub, o_ixT0, o_ixT1, o_ixT2, o_ixL0, o_ixL1, o_ixT, o_ixL, t_bl, t_int, i_int, i_bl, i_tup, i_lst, i_non, i_str, i_obj, prs_pure, web_pure, pr_pure, fok_many, fok_pairs, fld_many, fld_pairs]
    · simp [runB, evS, evE, evEs, evT, evI, evB, evR, evTg, evTg.go, Prog.cfg, frz_plain, frzs_plain, D.pure, D.pures, D.scalar, leave_plain, leave_int, leave_bl, leave_non, leave_tup, leave_lst, leave_obj, o_len_tup, o_len_lst, o_len_dct, o_tuple_tup, o_tuple_lst, o_list_tup, o_list_lst, o_min, o_max, o_abs, o_int, o_intb, o_eq, o_ne, o_lt, o_le, o_gt, o_ge, o_add, o_sub, o_ixT0, o_ixT1, o_ixT2, o_ixL0, o_ixL1, o_ixT, o_ixL, t_bl, t_int, i_int, i_bl, i_tup, i_lst, i_non, i_str, i_obj, prs_pure, web_pure, pr_pure, fok_many, fok_pairs, fld_many, fld_pairs]
    · show P.fok 0 "many" = true
      decide +kernel
    refine run_fld (d := .tup (ps.map pr)) (n := 0) (k := 0) (fs := ["many"]) (vs := [.int m]) (st1 := [.ins 0 ["many"] [.int m]]) (st2 := [.ins 0 ["many"] [.int m]]) ?_ ?_ rfl ?_ (by decide) ?_
    · simp [runB, evS, evE, evEs, evT, evI, evB, evR, evTg, evTg.go, Prog.cfg, frz_plain, frzs_plain, D.pure, D.pures, D.scalar, leave_plain, leave_int, leave_bl, leave_non, leave_tup, leave_lst, leave_obj, o_len_tup, o_len_lst, o_len_dct, o_tuple_tup, o_tuple_lst, o_list_tup, o_list_lst, o_min, o_max, o_abs, o_int, o_intb, o_eq, o_ne, o_lt, o_le, o_gt, o_ge, o_add, o_sub, o_ixT0, o_ixT1, o_ixT2, o_ixL0, o_ixL1, o_ixT, o_ixL, t_bl, t_int, i_int, i_bl, i_tup, i_lst, i_non, i_str, i_obj, prs_pure, web_pure, pr_pure, fok_many, fok_pairs, fld_many, fld_pairs, putFs, putFv]
    · simp [runB, evS, evE, evEs, evT, evI, evB, evR, evTg, evTg.go, Prog.cfg, frz_plain, frzs_plain, D.pure, D.pures, D.scalar, leave_plain, leave_int, leave_bl, leave_non, leave_tup, leave_lst, leave_obj, o_len_tup, o_len_lst, o_len_dct, o_tuple_tup, o_tuple_lst, o_list_tup, o_list_lst, o_min, o_max, o_abs, o_int, o_intb, o_eq, o_ne, o_lt, o_le, o_gt, o_ge, o_add, o_sub, o_ixT0, o_ixT1, o_ixT2, o_ixL0, o_ixL1, o_ixT, o_ixL, t_bl, t_int, i_int, i_bl, i_tup, i_lst, i_non, i_str, i_obj, prs_pure, web_pure, pr_pure, fok_many, fok_pairs, fld_many, fld_pairs]
    · show P.fok 0 "pairs" = true
      decide +kernel
    · have e1 : putFs ("pairs" : Str) [("many" : Str)] = ([("many" : Str), ("pairs" : Str)] : List Str) := by decide +kernel
      have e2 : putFv ("pairs" : Str) (.tup (ps.map pr)) [("many" : Str)] [.int m] = [.int m, .tup (ps.map pr)] := by
        show (if ("many" : Str) = "pairs" then _ else _) = _
        rw [if_neg (by decide +kernel)]
        rfl
      show leave 1 .non [.ins 0 (putFs ("pairs" : Str) [("many" : Str)]) (putFv ("pairs" : Str) (.tup (ps.map pr)) [("many" : Str)] [.int m])] = _
      rw [e1, e2]
      simp [leave, frz, frzObs, frzOb, D.pure, frzs, frz_plain, prs_pure]
theorem new_web {n : Nat} (hn : 3 ≤ n) {m : Nat} {ps : List (Nat × Nat)} (hl : ps.length ≤ 1000) (hp : ∀ p ∈ ps, p.1 < m ∧ p.2 < m) {X : D} (hX : X = .tup (ps.map pr) ∨ X = .lst (ps.map pr)) :
    newF P (callF P n) 0 [.int m, X] = .ok (webD m ps) [] := by
  have h : callF P n i_Web___init__ [.ref 0, .int m, X] [.ins 0 [] []] = _ := Web_init_ok hn hl hp hX
  show bnd (callF P n i_Web___init__ [.ref 0, .int m, X] [.ins 0 [] []]) _ = _
  rw [h]
  rfl

/-! ### parts -/
def natD (k : Nat) : D := .int k
theorem natD_pure (k : Nat) : (natD k).pure = true := rfl
theorem natDs_pure (l : List Nat) : D.pures (l.map natD) = true := pures_map natD_pure l
/-- a pair joins -/
def joinN (names : List Nat) (p : Nat × Nat) : List Nat :=
  if names.getD p.1 0 = names.getD p.2 0 then names
  else names.map fun o => if o = max (names.getD p.1 0) (names.getD p.2 0) then min (names.getD p.1 0) (names.getD p.2 0) else o
def namesL (n : Nat) (ps : List (Nat × Nat)) : List Nat := ps.foldl joinN (List.range n)
theorem joinN_len (names : List Nat) (p : Nat × Nat) : (joinN names p).length = names.length := by
  unfold joinN
  split <;> simp
theorem namesL_len (n : Nat) (ps : List (Nat × Nat)) : (namesL n ps).length = n := by
  have : ∀ (ps : List (Nat × Nat)) (l : List Nat), (ps.foldl joinN l).length = l.length := by
    intro ps
    induction ps with
    | nil => intro l; rfl
    | cons p ps ih => intro l; rw [List.foldl_cons, ih, joinN_len]
  rw [namesL, this, List.length_range]
theorem namesL_take (n : Nat) (ps : List (Nat × Nat)) {i : Nat} {p : Nat × Nat} (h : ps[i]? = some p) : namesL n (ps.take (i + 1)) = joinN (namesL n (ps.take i)) p := by
  rw [List.take_add_one, h]
  simp [namesL, List.foldl_append]
theorem min_cast (a b : Nat) : (if ((b : Int) < (a : Int)) then (b : Int) else (a : Int)) = ((min a b : Nat) : Int) := by
  split <;> omega
theorem max_cast (a b : Nat) : (if ((a : Int) < (b : Int)) then (b : Int) else (a : Int)) = ((max a b : Nat) : Int) := by
  split <;> omega
theorem getD_at {l : List Nat} {k : Nat} (h : k < l.length) : (l.map natD)[k]? = some (natD (l.getD k 0)) := by
  rw [List.getElem?_map, List.getElem?_eq_getElem h, List.getD_eq_getElem?_getD, List.getElem?_eq_getElem h]; rfl
theorem names_of_ok {n : Nat} (hn : 1 ≤ n) {m : Nat} {ps : List (Nat × Nat)} (hm : m ≤ 1000) (hp : ∀ p ∈ ps, p.1 < m ∧ p.2 < m) {X : D} (hX : X = .tup (ps.map pr) ∨ X = .lst (ps.map pr)) :
    callF P n i_names_of [.int m, X] [] = .ok (.lst ((namesL m ps).map natD)) [] := by
  obtain ⟨n, rfl⟩ := Nat.exists_eq_add_of_le' hn
  rw [lev at_names_of]
  refine runB_of rfl ?_
  show Run _ _ [some (.int m), some X, none, none, none, none, none, none] _ _
  refine run_seq (run_set (d := .lst ((List.range m).map natD)) (st1 := []) ?_ (by simp) ?_)
  · exact q_list (by simp [runB, evS, evE, evEs, evT, evI, evB, evR, evTg, evTg.go, Prog.cfg, frz_plain, frzs_plain, D.pure, D.pures, D.scalar, leave_plain, leave_int, leave_bl, leave_non, leave_tup, leave_lst, leave_obj, o_len_tup, o_len_lst, o_len_dct, o_tuple_tup, o_tuple_lst, o_list_tup, o_list_lst, o_min, o_max, o_abs, o_int, o_intb, o_eq, o_ne, o_lt, o_le, o_gt, o_ge, o_add, o_sub, o_ixT0, o_ixT1, o_ixT2, o_ixL0, o_ixL1, o_ixT, o_ixL, t_bl, t_int, i_int, i_bl, i_tup, i_lst, i_non, i_str, i_obj, prs_pure, web_pure, pr_pure, fok_many, fok_pairs, fld_many, fld_pairs]) (by omega)
  refine run_seq (run_for (xs := ps) (enc := pr) (fun i ρ st => st = [] ∧ ∃ o3 o4 o5 o6 o7, ρ = [some (.int m), some X, some (.lst ((namesL m (ps.take i)).map natD)), o3, o4, o5, o6, o7]) (st1 := []) ?_ ⟨rfl, _, _, _, _, _, rfl⟩ ?_ ?_)
  · rcases hX with rfl | rfl
    · exact q_tup (by simp [runB, evS, evE, evEs, evT, evI, evB, evR, evTg, evTg.go, Prog.cfg, frz_plain, frzs_plain, D.pure, D.pures, D.scalar, leave_plain, leave_int, leave_bl, leave_non, leave_tup, leave_lst, leave_obj, o_len_tup, o_len_lst, o_len_dct, o_tuple_tup, o_tuple_lst, o_list_tup, o_list_lst, o_min, o_max, o_abs, o_int, o_intb, o_eq, o_ne, o_lt, o_le, o_gt, o_ge, o_add, o_sub, o_ixT0, o_ixT1, o_ixT2, o_ixL0, o_ixL1, o_ixT, o_ixL, t_bl, t_int, i_int, i_bl, i_tup, i_lst, i_non, i_str, i_obj, prs_pure, web_pure, pr_pure, fok_many, fok_pairs, fld_many, fld_pairs])
    · exact q_lst (by simp [runB, evS, evE, evEs, evT, evI, evB, evR, evTg, evTg.go, Prog.cfg, frz_plain, frzs_plain, D.pure, D.pures, D.scalar, leave_plain, leave_int, leave_bl, leave_non, leave_tup, leave_lst, leave_obj, o_len_tup, o_len_lst, o_len_dct, o_tuple_tup, o_tuple_lst, o_list_tup, o_list_lst, o_min, o_max, o_abs, o_int, o_intb, o_eq, o_ne, o_lt, o_le, o_gt, o_ge, o_add, o_sub, o_ixT0, o_ixT1, o_ixT2, o_ixL0, o_ixL1, o_ixT, o_ixL, t_bl, t_int, i_int, i_bl, i_tup, i_lst, i_non, i_str, i_obj, prs_pure, web_pure, pr_pure, fok_many, fok_pairs, fld_many, fld_pairs])
  · rintro i p ρ st hx ⟨rfl, o3, o4, o5, o6, o7, rfl⟩
    have hpi := hp p (List.mem_of_getElem? hx)
    refine ⟨_, rfl, ?_⟩
    have hl := namesL_len m (ps.take i)
    have ha := getD_at (l := namesL m (ps.take i)) (k := p.1) (by omega)
    have hb := getD_at (l := namesL m (ps.take i)) (k := p.2) (by omega)
    rw [namesL_take m ps hx]
    generalize namesL m (ps.take i) = names at hl ha hb ⊢
    have hpa : (List.map natD names)[p.1]? = some (.int (names.getD p.1 0)) := ha
    have hpb : (List.map natD names)[p.2]? = some (.int (names.getD p.2 0)) := hb
    generalize hA : names.getD p.1 0 = A at hpa
    generalize hB : names.getD p.2 0 = B at hpb
    refine run_ite (v := !decide (A = B)) (st1 := []) ?_ (fun hv => ?_) fun hv => ?_
    · simp [runB, evS, evE, evEs, evT, evI, evB, evR, evTg, evTg.go, Prog.cfg, frz_plain, frzs_plain, D.pure, D.pures, D.scalar, leave_plain, leave_int, leave_bl, leave_non, leave_tup, leave_lst, leave_obj, o_len_tup, o_len_lst, o_len_dct, o_tuple_tup, o_tuple_lst, o_list_tup, o_list_lst, o_min, o_max, o_abs, o_int, o_intb, o_eq, o_ne, o_lt, o_le, o_gt, o_ge, o_add, o_sub, o_ixT0, o_ixT1, o_ixT2, o_ixL0, o_ixL1, o_ixT, o_ixL, t_bl, t_int, i_int, i_bl, i_tup, i_lst, i_non, i_str, i_obj, prs_pure, web_pure, pr_pure, fok_many, fok_pairs, fld_many, fld_pairs, hpa, hpb]
      omega
    · have hv : ¬ A = B := by simpa using hv
      have hj : joinN names p = names.map fun o => if o = max A B then min A B else o := by
        unfold joinN
        rw [hA, hB, if_neg hv]
      rw [hj]
      refine run_seq (run_asg (d := .tup [.int (min A B : Nat), .int (max A B : Nat)]) (st1 := []) (st2 := []) ?_ rfl ?_)
      · have h1 := min_cast A B
        have h2 := max_cast A B
        simp [runB, evS, evE, evEs, evT, evI, evB, evR, evTg, evTg.go, Prog.cfg, frz_plain, frzs_plain, D.pure, D.pures, D.scalar, leave_plain, leave_int, leave_bl, leave_non, leave_tup, leave_lst, leave_obj, o_len_tup, o_len_lst, o_len_dct, o_tuple_tup, o_tuple_lst, o_list_tup, o_list_lst, o_min, o_max, o_abs, o_int, o_intb, o_eq, o_ne, o_lt, o_le, o_gt, o_ge, o_add, o_sub, o_ixT0, o_ixT1, o_ixT2, o_ixL0, o_ixL1, o_ixT, o_ixL, t_bl, t_int, i_int, i_bl, i_tup, i_lst, i_non, i_str, i_obj, prs_pure, web_pure, pr_pure, fok_many, fok_pairs, fld_many, fld_pairs, hpa, hpb, szL]
        exact ⟨by split <;> omega, by split <;> omega⟩
      generalize max A B = M
      generalize min A B = L
      refine run_set (d := .lst ((names.map fun o => if o = M then L else o).map natD)) (st1 := []) ?_ (by simp) ⟨.inl rfl, rfl, _, _, _, _, _, rfl⟩
      rw [List.map_map]
      refine q_lc1 (xs := names) (enc := natD) (q_lst (by simp [runB, evS, evE, evEs, evT, evI, evB, evR, evTg, evTg.go, Prog.cfg, frz_plain, frzs_plain, D.pure, D.pures, D.scalar, leave_plain, leave_int, leave_bl, leave_non, leave_tup, leave_lst, leave_obj, o_len_tup, o_len_lst, o_len_dct, o_tuple_tup, o_tuple_lst, o_list_tup, o_list_lst, o_min, o_max, o_abs, o_int, o_intb, o_eq, o_ne, o_lt, o_le, o_gt, o_ge, o_add, o_sub, o_ixT0, o_ixT1, o_ixT2, o_ixL0, o_ixL1, o_ixT, o_ixL, t_bl, t_int, i_int, i_bl, i_tup, i_lst, i_non, i_str, i_obj, prs_pure, web_pure, pr_pure, fok_many, fok_pairs, fld_many, fld_pairs])) (by show names.length ≤ 16777216; omega) fun o ho => ⟨_, rfl, ?_⟩
      by_cases h3 : o = M
      · simp [runB, evS, evE, evEs, evT, evI, evB, evR, evTg, evTg.go, Prog.cfg, frz_plain, frzs_plain, D.pure, D.pures, D.scalar, leave_plain, leave_int, leave_bl, leave_non, leave_tup, leave_lst, leave_obj, o_len_tup, o_len_lst, o_len_dct, o_tuple_tup, o_tuple_lst, o_list_tup, o_list_lst, o_min, o_max, o_abs, o_int, o_intb, o_eq, o_ne, o_lt, o_le, o_gt, o_ge, o_add, o_sub, o_ixT0, o_ixT1, o_ixT2, o_ixL0, o_ixL1, o_ixT, o_ixL, t_bl, t_int, i_int, i_bl, i_tup, i_lst, i_non, i_str, i_obj, prs_pure, web_pure, pr_pure, fok_many, fok_pairs, fld_many, fld_pairs, natD, wipeE, h3]
      · have h4 : ¬ (o : Int) = (M : Int) := by omega
        simp [runB, evS, evE, evEs, evT, evI, evB, evR, evTg, evTg.go, Prog.cfg, frz_plain, frzs_plain, D.pure, D.pures, D.scalar, leave_plain, leave_int, leave_bl, leave_non, leave_tup, leave_lst, leave_obj, o_len_tup, o_len_lst, o_len_dct, o_tuple_tup, o_tuple_lst, o_list_tup, o_list_lst, o_min, o_max, o_abs, o_int, o_intb, o_eq, o_ne, o_lt, o_le, o_gt, o_ge, o_add, o_sub, o_ixT0, o_ixT1, o_ixT2, o_ixL0, o_ixL1, o_ixT, o_ixL, t_bl, t_int, i_int, i_bl, i_tup, i_lst, i_non, i_str, i_obj, prs_pure, web_pure, pr_pure, fok_many, fok_pairs, fld_many, fld_pairs, natD, wipeE, h3, h4]
    · have hv : A = B := by simpa using hv
      have hj : joinN names p = names := by
        unfold joinN
        rw [hA, hB, if_pos hv]
      rw [hj]
      exact run_skip ⟨.inl rfl, rfl, _, _, _, _, _, rfl⟩
  · rintro ρ st ⟨rfl, o3, o4, o5, o6, o7, rfl⟩
    refine run_ret (d := .lst ((namesL m ps).map natD)) (st1 := []) ?_ ?_
    · simp [runB, evS, evE, evEs, evT, evI, evB, evR, evTg, evTg.go, Prog.cfg, frz_plain, frzs_plain, D.pure, D.pures, D.scalar, leave_plain, leave_int, leave_bl, leave_non, leave_tup, leave_lst, leave_obj, o_len_tup, o_len_lst, o_len_dct, o_tuple_tup, o_tuple_lst, o_list_tup, o_list_lst, o_min, o_max, o_abs, o_int, o_intb, o_eq, o_ne, o_lt, o_le, o_gt, o_ge, o_add, o_sub, o_ixT0, o_ixT1, o_ixT2, o_ixL0, o_ixL1, o_ixT, o_ixL, t_bl, t_int, i_int, i_bl, i_tup, i_lst, i_non, i_str, i_obj, prs_pure, web_pure, pr_pure, fok_many, fok_pairs, fld_many, fld_pairs]
    · simp [runB, evS, evE, evEs, evT, evI, evB, evR, evTg, evTg.go, Prog.cfg, frz_plain, frzs_plain, D.pure, D.pures, D.scalar, leave_plain, leave_int, leave_bl, leave_non, leave_tup, leave_lst, leave_obj, o_len_tup, o_len_lst, o_len_dct, o_tuple_tup, o_tuple_lst, o_list_tup, o_list_lst, o_min, o_max, o_abs, o_int, o_intb, o_eq, o_ne, o_lt, o_le, o_gt, o_ge, o_add, o_sub, o_ixT0, o_ixT1, o_ixT2, o_ixL0, o_ixL1, o_ixT, o_ixL, t_bl, t_int, i_int, i_bl, i_tup, i_lst, i_non, i_str, i_obj, prs_pure, web_pure, pr_pure, fok_many, fok_pairs, fld_many, fld_pairs, natDs_pure]

/-- each once -/
def addN (a : List Nat) (x : Nat) : List Nat := if x ∈ a then a else a ++ [x]
/-- how many names there are -/
def partsN (n : Nat) (ps : List (Nat × Nat)) : Nat := ((namesL n ps).foldl addN []).length
theorem isIn_nat (x : Nat) : ∀ a : List Nat, D.isIn (natD x) (a.map natD) = decide (x ∈ a)
  | [] => rfl
  | y :: a => by
    rw [List.map_cons, D.isIn, isIn_nat x a]
    have : D.peq (natD y) (natD x) = decide (y = x) := by
      simp [natD, D.peq]
      omega
    rw [this]
    by_cases h : y = x
    · simp [h]
    · have h2 : ¬ x = y := fun z => h z.symm
      simp [h, h2]
theorem dc_keys {vf : Nat → D} : ∀ (xs a : List Nat) (vs : List D), (xs.foldl (dcStep natD vf) (a.map natD, vs)).1 = (xs.foldl addN a).map natD
  | [], a, vs => rfl
  | x :: xs, a, vs => by
    rw [List.foldl_cons, List.foldl_cons]
    have : dcStep natD vf (a.map natD, vs) x = ((addN a x).map natD, D.putV (natD x) (vf x) (a.map natD) vs) := by
      unfold dcStep addN
      have h := isIn_nat x a
      by_cases hx : x ∈ a
      · simp [D.putK, h, hx]
      · simp [D.putK, h, hx]
    rw [this]
    exact dc_keys xs _ _
theorem part_number_ok {n : Nat} (hn : 2 ≤ n) {m : Nat} {ps : List (Nat × Nat)} (hm : m ≤ 1000) (hp : ∀ p ∈ ps, p.1 < m ∧ p.2 < m) {X : D} (hX : X = .tup (ps.map pr) ∨ X = .lst (ps.map pr)) :
    callF P n i_part_number [.int m, X] [] = .ok (.int (partsN m ps)) [] := by
  obtain ⟨n, rfl⟩ := Nat.exists_eq_add_of_le' hn
  rw [lev at_part_number]
  refine runB_of rfl ?_
  show Run _ _ [some (.int m), some X, none] _ _
  have h1 : callF P (n + 1) i_names_of [.int m, X] [] = _ := names_of_ok (by omega) hm hp hX
  have hXp : X.pure = true := by rcases hX with rfl | rfl <;> simp [D.pure, prs_pure]
  refine run_ret (d := .int (partsN m ps)) (st1 := []) ?_ rfl
  have h2 : evE (P.cfg (callF P (n + 1)) (callN P (n + 1))) (.dc [2] false (.var 2) (.over (.call i_names_of false (.cons (.var 0) (.cons (.var 1) .nil)))) .yes (.var 2) (.cbl true)) [some (.int m), some X, none] [] = _ :=
    q_dc (xs := namesL m ps) (enc := natD) (kf := natD) (vf := fun _ => .bl true) (st1 := []) (q_lst (ev_call (l := [.int m, X]) (by simp [runB, evS, evE, evEs, evT, evI, evB, evR, evTg, evTg.go, Prog.cfg, frz_plain, frzs_plain, D.pure, D.pures, D.scalar, leave_plain, leave_int, leave_bl, leave_non, leave_tup, leave_lst, leave_obj, o_len_tup, o_len_lst, o_len_dct, o_tuple_tup, o_tuple_lst, o_list_tup, o_list_lst, o_min, o_max, o_abs, o_int, o_intb, o_eq, o_ne, o_lt, o_le, o_gt, o_ge, o_add, o_sub, o_ixT0, o_ixT1, o_ixT2, o_ixL0, o_ixL1, o_ixT, o_ixL, t_bl, t_int, i_int, i_bl, i_tup, i_lst, i_non, i_str, i_obj, prs_pure, web_pure, pr_pure, fok_many, fok_pairs, fld_many, fld_pairs]) (by simp [D.pures, D.pure, hXp]) h1)) (by rw [namesL_len]; omega) fun x hx => ⟨_, rfl, by simp [runB, evS, evE, evEs, evT, evI, evB, evR, evTg, evTg.go, Prog.cfg, frz_plain, frzs_plain, D.pure, D.pures, D.scalar, leave_plain, leave_int, leave_bl, leave_non, leave_tup, leave_lst, leave_obj, o_len_tup, o_len_lst, o_len_dct, o_tuple_tup, o_tuple_lst, o_list_tup, o_list_lst, o_min, o_max, o_abs, o_int, o_intb, o_eq, o_ne, o_lt, o_le, o_gt, o_ge, o_add, o_sub, o_ixT0, o_ixT1, o_ixT2, o_ixL0, o_ixL1, o_ixT, o_ixL, t_bl, t_int, i_int, i_bl, i_tup, i_lst, i_non, i_str, i_obj, prs_pure, web_pure, pr_pure, fok_many, fok_pairs, fld_many, fld_pairs, natD, wipeE], by simp [runB, evS, evE, evEs, evT, evI, evB, evR, evTg, evTg.go, Prog.cfg, frz_plain, frzs_plain, D.pure, D.pures, D.scalar, leave_plain, leave_int, leave_bl, leave_non, leave_tup, leave_lst, leave_obj, o_len_tup, o_len_lst, o_len_dct, o_tuple_tup, o_tuple_lst, o_list_tup, o_list_lst, o_min, o_max, o_abs, o_int, o_intb, o_eq, o_ne, o_lt, o_le, o_gt, o_ge, o_add, o_sub, o_ixT0, o_ixT1, o_ixT2, o_ixL0, o_ixL1, o_ixT, o_ixL, t_bl, t_int, i_int, i_bl, i_tup, i_lst, i_non, i_str, i_obj, prs_pure, web_pure, pr_pure, fok_many, fok_pairs, fld_many, fld_pairs], rfl⟩
  have h3 := dc_keys (vf := fun _ => .bl true) (namesL m ps) [] []
  simp only [evE, evEs] at h2 ⊢
  rw [h2]
  simp only [bnd_ok, o_len_dct, ofO_some]
  rw [show (List.foldl (dcStep natD fun x => D.bl true) ([], []) (namesL m ps)).1 = _ from h3, List.length_map]
  rfl

/-! ### webs made of webs -/
theorem without_ok {n : Nat} (hn : 4 ≤ n) {m k : Nat} {ps : List (Nat × Nat)} (hl : ps.length ≤ 1000) (hp : ∀ p ∈ ps, p.1 < m ∧ p.2 < m) : callF P n i_without [webD m ps, .int k] [] = .ok (webD m (ps.eraseIdx k)) [] := by
  obtain ⟨n, rfl⟩ := Nat.exists_eq_add_of_le' hn
  rw [lev at_without]
  refine runB_of rfl ?_
  show Run _ _ [some (webD m ps), some (.int k)] _ _
  have hlen : (ps.eraseIdx k).length ≤ 1000 := Nat.le_trans (List.length_eraseIdx_le ..) hl
  have h1 : newF P (callF P (n + 3)) 0 [.int m, .tup ((ps.eraseIdx k).map pr)] = _ := new_web (n := n + 3) (by omega) hlen (fun p h => hp p (List.mem_of_mem_eraseIdx h)) (.inl rfl)
  have h2 : (ps.map pr).take k ++ (ps.map pr).drop (k + 1) = (ps.eraseIdx k).map pr := by
    rw [List.eraseIdx_eq_take_drop_succ, List.map_append, List.map_take, List.map_drop]
  have h3 : opBin .add [] (.tup ((ps.map pr).take k)) (.tup ((ps.map pr).drop (k + 1))) = some (.tup ((ps.eraseIdx k).map pr)) := by
    rw [o_addT, h2]
    show _ ≤ 16777216
    rw [List.length_take, List.length_drop, List.length_map]
    omega
  refine run_ret (d := webD m (ps.eraseIdx k)) (st1 := []) ?_ (by simp [runB, evS, evE, evEs, evT, evI, evB, evR, evTg, evTg.go, Prog.cfg, frz_plain, frzs_plain, D.pure, D.pures, D.scalar, leave_plain, leave_int, leave_bl, leave_non, leave_tup, leave_lst, leave_obj, o_len_tup, o_len_lst, o_len_dct, o_tuple_tup, o_tuple_lst, o_list_tup, o_list_lst, o_min, o_max, o_abs, o_int, o_intb, o_eq, o_ne, o_lt, o_le, o_gt, o_ge, o_add, o_sub, o_ixT0, o_ixT1, o_ixT2, o_ixL0, o_ixL1, o_ixT, o_ixL, t_bl, t_int, i_int, i_bl, i_tup, i_lst, i_non, i_str, i_obj, prs_pure, web_pure, pr_pure, fok_many, fok_pairs, fld_many, fld_pairs])
  simp [runB, evS, evE, evEs, evT, evI, evB, evR, evTg, evTg.go, Prog.cfg, frz_plain, frzs_plain, D.pure, D.pures, D.scalar, leave_plain, leave_int, leave_bl, leave_non, leave_tup, leave_lst, leave_obj, o_len_tup, o_len_lst, o_len_dct, o_tuple_tup, o_tuple_lst, o_list_tup, o_list_lst, o_min, o_max, o_abs, o_int, o_intb, o_eq, o_ne, o_lt, o_le, o_gt, o_ge, o_add, o_sub, o_ixT0, o_ixT1, o_ixT2, o_ixL0, o_ixL1, o_ixT, o_ixL, t_bl, t_int, i_int, i_bl, i_tup, i_lst, i_non, i_str, i_obj, prs_pure, web_pure, pr_pure, fok_many, fok_pairs, fld_many, fld_pairs, o_slT, cut_take, cut_drop1, h3, h1]
theorem is_loop_ok {n : Nat} (hn : 1 ≤ n) {m k : Nat} {ps : List (Nat × Nat)} {p : Nat × Nat} (hk : ps[k]? = some p) : callF P n i_is_loop [webD m ps, .int k] [] = .ok (.bl (decide (p.1 = p.2))) [] := by
  obtain ⟨n, rfl⟩ := Nat.exists_eq_add_of_le' hn
  rw [lev at_is_loop]
  refine runB_of rfl ?_
  show Run _ _ [some (webD m ps), some (.int k)] _ _
  have h1 : (ps.map pr)[k]? = some (.tup [.int p.1, .int p.2]) := by rw [List.getElem?_map, hk]; rfl
  refine run_ret (d := .bl (decide (p.1 = p.2))) (st1 := []) ?_ rfl
  simp [runB, evS, evE, evEs, evT, evI, evB, evR, evTg, evTg.go, Prog.cfg, frz_plain, frzs_plain, D.pure, D.pures, D.scalar, leave_plain, leave_int, leave_bl, leave_non, leave_tup, leave_lst, leave_obj, o_len_tup, o_len_lst, o_len_dct, o_tuple_tup, o_tuple_lst, o_list_tup, o_list_lst, o_min, o_max, o_abs, o_int, o_intb, o_eq, o_ne, o_lt, o_le, o_gt, o_ge, o_add, o_sub, o_ixT0, o_ixT1, o_ixT2, o_ixL0, o_ixL1, o_ixT, o_ixL, t_bl, t_int, i_int, i_bl, i_tup, i_lst, i_non, i_str, i_obj, prs_pure, web_pure, pr_pure, fok_many, fok_pairs, fld_many, fld_pairs, h1]
  omega
theorem is_bridge_ok {n : Nat} (hn : 5 ≤ n) {m k : Nat} {ps : List (Nat × Nat)} (hm : m ≤ 1000) (hl : ps.length ≤ 1000) (hp : ∀ p ∈ ps, p.1 < m ∧ p.2 < m) :
    callF P n i_is_bridge [webD m ps, .int k] [] = .ok (.bl (decide (partsN m ps < partsN m (ps.eraseIdx k)))) [] := by
  obtain ⟨n, rfl⟩ := Nat.exists_eq_add_of_le' hn
  rw [lev at_is_bridge]
  refine runB_of rfl ?_
  show Run _ _ [some (webD m ps), some (.int k)] _ _
  have h1 : callF P (n + 4) i_without [webD m ps, .int k] [] = _ := without_ok (by omega) hl hp
  have h2 : callF P (n + 4) i_part_number [.int m, .tup (ps.map pr)] [] = _ := part_number_ok (by omega) hm hp (.inl rfl)
  have h3 : callF P (n + 4) i_part_number [.int m, .tup ((ps.eraseIdx k).map pr)] [] = _ := part_number_ok (by omega) hm (fun p h => hp p (List.mem_of_mem_eraseIdx h)) (.inl rfl)
  refine run_ret (d := .bl (decide (partsN m ps < partsN m (ps.eraseIdx k)))) (st1 := []) ?_ rfl
  simp [runB, evS, evE, evEs, evT, evI, evB, evR, evTg, evTg.go, Prog.cfg, frz_plain, frzs_plain, D.pure, D.pures, D.scalar, leave_plain, leave_int, leave_bl, leave_non, leave_tup, leave_lst, leave_obj, o_len_tup, o_len_lst, o_len_dct, o_tuple_tup, o_tuple_lst, o_list_tup, o_list_lst, o_min, o_max, o_abs, o_int, o_intb, o_eq, o_ne, o_lt, o_le, o_gt, o_ge, o_add, o_sub, o_ixT0, o_ixT1, o_ixT2, o_ixL0, o_ixL1, o_ixT, o_ixL, t_bl, t_int, i_int, i_bl, i_tup, i_lst, i_non, i_str, i_obj, prs_pure, web_pure, pr_pure, fok_many, fok_pairs, fld_many, fld_pairs, h1, h2, h3]

/-! ### joined -/
def renN (p : Nat × Nat) (o : Nat) : Nat := if o = max p.1 p.2 then min p.1 p.2 else if max p.1 p.2 < o then o - 1 else o
def joinedL (ps : List (Nat × Nat)) (k : Nat) (p : Nat × Nat) : List (Nat × Nat) := (ps.eraseIdx k).map fun q => (renN p q.1, renN p q.2)
theorem renN_lt {p : Nat × Nat} {m o : Nat} (hp : p.1 < m ∧ p.2 < m) (hne : p.1 ≠ p.2) (ho : o < m) : renN p o < m - 1 := by
  unfold renN
  split
  · omega
  · split <;> omega
theorem joined_ok {n : Nat} (hn : 4 ≤ n) {m k : Nat} {ps : List (Nat × Nat)} {p : Nat × Nat} (hm : m ≤ 1000) (hl : ps.length ≤ 1000) (hp : ∀ p ∈ ps, p.1 < m ∧ p.2 < m) (hk : ps[k]? = some p) (hne : p.1 ≠ p.2) :
    callF P n i_joined [webD m ps, .int k] [] = .ok (webD (m - 1) (joinedL ps k p)) [] := by
  obtain ⟨n, rfl⟩ := Nat.exists_eq_add_of_le' hn
  have hpk := hp p (List.mem_of_getElem? hk)
  have hlen : (ps.eraseIdx k).length ≤ 1000 := Nat.le_trans (List.length_eraseIdx_le ..) hl
  have hpe : ∀ q ∈ ps.eraseIdx k, q.1 < m ∧ q.2 < m := fun q h => hp q (List.mem_of_mem_eraseIdx h)
  rw [lev at_joined]
  refine runB_of rfl ?_
  show Run _ _ [some (webD m ps), some (.int k), none, none, none, none, none, none, none, none, none] _ _
  have h1 : (ps.map pr)[k]? = some (.tup [.int p.1, .int p.2]) := by rw [List.getElem?_map, hk]; rfl
  refine run_seq (run_asg (d := .tup [.int p.1, .int p.2]) (st1 := []) (st2 := []) (by simp [runB, evS, evE, evEs, evT, evI, evB, evR, evTg, evTg.go, Prog.cfg, frz_plain, frzs_plain, D.pure, D.pures, D.scalar, leave_plain, leave_int, leave_bl, leave_non, leave_tup, leave_lst, leave_obj, o_len_tup, o_len_lst, o_len_dct, o_tuple_tup, o_tuple_lst, o_list_tup, o_list_lst, o_min, o_max, o_abs, o_int, o_intb, o_eq, o_ne, o_lt, o_le, o_gt, o_ge, o_add, o_sub, o_ixT0, o_ixT1, o_ixT2, o_ixL0, o_ixL1, o_ixT, o_ixL, t_bl, t_int, i_int, i_bl, i_tup, i_lst, i_non, i_str, i_obj, prs_pure, web_pure, pr_pure, fok_many, fok_pairs, fld_many, fld_pairs, h1]) rfl ?_)
  refine run_seq (run_asg (d := .tup [.int (min p.1 p.2 : Nat), .int (max p.1 p.2 : Nat)]) (st1 := []) (st2 := []) ?_ rfl ?_)
  · simp [runB, evS, evE, evEs, evT, evI, evB, evR, evTg, evTg.go, Prog.cfg, frz_plain, frzs_plain, D.pure, D.pures, D.scalar, leave_plain, leave_int, leave_bl, leave_non, leave_tup, leave_lst, leave_obj, o_len_tup, o_len_lst, o_len_dct, o_tuple_tup, o_tuple_lst, o_list_tup, o_list_lst, o_min, o_max, o_abs, o_int, o_intb, o_eq, o_ne, o_lt, o_le, o_gt, o_ge, o_add, o_sub, o_ixT0, o_ixT1, o_ixT2, o_ixL0, o_ixL1, o_ixT, o_ixL, t_bl, t_int, i_int, i_bl, i_tup, i_lst, i_non, i_str, i_obj, prs_pure, web_pure, pr_pure, fok_many, fok_pairs, fld_many, fld_pairs, szL]
    exact ⟨by split <;> omega, by split <;> omega⟩
  have hMm : min p.1 p.2 ≠ max p.1 p.2 := by omega
  have hMl : max p.1 p.2 < m := by omega
  have hren : ∀ o, renN p o = if o = max p.1 p.2 then min p.1 p.2 else if max p.1 p.2 < o then o - 1 else o := fun o => rfl
  generalize max p.1 p.2 = M at hMm hMl hren ⊢
  generalize min p.1 p.2 = L at hMm hren ⊢
  refine run_seq (run_else (st1 := []) (by simp [runB, evS, evE, evEs, evT, evI, evB, evR, evTg, evTg.go, Prog.cfg, frz_plain, frzs_plain, D.pure, D.pures, D.scalar, leave_plain, leave_int, leave_bl, leave_non, leave_tup, leave_lst, leave_obj, o_len_tup, o_len_lst, o_len_dct, o_tuple_tup, o_tuple_lst, o_list_tup, o_list_lst, o_min, o_max, o_abs, o_int, o_intb, o_eq, o_ne, o_lt, o_le, o_gt, o_ge, o_add, o_sub, o_ixT0, o_ixT1, o_ixT2, o_ixL0, o_ixL1, o_ixT, o_ixL, t_bl, t_int, i_int, i_bl, i_tup, i_lst, i_non, i_str, i_obj, prs_pure, web_pure, pr_pure, fok_many, fok_pairs, fld_many, fld_pairs]; omega) (run_skip ?_))
  refine run_seq (run_set (d := .lst ((List.range m).map fun o => natD (renN p o))) (st1 := []) ?_ (by simp) ?_)
  · refine q_lc1 (xs := List.range m) (enc := natD) (q_rng (by simp [runB, evS, evE, evEs, evT, evI, evB, evR, evTg, evTg.go, Prog.cfg, frz_plain, frzs_plain, D.pure, D.pures, D.scalar, leave_plain, leave_int, leave_bl, leave_non, leave_tup, leave_lst, leave_obj, o_len_tup, o_len_lst, o_len_dct, o_tuple_tup, o_tuple_lst, o_list_tup, o_list_lst, o_min, o_max, o_abs, o_int, o_intb, o_eq, o_ne, o_lt, o_le, o_gt, o_ge, o_add, o_sub, o_ixT0, o_ixT1, o_ixT2, o_ixL0, o_ixL1, o_ixT, o_ixL, t_bl, t_int, i_int, i_bl, i_tup, i_lst, i_non, i_str, i_obj, prs_pure, web_pure, pr_pure, fok_many, fok_pairs, fld_many, fld_pairs]) (by omega)) (by rw [List.length_range]; show m ≤ 16777216; omega) fun o ho => ⟨_, rfl, ?_⟩
    rw [hren]
    by_cases h3 : o = M
    · simp [runB, evS, evE, evEs, evT, evI, evB, evR, evTg, evTg.go, Prog.cfg, frz_plain, frzs_plain, D.pure, D.pures, D.scalar, leave_plain, leave_int, leave_bl, leave_non, leave_tup, leave_lst, leave_obj, o_len_tup, o_len_lst, o_len_dct, o_tuple_tup, o_tuple_lst, o_list_tup, o_list_lst, o_min, o_max, o_abs, o_int, o_intb, o_eq, o_ne, o_lt, o_le, o_gt, o_ge, o_add, o_sub, o_ixT0, o_ixT1, o_ixT2, o_ixL0, o_ixL1, o_ixT, o_ixL, t_bl, t_int, i_int, i_bl, i_tup, i_lst, i_non, i_str, i_obj, prs_pure, web_pure, pr_pure, fok_many, fok_pairs, fld_many, fld_pairs, natD, wipeE, h3]
    · have h4 : ¬ (o : Int) = (M : Int) := by omega
      by_cases h5 : M < o
      · simp [runB, evS, evE, evEs, evT, evI, evB, evR, evTg, evTg.go, Prog.cfg, frz_plain, frzs_plain, D.pure, D.pures, D.scalar, leave_plain, leave_int, leave_bl, leave_non, leave_tup, leave_lst, leave_obj, o_len_tup, o_len_lst, o_len_dct, o_tuple_tup, o_tuple_lst, o_list_tup, o_list_lst, o_min, o_max, o_abs, o_int, o_intb, o_eq, o_ne, o_lt, o_le, o_gt, o_ge, o_add, o_sub, o_ixT0, o_ixT1, o_ixT2, o_ixL0, o_ixL1, o_ixT, o_ixL, t_bl, t_int, i_int, i_bl, i_tup, i_lst, i_non, i_str, i_obj, prs_pure, web_pure, pr_pure, fok_many, fok_pairs, fld_many, fld_pairs, natD, wipeE, h3, h4, h5]
        omega
      · simp [runB, evS, evE, evEs, evT, evI, evB, evR, evTg, evTg.go, Prog.cfg, frz_plain, frzs_plain, D.pure, D.pures, D.scalar, leave_plain, leave_int, leave_bl, leave_non, leave_tup, leave_lst, leave_obj, o_len_tup, o_len_lst, o_len_dct, o_tuple_tup, o_tuple_lst, o_list_tup, o_list_lst, o_min, o_max, o_abs, o_int, o_intb, o_eq, o_ne, o_lt, o_le, o_gt, o_ge, o_add, o_sub, o_ixT0, o_ixT1, o_ixT2, o_ixL0, o_ixL1, o_ixT, o_ixL, t_bl, t_int, i_int, i_bl, i_tup, i_lst, i_non, i_str, i_obj, prs_pure, web_pure, pr_pure, fok_many, fok_pairs, fld_many, fld_pairs, natD, wipeE, h3, h4, h5]
  have h2 : (ps.map pr).take k ++ (ps.map pr).drop (k + 1) = (ps.eraseIdx k).map pr := by
    rw [List.eraseIdx_eq_take_drop_succ, List.map_append, List.map_take, List.map_drop]
  have h3 : opBin .add [] (.tup ((ps.map pr).take k)) (.tup ((ps.map pr).drop (k + 1))) = some (.tup ((ps.eraseIdx k).map pr)) := by
    rw [o_addT, h2]
    show _ ≤ 16777216
    rw [List.length_take, List.length_drop, List.length_map]
    omega
  refine run_seq (run_set (d := .tup ((ps.eraseIdx k).map pr)) (st1 := []) ?_ (by simp) ?_)
  · simp [runB, evS, evE, evEs, evT, evI, evB, evR, evTg, evTg.go, Prog.cfg, frz_plain, frzs_plain, D.pure, D.pures, D.scalar, leave_plain, leave_int, leave_bl, leave_non, leave_tup, leave_lst, leave_obj, o_len_tup, o_len_lst, o_len_dct, o_tuple_tup, o_tuple_lst, o_list_tup, o_list_lst, o_min, o_max, o_abs, o_int, o_intb, o_eq, o_ne, o_lt, o_le, o_gt, o_ge, o_add, o_sub, o_ixT0, o_ixT1, o_ixT2, o_ixL0, o_ixL1, o_ixT, o_ixL, t_bl, t_int, i_int, i_bl, i_tup, i_lst, i_non, i_str, i_obj, prs_pure, web_pure, pr_pure, fok_many, fok_pairs, fld_many, fld_pairs, o_slT, cut_take, cut_drop1, h3]
  have h4 : newF P (callF P (n + 3)) 0 [.int (m - 1 : Nat), .lst ((joinedL ps k p).map pr)] = _ := new_web (n := n + 3) (by omega) (by unfold joinedL; rw [List.length_map]; exact hlen) (fun q h => by
    unfold joinedL at h
    rw [List.mem_map] at h
    obtain ⟨r, hr, rfl⟩ := h
    have := hpe r hr
    exact ⟨renN_lt hpk hne this.1, renN_lt hpk hne this.2⟩) (.inr rfl)
  refine run_ret (d := webD (m - 1) (joinedL ps k p)) (st1 := []) ?_ (by simp [runB, evS, evE, evEs, evT, evI, evB, evR, evTg, evTg.go, Prog.cfg, frz_plain, frzs_plain, D.pure, D.pures, D.scalar, leave_plain, leave_int, leave_bl, leave_non, leave_tup, leave_lst, leave_obj, o_len_tup, o_len_lst, o_len_dct, o_tuple_tup, o_tuple_lst, o_list_tup, o_list_lst, o_min, o_max, o_abs, o_int, o_intb, o_eq, o_ne, o_lt, o_le, o_gt, o_ge, o_add, o_sub, o_ixT0, o_ixT1, o_ixT2, o_ixL0, o_ixL1, o_ixT, o_ixL, t_bl, t_int, i_int, i_bl, i_tup, i_lst, i_non, i_str, i_obj, prs_pure, web_pure, pr_pure, fok_many, fok_pairs, fld_many, fld_pairs])
  have h7 : ((m : Int) - 1) = ((m - 1 : Nat) : Int) := by omega
  refine ev_make (l := [.int (m - 1 : Nat), .lst ((joinedL ps k p).map pr)]) (st1 := []) (es2 (st1 := []) ?_ ?_) (by simp [runB, evS, evE, evEs, evT, evI, evB, evR, evTg, evTg.go, Prog.cfg, frz_plain, frzs_plain, D.pure, D.pures, D.scalar, leave_plain, leave_int, leave_bl, leave_non, leave_tup, leave_lst, leave_obj, o_len_tup, o_len_lst, o_len_dct, o_tuple_tup, o_tuple_lst, o_list_tup, o_list_lst, o_min, o_max, o_abs, o_int, o_intb, o_eq, o_ne, o_lt, o_le, o_gt, o_ge, o_add, o_sub, o_ixT0, o_ixT1, o_ixT2, o_ixL0, o_ixL1, o_ixT, o_ixL, t_bl, t_int, i_int, i_bl, i_tup, i_lst, i_non, i_str, i_obj, prs_pure, web_pure, pr_pure, fok_many, fok_pairs, fld_many, fld_pairs]) h4
  · simp [runB, evS, evE, evEs, evT, evI, evB, evR, evTg, evTg.go, Prog.cfg, frz_plain, frzs_plain, D.pure, D.pures, D.scalar, leave_plain, leave_int, leave_bl, leave_non, leave_tup, leave_lst, leave_obj, o_len_tup, o_len_lst, o_len_dct, o_tuple_tup, o_tuple_lst, o_list_tup, o_list_lst, o_min, o_max, o_abs, o_int, o_intb, o_eq, o_ne, o_lt, o_le, o_gt, o_ge, o_add, o_sub, o_ixT0, o_ixT1, o_ixT2, o_ixL0, o_ixL1, o_ixT, o_ixL, t_bl, t_int, i_int, i_bl, i_tup, i_lst, i_non, i_str, i_obj, prs_pure, web_pure, pr_pure, fok_many, fok_pairs, fld_many, fld_pairs, h7]
  · unfold joinedL
    rw [List.map_map]
    refine q_lc1 (xs := ps.eraseIdx k) (enc := pr) (q_tup (by simp [runB, evS, evE, evEs, evT, evI, evB, evR, evTg, evTg.go, Prog.cfg, frz_plain, frzs_plain, D.pure, D.pures, D.scalar, leave_plain, leave_int, leave_bl, leave_non, leave_tup, leave_lst, leave_obj, o_len_tup, o_len_lst, o_len_dct, o_tuple_tup, o_tuple_lst, o_list_tup, o_list_lst, o_min, o_max, o_abs, o_int, o_intb, o_eq, o_ne, o_lt, o_le, o_gt, o_ge, o_add, o_sub, o_ixT0, o_ixT1, o_ixT2, o_ixL0, o_ixL1, o_ixT, o_ixL, t_bl, t_int, i_int, i_bl, i_tup, i_lst, i_non, i_str, i_obj, prs_pure, web_pure, pr_pure, fok_many, fok_pairs, fld_many, fld_pairs])) (by show _ ≤ 16777216; omega) fun q hq => ⟨_, rfl, ?_⟩
    have hq' := hpe q hq
    have e1 : ((List.range m).map fun o => natD (renN p o))[q.1]? = some (natD (renN p q.1)) := by simp [hq'.1]
    have e2 : ((List.range m).map fun o => natD (renN p o))[q.2]? = some (natD (renN p q.2)) := by simp [hq'.2]
    refine ev_tup (es2 (st1 := []) (ev_ix (st1 := []) (ev_var rfl) (ev_var rfl) ((o_ixL _ _).trans e1)) (ev_ix (st1 := []) (ev_var rfl) (ev_var rfl) ((o_ixL _ _).trans e2))) (by show 2 ≤ 16777216; omega)

/-! ### powers, rows -/
theorem small64 {v : Int} (h : v.natAbs ≤ 1000) : v.natAbs < 2 ^ 64 := Nat.lt_of_le_of_lt h (by decide)
theorem taken_ok {n : Nat} (hn : 1 ≤ n) {v : Int} {t : Nat} (hv : v.natAbs ≤ 1000) (ht : t ≤ 1000) : callF P n i_taken [.int v, .int t] [] = .ok (.int (v ^ t)) [] := by
  obtain ⟨n, rfl⟩ := Nat.exists_eq_add_of_le' hn
  rw [lev at_taken]
  refine runB_of rfl ?_
  show Run _ _ [some (.int v), some (.int t), none, none] _ _
  refine run_seq (run_set (d := .int 1) (st1 := []) (by simp [runB, evS, evE, evEs, evT, evI, evB, evR, evTg, evTg.go, Prog.cfg, frz_plain, frzs_plain, D.pure, D.pures, D.scalar, leave_plain, leave_int, leave_bl, leave_non, leave_tup, leave_lst, leave_obj, o_len_tup, o_len_lst, o_len_dct, o_tuple_tup, o_tuple_lst, o_list_tup, o_list_lst, o_min, o_max, o_abs, o_int, o_intb, o_eq, o_ne, o_lt, o_le, o_gt, o_ge, o_add, o_sub, o_ixT0, o_ixT1, o_ixT2, o_ixL0, o_ixL1, o_ixT, o_ixL, t_bl, t_int, i_int, i_bl, i_tup, i_lst, i_non, i_str, i_obj, prs_pure, web_pure, pr_pure, fok_many, fok_pairs, fld_many, fld_pairs]) (by simp) ?_)
  refine run_seq (run_for (xs := List.range t) (enc := natD) (fun i ρ st => st = [] ∧ ∃ o, ρ = [some (.int v), some (.int t), some (.int (v ^ i)), o]) (st1 := []) (q_rng (by simp [runB, evS, evE, evEs, evT, evI, evB, evR, evTg, evTg.go, Prog.cfg, frz_plain, frzs_plain, D.pure, D.pures, D.scalar, leave_plain, leave_int, leave_bl, leave_non, leave_tup, leave_lst, leave_obj, o_len_tup, o_len_lst, o_len_dct, o_tuple_tup, o_tuple_lst, o_list_tup, o_list_lst, o_min, o_max, o_abs, o_int, o_intb, o_eq, o_ne, o_lt, o_le, o_gt, o_ge, o_add, o_sub, o_ixT0, o_ixT1, o_ixT2, o_ixL0, o_ixL1, o_ixT, o_ixL, t_bl, t_int, i_int, i_bl, i_tup, i_lst, i_non, i_str, i_obj, prs_pure, web_pure, pr_pure, fok_many, fok_pairs, fld_many, fld_pairs]) (by omega)) ⟨rfl, none, by rw [Int.pow_zero]; rfl⟩ ?_ ?_)
  · rintro i x ρ st hx ⟨rfl, o, rfl⟩
    have : opAug .mul (.int (v ^ i)) (.int v) = some (.int (v ^ (i + 1))) := by
      have h := small64 hv
      rw [Int.pow_succ]
      show (if _ then _ else _) = _
      rw [if_pos (.inr h)]
    exact ⟨_, rfl, run_aug (y := .int v) (st1 := []) rfl (by simp [runB, evS, evE, evEs, evT, evI, evB, evR, evTg, evTg.go, Prog.cfg, frz_plain, frzs_plain, D.pure, D.pures, D.scalar, leave_plain, leave_int, leave_bl, leave_non, leave_tup, leave_lst, leave_obj, o_len_tup, o_len_lst, o_len_dct, o_tuple_tup, o_tuple_lst, o_list_tup, o_list_lst, o_min, o_max, o_abs, o_int, o_intb, o_eq, o_ne, o_lt, o_le, o_gt, o_ge, o_add, o_sub, o_ixT0, o_ixT1, o_ixT2, o_ixL0, o_ixL1, o_ixT, o_ixL, t_bl, t_int, i_int, i_bl, i_tup, i_lst, i_non, i_str, i_obj, prs_pure, web_pure, pr_pure, fok_many, fok_pairs, fld_many, fld_pairs]) this ⟨.inl rfl, rfl, _, rfl⟩⟩
  · rintro ρ st ⟨rfl, o, rfl⟩
    refine run_ret (d := .int (v ^ t)) (st1 := []) ?_ rfl
    simp [runB, evS, evE, evEs, evT, evI, evB, evR, evTg, evTg.go, Prog.cfg, frz_plain, frzs_plain, D.pure, D.pures, D.scalar, leave_plain, leave_int, leave_bl, leave_non, leave_tup, leave_lst, leave_obj, o_len_tup, o_len_lst, o_len_dct, o_tuple_tup, o_tuple_lst, o_list_tup, o_list_lst, o_min, o_max, o_abs, o_int, o_intb, o_eq, o_ne, o_lt, o_le, o_gt, o_ge, o_add, o_sub, o_ixT0, o_ixT1, o_ixT2, o_ixL0, o_ixL1, o_ixT, o_ixL, t_bl, t_int, i_int, i_bl, i_tup, i_lst, i_non, i_str, i_obj, prs_pure, web_pure, pr_pure, fok_many, fok_pairs, fld_many, fld_pairs]
def rowD (r : List Nat) : D := .tup (r.map natD)
theorem rowD_pure (r : List Nat) : (rowD r).pure = true := by simp [rowD, D.pure, natDs_pure]
theorem rows_pure (l : List (List Nat)) : D.pures (l.map rowD) = true := pures_map rowD_pure l
/-- all rows of colours, as the program makes them -/
def rowsL (q : Nat) : Nat → List (List Nat)
  | 0 => [[]]
  | n + 1 => (rowsL q n).flatMap fun r => (List.range q).map fun o => r ++ [o]
theorem rowsL_len (q : Nat) : ∀ n, (rowsL q n).length = q ^ n
  | 0 => rfl
  | n + 1 => by
    have h : ∀ l : List (List Nat), (l.map fun _ => q).sum = l.length * q := by
      intro l
      induction l with
      | nil => simp
      | cons a l ih => rw [List.map_cons, List.sum_cons, ih, List.length_cons, Nat.succ_mul]; omega
    rw [rowsL, List.length_flatMap, Nat.pow_succ, ← rowsL_len q n, ← h]
    simp
theorem rowsL_row (q : Nat) : ∀ n, ∀ r ∈ rowsL q n, r.length = n
  | 0, r, h => by simp [rowsL] at h; simp [h]
  | n + 1, r, h => by
    rw [rowsL, List.mem_flatMap] at h
    obtain ⟨r', h1, h2⟩ := h
    rw [List.mem_map] at h2
    obtain ⟨o, _, rfl⟩ := h2
    rw [List.length_append, rowsL_row q n r' h1]; rfl
theorem rowsL_lt (q : Nat) : ∀ n, ∀ r ∈ rowsL q n, ∀ o ∈ r, o < q
  | 0, r, h => by simp [rowsL] at h; simp [h]
  | n + 1, r, h => by
    rw [rowsL, List.mem_flatMap] at h
    obtain ⟨r', h1, h2⟩ := h
    rw [List.mem_map] at h2
    obtain ⟨o, ho, rfl⟩ := h2
    intro x hx
    rw [List.mem_append] at hx
    rcases hx with hx | hx
    · exact rowsL_lt q n r' h1 x hx
    · rw [List.mem_singleton] at hx
      subst hx
      exact List.mem_range.mp ho
theorem all_rows_ok {n : Nat} (hn : 1 ≤ n) {m q : Nat} (hm : m ≤ 8) (hq : q ≤ 4) : callF P n i_all_rows [.int m, .int q] [] = .ok (.lst ((rowsL q m).map rowD)) [] := by
  obtain ⟨n, rfl⟩ := Nat.exists_eq_add_of_le' hn
  rw [lev at_all_rows]
  refine runB_of rfl ?_
  show Run _ _ [some (.int m), some (.int q), none, none, none, none] _ _
  refine run_seq (run_set (d := .lst ((rowsL q 0).map rowD)) (st1 := []) ?_ (by simp) ?_)
  · simp [runB, evS, evE, evEs, evT, evI, evB, evR, evTg, evTg.go, Prog.cfg, frz_plain, frzs_plain, D.pure, D.pures, D.scalar, leave_plain, leave_int, leave_bl, leave_non, leave_tup, leave_lst, leave_obj, o_len_tup, o_len_lst, o_len_dct, o_tuple_tup, o_tuple_lst, o_list_tup, o_list_lst, o_min, o_max, o_abs, o_int, o_intb, o_eq, o_ne, o_lt, o_le, o_gt, o_ge, o_add, o_sub, o_ixT0, o_ixT1, o_ixT2, o_ixL0, o_ixL1, o_ixT, o_ixL, t_bl, t_int, i_int, i_bl, i_tup, i_lst, i_non, i_str, i_obj, prs_pure, web_pure, pr_pure, fok_many, fok_pairs, fld_many, fld_pairs, rowsL, rowD, szL]
  refine run_seq (run_for (xs := List.range m) (enc := natD) (fun i ρ st => st = [] ∧ ∃ o3 o4 o5, ρ = [some (.int m), some (.int q), some (.lst ((rowsL q i).map rowD)), o3, o4, o5]) (st1 := []) (q_rng (by simp [runB, evS, evE, evEs, evT, evI, evB, evR, evTg, evTg.go, Prog.cfg, frz_plain, frzs_plain, D.pure, D.pures, D.scalar, leave_plain, leave_int, leave_bl, leave_non, leave_tup, leave_lst, leave_obj, o_len_tup, o_len_lst, o_len_dct, o_tuple_tup, o_tuple_lst, o_list_tup, o_list_lst, o_min, o_max, o_abs, o_int, o_intb, o_eq, o_ne, o_lt, o_le, o_gt, o_ge, o_add, o_sub, o_ixT0, o_ixT1, o_ixT2, o_ixL0, o_ixL1, o_ixT, o_ixL, t_bl, t_int, i_int, i_bl, i_tup, i_lst, i_non, i_str, i_obj, prs_pure, web_pure, pr_pure, fok_many, fok_pairs, fld_many, fld_pairs]) (by omega)) ⟨rfl, _, _, _, rfl⟩ ?_ ?_)
  · rintro i x ρ st hx ⟨rfl, o3, o4, o5, rfl⟩
    obtain ⟨rfl, hi⟩ := q_rngat hx
    refine ⟨_, rfl, ?_⟩
    have hlen : (rowsL q (x + 1)).length ≤ 65536 := by
      rw [rowsL_len]
      exact Nat.le_trans (Nat.pow_le_pow_left hq _) (Nat.le_trans (Nat.pow_le_pow_right (by decide) (show x + 1 ≤ 8 by omega)) (by decide))
    have hrow : ((rowsL q (x + 1)).map rowD) = (rowsL q x).flatMap fun r => (List.range q).map fun o => rowD (r ++ [o]) := by
      rw [rowsL, List.map_flatMap]
      simp [List.map_map]
      rfl
    refine run_set (d := .lst ((rowsL q (x + 1)).map rowD)) (st1 := []) ?_ (by simp) ⟨.inl rfl, rfl, _, _, _, rfl⟩
    rw [hrow]
    refine q_lc2 (xs := rowsL q x) (enc := rowD) (ys := fun _ => List.range q) (enc1 := natD) (f := fun r o => rowD (r ++ [o])) (q_lst (by simp [runB, evS, evE, evEs, evT, evI, evB, evR, evTg, evTg.go, Prog.cfg, frz_plain, frzs_plain, D.pure, D.pures, D.scalar, leave_plain, leave_int, leave_bl, leave_non, leave_tup, leave_lst, leave_obj, o_len_tup, o_len_lst, o_len_dct, o_tuple_tup, o_tuple_lst, o_list_tup, o_list_lst, o_min, o_max, o_abs, o_int, o_intb, o_eq, o_ne, o_lt, o_le, o_gt, o_ge, o_add, o_sub, o_ixT0, o_ixT1, o_ixT2, o_ixL0, o_ixL1, o_ixT, o_ixL, t_bl, t_int, i_int, i_bl, i_tup, i_lst, i_non, i_str, i_obj, prs_pure, web_pure, pr_pure, fok_many, fok_pairs, fld_many, fld_pairs])) ?_ fun r hr => ⟨_, rfl, q_rng (by simp [runB, evS, evE, evEs, evT, evI, evB, evR, evTg, evTg.go, Prog.cfg, frz_plain, frzs_plain, D.pure, D.pures, D.scalar, leave_plain, leave_int, leave_bl, leave_non, leave_tup, leave_lst, leave_obj, o_len_tup, o_len_lst, o_len_dct, o_tuple_tup, o_tuple_lst, o_list_tup, o_list_lst, o_min, o_max, o_abs, o_int, o_intb, o_eq, o_ne, o_lt, o_le, o_gt, o_ge, o_add, o_sub, o_ixT0, o_ixT1, o_ixT2, o_ixL0, o_ixL1, o_ixT, o_ixL, t_bl, t_int, i_int, i_bl, i_tup, i_lst, i_non, i_str, i_obj, prs_pure, web_pure, pr_pure, fok_many, fok_pairs, fld_many, fld_pairs, wipeE]) (by omega), fun o ho => ⟨_, rfl, ?_⟩⟩
    · rw [← hrow, List.length_map]
      show _ ≤ 16777216
      omega
    · have hrl := rowsL_row q x r hr
      have : opBin .add [] (rowD r) (.tup [natD o]) = some (rowD (r ++ [o])) := by
        unfold rowD
        rw [o_addT, List.map_append]
        · rfl
        · rw [List.length_map, hrl]; show x + 1 ≤ 16777216; omega
      refine ev_bin (st1 := []) (ev_var rfl) (ev_tup (es1 (ev_var rfl)) (by show 1 ≤ 16777216; omega)) this
  · rintro ρ st ⟨rfl, o3, o4, o5, rfl⟩
    refine run_ret (d := .lst ((rowsL q m).map rowD)) (st1 := []) ?_ ?_
    · simp [runB, evS, evE, evEs, evT, evI, evB, evR, evTg, evTg.go, Prog.cfg, frz_plain, frzs_plain, D.pure, D.pures, D.scalar, leave_plain, leave_int, leave_bl, leave_non, leave_tup, leave_lst, leave_obj, o_len_tup, o_len_lst, o_len_dct, o_tuple_tup, o_tuple_lst, o_list_tup, o_list_lst, o_min, o_max, o_abs, o_int, o_intb, o_eq, o_ne, o_lt, o_le, o_gt, o_ge, o_add, o_sub, o_ixT0, o_ixT1, o_ixT2, o_ixL0, o_ixL1, o_ixT, o_ixL, t_bl, t_int, i_int, i_bl, i_tup, i_lst, i_non, i_str, i_obj, prs_pure, web_pure, pr_pure, fok_many, fok_pairs, fld_many, fld_pairs]
    · simp [runB, evS, evE, evEs, evT, evI, evB, evR, evTg, evTg.go, Prog.cfg, frz_plain, frzs_plain, D.pure, D.pures, D.scalar, leave_plain, leave_int, leave_bl, leave_non, leave_tup, leave_lst, leave_obj, o_len_tup, o_len_lst, o_len_dct, o_tuple_tup, o_tuple_lst, o_list_tup, o_list_lst, o_min, o_max, o_abs, o_int, o_intb, o_eq, o_ne, o_lt, o_le, o_gt, o_ge, o_add, o_sub, o_ixT0, o_ixT1, o_ixT2, o_ixL0, o_ixL1, o_ixT, o_ixL, t_bl, t_int, i_int, i_bl, i_tup, i_lst, i_non, i_str, i_obj, prs_pure, web_pure, pr_pure, fok_many, fok_pairs, fld_many, fld_pairs, rows_pure]

/-! ### like pairs -/
def likeB (r : List Nat) (p : Nat × Nat) : Bool := decide (r.getD p.1 0 = r.getD p.2 0)
def likeN (ps : List (Nat × Nat)) (r : List Nat) : Nat := (ps.filter (likeB r)).length
theorem likeN_le (ps : List (Nat × Nat)) (r : List Nat) : likeN ps r ≤ ps.length := List.length_filter_le _ _
theorem like_pairs_ok {n : Nat} (hn : 1 ≤ n) {m : Nat} {ps : List (Nat × Nat)} {r : List Nat} (hl : ps.length ≤ 1000) (hp : ∀ p ∈ ps, p.1 < m ∧ p.2 < m) (hr : r.length = m) :
    callF P n i_like_pairs [webD m ps, rowD r] [] = .ok (.int (likeN ps r)) [] := by
  obtain ⟨n, rfl⟩ := Nat.exists_eq_add_of_le' hn
  rw [lev at_like_pairs]
  refine runB_of rfl ?_
  show Run _ _ [some (webD m ps), some (rowD r), none, none] _ _
  refine run_ret (d := .int (likeN ps r)) (st1 := []) ?_ rfl
  refine ev_blt (l := [.lst ((ps.filter (likeB r)).map fun _ => .int 1)]) (st1 := []) (es1 ?_) ?_
  · refine q_lc (xs := ps) (enc := pr) (p := likeB r) (f := fun _ => .int 1) (q_tup (ev_fld (st1 := []) (ev_var rfl) (fok_pairs _ _ _) (fld_pairs _ _ _))) (by show _ ≤ 16777216; omega) fun q hq => ⟨_, rfl, ?_, fun _ => by simp [runB, evS, evE, evEs, evT, evI, evB, evR, evTg, evTg.go, Prog.cfg, frz_plain, frzs_plain, D.pure, D.pures, D.scalar, leave_plain, leave_int, leave_bl, leave_non, leave_tup, leave_lst, leave_obj, o_len_tup, o_len_lst, o_len_dct, o_tuple_tup, o_tuple_lst, o_list_tup, o_list_lst, o_min, o_max, o_abs, o_int, o_intb, o_eq, o_ne, o_lt, o_le, o_gt, o_ge, o_add, o_sub, o_ixT0, o_ixT1, o_ixT2, o_ixL0, o_ixL1, o_ixT, o_ixL, t_bl, t_int, i_int, i_bl, i_tup, i_lst, i_non, i_str, i_obj, prs_pure, web_pure, pr_pure, fok_many, fok_pairs, fld_many, fld_pairs]⟩
    have hq' := hp q hq
    have e1 := getD_at (l := r) (k := q.1) (by omega)
    have e2 := getD_at (l := r) (k := q.2) (by omega)
    refine ev_tcmp (st1 := []) (ev_ix (st1 := []) (ev_var rfl) (ev_var rfl) ((o_ixT _ _).trans e1)) (ev_ix (st1 := []) (ev_var rfl) (ev_var rfl) ((o_ixT _ _).trans e2)) ?_
    show some (decide _) = some (likeB r q)
    unfold likeB
    congr 1
    rw [decide_eq_decide]
    omega
  · rw [o_len_lst, List.length_map]
    rfl

/-! ### counts of like pairs -/
def cntN (ps : List (Nat × Nat)) (rows : List (List Nat)) (k : Nat) : Nat := rows.countP fun r => decide (likeN ps r = k)
def cntsL (ps : List (Nat × Nat)) (rows : List (List Nat)) : List Nat := (List.range (ps.length + 1)).map (cntN ps rows)
theorem mnm_size : P.cfg (fun _ _ _ => .bad) (fun _ _ => .bad) |>.mnm i_Web_size |> (fun x => x = ("size" : Str)) := rfl
theorem ev_size {n : Nat} (hn : 1 ≤ n) {e : E} {ρ : Ev.Env} {st st1 : List Ob} {m : Nat} {ps : List (Nat × Nat)} (h : evE (P.cfg (callF P n) (callN P n)) e ρ st = .ok (webD m ps) st1) : evE (P.cfg (callF P n) (callN P n)) (.meth e 0 i_Web_size .nil) ρ st = .ok (.int ps.length) st1 := by
  have hs : callF P n i_Web_size [webD m ps] [] = _ := size_web hn m ps
  refine ev_meth (c := P.cfg (callF P n) (callN P n)) (l := []) (fs := ["many", "pairs"]) (vs := [.int m, .tup (ps.map pr)]) h ?_ ?_ (by simp only [evEs]) rfl hs
  · simp [D.pures, D.pure, prs_pure]
  · show (([("many" : Str), ("pairs" : Str)] : List Str).all fun g => !decide (g = ("size" : Str))) = true
    decide +kernel
theorem cnt_step (ps : List (Nat × Nat)) (rows : List (List Nat)) (r : List Nat) : (((cntsL ps rows).map natD).set (likeN ps r) (.int ((cntN ps rows (likeN ps r) : Int) + 1))) = (cntsL ps (rows ++ [r])).map natD := by
  have hc : ∀ k, cntN ps (rows ++ [r]) k = cntN ps rows k + if likeN ps r = k then 1 else 0 := fun k => by
    unfold cntN
    rw [List.countP_append, List.countP_singleton]
    by_cases h : likeN ps r = k <;> simp [h]
  unfold cntsL
  rw [List.map_map, List.map_map]
  refine List.ext_getElem (by simp) fun i h1 h2 => ?_
  rw [List.getElem_set]
  split
  · rename_i h
    subst h
    simp [hc, natD]
  · rename_i h
    simp [hc, natD, h]
theorem like_counts_ok {n : Nat} (hn : 2 ≤ n) {m q : Nat} {ps : List (Nat × Nat)} (hm : m ≤ 8) (hq : q ≤ 4) (hl : ps.length ≤ 1000) (hp : ∀ p ∈ ps, p.1 < m ∧ p.2 < m) :
    callF P n i_like_counts [webD m ps, .int q] [] = .ok (.tup ((cntsL ps (rowsL q m)).map natD)) [] := by
  obtain ⟨n, rfl⟩ := Nat.exists_eq_add_of_le' hn
  rw [lev at_like_counts]
  refine runB_of rfl ?_
  show Run _ _ [some (webD m ps), some (.int q), none, none] _ _
  have hrows : callF P (n + 1) i_all_rows [.int m, .int q] [] = _ := all_rows_ok (by omega) hm hq
  have h0 : List.replicate (ps.length + 1) (.int 0) = (cntsL ps []).map natD := by
    unfold cntsL
    rw [List.map_map]
    have : (natD ∘ cntN ps []) = fun _ => .int 0 := by funext k; rfl
    rw [this, List.map_const', List.length_range]
  refine run_seq (run_set (d := .ref 0) (st1 := [.lst ((cntsL ps []).map natD)]) ?_ (by simp) ?_)
  · rw [← h0]
    exact q_repN (st1 := []) (st2 := []) (by simp [runB, evS, evE, evEs, evT, evI, evB, evR, evTg, evTg.go, Prog.cfg, frz_plain, frzs_plain, D.pure, D.pures, D.scalar, leave_plain, leave_int, leave_bl, leave_non, leave_tup, leave_lst, leave_obj, o_len_tup, o_len_lst, o_len_dct, o_tuple_tup, o_tuple_lst, o_list_tup, o_list_lst, o_min, o_max, o_abs, o_int, o_intb, o_eq, o_ne, o_lt, o_le, o_gt, o_ge, o_add, o_sub, o_ixT0, o_ixT1, o_ixT2, o_ixL0, o_ixL1, o_ixT, o_ixL, t_bl, t_int, i_int, i_bl, i_tup, i_lst, i_non, i_str, i_obj, prs_pure, web_pure, pr_pure, fok_many, fok_pairs, fld_many, fld_pairs]) (ev_bin (x := .int ps.length) (y := .int 1) (st1 := []) (ev_size (by omega) (ev_var rfl)) (by simp [runB, evS, evE, evEs, evT, evI, evB, evR, evTg, evTg.go, Prog.cfg, frz_plain, frzs_plain, D.pure, D.pures, D.scalar, leave_plain, leave_int, leave_bl, leave_non, leave_tup, leave_lst, leave_obj, o_len_tup, o_len_lst, o_len_dct, o_tuple_tup, o_tuple_lst, o_list_tup, o_list_lst, o_min, o_max, o_abs, o_int, o_intb, o_eq, o_ne, o_lt, o_le, o_gt, o_ge, o_add, o_sub, o_ixT0, o_ixT1, o_ixT2, o_ixL0, o_ixL1, o_ixT, o_ixL, t_bl, t_int, i_int, i_bl, i_tup, i_lst, i_non, i_str, i_obj, prs_pure, web_pure, pr_pure, fok_many, fok_pairs, fld_many, fld_pairs]) (o_add _ _)) (by omega)
  refine run_seq (run_for (xs := rowsL q m) (enc := rowD) (fun i ρ st => st = [.lst ((cntsL ps ((rowsL q m).take i)).map natD)] ∧ ∃ o, ρ = [some (webD m ps), some (.int q), some (.ref 0), o]) (st1 := [.lst ((cntsL ps []).map natD)]) ?_ ⟨rfl, _, rfl⟩ ?_ ?_)
  · refine q_lst (ev_call (l := [.int m, .int q]) (es2 (st1 := [.lst ((cntsL ps []).map natD)]) (ev_fld (ev_var rfl) (fok_many _ _ _) (fld_many _ _ _)) (ev_var rfl)) rfl hrows)
  · rintro i r ρ st hx ⟨rfl, o, rfl⟩
    refine ⟨_, rfl, ?_⟩
    have hr := rowsL_row q m r (List.mem_of_getElem? hx)
    have hlk : callF P (n + 1) i_like_pairs [webD m ps, rowD r] [] = _ := like_pairs_ok (by omega) hl hp hr
    have hle := likeN_le ps r
    have htk : (rowsL q m).take (i + 1) = (rowsL q m).take i ++ [r] := by rw [List.take_add_one, hx]; rfl
    have hat : ((cntsL ps ((rowsL q m).take i)).map natD)[likeN ps r]? = some (.int (cntN ps ((rowsL q m).take i) (likeN ps r))) := by
      unfold cntsL
      rw [List.map_map, List.getElem?_map, List.getElem?_range (by omega)]
      rfl
    refine run_augS (x := .ref 0) (y := .int (likeN ps r)) (z := .int (cntN ps ((rowsL q m).take i) (likeN ps r))) (w := .int 1) (st1 := [.lst ((cntsL ps ((rowsL q m).take i)).map natD)]) (st2 := [.lst ((cntsL ps ((rowsL q m).take i)).map natD)]) (st3 := [.lst ((cntsL ps ((rowsL q m).take i)).map natD)]) (ev_var rfl) (ev_call (l := [webD m ps, rowD r]) (es2 (ev_var rfl) (ev_var rfl)) (by simp [D.pures, web_pure, rowD_pure]) hlk) ((o_ixR rfl _).trans hat) (by simp [runB, evS, evE, evEs, evT, evI, evB, evR, evTg, evTg.go, Prog.cfg, frz_plain, frzs_plain, D.pure, D.pures, D.scalar, leave_plain, leave_int, leave_bl, leave_non, leave_tup, leave_lst, leave_obj, o_len_tup, o_len_lst, o_len_dct, o_tuple_tup, o_tuple_lst, o_list_tup, o_list_lst, o_min, o_max, o_abs, o_int, o_intb, o_eq, o_ne, o_lt, o_le, o_gt, o_ge, o_add, o_sub, o_ixT0, o_ixT1, o_ixT2, o_ixL0, o_ixL1, o_ixT, o_ixL, t_bl, t_int, i_int, i_bl, i_tup, i_lst, i_non, i_str, i_obj, prs_pure, web_pure, pr_pure, fok_many, fok_pairs, fld_many, fld_pairs]) (g_add _ _) (o_setR rfl ?_) ⟨.inl rfl, ?_, _, rfl⟩
    · simp [cntsL]; omega
    · rw [htk, ← cnt_step]
      rfl
  · rintro ρ st ⟨rfl, o, rfl⟩
    rw [List.take_length]
    refine run_ret (d := .tup ((cntsL ps (rowsL q m)).map natD)) (st1 := [.lst ((cntsL ps (rowsL q m)).map natD)]) (ev_blt (es1 (ev_var rfl)) (o_tuple_ref rfl)) ?_
    exact leave_tup (natDs_pure _) _

/-! ### the sum over rows, by counts -/
theorem sub_cast {a b : Nat} (h : b ≤ a) : (a : Int) - (b : Int) = ((a - b : Nat) : Int) := by omega
def spinT (ps : List (Nat × Nat)) (rows : List (List Nat)) (a b : Int) : Int := ((List.range (ps.length + 1)).map fun k => (cntN ps rows k : Int) * a ^ k * b ^ (ps.length - k)).sum
theorem spin_sum_ok {n : Nat} (hn : 3 ≤ n) {m q : Nat} {ps : List (Nat × Nat)} {a b : Int} (hm : m ≤ 8) (hq : q ≤ 4) (hl : ps.length ≤ 8) (hp : ∀ p ∈ ps, p.1 < m ∧ p.2 < m) (ha : a.natAbs ≤ 100) (hb : b.natAbs ≤ 100) :
    callF P n i_spin_sum [webD m ps, .int q, .int a, .int b] [] = .ok (.int (spinT ps (rowsL q m) a b)) [] := by
  obtain ⟨n, rfl⟩ := Nat.exists_eq_add_of_le' hn
  rw [lev at_spin_sum]
  refine runB_of rfl ?_
  show Run _ _ [some (webD m ps), some (.int q), some (.int a), some (.int b), none, none] _ _
  have h1 : callF P (n + 2) i_like_counts [webD m ps, .int q] [] = _ := like_counts_ok (by omega) hm hq (by omega) hp
  refine run_seq (run_set (d := .tup ((cntsL ps (rowsL q m)).map natD)) (st1 := []) (ev_call (l := [webD m ps, .int q]) (es2 (st1 := []) (ev_var rfl) (ev_var rfl)) (by simp [D.pures, web_pure, D.pure]) h1) (by simp) ?_)
  refine run_ret (d := .int (spinT ps (rowsL q m) a b)) (st1 := []) ?_ rfl
  refine ev_blt (l := [.lst (((List.range (ps.length + 1)).map fun k => (cntN ps (rowsL q m) k : Int) * a ^ k * b ^ (ps.length - k)).map .int)]) (st1 := []) (es1 ?_) (o_sumL _)
  rw [List.map_map]
  refine q_lc1 (xs := List.range (ps.length + 1)) (enc := natD) (q_rng (n := ps.length + 1) ?_ (by omega)) (by rw [List.length_range]; show _ ≤ 16777216; omega) fun k hk => ⟨_, rfl, ?_⟩
  · refine (ev_blt (l := [.tup ((cntsL ps (rowsL q m)).map natD)]) (st1 := []) (es1 (ev_var rfl)) (o_len_tup _)).trans ?_
    simp [cntsL]
  · have hk : k < ps.length + 1 := List.mem_range.mp hk
    have hat : ((cntsL ps (rowsL q m)).map natD)[k]? = some (.int (cntN ps (rowsL q m) k)) := by
      unfold cntsL
      rw [List.map_map, List.getElem?_map, List.getElem?_range (by omega)]
      rfl
    have ta : callF P (n + 2) i_taken [.int a, .int k] [] = _ := taken_ok (by omega) (by omega) (by omega)
    have tb : callF P (n + 2) i_taken [.int b, .int (ps.length - k : Nat)] [] = _ := taken_ok (by omega) (by omega) (by omega)
    refine ev_bin (st1 := []) (ev_bin (st1 := []) (ev_ix (st1 := []) (ev_var rfl) (ev_var rfl) ((o_ixT _ _).trans hat)) (ev_call (l := [.int a, .int k]) (es2 (st1 := []) (ev_var rfl) (ev_var rfl)) rfl ta) (o_mulR (pow_small ha (by omega)))) (ev_call (l := [.int b, .int (ps.length - k : Nat)]) (es2 (st1 := []) (ev_var rfl) ?_) rfl tb) (o_mulR (pow_small hb (by omega)))
    refine ev_bin (x := .int ps.length) (y := .int k) (st1 := []) (ev_size (by omega) (ev_var rfl)) (ev_var rfl) ?_
    rw [o_sub, sub_cast (by omega)]

/-! ### all sets of pairs -/
def setsL : Nat → List (List Nat)
  | 0 => [[]]
  | k + 1 => setsL k ++ (setsL k).map (· ++ [k])
def keyD (r : List Nat) : D := .tup [.int r.length, rowD r]
/-- by size, then by order -/
def setsS (k : Nat) : List (List Nat) := (setsL k).mergeSort fun a b => !D.plt (keyD b) (keyD a)
theorem setsL_len : ∀ k, (setsL k).length = 2 ^ k
  | 0 => rfl
  | k + 1 => by rw [setsL, List.length_append, List.length_map, setsL_len k, Nat.pow_succ]; omega
theorem setsL_le : ∀ k, ∀ r ∈ setsL k, r.length ≤ k
  | 0, r, h => by simp [setsL] at h; simp [h]
  | k + 1, r, h => by
    rw [setsL, List.mem_append, List.mem_map] at h
    rcases h with h | ⟨r', h, rfl⟩
    · exact Nat.le_succ_of_le (setsL_le k r h)
    · rw [List.length_append]
      have := setsL_le k r' h
      simp; omega
theorem alikes_nat : ∀ l m : List Nat, D.alikes (l.map natD) (m.map natD) = true
  | [], _ => by simp [D.alikes]
  | x :: l, [] => by simp [D.alikes]
  | x :: l, y :: m => by
    rw [List.map_cons, List.map_cons, D.alikes, alikes_nat l m]
    simp [natD, D.alike]
theorem alike_key (a b : List Nat) : D.alike (keyD a) (keyD b) = true := by
  simp [keyD, rowD, D.alike, D.alikes, alikes_nat]
theorem cmpbs_nat : ∀ l : List Nat, D.cmpbs (l.map natD) = true
  | [] => rfl
  | x :: l => by rw [List.map_cons, D.cmpbs, cmpbs_nat l]; rfl
theorem cmpb_key (a : List Nat) : D.cmpb (keyD a) = true := by
  simp [keyD, rowD, D.cmpb, D.cmpbs, cmpbs_nat]
theorem depths_nat : ∀ l : List Nat, D.depths (l.map natD) = 0
  | [] => rfl
  | x :: l => by rw [List.map_cons, D.depths, depths_nat l]; rfl
theorem depth_key (a : List Nat) : D.depth (keyD a) = 2 := by
  simp [keyD, rowD, D.depth, D.depths, depths_nat]
theorem sorted_keys (l : List (List Nat)) : Ev.opBlt .sorted [] [.lst (l.map keyD)] = some (.lst ((l.mergeSort fun a b => !D.plt (keyD b) (keyD a)).map keyD)) := by
  have h1 : allAlike (l.map keyD) = true := by
    unfold allAlike
    rw [Bool.and_eq_true]
    refine ⟨?_, ?_⟩
    · induction l with
      | nil => rfl
      | cons a l ih => rw [List.map_cons, D.cmpbs, cmpb_key, ih]; rfl
    · simp [List.all_eq_true, alike_key]
  have h2 : sortable (l.map keyD) = true := by
    unfold sortable
    rw [Bool.or_eq_true]
    left
    simp [List.all_eq_true, keyD]
  have h3 : D.depths (l.map keyD) ≤ 60 := by
    clear h1 h2
    induction l with
    | nil => exact Nat.zero_le _
    | cons a l ih =>
      rw [List.map_cons, D.depths, depth_key]
      exact Nat.max_le.mpr ⟨by omega, ih⟩
  show ((lstOf [] (.lst (l.map keyD))).bind fun l => if (allAlike l && sortable l && decide (D.depths l ≤ 60)) = true then some (D.lst (srt l)) else none) = _
  rw [show lstOf [] (.lst (l.map keyD)) = some (l.map keyD) from rfl, Option.bind_some, if_pos (by rw [h1, h2, decide_eq_true h3]; rfl)]
  unfold srt
  rw [List.map_mergeSort (s := fun a b => !D.plt b a) (f := keyD)]
  intros; rfl
theorem setsS_len (k : Nat) : (setsS k).length = 2 ^ k := by unfold setsS; rw [List.length_mergeSort, setsL_len]
theorem all_pair_sets_ok {n : Nat} (hn : 2 ≤ n) {m : Nat} {ps : List (Nat × Nat)} (hl : ps.length ≤ 8) : callF P n i_all_pair_sets [webD m ps] [] = .ok (.lst ((setsS ps.length).map rowD)) [] := by
  obtain ⟨n, rfl⟩ := Nat.exists_eq_add_of_le' hn
  rw [lev at_all_pair_sets]
  refine runB_of rfl ?_
  show Run _ _ [some (webD m ps), none, none, none, none] _ _
  have big : ∀ k, k ≤ 8 → (setsL k).length ≤ 256 := fun k hk => by
    rw [setsL_len]
    exact Nat.le_trans (Nat.pow_le_pow_right (by decide) hk) (by decide)
  refine run_seq (run_set (d := .lst ((setsL 0).map rowD)) (st1 := []) ?_ (by simp) ?_)
  · simp [runB, evS, evE, evEs, evT, evI, evB, evR, evTg, evTg.go, Prog.cfg, frz_plain, frzs_plain, D.pure, D.pures, D.scalar, leave_plain, leave_int, leave_bl, leave_non, leave_tup, leave_lst, leave_obj, o_len_tup, o_len_lst, o_len_dct, o_tuple_tup, o_tuple_lst, o_list_tup, o_list_lst, o_min, o_max, o_abs, o_int, o_intb, o_eq, o_ne, o_lt, o_le, o_gt, o_ge, o_add, o_sub, o_ixT0, o_ixT1, o_ixT2, o_ixL0, o_ixL1, o_ixT, o_ixL, t_bl, t_int, i_int, i_bl, i_tup, i_lst, i_non, i_str, i_obj, prs_pure, web_pure, pr_pure, fok_many, fok_pairs, fld_many, fld_pairs, setsL, rowD, szL]
  refine run_seq (run_for (xs := List.range ps.length) (enc := natD) (fun i ρ st => st = [] ∧ ∃ o2 o3 o4, ρ = [some (webD m ps), some (.lst ((setsL i).map rowD)), o2, o3, o4]) (st1 := []) (q_rng (ev_size (by omega) (ev_var rfl)) (by omega)) ⟨rfl, _, _, _, rfl⟩ ?_ ?_)
  · rintro i x ρ st hx ⟨rfl, o2, o3, o4, rfl⟩
    obtain ⟨rfl, hi⟩ := q_rngat hx
    have b1 := big x (by omega)
    refine ⟨_, rfl, ?_⟩
    refine run_set (d := .lst ((setsL (x + 1)).map rowD)) (st1 := []) ?_ (by simp) ⟨.inl rfl, rfl, _, _, _, rfl⟩
    rw [setsL, List.map_append, List.map_map]
    refine ev_bin (x := .lst ((setsL x).map rowD)) (st1 := []) (ev_var rfl) (q_lc1 (xs := setsL x) (enc := rowD) (q_lst (ev_var rfl)) (by show _ ≤ 16777216; omega) fun r hr => ⟨_, rfl, ?_⟩) (o_addL (by rw [List.length_map, List.length_map]; show _ ≤ 16777216; omega))
    have hrl := setsL_le x r hr
    have : opBin .add [] (rowD r) (.tup [natD x]) = some (rowD (r ++ [x])) := by
      unfold rowD
      rw [o_addT, List.map_append]
      · rfl
      · rw [List.length_map]; show r.length + 1 ≤ 16777216; omega
    exact ev_bin (st1 := []) (ev_var rfl) (ev_tup (es1 (ev_var rfl)) (by show 1 ≤ 16777216; omega)) this
  · rintro ρ st ⟨rfl, o2, o3, o4, rfl⟩
    rw [List.length_range]
    have b1 := big ps.length hl
    have b2 : (setsS ps.length).length ≤ 256 := by rw [setsS_len, ← setsL_len]; exact b1
    refine run_ret (d := .lst ((setsS ps.length).map rowD)) (st1 := []) ?_ (leave_lst (rows_pure _) _)
    refine q_lc1 (xs := setsS ps.length) (enc := keyD) (q_lst (ev_blt (l := [.lst ((setsL ps.length).map keyD)]) (st1 := []) (es1 (q_lc1 (xs := setsL ps.length) (enc := rowD) (q_lst (ev_var rfl)) (by show _ ≤ 16777216; omega) fun r hr => ⟨_, rfl, ?_⟩)) (sorted_keys _))) (by show _ ≤ 16777216; omega) fun r hr => ⟨_, rfl, ev_var rfl⟩
    refine ev_tup (es2 (st1 := []) (ev_blt (st1 := []) (es1 (ev_var rfl)) ?_) (ev_var rfl)) (by show 2 ≤ 16777216; omega)
    unfold rowD
    rw [o_len_tup, List.length_map]

/-! ### the sum over sets -/
def pick (ps : List (Nat × Nat)) (r : List Nat) : List (Nat × Nat) := r.map fun k => ps.getD k (0, 0)
theorem setsL_lt : ∀ k, ∀ r ∈ setsL k, ∀ o ∈ r, o < k
  | 0, r, h => by simp [setsL] at h; simp [h]
  | k + 1, r, h => by
    rw [setsL, List.mem_append, List.mem_map] at h
    rcases h with h | ⟨r', h, rfl⟩
    · exact fun o ho => Nat.lt_succ_of_lt (setsL_lt k r h o ho)
    · intro o ho
      rw [List.mem_append, List.mem_singleton] at ho
      rcases ho with ho | rfl
      · exact Nat.lt_succ_of_lt (setsL_lt k r' h o ho)
      · exact Nat.lt_succ_self _
theorem setsS_mem {k : Nat} {r : List Nat} (h : r ∈ setsS k) : r ∈ setsL k := List.mem_mergeSort.mp h
theorem pick_at {ps : List (Nat × Nat)} {k : Nat} (h : k < ps.length) : (ps.map pr)[k]? = some (pr (ps.getD k (0, 0))) := by
  rw [List.getElem?_map, List.getElem?_eq_getElem h, List.getD_eq_getElem?_getD, List.getElem?_eq_getElem h]; rfl
theorem pick_lt {ps : List (Nat × Nat)} {m : Nat} {r : List Nat} (hr : ∀ o ∈ r, o < ps.length) (hp : ∀ p ∈ ps, p.1 < m ∧ p.2 < m) : ∀ p ∈ pick ps r, p.1 < m ∧ p.2 < m := by
  intro p h
  unfold pick at h
  rw [List.mem_map] at h
  obtain ⟨o, ho, rfl⟩ := h
  have := hr o ho
  rw [List.getD_eq_getElem?_getD, List.getElem?_eq_getElem this]
  exact hp _ (List.getElem_mem this)
theorem addN_len (xs : List Nat) : ∀ a : List Nat, (xs.foldl addN a).length ≤ a.length + xs.length := by
  induction xs with
  | nil => intro a; exact Nat.le_refl _
  | cons x xs ih =>
    intro a
    rw [List.foldl_cons]
    refine Nat.le_trans (ih _) ?_
    unfold addN
    split <;> simp <;> omega
theorem partsN_le (m : Nat) (ps : List (Nat × Nat)) : partsN m ps ≤ m := by
  have := addN_len (namesL m ps) []
  rw [namesL_len] at this
  simpa [partsN] using this
def setT (m : Nat) (ps : List (Nat × Nat)) (q : Nat) (a b : Int) (r : List Nat) : Int := (q : Int) ^ partsN m (pick ps r) * (a - b) ^ r.length * b ^ (ps.length - r.length)
theorem sum_take {α : Type} {f : α → Int} {xs : List α} {i : Nat} {x : α} (h : xs[i]? = some x) : ((xs.take (i + 1)).map f).sum = ((xs.take i).map f).sum + f x := by
  rw [List.take_add_one, h]
  simp
theorem spin_sum_by_sets_ok {n : Nat} (hn : 3 ≤ n) {m q : Nat} {ps : List (Nat × Nat)} {a b : Int} (hm : m ≤ 8) (hq : q ≤ 4) (hl : ps.length ≤ 8) (hp : ∀ p ∈ ps, p.1 < m ∧ p.2 < m) (ha : (a - b).natAbs ≤ 100) (hb : b.natAbs ≤ 100) :
    callF P n i_spin_sum_by_sets [webD m ps, .int q, .int a, .int b] [] = .ok (.int ((setsS ps.length).map (setT m ps q a b)).sum) [] := by
  obtain ⟨n, rfl⟩ := Nat.exists_eq_add_of_le' hn
  rw [lev at_spin_sum_by_sets]
  refine runB_of rfl ?_
  show Run _ _ [some (webD m ps), some (.int q), some (.int a), some (.int b), none, none, none, none] _ _
  have h1 : callF P (n + 2) i_all_pair_sets [webD m ps] [] = _ := all_pair_sets_ok (by omega) hl
  refine run_seq (run_set (d := .int 0) (st1 := []) (by simp [runB, evS, evE, evEs, evT, evI, evB, evR, evTg, evTg.go, Prog.cfg, frz_plain, frzs_plain, D.pure, D.pures, D.scalar, leave_plain, leave_int, leave_bl, leave_non, leave_tup, leave_lst, leave_obj, o_len_tup, o_len_lst, o_len_dct, o_tuple_tup, o_tuple_lst, o_list_tup, o_list_lst, o_min, o_max, o_abs, o_int, o_intb, o_eq, o_ne, o_lt, o_le, o_gt, o_ge, o_add, o_sub, o_ixT0, o_ixT1, o_ixT2, o_ixL0, o_ixL1, o_ixT, o_ixL, t_bl, t_int, i_int, i_bl, i_tup, i_lst, i_non, i_str, i_obj, prs_pure, web_pure, pr_pure, fok_many, fok_pairs, fld_many, fld_pairs]) (by simp) ?_)
  refine run_seq (run_for (xs := setsS ps.length) (enc := rowD) (fun i ρ st => st = [] ∧ ∃ o5 o6 o7, ρ = [some (webD m ps), some (.int q), some (.int a), some (.int b), some (.int (((setsS ps.length).take i).map (setT m ps q a b)).sum), o5, o6, o7]) (st1 := []) (q_lst (ev_call (l := [webD m ps]) (es1 (ev_var rfl)) (by simp [D.pures, web_pure]) h1)) ⟨rfl, _, _, _, rfl⟩ ?_ ?_)
  · rintro i r ρ st hx ⟨rfl, o5, o6, o7, rfl⟩
    have hr := setsS_mem (List.mem_of_getElem? hx)
    have hrl := setsL_le _ r hr
    have hro := setsL_lt _ r hr
    have h2 : callF P (n + 2) i_part_number [.int m, .lst ((pick ps r).map pr)] [] = _ := part_number_ok (by omega) (by omega) (pick_lt hro hp) (.inr rfl)
    have hpl := partsN_le m (pick ps r)
    have t1 : callF P (n + 2) i_taken [.int q, .int (partsN m (pick ps r))] [] = _ := taken_ok (by omega) (by omega) (by omega)
    have t2 : callF P (n + 2) i_taken [.int (a - b), .int r.length] [] = _ := taken_ok (by omega) (by omega) (by omega)
    have t3 : callF P (n + 2) i_taken [.int b, .int (ps.length - r.length : Nat)] [] = _ := taken_ok (by omega) (by omega) (by omega)
    refine ⟨_, rfl, ?_⟩
    refine run_seq (run_set (d := .int (partsN m (pick ps r))) (st1 := []) (ev_call (l := [.int m, .lst ((pick ps r).map pr)]) (es2 (st1 := []) (ev_fld (st1 := []) (ev_var rfl) (fok_many _ _ _) (fld_many _ _ _)) ?_) (by simp [D.pures, D.pure, prs_pure]) h2) (by simp) ?_)
    · unfold pick
      rw [List.map_map]
      exact q_lc1 (xs := r) (enc := natD) (q_tup (ev_var rfl)) (by show _ ≤ 16777216; omega) fun k hk => ⟨_, rfl, ev_ix (st1 := []) (ev_fld (st1 := []) (ev_var rfl) (fok_pairs _ _ _) (fld_pairs _ _ _)) (ev_var rfl) ((o_ixT _ _).trans (pick_at (hro k hk)))⟩
    have hlen : ∀ ρ : Ev.Env, ρ[5]? = some (some (rowD r)) → evE (P.cfg (callF P (n + 2)) (callN P (n + 2))) (.blt .len (.cons (.var 5) .nil)) ρ [] = .ok (.int r.length) [] := fun ρ h => by
      refine ev_blt (st1 := []) (es1 (ev_var h)) ?_
      unfold rowD
      rw [o_len_tup, List.length_map]
    refine run_aug (y := .int (setT m ps q a b r)) (st1 := []) rfl ?_ (g_add _ _) ⟨.inl rfl, rfl, _, _, _, by rw [sum_take hx]; rfl⟩
    refine ev_bin (st1 := []) (ev_bin (st1 := []) (ev_call (l := [.int q, .int (partsN m (pick ps r))]) (es2 (st1 := []) (ev_var rfl) (ev_var rfl)) rfl t1) (ev_call (l := [.int (a - b), .int r.length]) (es2 (st1 := []) (ev_bin (st1 := []) (ev_var rfl) (ev_var rfl) (o_sub _ _)) (hlen _ rfl)) rfl t2) (o_mulR (pow_small ha (by omega)))) (ev_call (l := [.int b, .int (ps.length - r.length : Nat)]) (es2 (st1 := []) (ev_var rfl) (ev_bin (x := .int ps.length) (y := .int r.length) (st1 := []) (ev_size (by omega) (ev_var rfl)) (hlen _ rfl) (by rw [o_sub, sub_cast hrl]))) rfl t3) (o_mulR (pow_small hb (by omega)))
  · rintro ρ st ⟨rfl, o5, o6, o7, rfl⟩
    rw [List.take_length]
    exact run_ret (st1 := []) (ev_var rfl) rfl

/-! ### ranks -/
theorem rank_of_ok {n : Nat} (hn : 3 ≤ n) {m : Nat} {ps : List (Nat × Nat)} {r : List Nat} (hm : m ≤ 1000) (hl : r.length ≤ 1000) (hp : ∀ p ∈ ps, p.1 < m ∧ p.2 < m) (hr : ∀ o ∈ r, o < ps.length) {X : D} (hX : X = rowD r ∨ X = .lst (r.map natD)) :
    callF P n i_rank_of [webD m ps, X] [] = .ok (.int (m - partsN m (pick ps r) : Nat)) [] := by
  obtain ⟨n, rfl⟩ := Nat.exists_eq_add_of_le' hn
  rw [lev at_rank_of]
  refine runB_of rfl ?_
  show Run _ _ [some (webD m ps), some X, none] _ _
  have h2 : callF P (n + 2) i_part_number [.int m, .lst ((pick ps r).map pr)] [] = _ := part_number_ok (by omega) hm (pick_lt hr hp) (.inr rfl)
  have hpl := partsN_le m (pick ps r)
  refine run_ret (d := .int (m - partsN m (pick ps r) : Nat)) (st1 := []) ?_ rfl
  refine ev_bin (x := .int m) (y := .int (partsN m (pick ps r))) (st1 := []) (ev_fld (st1 := []) (ev_var rfl) (fok_many _ _ _) (fld_many _ _ _)) (ev_call (l := [.int m, .lst ((pick ps r).map pr)]) (es2 (st1 := []) (ev_fld (st1 := []) (ev_var rfl) (fok_many _ _ _) (fld_many _ _ _)) ?_) (by simp [D.pures, D.pure, prs_pure]) h2) (by rw [o_sub, sub_cast hpl])
  unfold pick
  rw [List.map_map]
  refine q_lc1 (xs := r) (enc := natD) ?_ (by show _ ≤ 16777216; omega) fun k hk => ⟨_, rfl, ev_ix (st1 := []) (ev_fld (st1 := []) (ev_var rfl) (fok_pairs _ _ _) (fld_pairs _ _ _)) (ev_var rfl) ((o_ixT _ _).trans (pick_at (hr k hk)))⟩
  rcases hX with rfl | rfl
  · exact q_tup (ev_var rfl)
  · exact q_lst (ev_var rfl)
theorem pick_all (ps : List (Nat × Nat)) : pick ps (List.range ps.length) = ps := by
  unfold pick
  refine List.ext_getElem (by simp) fun i h1 h2 => ?_
  simp [List.getD_eq_getElem?_getD, List.getElem?_eq_getElem h2]
theorem web_rank_ok {n : Nat} (hn : 4 ≤ n) {m : Nat} {ps : List (Nat × Nat)} (hm : m ≤ 1000) (hl : ps.length ≤ 1000) (hp : ∀ p ∈ ps, p.1 < m ∧ p.2 < m) : callF P n i_web_rank [webD m ps] [] = .ok (.int (m - partsN m ps : Nat)) [] := by
  obtain ⟨n, rfl⟩ := Nat.exists_eq_add_of_le' hn
  rw [lev at_web_rank]
  refine runB_of rfl ?_
  show Run _ _ [some (webD m ps)] _ _
  have h2 : callF P (n + 3) i_rank_of [webD m ps, .lst ((List.range ps.length).map natD)] [] = _ := rank_of_ok (by omega) hm (by rw [List.length_range]; exact hl) hp (fun o ho => List.mem_range.mp ho) (.inr rfl)
  rw [pick_all] at h2
  exact run_ret (st1 := []) (ev_call (l := [webD m ps, .lst ((List.range ps.length).map natD)]) (es2 (st1 := []) (ev_var rfl) (q_list (ev_size (by omega) (ev_var rfl)) (by omega))) (by simp [D.pures, web_pure, D.pure, natDs_pure]) h2) rfl

/-! ### polynomials of two unknowns, by tables -/
abbrev Tab := List ((Nat × Nat) × Int)
def tabK (T : Tab) : List D := T.map fun e => pr e.1
def tabV (T : Tab) : List D := T.map fun e => .int e.2
def monD (e : (Nat × Nat) × Int) : D := .tup [.int e.1.1, .int e.1.2, .int e.2]
def polyD (T : Tab) : D := .tup (T.map monD)
def valT (F : Nat → Nat → Int) (T : Tab) : Int := (T.map fun e => e.2 * F e.1.1 e.1.2).sum
theorem pr_peq (a b : Nat × Nat) : D.peq (pr a) (pr b) = decide (a = b) := by
  have : D.peq (pr a) (pr b) = (decide ((a.1 : Int) = b.1) && (decide ((a.2 : Int) = b.2) && true)) := rfl
  rw [this]
  obtain ⟨a1, a2⟩ := a
  obtain ⟨b1, b2⟩ := b
  by_cases h1 : a1 = b1 <;> by_cases h2 : a2 = b2 <;> simp [h1, h2] <;> omega
theorem pr_keyOk (a : Nat × Nat) : D.keyOk true (pr a) = true := rfl
/-- what stands under a key -/
def getT (k : Nat × Nat) : Tab → Option Int
  | [] => none
  | e :: T => if e.1 = k then some e.2 else getT k T
/-- a key is written -/
def putT (k : Nat × Nat) (v : Int) : Tab → Tab
  | [] => [(k, v)]
  | e :: T => if e.1 = k then (e.1, v) :: T else e :: putT k v T
theorem find_tab (k : Nat × Nat) : ∀ T : Tab, D.find (pr k) (tabK T) (tabV T) = (getT k T).map .int
  | [] => rfl
  | e :: T => by
    show (if D.peq (pr e.1) (pr k) = true then some (.int e.2) else D.find (pr k) (tabK T) (tabV T)) = _
    rw [pr_peq, find_tab k T, getT]
    by_cases h : e.1 = k <;> simp [h]
theorem isIn_tab (k : Nat × Nat) : ∀ T : Tab, D.isIn (pr k) (tabK T) = (getT k T).isSome
  | [] => rfl
  | e :: T => by
    show (D.peq (pr e.1) (pr k) || D.isIn (pr k) (tabK T)) = _
    rw [pr_peq, isIn_tab k T, getT]
    by_cases h : e.1 = k <;> simp [h]
theorem putT_keys (k : Nat × Nat) (v : Int) : ∀ T : Tab, tabK (putT k v T) = D.putK (pr k) (tabK T)
  | [] => rfl
  | e :: T => by
    have ih := putT_keys k v T
    unfold D.putK at ih ⊢
    rw [isIn_tab] at ih ⊢
    rw [putT, getT]
    by_cases h : e.1 = k
    · simp [h, tabK]
    · rw [if_neg h, if_neg h]
      show pr e.1 :: tabK (putT k v T) = _
      rw [ih]
      split <;> rfl
theorem putT_vals (k : Nat × Nat) (v : Int) : ∀ T : Tab, (T.map (·.1)).Nodup → tabV (putT k v T) = D.putV (pr k) (.int v) (tabK T) (tabV T)
  | [], _ => rfl
  | e :: T, hn => by
    rw [List.map_cons, List.nodup_cons] at hn
    have ih := putT_vals k v T hn.2
    have norep : ∀ T : Tab, k ∉ T.map (·.1) → D.repV (pr k) (.int v) (tabK T) (tabV T) = tabV T := by
      intro T
      induction T with
      | nil => intro _; rfl
      | cons e T ih =>
        intro h
        rw [List.map_cons, List.mem_cons, not_or] at h
        show (if D.peq (pr e.1) (pr k) = true then D.int v else .int e.2) :: D.repV (pr k) (.int v) (tabK T) (tabV T) = _
        rw [pr_peq, ih h.2]
        have : ¬ e.1 = k := fun z => h.1 z.symm
        simp [this, tabV]
    unfold D.putV at ih ⊢
    rw [isIn_tab] at ih ⊢
    rw [putT, getT]
    by_cases h : e.1 = k
    · rw [if_pos h, if_pos h]
      simp only [Option.isSome_some, if_true]
      show _ = (if D.peq (pr e.1) (pr k) = true then D.int v else .int e.2) :: D.repV (pr k) (.int v) (tabK T) (tabV T)
      rw [pr_peq, norep T (h ▸ hn.1)]
      simp [h, tabV]
    · rw [if_neg h, if_neg h]
      show D.int e.2 :: tabV (putT k v T) = _
      rw [ih]
      split
      · show _ = (if D.peq (pr e.1) (pr k) = true then D.int v else .int e.2) :: D.repV (pr k) (.int v) (tabK T) (tabV T)
        rw [pr_peq]
        simp [h]
      · rfl

theorem valT_put (F : Nat → Nat → Int) (k : Nat × Nat) (v : Int) : ∀ T : Tab, valT F (putT k v T) = valT F T + (v - (getT k T).getD 0) * F k.1 k.2
  | [] => by simp [valT, putT, getT]
  | e :: T => by
    have ih := valT_put F k v T
    unfold valT at ih ⊢
    rw [putT, getT]
    by_cases h : e.1 = k
    · rw [if_pos h, if_pos h]
      simp only [List.map_cons, List.sum_cons, Option.getD_some, h]
      rw [Int.sub_mul]
      omega
    · rw [if_neg h, if_neg h, List.map_cons, List.map_cons, List.sum_cons, List.sum_cons, ih]
      omega
theorem putT_mem {k : Nat × Nat} {v : Int} {x : Nat × Nat} : ∀ {T : Tab}, x ∈ (putT k v T).map (·.1) → x = k ∨ x ∈ T.map (·.1)
  | [], h => by simp [putT] at h; exact .inl h
  | e :: T, h => by
    rw [putT] at h
    split at h
    · exact .inr h
    · rw [List.map_cons, List.mem_cons] at h
      rcases h with h | h
      · exact .inr (by rw [List.map_cons, List.mem_cons]; exact .inl h)
      · rcases putT_mem h with h | h
        · exact .inl h
        · exact .inr (by rw [List.map_cons, List.mem_cons]; exact .inr h)
theorem putT_nd {k : Nat × Nat} {v : Int} : ∀ {T : Tab}, (T.map (·.1)).Nodup → ((putT k v T).map (·.1)).Nodup
  | [], _ => by simp [putT]
  | e :: T, h => by
    rw [putT]
    split
    · exact h
    · rename_i hne
      rw [List.map_cons, List.nodup_cons] at h ⊢
      refine ⟨fun z => ?_, putT_nd h.2⟩
      rcases putT_mem z with z | z
      · exact hne z
      · exact h.1 z
theorem putT_len (k : Nat × Nat) (v : Int) : ∀ T : Tab, (putT k v T).length ≤ T.length + 1
  | [] => Nat.le_refl _
  | e :: T => by
    rw [putT]
    split
    · simp
    · have := putT_len k v T
      simp; omega
/-- keys met for the first time go to the end -/
theorem putT_new {k : Nat × Nat} {v : Int} : ∀ {T : Tab}, k ∉ T.map (·.1) → putT k v T = T ++ [(k, v)]
  | [], _ => rfl
  | e :: T, h => by
    rw [List.map_cons, List.mem_cons, not_or] at h
    rw [putT, if_neg fun z => h.1 z.symm, putT_new h.2]
    rfl
/-! the table of a polynomial -/
theorem table_fold : ∀ (L T : Tab), (T.map (·.1)).Nodup → L.foldl (dcStep (fun e => pr e.1) fun e => D.int e.2) (tabK T, tabV T) = (tabK (L.foldl (fun T e => putT e.1 e.2 T) T), tabV (L.foldl (fun T e => putT e.1 e.2 T) T))
  | [], T, _ => rfl
  | e :: L, T, h => by
    rw [List.foldl_cons, List.foldl_cons]
    have : dcStep (fun e => pr e.1) (fun e => D.int e.2) (tabK T, tabV T) e = (tabK (putT e.1 e.2 T), tabV (putT e.1 e.2 T)) := by
      unfold dcStep
      rw [putT_keys, putT_vals _ _ _ h]
    rw [this]
    exact table_fold L _ (putT_nd h)
theorem table_same : ∀ (L T : Tab), ((T ++ L).map (·.1)).Nodup → L.foldl (fun T e => putT e.1 e.2 T) T = T ++ L
  | [], T, _ => by simp
  | e :: L, T, h => by
    rw [List.foldl_cons, putT_new]
    · rw [table_same L (T ++ [(e.1, e.2)]) (by simpa using h)]
      simp
    · rw [List.map_append, List.nodup_append] at h
      intro z
      exact h.2.2 e.1 z e.1 (by simp) rfl
theorem tabK_pure (T : Tab) : D.pures (tabK T) = true := pures_map (fun e => rfl) T
theorem tabV_pure (T : Tab) : D.pures (tabV T) = true := pures_map (fun e => rfl) T
theorem poly_pure (T : Tab) : (polyD T).pure = true := by
  show D.pures (T.map monD) = true
  exact pures_map (fun e => rfl) T
theorem table_of_okN {n : Nat} (hn : 1 ≤ n) {T : Tab} (hT : (T.map (·.1)).Nodup) (hl : T.length ≤ 1000) : callN P n i_table_of [polyD T] = .ok (.dct true (tabK T) (tabV T)) [] := by
  obtain ⟨n, rfl⟩ := Nat.exists_eq_add_of_le' hn
  rw [levN at_table_of]
  refine runN_of rfl ?_
  show Run _ _ [some (polyD T), none, none, none] _ _
  have h1 := table_fold T [] List.nodup_nil
  rw [table_same T [] (by simpa using hT)] at h1
  have h2 : evN (P.cfg (callF P n) (callN P n)) (.dc [1, 2, 3] true (.tup (.cons (.var 1) (.cons (.var 2) (.cons (.var 3) .nil)))) (.over (.var 0)) .yes (.tup (.cons (.var 1) (.cons (.var 2) .nil))) (.var 3)) [some (polyD T), none, none, none] [] = _ :=
    q_dcN (xs := T) (enc := monD) (kf := fun e => pr e.1) (vf := fun e => .int e.2) (st1 := []) (q_tup (ev_var rfl)) (by omega) fun e he => ⟨_, rfl, ev_tup (es2 (st1 := []) (ev_var rfl) (ev_var rfl)) (by show 2 ≤ 16777216; omega), ev_var rfl, rfl⟩
  have h3 : T.foldl (dcStep (fun e => pr e.1) fun e => D.int e.2) ([], []) = (tabK T, tabV T) := h1
  rw [h3] at h2
  refine run_ret (d := .ref 0) (st1 := [.dct true (tabK T) (tabV T)]) ?_ ?_
  · have h4 : ∀ e ρ, evE (P.cfg (callF P n) (callN P n)) (.mk e) ρ [] = bnd (evN (P.cfg (callF P n) (callN P n)) e ρ []) fun o st1 => .ok (.ref st1.length) (st1 ++ [o]) := fun e ρ => by simp only [evE]
    rw [h4, h2]
    rfl
  · show leaveN (.ref 0) [.dct true (tabK T) (tabV T)] = _
    simp [leaveN, frzOb, frzs_plain, tabK_pure, tabV_pure]

/-! ### sums -/
theorem sm_cg {α : Type} {f g : α → Int} {l : List α} (h : ∀ x ∈ l, f x = g x) : (l.map f).sum = (l.map g).sum := by
  rw [List.map_congr_left h]
theorem sm_add {α : Type} (f g : α → Int) : ∀ l : List α, (l.map fun x => f x + g x).sum = (l.map f).sum + (l.map g).sum
  | [] => rfl
  | x :: l => by
    rw [List.map_cons, List.map_cons, List.map_cons, List.sum_cons, List.sum_cons, List.sum_cons, sm_add f g l]
    omega
theorem sm_mul {α : Type} (c : Int) (f : α → Int) : ∀ l : List α, (l.map fun x => c * f x).sum = c * (l.map f).sum
  | [] => by simp
  | x :: l => by rw [List.map_cons, List.map_cons, List.sum_cons, List.sum_cons, sm_mul c f l, Int.mul_add]
theorem sm_mulR {α : Type} (c : Int) (f : α → Int) (l : List α) : (l.map fun x => f x * c).sum = (l.map f).sum * c := by
  rw [Int.mul_comm, ← sm_mul]
  exact sm_cg fun x _ => Int.mul_comm _ _
theorem sm_zero {α : Type} : ∀ l : List α, (l.map fun _ => (0 : Int)).sum = 0
  | [] => rfl
  | x :: l => by rw [List.map_cons, List.sum_cons, sm_zero l]; rfl
theorem sm_const {α : Type} (c : Int) : ∀ l : List α, (l.map fun _ => c).sum = (l.length : Int) * c
  | [] => by simp
  | x :: l => by rw [List.map_cons, List.sum_cons, sm_const c l, List.length_cons, Int.natCast_add, Int.add_mul]; simp; omega
theorem sm_app {α : Type} (f : α → Int) (l m : List α) : ((l ++ m).map f).sum = (l.map f).sum + (m.map f).sum := by
  rw [List.map_append, List.sum_append]
theorem sm_flat {α β : Type} (g : α → List β) (f : β → Int) : ∀ l : List α, ((l.flatMap g).map f).sum = (l.map fun x => ((g x).map f).sum).sum
  | [] => rfl
  | x :: l => by rw [List.flatMap_cons, sm_app, sm_flat g f l, List.map_cons, List.sum_cons]
theorem sm_map {α β : Type} (g : α → β) (f : β → Int) (l : List α) : ((l.map g).map f).sum = (l.map fun x => f (g x)).sum := by
  rw [List.map_map]; rfl
theorem sm_swap {α β : Type} (f : α → β → Int) (m : List β) : ∀ l : List α, (l.map fun x => (m.map fun y => f x y).sum).sum = (m.map fun y => (l.map fun x => f x y).sum).sum
  | [] => by simp [sm_zero]
  | x :: l => by
    rw [List.map_cons, List.sum_cons, sm_swap f m l, ← sm_add]
    exact sm_cg fun y _ => by rw [List.map_cons, List.sum_cons]
theorem sm_perm {α : Type} (f : α → Int) {l m : List α} (h : l.Perm m) : (l.map f).sum = (m.map f).sum := by
  induction h with
  | nil => rfl
  | cons x _ ih => rw [List.map_cons, List.map_cons, List.sum_cons, List.sum_cons, ih]
  | swap x y l => rw [List.map_cons, List.map_cons, List.map_cons, List.map_cons, List.sum_cons, List.sum_cons, List.sum_cons, List.sum_cons]; omega
  | trans _ _ i1 i2 => exact i1.trans i2
/-- one of a range -/
theorem sm_pick (g : Nat → Int) (x : Nat) : ∀ q : Nat, ((List.range q).map fun o => if x = o then g o else 0).sum = if x < q then g x else 0
  | 0 => by simp
  | q + 1 => by
    rw [List.range_succ, sm_app, sm_pick g x q]
    by_cases h : x < q
    · have h1 : ¬ x = q := by omega
      have h2 : x < q + 1 := by omega
      simp [h, h1, h2]
    · by_cases h1 : x = q
      · simp [h1]
      · have h2 : ¬ x < q + 1 := by omega
        simp [h, h1, h2]
theorem ins_app (a b : Nat) : ∀ (M : Nat) (l : List Nat), M ≤ l.length → (l ++ [b]).insertIdx M a = l.insertIdx M a ++ [b]
  | 0, l, _ => rfl
  | M + 1, [], h => by simp at h
  | M + 1, x :: l, h => by
    rw [List.cons_append, List.insertIdx_succ_cons, List.insertIdx_succ_cons, ins_app a b M l (by simpa using h)]
    rfl
/-! ### sums over rows -/
def sumR (q n : Nat) (f : List Nat → Int) : Int := ((rowsL q n).map f).sum
theorem sumR_cg {q n : Nat} {f g : List Nat → Int} (h : ∀ r, r.length = n → (∀ o ∈ r, o < q) → f r = g r) : sumR q n f = sumR q n g :=
  sm_cg fun r hr => h r (rowsL_row q n r hr) (rowsL_lt q n r hr)
theorem sumR_succ (q n : Nat) (f : List Nat → Int) : sumR q (n + 1) f = sumR q n fun r => ((List.range q).map fun o => f (r ++ [o])).sum := by
  unfold sumR
  rw [rowsL, sm_flat]
  exact sm_cg fun r _ => sm_map _ _ _
theorem sumR_add (q n : Nat) (f g : List Nat → Int) : (sumR q n fun r => f r + g r) = sumR q n f + sumR q n g := sm_add _ _ _
theorem sumR_mul (q n : Nat) (c : Int) (f : List Nat → Int) : (sumR q n fun r => c * f r) = c * sumR q n f := sm_mul _ _ _
theorem sumR_one (q n : Nat) : (sumR q n fun _ => 1) = (q : Int) ^ n := by
  unfold sumR
  rw [sm_const, rowsL_len]
  simp
/-- a place is put between -/
theorem sumR_ins (q : Nat) (M : Nat) : ∀ (n : Nat) (f : List Nat → Int), M ≤ n → sumR q (n + 1) f = sumR q n fun r => ((List.range q).map fun o => f (r.insertIdx M o)).sum := by
  intro n
  induction n with
  | zero =>
    intro f h
    have : M = 0 := by omega
    subst this
    rw [sumR_succ]
    exact sumR_cg fun r hr _ => by
      have : r = [] := List.length_eq_zero_iff.mp hr
      subst this
      rfl
  | succ n ih =>
    intro f h
    by_cases hM : M = n + 1
    · rw [sumR_succ]
      refine sumR_cg fun r hr _ => sm_cg fun o _ => ?_
      rw [hM, ← hr, List.insertIdx_length_self]
    · rw [sumR_succ, ih _ (by omega), sumR_succ]
      refine sumR_cg fun r hr _ => ?_
      rw [sm_swap]
      refine sm_cg fun o _ => sm_cg fun o' _ => ?_
      rw [ins_app _ _ _ _ (by omega)]

/-! ### names and parts -/
structure Inv (n : Nat) (l : List Nat) : Prop where
  len : l.length = n
  le : ∀ i, i < n → l.getD i 0 ≤ i
  idem : ∀ i, i < n → l.getD (l.getD i 0) 0 = l.getD i 0
theorem join_at {l : List Nat} {p : Nat × Nat} {i : Nat} (hi : i < l.length) : (joinN l p).getD i 0 = if l.getD p.1 0 = l.getD p.2 0 then l.getD i 0 else if l.getD i 0 = max (l.getD p.1 0) (l.getD p.2 0) then min (l.getD p.1 0) (l.getD p.2 0) else l.getD i 0 := by
  unfold joinN
  split
  · rfl
  · have e : ∀ g : Nat → Nat, (l.map g).getD i 0 = g (l.getD i 0) := fun g => by
      rw [List.getD_eq_getElem?_getD, List.getD_eq_getElem?_getD, List.getElem?_map, List.getElem?_eq_getElem hi]; rfl
    rw [e]
theorem inv_range (n : Nat) : Inv n (List.range n) := by
  have e : ∀ i, i < n → (List.range n).getD i 0 = i := fun i hi => by
    rw [List.getD_eq_getElem?_getD, List.getElem?_range hi]; rfl
  exact ⟨List.length_range, fun i hi => Nat.le_of_eq (e i hi), fun i hi => by rw [e i hi, e i hi]⟩
theorem inv_join {n : Nat} {l : List Nat} {p : Nat × Nat} (h : Inv n l) (hp : p.1 < n ∧ p.2 < n) : Inv n (joinN l p) := by
  obtain ⟨hl, h1, h2⟩ := h
  have a1 := h1 p.1 hp.1
  have a2 := h1 p.2 hp.2
  have b1 := h2 p.1 hp.1
  have b2 := h2 p.2 hp.2
  refine ⟨by rw [joinN_len, hl], fun i hi => ?_, fun i hi => ?_⟩
  · have := h1 i hi
    rw [join_at (by omega)]
    split
    · exact this
    · split <;> omega
  · have c1 := h1 i hi
    have c2 := h2 i hi
    rw [join_at (p := p) (i := i) (by omega)]
    generalize hA : l.getD p.1 0 = A at *
    generalize hB : l.getD p.2 0 = B at *
    generalize hI : l.getD i 0 = I at *
    by_cases hAB : A = B
    · rw [if_pos hAB, join_at (by omega), hA, hB, if_pos hAB, c2]
    · rw [if_neg hAB]
      by_cases hM : I = max A B
      · rw [if_pos hM, join_at (by omega), hA, hB, if_neg hAB]
        have : l.getD (min A B) 0 = min A B := by
          by_cases h3 : A ≤ B
          · rw [Nat.min_eq_left h3]; exact b1
          · rw [Nat.min_eq_right (by omega)]; exact b2
        rw [this]
        split <;> omega
      · rw [if_neg hM, join_at (by omega), hA, hB, if_neg hAB, c2, if_neg hM]
theorem inv_names {n : Nat} {ps : List (Nat × Nat)} (hp : ∀ p ∈ ps, p.1 < n ∧ p.2 < n) : Inv n (namesL n ps) := by
  have : ∀ (ps : List (Nat × Nat)) (l : List Nat), Inv n l → (∀ p ∈ ps, p.1 < n ∧ p.2 < n) → Inv n (ps.foldl joinN l) := by
    intro ps
    induction ps with
    | nil => intro l h _; exact h
    | cons p ps ih => intro l h hp; exact ih _ (inv_join h (hp p (List.mem_cons_self ..))) fun q hq => hp q (List.mem_cons_of_mem _ hq)
  exact this ps _ (inv_range n) hp
theorem join_const {n : Nat} {l : List Nat} {p : Nat × Nat} (h : Inv n l) (hp : p.1 < n ∧ p.2 < n) (f : Nat → Nat) : (∀ i, i < n → f i = f ((joinN l p).getD i 0)) ↔ (∀ i, i < n → f i = f (l.getD i 0)) ∧ f p.1 = f p.2 := by
  have h' := inv_join h hp
  obtain ⟨hl, h1, h2⟩ := h
  have a1 := h1 p.1 hp.1
  have a2 := h1 p.2 hp.2
  have b1 := h2 p.1 hp.1
  have b2 := h2 p.2 hp.2
  have e := fun i (hi : i < n) => join_at (l := l) (p := p) (i := i) (by omega)
  generalize hA : l.getD p.1 0 = A at *
  generalize hB : l.getD p.2 0 = B at *
  by_cases hAB : A = B
  · have e' : ∀ i, i < n → (joinN l p).getD i 0 = l.getD i 0 := fun i hi => by rw [e i hi, if_pos hAB]
    refine ⟨fun z => ⟨fun i hi => by rw [← e' i hi]; exact z i hi, ?_⟩, fun z i hi => by rw [e' i hi]; exact z.1 i hi⟩
    have z1 := z p.1 hp.1
    have z2 := z p.2 hp.2
    rw [e' _ hp.1, hA] at z1
    rw [e' _ hp.2, hB, ← hAB] at z2
    rw [z1, z2]
  · have e' : ∀ i, i < n → (joinN l p).getD i 0 = if l.getD i 0 = max A B then min A B else l.getD i 0 := fun i hi => by rw [e i hi, if_neg hAB]
    have hM : l.getD (max A B) 0 = max A B := by
      by_cases h3 : A ≤ B
      · rw [Nat.max_eq_right h3]; exact b2
      · rw [Nat.max_eq_left (by omega)]; exact b1
    have hL : l.getD (min A B) 0 = min A B := by
      by_cases h3 : A ≤ B
      · rw [Nat.min_eq_left h3]; exact b1
      · rw [Nat.min_eq_right (by omega)]; exact b2
    have hMn : max A B < n := by omega
    refine ⟨fun z => ?_, fun z i hi => ?_⟩
    · have zM := z _ hMn
      rw [e' _ hMn, hM, if_pos rfl] at zM
      have zi : ∀ i, i < n → f i = f (l.getD i 0) := fun i hi => by
        have := z i hi
        rw [e' i hi] at this
        split at this
        · rename_i h3
          rw [h3, zM, this]
        · exact this
      refine ⟨zi, ?_⟩
      rw [zi _ hp.1, zi _ hp.2, hA, hB]
      by_cases h3 : A ≤ B
      · rw [Nat.max_eq_right h3, Nat.min_eq_left h3] at zM; exact zM.symm
      · rw [Nat.max_eq_left (by omega), Nat.min_eq_right (by omega)] at zM; exact zM
    · obtain ⟨zi, zp⟩ := z
      rw [zi _ hp.1, zi _ hp.2, hA, hB] at zp
      rw [e' i hi]
      split
      · rename_i h3
        rw [zi i hi, h3]
        by_cases h4 : A ≤ B
        · rw [Nat.max_eq_right h4, Nat.min_eq_left h4]; exact zp.symm
        · rw [Nat.max_eq_left (by omega), Nat.min_eq_right (by omega)]; exact zp
      · exact zi i hi
theorem names_const {n : Nat} {ps : List (Nat × Nat)} (hp : ∀ p ∈ ps, p.1 < n ∧ p.2 < n) (f : Nat → Nat) : (∀ i, i < n → f i = f ((namesL n ps).getD i 0)) ↔ ∀ p ∈ ps, f p.1 = f p.2 := by
  have : ∀ (ps : List (Nat × Nat)) (l : List Nat), Inv n l → (∀ p ∈ ps, p.1 < n ∧ p.2 < n) → ((∀ i, i < n → f i = f ((ps.foldl joinN l).getD i 0)) ↔ (∀ i, i < n → f i = f (l.getD i 0)) ∧ ∀ p ∈ ps, f p.1 = f p.2) := by
    intro ps
    induction ps with
    | nil => intro l _ _; simp
    | cons p ps ih =>
      intro l h hp
      have hpp := hp p (List.mem_cons_self ..)
      rw [List.foldl_cons, ih _ (inv_join h hpp) fun q hq => hp q (List.mem_cons_of_mem _ hq), join_const h hpp, List.forall_mem_cons, and_assoc]
  have e : ∀ i, i < n → (List.range n).getD i 0 = i := fun i hi => by
    rw [List.getD_eq_getElem?_getD, List.getElem?_range hi]; rfl
  refine (this ps _ (inv_range n) hp).trans ⟨fun z => z.2, fun z => ⟨fun i hi => by rw [e i hi], z⟩⟩
/-- held together -/
def Conn (ps : List (Nat × Nat)) (p : Nat × Nat) : Prop := ∀ f : Nat → Nat, (∀ q ∈ ps, f q.1 = f q.2) → f p.1 = f p.2
theorem conn_names {n : Nat} {ps : List (Nat × Nat)} {p : Nat × Nat} (hps : ∀ p ∈ ps, p.1 < n ∧ p.2 < n) (hp : p.1 < n ∧ p.2 < n) : (namesL n ps).getD p.1 0 = (namesL n ps).getD p.2 0 ↔ Conn ps p := by
  have hI := inv_names hps
  refine ⟨fun z f hf => ?_, fun z => ?_⟩
  · have := (names_const hps f).mpr hf
    rw [this _ hp.1, this _ hp.2, z]
  · exact z (fun i => (namesL n ps).getD i 0) ((names_const hps _).mp fun i hi => (hI.idem i hi).symm)
theorem conn_mono {ps ps' : List (Nat × Nat)} {p : Nat × Nat} (h : ∀ q ∈ ps, q ∈ ps') (c : Conn ps p) : Conn ps' p := fun f hf => c f fun q hq => hf q (h q hq)
/-! how many parts -/
theorem nd_le {l : List Nat} : ∀ {m : List Nat}, l.Nodup → (∀ x ∈ l, x ∈ m) → l.length ≤ m.length := by
  induction l with
  | nil => intro m _ _; exact Nat.zero_le _
  | cons x l ih =>
    intro m hd hs
    rw [List.nodup_cons] at hd
    have hx := hs x (List.mem_cons_self ..)
    have h1 := ih (m := m.erase x) hd.2 fun y hy => by
      have hne : y ≠ x := fun e => hd.1 (e ▸ hy)
      exact (List.mem_erase_of_ne hne).mpr (hs y (List.mem_cons_of_mem _ hy))
    rw [List.length_erase_of_mem hx] at h1
    have := List.length_pos_of_mem hx
    rw [List.length_cons]
    omega
theorem addN_spec : ∀ (xs a : List Nat), a.Nodup → (xs.foldl addN a).Nodup ∧ ∀ x, x ∈ xs.foldl addN a ↔ x ∈ a ∨ x ∈ xs
  | [], a, h => ⟨h, fun x => by simp⟩
  | y :: xs, a, h => by
    rw [List.foldl_cons]
    by_cases hy : y ∈ a
    · have e : addN a y = a := by unfold addN; rw [if_pos hy]
      rw [e]
      obtain ⟨h1, h2⟩ := addN_spec xs a h
      refine ⟨h1, fun x => (h2 x).trans ?_⟩
      rw [List.mem_cons]
      constructor
      · rintro (z | z)
        · exact .inl z
        · exact .inr (.inr z)
      · rintro (z | rfl | z)
        · exact .inl z
        · exact .inl hy
        · exact .inr z
    · have e : addN a y = a ++ [y] := by unfold addN; rw [if_neg hy]
      rw [e]
      have hn : (a ++ [y]).Nodup := by
        rw [List.nodup_append]
        exact ⟨h, by simp, fun u hu v hv e => by simp at hv; exact hy (hv ▸ e ▸ hu)⟩
      obtain ⟨h1, h2⟩ := addN_spec xs _ hn
      refine ⟨h1, fun x => (h2 x).trans ?_⟩
      rw [List.mem_cons, List.mem_append, List.mem_singleton, or_assoc]
def fixN (n : Nat) (l : List Nat) : Nat := ((List.range n).filter fun i => decide (l.getD i 0 = i)).length
theorem inv_parts {n : Nat} {l : List Nat} (h : Inv n l) : (l.foldl addN []).length = fixN n l := by
  obtain ⟨h1, h2⟩ := addN_spec l [] List.nodup_nil
  have h3 : ((List.range n).filter fun i => decide (l.getD i 0 = i)).Nodup := List.Nodup.sublist List.filter_sublist List.nodup_range
  have hm : ∀ x, x ∈ l.foldl addN [] ↔ x ∈ (List.range n).filter fun i => decide (l.getD i 0 = i) := fun x => by
    rw [h2, List.mem_filter, List.mem_range, decide_eq_true_eq]
    constructor
    · rintro (z | z)
      · simp at z
      · obtain ⟨i, hi, e⟩ := List.getElem_of_mem z
        have hin : i < n := by rw [← h.len]; exact hi
        have e2 : l.getD i 0 = x := by rw [List.getD_eq_getElem?_getD, List.getElem?_eq_getElem hi, e]; rfl
        have c1 := h.le i hin
        have c2 := h.idem i hin
        rw [e2] at c1 c2
        exact ⟨by omega, c2⟩
    · rintro ⟨z1, z2⟩
      right
      have hx : x < l.length := by rw [h.len]; exact z1
      rw [List.getD_eq_getElem?_getD, List.getElem?_eq_getElem hx] at z2
      have z2 : l[x] = x := z2
      have := List.getElem_mem hx
      rwa [z2] at this
  unfold fixN
  exact Nat.le_antisymm (nd_le h1 fun x hx => (hm x).mp hx) (nd_le h3 fun x hx => (hm x).mpr hx)
theorem parts_fix {n : Nat} {ps : List (Nat × Nat)} (hp : ∀ p ∈ ps, p.1 < n ∧ p.2 < n) : partsN n ps = fixN n (namesL n ps) := inv_parts (inv_names hp)
/-- one less in a range -/
theorem filt_less (P Q : Nat → Bool) (M : Nat) : ∀ n, (∀ i, i < n → Q i = (P i && decide (i ≠ M))) → P M = true → ((List.range n).filter Q).length + (if M < n then 1 else 0) = ((List.range n).filter P).length
  | 0, _, _ => rfl
  | n + 1, h, hM => by
    have ih := filt_less P Q M n (fun i hi => h i (by omega)) hM
    rw [List.range_succ, List.filter_append, List.filter_append, List.length_append, List.length_append, ← ih, List.filter_cons, List.filter_cons]
    have hn := h n (by omega)
    by_cases h1 : n = M
    · subst h1
      simp [hn, hM]
    · have e : Q n = P n := by rw [hn]; simp [h1]
      rw [e]
      have : (if M < n + 1 then 1 else 0) = if M < n then 1 else 0 := by
        by_cases h2 : M < n
        · rw [if_pos h2, if_pos (by omega)]
        · rw [if_neg h2, if_neg (by omega)]
      rw [this, List.filter_nil, List.filter_nil]
      omega
theorem fix_join {n : Nat} {l : List Nat} {p : Nat × Nat} (h : Inv n l) (hp : p.1 < n ∧ p.2 < n) : fixN n (joinN l p) + (if l.getD p.1 0 = l.getD p.2 0 then 0 else 1) = fixN n l := by
  obtain ⟨hl, h1, h2⟩ := h
  have a1 := h1 p.1 hp.1
  have a2 := h1 p.2 hp.2
  have b1 := h2 p.1 hp.1
  have b2 := h2 p.2 hp.2
  have e := fun i (hi : i < n) => join_at (l := l) (p := p) (i := i) (by omega)
  generalize hA : l.getD p.1 0 = A at *
  generalize hB : l.getD p.2 0 = B at *
  by_cases hAB : A = B
  · rw [if_pos hAB]
    unfold fixN
    rw [Nat.add_zero]
    congr 1
    exact List.filter_congr fun i hi => by rw [e i (List.mem_range.mp hi), if_pos hAB]
  · rw [if_neg hAB]
    have hM : l.getD (max A B) 0 = max A B := by
      by_cases h3 : A ≤ B
      · rw [Nat.max_eq_right h3]; exact b2
      · rw [Nat.max_eq_left (by omega)]; exact b1
    have hL : l.getD (min A B) 0 = min A B := by
      by_cases h3 : A ≤ B
      · rw [Nat.min_eq_left h3]; exact b1
      · rw [Nat.min_eq_right (by omega)]; exact b2
    have := filt_less (fun i => decide (l.getD i 0 = i)) (fun i => decide ((joinN l p).getD i 0 = i)) (max A B) n (fun i hi => ?_) (by simpa using hM)
    · rw [if_pos (by omega)] at this
      exact this
    · show decide ((joinN l p).getD i 0 = i) = (decide (l.getD i 0 = i) && decide (i ≠ max A B))
      rw [e i hi, if_neg hAB, ← Bool.decide_and, decide_eq_decide]
      split
      · rename_i h3
        constructor
        · intro z
          rw [← z, hL] at h3
          omega
        · intro z
          omega
      · rename_i h3
        constructor
        · intro z
          exact ⟨z, fun z2 => h3 (by rw [z, z2])⟩
        · exact fun z => z.1
theorem names_snoc (n : Nat) (ps : List (Nat × Nat)) (p : Nat × Nat) : namesL n (ps ++ [p]) = joinN (namesL n ps) p := by
  simp [namesL, List.foldl_append]
theorem parts_conn {n : Nat} {ps : List (Nat × Nat)} {p : Nat × Nat} (hps : ∀ p ∈ ps, p.1 < n ∧ p.2 < n) (hp : p.1 < n ∧ p.2 < n) (c : Conn ps p) : partsN n (ps ++ [p]) = partsN n ps := by
  have hall : ∀ q ∈ ps ++ [p], q.1 < n ∧ q.2 < n := fun q hq => by
    rw [List.mem_append, List.mem_singleton] at hq
    rcases hq with hq | rfl
    · exact hps q hq
    · exact hp
  have := fix_join (inv_names hps) hp
  rw [if_pos ((conn_names hps hp).mpr c)] at this
  rw [parts_fix hall, parts_fix hps, names_snoc]
  exact this
theorem parts_new {n : Nat} {ps : List (Nat × Nat)} {p : Nat × Nat} (hps : ∀ p ∈ ps, p.1 < n ∧ p.2 < n) (hp : p.1 < n ∧ p.2 < n) (c : ¬ Conn ps p) : partsN n (ps ++ [p]) + 1 = partsN n ps := by
  have hall : ∀ q ∈ ps ++ [p], q.1 < n ∧ q.2 < n := fun q hq => by
    rw [List.mem_append, List.mem_singleton] at hq
    rcases hq with hq | rfl
    · exact hps q hq
    · exact hp
  have := fix_join (inv_names hps) hp
  rw [if_neg fun z => c ((conn_names hps hp).mp z)] at this
  rw [parts_fix hall, parts_fix hps, names_snoc]
  exact this

/-! ### rows that are constant on pairs -/
def ind (ps : List (Nat × Nat)) (r : List Nat) : Int := if ps.all (likeB r) = true then 1 else 0
theorem ind_nil (r : List Nat) : ind [] r = 1 := rfl
theorem ind_snoc (ps : List (Nat × Nat)) (p : Nat × Nat) (r : List Nat) : ind (ps ++ [p]) r = ind ps r * if likeB r p = true then 1 else 0 := by
  unfold ind
  rw [List.all_append]
  cases h1 : ps.all (likeB r) <;> cases h2 : likeB r p <;> simp [h2]
theorem count_const (q : Nat) (l : Nat → Nat) : ∀ n, (∀ i, i < n → l i ≤ i) → (sumR q n fun r => if (∀ i, i < n → r.getD i 0 = r.getD (l i) 0) then 1 else 0) = (q : Int) ^ ((List.range n).filter fun i => decide (l i = i)).length
  | 0, _ => by simp [sumR, rowsL]
  | n + 1, h => by
    have ih := count_const q l n fun i hi => h i (by omega)
    rw [sumR_succ]
    have hl := h n (by omega)
    have key : ∀ r : List Nat, r.length = n → ∀ o, (∀ i, i < n + 1 → (r ++ [o]).getD i 0 = (r ++ [o]).getD (l i) 0) ↔ (∀ i, i < n → r.getD i 0 = r.getD (l i) 0) ∧ (l n = n ∨ o = r.getD (l n) 0) := fun r hr o => by
      have e1 : ∀ i, i < n → (r ++ [o]).getD i 0 = r.getD i 0 := fun i hi => by
        rw [List.getD_eq_getElem?_getD, List.getElem?_append_left (by omega), List.getD_eq_getElem?_getD]
      have e2 : (r ++ [o]).getD n 0 = o := by
        rw [List.getD_eq_getElem?_getD, ← hr, List.getElem?_concat_length]; rfl
      constructor
      · intro z
        refine ⟨fun i hi => ?_, ?_⟩
        · have := z i (by omega)
          have hli := h i (by omega)
          rwa [e1 i hi, e1 _ (by omega)] at this
        · by_cases h3 : l n = n
          · exact .inl h3
          · have := z n (by omega)
            rw [e2, e1 _ (by omega)] at this
            exact .inr this
      · rintro ⟨z1, z2⟩ i hi
        by_cases h3 : i < n
        · have hli := h i (by omega)
          rw [e1 i h3, e1 _ (by omega)]
          exact z1 i h3
        · have : i = n := by omega
          subst this
          rcases z2 with z2 | z2
          · rw [z2]
          · by_cases h4 : l i = i
            · rw [h4]
            · rw [e2, e1 _ (by omega)]; exact z2
    rw [List.range_succ, List.filter_append, List.length_append]
    by_cases hn : l n = n
    · have e : ((List.filter (fun i => decide (l i = i)) [n]).length) = 1 := by simp [hn]
      rw [e, Int.pow_succ, ← ih, Int.mul_comm, ← sumR_mul]
      refine sumR_cg fun r hr _ => ?_
      rw [sm_cg (g := fun _ => if (∀ i, i < n → r.getD i 0 = r.getD (l i) 0) then 1 else 0) fun o _ => by
        have := key r hr o
        simp only [hn, true_or, and_true] at this
        by_cases h5 : (∀ i, i < n → r.getD i 0 = r.getD (l i) 0)
        · rw [if_pos h5, if_pos (this.mpr h5)]
        · rw [if_neg h5, if_neg fun z => h5 (this.mp z)]]
      rw [sm_const, List.length_range]
    · have e : ((List.filter (fun i => decide (l i = i)) [n]).length) = 0 := by simp [hn]
      rw [e]
      refine Eq.trans ?_ ih
      refine sumR_cg fun r hr hq => ?_
      have hx : r.getD (l n) 0 < q := by
        rw [List.getD_eq_getElem?_getD, List.getElem?_eq_getElem (by omega)]
        exact hq _ (List.getElem_mem _)
      rw [sm_cg (g := fun o => if r.getD (l n) 0 = o then (if (∀ i, i < n → r.getD i 0 = r.getD (l i) 0) then 1 else 0) else 0) fun o _ => by
        have := key r hr o
        simp only [hn, false_or] at this
        by_cases h5 : r.getD (l n) 0 = o
        · rw [if_pos h5]
          by_cases h6 : (∀ i, i < n → r.getD i 0 = r.getD (l i) 0)
          · rw [if_pos h6, if_pos (this.mpr ⟨h6, h5.symm⟩)]
          · rw [if_neg h6, if_neg fun z => h6 (this.mp z).1]
        · rw [if_neg h5, if_neg fun z => h5 (this.mp z).2.symm]]
      rw [sm_pick (fun _ => if (∀ i, i < n → r.getD i 0 = r.getD (l i) 0) then 1 else 0), if_pos hx]
theorem count_ind {n : Nat} {ps : List (Nat × Nat)} (q : Nat) (hp : ∀ p ∈ ps, p.1 < n ∧ p.2 < n) : sumR q n (ind ps) = (q : Int) ^ partsN n ps := by
  rw [parts_fix hp]
  unfold fixN
  rw [← count_const q (fun i => (namesL n ps).getD i 0) n fun i hi => (inv_names hp).le i hi]
  refine sumR_cg fun r _ _ => ?_
  have := names_const hp fun i => r.getD i 0
  unfold ind
  have e : ps.all (likeB r) = true ↔ ∀ p ∈ ps, r.getD p.1 0 = r.getD p.2 0 := by
    rw [List.all_eq_true]
    simp [likeB]
  by_cases h : ps.all (likeB r) = true
  · rw [if_pos h, if_pos (this.mpr (e.mp h))]
  · rw [if_neg h, if_neg fun z => h (e.mpr (this.mp z))]
/-! ### weights of rows -/
def W (ps : List (Nat × Nat)) (a b : Int) (r : List Nat) : Int := a ^ likeN ps r * b ^ (ps.length - likeN ps r)
theorem likeN_snoc (ps : List (Nat × Nat)) (p : Nat × Nat) (r : List Nat) : likeN (ps ++ [p]) r = likeN ps r + if likeB r p = true then 1 else 0 := by
  unfold likeN
  rw [List.filter_append, List.length_append]
  cases h : likeB r p <;> simp [h]
theorem W_snoc (ps : List (Nat × Nat)) (p : Nat × Nat) (a b : Int) (r : List Nat) : W (ps ++ [p]) a b r = W ps a b r * if likeB r p = true then a else b := by
  unfold W
  have hle := likeN_le ps r
  rw [likeN_snoc, List.length_append]
  cases h : likeB r p
  · have e : ps.length + [p].length - (likeN ps r + 0) = ps.length - likeN ps r + 1 := by simp; omega
    simp only [Bool.false_eq_true, if_false, e]
    rw [Int.pow_succ, Int.mul_assoc]
    rfl
  · have e : ps.length + [p].length - (likeN ps r + 1) = ps.length - likeN ps r := by simp
    simp only [if_true, e]
    rw [Int.pow_succ, Int.mul_assoc, Int.mul_assoc, Int.mul_comm a]
theorem pick_app {ps : List (Nat × Nat)} {p : Nat × Nat} {s : List Nat} (h : ∀ o ∈ s, o < ps.length) : pick (ps ++ [p]) s = pick ps s := by
  unfold pick
  refine List.map_congr_left fun k hk => ?_
  rw [List.getD_eq_getElem?_getD, List.getElem?_append_left (h k hk), List.getD_eq_getElem?_getD]
theorem pick_snoc {ps : List (Nat × Nat)} {p : Nat × Nat} {s : List Nat} (h : ∀ o ∈ s, o < ps.length) : pick (ps ++ [p]) (s ++ [ps.length]) = pick ps s ++ [p] := by
  have := pick_app (p := p) h
  unfold pick at this ⊢
  rw [List.map_append, this]
  congr 1
  simp
/-- by sets of pairs -/
theorem W_sets (a b : Int) (r : List Nat) : ∀ (k : Nat) (ps : List (Nat × Nat)), ps.length = k → W ps a b r = ((setsL k).map fun s => ind (pick ps s) r * ((a - b) ^ s.length * b ^ (k - s.length))).sum := by
  intro k
  induction k with
  | zero =>
    intro ps h
    have : ps = [] := List.length_eq_zero_iff.mp h
    subst this
    simp [W, setsL, pick, ind, likeN]
  | succ k ih =>
    intro ps h
    have hne : ps ≠ [] := fun e => by rw [e] at h; simp at h
    obtain ⟨qs, p, rfl⟩ : ∃ qs p, ps = qs ++ [p] := ⟨_, _, (List.dropLast_concat_getLast hne).symm⟩
    have hq : qs.length = k := by simpa using h
    rw [W_snoc, ih qs hq, setsL, sm_app, sm_map]
    have e1 : ((setsL k).map fun s => ind (pick (qs ++ [p]) s) r * ((a - b) ^ s.length * b ^ (k + 1 - s.length))).sum = b * ((setsL k).map fun s => ind (pick qs s) r * ((a - b) ^ s.length * b ^ (k - s.length))).sum := by
      rw [← sm_mul]
      refine sm_cg fun s hs => ?_
      have hsl := setsL_le k s hs
      rw [pick_app (by rw [hq]; exact setsL_lt k s hs), show k + 1 - s.length = k - s.length + 1 by omega, Int.pow_succ]
      ac_rfl
    have e2 : ((setsL k).map fun s => ind (pick (qs ++ [p]) (s ++ [k])) r * ((a - b) ^ (s ++ [k]).length * b ^ (k + 1 - (s ++ [k]).length))).sum = ((a - b) * if likeB r p = true then 1 else 0) * ((setsL k).map fun s => ind (pick qs s) r * ((a - b) ^ s.length * b ^ (k - s.length))).sum := by
      rw [← sm_mul]
      refine sm_cg fun s hs => ?_
      have hsl := setsL_le k s hs
      have := pick_snoc (ps := qs) (p := p) (s := s) (by rw [hq]; exact setsL_lt k s hs)
      rw [hq] at this
      rw [this, ind_snoc, List.length_append, show k + 1 - (s.length + [k].length) = k - s.length by simp, show s.length + [k].length = s.length + 1 by simp, Int.pow_succ]
      ac_rfl
    rw [e1, e2, ← Int.add_mul, Int.mul_comm]
    congr 1
    cases likeB r p <;> simp
    omega
/-- the sum over rows is the sum over sets -/
theorem rows_sets {n : Nat} {ps : List (Nat × Nat)} (q : Nat) (a b : Int) (hp : ∀ p ∈ ps, p.1 < n ∧ p.2 < n) : sumR q n (W ps a b) = ((setsL ps.length).map (setT n ps q a b)).sum := by
  rw [sumR_cg fun r _ _ => W_sets a b r ps.length ps rfl]
  unfold sumR
  rw [sm_swap]
  refine sm_cg fun s hs => ?_
  rw [sm_mulR]
  have := count_ind q (pick_lt (setsL_lt _ s hs) hp)
  unfold sumR at this
  rw [this]
  unfold setT
  rw [Int.mul_assoc]
theorem rows_sets_with {n : Nat} {ps : List (Nat × Nat)} {p : Nat × Nat} (q : Nat) (a b : Int) (hps : ∀ p ∈ ps, p.1 < n ∧ p.2 < n) (hp : p.1 < n ∧ p.2 < n) : (sumR q n fun r => W ps a b r * if likeB r p = true then 1 else 0) = ((setsL ps.length).map fun s => (q : Int) ^ partsN n (pick ps s ++ [p]) * ((a - b) ^ s.length * b ^ (ps.length - s.length))).sum := by
  rw [sumR_cg (g := fun r => ((setsL ps.length).map fun s => ind (pick ps s ++ [p]) r * ((a - b) ^ s.length * b ^ (ps.length - s.length))).sum) fun r _ _ => by
    rw [W_sets a b r ps.length ps rfl, ← sm_mulR]
    refine sm_cg fun s _ => ?_
    rw [ind_snoc]
    ac_rfl]
  unfold sumR
  rw [sm_swap]
  refine sm_cg fun s hs => ?_
  rw [sm_mulR]
  have := count_ind (ps := pick ps s ++ [p]) q (n := n) fun x hx => by
    rw [List.mem_append, List.mem_singleton] at hx
    rcases hx with hx | rfl
    · exact pick_lt (setsL_lt _ s hs) hps x hx
    · exact hp
  unfold sumR at this
  rw [this]
/-- a bridge: a q-th of the rows -/
theorem rows_bridge {n : Nat} {ps : List (Nat × Nat)} {p : Nat × Nat} (q : Nat) (a b : Int) (hps : ∀ p ∈ ps, p.1 < n ∧ p.2 < n) (hp : p.1 < n ∧ p.2 < n) (c : ¬ Conn ps p) : (q : Int) * (sumR q n fun r => W ps a b r * if likeB r p = true then 1 else 0) = sumR q n (W ps a b) := by
  rw [rows_sets_with q a b hps hp, rows_sets q a b hps, ← sm_mul]
  refine sm_cg fun s hs => ?_
  have hsl := setsL_lt _ s hs
  have hc : ¬ Conn (pick ps s) p := fun z => c (conn_mono (fun x hx => by
    unfold pick at hx
    rw [List.mem_map] at hx
    obtain ⟨k, hk, rfl⟩ := hx
    rw [List.getD_eq_getElem?_getD, List.getElem?_eq_getElem (hsl k hk)]
    exact List.getElem_mem _) z)
  unfold setT
  rw [← parts_new (pick_lt hsl hps) hp hc, Int.pow_succ]
  ac_rfl

/-! ### taking away and joining -/
theorem ins_getD {r : List Nat} {p : Nat × Nat} {i : Nat} (hM : max p.1 p.2 ≤ r.length) (hne : p.1 ≠ p.2) : (r.insertIdx (max p.1 p.2) (r.getD (min p.1 p.2) 0)).getD i 0 = r.getD (renN p i) 0 := by
  rw [List.getD_eq_getElem?_getD, List.getElem?_insertIdx]
  unfold renN
  by_cases h1 : i < max p.1 p.2
  · rw [if_pos h1, if_neg (by omega), if_neg (by omega), List.getD_eq_getElem?_getD]
  · rw [if_neg h1]
    by_cases h2 : i = max p.1 p.2
    · rw [if_pos h2, if_pos h2, if_pos (by omega)]; rfl
    · rw [if_neg h2, if_neg h2, if_pos (by omega), List.getD_eq_getElem?_getD]
theorem ins_like {r : List Nat} {p : Nat × Nat} (hM : max p.1 p.2 ≤ r.length) (hne : p.1 ≠ p.2) (o : Nat) : likeB (r.insertIdx (max p.1 p.2) o) p = decide (r.getD (min p.1 p.2) 0 = o) := by
  have e1 : (r.insertIdx (max p.1 p.2) o).getD (max p.1 p.2) 0 = o := by
    rw [List.getD_eq_getElem?_getD, List.getElem?_insertIdx, if_neg (by omega), if_pos rfl, if_pos hM]; rfl
  have e2 : (r.insertIdx (max p.1 p.2) o).getD (min p.1 p.2) 0 = r.getD (min p.1 p.2) 0 := by
    rw [List.getD_eq_getElem?_getD, List.getElem?_insertIdx, if_pos (by omega), List.getD_eq_getElem?_getD]
  unfold likeB
  rw [decide_eq_decide]
  by_cases h : p.1 ≤ p.2
  · rw [Nat.max_eq_right h] at e1 e2 ⊢
    rw [Nat.min_eq_left h] at e2 ⊢
    rw [e1, e2]
  · rw [Nat.max_eq_left (by omega)] at e1 e2 ⊢
    rw [Nat.min_eq_right (by omega)] at e2 ⊢
    rw [e1, e2]
    exact ⟨Eq.symm, Eq.symm⟩
/-- rows that are alike at a pair are rows of the joined web -/
theorem sumR_like {n : Nat} {p : Nat × Nat} (q : Nat) (g : List Nat → Int) (hp : p.1 < n ∧ p.2 < n) (hne : p.1 ≠ p.2) : (sumR q n fun r => if likeB r p = true then g r else 0) = sumR q (n - 1) fun r => g (r.insertIdx (max p.1 p.2) (r.getD (min p.1 p.2) 0)) := by
  obtain ⟨n, rfl⟩ : ∃ n', n = n' + 1 := ⟨n - 1, by omega⟩
  rw [sumR_ins q (max p.1 p.2) n _ (by omega), Nat.add_sub_cancel]
  refine sumR_cg fun r hr hq => ?_
  have hx : r.getD (min p.1 p.2) 0 < q := by
    rw [List.getD_eq_getElem?_getD, List.getElem?_eq_getElem (by omega)]
    exact hq _ (List.getElem_mem _)
  rw [sm_cg (g := fun o => if r.getD (min p.1 p.2) 0 = o then g (r.insertIdx (max p.1 p.2) o) else 0) fun o _ => by
    rw [ins_like (by omega) hne]
    by_cases h : r.getD (min p.1 p.2) 0 = o <;> simp [h]]
  rw [sm_pick (fun o => g (r.insertIdx (max p.1 p.2) o)), if_pos hx]
theorem likeN_erase {ps : List (Nat × Nat)} {k : Nat} {p : Nat × Nat} (hk : ps[k]? = some p) (r : List Nat) : likeN ps r = likeN (ps.eraseIdx k) r + if likeB r p = true then 1 else 0 := by
  obtain ⟨h1, h2⟩ := List.getElem?_eq_some_iff.mp hk
  have e : ps = ps.take k ++ p :: ps.drop (k + 1) := by
    rw [← h2, ← List.drop_eq_getElem_cons h1, List.take_append_drop]
  unfold likeN
  rw [List.eraseIdx_eq_take_drop_succ]
  conv => lhs; rw [e]
  rw [List.filter_append, List.filter_append, List.length_append, List.length_append, List.filter_cons]
  split <;> simp <;> omega
theorem mem_erase {ps : List (Nat × Nat)} {k : Nat} {p : Nat × Nat} (hk : ps[k]? = some p) (x : Nat × Nat) : x ∈ ps ↔ x ∈ ps.eraseIdx k ++ [p] := by
  obtain ⟨h1, h2⟩ := List.getElem?_eq_some_iff.mp hk
  have e : ps = ps.take k ++ p :: ps.drop (k + 1) := by
    rw [← h2, ← List.drop_eq_getElem_cons h1, List.take_append_drop]
  rw [List.eraseIdx_eq_take_drop_succ]
  conv => lhs; rw [e]
  rw [List.mem_append, List.mem_append, List.mem_append, List.mem_cons, List.mem_singleton, or_assoc]
  constructor
  · rintro (z | z | z)
    · exact .inl z
    · exact .inr (.inr z)
    · exact .inr (.inl z)
  · rintro (z | z | z)
    · exact .inl z
    · exact .inr (.inr z)
    · exact .inr (.inl z)
theorem likeN_joined {ps : List (Nat × Nat)} {k : Nat} {p : Nat × Nat} {r : List Nat} (hM : max p.1 p.2 ≤ r.length) (hne : p.1 ≠ p.2) : likeN (ps.eraseIdx k) (r.insertIdx (max p.1 p.2) (r.getD (min p.1 p.2) 0)) = likeN (joinedL ps k p) r := by
  unfold likeN joinedL
  rw [List.filter_map, List.length_map]
  congr 1
  refine List.filter_congr fun x _ => ?_
  show likeB _ x = likeB r (renN p x.1, renN p x.2)
  unfold likeB
  rw [ins_getD hM hne, ins_getD hM hne]
theorem W_one (ps : List (Nat × Nat)) (a : Int) (r : List Nat) : W ps a 1 r = a ^ likeN ps r := by
  unfold W
  rw [Int.one_pow, Int.mul_one]
/-- the sum of a web is that without a pair and, v times, that with it joined -/
theorem rows_del {n k : Nat} {ps : List (Nat × Nat)} {p : Nat × Nat} (q : Nat) (v : Int) (hp : ∀ p ∈ ps, p.1 < n ∧ p.2 < n) (hk : ps[k]? = some p) (hne : p.1 ≠ p.2) :
    sumR q n (W ps (1 + v) 1) = sumR q n (W (ps.eraseIdx k) (1 + v) 1) + v * sumR q (n - 1) (W (joinedL ps k p) (1 + v) 1) := by
  have hpk := hp p (List.mem_of_getElem? hk)
  rw [sumR_cg (g := fun r => W (ps.eraseIdx k) (1 + v) 1 r + v * (if likeB r p = true then W (ps.eraseIdx k) (1 + v) 1 r else 0)) fun r _ _ => by
    rw [W_one, W_one, likeN_erase hk]
    cases likeB r p
    · simp
    · simp only [if_true]
      rw [Int.pow_succ, Int.mul_add, Int.mul_one]
      congr 1
      exact Int.mul_comm _ _]
  rw [sumR_add, sumR_mul, sumR_like q _ hpk hne]
  congr 2
  refine sumR_cg fun r hr _ => ?_
  rw [W_one, W_one, likeN_joined (by omega) hne]
theorem pow2_inj {a b : Nat} (h : ((2 : Nat) : Int) ^ a = ((2 : Nat) : Int) ^ b) : a = b := by
  have h2 : 2 ^ a = 2 ^ b := by exact_mod_cast h
  exact (Nat.pow_right_inj (by decide)).mp h2
/-- parts by which pairs there are, in any order -/
theorem parts_same {n : Nat} {ps qs : List (Nat × Nat)} (hp : ∀ p ∈ ps, p.1 < n ∧ p.2 < n) (h : ∀ x, x ∈ ps ↔ x ∈ qs) : partsN n ps = partsN n qs := by
  have h1 := count_ind 2 hp
  have h2 := count_ind (n := n) 2 fun p hp' => hp p ((h p).mpr hp')
  rw [sumR_cg (g := ind qs) fun r _ _ => ?_] at h1
  · exact pow2_inj (h1.symm.trans h2)
  · unfold ind
    have : ps.all (likeB r) = qs.all (likeB r) := by
      rw [Bool.eq_iff_iff, List.all_eq_true, List.all_eq_true]
      exact ⟨fun z x hx => z x ((h x).mpr hx), fun z x hx => z x ((h x).mp hx)⟩
    rw [this]
theorem parts_joined {n k : Nat} {ps : List (Nat × Nat)} {p : Nat × Nat} (hp : ∀ p ∈ ps, p.1 < n ∧ p.2 < n) (hk : ps[k]? = some p) (hne : p.1 ≠ p.2) : partsN (n - 1) (joinedL ps k p) = partsN n ps := by
  have hpk := hp p (List.mem_of_getElem? hk)
  have hpe : ∀ x ∈ ps.eraseIdx k, x.1 < n ∧ x.2 < n := fun x hx => hp x (List.mem_of_mem_eraseIdx hx)
  have hj : ∀ x ∈ joinedL ps k p, x.1 < n - 1 ∧ x.2 < n - 1 := fun x hx => by
    unfold joinedL at hx
    rw [List.mem_map] at hx
    obtain ⟨y, hy, rfl⟩ := hx
    have := hpe y hy
    exact ⟨renN_lt hpk hne this.1, renN_lt hpk hne this.2⟩
  rw [parts_same hp (mem_erase hk)]
  have h1 := count_ind 2 hj
  have h2 := count_ind (n := n) (ps := ps.eraseIdx k ++ [p]) 2 fun x hx => hp x ((mem_erase hk x).mpr hx)
  refine pow2_inj (h1.symm.trans (Eq.trans ?_ h2))
  rw [sumR_cg (g := fun r => if likeB r p = true then ind (ps.eraseIdx k) r else 0) (f := ind (ps.eraseIdx k ++ [p])) fun r _ _ => by
    rw [ind_snoc]
    cases likeB r p <;> simp]
  rw [sumR_like 2 _ hpk hne]
  refine sumR_cg fun r hr _ => ?_
  unfold ind joinedL
  rw [List.all_map]
  congr 2
  refine List.all_congr rfl fun x => ?_
  show likeB r (renN p x.1, renN p x.2) = likeB _ x
  unfold likeB
  rw [ins_getD (by omega) hne, ins_getD (by omega) hne]
theorem not_bridge {n k : Nat} {ps : List (Nat × Nat)} {p : Nat × Nat} (hp : ∀ p ∈ ps, p.1 < n ∧ p.2 < n) (hk : ps[k]? = some p) (h : ¬ partsN n ps < partsN n (ps.eraseIdx k)) : partsN n (ps.eraseIdx k) = partsN n ps := by
  have hpk := hp p (List.mem_of_getElem? hk)
  have hpe : ∀ x ∈ ps.eraseIdx k, x.1 < n ∧ x.2 < n := fun x hx => hp x (List.mem_of_mem_eraseIdx hx)
  rw [parts_same hp (mem_erase hk)] at h ⊢
  by_cases c : Conn (ps.eraseIdx k) p
  · exact (parts_conn hpe hpk c).symm
  · have := parts_new hpe hpk c
    omega
theorem bridge_conn {n k : Nat} {ps : List (Nat × Nat)} {p : Nat × Nat} (hp : ∀ p ∈ ps, p.1 < n ∧ p.2 < n) (hk : ps[k]? = some p) (h : partsN n ps < partsN n (ps.eraseIdx k)) : ¬ Conn (ps.eraseIdx k) p := by
  have hpk := hp p (List.mem_of_getElem? hk)
  have hpe : ∀ x ∈ ps.eraseIdx k, x.1 < n ∧ x.2 < n := fun x hx => hp x (List.mem_of_mem_eraseIdx hx)
  intro c
  rw [parts_same hp (mem_erase hk), parts_conn hpe hpk c] at h
  omega
/-! loops and bridges alone -/
def loopB (p : Nat × Nat) : Bool := decide (p.1 = p.2)
def loopsN (ps : List (Nat × Nat)) : Nat := (ps.filter loopB).length
def linksN (ps : List (Nat × Nat)) : Nat := (ps.filter fun p => !loopB p).length
theorem forest_rows {n : Nat} (q : Nat) (hq : 0 < q) (v : Int) : ∀ (k : Nat) (ps : List (Nat × Nat)), ps.length = k → (∀ p ∈ ps, p.1 < n ∧ p.2 < n) → (∀ k p, ps[k]? = some p → p.1 = p.2 ∨ ¬ Conn (ps.eraseIdx k) p) →
    linksN ps + partsN n ps = n ∧ sumR q n (W ps (1 + v) 1) = (q : Int) ^ partsN n ps * (((q : Int) + v) ^ linksN ps * (1 + v) ^ loopsN ps) := by
  intro k
  induction k with
  | zero =>
    intro ps h _ _
    have : ps = [] := List.length_eq_zero_iff.mp h
    subst this
    have e : partsN n [] = n := by
      rw [parts_fix (by simp)]
      unfold fixN
      rw [List.filter_eq_self.mpr, List.length_range]
      intro i hi
      have hi := List.mem_range.mp hi
      show decide ((List.range n).getD i 0 = i) = true
      rw [List.getD_eq_getElem?_getD, List.getElem?_range hi]
      simp
    refine ⟨by rw [e]; simp [linksN], ?_⟩
    rw [e]
    have : (W [] (1 + v) 1) = fun _ => 1 := by funext r; simp [W_one, likeN]
    rw [this, sumR_one]
    simp [linksN, loopsN]
  | succ k ih =>
    intro ps h hp hc
    have hne : ps ≠ [] := fun e => by rw [e] at h; simp at h
    obtain ⟨qs, p, rfl⟩ : ∃ qs p, ps = qs ++ [p] := ⟨_, _, (List.dropLast_concat_getLast hne).symm⟩
    have hl : qs.length = k := by simpa using h
    have hpq : ∀ x ∈ qs, x.1 < n ∧ x.2 < n := fun x hx => hp x (List.mem_append_left _ hx)
    have hpp : p.1 < n ∧ p.2 < n := hp p (by simp)
    obtain ⟨i1, i2⟩ := ih qs hl hpq fun j x hx => by
      have hj : j < qs.length := (List.getElem?_eq_some_iff.mp hx).1
      rcases hc j x (by rw [List.getElem?_append_left hj]; exact hx) with z | z
      · exact .inl z
      · refine .inr fun c => z (conn_mono (fun y hy => ?_) c)
        rw [List.eraseIdx_append_of_lt_length hj]
        exact List.mem_append_left _ hy
    have hlast := hc k p (by rw [← hl, List.getElem?_concat_length])
    have e0 : (qs ++ [p]).eraseIdx k = qs := by
      rw [← hl, List.eraseIdx_append_of_length_le (Nat.le_refl _)]
      simp
    rw [e0] at hlast
    have eW : sumR q n (W (qs ++ [p]) (1 + v) 1) = sumR q n (W qs (1 + v) 1) + v * (sumR q n fun r => W qs (1 + v) 1 r * if likeB r p = true then 1 else 0) := by
      rw [← sumR_mul, ← sumR_add]
      refine sumR_cg fun r _ _ => ?_
      rw [W_snoc]
      cases likeB r p
      · simp
      · simp only [if_true]
        rw [Int.mul_add, Int.mul_one, Int.mul_comm v]
    by_cases hloop : p.1 = p.2
    · have c : Conn qs p := fun f _ => by rw [hloop]
      have f1 : linksN (qs ++ [p]) = linksN qs := by simp [linksN, loopB, hloop]
      have f2 : loopsN (qs ++ [p]) = loopsN qs + 1 := by simp [loopsN, loopB, hloop]
      rw [parts_conn hpq hpp c, f1, f2]
      refine ⟨i1, ?_⟩
      rw [eW, sumR_cg (f := fun r => W qs (1 + v) 1 r * if likeB r p = true then 1 else 0) (g := W qs (1 + v) 1) fun r _ _ => by simp [likeB, hloop], i2, Int.pow_succ]
      rw [show ∀ x : Int, x + v * x = x * (1 + v) from fun x => by rw [Int.mul_add, Int.mul_one, Int.mul_comm v]]
      ac_rfl
    · have c : ¬ Conn qs p := by
        rcases hlast with z | z
        · exact absurd z hloop
        · exact z
      have f1 : linksN (qs ++ [p]) = linksN qs + 1 := by simp [linksN, loopB, hloop]
      have f2 : loopsN (qs ++ [p]) = loopsN qs := by simp [loopsN, loopB, hloop]
      have f3 := parts_new hpq hpp c
      refine ⟨by omega, ?_⟩
      have hb := rows_bridge q (1 + v) 1 hpq hpp c
      have hq' : (q : Int) ≠ 0 := by omega
      refine Int.eq_of_mul_eq_mul_left hq' ?_
      rw [eW, Int.mul_add, Int.mul_left_comm, hb, i2, f1, f2, ← f3, Int.pow_succ, Int.pow_succ, ← Int.add_mul]
      ac_rfl

/-! ### the polynomial of two unknowns -/
def potF (q : Nat) (v : Int) (R i j : Nat) : Int := ((q : Int) + v) ^ i * v ^ (R - i) * (1 + v) ^ j
structure TutOk (n : Nat) (ps : List (Nat × Nat)) (T : Tab) : Prop where
  nd : (T.map (·.1)).Nodup
  le : ∀ k ∈ T.map (·.1), k.1 ≤ n - partsN n ps
  le2 : ∀ k ∈ T.map (·.1), k.2 ≤ ps.length
  len : T.length ≤ 2 ^ ps.length
  val : ∀ (q : Nat) (v : Int), 0 < q → (q : Int) ^ partsN n ps * valT (potF q v (n - partsN n ps)) T = sumR q n (W ps (1 + v) 1)
theorem loops_links (ps : List (Nat × Nat)) : loopsN ps + linksN ps = ps.length := by
  unfold loopsN linksN
  induction ps with
  | nil => rfl
  | cons p ps ih =>
    rw [List.filter_cons, List.filter_cons, List.length_cons]
    cases loopB p <;> simp <;> omega
theorem tut_base {n : Nat} {ps : List (Nat × Nat)} (hp : ∀ p ∈ ps, p.1 < n ∧ p.2 < n) (h : ∀ k p, ps[k]? = some p → p.1 = p.2 ∨ partsN n ps < partsN n (ps.eraseIdx k)) : TutOk n ps [((linksN ps, loopsN ps), 1)] := by
  have hf := fun (q : Nat) (hq : 0 < q) (v : Int) => forest_rows q hq v ps.length ps rfl hp fun k p hk => by
    rcases h k p hk with z | z
    · exact .inl z
    · exact .inr (bridge_conn hp hk z)
  have h1 := (hf 1 (by decide) 0).1
  have h2 := loops_links ps
  refine ⟨by simp, fun k hk => ?_, fun k hk => ?_, ?_, fun q v hq => ?_⟩
  · simp at hk; subst hk; show linksN ps ≤ _; omega
  · simp at hk; subst hk; show loopsN ps ≤ _; omega
  · exact Nat.one_le_two_pow
  · rw [(hf q hq v).2]
    unfold valT potF
    have : n - partsN n ps - linksN ps = 0 := by omega
    simp [this]
theorem valT_cg {F G : Nat → Nat → Int} {T : Tab} (h : ∀ k ∈ T.map (·.1), F k.1 k.2 = G k.1 k.2) : valT F T = valT G T := by
  unfold valT
  exact sm_cg fun e he => by rw [h e.1 (List.mem_map.mpr ⟨e, he, rfl⟩)]
theorem valT_mul (c : Int) (F : Nat → Nat → Int) (T : Tab) : valT (fun i j => c * F i j) T = c * valT F T := by
  unfold valT
  rw [← sm_mul]
  exact sm_cg fun e _ => by
    show e.2 * (c * F e.1.1 e.1.2) = _
    ac_rfl
theorem tut_plus {n k : Nat} {ps : List (Nat × Nat)} {p : Nat × Nat} {A B C : Tab} (hp : ∀ p ∈ ps, p.1 < n ∧ p.2 < n) (hk : ps[k]? = some p) (hne : p.1 ≠ p.2) (hb : ¬ partsN n ps < partsN n (ps.eraseIdx k))
    (hA : TutOk n (ps.eraseIdx k) A) (hB : TutOk (n - 1) (joinedL ps k p) B) (c1 : (C.map (·.1)).Nodup) (c2 : ∀ x ∈ C.map (·.1), x ∈ A.map (·.1) ∨ x ∈ B.map (·.1)) (c3 : C.length ≤ A.length + B.length) (c4 : ∀ F, valT F C = valT F A + valT F B) : TutOk n ps C := by
  have hpk := hp p (List.mem_of_getElem? hk)
  have e1 := not_bridge hp hk hb
  have e2 := parts_joined hp hk hne
  have hj : ∀ x ∈ joinedL ps k p, x.1 < n - 1 ∧ x.2 < n - 1 := fun x hx => by
    unfold joinedL at hx
    rw [List.mem_map] at hx
    obtain ⟨y, hy, rfl⟩ := hx
    have := hp y (List.mem_of_mem_eraseIdx hy)
    exact ⟨renN_lt hpk hne this.1, renN_lt hpk hne this.2⟩
  have e3 := partsN_le (n - 1) (joinedL ps k p)
  have hkl := (List.getElem?_eq_some_iff.mp hk).1
  have l1 : (ps.eraseIdx k).length = ps.length - 1 := List.length_eraseIdx_of_lt hkl
  have l2 : (joinedL ps k p).length = ps.length - 1 := by unfold joinedL; rw [List.length_map, l1]
  have hpw : 2 ^ ps.length = 2 ^ (ps.length - 1) + 2 ^ (ps.length - 1) := by
    rw [← Nat.two_mul, ← Nat.pow_succ', show (ps.length - 1).succ = ps.length by omega]
  obtain ⟨_, a2, a3, a4, a5⟩ := hA
  obtain ⟨_, b2, b3, b4, b5⟩ := hB
  rw [e1] at a2 a5
  rw [e2] at b2 b5 e3
  rw [l1] at a3 a4
  rw [l2] at b3 b4
  refine ⟨c1, fun x hx => ?_, fun x hx => ?_, by omega, fun q v hq => ?_⟩
  · rcases c2 x hx with z | z
    · exact a2 x z
    · have := b2 x z; omega
  · rcases c2 x hx with z | z
    · have := a3 x z; omega
    · have := b3 x z; omega
  · rw [c4, Int.mul_add, a5 q v hq, rows_del q v hp hk hne, ← b5 q v hq]
    congr 1
    rw [Int.mul_left_comm v]
    refine congrArg (_ * ·) ?_
    rw [← valT_mul]
    refine valT_cg fun x hx => ?_
    have := b2 x hx
    unfold potF
    rw [show n - partsN n ps - x.1 = (n - 1 - partsN n ps - x.1) + 1 by omega, Int.pow_succ]
    ac_rfl

/-! ### even sets of pairs, by signs -/
def endsN (qs : List (Nat × Nat)) (i : Nat) : Nat := (qs.filter fun p => decide (p.1 = i)).length + (qs.filter fun p => decide (p.2 = i)).length
def evenB (n : Nat) (qs : List (Nat × Nat)) : Bool := (List.range n).all fun i => decide (endsN qs i % 2 = 0)
def expo (n : Nat) (c : Nat → Nat) (r : List Nat) : Nat := ((List.range n).map fun i => r.getD i 0 * c i).sum
theorem endsN_snoc (qs : List (Nat × Nat)) (p : Nat × Nat) (i : Nat) : endsN (qs ++ [p]) i = endsN qs i + ((if p.1 = i then 1 else 0) + if p.2 = i then 1 else 0) := by
  unfold endsN
  rw [List.filter_append, List.filter_append, List.length_append, List.length_append]
  by_cases h1 : p.1 = i <;> by_cases h2 : p.2 = i <;> simp [h1, h2] <;> omega
theorem nsum_add {f g : Nat → Nat} : ∀ l : List Nat, (l.map fun i => f i + g i).sum = (l.map f).sum + (l.map g).sum
  | [] => rfl
  | x :: l => by rw [List.map_cons, List.map_cons, List.map_cons, List.sum_cons, List.sum_cons, List.sum_cons, nsum_add l]; omega
theorem nsum_pick (g : Nat → Nat) (x : Nat) : ∀ n : Nat, x < n → ((List.range n).map fun i => g i * if x = i then 1 else 0).sum = g x := by
  have : ∀ n : Nat, ((List.range n).map fun i => g i * if x = i then 1 else 0).sum = if x < n then g x else 0 := by
    intro n
    induction n with
    | zero => rfl
    | succ n ih =>
      rw [List.range_succ, List.map_append, List.sum_append, ih]
      by_cases h : x < n
      · have h1 : ¬ x = n := by omega
        have h2 : x < n + 1 := by omega
        simp [h, h1, h2]
      · by_cases h1 : x = n
        · simp [h1]
        · have h2 : ¬ x < n + 1 := by omega
          simp [h, h1, h2]
  intro n h
  rw [this, if_pos h]
theorem expo_snoc {n : Nat} {qs : List (Nat × Nat)} {p : Nat × Nat} (hp : p.1 < n ∧ p.2 < n) (r : List Nat) : expo n (endsN (qs ++ [p])) r = expo n (endsN qs) r + (r.getD p.1 0 + r.getD p.2 0) := by
  unfold expo
  rw [List.map_congr_left (g := fun i => r.getD i 0 * endsN qs i + (r.getD i 0 * (if p.1 = i then 1 else 0) + r.getD i 0 * if p.2 = i then 1 else 0)) fun i _ => by rw [endsN_snoc, Nat.mul_add, Nat.mul_add]]
  rw [nsum_add, nsum_add, nsum_pick _ _ _ hp.1, nsum_pick _ _ _ hp.2]
theorem W_signs {n : Nat} {r : List Nat} (hr : ∀ o ∈ r, o < 2) (hl : r.length = n) : ∀ (k : Nat) (qs : List (Nat × Nat)), qs.length = k → (∀ p ∈ qs, p.1 < n ∧ p.2 < n) → W qs 1 (-1) r = (-1) ^ expo n (endsN qs) r := by
  intro k
  induction k with
  | zero =>
    intro qs h _
    have : qs = [] := List.length_eq_zero_iff.mp h
    subst this
    have : expo n (endsN []) r = 0 := by
      unfold expo
      have : (fun i => r.getD i 0 * endsN [] i) = fun _ => 0 := by funext i; simp [endsN]
      rw [this]
      generalize List.range n = l
      induction l with
      | nil => rfl
      | cons a l ih => rw [List.map_cons, List.sum_cons, ih]
    rw [this]
    simp [W, likeN]
  | succ k ih =>
    intro ps h hp
    have hne : ps ≠ [] := fun e => by rw [e] at h; simp at h
    obtain ⟨qs, p, rfl⟩ : ∃ qs p, ps = qs ++ [p] := ⟨_, _, (List.dropLast_concat_getLast hne).symm⟩
    have hpp := hp p (by simp)
    have at2 : ∀ i, i < n → r.getD i 0 < 2 := fun i hi => by
      rw [List.getD_eq_getElem?_getD, List.getElem?_eq_getElem (by omega)]
      exact hr _ (List.getElem_mem _)
    rw [W_snoc, ih qs (by simpa using h) fun x hx => hp x (List.mem_append_left _ hx), expo_snoc hpp, Int.pow_add]
    congr 1
    have a1 := at2 _ hpp.1
    have a2 := at2 _ hpp.2
    unfold likeB
    generalize r.getD p.1 0 = x at a1 ⊢
    generalize r.getD p.2 0 = y at a2 ⊢
    have : x = 0 ∨ x = 1 := by omega
    have : y = 0 ∨ y = 1 := by omega
    rcases ‹x = 0 ∨ x = 1› with rfl | rfl <;> rcases ‹y = 0 ∨ y = 1› with rfl | rfl <;> decide
theorem neg_one_pow (c : Nat) : (-1 : Int) ^ c = if c % 2 = 0 then 1 else -1 := by
  induction c with
  | zero => rfl
  | succ c ih =>
    rw [Int.pow_succ, ih]
    by_cases h : c % 2 = 0
    · rw [if_pos h, if_neg (by omega)]; rfl
    · rw [if_neg h, if_pos (by omega)]; rfl
theorem sum_signs (c : Nat → Nat) : ∀ n, (sumR 2 n fun r => (-1) ^ expo n c r) = if ((List.range n).all fun i => decide (c i % 2 = 0)) = true then 2 ^ n else 0
  | 0 => by simp [sumR, rowsL, expo]
  | n + 1 => by
    have ih := sum_signs c n
    rw [sumR_succ]
    have e : ∀ r : List Nat, r.length = n → ∀ o, expo (n + 1) c (r ++ [o]) = expo n c r + o * c n := fun r hr o => by
      unfold expo
      rw [List.range_succ, List.map_append, List.sum_append]
      congr 1
      · congr 1
        refine List.map_congr_left fun i hi => ?_
        rw [List.getD_eq_getElem?_getD, List.getElem?_append_left (by have := List.mem_range.mp hi; omega), List.getD_eq_getElem?_getD]
      · rw [List.map_cons, List.map_nil, List.sum_cons, List.sum_nil, Nat.add_zero, List.getD_eq_getElem?_getD, ← hr, List.getElem?_concat_length]
        rfl
    rw [sumR_cg (g := fun r => (1 + (-1) ^ c n) * (-1) ^ expo n c r) fun r hr _ => by
      rw [sm_cg (g := fun o => (-1) ^ expo n c r * (-1) ^ (o * c n)) fun o _ => by rw [e r hr, Int.pow_add], sm_mul, Int.mul_comm]
      congr 1
      show ([0, 1].map fun o => (-1 : Int) ^ (o * c n)).sum = _
      simp]
    rw [sumR_mul, ih, neg_one_pow, List.range_succ, List.all_append]
    by_cases h : c n % 2 = 0
    · have e2 : ([n].all fun i => decide (c i % 2 = 0)) = true := by simp [h]
      rw [if_pos h, e2, Bool.and_true]
      split
      · rw [Int.pow_succ]; omega
      · rfl
    · have e2 : ([n].all fun i => decide (c i % 2 = 0)) = false := by simp; omega
      rw [if_neg h, e2, Bool.and_false]
      simp
theorem sum_W_signs {n : Nat} {qs : List (Nat × Nat)} (hp : ∀ p ∈ qs, p.1 < n ∧ p.2 < n) : sumR 2 n (W qs 1 (-1)) = if evenB n qs = true then 2 ^ n else 0 := by
  rw [sumR_cg fun r hr hq => W_signs hq hr qs.length qs rfl hp]
  exact sum_signs _ n
theorem W_even (a b : Int) (r : List Nat) : ∀ (k : Nat) (ps : List (Nat × Nat)), ps.length = k → 2 ^ k * W ps a b r = ((setsL k).map fun s => W (pick ps s) 1 (-1) r * ((a + b) ^ (k - s.length) * (a - b) ^ s.length)).sum := by
  intro k
  induction k with
  | zero =>
    intro ps h
    have : ps = [] := List.length_eq_zero_iff.mp h
    subst this
    simp [W, setsL, pick, likeN]
  | succ k ih =>
    intro ps h
    have hne : ps ≠ [] := fun e => by rw [e] at h; simp at h
    obtain ⟨qs, p, rfl⟩ : ∃ qs p, ps = qs ++ [p] := ⟨_, _, (List.dropLast_concat_getLast hne).symm⟩
    have hq : qs.length = k := by simpa using h
    rw [W_snoc, setsL, sm_app, sm_map]
    have e1 : ((setsL k).map fun s => W (pick (qs ++ [p]) s) 1 (-1) r * ((a + b) ^ (k + 1 - s.length) * (a - b) ^ s.length)).sum = (a + b) * ((setsL k).map fun s => W (pick qs s) 1 (-1) r * ((a + b) ^ (k - s.length) * (a - b) ^ s.length)).sum := by
      rw [← sm_mul]
      refine sm_cg fun s hs => ?_
      have hsl := setsL_le k s hs
      rw [pick_app (by rw [hq]; exact setsL_lt k s hs), show k + 1 - s.length = k - s.length + 1 by omega, Int.pow_succ]
      ac_rfl
    have e2 : ((setsL k).map fun s => W (pick (qs ++ [p]) (s ++ [k])) 1 (-1) r * ((a + b) ^ (k + 1 - (s ++ [k]).length) * (a - b) ^ (s ++ [k]).length)).sum = ((a - b) * if likeB r p = true then 1 else -1) * ((setsL k).map fun s => W (pick qs s) 1 (-1) r * ((a + b) ^ (k - s.length) * (a - b) ^ s.length)).sum := by
      rw [← sm_mul]
      refine sm_cg fun s hs => ?_
      have hsl := setsL_le k s hs
      have := pick_snoc (ps := qs) (p := p) (s := s) (by rw [hq]; exact setsL_lt k s hs)
      rw [hq] at this
      rw [this, W_snoc, List.length_append, show k + 1 - (s.length + [k].length) = k - s.length by simp, show s.length + [k].length = s.length + 1 by simp, Int.pow_succ]
      ac_rfl
    rw [e1, e2, ← Int.add_mul, ← ih qs hq, Int.pow_succ]
    have : (a + b + (a - b) * if likeB r p = true then 1 else -1) = 2 * if likeB r p = true then a else b := by
      cases likeB r p <;> simp <;> omega
    rw [this]
    ac_rfl
theorem sm_filter {α : Type} (P : α → Bool) (f : α → Int) : ∀ l : List α, ((l.filter P).map f).sum = (l.map fun x => if P x = true then f x else 0).sum
  | [] => rfl
  | x :: l => by
    rw [List.filter_cons, List.map_cons, List.sum_cons, ← sm_filter P f l]
    cases P x <;> simp
theorem rows_even {n : Nat} {ps : List (Nat × Nat)} (a b : Int) (hp : ∀ p ∈ ps, p.1 < n ∧ p.2 < n) : 2 ^ ps.length * sumR 2 n (W ps a b) = (((setsL ps.length).filter fun s => evenB n (pick ps s)).map fun s => (a + b) ^ (ps.length - s.length) * (a - b) ^ s.length).sum * 2 ^ n := by
  rw [← sumR_mul, sumR_cg fun r _ _ => W_even a b r ps.length ps rfl]
  unfold sumR
  rw [sm_swap, sm_filter, ← sm_mulR]
  refine sm_cg fun s hs => ?_
  rw [sm_mulR]
  have := sum_W_signs (pick_lt (setsL_lt _ s hs) hp)
  unfold sumR at this
  rw [this]
  cases evenB n (pick ps s)
  · simp
  · simp only [if_true]
    ac_rfl
/-! ### means -/
theorem cnt_sum (ps : List (Nat × Nat)) (rows : List (List Nat)) (g : Nat → Int) : ((List.range (ps.length + 1)).map fun k => (cntN ps rows k : Int) * g k).sum = (rows.map fun r => g (likeN ps r)).sum := by
  have e : ∀ k, (cntN ps rows k : Int) * g k = (rows.map fun r => if likeN ps r = k then g k else 0).sum := fun k => by
    unfold cntN
    induction rows with
    | nil => simp
    | cons r rows ih =>
      rw [List.countP_cons, List.map_cons, List.sum_cons, ← ih]
      by_cases h : likeN ps r = k
      · simp [h]
        rw [Int.add_mul]
        omega
      · simp [h]
  rw [sm_cg fun k _ => e k, sm_swap]
  refine sm_cg fun r _ => ?_
  rw [sm_pick]
  have := likeN_le ps r
  rw [if_pos (by omega)]
def plainN (ps : List (Nat × Nat)) : Nat := (ps.filter fun p => decide (p.1 ≠ p.2)).length
theorem rows_unlike {n : Nat} (q : Nat) : ∀ (k : Nat) (ps : List (Nat × Nat)), ps.length = k → (∀ p ∈ ps, p.1 < n ∧ p.2 < n) → (q : Int) * (sumR q n fun r => ((ps.length - likeN ps r : Nat) : Int)) = (q : Int) ^ n * ((q : Int) - 1) * plainN ps := by
  intro k
  induction k with
  | zero =>
    intro ps h _
    have : ps = [] := List.length_eq_zero_iff.mp h
    subst this
    have : (fun r => ((([] : List (Nat × Nat)).length - likeN [] r : Nat) : Int)) = fun _ => 0 := by funext r; simp
    rw [this]
    unfold sumR
    rw [sm_zero]
    simp [plainN]
  | succ k ih =>
    intro ps h hp
    have hne : ps ≠ [] := fun e => by rw [e] at h; simp at h
    obtain ⟨qs, p, rfl⟩ : ∃ qs p, ps = qs ++ [p] := ⟨_, _, (List.dropLast_concat_getLast hne).symm⟩
    have hpp := hp p (by simp)
    have i1 := ih qs (by simpa using h) fun x hx => hp x (List.mem_append_left _ hx)
    rw [sumR_cg (g := fun r => ((qs.length - likeN qs r : Nat) : Int) + (1 + (-1) * if likeB r p = true then 1 else 0)) fun r _ _ => by
      have := likeN_le qs r
      rw [likeN_snoc, List.length_append]
      cases likeB r p <;> simp <;> omega]
    rw [sumR_add, sumR_add, sumR_one, sumR_mul, Int.mul_add, i1]
    by_cases hl : p.1 = p.2
    · have e1 : plainN (qs ++ [p]) = plainN qs := by simp [plainN, hl]
      rw [e1, sumR_cg (g := fun _ => 1) fun r _ _ => by simp [likeB, hl], sumR_one]
      have : (q : Int) * ((q : Int) ^ n + -1 * (q : Int) ^ n) = 0 := by
        rw [show ∀ x : Int, x + -1 * x = 0 from fun x => by omega, Int.mul_zero]
      rw [this]
      omega
    · have e1 : plainN (qs ++ [p]) = plainN qs + 1 := by simp [plainN, hl]
      rw [e1, sumR_like q (fun _ => 1) hpp hl, sumR_one, Int.natCast_add, Int.mul_add]
      congr 1
      obtain ⟨n, rfl⟩ : ∃ n', n = n' + 1 := ⟨n - 1, by omega⟩
      rw [Nat.add_sub_cancel, Int.pow_succ]
      generalize (q : Int) ^ n = x
      generalize (q : Int) = y
      rw [Int.mul_add, Int.mul_sub]
      simp
      rw [Int.mul_neg, ← Int.sub_eq_add_neg]
      congr 1
      · ac_rfl
      · ac_rfl

/-! ### sums of polynomials -/
section
variable {c : Cfg} {ρ : Ev.Env} {st st1 st2 st3 st4 : List Ob} {Q : Fl → Ev.Env → List Ob → Prop}
theorem run_setix {a i e : E} {x y d : D} (he : evE c e ρ st = .ok d st1) (ha : evE c a ρ st1 = .ok x st2) (hi : evE c i ρ st2 = .ok y st3) (hs : opSet st3 x y d = some st4) (h : Q .nx ρ st4) : Run c (.asg (.ix a i) e) ρ st Q :=
  run_asg (ρ1 := ρ) he (by simp only [evTg, ha, hi, bnd_ok, hs, ofO_some]) h
theorem ev_bm {m : Bm} {o es : E} {x z : D} {l : List D} (ho : evE c o ρ st = .ok x st1) (hr : recvOk m st1 x = true) (hes : evEs c es ρ st1 = .ok l st2) (hz : opBm m st2 x l = .ok z st3) : evE c (.bm m o es) ρ st = .ok z st3 := by
  simp only [evE, ho, bnd_ok, hr, chk_true, hes, hz]
theorem ev_mkcall {f : Nat} {es : E} {l : List D} {o : Ob} {os : List Ob} (h1 : evEs c es ρ st = .ok l st1) (h2 : D.pures l = true) (h3 : c.fnN f l = .ok o os) : evE c (.mk (.call f false es)) ρ st = .ok (.ref st1.length) (st1 ++ [o]) := by
  have h4 : evE c (.mk (.call f false es)) ρ st = bnd (evN c (.call f false es) ρ st) fun o st1 => .ok (.ref st1.length) (st1 ++ [o]) := by simp only [evE]
  have h5 : evN c (.call f false es) ρ st = .ok o st1 := by simp only [evN, h1, bnd_ok, h2, chk_true, h3]
  rw [h4, h5, bnd_ok]
end
theorem sorted_gen {α : Type} {enc : α → D} (l : List α) (h1 : ∀ a, (enc a).cmpb = true) (h2 : ∀ a b, D.alike (enc a) (enc b) = true) (h3 : sortable (l.map enc) = true) (h4 : ∀ a, D.depth (enc a) ≤ 60) : Ev.opBlt .sorted [] [.lst (l.map enc)] = some (.lst ((l.mergeSort fun a b => !D.plt (enc b) (enc a)).map enc)) := by
  have e1 : allAlike (l.map enc) = true := by
    unfold allAlike
    rw [Bool.and_eq_true]
    refine ⟨?_, ?_⟩
    · clear h3
      induction l with
      | nil => rfl
      | cons a l ih => rw [List.map_cons, D.cmpbs, h1, ih]; rfl
    · simp [List.all_eq_true, h2]
  have e3 : D.depths (l.map enc) ≤ 60 := by
    clear h3 e1
    induction l with
    | nil => exact Nat.zero_le _
    | cons a l ih =>
      rw [List.map_cons, D.depths]
      exact Nat.max_le.mpr ⟨h4 a, ih⟩
  show ((lstOf [] (.lst (l.map enc))).bind fun l => if (allAlike l && sortable l && decide (D.depths l ≤ 60)) = true then some (D.lst (srt l)) else none) = _
  rw [show lstOf [] (.lst (l.map enc)) = some (l.map enc) from rfl, Option.bind_some, if_pos (by rw [e1, h3, decide_eq_true e3]; rfl)]
  unfold srt
  rw [List.map_mergeSort (s := fun a b => !D.plt b a) (f := enc)]
  intros; rfl
def keysS (T : Tab) : List (Nat × Nat) := (T.map (·.1)).mergeSort fun a b => !D.plt (pr b) (pr a)
def vT (T : Tab) (k : Nat × Nat) : Int := (getT k T).getD 0
def twoOf (T : Tab) : Tab := ((keysS T).filter fun k => decide (vT T k ≠ 0)).map fun k => (k, vT T k)
theorem keysS_perm (T : Tab) : (keysS T).Perm (T.map (·.1)) := List.mergeSort_perm ..
theorem keysS_mem {T : Tab} {k : Nat × Nat} (h : k ∈ keysS T) : k ∈ T.map (·.1) := (keysS_perm T).mem_iff.mp h
theorem getT_mem {k : Nat × Nat} : ∀ {T : Tab}, k ∈ T.map (·.1) → getT k T = some (vT T k)
  | e :: T, h => by
    unfold vT
    rw [getT]
    by_cases h1 : e.1 = k
    · rw [if_pos h1]; rfl
    · rw [if_neg h1]
      rw [List.map_cons, List.mem_cons] at h
      rcases h with h | h
      · exact absurd h.symm h1
      · exact getT_mem h
theorem o_tix (st : List Ob) (T : Tab) (k : Nat × Nat) : opIx st (.dct true (tabK T) (tabV T)) (pr k) = (getT k T).map .int := by
  show (if D.keyOk true (pr k) = true then D.find (pr k) (tabK T) (tabV T) else none) = _
  rw [if_pos (pr_keyOk k), find_tab]
theorem two_of_ok {n : Nat} (hn : 1 ≤ n) {T : Tab} (hl : T.length ≤ 1000) : callF P n i_two_of [.dct true (tabK T) (tabV T)] [] = .ok (polyD (twoOf T)) [] := by
  obtain ⟨n, rfl⟩ := Nat.exists_eq_add_of_le' hn
  rw [lev at_two_of]
  refine runB_of rfl ?_
  show Run _ _ [some (.dct true (tabK T) (tabV T)), none] _ _
  have hlen : (keysS T).length ≤ 16777216 := by
    rw [(keysS_perm T).length_eq, List.length_map]
    omega
  have hpoly : polyD (twoOf T) = .tup (((keysS T).filter fun k => decide (vT T k ≠ 0)).map fun k => .tup [.int k.1, .int k.2, .int (vT T k)]) := by
    unfold polyD twoOf
    rw [List.map_map]
    rfl
  refine run_ret (d := polyD (twoOf T)) (st1 := []) ?_ ?_
  · rw [hpoly]
    refine ev_blt (st1 := []) (es1 ?_) (o_tuple_lst _)
    refine q_lc (xs := keysS T) (enc := pr) (p := fun k => decide (vT T k ≠ 0)) (f := fun k => .tup [.int k.1, .int k.2, .int (vT T k)]) (q_lst (ev_blt (l := [.lst (tabK T)]) (st1 := []) (es1 (ev_blt (l := [.dct true (tabK T) (tabV T)]) (st1 := []) (es1 (ev_var rfl)) rfl)) ?_)) hlen fun k hk => ⟨_, rfl, ?_, fun _ => ?_⟩
    · have := sorted_gen (enc := pr) (T.map (·.1)) (fun _ => rfl) (fun _ _ => rfl) ?_ (fun a => by show 1 ≤ 60; omega)
      · rw [List.map_map] at this
        exact this
      · unfold sortable
        rw [Bool.or_eq_true]
        left
        simp [List.all_eq_true, pr]
    · have h1 := o_tix [] T k
      rw [getT_mem (keysS_mem hk)] at h1
      refine ev_tcmp (st1 := []) (st2 := []) (ev_ix (st1 := []) (ev_var rfl) (ev_var rfl) h1) (y := .int 0) (by simp only [evE]) ?_
      rw [o_ne]
      simp
    · have h1 := o_tix [] T k
      rw [getT_mem (keysS_mem hk)] at h1
      refine ev_tup (es3 (st1 := []) (st2 := []) (ev_ix (st1 := []) (x := pr k) (y := .int 0) (ev_var rfl) (by simp only [evE]) (o_ixT0 _)) (ev_ix (st1 := []) (x := pr k) (y := .int 1) (ev_var rfl) (by simp only [evE]) (o_ixT1 _)) (ev_ix (st1 := []) (ev_var rfl) (ev_var rfl) h1)) (by show 3 ≤ 16777216; omega)
  · exact leave_plain (poly_pure _) _
theorem valT_keys (F : Nat → Nat → Int) : ∀ {T : Tab}, (T.map (·.1)).Nodup → valT F T = ((T.map (·.1)).map fun k => vT T k * F k.1 k.2).sum
  | [], _ => rfl
  | e :: T, h => by
    rw [List.map_cons, List.nodup_cons] at h
    have ih := valT_keys F h.2
    unfold valT at ih ⊢
    rw [List.map_cons, List.sum_cons, List.map_cons, List.map_cons, List.sum_cons, ih]
    have h1 : vT (e :: T) e.1 = e.2 := by unfold vT; rw [getT, if_pos rfl]; rfl
    rw [h1]
    congr 1
    refine sm_cg fun k hk => ?_
    have : ¬ e.1 = k := fun z => h.1 (z ▸ hk)
    unfold vT
    rw [getT, if_neg this]
theorem twoOf_val (F : Nat → Nat → Int) {T : Tab} (h : (T.map (·.1)).Nodup) : valT F (twoOf T) = valT F T := by
  rw [valT_keys F h, ← sm_perm _ (keysS_perm T)]
  unfold valT twoOf
  rw [List.map_map]
  show (((keysS T).filter fun k => decide (vT T k ≠ 0)).map fun k => vT T k * F k.1 k.2).sum = _
  rw [sm_filter]
  refine sm_cg fun k _ => ?_
  by_cases h0 : vT T k = 0
  · simp [h0]
  · simp [h0]
theorem twoOf_keys (T : Tab) : (twoOf T).map (·.1) = (keysS T).filter fun k => decide (vT T k ≠ 0) := by
  unfold twoOf
  rw [List.map_map]
  exact List.map_id _
theorem twoOf_nd {T : Tab} (h : (T.map (·.1)).Nodup) : ((twoOf T).map (·.1)).Nodup := by
  rw [twoOf_keys]
  exact List.Nodup.sublist List.filter_sublist ((keysS_perm T).nodup_iff.mpr h)
theorem twoOf_mem {T : Tab} {k : Nat × Nat} (h : k ∈ (twoOf T).map (·.1)) : k ∈ T.map (·.1) := by
  rw [twoOf_keys] at h
  exact keysS_mem (List.mem_filter.mp h).1
theorem twoOf_len (T : Tab) : (twoOf T).length ≤ T.length := by
  have : ((twoOf T).map (·.1)).length ≤ T.length := by
    rw [twoOf_keys]
    refine Nat.le_trans (List.length_filter_le _ _) ?_
    rw [(keysS_perm T).length_eq, List.length_map]
    exact Nat.le_refl _
  rwa [List.length_map] at this
def plusT (A B : Tab) : Tab := B.foldl (fun T e => putT e.1 (vT T e.1 + e.2) T) A
theorem plusT_spec : ∀ (B A : Tab), (A.map (·.1)).Nodup → ((plusT A B).map (·.1)).Nodup ∧ (∀ k ∈ (plusT A B).map (·.1), k ∈ A.map (·.1) ∨ k ∈ B.map (·.1)) ∧ (plusT A B).length ≤ A.length + B.length ∧ ∀ F, valT F (plusT A B) = valT F A + valT F B
  | [], A, h => ⟨h, fun k hk => .inl hk, Nat.le_refl _, fun F => by simp [plusT, valT]⟩
  | e :: B, A, h => by
    obtain ⟨h1, h2, h3, h4⟩ := plusT_spec B (putT e.1 (vT A e.1 + e.2) A) (putT_nd h)
    refine ⟨h1, fun k hk => ?_, ?_, fun F => ?_⟩
    · rw [List.map_cons, List.mem_cons]
      rcases h2 k hk with z | z
      · rcases putT_mem z with z | z
        · exact .inr (.inl z)
        · exact .inl z
      · exact .inr (.inr z)
    · have := putT_len e.1 (vT A e.1 + e.2) A
      have h3 : (plusT A (e :: B)).length ≤ _ := h3
      rw [List.length_cons]
      omega
    · have h4 : valT F (plusT A (e :: B)) = _ := h4 F
      rw [h4, valT_put]
      have : valT F (e :: B) = e.2 * F e.1.1 e.1.2 + valT F B := by
        unfold valT
        rw [List.map_cons, List.sum_cons]
      rw [this, show vT A e.1 + e.2 - (getT e.1 A).getD 0 = e.2 by unfold vT; omega]
      omega
theorem plusT_take (A B : Tab) {i : Nat} {e : (Nat × Nat) × Int} (h : B[i]? = some e) : plusT A (B.take (i + 1)) = putT e.1 (vT (plusT A (B.take i)) e.1 + e.2) (plusT A (B.take i)) := by
  rw [List.take_add_one, h]
  simp [plusT, List.foldl_append]
theorem two_plus_ok {n : Nat} (hn : 3 ≤ n) {A B : Tab} (hA : (A.map (·.1)).Nodup) (hl : A.length + B.length ≤ 1000) : callF P n i_two_plus [polyD A, polyD B] [] = .ok (polyD (twoOf (plusT A B))) [] := by
  obtain ⟨n, rfl⟩ := Nat.exists_eq_add_of_le' hn
  rw [lev at_two_plus]
  refine runB_of rfl ?_
  show Run _ _ [some (polyD A), some (polyD B), none, none, none, none] _ _
  have hspec := fun i => plusT_spec (B.take i) A hA
  have h0 : callN P (n + 2) i_table_of [polyD A] = _ := table_of_okN (by omega) hA (by omega)
  refine run_seq (run_set (d := .ref 0) (st1 := [.dct true (tabK A) (tabV A)]) (ev_mkcall (l := [polyD A]) (es1 (ev_var rfl)) (by simp [D.pures, poly_pure]) h0) (by simp) ?_)
  refine run_seq (run_for (xs := B) (enc := monD) (fun i ρ st => st = [.dct true (tabK (plusT A (B.take i))) (tabV (plusT A (B.take i)))] ∧ ∃ o3 o4 o5, ρ = [some (polyD A), some (polyD B), some (.ref 0), o3, o4, o5]) (st1 := [.dct true (tabK A) (tabV A)]) (q_tup (ev_var rfl)) ⟨rfl, _, _, _, rfl⟩ ?_ ?_)
  · rintro i e ρ st hx ⟨rfl, o3, o4, o5, rfl⟩
    obtain ⟨s1, s2, s3, s4⟩ := hspec i
    refine ⟨_, rfl, ?_⟩
    rw [plusT_take A B hx]
    have hlt : (plusT A (B.take i)).length < 1000000 := by
      have : (B.take i).length ≤ B.length := List.length_take_le' ..
      omega
    generalize plusT A (B.take i) = T at s1 s2 s3 s4 hlt ⊢
    have hk : ∀ ρ' : Ev.Env, ∀ st, ρ'[3]? = some (some (.int e.1.1)) → ρ'[4]? = some (some (.int e.1.2)) → evE (P.cfg (callF P (n + 2)) (callN P (n + 2))) (.tup (.cons (.var 3) (.cons (.var 4) .nil))) ρ' st = .ok (pr e.1) st := fun ρ' st a b => ev_tup (es2 (st1 := st) (ev_var a) (ev_var b)) (by show 2 ≤ 16777216; omega)
    refine run_setix (x := .ref 0) (y := pr e.1) (d := .int (vT T e.1 + e.2)) (st1 := [.dct true (tabK T) (tabV T)]) (st2 := [.dct true (tabK T) (tabV T)]) (st3 := [.dct true (tabK T) (tabV T)]) ?_ (ev_var rfl) (hk _ _ rfl rfl) ?_ ⟨.inl rfl, rfl, _, _, _, rfl⟩
    · refine ev_bin (x := .int (vT T e.1)) (y := .int e.2) (st1 := [.dct true (tabK T) (tabV T)]) (ev_bm (x := .ref 0) (l := [pr e.1, .int 0]) (st1 := [.dct true (tabK T) (tabV T)]) (st2 := [.dct true (tabK T) (tabV T)]) (ev_var rfl) rfl (es2 (st1 := [.dct true (tabK T) (tabV T)]) (hk _ _ rfl rfl) (by simp only [evE])) ?_) (ev_var rfl) (o_add _ _)
      show (if D.keyOk true (pr e.1) = true then R.ok ((D.find (pr e.1) (tabK T) (tabV T)).getD (.int 0)) [.dct true (tabK T) (tabV T)] else .bad) = _
      rw [if_pos (pr_keyOk _), find_tab]
      unfold vT
      cases getT e.1 T <;> rfl
    · have hlen : (tabK T).length < 1000000 := by unfold tabK; rw [List.length_map]; exact hlt
      show (if (D.keyOk true (pr e.1) && decide ((tabK T).length < 1000000)) = true then some (([.dct true (tabK T) (tabV T)] : List Ob).set 0 (.dct true (D.putK (pr e.1) (tabK T)) (D.putV (pr e.1) (.int (vT T e.1 + e.2)) (tabK T) (tabV T)))) else none) = _
      rw [if_pos (by rw [pr_keyOk, decide_eq_true hlen]; rfl), putT_keys, putT_vals _ _ _ s1]
      rfl
  · rintro ρ st ⟨rfl, o3, o4, o5, rfl⟩
    obtain ⟨s1, s2, s3, s4⟩ := hspec B.length
    rw [List.take_length] at s1 s2 s3 s4 ⊢
    generalize plusT A B = T at s1 s2 s3 s4 ⊢
    have h2 : callF P (n + 2) i_two_of [.dct true (tabK T) (tabV T)] [] = _ := two_of_ok (by omega) (by omega)
    refine run_seq (run_frz (n := 0) (d := .dct true (tabK T) (tabV T)) rfl ?_ ?_)
    · show (if (D.pures (tabK T) && D.pures (tabV T)) = true then some (D.dct true (tabK T) (tabV T)) else none) = _
      rw [tabK_pure, tabV_pure]
      rfl
    · refine run_ret (d := polyD (twoOf T)) (st1 := [.gone]) (ev_call (l := [.dct true (tabK T) (tabV T)]) (es1 (ev_var rfl)) (by simp [D.pures, D.pure, tabK_pure, tabV_pure]) h2) ?_
      exact leave_plain (poly_pure _) _

/-! ### the polynomial by taking away and joining -/
theorem first_of (Pr : Nat → Prop) [DecidablePred Pr] : ∀ n, (∀ i, i < n → ¬ Pr i) ∨ ∃ k, k < n ∧ Pr k ∧ ∀ i, i < k → ¬ Pr i
  | 0 => .inl fun i h => by omega
  | n + 1 => by
    rcases first_of Pr n with h | ⟨k, h1, h2, h3⟩
    · by_cases hn : Pr n
      · exact .inr ⟨n, by omega, hn, h⟩
      · refine .inl fun i hi => ?_
        by_cases e : i = n
        · exact e ▸ hn
        · exact h i (by omega)
    · exact .inr ⟨k, by omega, h2, h3⟩
theorem links_take {ps : List (Nat × Nat)} {i : Nat} {p : Nat × Nat} (h : ps[i]? = some p) : linksN (ps.take (i + 1)) = linksN (ps.take i) + if p.1 = p.2 then 0 else 1 := by
  rw [List.take_add_one, h]
  unfold linksN
  by_cases e : p.1 = p.2 <;> simp [List.filter_append, loopB, e]
theorem loops_take {ps : List (Nat × Nat)} {i : Nat} {p : Nat × Nat} (h : ps[i]? = some p) : loopsN (ps.take (i + 1)) = loopsN (ps.take i) + if p.1 = p.2 then 1 else 0 := by
  rw [List.take_add_one, h]
  unfold loopsN
  by_cases e : p.1 = p.2 <;> simp [List.filter_append, loopB, e]
theorem tutte_ok : ∀ (L : Nat) {n m : Nat} {ps : List (Nat × Nat)}, ps.length = L → L ≤ 8 → L + 6 ≤ n → m ≤ 1000 → (∀ p ∈ ps, p.1 < m ∧ p.2 < m) → ∃ T, callF P n i_tutte [webD m ps] [] = .ok (polyD T) [] ∧ TutOk m ps T := by
  intro L
  induction L using Nat.strongRecOn with
  | _ L ih =>
    intro n m ps hL hL8 hn hm hp
    obtain ⟨n, rfl⟩ := Nat.exists_eq_add_of_le' (Nat.le_trans (by omega : 1 ≤ L + 6) hn)
    have hn5 : 5 ≤ n := by omega
    let bad : Nat → Prop := fun k => (ps.getD k (0, 0)).1 ≠ (ps.getD k (0, 0)).2 ∧ ¬ partsN m ps < partsN m (ps.eraseIdx k)
    have gd : ∀ {k p}, ps[k]? = some p → ps.getD k (0, 0) = p := fun h => by rw [List.getD_eq_getElem?_getD, h]; rfl
    have turn : ∀ i x ρ st, (List.range ps.length)[i]? = some x → ¬ bad i → (st = [] ∧ ∃ o, ρ = [some (webD m ps), some (.int (linksN (ps.take i))), some (.int (loopsN (ps.take i))), o]) →
        ∃ ρ1, tgs (.var 3) (natD x) ρ = some ρ1 ∧ Run (P.cfg (callF P n) (callN P n)) (.ite (.call 11 false (.cons (.var 0) (.cons (.var 3) .nil))) (.aug 2 .add (.cint 1)) (.ite (.call 12 false (.cons (.var 0) (.cons (.var 3) .nil))) (.aug 1 .add (.cint 1)) (.ret (.call 16 false (.cons (.call 17 false (.cons (.call 9 false (.cons (.var 0) (.cons (.var 3) .nil))) .nil)) (.cons (.call 17 false (.cons (.call 10 false (.cons (.var 0) (.cons (.var 3) .nil))) .nil)) .nil)))))) ρ1 st fun fl ρ' st' => (fl = .nx ∨ fl = .cnt) ∧ (st' = [] ∧ ∃ o, ρ' = [some (webD m ps), some (.int (linksN (ps.take (i + 1)))), some (.int (loopsN (ps.take (i + 1)))), o]) := by
      rintro i x ρ st hx hb ⟨rfl, o, rfl⟩
      obtain ⟨rfl, hi⟩ := q_rngat hx
      have hps : ps[x]? = some ps[x] := List.getElem?_eq_getElem hi
      have hl1 : callF P n i_is_loop [webD m ps, .int x] [] = _ := is_loop_ok (by omega) hps
      have hl2 : callF P n i_is_bridge [webD m ps, .int x] [] = _ := is_bridge_ok hn5 hm (by omega) hp
      have c1 : ∀ ρ : Ev.Env, ρ[0]? = some (some (webD m ps)) → ρ[3]? = some (some (natD x)) → evT (P.cfg (callF P n) (callN P n)) (.call 11 false (.cons (.var 0) (.cons (.var 3) .nil))) ρ [] = .ok (decide (ps[x].1 = ps[x].2)) [] := fun ρ a b => by
        have := ev_call (c := P.cfg (callF P n) (callN P n)) (f := 11) (l := [webD m ps, .int x]) (es2 (st1 := []) (ev_var a) (ev_var b)) (by simp [D.pures, web_pure, D.pure]) hl1
        simp only [evT, this, bnd_ok, t_bl, ofO_some]
      have c2 : ∀ ρ : Ev.Env, ρ[0]? = some (some (webD m ps)) → ρ[3]? = some (some (natD x)) → evT (P.cfg (callF P n) (callN P n)) (.call 12 false (.cons (.var 0) (.cons (.var 3) .nil))) ρ [] = .ok (decide (partsN m ps < partsN m (ps.eraseIdx x))) [] := fun ρ a b => by
        have := ev_call (c := P.cfg (callF P n) (callN P n)) (f := 12) (l := [webD m ps, .int x]) (es2 (st1 := []) (ev_var a) (ev_var b)) (by simp [D.pures, web_pure, D.pure]) hl2
        simp only [evT, this, bnd_ok, t_bl, ofO_some]
      refine ⟨_, rfl, ?_⟩
      rw [links_take hps, loops_take hps]
      by_cases hlp : ps[x].1 = ps[x].2
      · refine run_if (st1 := []) (by rw [c1 _ rfl rfl, decide_eq_true hlp]) (run_aug (y := .int 1) (st1 := []) rfl (by simp only [evE]) (g_add _ _) ⟨.inl rfl, rfl, some (natD x), ?_⟩)
        rw [if_pos hlp, if_pos hlp]
        rfl
      · refine run_else (st1 := []) (by rw [c1 _ rfl rfl, decide_eq_false hlp]) ?_
        have hbr : partsN m ps < partsN m (ps.eraseIdx x) := by
          by_cases z : partsN m ps < partsN m (ps.eraseIdx x)
          · exact z
          · refine absurd ⟨?_, z⟩ hb
            rw [gd hps]
            exact hlp
        refine run_if (st1 := []) (by rw [c2 _ rfl rfl, decide_eq_true hbr]) (run_aug (y := .int 1) (st1 := []) rfl (by simp only [evE]) (g_add _ _) ⟨.inl rfl, rfl, some (natD x), ?_⟩)
        rw [if_neg hlp, if_neg hlp]
        rfl
    rcases first_of bad ps.length with hall | ⟨k, hk, hb, hbef⟩
    · refine ⟨_, ?_, tut_base hp fun k p hk => ?_⟩
      · rw [lev at_tutte]
        refine runB_of rfl ?_
        show Run _ _ [some (webD m ps), none, none, none] _ _
        refine run_seq (run_asg (d := .tup [.int 0, .int 0]) (st1 := []) (st2 := []) (by simp [runB, evS, evE, evEs, evT, evI, evB, evR, evTg, evTg.go, Prog.cfg, frz_plain, frzs_plain, D.pure, D.pures, D.scalar, leave_plain, leave_int, leave_bl, leave_non, leave_tup, leave_lst, leave_obj, o_len_tup, o_len_lst, o_len_dct, o_tuple_tup, o_tuple_lst, o_list_tup, o_list_lst, o_min, o_max, o_abs, o_int, o_intb, o_eq, o_ne, o_lt, o_le, o_gt, o_ge, o_add, o_sub, o_ixT0, o_ixT1, o_ixT2, o_ixL0, o_ixL1, o_ixT, o_ixL, t_bl, t_int, i_int, i_bl, i_tup, i_lst, i_non, i_str, i_obj, prs_pure, web_pure, pr_pure, fok_many, fok_pairs, fld_many, fld_pairs, szL]) rfl ?_)
        refine run_seq (run_for (xs := List.range ps.length) (enc := natD) (fun i ρ st => st = [] ∧ ∃ o, ρ = [some (webD m ps), some (.int (linksN (ps.take i))), some (.int (loopsN (ps.take i))), o]) (st1 := []) (q_rng (n := ps.length) (ev_size (by omega) (ev_var rfl)) (by omega)) ⟨rfl, _, rfl⟩ ?_ ?_)
        · intro i x ρ st hx hI
          exact turn i x ρ st hx (hall i (q_rngat hx).2) hI
        · rintro ρ st ⟨rfl, o, rfl⟩
          rw [List.length_range, List.take_length]
          refine run_ret (d := polyD [((linksN ps, loopsN ps), 1)]) (st1 := []) ?_ rfl
          refine ev_tup (es1 (ev_tup (es3 (st1 := []) (st2 := []) (ev_var rfl) (ev_var rfl) (by simp only [evE])) (by show 3 ≤ 16777216; omega))) (by show 1 ≤ 16777216; omega)
      · have hlt := (List.getElem?_eq_some_iff.mp hk).1
        have := hall k hlt
        by_cases z : p.1 = p.2
        · exact .inl z
        · refine .inr ?_
          by_cases z2 : partsN m ps < partsN m (ps.eraseIdx k)
          · exact z2
          · exact absurd ⟨by rw [gd hk]; exact z, z2⟩ this
    · have hps : ps[k]? = some ps[k] := List.getElem?_eq_getElem hk
      have hb1 : ps[k].1 ≠ ps[k].2 := by have := hb.1; rwa [gd hps] at this
      have hb2 : ¬ partsN m ps < partsN m (ps.eraseIdx k) := hb.2
      have hpk := hp ps[k] (List.getElem_mem hk)
      have hj : ∀ x ∈ joinedL ps k ps[k], x.1 < m - 1 ∧ x.2 < m - 1 := fun x hx => by
        unfold joinedL at hx
        rw [List.mem_map] at hx
        obtain ⟨y, hy, rfl⟩ := hx
        have := hp y (List.mem_of_mem_eraseIdx hy)
        exact ⟨renN_lt hpk hb1 this.1, renN_lt hpk hb1 this.2⟩
      have l1 : (ps.eraseIdx k).length = L - 1 := by rw [List.length_eraseIdx_of_lt hk]; omega
      have l2 : (joinedL ps k ps[k]).length = L - 1 := by unfold joinedL; rw [List.length_map, l1]
      obtain ⟨A, hA, tA⟩ := @ih (L - 1) (by omega) n m _ l1 (by omega) (by omega) hm fun x hx => hp x (List.mem_of_mem_eraseIdx hx)
      obtain ⟨B, hB, tB⟩ := @ih (L - 1) (by omega) n (m - 1) _ l2 (by omega) (by omega) (by omega) hj
      obtain ⟨s1, s2, s3, s4⟩ := plusT_spec B A tA.nd
      have hlen : A.length + B.length ≤ 512 := by
        have a1 := tA.len
        have b1 := tB.len
        rw [l1] at a1
        rw [l2] at b1
        have : 2 ^ (L - 1) ≤ 2 ^ 8 := Nat.pow_le_pow_right (by decide) (by omega)
        have e : 2 ^ 8 = 256 := by decide
        omega
      refine ⟨twoOf (plusT A B), ?_, tut_plus hp hps hb1 hb2 tA tB (twoOf_nd s1) (fun x hx => s2 x (twoOf_mem hx)) (Nat.le_trans (twoOf_len _) s3) fun F => by rw [twoOf_val F s1, s4]⟩
      have w1 : callF P n i_without [webD m ps, .int k] [] = _ := without_ok (by omega) (by omega) hp
      have w2 : callF P n i_joined [webD m ps, .int k] [] = _ := joined_ok (by omega) hm (by omega) hp hps hb1
      have w3 : callF P n i_two_plus [polyD A, polyD B] [] = _ := two_plus_ok (by omega) tA.nd (by omega)
      have w4 : callF P n i_is_loop [webD m ps, .int k] [] = _ := is_loop_ok (by omega) hps
      have w5 : callF P n i_is_bridge [webD m ps, .int k] [] = _ := is_bridge_ok hn5 hm (by omega) hp
      rw [lev at_tutte]
      refine runB_of rfl ?_
      show Run _ _ [some (webD m ps), none, none, none] _ _
      refine run_seq (run_asg (d := .tup [.int 0, .int 0]) (st1 := []) (st2 := []) (by simp [runB, evS, evE, evEs, evT, evI, evB, evR, evTg, evTg.go, Prog.cfg, frz_plain, frzs_plain, D.pure, D.pures, D.scalar, leave_plain, leave_int, leave_bl, leave_non, leave_tup, leave_lst, leave_obj, o_len_tup, o_len_lst, o_len_dct, o_tuple_tup, o_tuple_lst, o_list_tup, o_list_lst, o_min, o_max, o_abs, o_int, o_intb, o_eq, o_ne, o_lt, o_le, o_gt, o_ge, o_add, o_sub, o_ixT0, o_ixT1, o_ixT2, o_ixL0, o_ixL1, o_ixT, o_ixL, t_bl, t_int, i_int, i_bl, i_tup, i_lst, i_non, i_str, i_obj, prs_pure, web_pure, pr_pure, fok_many, fok_pairs, fld_many, fld_pairs, szL]) rfl ?_)
      refine run_seq (run_forR (xs := List.range ps.length) (enc := natD) (k := k) (y := k) (fun i ρ st => st = [] ∧ ∃ o, ρ = [some (webD m ps), some (.int (linksN (ps.take i))), some (.int (loopsN (ps.take i))), o]) (st1 := []) (q_rng (n := ps.length) (ev_size (by omega) (ev_var rfl)) (by omega)) ⟨rfl, _, rfl⟩ (List.getElem?_range hk) ?_ ?_)
      · intro i x ρ st hi hx hI
        exact turn i x ρ st hx (hbef i hi) hI
      · rintro ρ st ⟨rfl, o, rfl⟩
        refine ⟨_, rfl, run_else (st1 := []) ?_ (run_else (st1 := []) ?_ (run_ret (d := polyD (twoOf (plusT A B))) (st1 := []) ?_ ⟨_, rfl, ?_⟩))⟩
        · have : evE (P.cfg (callF P n) (callN P n)) (.call 11 false (.cons (.var 0) (.cons (.var 3) .nil))) [some (webD m ps), some (.int (linksN (ps.take k))), some (.int (loopsN (ps.take k))), some (natD k)] [] = _ := ev_call (l := [webD m ps, .int k]) (es2 (st1 := []) (ev_var rfl) (ev_var rfl)) (by simp [D.pures, web_pure, D.pure]) w4
          show evT _ (.call 11 false (.cons (.var 0) (.cons (.var 3) .nil))) [some (webD m ps), some (.int (linksN (ps.take k))), some (.int (loopsN (ps.take k))), some (natD k)] [] = _
          simp only [evT, this, bnd_ok, t_bl, ofO_some, decide_eq_false hb1]
        · have : evE (P.cfg (callF P n) (callN P n)) (.call 12 false (.cons (.var 0) (.cons (.var 3) .nil))) [some (webD m ps), some (.int (linksN (ps.take k))), some (.int (loopsN (ps.take k))), some (natD k)] [] = _ := ev_call (l := [webD m ps, .int k]) (es2 (st1 := []) (ev_var rfl) (ev_var rfl)) (by simp [D.pures, web_pure, D.pure]) w5
          show evT _ (.call 12 false (.cons (.var 0) (.cons (.var 3) .nil))) [some (webD m ps), some (.int (linksN (ps.take k))), some (.int (loopsN (ps.take k))), some (natD k)] [] = _
          simp only [evT, this, bnd_ok, t_bl, ofO_some, decide_eq_false hb2]
        · exact ev_call (l := [polyD A, polyD B]) (es2 (st1 := []) (ev_call (l := [webD m (ps.eraseIdx k)]) (es1 (ev_call (l := [webD m ps, .int k]) (es2 (st1 := []) (ev_var rfl) (ev_var rfl)) (by simp [D.pures, web_pure, D.pure]) w1)) (by simp [D.pures, web_pure]) hA) (ev_call (l := [webD (m - 1) (joinedL ps k ps[k])]) (es1 (ev_call (l := [webD m ps, .int k]) (es2 (st1 := []) (ev_var rfl) (ev_var rfl)) (by simp [D.pures, web_pure, D.pure]) w2)) (by simp [D.pures, web_pure]) hB)) (by simp [D.pures, poly_pure]) w3
        · exact leave_plain (poly_pure _) _
theorem o_mulL {st : List Ob} {i j : Int} (h : i.natAbs < 2 ^ 64) : opBin .mul st (.int i) (.int j) = some (.int (i * j)) := o_mul (by
  unfold okMul
  rw [decide_eq_true h, Bool.true_or, Bool.true_or])
theorem potts_ok {n : Nat} (hn : 15 ≤ n) {m q : Nat} {v : Int} {ps : List (Nat × Nat)} (hm : m ≤ 8) (hq : q ≤ 4) (hq0 : 0 < q) (hl : ps.length ≤ 8) (hp : ∀ p ∈ ps, p.1 < m ∧ p.2 < m) (hv : v.natAbs ≤ 90) :
    callF P n i_potts_by_tutte [webD m ps, .int q, .int v] [] = .ok (.int (sumR q m (W ps (1 + v) 1))) [] := by
  obtain ⟨n, rfl⟩ := Nat.exists_eq_add_of_le' hn
  obtain ⟨T, hT, tT⟩ := tutte_ok ps.length (n := n + 14) (m := m) rfl hl (by omega) (by omega) hp
  rw [← tT.val q v hq0]
  rw [lev at_potts_by_tutte]
  refine runB_of rfl ?_
  show Run _ _ [some (webD m ps), some (.int q), some (.int v), none, none, none, none, none] _ _
  have h1 : callF P (n + 14) i_web_rank [webD m ps] [] = _ := web_rank_ok (by omega) (by omega) (by omega) hp
  have h2 : callF P (n + 14) i_part_number [.int m, .tup (ps.map pr)] [] = _ := part_number_ok (by omega) (by omega) hp (.inl rfl)
  have hR := partsN_le m ps
  generalize hRe : m - partsN m ps = R at *
  refine run_seq (run_set (d := .int R) (st1 := []) (ev_call (l := [webD m ps]) (es1 (ev_var rfl)) (by simp [D.pures, web_pure]) h1) (by simp) ?_)
  refine run_seq (run_set (d := .int 0) (st1 := []) (by simp only [evE]) (by simp) ?_)
  refine run_seq (run_for (xs := T) (enc := monD) (fun i ρ st => st = [] ∧ ∃ o5 o6 o7, ρ = [some (webD m ps), some (.int q), some (.int v), some (.int R), some (.int (valT (potF q v R) (T.take i))), o5, o6, o7]) (st1 := []) (q_tup (ev_call (l := [webD m ps]) (es1 (ev_var rfl)) (by simp [D.pures, web_pure]) hT)) ⟨rfl, _, _, _, rfl⟩ ?_ ?_)
  · rintro i e ρ st hx ⟨rfl, o5, o6, o7, rfl⟩
    have he : e.1 ∈ T.map (·.1) := List.mem_map.mpr ⟨e, List.mem_of_getElem? hx, rfl⟩
    have b1 := tT.le _ he
    have b2 := tT.le2 _ he
    rw [hRe] at b1
    have t1 : callF P (n + 14) i_taken [.int (q + v), .int e.1.1] [] = _ := taken_ok (by omega) (by omega) (by omega)
    have t2 : callF P (n + 14) i_taken [.int v, .int (R - e.1.1 : Nat)] [] = _ := taken_ok (by omega) (by omega) (by omega)
    have t3 : callF P (n + 14) i_taken [.int (1 + v), .int e.1.2] [] = _ := taken_ok (by omega) (by omega) (by omega)
    refine ⟨_, rfl, ?_⟩
    have hs : valT (potF q v R) (T.take (i + 1)) = valT (potF q v R) (T.take i) + e.2 * (q + v) ^ e.1.1 * v ^ (R - e.1.1) * (1 + v) ^ e.1.2 := by
      unfold valT
      rw [sum_take hx]
      congr 1
      unfold potF
      ac_rfl
    refine run_aug (y := .int (e.2 * (q + v) ^ e.1.1 * v ^ (R - e.1.1) * (1 + v) ^ e.1.2)) (st1 := []) rfl ?_ (g_add _ _) ⟨.inl rfl, rfl, _, _, _, by rw [hs]; rfl⟩
    refine ev_bin (st1 := []) (ev_bin (st1 := []) (ev_bin (x := .int e.2) (st1 := []) (ev_var rfl) (ev_call (l := [.int (q + v), .int e.1.1]) (es2 (st1 := []) (ev_bin (x := .int q) (y := .int v) (st1 := []) (ev_var rfl) (ev_var rfl) (o_add _ _)) (ev_var rfl)) rfl t1) (o_mulR (pow_small (by omega) (by omega)))) (ev_call (l := [.int v, .int (R - e.1.1 : Nat)]) (es2 (st1 := []) (ev_var rfl) (ev_bin (x := .int R) (y := .int e.1.1) (st1 := []) (ev_var rfl) (ev_var rfl) (by rw [o_sub, sub_cast b1]))) rfl t2) (o_mulR (pow_small (by omega) (by omega)))) (ev_call (l := [.int (1 + v), .int e.1.2]) (es2 (st1 := []) (ev_bin (x := .int 1) (y := .int v) (st1 := []) (by simp only [evE]) (ev_var rfl) (o_add _ _)) (ev_var rfl)) rfl t3) (o_mulR (pow_small (by omega) (by omega)))
  · rintro ρ st ⟨rfl, o5, o6, o7, rfl⟩
    rw [List.take_length]
    have t1 : callF P (n + 14) i_taken [.int q, .int (partsN m ps)] [] = _ := taken_ok (by omega) (by omega) (by omega)
    refine run_ret (d := .int ((q : Int) ^ partsN m ps * valT (potF q v R) T)) (st1 := []) ?_ rfl
    exact ev_bin (st1 := []) (ev_call (l := [.int q, .int (partsN m ps)]) (es2 (st1 := []) (ev_var rfl) (ev_call (l := [.int m, .tup (ps.map pr)]) (es2 (st1 := []) (ev_fld (st1 := []) (ev_var rfl) (fok_many _ _ _) (fld_many _ _ _)) (ev_fld (st1 := []) (ev_var rfl) (fok_pairs _ _ _) (fld_pairs _ _ _))) (by simp [D.pures, D.pure, prs_pure]) h2)) rfl t1) (ev_var rfl) (o_mulL (pow_small (by omega) (by omega)))

/-! ### even sets -/
theorem o_band (st : List Ob) (i j : Int) : opBin .band st (.int i) (.int j) = some (.int (PySem.Builtin.bitAnd i j)) := rfl
theorem blsOf_map : ∀ l : List Bool, blsOf (l.map .bl) = some l
  | [] => rfl
  | x :: l => by rw [List.map_cons, blsOf, blsOf_map l]; rfl
theorem o_all {α : Type} (st : List Ob) (p : α → Bool) (l : List α) : opBlt .all st [.lst (l.map fun x => .bl (p x))] = some (.bl (l.all p)) := by
  show (((lstOf st (.lst (l.map fun x => D.bl (p x)))).bind blsOf).map fun l => D.bl (l.all id)) = _
  have e : (l.map fun x => D.bl (p x)) = (l.map p).map D.bl := by rw [List.map_map]; rfl
  rw [e, show lstOf st (.lst ((l.map p).map .bl)) = some ((l.map p).map .bl) from rfl, Option.bind_some, blsOf_map]
  show some (D.bl ((l.map p).all id)) = _
  rw [List.all_map]
  rfl
theorem bump (f : Nat → Nat) {m k : Nat} : ((List.range m).map fun i => natD (f i)).set k (.int ((f k : Int) + 1)) = (List.range m).map fun i => natD (f i + if k = i then 1 else 0) := by
  refine List.ext_getElem (by simp) fun i h1 h2 => ?_
  rw [List.getElem_set]
  split
  · rename_i h
    subst h
    simp [natD]
  · rename_i h
    simp [natD, h]
def gst (f : List D) (i : Nat) : List Ob := .lst f :: List.replicate i .gone
theorem gst_len (f : List D) (i : Nat) : (gst f i).length = i + 1 := by simp [gst]
theorem gst_at (f : List D) (i : Nat) (X : Ob) : (gst f i ++ [X])[i + 1]? = some X := by
  rw [← gst_len f i, List.getElem?_concat_length]
theorem gst_set (f : List D) (i : Nat) (X Y : Ob) : (gst f i ++ [X]).set (i + 1) Y = gst f i ++ [Y] := by
  rw [List.set_append_right _ _ (by rw [gst_len]; omega), gst_len]
  simp
theorem gst_gone (f : List D) (i : Nat) : gst f i ++ [.gone] = gst f (i + 1) := by
  unfold gst
  rw [List.replicate_succ', List.cons_append]
def endsL (m : Nat) (qs : List (Nat × Nat)) : List D := (List.range m).map fun i => natD (endsN qs i)
theorem sets_pure_sub (f : Nat → Option D) : ∀ l : List D, (∀ d ∈ l, D.subst f d = some d) → D.substs f l = some l
  | [], _ => rfl
  | d :: l, h => by
    rw [D.substs, h d (List.mem_cons_self ..), sets_pure_sub f l fun x hx => h x (List.mem_cons_of_mem _ hx)]
theorem subst_row (f : Nat → Option D) (r : List Nat) : D.subst f (rowD r) = some (rowD r) := by
  unfold rowD
  rw [D.subst, sets_pure_sub f _ fun d hd => ?_]
  · rfl
  · rw [List.mem_map] at hd
    obtain ⟨x, _, rfl⟩ := hd
    rfl
def evenSets (m : Nat) (ps : List (Nat × Nat)) : List (List Nat) := (setsS ps.length).filter fun s => evenB m (pick ps s)
theorem evenSets_len (m : Nat) (ps : List (Nat × Nat)) (hl : ps.length ≤ 8) : (evenSets m ps).length ≤ 256 := by
  unfold evenSets
  refine Nat.le_trans (List.length_filter_le _ _) ?_
  rw [setsS_len]
  exact Nat.le_trans (Nat.pow_le_pow_right (by decide) hl) (by decide)
theorem even_pair_sets_ok {n : Nat} (hn : 3 ≤ n) {m : Nat} {ps : List (Nat × Nat)} (hm : m ≤ 8) (hl : ps.length ≤ 8) (hp : ∀ p ∈ ps, p.1 < m ∧ p.2 < m) :
    callF P n i_even_pair_sets [webD m ps] [] = .ok (.lst ((evenSets m ps).map rowD)) [] := by
  obtain ⟨n, rfl⟩ := Nat.exists_eq_add_of_le' hn
  rw [lev at_even_pair_sets]
  refine runB_of rfl ?_
  show Run _ _ [some (webD m ps), none, none, none, none, none] _ _
  have h1 : callF P (n + 2) i_all_pair_sets [webD m ps] [] = _ := all_pair_sets_ok (by omega) hl
  have hbig : (setsS ps.length).length ≤ 256 := by
    rw [setsS_len]
    exact Nat.le_trans (Nat.pow_le_pow_right (by decide) hl) (by decide)
  refine run_seq (run_set (d := .ref 0) (st1 := gst [] 0) ?_ (by simp) ?_)
  · simp only [evE, evN, evEs, bnd_ok]
    rfl
  refine run_seq (run_for (xs := setsS ps.length) (enc := rowD) (fun i ρ st => st = gst ((((setsS ps.length).take i).filter fun s => evenB m (pick ps s)).map rowD) i ∧ ∃ o2 o3 o4 o5, ρ = [some (webD m ps), some (.ref 0), o2, o3, o4, o5]) (st1 := gst [] 0) (q_lst (ev_call (l := [webD m ps]) (es1 (ev_var rfl)) (by simp [D.pures, web_pure]) h1)) ⟨rfl, _, _, _, _, rfl⟩ ?_ ?_)
  · rintro i s ρ st hx ⟨rfl, o2, o3, o4, o5, rfl⟩
    have hs := setsS_mem (List.mem_of_getElem? hx)
    have hso := setsL_lt _ s hs
    have hi : i < (setsS ps.length).length := (List.getElem?_eq_some_iff.mp hx).1
    have htk : ((setsS ps.length).take (i + 1)).filter (fun s => evenB m (pick ps s)) = ((setsS ps.length).take i).filter (fun s => evenB m (pick ps s)) ++ if evenB m (pick ps s) = true then [s] else [] := by
      rw [List.take_add_one, hx, List.filter_append]
      congr 1
      simp [List.filter_cons]
    rw [htk, List.map_append]
    have hfl : (((setsS ps.length).take i).filter fun s => evenB m (pick ps s)).length ≤ i := by
      refine Nat.le_trans (List.length_filter_le _ _) (List.length_take_le ..)
    generalize ((setsS ps.length).take i).filter (fun s => evenB m (pick ps s)) = F at hfl ⊢
    refine ⟨_, rfl, ?_⟩
    have h0 : List.replicate m (D.int 0) = endsL m [] := by
      unfold endsL
      have : (fun i => natD (endsN [] i)) = fun _ => D.int 0 := by funext k; rfl
      rw [this, List.map_const', List.length_range]
    refine run_seq (run_set (d := .ref (i + 1)) (st1 := gst (F.map rowD) i ++ [.lst (endsL m [])]) ?_ (by simp) ?_)
    · rw [← h0]
      have := q_repN (c := P.cfg (callF P (n + 2)) (callN P (n + 2))) (ρ := [some (webD m ps), some (.ref 0), some (rowD s), o3, o4, o5]) (x := .int 0) (a := .cint 0) (e := .fld (.var 0) "many") (n := m) (st := gst (F.map rowD) i) (st1 := gst (F.map rowD) i) (st2 := gst (F.map rowD) i) (by simp only [evE]) (ev_fld (st1 := gst (F.map rowD) i) (ev_var rfl) (fok_many _ _ _) (fld_many _ _ _)) (by omega)
      rw [gst_len] at this
      exact this
    refine run_seq (run_for (xs := s) (enc := natD) (fun j ρ st => st = gst (F.map rowD) i ++ [.lst (endsL m (pick ps (s.take j)))] ∧ ∃ o4 o5, ρ = [some (webD m ps), some (.ref 0), some (rowD s), some (.ref (i + 1)), o4, o5]) (st1 := gst (F.map rowD) i ++ [.lst (endsL m [])]) (q_tup (ev_var rfl)) ⟨rfl, _, _, rfl⟩ ?_ ?_)
    · rintro j k ρ st hxk ⟨rfl, o4, o5, rfl⟩
      have hk := hso k (List.mem_of_getElem? hxk)
      have hpk : (ps.getD k (0, 0)).1 < m ∧ (ps.getD k (0, 0)).2 < m := by
        rw [List.getD_eq_getElem?_getD, List.getElem?_eq_getElem hk]
        exact hp _ (List.getElem_mem hk)
      have hpick : pick ps (s.take (j + 1)) = pick ps (s.take j) ++ [ps.getD k (0, 0)] := by
        rw [List.take_add_one, hxk]
        simp [pick]
      rw [hpick]
      have hat := pick_at hk
      generalize ps.getD k (0, 0) = p at hpk hat ⊢
      generalize pick ps (s.take j) = qs
      refine ⟨_, rfl, ?_⟩
      have e1 : ((List.range m).map fun i => natD (endsN qs i))[p.1]? = some (.int (endsN qs p.1)) := by simp [hpk.1, natD]
      have e2 : ((List.range m).map fun i => natD (endsN qs i + if p.1 = i then 1 else 0))[p.2]? = some (.int (endsN qs p.2 + if p.1 = p.2 then 1 else 0 : Nat)) := by simp [hpk.2, natD]
      have hp1 : ∀ (ρ : Ev.Env) (st : List Ob), ρ[0]? = some (some (webD m ps)) → ρ[4]? = some (some (natD k)) → evE (P.cfg (callF P (n + 2)) (callN P (n + 2))) (.ix (.fld (.var 0) "pairs") (.var 4)) ρ st = .ok (pr p) st := fun ρ st a b => ev_ix (st1 := st) (ev_fld (st1 := st) (ev_var a) (fok_pairs _ _ _) (fld_pairs _ _ _)) (ev_var b) ((o_ixT _ _).trans hat)
      refine run_seq (run_augS (x := .ref (i + 1)) (y := .int p.1) (z := .int (endsN qs p.1)) (w := .int 1) (v := .int ((endsN qs p.1 : Int) + 1)) (st1 := gst (F.map rowD) i ++ [.lst (endsL m qs)]) (st2 := gst (F.map rowD) i ++ [.lst (endsL m qs)]) (st3 := gst (F.map rowD) i ++ [.lst (endsL m qs)]) (st4 := gst (F.map rowD) i ++ [.lst ((List.range m).map fun i => natD (endsN qs i + if p.1 = i then 1 else 0))]) (ev_var rfl) (ev_ix (x := pr p) (y := .int 0) (st1 := gst (F.map rowD) i ++ [.lst (endsL m qs)]) (hp1 _ _ rfl rfl) (by simp only [evE]) (o_ixT0 _)) ((o_ixR (gst_at _ _ _) _).trans e1) (by simp only [evE]) (g_add _ _) ?_ ?_)
      · rw [o_setR (gst_at _ _ _) (by simp [endsL]; exact hpk.1), gst_set]
        unfold endsL
        rw [bump]
      refine run_augS (x := .ref (i + 1)) (y := .int p.2) (z := .int (endsN qs p.2 + if p.1 = p.2 then 1 else 0 : Nat)) (w := .int 1) (v := .int (((endsN qs p.2 + if p.1 = p.2 then 1 else 0 : Nat) : Int) + 1)) (st1 := gst (F.map rowD) i ++ [.lst ((List.range m).map fun i => natD (endsN qs i + if p.1 = i then 1 else 0))]) (st2 := gst (F.map rowD) i ++ [.lst ((List.range m).map fun i => natD (endsN qs i + if p.1 = i then 1 else 0))]) (st3 := gst (F.map rowD) i ++ [.lst ((List.range m).map fun i => natD (endsN qs i + if p.1 = i then 1 else 0))]) (st4 := gst (F.map rowD) i ++ [.lst (endsL m (qs ++ [p]))]) (ev_var rfl) (ev_ix (x := pr p) (y := .int 1) (st1 := gst (F.map rowD) i ++ [.lst ((List.range m).map fun i => natD (endsN qs i + if p.1 = i then 1 else 0))]) (hp1 _ _ rfl rfl) (by simp only [evE]) (o_ixT1 _)) ((o_ixR (gst_at _ _ _) _).trans e2) (by simp only [evE]) (g_add _ _) ?_ ⟨.inl rfl, rfl, _, _, rfl⟩
      rw [o_setR (gst_at _ _ _) (by simp; exact hpk.2), gst_set, bump (fun i => endsN qs i + if p.1 = i then 1 else 0)]
      unfold endsL
      congr 4
      refine List.map_congr_left fun i _ => ?_
      rw [endsN_snoc, Nat.add_assoc]
    · rintro ρ st ⟨rfl, o4, o5, rfl⟩
      rw [List.take_length]
      refine run_seq (run_frz (n := i + 1) (d := .lst (endsL m (pick ps s))) rfl ?_ ?_)
      · unfold obPure
        rw [gst_at]
        show (if D.pures _ = true then _ else _) = _
        rw [if_pos]
        exact pures_map (fun i => natD_pure _) _
      rw [gst_set, gst_gone]
      have hc : evT (P.cfg (callF P (n + 2)) (callN P (n + 2))) (.blt .all (.cons (.lc [5] (.var 5) (.over (.var 3)) .yes (.cmp .eq (.bin .band (.var 5) (.cint 1)) (.cint 0))) .nil)) [some (webD m ps), some (.ref 0), some (rowD s), some (.lst (endsL m (pick ps s))), o4, o5] (gst (F.map rowD) (i + 1)) = .ok (evenB m (pick ps s)) (gst (F.map rowD) (i + 1)) := by
        have : evE (P.cfg (callF P (n + 2)) (callN P (n + 2))) (.blt .all (.cons (.lc [5] (.var 5) (.over (.var 3)) .yes (.cmp .eq (.bin .band (.var 5) (.cint 1)) (.cint 0))) .nil)) [some (webD m ps), some (.ref 0), some (rowD s), some (.lst (endsL m (pick ps s))), o4, o5] (gst (F.map rowD) (i + 1)) = .ok (.bl (evenB m (pick ps s))) (gst (F.map rowD) (i + 1)) := by
          refine ev_blt (l := [.lst ((List.range m).map fun k => .bl (decide (endsN (pick ps s) k % 2 = 0)))]) (st1 := gst (F.map rowD) (i + 1)) (es1 (q_lc1 (xs := List.range m) (enc := fun k => natD (endsN (pick ps s) k)) (q_lst (ev_var rfl)) (by rw [List.length_range]; show _ ≤ 16777216; omega) fun k hk => ⟨_, rfl, ?_⟩)) (o_all _ _ _)
          refine ev_cmp (x := .int (PySem.Builtin.bitAnd (endsN (pick ps s) k) 1)) (y := .int 0) (st1 := gst (F.map rowD) (i + 1)) (ev_bin (x := .int (endsN (pick ps s) k)) (y := .int 1) (st1 := gst (F.map rowD) (i + 1)) (ev_var rfl) (by simp only [evE]) (o_band _ _ _)) (by simp only [evE]) ?_
          rw [o_eq, PyProof.Rows.bitAnd_m1]
          congr 1
          rw [decide_eq_decide]
          omega
        simp only [evT, this, bnd_ok, t_bl, ofO_some]
      refine run_ite hc (fun hv => ?_) fun hv => ?_
      · rw [hv]
        refine run_ex (d := .non) (st1 := gst ((F ++ [s]).map rowD) (i + 1)) (ev_bm (x := .ref 0) (l := [rowD s]) (st1 := gst (F.map rowD) (i + 1)) (st2 := gst (F.map rowD) (i + 1)) (ev_var rfl) rfl (es1 (ev_var rfl)) ?_) ⟨.inl rfl, by rw [if_pos rfl, List.map_append], _, _, _, _, rfl⟩
        show (if (F.map rowD).length < szL then R.ok D.non ((gst (F.map rowD) (i + 1)).set 0 (.lst (F.map rowD ++ [rowD s]))) else .bad) = _
        rw [if_pos (by rw [List.length_map]; show _ < 16777216; omega), List.map_append]
        rfl
      · rw [hv]
        refine run_skip ⟨.inl rfl, by simp, _, _, _, _, rfl⟩
  · rintro ρ st ⟨rfl, o2, o3, o4, o5, rfl⟩
    rw [List.take_length]
    refine run_ret (d := .ref 0) (st1 := gst ((evenSets m ps).map rowD) (setsS ps.length).length) (ev_var rfl) ?_
    show leave 0 (.ref 0) _ = _
    have : frz (gst ((evenSets m ps).map rowD) (setsS ps.length).length) 0 (.ref 0) = some (.lst ((evenSets m ps).map rowD)) := by
      show (D.substs (frzAt (gst ((evenSets m ps).map rowD) (setsS ps.length).length) 0 3) ((evenSets m ps).map rowD)).map D.lst = _
      rw [sets_pure_sub _ _ fun d hd => ?_]
      · rfl
      · rw [List.mem_map] at hd
        obtain ⟨x, _, rfl⟩ := hd
        exact subst_row _ _
    unfold leave
    rw [this]
    rfl
def evT2 (ps : List (Nat × Nat)) (a b : Int) (s : List Nat) : Int := (a + b) ^ (ps.length - s.length) * (a - b) ^ s.length
theorem evenSets_sum {m : Nat} {ps : List (Nat × Nat)} (a b : Int) (hp : ∀ p ∈ ps, p.1 < m ∧ p.2 < m) : ((evenSets m ps).map (evT2 ps a b)).sum * 2 ^ m = 2 ^ ps.length * sumR 2 m (W ps a b) := by
  rw [rows_even a b hp]
  congr 1
  unfold evenSets
  refine sm_perm _ ((List.mergeSort_perm _ _).filter _)
theorem two_by_even_sets_ok {n : Nat} (hn : 4 ≤ n) {m : Nat} {a b : Int} {ps : List (Nat × Nat)} (hm : m ≤ 8) (hl : ps.length ≤ 8) (hp : ∀ p ∈ ps, p.1 < m ∧ p.2 < m) (ha : (a + b).natAbs ≤ 100) (hb : (a - b).natAbs ≤ 100) :
    callF P n i_two_by_even_sets [webD m ps, .int a, .int b] [] = .ok (.tup [.int (2 ^ ps.length * sumR 2 m (W ps a b)), .int ps.length]) [] := by
  obtain ⟨n, rfl⟩ := Nat.exists_eq_add_of_le' hn
  rw [lev at_two_by_even_sets, ← evenSets_sum a b hp]
  refine runB_of rfl ?_
  show Run _ _ [some (webD m ps), some (.int a), some (.int b), none, none] _ _
  have h1 : callF P (n + 3) i_even_pair_sets [webD m ps] [] = _ := even_pair_sets_ok (by omega) hm hl hp
  refine run_seq (run_set (d := .int 0) (st1 := []) (by simp only [evE]) (by simp) ?_)
  refine run_seq (run_for (xs := evenSets m ps) (enc := rowD) (fun i ρ st => st = [] ∧ ∃ o4, ρ = [some (webD m ps), some (.int a), some (.int b), some (.int (((evenSets m ps).take i).map (evT2 ps a b)).sum), o4]) (st1 := []) (q_lst (ev_call (l := [webD m ps]) (es1 (ev_var rfl)) (by simp [D.pures, web_pure]) h1)) ⟨rfl, _, rfl⟩ ?_ ?_)
  · rintro i s ρ st hx ⟨rfl, o4, rfl⟩
    have hs := setsS_mem (List.mem_filter.mp (List.mem_of_getElem? hx)).1
    have hsl := setsL_le _ s hs
    refine ⟨_, rfl, ?_⟩
    have hlen : ∀ ρ : Ev.Env, ρ[4]? = some (some (rowD s)) → evE (P.cfg (callF P (n + 3)) (callN P (n + 3))) (.blt .len (.cons (.var 4) .nil)) ρ [] = .ok (.int s.length) [] := fun ρ h => by
      refine ev_blt (st1 := []) (es1 (ev_var h)) ?_
      unfold rowD
      rw [o_len_tup, List.length_map]
    have t1 : callF P (n + 3) i_taken [.int (a + b), .int (ps.length - s.length : Nat)] [] = _ := taken_ok (by omega) (by omega) (by omega)
    have t2 : callF P (n + 3) i_taken [.int (a - b), .int s.length] [] = _ := taken_ok (by omega) (by omega) (by omega)
    refine run_aug (y := .int (evT2 ps a b s)) (st1 := []) rfl ?_ (g_add _ _) ⟨.inl rfl, rfl, _, by rw [sum_take hx]; rfl⟩
    exact ev_bin (st1 := []) (ev_call (l := [.int (a + b), .int (ps.length - s.length : Nat)]) (es2 (st1 := []) (ev_bin (st1 := []) (ev_var rfl) (ev_var rfl) (o_add _ _)) (ev_bin (x := .int ps.length) (y := .int s.length) (st1 := []) (ev_size (by omega) (ev_var rfl)) (hlen _ rfl) (by rw [o_sub, sub_cast hsl]))) rfl t1) (ev_call (l := [.int (a - b), .int s.length]) (es2 (st1 := []) (ev_bin (st1 := []) (ev_var rfl) (ev_var rfl) (o_sub _ _)) (hlen _ rfl)) rfl t2) (o_mulR (pow_small hb (by omega)))
  · rintro ρ st ⟨rfl, o4, rfl⟩
    rw [List.take_length]
    have t1 : callF P (n + 3) i_taken [.int 2, .int m] [] = _ := taken_ok (by omega) (by decide) (by omega)
    refine run_ret (d := .tup [.int (((evenSets m ps).map (evT2 ps a b)).sum * 2 ^ m), .int ps.length]) (st1 := []) ?_ rfl
    exact ev_tup (es2 (st1 := []) (ev_bin (st1 := []) (ev_var rfl) (ev_call (l := [.int 2, .int m]) (es2 (st1 := []) (by simp only [evE]) (ev_fld (st1 := []) (ev_var rfl) (fok_many _ _ _) (fld_many _ _ _))) rfl t1) (o_mulR (pow_small (by decide) (by omega)))) (ev_size (by omega) (ev_var rfl))) (by show 2 ≤ 16777216; omega)

/-! ### tests in parts -/
section
variable {c : Cfg} {ρ : Ev.Env} {st st1 st2 : List Ob}
theorem evT_orF {a b : E} {v : Bool} (h1 : evT c a ρ st = .ok false st1) (h2 : evT c b ρ st1 = .ok v st2) : evT c (.orE a b) ρ st = .ok v st2 := by simp only [evT, h1, bnd_ok, h2]
theorem evT_orT {a b : E} (h1 : evT c a ρ st = .ok true st1) : evT c (.orE a b) ρ st = .ok true st1 := by simp only [evT, h1, bnd_ok]
theorem evT_andT {a b : E} {v : Bool} (h1 : evT c a ρ st = .ok true st1) (h2 : evT c b ρ st1 = .ok v st2) : evT c (.andE a b) ρ st = .ok v st2 := by simp only [evT, h1, bnd_ok, h2]
theorem evT_andF {a b : E} (h1 : evT c a ρ st = .ok false st1) : evT c (.andE a b) ρ st = .ok false st1 := by simp only [evT, h1, bnd_ok]
theorem evT_not {a : E} {v : Bool} (h1 : evT c a ρ st = .ok v st1) : evT c (.notE a) ρ st = .ok (!v) st1 := by simp only [evT, h1, bnd_ok]
theorem evE_andT {a b : E} {x y : D} (h1 : evE c a ρ st = .ok x st1) (ht : truth st1 x = some true) (h2 : evE c b ρ st1 = .ok y st2) : evE c (.andE a b) ρ st = .ok y st2 := by simp only [evE, h1, bnd_ok, ht, ofO_some, h2]
theorem evE_andF {a b : E} {x : D} (h1 : evE c a ρ st = .ok x st1) (ht : truth st1 x = some false) : evE c (.andE a b) ρ st = .ok x st1 := by simp only [evE, h1, bnd_ok, ht, ofO_some]
theorem evE_not {a : E} {x : D} {v : Bool} (h1 : evE c a ρ st = .ok x st1) (ht : truth st1 x = some v) : evE c (.notE a) ρ st = .ok (.bl (!v)) st1 := by simp only [evE, h1, bnd_ok, ht, ofO_some]
theorem ev_isi {a : E} {t : Ty} {x : D} {v : Bool} (h1 : evE c a ρ st = .ok x st1) (h2 : isTy t st1 x = some v) : evE c (.isi a t) ρ st = .ok (.bl v) st1 := by
  simp only [evE, h1, bnd_ok, h2, ofO_some]
theorem evT_isi {a : E} {t : Ty} {x : D} {v : Bool} (h1 : evE c a ρ st = .ok x st1) (h2 : isTy t st1 x = some v) : evT c (.isi a t) ρ st = .ok v st1 := by
  simp only [evT, ev_isi h1 h2, bnd_ok, t_bl, ofO_some]
theorem evT_blt {b : Blt} {es : E} {l : List D} {v : Bool} (h1 : evEs c es ρ st = .ok l st1) (h3 : opBlt b st1 l = some (.bl v)) : evT c (.blt b es) ρ st = .ok v st1 := by
  simp only [evT, ev_blt h1 h3, bnd_ok, t_bl, ofO_some]
theorem evT_call {f : Nat} {br : Bool} {es : E} {v : Bool} (h : evE c (.call f br es) ρ st = .ok (.bl v) st1) : evT c (.call f br es) ρ st = .ok v st1 := by
  simp only [evT, h, bnd_ok, t_bl, ofO_some]
end
theorem frzs_pl {st : List Ob} {k : Nat} : ∀ {l : List D}, D.pures l = true → frzs st k l = some l
  | [], _ => rfl
  | d :: l, h => by
    have h : (D.pure d && D.pures l) = true := h
    rw [Bool.and_eq_true] at h
    have h1 : frz st k d = some d := by unfold frz; rw [if_pos h.1]
    rw [frzs, h1, frzs_pl h.2]
/-! ### the tape -/
def tapeO (ns : List Int) (k : Nat) (r s : Int) : Ob := .lst [.lst (ns.map .int), .int k, .int r, .int s]
def Tape (ns : List Int) (t : Ob) : Prop := ∃ (k : Nat) (r s : Int), t = tapeO ns k r s ∧ k ≤ ns.length ∧ 0 ≤ r
theorem tape_pure (ns : List Int) (k : Nat) (r s : Int) : frzOb [tapeO ns k r s] 1 (tapeO ns k r s) = some (tapeO ns k r s) := by
  have h : D.pures [.lst (ns.map .int), .int k, .int r, .int s] = true := by
    simp [D.pures, D.pure]
    exact pures_map (fun _ => rfl) ns
  show (frzs _ 1 [.lst (ns.map .int), .int k, .int r, .int s]).map Ob.lst = _
  rw [frzs_pl h]
  rfl
theorem tape_leave (ns : List Int) (k : Nat) (r s v : Int) : leave 1 (.int v) [tapeO ns k r s] = .ok (.int v) [tapeO ns k r s] := by
  show ofO (frzObs [tapeO ns k r s] 1 [tapeO ns k r s]) _ = _
  have : frzObs [tapeO ns k r s] 1 [tapeO ns k r s] = some [tapeO ns k r s] := by
    simp only [frzObs, tape_pure]
  rw [this]
  rfl
section
variable {ns : List Int} {k : Nat} {r s : Int}
theorem tix0 : opIx [tapeO ns k r s] (.ref 0) (.int 0) = some (.lst (ns.map .int)) := rfl
theorem tix1 : opIx [tapeO ns k r s] (.ref 0) (.int 1) = some (.int k) := rfl
theorem tix2 : opIx [tapeO ns k r s] (.ref 0) (.int 2) = some (.int r) := rfl
theorem tix3 : opIx [tapeO ns k r s] (.ref 0) (.int 3) = some (.int s) := rfl
theorem tset1 : opSet [tapeO ns k r s] (.ref 0) (.int 1) (.int ((k : Int) + 1)) = some [tapeO ns (k + 1) r s] := rfl
theorem tset2 (x : Int) : opSet [tapeO ns k r s] (.ref 0) (.int 2) (.int x) = some [tapeO ns k x s] := rfl
theorem tset3 (x : Int) : opSet [tapeO ns k r s] (.ref 0) (.int 3) (.int x) = some [tapeO ns k r x] := rfl
end
theorem o_mod {st : List Ob} {a b : Int} (h : 0 < b) : opBin .mod st (.int a) (.int b) = some (.int (a % b)) := by simp [opBin, opInt, h]
theorem o_fdv {st : List Ob} {a b : Int} (h : 0 < b) (h2 : b.natAbs ≤ 1000000) : opBin .fdv st (.int a) (.int b) = some (.int (a / b)) := by
  have h3 : b.natAbs < 2 ^ 8000 := Nat.lt_of_le_of_lt h2 (by
    refine Nat.lt_of_lt_of_le (show 1000000 < 2 ^ 20 by decide) (Nat.pow_le_pow_right (by decide) (by decide)))
  show ((if 0 < b ∧ b.natAbs < 2 ^ 8000 then some (a / b) else none).map D.int) = _
  rw [if_pos ⟨h, h3⟩]
  rfl
theorem o_pow1018 {st : List Ob} : opBin .pow st (.int 10) (.int 18) = some (.int 1000000000000000000) := by
  show ((if 0 ≤ (18 : Int) ∧ (18 : Int) ≤ 1000000 ∧ (10 : Int).natAbs < 2 ^ 63 then some ((10 : Int) ^ (18 : Int).toNat) else none).map D.int) = _
  rw [if_pos ⟨by decide, by decide, by decide⟩]
  rfl
theorem mod_nat {a : Int} {b : Nat} (h : 0 < b) : ∃ v : Nat, v < b ∧ a % (b : Int) = v := by
  have h1 := Int.emod_nonneg a (show (b : Int) ≠ 0 by omega)
  have h2 := Int.emod_lt_of_pos a (show (0 : Int) < b by omega)
  exact ⟨(a % b).toNat, by omega, by omega⟩
theorem next_ok {n : Nat} (hn : 1 ≤ n) {ns : List Int} {t : Ob} (ht : Tape ns t) {many : Nat} (hm : 0 < many) (hm2 : many ≤ 1000000) : ∃ (v : Nat) (t' : Ob), callF P n i__law_next [.ref 0, .int many] [t] = .ok (.int v) [t'] ∧ v < many ∧ Tape ns t' := by
  obtain ⟨n, rfl⟩ := Nat.exists_eq_add_of_le' hn
  obtain ⟨k, r, s, rfl, hk, hr⟩ := ht
  have hm' : (0 : Int) < many := by omega
  have main : ∃ fl ρ' st', evS (P.cfg (callF P n) (callN P n)) b__law_next [some (.ref 0), some (.int many), none, none] [tapeO ns k r s] = .ok (fl, ρ') st' ∧ ∃ v : Nat, v < many ∧ fl = .ret (.int v) ∧ ∃ k' r' s', st' = [tapeO ns k' r' s'] ∧ k' ≤ ns.length ∧ 0 ≤ r' := by
    show Run _ _ _ _ fun fl ρ' st' => ∃ v : Nat, v < many ∧ fl = .ret (.int v) ∧ ∃ k' r' s', st' = [tapeO ns k' r' s'] ∧ k' ≤ ns.length ∧ 0 ≤ r'
    -- the end, from a number at hand
    have tail : ∀ (c r : Int) (k : Nat) (s : Int) (o : Option D), 0 ≤ c → 0 ≤ r → k ≤ ns.length → Run (P.cfg (callF P n) (callN P n)) (.seq (.asg (.ix (.var 0) (.cint 2)) (.bin .fdv (.var 2) (.var 1))) (.ret (.bin .mod (.blt .int (.cons (.var 2) .nil)) (.var 1)))) [some (.ref 0), some (.int many), some (.int c), o] [tapeO ns k r s] fun fl ρ' st' => ∃ v : Nat, v < many ∧ fl = .ret (.int v) ∧ ∃ k' r' s', st' = [tapeO ns k' r' s'] ∧ k' ≤ ns.length ∧ 0 ≤ r' := by
      intro c r k s o hc hr hk
      refine run_seq (run_setix (x := .ref 0) (y := .int 2) (d := .int (c / many)) (st1 := [tapeO ns k r s]) (st2 := [tapeO ns k r s]) (st3 := [tapeO ns k r s]) (ev_bin (st1 := [tapeO ns k r s]) (ev_var rfl) (ev_var rfl) (o_fdv hm' (by omega))) (ev_var rfl) (by simp only [evE]) (tset2 _) ?_)
      obtain ⟨v, hv, e⟩ := mod_nat (a := c) hm
      refine run_ret (d := .int v) (st1 := [tapeO ns k (c / many) s]) (ev_bin (x := .int c) (st1 := [tapeO ns k (c / many) s]) (ev_blt (l := [.int c]) (st1 := [tapeO ns k (c / many) s]) (es1 (ev_var rfl)) (o_int _)) (ev_var rfl) (by rw [o_mod hm', e])) ⟨v, hv, rfl, k, _, s, rfl, hk, ?_⟩
      exact Int.ediv_nonneg hc (by omega)
    unfold b__law_next
    refine run_seq (run_set (d := .int r) (st1 := [tapeO ns k r s]) (ev_ix (x := .ref 0) (y := .int 2) (st1 := [tapeO ns k r s]) (ev_var rfl) (by simp only [evE]) tix2) (by simp) ?_)
    refine run_seq (run_ite (v := decide (r = 0)) (st1 := [tapeO ns k r s]) (ev_tcmp (x := .int r) (y := .int 0) (st1 := [tapeO ns k r s]) (ev_var rfl) (by simp only [evE]) (o_eq _ _)) (fun hv => ?_) fun hv => run_skip (tail r r k s none hr hr hk))
    refine run_seq (run_set (d := .int 0) (st1 := [tapeO ns k r s]) (by simp only [evE]) (by simp) ?_)
    have rest : ∀ (c : Int) (k : Nat), 0 ≤ c → k ≤ ns.length → Run (P.cfg (callF P n) (callN P n)) (.seq (.asg (.var 2) (.var 3)) (.ite (.cmp .lt (.var 3) (.bin .pow (.cint 10) (.cint 18))) (.seq (.asg (.ix (.var 0) (.cint 3)) (.bin .mod (.blt .int (.cons (.bin .add (.bin .add (.bin .mul (.ix (.var 0) (.cint 3)) (.cint 69621)) (.bin .mul (.var 3) (.cint 40692))) (.cint 17)) .nil)) (.cint 2147483647))) (.ret (.bin .mod (.bin .mod (.blt .int (.cons (.bin .mul (.blt .int (.cons (.bin .fdv (.ix (.var 0) (.cint 3)) (.cint 5)) .nil)) (.cint 48271)) .nil)) (.cint 2147483647)) (.var 1)))) .skip)) [some (.ref 0), some (.int many), some (.int r), some (.int c)] [tapeO ns k r s] (Then (P.cfg (callF P n) (callN P n)) (.seq (.asg (.ix (.var 0) (.cint 2)) (.bin .fdv (.var 2) (.var 1))) (.ret (.bin .mod (.blt .int (.cons (.var 2) .nil)) (.var 1)))) fun fl ρ' st' => ∃ v : Nat, v < many ∧ fl = .ret (.int v) ∧ ∃ k' r' s', st' = [tapeO ns k' r' s'] ∧ k' ≤ ns.length ∧ 0 ≤ r') := by
      intro c k hc hk
      refine run_seq (run_set (d := .int c) (st1 := [tapeO ns k r s]) (ev_var rfl) (by simp) ?_)
      refine run_ite (v := decide (c < 1000000000000000000)) (st1 := [tapeO ns k r s]) (ev_tcmp (x := .int c) (y := .int 1000000000000000000) (st1 := [tapeO ns k r s]) (ev_var rfl) (ev_bin (x := .int 10) (y := .int 18) (st1 := [tapeO ns k r s]) (by simp only [evE]) (by simp only [evE]) o_pow1018) (o_lt _ _)) (fun hv => ?_) fun hv => run_skip (tail c r k s _ hc hr hk)
      generalize hs' : (s * 69621 + c * 40692 + 17) % 2147483647 = s'
      refine run_seq (run_setix (x := .ref 0) (y := .int 3) (d := .int s') (st1 := [tapeO ns k r s]) (st2 := [tapeO ns k r s]) (st3 := [tapeO ns k r s]) ?_ (ev_var rfl) (by simp only [evE]) (tset3 _) ?_)
      · refine ev_bin (x := .int (s * 69621 + c * 40692 + 17)) (y := .int 2147483647) (st1 := [tapeO ns k r s]) (ev_blt (l := [.int (s * 69621 + c * 40692 + 17)]) (st1 := [tapeO ns k r s]) (es1 (ev_bin (x := .int (s * 69621 + c * 40692)) (y := .int 17) (st1 := [tapeO ns k r s]) (ev_bin (x := .int (s * 69621)) (y := .int (c * 40692)) (st1 := [tapeO ns k r s]) (ev_bin (x := .int s) (y := .int 69621) (st1 := [tapeO ns k r s]) (ev_ix (x := .ref 0) (y := .int 3) (st1 := [tapeO ns k r s]) (ev_var rfl) (by simp only [evE]) tix3) (by simp only [evE]) (o_mulR (by decide))) (ev_bin (x := .int c) (y := .int 40692) (st1 := [tapeO ns k r s]) (ev_var rfl) (by simp only [evE]) (o_mulR (by decide))) (o_add _ _)) (by simp only [evE]) (o_add _ _))) (o_int _)) (by simp only [evE]) ?_
        rw [o_mod (by decide), hs']
      · obtain ⟨v, hv', e⟩ := mod_nat (a := s' / 5 * 48271 % 2147483647) hm
        refine run_ret (d := .int v) (st1 := [tapeO ns k r s']) ?_ ⟨v, hv', rfl, k, r, s', rfl, hk, hr⟩
        refine ev_bin (x := .int (s' / 5 * 48271 % 2147483647)) (y := .int many) (st1 := [tapeO ns k r s']) (ev_bin (x := .int (s' / 5 * 48271)) (y := .int 2147483647) (st1 := [tapeO ns k r s']) (ev_blt (l := [.int (s' / 5 * 48271)]) (st1 := [tapeO ns k r s']) (es1 (ev_bin (x := .int (s' / 5)) (y := .int 48271) (st1 := [tapeO ns k r s']) (ev_blt (l := [.int (s' / 5)]) (st1 := [tapeO ns k r s']) (es1 (ev_bin (x := .int s') (y := .int 5) (st1 := [tapeO ns k r s']) (ev_ix (x := .ref 0) (y := .int 3) (st1 := [tapeO ns k r s']) (ev_var rfl) (by simp only [evE]) tix3) (by simp only [evE]) (o_fdv (by decide) (by decide)))) (o_int _)) (by simp only [evE]) (o_mulR (by decide)))) (o_int _)) (by simp only [evE]) (o_mod (by decide))) (ev_var rfl) (by rw [o_mod hm', e])
    refine run_seq (run_ite (v := decide (k < ns.length)) (st1 := [tapeO ns k r s]) ?_ (fun hv => ?_) fun hv => run_skip (rest 0 k (by omega) hk))
    · refine ev_tcmp (x := .int k) (y := .int ns.length) (st1 := [tapeO ns k r s]) (ev_ix (x := .ref 0) (y := .int 1) (st1 := [tapeO ns k r s]) (ev_var rfl) (by simp only [evE]) tix1) (ev_blt (l := [.lst (ns.map .int)]) (st1 := [tapeO ns k r s]) (es1 (ev_ix (x := .ref 0) (y := .int 0) (st1 := [tapeO ns k r s]) (ev_var rfl) (by simp only [evE]) tix0)) (by rw [o_len_lst, List.length_map])) ?_
      rw [o_lt]
      congr 1
      rw [decide_eq_decide]
      omega
    · have hv : k < ns.length := by simpa using hv
      have hat : (ns.map D.int)[k]? = some (.int ns[k]) := by rw [List.getElem?_map, List.getElem?_eq_getElem hv]; rfl
      refine run_seq (run_set (d := .int (if ns[k] < 0 then -ns[k] else ns[k])) (st1 := [tapeO ns k r s]) ?_ (by simp) ?_)
      · exact ev_blt (l := [.int ns[k]]) (st1 := [tapeO ns k r s]) (es1 (ev_blt (l := [.int ns[k]]) (st1 := [tapeO ns k r s]) (es1 (ev_ix (x := .lst (ns.map .int)) (y := .int k) (st1 := [tapeO ns k r s]) (ev_ix (x := .ref 0) (y := .int 0) (st1 := [tapeO ns k r s]) (ev_var rfl) (by simp only [evE]) tix0) (ev_ix (x := .ref 0) (y := .int 1) (st1 := [tapeO ns k r s]) (ev_var rfl) (by simp only [evE]) tix1) ((o_ixL _ _).trans hat))) (o_int _))) (o_abs _)
      · refine run_setix (x := .ref 0) (y := .int 1) (d := .int ((k : Int) + 1)) (st1 := [tapeO ns k r s]) (st2 := [tapeO ns k r s]) (st3 := [tapeO ns k r s]) (ev_bin (x := .int k) (y := .int 1) (st1 := [tapeO ns k r s]) (ev_ix (x := .ref 0) (y := .int 1) (st1 := [tapeO ns k r s]) (ev_var rfl) (by simp only [evE]) tix1) (by simp only [evE]) (o_add _ _)) (ev_var rfl) (by simp only [evE]) tset1 ?_
        exact rest _ (k + 1) (by split <;> omega) (by omega)
  obtain ⟨fl, ρ', st', e, v, hv, rfl, k', r', s', rfl, h1, h2⟩ := main
  refine ⟨v, tapeO ns k' r' s', ?_, hv, k', r', s', rfl, h1, h2⟩
  rw [lev at__law_next]
  exact runB_of rfl ⟨_, _, _, e, tape_leave ..⟩

/-! ### best rows -/
abbrev Bst := Option (Nat × List Nat)
def bstS (ps : List (Nat × Nat)) (o : Bst) (r : List Nat) : Bst := match o with
  | none => some (likeN ps r, r)
  | some (t, r0) => if likeN ps r < t then some (likeN ps r, r) else some (t, r0)
def bstD : Bst → D
  | none => .non
  | some (t, r) => .tup [.int t, rowD r]
def bstR (ps : List (Nat × Nat)) (rows : List (List Nat)) : Bst := rows.foldl (bstS ps) none
theorem bstR_take {ps : List (Nat × Nat)} {rows : List (List Nat)} {i : Nat} {r : List Nat} (h : rows[i]? = some r) : bstR ps (rows.take (i + 1)) = bstS ps (bstR ps (rows.take i)) r := by
  rw [List.take_add_one, h]
  simp [bstR, List.foldl_append]
/-- the first row that has fewest like pairs -/
theorem bstR_spec (ps : List (Nat × Nat)) (rows : List (List Nat)) : ∀ i, 0 < i → i ≤ rows.length → ∃ k r, k < i ∧ rows[k]? = some r ∧ bstR ps (rows.take i) = some (likeN ps r, r) ∧ (∀ j x, j < i → rows[j]? = some x → likeN ps r ≤ likeN ps x) ∧ ∀ j x, j < k → rows[j]? = some x → likeN ps r < likeN ps x := by
  intro i
  induction i with
  | zero => intro h; omega
  | succ i ih =>
    intro _ hi
    have hx : rows[i]? = some rows[i] := List.getElem?_eq_getElem hi
    rw [bstR_take hx]
    generalize rows[i] = x at hx
    by_cases h0 : i = 0
    · subst h0
      refine ⟨0, x, by omega, hx, rfl, fun j y hj hy => ?_, fun j y hj => by omega⟩
      have : j = 0 := by omega
      subst this
      rw [hx] at hy
      cases hy
      exact Nat.le_refl _
    · obtain ⟨k, r, h1, h2, h3, h4, h5⟩ := ih (by omega) (by omega)
      rw [h3]
      by_cases hlt : likeN ps x < likeN ps r
      · refine ⟨i, x, by omega, hx, by show (if _ then _ else _) = _; rw [if_pos hlt], fun j y hj hy => ?_, fun j y hj hy => ?_⟩
        · by_cases e : j = i
          · subst e
            rw [hx] at hy
            cases hy
            exact Nat.le_refl _
          · have := h4 j y (by omega) hy
            omega
        · have := h4 j y hj hy
          omega
      · refine ⟨k, r, by omega, h2, by show (if _ then _ else _) = _; rw [if_neg hlt], fun j y hj hy => ?_, h5⟩
        by_cases e : j = i
        · subst e
          rw [hx] at hy
          cases hy
          omega
        · exact h4 j y (by omega) hy
theorem bstD_pure (o : Bst) : (bstD o).pure = true := by
  cases o with
  | none => rfl
  | some p => simp [bstD, D.pure, D.pures, rowD, natDs_pure]
theorem best_rows_ok {n : Nat} (hn : 2 ≤ n) {m q : Nat} {ps : List (Nat × Nat)} (hm : m ≤ 8) (hq : q ≤ 4) (hl : ps.length ≤ 1000) (hp : ∀ p ∈ ps, p.1 < m ∧ p.2 < m) :
    callF P n i_best_rows [webD m ps, .int q] [] = .ok (bstD (bstR ps (rowsL q m))) [] := by
  obtain ⟨n, rfl⟩ := Nat.exists_eq_add_of_le' hn
  rw [lev at_best_rows]
  refine runB_of rfl ?_
  show Run _ _ [some (webD m ps), some (.int q), none, none, none] _ _
  have h1 : callF P (n + 1) i_all_rows [.int m, .int q] [] = _ := all_rows_ok (by omega) hm hq
  refine run_seq (run_set (d := .non) (st1 := []) (by simp only [evE]) (by simp) ?_)
  refine run_seq (run_for (xs := rowsL q m) (enc := rowD) (fun i ρ st => st = [] ∧ ∃ o3 o4, ρ = [some (webD m ps), some (.int q), some (bstD (bstR ps ((rowsL q m).take i))), o3, o4]) (st1 := []) (q_lst (ev_call (l := [.int m, .int q]) (es2 (st1 := []) (ev_fld (ev_var rfl) (fok_many _ _ _) (fld_many _ _ _)) (ev_var rfl)) rfl h1)) ⟨rfl, _, _, rfl⟩ ?_ ?_)
  · rintro i r ρ st hx ⟨rfl, o3, o4, rfl⟩
    have hr := rowsL_row q m r (List.mem_of_getElem? hx)
    have hlk : callF P (n + 1) i_like_pairs [webD m ps, rowD r] [] = _ := like_pairs_ok (by omega) hl hp hr
    refine ⟨_, rfl, run_seq (run_set (d := .int (likeN ps r)) (st1 := []) (ev_call (l := [webD m ps, rowD r]) (es2 (st1 := []) (ev_var rfl) (ev_var rfl)) (by simp [D.pures, web_pure, rowD_pure]) hlk) (by simp) ?_)⟩
    rw [bstR_take hx]
    have hset : Run (P.cfg (callF P (n + 1)) (callN P (n + 1))) (.asg (.var 2) (.tup (.cons (.var 4) (.cons (.var 3) .nil)))) [some (webD m ps), some (.int q), some (bstD (bstR ps ((rowsL q m).take i))), some (rowD r), some (.int (likeN ps r))] [] fun fl ρ' st' => fl = .nx ∧ st' = [] ∧ ρ' = [some (webD m ps), some (.int q), some (bstD (some (likeN ps r, r))), some (rowD r), some (.int (likeN ps r))] :=
      run_set (d := .tup [.int (likeN ps r), rowD r]) (st1 := []) (ev_tup (es2 (st1 := []) (ev_var rfl) (ev_var rfl)) (by show 2 ≤ 16777216; omega)) (by simp) ⟨rfl, rfl, rfl⟩
    generalize bstR ps ((rowsL q m).take i) = b at hset ⊢
    cases b with
    | none =>
      refine run_if (st1 := []) ?_ (hset.imp ?_)
      · simp only [evT, evE, List.set, List.getElem?_cons_succ, List.getElem?_cons_zero, bstD, bnd_ok, t_bl, ofO_some]
        rfl
      · rintro fl ρ' st' ⟨rfl, rfl, rfl⟩
        exact ⟨.inl rfl, rfl, _, _, rfl⟩
    | some b =>
      obtain ⟨t, r0⟩ := b
      have hT : evT (P.cfg (callF P (n + 1)) (callN P (n + 1))) (.orE (.isN false (.var 2)) (.cmp .lt (.var 4) (.ix (.var 2) (.cint 0)))) [some (webD m ps), some (.int q), some (bstD (some (t, r0))), some (rowD r), some (.int (likeN ps r))] [] = .ok (decide (likeN ps r < t)) [] := by
        have h2 : evT (P.cfg (callF P (n + 1)) (callN P (n + 1))) (.isN false (.var 2)) [some (webD m ps), some (.int q), some (bstD (some (t, r0))), some (rowD r), some (.int (likeN ps r))] [] = .ok false [] := by
          simp only [evT, evE, List.getElem?_cons_succ, List.getElem?_cons_zero, bstD, bnd_ok, t_bl, ofO_some]
          rfl
        have h3 : evT (P.cfg (callF P (n + 1)) (callN P (n + 1))) (.cmp .lt (.var 4) (.ix (.var 2) (.cint 0))) [some (webD m ps), some (.int q), some (bstD (some (t, r0))), some (rowD r), some (.int (likeN ps r))] [] = .ok (decide (likeN ps r < t)) [] := by
          refine ev_tcmp (x := .int (likeN ps r)) (y := .int t) (st1 := []) (ev_var rfl) (ev_ix (x := bstD (some (t, r0))) (y := .int 0) (st1 := []) (ev_var rfl) (by simp only [evE]) (o_ixT0 _)) ?_
          rw [o_lt]
          congr 1
          rw [decide_eq_decide]
          omega
        exact evT_orF h2 h3
      refine run_ite hT (fun hv => hset.imp ?_) fun hv => run_skip ?_
      · rintro fl ρ' st' ⟨rfl, rfl, rfl⟩
        refine ⟨.inl rfl, rfl, some (rowD r), some (.int (likeN ps r)), ?_⟩
        have hv : likeN ps r < t := by simpa using hv
        show _ = [_, _, some (bstD (if likeN ps r < t then _ else _)), _, _]
        rw [if_pos hv]
      · refine ⟨.inl rfl, rfl, some (rowD r), some (.int (likeN ps r)), ?_⟩
        have hv : ¬ likeN ps r < t := by simpa using hv
        show _ = [_, _, some (bstD (if likeN ps r < t then _ else _)), _, _]
        rw [if_neg hv]
        rfl
  · rintro ρ st ⟨rfl, o3, o4, rfl⟩
    rw [List.take_length]
    exact run_ret (st1 := []) (ev_var rfl) (leave_plain (bstD_pure _) _)
theorem greatest_cut_ok {n : Nat} (hn : 3 ≤ n) {m t : Nat} {r : List Nat} {ps : List (Nat × Nat)} (hm : m ≤ 8) (hl : ps.length ≤ 1000) (hp : ∀ p ∈ ps, p.1 < m ∧ p.2 < m) (hb : bstR ps (rowsL 2 m) = some (t, r)) (ht : t ≤ ps.length) :
    callF P n i_greatest_cut [webD m ps] [] = .ok (.tup [.int (ps.length - t : Nat), rowD r]) [] := by
  obtain ⟨n, rfl⟩ := Nat.exists_eq_add_of_le' hn
  rw [lev at_greatest_cut]
  refine runB_of rfl ?_
  show Run _ _ [some (webD m ps), none] _ _
  have h1 : callF P (n + 2) i_best_rows [webD m ps, .int (2 : Nat)] [] = _ := best_rows_ok (by omega) hm (by omega) hl hp
  rw [hb] at h1
  refine run_seq (run_set (d := .tup [.int t, rowD r]) (st1 := []) (ev_call (l := [webD m ps, .int 2]) (es2 (st1 := []) (ev_var rfl) (by simp only [evE])) (by simp [D.pures, web_pure, D.pure]) h1) (by simp) ?_)
  refine run_ret (d := .tup [.int (ps.length - t : Nat), rowD r]) (st1 := []) ?_ (leave_plain (by simp [D.pure, D.pures, rowD, natDs_pure]) _)
  refine ev_tup (es2 (st1 := []) (ev_bin (x := .int ps.length) (y := .int t) (st1 := []) (ev_size (by omega) (ev_var rfl)) (ev_ix (x := .tup [.int t, rowD r]) (y := .int 0) (st1 := []) (ev_var rfl) (by simp only [evE]) (o_ixT0 _)) (by rw [o_sub, sub_cast ht])) (ev_ix (x := .tup [.int t, rowD r]) (y := .int 1) (st1 := []) (ev_var rfl) (by simp only [evE]) (o_ixT1 _))) (by show 2 ≤ 16777216; omega)
theorem natcast_sum : ∀ l : List Nat, (l.map fun (k : Nat) => (k : Int)).sum = ((l.sum : Nat) : Int)
  | [] => rfl
  | x :: l => by rw [List.map_cons, List.sum_cons, natcast_sum l, List.sum_cons, Int.natCast_add]
theorem mean_unlike_ok {n : Nat} (hn : 3 ≤ n) {m q : Nat} {ps : List (Nat × Nat)} (hm : m ≤ 8) (hq : q ≤ 4) (hl : ps.length ≤ 1000) (hp : ∀ p ∈ ps, p.1 < m ∧ p.2 < m) :
    callF P n i_mean_unlike [webD m ps, .int q] [] = .ok (.tup [.int (sumR q m fun r => ((ps.length - likeN ps r : Nat) : Int)), .int (rowsL q m).length]) [] := by
  obtain ⟨n, rfl⟩ := Nat.exists_eq_add_of_le' hn
  have e1 : (sumR q m fun r => ((ps.length - likeN ps r : Nat) : Int)) = ((List.range (ps.length + 1)).map fun k => (cntN ps (rowsL q m) k : Int) * ((ps.length - k : Nat) : Int)).sum := by
    rw [cnt_sum]
    rfl
  have e2 : ((rowsL q m).length : Int) = ((List.range (ps.length + 1)).map fun k => (cntN ps (rowsL q m) k : Int)).sum := by
    have := cnt_sum ps (rowsL q m) fun _ => 1
    rw [sm_const, Int.mul_one] at this
    rw [← this]
    exact sm_cg fun k _ => by rw [Int.mul_one]
  rw [lev at_mean_unlike, e1, e2]
  refine runB_of rfl ?_
  show Run _ _ [some (webD m ps), some (.int q), none, none] _ _
  have h1 : callF P (n + 2) i_like_counts [webD m ps, .int q] [] = _ := like_counts_ok (by omega) hm hq (by omega) hp
  refine run_seq (run_set (d := .tup ((cntsL ps (rowsL q m)).map natD)) (st1 := []) (ev_call (l := [webD m ps, .int q]) (es2 (st1 := []) (ev_var rfl) (ev_var rfl)) (by simp [D.pures, web_pure, D.pure]) h1) (by simp) ?_)
  refine run_ret (d := .tup [.int ((List.range (ps.length + 1)).map fun k => (cntN ps (rowsL q m) k : Int) * ((ps.length - k : Nat) : Int)).sum, .int ((List.range (ps.length + 1)).map fun k => (cntN ps (rowsL q m) k : Int)).sum]) (st1 := []) ?_ rfl
  refine ev_tup (es2 (st1 := []) ?_ ?_) (by show 2 ≤ 16777216; omega)
  · refine ev_blt (l := [.lst (((List.range (ps.length + 1)).map fun k => (cntN ps (rowsL q m) k : Int) * ((ps.length - k : Nat) : Int)).map .int)]) (st1 := []) (es1 ?_) (o_sumL _)
    rw [List.map_map]
    refine q_lc1 (xs := List.range (ps.length + 1)) (enc := natD) (q_rng (n := ps.length + 1) ?_ (by omega)) (by rw [List.length_range]; show _ ≤ 16777216; omega) fun k hk => ⟨_, rfl, ?_⟩
    · refine (ev_blt (l := [.tup ((cntsL ps (rowsL q m)).map natD)]) (st1 := []) (es1 (ev_var rfl)) (o_len_tup _)).trans ?_
      simp [cntsL]
    · have hk : k < ps.length + 1 := List.mem_range.mp hk
      have hat : ((cntsL ps (rowsL q m)).map natD)[k]? = some (.int (cntN ps (rowsL q m) k)) := by
        unfold cntsL
        rw [List.map_map, List.getElem?_map, List.getElem?_range (by omega)]
        rfl
      refine ev_bin (st1 := []) (ev_ix (st1 := []) (ev_var rfl) (ev_var rfl) ((o_ixT _ _).trans hat)) (ev_bin (x := .int ps.length) (y := .int k) (st1 := []) (ev_size (by omega) (ev_var rfl)) (ev_var rfl) (by rw [o_sub, sub_cast (by omega)])) (o_mulR (small64 (by omega)))
  · refine ev_blt (l := [.tup (((List.range (ps.length + 1)).map fun k => (cntN ps (rowsL q m) k : Int)).map .int)]) (st1 := []) (es1 ?_) (o_sumT _)
    refine (ev_var rfl).trans ?_
    unfold cntsL
    rw [List.map_map, List.map_map]
    rfl

/-! ### the law's own defs -/
theorem tape_pures (ns : List Int) (k : Nat) (r s : Int) : D.pures [.lst (ns.map .int), .int k, .int r, .int s] = true := by
  simp [D.pures, D.pure]
  exact pures_map (fun _ => rfl) ns
theorem tape_leaveD {ns : List Int} {t : Ob} (ht : Tape ns t) {d : D} (h : d.pure = true) : leave 1 d [t] = .ok d [t] := by
  obtain ⟨k, r, s, rfl, _, _⟩ := ht
  have h1 : frz [tapeO ns k r s] 1 d = some d := by unfold frz; rw [if_pos h]
  have h2 : frzObs [tapeO ns k r s] 1 [tapeO ns k r s] = some [tapeO ns k r s] := by simp only [frzObs, tape_pure]
  show ofO (frz [tapeO ns k r s] 1 d) (fun d' => ofO (frzObs [tapeO ns k r s] 1 [tapeO ns k r s]) _) = _
  rw [h1, ofO_some, h2]
  rfl
/-- a call that hands the tape in, and one plain value more -/
theorem ev_tape1 {c : Cfg} {ρ : Ev.Env} {ns : List Int} {t t' : Ob} {f : Nat} {es : E} {d x : D} (ht : Tape ns t) (h1 : evEs c es ρ [t] = .ok [.ref 0, x] [t]) (hx : x.pure = true) (h3 : c.fn f [.ref 0, x] [t] = .ok d [t']) : evE c (.call f true es) ρ [t] = .ok d [t'] := by
  obtain ⟨k, r, s, rfl, _, _⟩ := ht
  have a1 : handIn [.ref 0, x] 0 = some ([.ref 0, x], [0]) := by
    have : handIn [x] 1 = some ([x], []) := by
      cases x <;> first | (simp [D.pure] at hx; done) | skip
      all_goals (unfold handIn; rw [if_pos hx]; rfl)
    show (handIn [x] 1).map _ = _
    rw [this]
    rfl
  have a2 : obsAt [tapeO ns k r s] [0] = some [tapeO ns k r s] := by
    show (if D.pures [.lst (ns.map .int), .int k, .int r, .int s] = true then some [tapeO ns k r s] else none) = _
    rw [if_pos (tape_pures ..)]
  simp only [evE, h1, bnd_ok, a1, ofO_some, a2, show nodupN [0] = true from rfl, chk_true, h3]
  rfl
theorem ev_tape2 {c : Cfg} {ρ : Ev.Env} {ns : List Int} {t t' : Ob} {f : Nat} {es : E} {d : D} {x y : Int} (ht : Tape ns t) (h1 : evEs c es ρ [t] = .ok [.ref 0, .int x, .int y] [t]) (h3 : c.fn f [.ref 0, .int x, .int y] [t] = .ok d [t']) : evE c (.call f true es) ρ [t] = .ok d [t'] := by
  obtain ⟨k, r, s, rfl, _, _⟩ := ht
  have a1 : handIn [.ref 0, .int x, .int y] 0 = some ([.ref 0, .int x, .int y], [0]) := rfl
  have a2 : obsAt [tapeO ns k r s] [0] = some [tapeO ns k r s] := by
    show (if D.pures [.lst (ns.map .int), .int k, .int r, .int s] = true then some [tapeO ns k r s] else none) = _
    rw [if_pos (tape_pures ..)]
  simp only [evE, h1, bnd_ok, a1, ofO_some, a2, show nodupN [0] = true from rfl, chk_true, h3]
  rfl
/-- a number is drawn -/
theorem ev_next {n : Nat} (hn : 1 ≤ n) {ρ : Ev.Env} {ns : List Int} {t : Ob} (ht : Tape ns t) {es : E} {many : Nat} (hm : 0 < many) (hm2 : many ≤ 1000000) (h1 : evEs (P.cfg (callF P n) (callN P n)) es ρ [t] = .ok [.ref 0, .int many] [t]) : ∃ (v : Nat) (t' : Ob), evE (P.cfg (callF P n) (callN P n)) (.call i__law_next true es) ρ [t] = .ok (.int v) [t'] ∧ v < many ∧ Tape ns t' := by
  obtain ⟨v, t', e, hv, ht'⟩ := next_ok hn ht hm hm2
  exact ⟨v, t', ev_tape1 ht h1 rfl e, hv, ht'⟩
theorem lcD_tape {ns : List Int} {m : Nat} {turn : D → List Ob → R (List D)} (h : ∀ d t, Tape ns t → ∃ (p : Nat × Nat) (t' : Ob), turn d [t] = .ok [pr p] [t'] ∧ (p.1 < m ∧ p.2 < m) ∧ Tape ns t') : ∀ (items : List D) (t : Ob), Tape ns t → ∃ (ps : List (Nat × Nat)) (t' : Ob), lcD turn items [t] = .ok (ps.map pr) [t'] ∧ ps.length = items.length ∧ (∀ p ∈ ps, p.1 < m ∧ p.2 < m) ∧ Tape ns t'
  | [], t, ht => ⟨[], t, rfl, rfl, by simp, ht⟩
  | d :: items, t, ht => by
    obtain ⟨p, t1, e1, hp, ht1⟩ := h d t ht
    obtain ⟨ps, t2, e2, hl, hps, ht2⟩ := lcD_tape h items t1 ht1
    refine ⟨p :: ps, t2, ?_, by simp [hl], ?_, ht2⟩
    · rw [lcD, e1, bnd_ok, e2, bnd_ok]
      rfl
    · intro x hx
      rw [List.mem_cons] at hx
      rcases hx with rfl | hx
      · exact hp
      · exact hps x hx
def turnE (c : Cfg) (own : List Nat) (tg el : E) (ρ : Ev.Env) : D → List Ob → R (List D) := fun d s => ofO (tgs tg d (wipeE ρ own)) fun ρ1 => bnd (evE c el ρ1 s) fun x s2 => .ok [x] s2
theorem lc_turn (c : Cfg) (own : List Nat) (tg it el : E) (ρ : Ev.Env) (st : List Ob) : evE c (.lc own tg it .yes el) ρ st = bnd (evI c it ρ st) fun items st1 => bnd (lcD (turnE c own tg el ρ) items st1) fun l st2 => chk (decide (l.length ≤ szL)) (.ok (.lst l) st2) := by
  simp only [evE, evT, bnd_ok]
  rfl
theorem law_web_ok {n : Nat} (hn : 2 ≤ n) {ns : List Int} {t : Ob} (ht : Tape ns t) {most pairs : Nat} (hm : 0 < most) (hm2 : most ≤ 1000) (hp2 : pairs ≤ 1000) : ∃ (m : Nat) (ps : List (Nat × Nat)) (t' : Ob), callF P n i__law_web [.ref 0, .int most, .int pairs] [t] = .ok (.tup [.int m, .tup (ps.map pr)]) [t'] ∧ 0 < m ∧ m ≤ most ∧ ps.length ≤ pairs ∧ (∀ p ∈ ps, p.1 < m ∧ p.2 < m) ∧ Tape ns t' := by
  obtain ⟨n, rfl⟩ := Nat.exists_eq_add_of_le' hn
  obtain ⟨v1, t1, e1, hv1, ht1⟩ := ev_next (n := n + 1) (by omega) (ρ := [some (.ref 0), some (.int most), some (.int pairs), none, none]) ht (es := .cons (.var 0) (.cons (.var 1) .nil)) hm (by omega) (es2 (st1 := [t]) (ev_var rfl) (ev_var rfl))
  obtain ⟨v2, t2, e2, hv2, ht2⟩ := ev_next (n := n + 1) (by omega) (ρ := [some (.ref 0), some (.int most), some (.int pairs), some (.int (1 + v1 : Nat)), none]) ht1 (es := .cons (.var 0) (.cons (.bin .add (.var 2) (.cint 1)) .nil)) (many := pairs + 1) (by omega) (by omega) (es2 (st1 := [t1]) (ev_var rfl) (ev_bin (x := .int pairs) (y := .int 1) (st1 := [t1]) (ev_var rfl) (by simp only [evE]) (o_add _ _)))
  have hturn : ∀ d t, Tape ns t → ∃ (p : Nat × Nat) (t' : Ob), turnE (P.cfg (callF P (n + 1)) (callN P (n + 1))) [4] (.var 4) (.tup (.cons (.call 31 true (.cons (.var 0) (.cons (.var 3) .nil))) (.cons (.call 31 true (.cons (.var 0) (.cons (.var 3) .nil))) .nil))) [some (.ref 0), some (.int most), some (.int pairs), some (.int (1 + v1 : Nat)), none] d [t] = .ok [pr p] [t'] ∧ (p.1 < 1 + v1 ∧ p.2 < 1 + v1) ∧ Tape ns t' := by
    intro d t ht
    obtain ⟨w1, u1, f1, hw1, hu1⟩ := ev_next (n := n + 1) (by omega) (ρ := [some (.ref 0), some (.int most), some (.int pairs), some (.int (1 + v1 : Nat)), some d]) ht (es := .cons (.var 0) (.cons (.var 3) .nil)) (many := 1 + v1) (by omega) (by omega) (es2 (st1 := [t]) (ev_var rfl) (ev_var rfl))
    obtain ⟨w2, u2, f2, hw2, hu2⟩ := ev_next (n := n + 1) (by omega) (ρ := [some (.ref 0), some (.int most), some (.int pairs), some (.int (1 + v1 : Nat)), some d]) hu1 (es := .cons (.var 0) (.cons (.var 3) .nil)) (many := 1 + v1) (by omega) (by omega) (es2 (st1 := [u1]) (ev_var rfl) (ev_var rfl))
    refine ⟨(w1, w2), u2, ?_, ⟨hw1, hw2⟩, hu2⟩
    have ht4 : tgs (.var 4) d (wipeE [some (.ref 0), some (.int most), some (.int pairs), some (.int (1 + v1 : Nat)), none] [4]) = some [some (.ref 0), some (.int most), some (.int pairs), some (.int (1 + v1 : Nat)), some d] := rfl
    have h5 := ev_tup (c := P.cfg (callF P (n + 1)) (callN P (n + 1))) (es2 f1 f2) (by show 2 ≤ 16777216; omega)
    have h5 : evE (P.cfg (callF P (n + 1)) (callN P (n + 1))) (.tup (.cons (.call 31 true (.cons (.var 0) (.cons (.var 3) .nil))) (.cons (.call 31 true (.cons (.var 0) (.cons (.var 3) .nil))) .nil))) [some (.ref 0), some (.int most), some (.int pairs), some (.int (1 + v1 : Nat)), some d] [t] = _ := h5
    unfold turnE
    rw [ht4, ofO_some, h5]
    rfl
  obtain ⟨ps, t3, e3, hl, hps, ht3⟩ := lcD_tape hturn ((List.range v2).map natD) t2 ht2
  rw [List.length_map, List.length_range] at hl
  refine ⟨1 + v1, ps, t3, ?_, by omega, by omega, by omega, hps, ht3⟩
  rw [lev at__law_web]
  refine runB_of rfl ?_
  show Run _ _ [some (.ref 0), some (.int most), some (.int pairs), none, none] _ _
  refine run_seq (run_set (d := .int (1 + v1 : Nat)) (st1 := [t1]) (ev_bin (x := .int 1) (y := .int v1) (st1 := [t]) (by simp only [evE]) e1 (o_add _ _)) (by simp) ?_)
  refine run_ret (d := .tup [.int (1 + v1 : Nat), .tup (ps.map pr)]) (st1 := [t3]) ?_ (tape_leaveD ht3 (by simp [D.pure, D.pures, prs_pure]))
  refine ev_tup (es2 (st1 := [t1]) (ev_var rfl) (ev_blt (l := [.lst (ps.map pr)]) (st1 := [t3]) (es1 ?_) (o_tuple_lst _))) (by show 2 ≤ 16777216; omega)
  have hi := q_rng (c := P.cfg (callF P (n + 1)) (callN P (n + 1))) e2 (by omega)
  have hi : evI (P.cfg (callF P (n + 1)) (callN P (n + 1))) (.rng1 (.call 31 true (.cons (.var 0) (.cons (.bin .add (.var 2) (.cint 1)) .nil)))) [some (.ref 0), some (.int most), some (.int pairs), some (.int (1 + v1 : Nat)), none] [t1] = .ok ((List.range v2).map natD) [t2] := hi
  have hs : decide ((ps.map pr).length ≤ szL) = true := by
    rw [decide_eq_true_eq, List.length_map]
    show ps.length ≤ 16777216
    omega
  refine (lc_turn ..).trans ?_
  show bnd (evI (P.cfg (callF P (n + 1)) (callN P (n + 1))) (.rng1 (.call 31 true (.cons (.var 0) (.cons (.bin .add (.var 2) (.cint 1)) .nil)))) [some (.ref 0), some (.int most), some (.int pairs), some (.int (1 + v1 : Nat)), none] [t1]) _ = _
  rw [hi, bnd_ok]
  refine (congrArg (fun z => bnd z _) e3).trans ?_
  show chk (decide ((ps.map pr).length ≤ szL)) _ = _
  rw [hs, chk_true]
theorem law_rows_ok {n : Nat} (hn : 1 ≤ n) {m q : Nat} (hm : m ≤ 8) (hq : q ≤ 4) : callF P n i__law_rows [.int m, .int q] [] = .ok (.lst ((rowsL q m).map rowD)) [] := by
  obtain ⟨n, rfl⟩ := Nat.exists_eq_add_of_le' hn
  rw [lev at__law_rows]
  refine runB_of rfl ?_
  show Run _ _ [some (.int m), some (.int q), none, none, none, none, none] _ _
  refine run_seq (run_set (d := .lst ((rowsL q 0).map rowD)) (st1 := []) ?_ (by simp) ?_)
  · simp [runB, evS, evE, evEs, evT, evI, evB, evR, evTg, evTg.go, Prog.cfg, frz_plain, frzs_plain, D.pure, D.pures, D.scalar, leave_plain, leave_int, leave_bl, leave_non, leave_tup, leave_lst, leave_obj, o_len_tup, o_len_lst, o_len_dct, o_tuple_tup, o_tuple_lst, o_list_tup, o_list_lst, o_min, o_max, o_abs, o_int, o_intb, o_eq, o_ne, o_lt, o_le, o_gt, o_ge, o_add, o_sub, o_ixT0, o_ixT1, o_ixT2, o_ixL0, o_ixL1, o_ixT, o_ixL, t_bl, t_int, i_int, i_bl, i_tup, i_lst, i_non, i_str, i_obj, prs_pure, web_pure, pr_pure, fok_many, fok_pairs, fld_many, fld_pairs, rowsL, rowD, szL]
  refine run_seq (run_for (xs := List.range m) (enc := natD) (fun i ρ st => st = [] ∧ ∃ o3 o4 o5 o6, ρ = [some (.int m), some (.int q), some (.lst ((rowsL q i).map rowD)), o3, o4, o5, o6]) (st1 := []) (q_rng (by simp [runB, evS, evE, evEs, evT, evI, evB, evR, evTg, evTg.go, Prog.cfg, frz_plain, frzs_plain, D.pure, D.pures, D.scalar, leave_plain, leave_int, leave_bl, leave_non, leave_tup, leave_lst, leave_obj, o_len_tup, o_len_lst, o_len_dct, o_tuple_tup, o_tuple_lst, o_list_tup, o_list_lst, o_min, o_max, o_abs, o_int, o_intb, o_eq, o_ne, o_lt, o_le, o_gt, o_ge, o_add, o_sub, o_ixT0, o_ixT1, o_ixT2, o_ixL0, o_ixL1, o_ixT, o_ixL, t_bl, t_int, i_int, i_bl, i_tup, i_lst, i_non, i_str, i_obj, prs_pure, web_pure, pr_pure, fok_many, fok_pairs, fld_many, fld_pairs]) (by omega)) ⟨rfl, _, _, _, _, rfl⟩ ?_ ?_)
  · rintro i x ρ st hx ⟨rfl, o3, o4, o5, o6, rfl⟩
    obtain ⟨rfl, hi⟩ := q_rngat hx
    refine ⟨_, rfl, ?_⟩
    have hlen : (rowsL q (x + 1)).length ≤ 65536 := by
      rw [rowsL_len]
      exact Nat.le_trans (Nat.pow_le_pow_left hq _) (Nat.le_trans (Nat.pow_le_pow_right (by decide) (show x + 1 ≤ 8 by omega)) (by decide))
    refine run_seq (run_set (d := .lst []) (st1 := []) (by simp [runB, evS, evE, evEs, evT, evI, evB, evR, evTg, evTg.go, Prog.cfg, frz_plain, frzs_plain, D.pure, D.pures, D.scalar, leave_plain, leave_int, leave_bl, leave_non, leave_tup, leave_lst, leave_obj, o_len_tup, o_len_lst, o_len_dct, o_tuple_tup, o_tuple_lst, o_list_tup, o_list_lst, o_min, o_max, o_abs, o_int, o_intb, o_eq, o_ne, o_lt, o_le, o_gt, o_ge, o_add, o_sub, o_ixT0, o_ixT1, o_ixT2, o_ixL0, o_ixL1, o_ixT, o_ixL, t_bl, t_int, i_int, i_bl, i_tup, i_lst, i_non, i_str, i_obj, prs_pure, web_pure, pr_pure, fok_many, fok_pairs, fld_many, fld_pairs, szL]) (by simp) ?_)
    refine run_seq (run_for (xs := rowsL q x) (enc := rowD) (fun i ρ st => st = [] ∧ ∃ o5 o6, ρ = [some (.int m), some (.int q), some (.lst ((rowsL q x).map rowD)), some (natD x), some (.lst ((((rowsL q x).take i).flatMap fun r => (List.range q).map fun o => r ++ [o]).map rowD)), o5, o6]) (st1 := []) (q_lst (ev_var rfl)) ⟨rfl, _, _, rfl⟩ ?_ ?_)
    · rintro j r ρ st hr ⟨rfl, o5, o6, rfl⟩
      refine ⟨_, rfl, ?_⟩
      have htk : ((rowsL q x).take (j + 1)).flatMap (fun r => (List.range q).map fun o => r ++ [o]) = ((rowsL q x).take j).flatMap (fun r => (List.range q).map fun o => r ++ [o]) ++ (List.range q).map fun o => r ++ [o] := by
        rw [List.take_add_one, hr, List.flatMap_append]
        simp
      have hle : (((rowsL q x).take j).flatMap (fun r => (List.range q).map fun o => r ++ [o])).length + q ≤ 65536 := by
        have h1 : (((rowsL q x).take (j + 1)).flatMap (fun r => (List.range q).map fun o => r ++ [o])).length ≤ (rowsL q (x + 1)).length := by
          have : rowsL q (x + 1) = ((rowsL q x).take (j + 1)).flatMap (fun r => (List.range q).map fun o => r ++ [o]) ++ ((rowsL q x).drop (j + 1)).flatMap (fun r => (List.range q).map fun o => r ++ [o]) := by
            rw [← List.flatMap_append, List.take_append_drop, rowsL]
          rw [this, List.length_append]
          omega
        rw [htk, List.length_append, List.length_map, List.length_range] at h1
        omega
      rw [htk]
      generalize ((rowsL q x).take j).flatMap (fun r => (List.range q).map fun o => r ++ [o]) = F at hle ⊢
      have hrl := rowsL_row q x r (List.mem_of_getElem? hr)
      refine run_set (d := .lst ((F ++ (List.range q).map fun o => r ++ [o]).map rowD)) (st1 := []) ?_ (by simp) ⟨.inl rfl, rfl, _, _, rfl⟩
      rw [List.map_append, List.map_map]
      refine ev_bin (x := .lst (F.map rowD)) (st1 := []) (ev_var rfl) (q_lc1 (xs := List.range q) (enc := natD) (f := fun o => rowD (r ++ [o])) (q_rng (n := q) (ev_var rfl) (by omega)) (by rw [List.length_range]; show _ ≤ 16777216; omega) fun o ho => ⟨_, rfl, ?_⟩) ?_
      · have : opBin .add [] (rowD r) (.tup [natD o]) = some (rowD (r ++ [o])) := by
          unfold rowD
          rw [o_addT, List.map_append]
          · rfl
          · rw [List.length_map, hrl]; show x + 1 ≤ 16777216; omega
        exact ev_bin (st1 := []) (ev_var rfl) (ev_tup (es1 (ev_var rfl)) (by show 1 ≤ 16777216; omega)) this
      · refine o_addL ?_
        rw [List.length_map, List.length_map, List.length_range]
        show _ ≤ 16777216
        omega
    · rintro ρ st ⟨rfl, o5, o6, rfl⟩
      rw [List.take_length]
      exact run_set (d := .lst ((rowsL q (x + 1)).map rowD)) (st1 := []) (ev_var rfl) (by simp) ⟨.inl rfl, rfl, _, _, _, _, rfl⟩
  · rintro ρ st ⟨rfl, o3, o4, o5, o6, rfl⟩
    rw [List.length_range]
    exact run_ret (st1 := []) (ev_var rfl) (leave_lst (rows_pure _) _)
theorem law_power_ok {n : Nat} (hn : 1 ≤ n) {v : Int} {t : Nat} (hv : v.natAbs ≤ 1000) (ht : t ≤ 1000) : callF P n i__law_power [.int v, .int t] [] = .ok (.int (v ^ t)) [] := by
  obtain ⟨n, rfl⟩ := Nat.exists_eq_add_of_le' hn
  rw [lev at__law_power]
  refine runB_of rfl ?_
  show Run _ _ [some (.int v), some (.int t), none, none] _ _
  refine run_seq (run_set (d := .int 1) (st1 := []) (by simp [runB, evS, evE, evEs, evT, evI, evB, evR, evTg, evTg.go, Prog.cfg, frz_plain, frzs_plain, D.pure, D.pures, D.scalar, leave_plain, leave_int, leave_bl, leave_non, leave_tup, leave_lst, leave_obj, o_len_tup, o_len_lst, o_len_dct, o_tuple_tup, o_tuple_lst, o_list_tup, o_list_lst, o_min, o_max, o_abs, o_int, o_intb, o_eq, o_ne, o_lt, o_le, o_gt, o_ge, o_add, o_sub, o_ixT0, o_ixT1, o_ixT2, o_ixL0, o_ixL1, o_ixT, o_ixL, t_bl, t_int, i_int, i_bl, i_tup, i_lst, i_non, i_str, i_obj, prs_pure, web_pure, pr_pure, fok_many, fok_pairs, fld_many, fld_pairs]) (by simp) ?_)
  refine run_seq (run_for (xs := List.range t) (enc := natD) (fun i ρ st => st = [] ∧ ∃ o, ρ = [some (.int v), some (.int t), some (.int (v ^ i)), o]) (st1 := []) (q_rng (by simp [runB, evS, evE, evEs, evT, evI, evB, evR, evTg, evTg.go, Prog.cfg, frz_plain, frzs_plain, D.pure, D.pures, D.scalar, leave_plain, leave_int, leave_bl, leave_non, leave_tup, leave_lst, leave_obj, o_len_tup, o_len_lst, o_len_dct, o_tuple_tup, o_tuple_lst, o_list_tup, o_list_lst, o_min, o_max, o_abs, o_int, o_intb, o_eq, o_ne, o_lt, o_le, o_gt, o_ge, o_add, o_sub, o_ixT0, o_ixT1, o_ixT2, o_ixL0, o_ixL1, o_ixT, o_ixL, t_bl, t_int, i_int, i_bl, i_tup, i_lst, i_non, i_str, i_obj, prs_pure, web_pure, pr_pure, fok_many, fok_pairs, fld_many, fld_pairs]) (by omega)) ⟨rfl, none, by rw [Int.pow_zero]; rfl⟩ ?_ ?_)
  · rintro i x ρ st hx ⟨rfl, o, rfl⟩
    refine ⟨_, rfl, run_set (d := .int (v ^ (i + 1))) (st1 := []) (ev_bin (x := .int (v ^ i)) (y := .int v) (st1 := []) (ev_var rfl) (ev_var rfl) ?_) (by simp) ⟨.inl rfl, rfl, _, rfl⟩⟩
    rw [o_mulR (small64 hv), Int.pow_succ]
  · rintro ρ st ⟨rfl, o, rfl⟩
    rw [List.length_range]
    exact run_ret (st1 := []) (ev_var rfl) rfl
theorem law_sets_ok {n : Nat} (hn : 1 ≤ n) {k : Nat} (hl : k ≤ 8) : callF P n i__law_sets [.int k] [] = .ok (.lst ((setsS k).map rowD)) [] := by
  obtain ⟨n, rfl⟩ := Nat.exists_eq_add_of_le' hn
  rw [lev at__law_sets]
  refine runB_of rfl ?_
  show Run _ _ [some (.int k), none, none, none, none] _ _
  have big : ∀ k, k ≤ 8 → (setsL k).length ≤ 256 := fun k hk => by
    rw [setsL_len]
    exact Nat.le_trans (Nat.pow_le_pow_right (by decide) hk) (by decide)
  refine run_seq (run_set (d := .lst ((setsL 0).map rowD)) (st1 := []) ?_ (by simp) ?_)
  · simp [runB, evS, evE, evEs, evT, evI, evB, evR, evTg, evTg.go, Prog.cfg, frz_plain, frzs_plain, D.pure, D.pures, D.scalar, leave_plain, leave_int, leave_bl, leave_non, leave_tup, leave_lst, leave_obj, o_len_tup, o_len_lst, o_len_dct, o_tuple_tup, o_tuple_lst, o_list_tup, o_list_lst, o_min, o_max, o_abs, o_int, o_intb, o_eq, o_ne, o_lt, o_le, o_gt, o_ge, o_add, o_sub, o_ixT0, o_ixT1, o_ixT2, o_ixL0, o_ixL1, o_ixT, o_ixL, t_bl, t_int, i_int, i_bl, i_tup, i_lst, i_non, i_str, i_obj, prs_pure, web_pure, pr_pure, fok_many, fok_pairs, fld_many, fld_pairs, setsL, rowD, szL]
  refine run_seq (run_for (xs := List.range k) (enc := natD) (fun i ρ st => st = [] ∧ ∃ o2 o3 o4, ρ = [some (.int k), some (.lst ((setsL i).map rowD)), o2, o3, o4]) (st1 := []) (q_rng (n := k) (ev_var rfl) (by omega)) ⟨rfl, _, _, _, rfl⟩ ?_ ?_)
  · rintro i x ρ st hx ⟨rfl, o2, o3, o4, rfl⟩
    obtain ⟨rfl, hi⟩ := q_rngat hx
    have b1 := big x (by omega)
    refine ⟨_, rfl, ?_⟩
    refine run_set (d := .lst ((setsL (x + 1)).map rowD)) (st1 := []) ?_ (by simp) ⟨.inl rfl, rfl, _, _, _, rfl⟩
    rw [setsL, List.map_append, List.map_map]
    refine ev_bin (x := .lst ((setsL x).map rowD)) (st1 := []) (ev_var rfl) (q_lc1 (xs := setsL x) (enc := rowD) (q_lst (ev_var rfl)) (by show _ ≤ 16777216; omega) fun r hr => ⟨_, rfl, ?_⟩) (o_addL (by rw [List.length_map, List.length_map]; show _ ≤ 16777216; omega))
    have hrl := setsL_le x r hr
    have : opBin .add [] (rowD r) (.tup [natD x]) = some (rowD (r ++ [x])) := by
      unfold rowD
      rw [o_addT, List.map_append]
      · rfl
      · rw [List.length_map]; show r.length + 1 ≤ 16777216; omega
    exact ev_bin (st1 := []) (ev_var rfl) (ev_tup (es1 (ev_var rfl)) (by show 1 ≤ 16777216; omega)) this
  · rintro ρ st ⟨rfl, o2, o3, o4, rfl⟩
    rw [List.length_range]
    have b1 := big k hl
    have b2 : (setsS k).length ≤ 256 := by rw [setsS_len, ← setsL_len]; exact b1
    refine run_ret (d := .lst ((setsS k).map rowD)) (st1 := []) ?_ (leave_lst (rows_pure _) _)
    refine q_lc1 (xs := setsS k) (enc := keyD) (q_lst (ev_blt (l := [.lst ((setsL k).map keyD)]) (st1 := []) (es1 (q_lc1 (xs := setsL k) (enc := rowD) (q_lst (ev_var rfl)) (by show _ ≤ 16777216; omega) fun r hr => ⟨_, rfl, ?_⟩)) (sorted_keys _))) (by show _ ≤ 16777216; omega) fun r hr => ⟨_, rfl, ev_var rfl⟩
    refine ev_tup (es2 (st1 := []) (ev_blt (st1 := []) (es1 (ev_var rfl)) ?_) (ev_var rfl)) (by show 2 ≤ 16777216; omega)
    unfold rowD
    rw [o_len_tup, List.length_map]

/-! ### the law's own likeness: of a thing with itself -/
mutual
def sameB : D → Bool
  | .non => true
  | .bl _ => true
  | .int _ => true
  | .tup l => decide (l.length ≤ 100000) && sameBs l
  | .lst l => decide (l.length ≤ 100000) && sameBs l
  | _ => false
def sameBs : List D → Bool
  | [] => true
  | d :: l => sameB d && sameBs l
end
theorem sameBs_mem : ∀ {l : List D}, sameBs l = true → ∀ d ∈ l, sameB d = true
  | d :: l, h, x, hx => by
    rw [sameBs, Bool.and_eq_true] at h
    rw [List.mem_cons] at hx
    rcases hx with rfl | hx
    · exact h.1
    · exact sameBs_mem h.2 x hx
mutual
theorem sameB_pure : ∀ {d : D}, sameB d = true → d.pure = true
  | .non, _ => rfl
  | .bl _, _ => rfl
  | .int _, _ => rfl
  | .tup l, h => by
    rw [sameB, Bool.and_eq_true] at h
    show D.pures l = true
    exact sameBs_pure h.2
  | .lst l, h => by
    rw [sameB, Bool.and_eq_true] at h
    show D.pures l = true
    exact sameBs_pure h.2
  | .str _, h => by simp [sameB] at h
  | .dct _ _ _, h => by simp [sameB] at h
  | .set _, h => by simp [sameB] at h
  | .obj _ _ _, h => by simp [sameB] at h
  | .ref _, h => by simp [sameB] at h
theorem sameBs_pure : ∀ {l : List D}, sameBs l = true → D.pures l = true
  | [], _ => rfl
  | d :: l, h => by
    rw [sameBs, Bool.and_eq_true] at h
    rw [D.pures, sameB_pure h.1, sameBs_pure h.2]
    rfl
end
theorem depth_mem : ∀ {l : List D} {d : D}, d ∈ l → D.depth d ≤ D.depths l
  | x :: l, d, h => by
    rw [List.mem_cons] at h
    rw [D.depths]
    rcases h with rfl | h
    · exact Nat.le_max_left _ _
    · exact Nat.le_trans (depth_mem h) (Nat.le_max_right _ _)
def isNon : D → Bool
  | .non => true
  | _ => false
theorem ev_isN {c : Cfg} {ρ : Ev.Env} {st st1 : List Ob} {a : E} {x : D} {v : Bool} (h : evE c a ρ st = .ok x st1) (hv : isNon x = v) : evE c (.isN false a) ρ st = .ok (.bl v) st1 := by
  subst hv
  simp only [evE, h, bnd_ok]
  cases x <;> rfl
theorem evT_isN {c : Cfg} {ρ : Ev.Env} {st st1 : List Ob} {a : E} {x : D} {v : Bool} (h : evE c a ρ st = .ok x st1) (hv : isNon x = v) : evT c (.isN false a) ρ st = .ok v st1 := by
  simp only [evT, ev_isN h hv, bnd_ok, t_bl, ofO_some]
theorem o_eqb (st : List Ob) (a b : Bool) : opCmp .eq st (.bl a) (.bl b) = some (a == b) := rfl
theorem same_ok : ∀ (k : Nat) {d : D}, sameB d = true → D.depth d ≤ k → ∀ {n : Nat}, k + 1 ≤ n → callF P n i__law_same [d, d] [] = .ok (.bl true) [] := by
  intro k
  induction k with
  | zero =>
    intro d hd hk n hn
    obtain ⟨n, rfl⟩ := Nat.exists_eq_add_of_le' hn
    rw [lev at__law_same]
    refine runB_of rfl ?_
    show Run _ _ [some d, some d, none] _ _
    cases d with
    | non => exact run_seq (run_if (evT_isN (x := .non) (ev_var rfl) rfl) (run_ret (d := .bl true) (st1 := []) (ev_isN (x := .non) (ev_var rfl) rfl) rfl))
    | bl b =>
      refine run_seq (run_else (evT_isN (x := .bl b) (ev_var rfl) rfl) (run_skip ?_))
      refine run_seq (run_if (st1 := []) (evT_isi (v := true) (st1 := []) (ev_var rfl) (by rw [i_bl]; rfl)) (run_ret (d := .bl true) (st1 := []) ?_ rfl))
      exact evE_andT (x := .bl true) (st1 := []) (ev_isi (ev_var rfl) (by rw [i_bl]; rfl)) rfl (ev_cmp (x := .bl b) (y := .bl b) (st1 := []) (ev_var rfl) (ev_var rfl) (by rw [o_eqb]; simp))
    | int i =>
      refine run_seq (run_else (evT_isN (x := .int i) (ev_var rfl) rfl) (run_skip ?_))
      refine run_seq (run_else (st1 := []) (evT_isi (v := false) (st1 := []) (ev_var rfl) (by rw [i_int]; rfl)) (run_skip ?_))
      refine run_seq (run_if (st1 := []) (evT_isi (v := true) (st1 := []) (ev_var rfl) (by rw [i_int]; rfl)) (run_ret (d := .bl true) (st1 := []) ?_ rfl))
      refine evE_andT (x := .bl true) (st1 := []) (ev_isi (ev_var rfl) (by rw [i_int]; rfl)) rfl ?_
      refine evE_andT (x := .bl true) (st1 := []) (evE_not (x := .bl false) (v := false) (ev_isi (ev_var rfl) (by rw [i_int]; rfl)) rfl) rfl ?_
      exact ev_cmp (x := .int i) (y := .int i) (st1 := []) (ev_var rfl) (ev_var rfl) (by rw [o_eq]; simp)
    | tup l => simp [D.depth] at hk
    | lst l => simp [D.depth] at hk
    | str _ => simp [sameB] at hd
    | dct _ _ _ => simp [sameB] at hd
    | set _ => simp [sameB] at hd
    | obj _ _ _ => simp [sameB] at hd
    | ref _ => simp [sameB] at hd
  | succ k ih =>
    intro d hd hk n hn
    obtain ⟨n, rfl⟩ := Nat.exists_eq_add_of_le' (Nat.le_trans (by omega : 1 ≤ k + 1 + 1) hn)
    have seqs : ∀ (l : List D) (X : D), (X = .tup l ∨ X = .lst l) → l.length ≤ 100000 → sameBs l = true → D.depths l ≤ k → callF P (n + 1) i__law_same [X, X] [] = .ok (.bl true) [] := by
      intro l X hX hl hs hdep
      have hXp : X.pure = true := by rcases hX with rfl | rfl <;> exact sameBs_pure hs
      rw [lev at__law_same]
      refine runB_of rfl ?_
      show Run _ _ [some X, some X, none] _ _
      have hv0 : evE (P.cfg (callF P n) (callN P n)) (.var 0) [some X, some X, none] [] = .ok X [] := ev_var rfl
      have hv1 : evE (P.cfg (callF P n) (callN P n)) (.var 1) [some X, some X, none] [] = .ok X [] := ev_var rfl
      have i1 : isTy .bool [] X = some false := by rcases hX with rfl | rfl <;> rfl
      have i2 : isTy .int [] X = some false := by rcases hX with rfl | rfl <;> rfl
      have i3 : isTy .str [] X = some false := by rcases hX with rfl | rfl <;> rfl
      have hlen : opBlt .len [] [X] = some (.int l.length) := by rcases hX with rfl | rfl <;> rfl
      have hn0 : evT (P.cfg (callF P n) (callN P n)) (.isN false (.var 1)) [some X, some X, none] [] = .ok false [] := by
        exact evT_isN hv1 (by rcases hX with rfl | rfl <;> rfl)
      refine run_seq (run_else hn0 (run_skip ?_))
      refine run_seq (run_else (evT_isi hv1 i1) (run_skip ?_))
      refine run_seq (run_else (evT_isi hv1 i2) (run_skip ?_))
      refine run_seq (run_else (evT_isi hv1 i3) (run_skip ?_))
      refine run_seq (run_else (st1 := []) ?_ (run_skip ?_))
      · rcases hX with rfl | rfl
        · exact evT_orF (evT_andF (evT_isi hv1 rfl)) (evT_andT (evT_isi (v := true) hv1 rfl) (evT_not (v := true) (evT_isi hv0 rfl)))
        · exact evT_orF (evT_andT (evT_isi (v := true) hv1 rfl) (evT_not (v := true) (evT_isi hv0 rfl))) (evT_andF (evT_isi hv1 rfl))
      refine run_ret (d := .bl true) (st1 := []) ?_ rfl
      refine evE_andT (x := .bl true) (st1 := []) (ev_cmp (x := .int l.length) (y := .int l.length) (st1 := []) (ev_blt (es1 hv0) hlen) (ev_blt (es1 hv1) hlen) (by rw [o_eq]; simp)) rfl ?_
      refine ev_cmp (x := .lst []) (y := .lst []) (st1 := []) ?_ (ev_lst (l := []) (by simp only [evEs]) (by decide)) rfl
      have := q_lc (c := P.cfg (callF P n) (callN P n)) (own := [2]) (tg := .var 2) (it := .rng1 (.blt .len (.cons (.var 1) .nil))) (cnd := .notE (.call 32 false (.cons (.ix (.var 0) (.var 2)) (.cons (.ix (.var 1) (.var 2)) .nil)))) (el := .cint 1) (xs := List.range l.length) (enc := natD) (p := fun _ => false) (f := fun _ => .int 1) (ρ := [some X, some X, none]) (st := []) (st1 := []) (q_rng (ev_blt (es1 hv1) hlen) (by omega)) (by rw [List.length_range]; show _ ≤ 16777216; omega) fun j hj => ?_
      · have hf : (List.range l.length).filter (fun _ => false) = [] := by simp
        rw [this, hf]
        rfl
      · have hj := List.mem_range.mp hj
        have hat : opIx [] X (.int j) = some l[j] := by
          rcases hX with rfl | rfl
          · rw [o_ixT, List.getElem?_eq_getElem hj]
          · rw [o_ixL, List.getElem?_eq_getElem hj]
        have hm := List.getElem_mem hj
        have hb := sameBs_mem hs _ hm
        have hc : callF P n i__law_same [l[j], l[j]] [] = _ := ih hb (Nat.le_trans (depth_mem hm) hdep) (by omega)
        refine ⟨_, rfl, ?_, fun z => nomatch z⟩
        refine evT_not (v := true) (evT_call (ev_call (l := [l[j], l[j]]) (es2 (st1 := []) (ev_ix (x := X) (y := .int j) (st1 := []) (ev_var rfl) (ev_var rfl) hat) (ev_ix (x := X) (y := .int j) (st1 := []) (ev_var rfl) (ev_var rfl) hat)) (by simp [D.pures, sameB_pure hb]) hc))
    cases d with
    | non => exact ih (d := .non) rfl (Nat.zero_le _) (by omega)
    | bl b => exact ih (d := .bl b) rfl (Nat.zero_le _) (by omega)
    | int i => exact ih (d := .int i) rfl (Nat.zero_le _) (by omega)
    | tup l =>
      rw [sameB, Bool.and_eq_true, decide_eq_true_eq] at hd
      exact seqs l _ (.inl rfl) hd.1 hd.2 (by simpa [D.depth] using hk)
    | lst l =>
      rw [sameB, Bool.and_eq_true, decide_eq_true_eq] at hd
      exact seqs l _ (.inr rfl) hd.1 hd.2 (by simpa [D.depth] using hk)
    | str _ => simp [sameB] at hd
    | dct _ _ _ => simp [sameB] at hd
    | set _ => simp [sameB] at hd
    | obj _ _ _ => simp [sameB] at hd
    | ref _ => simp [sameB] at hd
theorem same_rows (l : List (List Nat)) (hr : ∀ r ∈ l, r.length ≤ 100000) : sameBs (l.map rowD) = true := by
  induction l with
  | nil => rfl
  | cons r l ih =>
    rw [List.map_cons, sameBs, ih fun x hx => hr x (List.mem_cons_of_mem _ hx)]
    have h1 := hr r (List.mem_cons_self ..)
    have h2 : ∀ l : List Nat, sameBs (l.map natD) = true := by
      intro l
      induction l with
      | nil => rfl
      | cons a l ih => rw [List.map_cons, sameBs, ih]; rfl
    unfold rowD
    rw [sameB, List.length_map, decide_eq_true h1, h2]
    rfl
theorem same_row {r : List Nat} (h : r.length ≤ 100000) : sameB (rowD r) = true := by
  have := same_rows [r] (by simpa using h)
  rw [List.map_cons, sameBs, Bool.and_eq_true] at this
  exact this.1
theorem depth_row (r : List Nat) : D.depth (rowD r) = 1 := by
  unfold rowD
  rw [D.depth, depths_nat]
theorem depth_rows (l : List (List Nat)) : D.depths (l.map rowD) ≤ 1 := by
  induction l with
  | nil => exact Nat.zero_le _
  | cons r l ih =>
    rw [List.map_cons, D.depths, depth_row]
    exact Nat.max_le.mpr ⟨Nat.le_refl _, ih⟩

/-! ### judging cuts -/
section
variable {n m b : Nat} {ps : List (Nat × Nat)}
theorem is_cut_type (hn : 1 ≤ n) {X : D} (hX : isTy .tuple [] X = some false) : callF P n i_is_cut_row [webD m ps, .int b, X] [] = .ok (.bl false) [] := by
  obtain ⟨n, rfl⟩ := Nat.exists_eq_add_of_le' hn
  rw [lev at_is_cut_row]
  refine runB_of rfl ?_
  show Run _ _ [some (webD m ps), some (.int b), some X, none] _ _
  refine run_seq (run_if (st1 := []) (evT_orT (evT_not (v := false) (evT_isi (ev_var rfl) hX))) (run_ret (d := .bl false) (st1 := []) (by simp only [evE]) rfl))
theorem is_cut_len (hn : 1 ≤ n) {l : List D} (hl : l.length ≠ m) : callF P n i_is_cut_row [webD m ps, .int b, .tup l] [] = .ok (.bl false) [] := by
  obtain ⟨n, rfl⟩ := Nat.exists_eq_add_of_le' hn
  rw [lev at_is_cut_row]
  refine runB_of rfl ?_
  show Run _ _ [some (webD m ps), some (.int b), some (.tup l), none] _ _
  refine run_seq (run_if (st1 := []) (evT_orF (st1 := []) (evT_not (v := true) (evT_isi (ev_var rfl) rfl)) (ev_tcmp (x := .int l.length) (y := .int m) (st1 := []) (ev_blt (l := [.tup l]) (st1 := []) (es1 (ev_var rfl)) (o_len_tup _)) (ev_fld (st1 := []) (ev_var rfl) (fok_many _ _ _) (fld_many _ _ _)) ?_)) (run_ret (d := .bl false) (st1 := []) (by simp only [evE]) rfl))
  rw [o_ne]
  have : ¬ (l.length : Int) = m := by omega
  rw [decide_eq_false this]
  rfl
/-- the entries' test -/
theorem cut_head {α : Type} {xs : List α} {enc : α → D} {g : α → Bool} (hl : xs.length = m) (hm : m ≤ 1000) (hg : ∀ x ∈ xs, evE (P.cfg (callF P n) (callN P n)) (.andE (.isi (.var 3) .int) (.andE (.notE (.isi (.var 3) .bool)) (.cmp .isin (.var 3) (.tup (.cons (.cint 0) (.cons (.cint 1) .nil)))))) [some (webD m ps), some (.int b), some (.tup (xs.map enc)), some (enc x)] [] = .ok (.bl (g x)) []) {Q : Fl → Ev.Env → List Ob → Prop} (h1 : xs.all g = false → Q (.ret (.bl false)) [some (webD m ps), some (.int b), some (.tup (xs.map enc)), none] [])
    (h2 : xs.all g = true → Run (P.cfg (callF P n) (callN P n)) (.ret (.cmp .ge (.bin .sub (.meth (.var 0) 0 3 .nil) (.call 20 false (.cons (.var 0) (.cons (.var 2) .nil)))) (.var 1))) [some (webD m ps), some (.int b), some (.tup (xs.map enc)), none] [] Q) : Run (P.cfg (callF P n) (callN P n)) b_is_cut_row [some (webD m ps), some (.int b), some (.tup (xs.map enc)), none] [] Q := by
  unfold b_is_cut_row
  refine run_seq (run_else (st1 := []) (evT_orF (st1 := []) (evT_not (v := true) (evT_isi (ev_var rfl) rfl)) (ev_tcmp (x := .int m) (y := .int m) (st1 := []) (ev_blt (l := [.tup (xs.map enc)]) (st1 := []) (es1 (ev_var rfl)) (by rw [o_len_tup, List.length_map, hl])) (ev_fld (st1 := []) (ev_var rfl) (fok_many _ _ _) (fld_many _ _ _)) (by rw [o_ne]; simp))) (run_skip ?_))
  have hc : evT (P.cfg (callF P n) (callN P n)) (.notE (.blt .all (.cons (.lc [3] (.var 3) (.over (.var 2)) .yes (.andE (.isi (.var 3) .int) (.andE (.notE (.isi (.var 3) .bool)) (.cmp .isin (.var 3) (.tup (.cons (.cint 0) (.cons (.cint 1) .nil))))))) .nil))) [some (webD m ps), some (.int b), some (.tup (xs.map enc)), none] [] = .ok (!xs.all g) [] := by
    refine evT_not (evT_blt (l := [.lst (xs.map fun x => .bl (g x))]) (es1 (q_lc1 (xs := xs) (enc := enc) (q_tup (ev_var rfl)) (by show _ ≤ 16777216; omega) fun x hx => ⟨_, rfl, hg x hx⟩)) (o_all _ _ _))
  refine run_seq (run_ite hc (fun hv => run_ret (d := .bl false) (st1 := []) (by simp only [evE]) (h1 (by simpa using hv))) fun hv => run_skip (h2 (by simpa using hv)))
theorem cut_one {c : Cfg} {X Y Z : Option D} {k : Nat} (hk : k < 2) : evE c (.andE (.isi (.var 3) .int) (.andE (.notE (.isi (.var 3) .bool)) (.cmp .isin (.var 3) (.tup (.cons (.cint 0) (.cons (.cint 1) .nil)))))) [X, Y, Z, some (natD k)] [] = .ok (.bl true) [] := by
  refine evE_andT (x := .bl true) (st1 := []) (ev_isi (ev_var rfl) rfl) rfl ?_
  refine evE_andT (x := .bl true) (st1 := []) (evE_not (x := .bl false) (v := false) (ev_isi (ev_var rfl) rfl) rfl) rfl ?_
  refine ev_cmp (x := natD k) (y := .tup [.int 0, .int 1]) (st1 := []) (ev_var rfl) (ev_tup (es2 (st1 := []) (by simp only [evE]) (by simp only [evE])) (by show 2 ≤ 16777216; omega)) ?_
  have : k = 0 ∨ k = 1 := by omega
  rcases this with rfl | rfl <;> rfl
theorem is_cut_row_ok (hn : 2 ≤ n) {r : List Nat} (hl : ps.length ≤ 1000) (hm : m ≤ 1000) (hp : ∀ p ∈ ps, p.1 < m ∧ p.2 < m) (hr : r.length = m) (hb : ∀ o ∈ r, o < 2) :
    callF P n i_is_cut_row [webD m ps, .int b, rowD r] [] = .ok (.bl (decide (b ≤ ps.length - likeN ps r))) [] := by
  obtain ⟨n, rfl⟩ := Nat.exists_eq_add_of_le' hn
  rw [lev at_is_cut_row]
  refine runB_of rfl ?_
  show Run _ _ [some (webD m ps), some (.int b), some (.tup (r.map natD)), none] _ _
  have hlk : callF P (n + 1) i_like_pairs [webD m ps, rowD r] [] = _ := like_pairs_ok (by omega) hl hp hr
  have hle := likeN_le ps r
  refine cut_head (xs := r) (enc := natD) (g := fun _ => true) hr hm (fun x hx => cut_one (hb x hx)) (fun z => ?_) fun _ => ?_
  · have : (r.all fun _ => true) = true := by simp
    rw [this] at z
    cases z
  · refine run_ret (d := .bl (decide (b ≤ ps.length - likeN ps r))) (st1 := []) ?_ rfl
    refine ev_cmp (x := .int (ps.length - likeN ps r : Nat)) (y := .int b) (st1 := []) (ev_bin (x := .int ps.length) (y := .int (likeN ps r)) (st1 := []) (ev_size (by omega) (ev_var rfl)) (ev_call (l := [webD m ps, rowD r]) (es2 (st1 := []) (ev_var rfl) (ev_var rfl)) (by simp [D.pures, web_pure, rowD_pure]) hlk) (by rw [o_sub, sub_cast hle])) (ev_var rfl) ?_
    rw [o_ge]
    congr 1
    rw [← decide_not, decide_eq_decide]
    omega
theorem is_cut_two (hn : 2 ≤ n) (hm : m ≤ 1000) (h0 : 0 < m) {x : D} (hx : x = .int 2 ∨ x = .bl true) :
    callF P n i_is_cut_row [webD m ps, .int b, .tup (List.replicate m x)] [] = .ok (.bl false) [] := by
  obtain ⟨n, rfl⟩ := Nat.exists_eq_add_of_le' hn
  have e : List.replicate m x = (List.range m).map fun _ => x := by rw [List.map_const', List.length_range]
  rw [lev at_is_cut_row, e]
  refine runB_of rfl ?_
  show Run _ _ [some (webD m ps), some (.int b), some (.tup ((List.range m).map fun _ => x)), none] _ _
  refine cut_head (xs := List.range m) (enc := fun _ => x) (g := fun _ => false) List.length_range hm (fun k _ => ?_) (fun _ => rfl) fun z => ?_
  · rcases hx with rfl | rfl
    · refine evE_andT (x := .bl true) (st1 := []) (ev_isi (ev_var rfl) rfl) rfl ?_
      refine evE_andT (x := .bl true) (st1 := []) (evE_not (x := .bl false) (v := false) (ev_isi (ev_var rfl) rfl) rfl) rfl ?_
      exact ev_cmp (x := .int 2) (y := .tup [.int 0, .int 1]) (st1 := []) (ev_var rfl) (ev_tup (es2 (st1 := []) (by simp only [evE]) (by simp only [evE])) (by show 2 ≤ 16777216; omega)) rfl
    · refine evE_andT (x := .bl true) (st1 := []) (ev_isi (ev_var rfl) rfl) rfl ?_
      exact evE_andF (x := .bl false) (st1 := []) (evE_not (x := .bl true) (v := true) (ev_isi (ev_var rfl) rfl) rfl) rfl
  · exfalso
    rw [List.all_eq_true] at z
    exact nomatch z 0 (List.mem_range.mpr h0)
end

/-! ### the law, statement by statement -/
def sndS : S → S
  | .seq _ b => b
  | s => s
def tl : Nat → S
  | 0 => b_law
  | k + 1 => sndS (tl k)
abbrev cL : Cfg := P.cfg (callF P 19) (callN P 19)
def env (l : List D) : Ev.Env := l.map some ++ List.replicate (36 - l.length) none
def prsD (ps : List (Nat × Nat)) : D := .tup (ps.map pr)
def rowsD (q m : Nat) : D := .lst ((rowsL q m).map rowD)
def likesD (ps : List (Nat × Nat)) (q m : Nat) : D := .lst (((rowsL q m).map (likeN ps)).map natD)
section
variable {Q : Fl → Ev.Env → List Ob → Prop} {ns : List Int} {t t' : Ob} {m q : Nat} {ps : List (Nat × Nat)} {X0 : D} {a b v : Int}
theorem k0 (h : Run cL (tl 1) (env [.lst (ns.map .int), .ref 0]) [tapeO ns 0 0 68] Q) : Run cL (tl 0) (env [.lst (ns.map .int)]) [] Q := by
  refine run_seq (run_set (d := .ref 0) (st1 := [tapeO ns 0 0 68]) ?_ (Nat.le_of_ble_eq_true rfl) h)
  have e1 : evE cL (.blt .list (.cons (.var 0) .nil)) (env [.lst (ns.map .int)]) [] = .ok (.lst (ns.map .int)) [] := ev_blt (l := [.lst (ns.map .int)]) (st1 := []) (es1 (ev_var rfl)) (o_list_lst _)
  have e2 : evEs cL (.cons (.blt .list (.cons (.var 0) .nil)) (.cons (.cint 0) (.cons (.cint 0) (.cons (.cint 68) .nil)))) (env [.lst (ns.map .int)]) [] = .ok [.lst (ns.map .int), .int 0, .int 0, .int 68] [] := es4 (st1 := []) (st2 := []) (st3 := []) e1 (by simp only [evE]) (by simp only [evE]) (by simp only [evE])
  have e3 : evN cL (.lst (.cons (.blt .list (.cons (.var 0) .nil)) (.cons (.cint 0) (.cons (.cint 0) (.cons (.cint 68) .nil))))) (env [.lst (ns.map .int)]) [] = .ok (tapeO ns 0 0 68) [] := by
    have : evN cL (.lst (.cons (.blt .list (.cons (.var 0) .nil)) (.cons (.cint 0) (.cons (.cint 0) (.cons (.cint 68) .nil))))) (env [.lst (ns.map .int)]) [] = bnd (evEs cL (.cons (.blt .list (.cons (.var 0) .nil)) (.cons (.cint 0) (.cons (.cint 0) (.cons (.cint 68) .nil)))) (env [.lst (ns.map .int)]) []) fun l st1 => chk (decide (l.length ≤ szL)) (.ok (.lst l) st1) := by simp only [evN]
    rw [this, e2, bnd_ok]
    rfl
  have e4 : evE cL (.mk (.lst (.cons (.blt .list (.cons (.var 0) .nil)) (.cons (.cint 0) (.cons (.cint 0) (.cons (.cint 68) .nil)))))) (env [.lst (ns.map .int)]) [] = bnd (evN cL (.lst (.cons (.blt .list (.cons (.var 0) .nil)) (.cons (.cint 0) (.cons (.cint 0) (.cons (.cint 68) .nil))))) (env [.lst (ns.map .int)]) []) fun o st1 => .ok (.ref st1.length) (st1 ++ [o]) := by simp only [evE]
  refine e4.trans ?_
  rw [e3]
  rfl
theorem k1 (hw : evE cL (.call 33 true (.cons (.var 1) (.cons (.cint 4) (.cons (.cint 5) .nil)))) (env [X0, .ref 0]) [t] = .ok (.tup [.int m, prsD ps]) [t']) (h : Run cL (tl 2) (env [X0, .ref 0, .int m, prsD ps]) [t'] Q) : Run cL (tl 1) (env [X0, .ref 0]) [t] Q := by
  exact run_seq (run_asg (d := .tup [.int m, prsD ps]) (st1 := [t']) (st2 := [t']) hw rfl h)
theorem k2 (hl : ps.length ≤ 8) (hp : ∀ p ∈ ps, p.1 < m ∧ p.2 < m) {w : Nat} (hw : evE cL (.call 31 true (.cons (.var 1) (.cons (.cint 3) .nil))) (env [X0, .ref 0, .int m, prsD ps]) [t] = .ok (.int w) [t']) (h : Run cL (tl 3) (env [X0, .ref 0, .int m, prsD ps, webD m ps, .int (1 + w : Nat), .int ps.length]) [t'] Q) : Run cL (tl 2) (env [X0, .ref 0, .int m, prsD ps]) [t] Q := by
  have h4 : newF P (callF P 19) 0 [.int m, .tup (ps.map pr)] = _ := new_web (n := 19) (by omega) (by omega) hp (.inl rfl)
  refine run_seq (run_asg (d := .tup [webD m ps, .int (1 + w : Nat), .int ps.length]) (st1 := [t']) (st2 := [t']) (ev_tup (es3 (st1 := [t]) (st2 := [t']) ?_ ?_ ?_) (by show 3 ≤ 16777216; omega)) rfl h)
  · exact ev_make (l := [.int m, .tup (ps.map pr)]) (st1 := [t]) (es2 (st1 := [t]) (ev_var rfl) (ev_var rfl)) (by simp [D.pures, D.pure, prs_pure]) h4
  · exact ev_bin (x := .int 1) (y := .int w) (st1 := [t]) (by simp only [evE]) hw (o_add _ _)
  · exact ev_blt (l := [.tup (ps.map pr)]) (st1 := [t']) (es1 (ev_var rfl)) (by rw [o_len_tup, List.length_map])
abbrev V7 (X0 : D) (m q : Nat) (ps : List (Nat × Nat)) : List D := [X0, .ref 0, .int m, prsD ps, webD m ps, .int q, .int ps.length]
theorem k3 {t1 t2 t3 : Ob} {w1 w2 w3 : Nat} (h1 : evE cL (.call 31 true (.cons (.var 1) (.cons (.cint 9) .nil))) (env (V7 X0 m q ps)) [t] = .ok (.int w1) [t1]) (h2 : evE cL (.call 31 true (.cons (.var 1) (.cons (.cint 9) .nil))) (env (V7 X0 m q ps)) [t1] = .ok (.int w2) [t2]) (h3 : evE cL (.call 31 true (.cons (.var 1) (.cons (.cint 9) .nil))) (env (V7 X0 m q ps)) [t2] = .ok (.int w3) [t3])
    (h : Run cL (tl 4) (env (V7 X0 m q ps ++ [.int (w1 - 4), .int (w2 - 4), .int (w3 - 4)])) [t3] Q) : Run cL (tl 3) (env (V7 X0 m q ps)) [t] Q := by
  refine run_seq (run_asg (d := .tup [.int (w1 - 4), .int (w2 - 4), .int (w3 - 4)]) (st1 := [t3]) (st2 := [t3]) (ev_tup (es3 (st1 := [t1]) (st2 := [t2]) (ev_bin (x := .int w1) (y := .int 4) (st1 := [t1]) h1 (by simp only [evE]) (o_sub _ _)) (ev_bin (x := .int w2) (y := .int 4) (st1 := [t2]) h2 (by simp only [evE]) (o_sub _ _)) (ev_bin (x := .int w3) (y := .int 4) (st1 := [t3]) h3 (by simp only [evE]) (o_sub _ _))) (by show 3 ≤ 16777216; omega)) rfl h)
abbrev V10 (X0 : D) (m q : Nat) (ps : List (Nat × Nat)) (a b v : Int) : List D := V7 X0 m q ps ++ [.int a, .int b, .int v]
theorem k4 (hm : m ≤ 8) (hq : q ≤ 4) (h : Run cL (tl 5) (env (V10 X0 m q ps a b v ++ [rowsD q m])) [t] Q) : Run cL (tl 4) (env (V10 X0 m q ps a b v)) [t] Q := by
  have h1 : callF P 19 i__law_rows [.int m, .int q] [] = _ := law_rows_ok (by omega) hm hq
  exact run_seq (run_set (d := rowsD q m) (st1 := [t]) (ev_call (l := [.int m, .int q]) (es2 (st1 := [t]) (ev_var rfl) (ev_var rfl)) rfl h1) (Nat.le_of_ble_eq_true rfl) h)
theorem rows_big (hm : m ≤ 8) (hq : q ≤ 4) : (rowsL q m).length ≤ 65536 := by
  rw [rowsL_len]
  exact Nat.le_trans (Nat.pow_le_pow_left hq _) (Nat.le_trans (Nat.pow_le_pow_right (by decide) hm) (by decide))
theorem q_like {c : Cfg} {ρ : Ev.Env} {st : List Ob} {r : List Nat} {i : Nat} (hl : ps.length ≤ 8) (hp : ∀ p ∈ ps, p.1 < m ∧ p.2 < m) (hr : r.length = m) (hlen : ρ.length = 36) (h3 : ρ[3]? = some (some (prsD ps))) (hi : ρ[i]? = some (some (rowD r))) (i1 : i ≠ 31) (i2 : i ≠ 32) :
    evE c (.blt .len (.cons (.lc [31, 32] (.tup (.cons (.var 31) (.cons (.var 32) .nil))) (.over (.var 3)) (.cmp .eq (.ix (.var i) (.var 31)) (.ix (.var i) (.var 32))) (.cint 1)) .nil)) ρ st = .ok (.int (likeN ps r)) st := by
  refine ev_blt (l := [.lst ((ps.filter (likeB r)).map fun _ => .int 1)]) (st1 := st) (es1 ?_) ?_
  · refine q_lc (xs := ps) (enc := pr) (p := likeB r) (f := fun _ => .int 1) (q_tup (ev_var h3)) (by show _ ≤ 16777216; omega) fun x hx => ⟨((ρ.set 32 none).set 31 (some (.int x.1))).set 32 (some (.int x.2)), ?_, ?_, fun _ => by simp only [evE]⟩
    · simp [tgs, tgs.tgss, pr, wipeE, hlen]
    have hx' := hp x hx
    have e1 := getD_at (l := r) (k := x.1) (by omega)
    have e2 := getD_at (l := r) (k := x.2) (by omega)
    have g : (((ρ.set 32 none).set 31 (some (D.int x.1))).set 32 (some (D.int x.2)))[i]? = some (some (rowD r)) := by
      rw [List.getElem?_set_ne (by omega), List.getElem?_set_ne (by omega), List.getElem?_set_ne (by omega), hi]
    have g1 : (((ρ.set 32 none).set 31 (some (D.int x.1))).set 32 (some (D.int x.2)))[31]? = some (some (.int x.1)) := by
      rw [List.getElem?_set_ne (by omega), List.getElem?_set_self (by simp [hlen])]
    have g2 : (((ρ.set 32 none).set 31 (some (D.int x.1))).set 32 (some (D.int x.2)))[32]? = some (some (.int x.2)) := by
      rw [List.getElem?_set_self (by simp [hlen])]
    refine ev_tcmp (x := natD (r.getD x.1 0)) (y := natD (r.getD x.2 0)) (st1 := st) (ev_ix (x := rowD r) (y := .int x.1) (st1 := st) (ev_var g) (ev_var g1) ((o_ixT _ _).trans e1)) (ev_ix (x := rowD r) (y := .int x.2) (st1 := st) (ev_var g) (ev_var g2) ((o_ixT _ _).trans e2)) ?_
    show some (decide _) = some (likeB r x)
    unfold likeB
    congr 1
    rw [decide_eq_decide]
    omega
  · rw [o_len_lst, List.length_map]
    rfl
theorem env_len {l : List D} (h : l.length ≤ 36) : (env l).length = 36 := by
  unfold env
  rw [List.length_append, List.length_map, List.length_replicate]
  omega
theorem k5 (hm : m ≤ 8) (hq : q ≤ 4) (hl : ps.length ≤ 8) (hp : ∀ p ∈ ps, p.1 < m ∧ p.2 < m) (h : Run cL (tl 6) (env (V10 X0 m q ps a b v ++ [rowsD q m, likesD ps q m])) [t] Q) : Run cL (tl 5) (env (V10 X0 m q ps a b v ++ [rowsD q m])) [t] Q := by
  refine run_seq (run_set (d := likesD ps q m) (st1 := [t]) ?_ (Nat.le_of_ble_eq_true rfl) h)
  unfold likesD
  rw [List.map_map]
  have := rows_big hm hq
  refine q_lc1 (xs := rowsL q m) (enc := rowD) (q_lst (ev_var rfl)) (by show _ ≤ 16777216; omega) fun r hr => ⟨_, rfl, ?_⟩
  exact q_like hl hp (rowsL_row q m r hr) rfl rfl rfl (by decide) (by decide)
theorem k6 {at_ : Nat} (hw : evE cL (.call 31 true (.cons (.var 1) (.cons (.blt .len (.cons (.var 10) .nil)) .nil))) (env (V10 X0 m q ps a b v ++ [rowsD q m, likesD ps q m])) [t] = .ok (.int at_) [t']) (h : Run cL (tl 7) (env (V10 X0 m q ps a b v ++ [rowsD q m, likesD ps q m, .int at_])) [t'] Q) : Run cL (tl 6) (env (V10 X0 m q ps a b v ++ [rowsD q m, likesD ps q m])) [t] Q :=
  run_seq (run_set (d := .int at_) (st1 := [t']) hw (Nat.le_of_ble_eq_true rfl) h)
theorem cmpbs_natL (l : List Nat) : D.cmpbs (l.map natD) = true := cmpbs_nat l
theorem o_count {st : List Ob} (l : List Nat) (k : Nat) : opBm .count st (.lst (l.map natD)) [natD k] = .ok (.int (l.countP fun x => decide (x = k))) st := by
  have e1 : (lstOf st (.lst (l.map natD))).bind (frzs st 0) = some (l.map natD) := by
    show frzs st 0 (l.map natD) = _
    rw [frzs_plain (natDs_pure _)]
  have e2 : frz st 0 (natD k) = some (natD k) := frz_plain rfl
  have e3 : countD (natD k) (l.map natD) = l.countP fun x => decide (x = k) := by
    unfold countD
    rw [List.countP_map]
    refine List.countP_congr fun x _ => ?_
    show D.peq (natD x) (natD k) = true ↔ decide (x = k) = true
    simp [natD, D.peq]
    omega
  show (match (lstOf st (.lst (l.map natD))).bind (frzs st 0), frz st 0 (natD k) with
    | some l, some a => if (a.cmpb && D.cmpbs l && (decide (a.depth ≤ 60) && decide (D.depths l ≤ 60))) = true then R.ok (D.int (countD a l)) st else .bad
    | _, _ => .bad) = _
  rw [e1, e2]
  show (if ((natD k).cmpb && D.cmpbs (l.map natD) && (decide ((natD k).depth ≤ 60) && decide (D.depths (l.map natD) ≤ 60))) = true then R.ok (D.int (countD (natD k) (l.map natD))) st else .bad) = _
  rw [if_pos (by rw [cmpbs_nat, depths_nat]; rfl), e3]
theorem k7 {at_ : Nat} (hl : ps.length ≤ 8) (h : Run cL (tl 8) (env (V10 X0 m q ps a b v ++ [rowsD q m, likesD ps q m, .int at_, .tup ((cntsL ps (rowsL q m)).map natD)])) [t] Q) : Run cL (tl 7) (env (V10 X0 m q ps a b v ++ [rowsD q m, likesD ps q m, .int at_])) [t] Q := by
  refine run_seq (run_set (d := .tup ((cntsL ps (rowsL q m)).map natD)) (st1 := [t]) (ev_blt (l := [.lst ((cntsL ps (rowsL q m)).map natD)]) (st1 := [t]) (es1 ?_) (o_tuple_lst _)) (Nat.le_of_ble_eq_true rfl) h)
  unfold cntsL
  rw [List.map_map]
  refine q_lc1 (xs := List.range (ps.length + 1)) (enc := natD) (q_rng (n := ps.length + 1) (ev_bin (x := .int ps.length) (y := .int 1) (st1 := [t]) (ev_var rfl) (by simp only [evE]) (o_add _ _)) (by omega)) (by rw [List.length_range]; show _ ≤ 16777216; omega) fun k hk => ⟨_, rfl, ?_⟩
  refine ev_bm (x := likesD ps q m) (l := [natD k]) (st1 := [t]) (st2 := [t]) (ev_var rfl) rfl (es1 (ev_var rfl)) ?_
  unfold likesD
  rw [o_count, List.countP_map]
  rfl
end

theorem sameB_nats : ∀ l : List Nat, sameBs (l.map natD) = true
  | [] => rfl
  | a :: l => by rw [List.map_cons, sameBs, sameB_nats l]; rfl
theorem same_call {e1 e2 : E} {ρ : Ev.Env} {st : List Ob} {X : D} (h1 : evE cL e1 ρ st = .ok X st) (h2 : evE cL e2 ρ st = .ok X st) (hs : sameB X = true) (hd : D.depth X ≤ 18) : evT cL (.notE (.call 32 false (.cons e1 (.cons e2 .nil)))) ρ st = .ok false st := by
  have h : callF P 19 i__law_same [X, X] [] = _ := same_ok 18 hs hd (by omega)
  exact evT_not (v := true) (evT_call (ev_call (l := [X, X]) (es2 (st1 := st) h1 h2) (by simp [D.pures, sameB_pure hs]) h))
section
variable {Q : Fl → Ev.Env → List Ob → Prop} {ns : List Int} {t t' : Ob} {m q : Nat} {ps : List (Nat × Nat)} {X0 : D} {a b v : Int} {at_ : Nat}
theorem sameB_rowsD (hm : m ≤ 8) (hq : q ≤ 4) : sameB (rowsD q m) = true := by
  have h1 := rows_big hm hq
  have h2 : sameBs ((rowsL q m).map rowD) = true := same_rows _ fun r hr => by rw [rowsL_row q m r hr]; omega
  unfold rowsD
  rw [sameB, h2, List.length_map, Bool.and_true, decide_eq_true_eq]
  omega
theorem depth_rowsD : D.depth (rowsD q m) ≤ 2 := by
  unfold rowsD
  rw [D.depth]
  have := depth_rows (rowsL q m)
  omega
theorem sameB_tupN {l : List Nat} (h : l.length ≤ 100000) : sameB (.tup (l.map natD)) = true := by
  rw [sameB, sameB_nats, List.length_map, decide_eq_true h]
  rfl
abbrev V14 (X0 : D) (m q : Nat) (ps : List (Nat × Nat)) (a b v : Int) (at_ : Nat) : List D := V10 X0 m q ps a b v ++ [rowsD q m, likesD ps q m, .int at_, .tup ((cntsL ps (rowsL q m)).map natD)]
theorem k8 (hm : m ≤ 8) (hq : q ≤ 4) (hl : ps.length ≤ 8) (hp : ∀ p ∈ ps, p.1 < m ∧ p.2 < m) (hat : at_ < (rowsL q m).length) (h : Run cL (tl 9) (env (V14 X0 m q ps a b v at_)) [t] Q) : Run cL (tl 8) (env (V14 X0 m q ps a b v at_)) [t] Q := by
  have hr : (rowsL q m)[at_]? = some (rowsL q m)[at_] := List.getElem?_eq_getElem hat
  have hrow := rowsL_row q m _ (List.getElem_mem hat)
  generalize (rowsL q m)[at_] = r at hr hrow
  have h1 : callF P 19 i_all_rows [.int m, .int q] [] = _ := all_rows_ok (by omega) hm hq
  have h2 : callF P 19 i_like_pairs [webD m ps, rowD r] [] = _ := like_pairs_ok (by omega) (by omega) hp hrow
  have h3 : callF P 19 i_like_counts [webD m ps, .int q] [] = _ := like_counts_ok (by omega) hm hq (by omega) hp
  have g1 : opIx [t] (rowsD q m) (.int at_) = some (rowD r) := by
    unfold rowsD
    rw [o_ixL, List.getElem?_map, hr]
    rfl
  have g2 : opIx [t] (likesD ps q m) (.int at_) = some (.int (likeN ps r)) := by
    unfold likesD
    rw [o_ixL, List.getElem?_map, List.getElem?_map, hr]
    rfl
  have hcl : (cntsL ps (rowsL q m)).length ≤ 100000 := by simp [cntsL]; omega
  refine run_seq (run_else (st1 := [t]) (same_call (X := .lst [rowsD q m, .int (likeN ps r), .tup ((cntsL ps (rowsL q m)).map natD)]) (ev_lst (es3 (st1 := [t]) (st2 := [t]) ?_ ?_ ?_) (by show 3 ≤ 16777216; omega)) (ev_lst (es3 (st1 := [t]) (st2 := [t]) (ev_var rfl) (ev_ix (x := likesD ps q m) (y := .int at_) (st1 := [t]) (ev_var rfl) (ev_var rfl) g2) (ev_var rfl)) (by show 3 ≤ 16777216; omega)) ?_ ?_) (run_skip h))
  · exact ev_call (l := [.int m, .int q]) (es2 (st1 := [t]) (ev_var rfl) (ev_var rfl)) rfl h1
  · exact ev_call (l := [webD m ps, rowD r]) (es2 (st1 := [t]) (ev_var rfl) (ev_ix (x := rowsD q m) (y := .int at_) (st1 := [t]) (ev_var rfl) (ev_var rfl) g1)) (by simp [D.pures, web_pure, rowD_pure]) h2
  · exact ev_call (l := [webD m ps, .int q]) (es2 (st1 := [t]) (ev_var rfl) (ev_var rfl)) (by simp [D.pures, web_pure, D.pure]) h3
  · rw [sameB, sameBs, sameBs, sameBs, sameB_rowsD hm hq, sameB_tupN hcl]
    rfl
  · rw [D.depth, D.depths, D.depths, D.depths, D.depth, depths_nat]
    have := depth_rowsD (q := q) (m := m)
    show max (D.depth (rowsD q m)) _ + 1 ≤ 18
    have e : max (D.int (likeN ps r)).depth (max (0 + 1) (D.depths [])) = 1 := rfl
    omega
/-- sums over the like numbers -/
theorem likes_sum (f : Nat → Int) : (((rowsL q m).map (likeN ps)).map f).sum = sumR q m fun r => f (likeN ps r) := by
  rw [List.map_map]
  rfl
theorem likes_le {k : Nat} (h : k ∈ (rowsL q m).map (likeN ps)) : k ≤ ps.length := by
  rw [List.mem_map] at h
  obtain ⟨r, _, rfl⟩ := h
  exact likeN_le ps r
theorem k9 (hm : m ≤ 8) (hq : q ≤ 4) (hl : ps.length ≤ 8) (ha : a.natAbs ≤ 50) (hb : b.natAbs ≤ 50) (h : Run cL (tl 10) (env (V14 X0 m q ps a b v at_ ++ [.int (sumR q m (W ps a b))])) [t] Q) : Run cL (tl 9) (env (V14 X0 m q ps a b v at_)) [t] Q := by
  have big := rows_big hm hq
  refine run_seq (run_set (d := .int (sumR q m (W ps a b))) (st1 := [t]) ?_ (Nat.le_of_ble_eq_true rfl) h)
  have e : sumR q m (W ps a b) = (((rowsL q m).map (likeN ps)).map fun k => a ^ k * b ^ (ps.length - k)).sum := (likes_sum fun k => a ^ k * b ^ (ps.length - k)).symm
  rw [e]
  refine ev_blt (l := [.lst ((((rowsL q m).map (likeN ps)).map fun k => a ^ k * b ^ (ps.length - k)).map .int)]) (st1 := [t]) (es1 ?_) (o_sumL _)
  rw [List.map_map]
  refine q_lc1 (xs := (rowsL q m).map (likeN ps)) (enc := natD) (q_lst (ev_var rfl)) (by rw [List.length_map]; show _ ≤ 16777216; omega) fun k hk => ⟨_, rfl, ?_⟩
  have hk := likes_le hk
  have t1 : callF P 19 i__law_power [.int a, .int k] [] = _ := law_power_ok (by omega) (by omega) (by omega)
  have t2 : callF P 19 i__law_power [.int b, .int (ps.length - k : Nat)] [] = _ := law_power_ok (by omega) (by omega) (by omega)
  exact ev_bin (st1 := [t]) (ev_call (l := [.int a, .int k]) (es2 (st1 := [t]) (ev_var rfl) (ev_var rfl)) rfl t1) (ev_call (l := [.int b, .int (ps.length - k : Nat)]) (es2 (st1 := [t]) (ev_var rfl) (ev_bin (x := .int ps.length) (y := .int k) (st1 := [t]) (ev_var rfl) (ev_var rfl) (by rw [o_sub, sub_cast hk]))) rfl t2) (o_mulR (pow_small (by omega) (by omega)))
theorem k10 (hm : m ≤ 8) (hq : q ≤ 4) (hl : ps.length ≤ 8) (hv : v.natAbs ≤ 50) (h : Run cL (tl 11) (env (V14 X0 m q ps a b v at_ ++ [.int (sumR q m (W ps a b)), .int (sumR q m (W ps (1 + v) 1))])) [t] Q) : Run cL (tl 10) (env (V14 X0 m q ps a b v at_ ++ [.int (sumR q m (W ps a b))])) [t] Q := by
  have big := rows_big hm hq
  refine run_seq (run_set (d := .int (sumR q m (W ps (1 + v) 1))) (st1 := [t]) ?_ (Nat.le_of_ble_eq_true rfl) h)
  have e : sumR q m (W ps (1 + v) 1) = (((rowsL q m).map (likeN ps)).map fun k => (1 + v) ^ k).sum := by
    rw [likes_sum]
    exact sumR_cg fun r _ _ => W_one ps (1 + v) r
  rw [e]
  refine ev_blt (l := [.lst ((((rowsL q m).map (likeN ps)).map fun k => (1 + v) ^ k).map .int)]) (st1 := [t]) (es1 ?_) (o_sumL _)
  rw [List.map_map]
  refine q_lc1 (xs := (rowsL q m).map (likeN ps)) (enc := natD) (q_lst (ev_var rfl)) (by rw [List.length_map]; show _ ≤ 16777216; omega) fun k hk => ⟨_, rfl, ?_⟩
  have hk := likes_le hk
  have t1 : callF P 19 i__law_power [.int (1 + v), .int k] [] = _ := law_power_ok (by omega) (by omega) (by omega)
  exact ev_call (l := [.int (1 + v), .int k]) (es2 (st1 := [t]) (ev_bin (x := .int 1) (y := .int v) (st1 := [t]) (by simp only [evE]) (ev_var rfl) (o_add _ _)) (ev_var rfl)) rfl t1
theorem spinT_rows (a b : Int) : spinT ps (rowsL q m) a b = sumR q m (W ps a b) := by
  unfold spinT
  rw [sm_cg (g := fun k => (cntN ps (rowsL q m) k : Int) * (a ^ k * b ^ (ps.length - k))) fun k _ => by rw [Int.mul_assoc], cnt_sum]
  rfl
abbrev V16 (X0 : D) (m q : Nat) (ps : List (Nat × Nat)) (a b v : Int) (at_ : Nat) : List D := V14 X0 m q ps a b v at_ ++ [.int (sumR q m (W ps a b)), .int (sumR q m (W ps (1 + v) 1))]
abbrev toldD (m q : Nat) (ps : List (Nat × Nat)) (a b v : Int) : D := .lst [.int (sumR q m (W ps a b)), .int (sumR q m (W ps a b)), .int (sumR q m (W ps (1 + v) 1)), .int (sumR q m (W ps (1 + v) 1))]
theorem k11 (hm : m ≤ 8) (hq : q ≤ 4) (hq0 : 0 < q) (hl : ps.length ≤ 8) (hp : ∀ p ∈ ps, p.1 < m ∧ p.2 < m) (ha : a.natAbs ≤ 50) (hb : b.natAbs ≤ 50) (hv : v.natAbs ≤ 50) (h : Run cL (tl 12) (env (V16 X0 m q ps a b v at_ ++ [toldD m q ps a b v])) [t] Q) : Run cL (tl 11) (env (V16 X0 m q ps a b v at_)) [t] Q := by
  have h1 : callF P 19 i_spin_sum [webD m ps, .int q, .int a, .int b] [] = _ := spin_sum_ok (by omega) hm hq hl hp (by omega) (by omega)
  have h2 : callF P 19 i_spin_sum_by_sets [webD m ps, .int q, .int a, .int b] [] = _ := spin_sum_by_sets_ok (by omega) hm hq hl hp (by omega) (by omega)
  have h3 : callF P 19 i_potts_by_tutte [webD m ps, .int q, .int v] [] = _ := potts_ok (by omega) hm hq hq0 hl hp (by omega)
  have h4 : callF P 19 i_spin_sum [webD m ps, .int q, .int (1 + v), .int 1] [] = _ := spin_sum_ok (by omega) hm hq hl hp (by omega) (by decide)
  rw [spinT_rows] at h1 h4
  have e2 : ((setsS ps.length).map (setT m ps q a b)).sum = sumR q m (W ps a b) := by
    rw [rows_sets q a b hp]
    exact sm_perm _ (List.mergeSort_perm _ _)
  rw [e2] at h2
  refine run_seq (run_set (d := toldD m q ps a b v) (st1 := [t]) (ev_lst (es4 (st1 := [t]) (st2 := [t]) (st3 := [t]) ?_ ?_ ?_ ?_) (by show 4 ≤ 16777216; omega)) (Nat.le_of_ble_eq_true rfl) h)
  · exact ev_call (l := [webD m ps, .int q, .int a, .int b]) (es4 (st1 := [t]) (st2 := [t]) (st3 := [t]) (ev_var rfl) (ev_var rfl) (ev_var rfl) (ev_var rfl)) (by simp [D.pures, web_pure, D.pure]) h1
  · exact ev_call (l := [webD m ps, .int q, .int a, .int b]) (es4 (st1 := [t]) (st2 := [t]) (st3 := [t]) (ev_var rfl) (ev_var rfl) (ev_var rfl) (ev_var rfl)) (by simp [D.pures, web_pure, D.pure]) h2
  · exact ev_call (l := [webD m ps, .int q, .int v]) (es3 (st1 := [t]) (st2 := [t]) (ev_var rfl) (ev_var rfl) (ev_var rfl)) (by simp [D.pures, web_pure, D.pure]) h3
  · exact ev_call (l := [webD m ps, .int q, .int (1 + v), .int 1]) (es4 (st1 := [t]) (st2 := [t]) (st3 := [t]) (ev_var rfl) (ev_var rfl) (ev_bin (x := .int 1) (y := .int v) (st1 := [t]) (by simp only [evE]) (ev_var rfl) (o_add _ _)) (by simp only [evE])) (by simp [D.pures, web_pure, D.pure]) h4
theorem k12 (h : Run cL (tl 13) (env (V16 X0 m q ps a b v at_ ++ [toldD m q ps a b v])) [t] Q) : Run cL (tl 12) (env (V16 X0 m q ps a b v at_ ++ [toldD m q ps a b v])) [t] Q := by
  refine run_seq (run_else (st1 := [t]) (same_call (X := toldD m q ps a b v) (ev_var rfl) (ev_lst (es4 (st1 := [t]) (st2 := [t]) (st3 := [t]) (ev_var rfl) (ev_var rfl) (ev_var rfl) (ev_var rfl)) (by show 4 ≤ 16777216; omega)) rfl (by show 1 ≤ 18; omega)) (run_skip h))
theorem k13 (h : Run cL (tl 14) (env (V16 X0 m q ps a b v at_ ++ [toldD m q ps a b v, .lst []])) [t] Q) : Run cL (tl 13) (env (V16 X0 m q ps a b v at_ ++ [toldD m q ps a b v])) [t] Q := by
  refine run_seq (run_set (d := .lst []) (st1 := [t]) (ev_lst (l := []) (by simp only [evEs]) (by decide)) (Nat.le_of_ble_eq_true rfl) h)
/-! the even sets, as the law finds them -/
def envO (l : List (Option D)) : Ev.Env := l ++ List.replicate (36 - l.length) none
theorem o_eqnil (st : List Ob) (l : List Nat) : opCmp .eq st (.lst (l.map natD)) (.lst []) = some l.isEmpty := by
  have e1 : frz st 0 (.lst (l.map natD)) = some (.lst (l.map natD)) := frz_plain (by show D.pures _ = true; exact natDs_pure _)
  have e2 : frz st 0 (.lst []) = some (.lst []) := frz_plain rfl
  show (match frz st 0 (.lst (l.map natD)), frz st 0 (.lst []) with
    | some a, some b => if (a.cmpb && b.cmpb && (decide (a.depth ≤ 60) && decide (b.depth ≤ 60))) = true then some (D.peq a b) else none
    | _, _ => none) = _
  rw [e1, e2]
  show (if (D.cmpb (.lst (l.map natD)) && D.cmpb (.lst []) && (decide (D.depth (.lst (l.map natD)) ≤ 60) && decide (D.depth (.lst []) ≤ 60))) = true then some (D.peq (.lst (l.map natD)) (.lst [])) else none) = _
  rw [if_pos (by rw [D.cmpb, cmpbs_nat, D.depth, depths_nat]; rfl)]
  cases l <;> rfl
theorem ends_fst {s : List Nat} (hs : ∀ o ∈ s, o < ps.length) (i : Nat) : (s.filter fun k => decide ((ps.getD k (0, 0)).1 = i)).length = ((pick ps s).filter fun p => decide (p.1 = i)).length := by
  unfold pick
  rw [List.filter_map, List.length_map]
  rfl
theorem ends_snd {s : List Nat} (hs : ∀ o ∈ s, o < ps.length) (i : Nat) : (s.filter fun k => decide ((ps.getD k (0, 0)).2 = i)).length = ((pick ps s).filter fun p => decide (p.2 = i)).length := by
  unfold pick
  rw [List.filter_map, List.length_map]
  rfl
theorem q_ends {c : Cfg} {ρ : Ev.Env} {st : List Ob} {s : List Nat} {i : Nat} (hl : ps.length ≤ 8) (hs : ∀ o ∈ s, o < ps.length) (hsl : s.length ≤ 8) (hlen : ρ.length = 36) (h3 : ρ[3]? = some (some (prsD ps))) (h18 : ρ[18]? = some (some (rowD s))) (h34 : ρ[34]? = some (some (natD i))) :
    evE c (.bin .add (.blt .len (.cons (.lc [33] (.var 33) (.over (.var 18)) (.cmp .eq (.ix (.ix (.var 3) (.var 33)) (.cint 0)) (.var 34)) (.cint 1)) .nil)) (.blt .len (.cons (.lc [33] (.var 33) (.over (.var 18)) (.cmp .eq (.ix (.ix (.var 3) (.var 33)) (.cint 1)) (.var 34)) (.cint 1)) .nil))) ρ st = .ok (natD (endsN (pick ps s) i)) st := by
  have g : ∀ k (j : Nat), j ≠ 33 → (ρ.set 33 (some (natD k)))[j]? = ρ[j]? := fun k j hj => List.getElem?_set_ne (by omega)
  have g33 : ∀ k, (ρ.set 33 (some (natD k)))[33]? = some (some (natD k)) := fun k => List.getElem?_set_self (by omega)
  have hw : ∀ k, tgs (.var 33) (natD k) (wipeE ρ [33]) = some (ρ.set 33 (some (natD k))) := fun k => by
    simp [tgs, wipeE, hlen]
  have hat : ∀ k, k ∈ s → ∀ (j : Nat), j ≠ 33 → opIx st (prsD ps) (natD k) = some (pr (ps.getD k (0, 0))) := fun k hk j _ => (o_ixT _ _).trans (pick_at (hs k hk))
  have a1 : evE c (.blt .len (.cons (.lc [33] (.var 33) (.over (.var 18)) (.cmp .eq (.ix (.ix (.var 3) (.var 33)) (.cint 0)) (.var 34)) (.cint 1)) .nil)) ρ st = .ok (.int ((pick ps s).filter fun p => decide (p.1 = i)).length) st := by
    refine ev_blt (l := [.lst ((s.filter fun k => decide ((ps.getD k (0, 0)).1 = i)).map fun _ => .int 1)]) (st1 := st) (es1 (q_lc (xs := s) (enc := natD) (p := fun k => decide ((ps.getD k (0, 0)).1 = i)) (f := fun _ => .int 1) (q_tup (ev_var h18)) (by show _ ≤ 16777216; omega) fun k hk => ⟨_, hw k, ?_, fun _ => by simp only [evE]⟩)) ?_
    · refine ev_tcmp (x := .int (ps.getD k (0, 0)).1) (y := .int i) (st1 := st) (ev_ix (x := pr (ps.getD k (0, 0))) (y := .int 0) (st1 := st) (ev_ix (x := prsD ps) (y := natD k) (st1 := st) (ev_var ((g k 3 (by decide)).trans h3)) (ev_var (g33 k)) (hat k hk 3 (by decide))) (by simp only [evE]) (o_ixT0 _)) (ev_var ((g k 34 (by decide)).trans h34)) ?_
      rw [o_eq]
      congr 1
      rw [decide_eq_decide]
      omega
    · rw [o_len_lst, List.length_map, ends_fst hs]
  have a2 : evE c (.blt .len (.cons (.lc [33] (.var 33) (.over (.var 18)) (.cmp .eq (.ix (.ix (.var 3) (.var 33)) (.cint 1)) (.var 34)) (.cint 1)) .nil)) ρ st = .ok (.int ((pick ps s).filter fun p => decide (p.2 = i)).length) st := by
    refine ev_blt (l := [.lst ((s.filter fun k => decide ((ps.getD k (0, 0)).2 = i)).map fun _ => .int 1)]) (st1 := st) (es1 (q_lc (xs := s) (enc := natD) (p := fun k => decide ((ps.getD k (0, 0)).2 = i)) (f := fun _ => .int 1) (q_tup (ev_var h18)) (by show _ ≤ 16777216; omega) fun k hk => ⟨_, hw k, ?_, fun _ => by simp only [evE]⟩)) ?_
    · refine ev_tcmp (x := .int (ps.getD k (0, 0)).2) (y := .int i) (st1 := st) (ev_ix (x := pr (ps.getD k (0, 0))) (y := .int 1) (st1 := st) (ev_ix (x := prsD ps) (y := natD k) (st1 := st) (ev_var ((g k 3 (by decide)).trans h3)) (ev_var (g33 k)) (hat k hk 3 (by decide))) (by simp only [evE]) (o_ixT1 _)) (ev_var ((g k 34 (by decide)).trans h34)) ?_
      rw [o_eq]
      congr 1
      rw [decide_eq_decide]
      omega
    · rw [o_len_lst, List.length_map, ends_snd hs]
  exact ev_bin a1 a2 (o_add _ _)
theorem wipe1 {ρ : Ev.Env} {j : Nat} (hj : j < 36) (hlen : ρ.length = 36) (d : D) : tgs (.var j) d (wipeE ρ [j]) = some (ρ.set j (some d)) := by
  simp [tgs, wipeE, hlen, hj]
theorem q_endsAll {c : Cfg} {ρ : Ev.Env} {st : List Ob} {s : List Nat} (hm : m ≤ 8) (hl : ps.length ≤ 8) (hs : ∀ o ∈ s, o < ps.length) (hsl : s.length ≤ 8) (hlen : ρ.length = 36) (h2 : ρ[2]? = some (some (.int m))) (h3 : ρ[3]? = some (some (prsD ps))) (h18 : ρ[18]? = some (some (rowD s))) :
    evE c (.lc [34] (.var 34) (.rng1 (.var 2)) .yes (.bin .add (.blt .len (.cons (.lc [33] (.var 33) (.over (.var 18)) (.cmp .eq (.ix (.ix (.var 3) (.var 33)) (.cint 0)) (.var 34)) (.cint 1)) .nil)) (.blt .len (.cons (.lc [33] (.var 33) (.over (.var 18)) (.cmp .eq (.ix (.ix (.var 3) (.var 33)) (.cint 1)) (.var 34)) (.cint 1)) .nil)))) ρ st = .ok (.lst (endsL m (pick ps s))) st := by
  refine q_lc1 (xs := List.range m) (enc := natD) (q_rng (n := m) (ev_var h2) (by omega)) (by rw [List.length_range]; show _ ≤ 16777216; omega) fun i hi => ⟨_, wipe1 (by decide) hlen _, ?_⟩
  exact q_ends hl hs hsl (by rw [List.length_set, hlen]) ((List.getElem?_set_ne (by decide)).trans h3) ((List.getElem?_set_ne (by decide)).trans h18) (List.getElem?_set_self (by omega))
theorem q_evIf {c : Cfg} {ρ : Ev.Env} {st : List Ob} {s : List Nat} {qs : List (Nat × Nat)} (hm : m ≤ 8) (hlen : ρ.length = 36) (h18 : ρ[18]? = some (some (rowD s))) (h19 : ρ[19]? = some (some (.lst (endsL m qs)))) :
    evE c (.ifE (.cmp .eq (.lc [35] (.var 35) (.over (.var 19)) (.cmp .eq (.bin .band (.var 35) (.cint 1)) (.cint 1)) (.var 35)) (.lst .nil)) (.lst (.cons (.var 18) .nil)) (.lst .nil)) ρ st = .ok (.lst ((if evenB m qs = true then [s] else []).map rowD)) st := by
  have hlc : evE c (.lc [35] (.var 35) (.over (.var 19)) (.cmp .eq (.bin .band (.var 35) (.cint 1)) (.cint 1)) (.var 35)) ρ st = .ok (.lst (((List.range m).filter fun i => decide (endsN qs i % 2 = 1)).map fun i => natD (endsN qs i))) st := by
    refine q_lc (xs := List.range m) (enc := fun i => natD (endsN qs i)) (p := fun i => decide (endsN qs i % 2 = 1)) (f := fun i => natD (endsN qs i)) (q_lst (ev_var h19)) (by rw [List.length_range]; show _ ≤ 16777216; omega) fun i hi => ⟨_, wipe1 (by decide) hlen _, ?_, fun _ => ev_var (List.getElem?_set_self (by omega))⟩
    refine ev_tcmp (x := .int (PySem.Builtin.bitAnd (endsN qs i) 1)) (y := .int 1) (st1 := st) (ev_bin (x := .int (endsN qs i)) (y := .int 1) (st1 := st) (ev_var (List.getElem?_set_self (by omega))) (by simp only [evE]) (o_band _ _ _)) (by simp only [evE]) ?_
    rw [o_eq, PyProof.Rows.bitAnd_m1]
    congr 1
    rw [decide_eq_decide]
    omega
  have hE : ((List.range m).filter fun i => decide (endsN qs i % 2 = 1)).isEmpty = evenB m qs := by
    unfold evenB
    rw [Bool.eq_iff_iff, List.isEmpty_iff, List.filter_eq_nil_iff, List.all_eq_true]
    refine forall_congr' fun i => forall_congr' fun _ => ?_
    simp
  have hT : evT c (.cmp .eq (.lc [35] (.var 35) (.over (.var 19)) (.cmp .eq (.bin .band (.var 35) (.cint 1)) (.cint 1)) (.var 35)) (.lst .nil)) ρ st = .ok (evenB m qs) st := by
    have : ∀ l : List Nat, (l.map fun i => natD (endsN qs i)) = (l.map fun i => endsN qs i).map natD := fun l => by rw [List.map_map]; rfl
    rw [this] at hlc
    refine ev_tcmp hlc (y := .lst []) (ev_lst (l := []) (by simp only [evEs]) (by decide)) ?_
    rw [o_eqnil, ← hE, List.isEmpty_map]
  have hif : ∀ (te ae be : E) (ρ : Ev.Env) (vv : Bool), evT c te ρ st = .ok vv st → evE c (.ifE te ae be) ρ st = (match vv with | true => evE c ae ρ st | false => evE c be ρ st) := fun te ae be ρ vv z => by
    simp only [evE, z, bnd_ok]
    try (cases vv <;> rfl)
  rw [hif _ _ _ _ _ hT]
  cases evenB m qs
  · exact ev_lst (l := []) (by simp only [evEs]) (by decide)
  · exact ev_lst (l := [rowD s]) (es1 (ev_var h18)) (by show 1 ≤ 16777216; omega)
abbrev V17 (X0 : D) (m q : Nat) (ps : List (Nat × Nat)) (a b v : Int) (at_ : Nat) : List (Option D) := (V16 X0 m q ps a b v at_ ++ [toldD m q ps a b v]).map some
theorem k14 (hm : m ≤ 8) (hl : ps.length ≤ 8) (h : ∀ o18 o19, Run cL (tl 15) (envO (V17 X0 m q ps a b v at_ ++ [some (.lst ((evenSets m ps).map rowD)), o18, o19])) [t] Q) : Run cL (tl 14) (env (V16 X0 m q ps a b v at_ ++ [toldD m q ps a b v, .lst []])) [t] Q := by
  have h1 : callF P 19 i__law_sets [.int ps.length] [] = _ := law_sets_ok (by omega) hl
  have hbig : (setsS ps.length).length ≤ 256 := by
    rw [setsS_len]
    exact Nat.le_trans (Nat.pow_le_pow_right (by decide) hl) (by decide)
  refine run_seq (run_for (xs := setsS ps.length) (enc := rowD) (fun i ρ st => st = [t] ∧ ∃ o18 o19, ρ = envO (V17 X0 m q ps a b v at_ ++ [some (.lst ((((setsS ps.length).take i).filter fun s => evenB m (pick ps s)).map rowD)), o18, o19])) (st1 := [t]) (q_lst (ev_call (l := [.int ps.length]) (es1 (ev_var rfl)) rfl h1)) ⟨rfl, none, none, rfl⟩ ?_ ?_)
  · rintro i s ρ st hx ⟨rfl, o18, o19, rfl⟩
    have hs := setsS_mem (List.mem_of_getElem? hx)
    have hso := setsL_lt _ s hs
    have hsl := setsL_le _ s hs
    have hi : i < (setsS ps.length).length := (List.getElem?_eq_some_iff.mp hx).1
    have htk : ((setsS ps.length).take (i + 1)).filter (fun s => evenB m (pick ps s)) = ((setsS ps.length).take i).filter (fun s => evenB m (pick ps s)) ++ if evenB m (pick ps s) = true then [s] else [] := by
      rw [List.take_add_one, hx, List.filter_append]
      congr 1
      simp [List.filter_cons]
    rw [htk, List.map_append]
    have hfl : (((setsS ps.length).take i).filter fun s => evenB m (pick ps s)).length ≤ i := by
      refine Nat.le_trans (List.length_filter_le _ _) (List.length_take_le ..)
    generalize ((setsS ps.length).take i).filter (fun s => evenB m (pick ps s)) = F at hfl ⊢
    refine ⟨_, rfl, run_seq (run_set (d := .lst (endsL m (pick ps s))) (st1 := [t]) (q_endsAll hm hl hso (by omega) rfl rfl rfl rfl) (Nat.le_of_ble_eq_true rfl) ?_)⟩
    refine run_set (d := .lst (F.map rowD ++ (if evenB m (pick ps s) = true then [s] else []).map rowD)) (st1 := [t]) (ev_bin (x := .lst (F.map rowD)) (st1 := [t]) (ev_var rfl) (q_evIf (m := m) (qs := pick ps s) (s := s) hm rfl rfl rfl) (o_addL ?_)) (Nat.le_of_ble_eq_true rfl) ⟨.inl rfl, rfl, _, _, rfl⟩
    rw [List.length_map, List.length_map]
    have : (if evenB m (pick ps s) = true then [s] else []).length ≤ 1 := by split <;> simp
    show _ ≤ 16777216
    omega
  · rintro ρ st ⟨rfl, o18, o19, rfl⟩
    rw [List.take_length]
    exact h o18 o19
end

/-! ### fewest like pairs, first -/
structure Best (ps : List (Nat × Nat)) (q m k : Nat) (r : List Nat) : Prop where
  at_ : (rowsL q m)[k]? = some r
  bst : bstR ps (rowsL q m) = some (likeN ps r, r)
  le : ∀ x ∈ rowsL q m, likeN ps r ≤ likeN ps x
  lt : ∀ j x, j < k → (rowsL q m)[j]? = some x → likeN ps r < likeN ps x
theorem best_ex (ps : List (Nat × Nat)) {q m : Nat} (h : 0 < (rowsL q m).length) : ∃ k r, Best ps q m k r := by
  obtain ⟨k, r, h1, h2, h3, h4, h5⟩ := bstR_spec ps (rowsL q m) _ h (Nat.le_refl _)
  rw [List.take_length] at h3
  refine ⟨k, r, h2, h3, fun x hx => ?_, h5⟩
  obtain ⟨j, hj, e⟩ := List.getElem_of_mem hx
  exact h4 j x hj (by rw [List.getElem?_eq_getElem hj, e])
theorem min_fold : ∀ (l : List Int) (a : Int), (l.foldl (fun a b => if b < a then b else a) a = a ∨ l.foldl (fun a b => if b < a then b else a) a ∈ l) ∧ l.foldl (fun a b => if b < a then b else a) a ≤ a ∧ ∀ y ∈ l, l.foldl (fun a b => if b < a then b else a) a ≤ y
  | [], a => ⟨.inl rfl, Int.le_refl _, by simp⟩
  | x :: l, a => by
    obtain ⟨h1, h2, h3⟩ := min_fold l (if x < a then x else a)
    rw [List.foldl_cons]
    generalize l.foldl (fun a b => if b < a then b else a) (if x < a then x else a) = z at *
    refine ⟨?_, ?_, fun y hy => ?_⟩
    · rcases h1 with h1 | h1
      · split at h1
        · exact .inr (by rw [h1]; exact List.mem_cons_self ..)
        · exact .inl h1
      · exact .inr (List.mem_cons_of_mem _ h1)
    · split at h2 <;> omega
    · rw [List.mem_cons] at hy
      rcases hy with rfl | hy
      · split at h2 <;> omega
      · exact h3 y hy
theorem minI_of {l : List Nat} {x : Nat} (hx : x ∈ l) (hle : ∀ y ∈ l, x ≤ y) : minI (l.map fun (k : Nat) => (k : Int)) = some (x : Int) := by
  cases l with
  | nil => simp at hx
  | cons a l =>
    obtain ⟨h1, h2, h3⟩ := min_fold (l.map fun (k : Nat) => (k : Int)) a
    rw [List.map_cons]
    show some _ = _
    congr 1
    generalize (l.map fun (k : Nat) => (k : Int)).foldl (fun a b => if b < a then b else a) (a : Int) = z at *
    refine Int.le_antisymm ?_ ?_
    · rw [List.mem_cons] at hx
      rcases hx with rfl | hx
      · exact h2
      · exact h3 _ (List.mem_map.mpr ⟨x, hx, rfl⟩)
    · rcases h1 with rfl | h1
      · have := hle a (List.mem_cons_self ..)
        omega
      · rw [List.mem_map] at h1
        obtain ⟨y, hy, rfl⟩ := h1
        have := hle y (List.mem_cons_of_mem _ hy)
        omega
theorem o_minL {st : List Ob} {l : List Nat} {x : Nat} (hx : x ∈ l) (hle : ∀ y ∈ l, x ≤ y) : opBlt .min st [.lst (l.map natD)] = some (natD x) := by
  have e : l.map natD = (l.map fun (k : Nat) => (k : Int)).map D.int := by rw [List.map_map]; rfl
  show ((lstOf st (.lst (l.map natD))).bind intsOf).bind (fun l => (minI l).map D.int) = _
  rw [show lstOf st (.lst (l.map natD)) = some (l.map natD) from rfl, Option.bind_some, e, intsOf_map, Option.bind_some, minI_of hx hle]
  rfl
theorem o_index {st : List Ob} {l : List Nat} {x k : Nat} (hk : l[k]? = some x) (hb : ∀ j, j < k → l[j]? ≠ some x) : opBm .index st (.lst (l.map natD)) [natD x] = .ok (.int k) st := by
  have e1 : (lstOf st (.lst (l.map natD))).bind (frzs st 0) = some (l.map natD) := by
    show frzs st 0 (l.map natD) = _
    rw [frzs_plain (natDs_pure _)]
  have e2 : frz st 0 (natD x) = some (natD x) := frz_plain rfl
  have e3 : placeD (natD x) (l.map natD) = some k := by
    unfold placeD
    rw [List.findIdx?_map, List.findIdx?_eq_some_iff_getElem]
    obtain ⟨h1, h2⟩ := List.getElem?_eq_some_iff.mp hk
    refine ⟨h1, ?_, fun j hj => ?_⟩
    · show D.peq (natD l[k]) (natD x) = true
      simp [natD, D.peq, h2]
    · have := hb j hj
      rw [List.getElem?_eq_getElem (by omega)] at this
      show ¬ D.peq (natD l[j]) (natD x) = true
      simp only [natD, D.peq, decide_eq_true_eq]
      intro z
      exact this (by congr 1; omega)
  show (match (lstOf st (.lst (l.map natD))).bind (frzs st 0), frz st 0 (natD x) with
    | some l, some a => if (a.cmpb && D.cmpbs l && (decide (a.depth ≤ 60) && decide (D.depths l ≤ 60))) = true then (match placeD a l with | some k => R.ok (D.int k) st | none => .bad) else .bad
    | _, _ => .bad) = _
  rw [e1, e2]
  show (if ((natD x).cmpb && D.cmpbs (l.map natD) && (decide ((natD x).depth ≤ 60) && decide (D.depths (l.map natD) ≤ 60))) = true then (match placeD (natD x) (l.map natD) with | some k => R.ok (D.int k) st | none => .bad) else .bad) = _
  rw [if_pos (by rw [cmpbs_nat, depths_nat]; rfl), e3]
theorem likes_min {st : List Ob} {ps : List (Nat × Nat)} {q m k : Nat} {r : List Nat} (h : Best ps q m k r) : opBlt .min st [likesD ps q m] = some (natD (likeN ps r)) := by
  refine o_minL (List.mem_map.mpr ⟨r, List.mem_of_getElem? h.at_, rfl⟩) fun y hy => ?_
  rw [List.mem_map] at hy
  obtain ⟨x, hx, rfl⟩ := hy
  exact h.le x hx
theorem likes_index {st : List Ob} {ps : List (Nat × Nat)} {q m k : Nat} {r : List Nat} (h : Best ps q m k r) : opBm .index st (likesD ps q m) [natD (likeN ps r)] = .ok (.int k) st := by
  refine o_index (by rw [List.getElem?_map, h.at_]; rfl) fun j hj => ?_
  rw [List.getElem?_map]
  cases hx : (rowsL q m)[j]? with
  | none => simp
  | some x =>
    have := h.lt j x hj hx
    simp
    omega
section
variable {Q : Fl → Ev.Env → List Ob → Prop} {t t' : Ob} {m q : Nat} {ps : List (Nat × Nat)} {X0 : D} {a b v : Int} {at_ : Nat} {o18 o19 : Option D}
abbrev V20 (X0 : D) (m q : Nat) (ps : List (Nat × Nat)) (a b v : Int) (at_ : Nat) (o18 o19 : Option D) : List (Option D) := V17 X0 m q ps a b v at_ ++ [some (.lst ((evenSets m ps).map rowD)), o18, o19]
theorem k15 (hm : m ≤ 8) (h : Run cL (tl 16) (envO (V20 X0 m q ps a b v at_ o18 o19 ++ [some (rowsD 2 m)])) [t] Q) : Run cL (tl 15) (envO (V20 X0 m q ps a b v at_ o18 o19)) [t] Q := by
  have h1 : callF P 19 i__law_rows [.int m, .int (2 : Nat)] [] = _ := law_rows_ok (by omega) hm (by omega)
  exact run_seq (run_set (d := rowsD 2 m) (st1 := [t]) (ev_call (l := [.int m, .int 2]) (es2 (st1 := [t]) (ev_var rfl) (by simp only [evE])) rfl h1) (Nat.le_of_ble_eq_true rfl) h)
theorem k16 (hm : m ≤ 8) (hl : ps.length ≤ 8) (hp : ∀ p ∈ ps, p.1 < m ∧ p.2 < m) (h : Run cL (tl 17) (envO (V20 X0 m q ps a b v at_ o18 o19 ++ [some (rowsD 2 m), some (likesD ps 2 m)])) [t] Q) : Run cL (tl 16) (envO (V20 X0 m q ps a b v at_ o18 o19 ++ [some (rowsD 2 m)])) [t] Q := by
  refine run_seq (run_set (d := likesD ps 2 m) (st1 := [t]) ?_ (Nat.le_of_ble_eq_true rfl) h)
  unfold likesD
  rw [List.map_map]
  have := rows_big hm (show 2 ≤ 4 by omega)
  refine q_lc1 (xs := rowsL 2 m) (enc := rowD) (q_lst (ev_var rfl)) (by show _ ≤ 16777216; omega) fun r hr => ⟨_, wipe1 (by decide) rfl _, ?_⟩
  exact q_like hl hp (rowsL_row 2 m r hr) (by rw [List.length_set]; rfl) ((List.getElem?_set_ne (by decide)).trans rfl) (List.getElem?_set_self (Nat.le_of_ble_eq_true rfl)) (by decide) (by decide)
abbrev V22 (X0 : D) (m q : Nat) (ps : List (Nat × Nat)) (a b v : Int) (at_ : Nat) (o18 o19 : Option D) : List (Option D) := (V14 X0 m q ps a b v at_ ++ [D.int (sumR 2 m (W ps a b)), D.int (sumR q m (W ps (1 + v) 1)), toldD m q ps a b v]).map some ++ [some (.lst ((evenSets m ps).map rowD)), o18, o19, some (rowsD 2 m), some (likesD ps 2 m)]
theorem k17 (hm : m ≤ 8) (hl : ps.length ≤ 8) (ha : a.natAbs ≤ 50) (hb : b.natAbs ≤ 50) (h : Run cL (tl 18) (envO (V22 X0 m q ps a b v at_ o18 o19)) [t] Q) : Run cL (tl 17) (envO (V20 X0 m q ps a b v at_ o18 o19 ++ [some (rowsD 2 m), some (likesD ps 2 m)])) [t] Q := by
  have big := rows_big hm (show 2 ≤ 4 by omega)
  refine run_seq (run_set (d := .int (sumR 2 m (W ps a b))) (st1 := [t]) ?_ (Nat.le_of_ble_eq_true rfl) h)
  have e : sumR 2 m (W ps a b) = (((rowsL 2 m).map (likeN ps)).map fun k => a ^ k * b ^ (ps.length - k)).sum := (likes_sum fun k => a ^ k * b ^ (ps.length - k)).symm
  rw [e]
  refine ev_blt (l := [.lst ((((rowsL 2 m).map (likeN ps)).map fun k => a ^ k * b ^ (ps.length - k)).map .int)]) (st1 := [t]) (es1 ?_) (o_sumL _)
  rw [List.map_map]
  refine q_lc1 (xs := (rowsL 2 m).map (likeN ps)) (enc := natD) (q_lst (ev_var rfl)) (by rw [List.length_map]; show _ ≤ 16777216; omega) fun k hk => ⟨_, wipe1 (by decide) rfl _, ?_⟩
  have hk := likes_le hk
  have t1 : callF P 19 i__law_power [.int a, .int k] [] = _ := law_power_ok (by omega) (by omega) (by omega)
  have t2 : callF P 19 i__law_power [.int b, .int (ps.length - k : Nat)] [] = _ := law_power_ok (by omega) (by omega) (by omega)
  exact ev_bin (st1 := [t]) (ev_call (l := [.int a, .int k]) (es2 (st1 := [t]) (ev_var ((List.getElem?_set_ne (by decide)).trans rfl)) (ev_var (List.getElem?_set_self (Nat.le_of_ble_eq_true rfl)))) rfl t1) (ev_call (l := [.int b, .int (ps.length - k : Nat)]) (es2 (st1 := [t]) (ev_var ((List.getElem?_set_ne (by decide)).trans rfl)) (ev_bin (x := .int ps.length) (y := .int k) (st1 := [t]) (ev_var ((List.getElem?_set_ne (by decide)).trans rfl)) (ev_var (List.getElem?_set_self (Nat.le_of_ble_eq_true rfl))) (by rw [o_sub, sub_cast hk]))) rfl t2) (o_mulR (pow_small (by omega) (by omega)))
abbrev V24 (X0 : D) (m q : Nat) (ps : List (Nat × Nat)) (a b v : Int) (at_ : Nat) (o18 o19 : Option D) : List (Option D) := V22 X0 m q ps a b v at_ o18 o19 ++ [some (D.int (2 ^ ps.length * sumR 2 m (W ps a b))), some (D.int ps.length)]
theorem k18 (hm : m ≤ 8) (hl : ps.length ≤ 8) (hp : ∀ p ∈ ps, p.1 < m ∧ p.2 < m) (ha : a.natAbs ≤ 50) (hb : b.natAbs ≤ 50) (h : Run cL (tl 19) (envO (V24 X0 m q ps a b v at_ o18 o19)) [t] Q) : Run cL (tl 18) (envO (V22 X0 m q ps a b v at_ o18 o19)) [t] Q := by
  have h1 : callF P 19 i_two_by_even_sets [webD m ps, .int a, .int b] [] = _ := two_by_even_sets_ok (by omega) hm hl hp (by omega) (by omega)
  exact run_seq (run_asg (d := .tup [.int (2 ^ ps.length * sumR 2 m (W ps a b)), .int ps.length]) (st1 := [t]) (st2 := [t]) (ev_call (l := [webD m ps, .int a, .int b]) (es3 (st1 := [t]) (st2 := [t]) (ev_var rfl) (ev_var rfl) (ev_var rfl)) (by simp [D.pures, web_pure, D.pure]) h1) rfl h)
theorem k19 (hm : m ≤ 8) (hl : ps.length ≤ 8) (hp : ∀ p ∈ ps, p.1 < m ∧ p.2 < m) (h : Run cL (tl 20) (envO (V24 X0 m q ps a b v at_ o18 o19)) [t] Q) : Run cL (tl 19) (envO (V24 X0 m q ps a b v at_ o18 o19)) [t] Q := by
  have h1 : callF P 19 i_even_pair_sets [webD m ps] [] = _ := even_pair_sets_ok (by omega) hm hl hp
  have t1 : callF P 19 i__law_power [.int 2, .int ps.length] [] = _ := law_power_ok (by omega) (by decide) (by omega)
  have hlen := evenSets_len m ps hl
  have hsb : sameBs ((evenSets m ps).map rowD) = true := same_rows _ fun s hs => by
    have := setsL_le _ s (setsS_mem (List.mem_filter.mp hs).1)
    omega
  refine run_seq (run_else (st1 := [t]) (evT_orF (st1 := [t]) (same_call (X := .lst [.lst ((evenSets m ps).map rowD), .int ps.length]) (ev_lst (es2 (st1 := [t]) (ev_call (l := [webD m ps]) (es1 (ev_var rfl)) (by simp [D.pures, web_pure]) h1) (ev_var rfl)) (by show 2 ≤ 16777216; omega)) (ev_lst (es2 (st1 := [t]) (ev_var rfl) (ev_var rfl)) (by show 2 ≤ 16777216; omega)) ?_ ?_) (ev_tcmp (x := .int (2 ^ ps.length * sumR 2 m (W ps a b))) (y := .int (sumR 2 m (W ps a b) * 2 ^ ps.length)) (st1 := [t]) (ev_var rfl) (ev_bin (x := .int (sumR 2 m (W ps a b))) (y := .int (2 ^ ps.length)) (st1 := [t]) (ev_var rfl) (ev_call (l := [.int 2, .int ps.length]) (es2 (st1 := [t]) (by simp only [evE]) (ev_var rfl)) rfl t1) (o_mulR (pow_small (by decide) (by omega)))) ?_)) (run_skip h))
  · have e1 : sameB (.lst ((evenSets m ps).map rowD)) = true := by
      rw [sameB, hsb, List.length_map, Bool.and_true, decide_eq_true_eq]
      omega
    rw [sameB, sameBs, e1]
    rfl
  · have := depth_rows (evenSets m ps)
    show max (D.depths ((evenSets m ps).map rowD) + 1) (max 0 0) + 1 ≤ 18
    omega
  · rw [o_ne, Int.mul_comm]
    simp
theorem k20 {k r} (hB : Best ps q m k r) (h : Run cL (tl 21) (envO (V24 X0 m q ps a b v at_ o18 o19 ++ [some (natD (likeN ps r))])) [t] Q) : Run cL (tl 20) (envO (V24 X0 m q ps a b v at_ o18 o19)) [t] Q :=
  run_seq (run_set (d := natD (likeN ps r)) (st1 := [t]) (ev_blt (l := [likesD ps q m]) (st1 := [t]) (es1 (ev_var rfl)) (likes_min hB)) (Nat.le_of_ble_eq_true rfl) h)
abbrev cutD (ps : List (Nat × Nat)) (r : List Nat) : D := .tup [.int (ps.length - likeN ps r : Nat), rowD r]
abbrev V26 (X0 : D) (m q : Nat) (ps : List (Nat × Nat)) (a b v : Int) (at_ : Nat) (o18 o19 : Option D) (r1 r2 : List Nat) : List (Option D) := V24 X0 m q ps a b v at_ o18 o19 ++ [some (natD (likeN ps r1)), some (cutD ps r2)]
theorem k21 {k r r1} (hB : Best ps 2 m k r) (h : Run cL (tl 22) (envO (V26 X0 m q ps a b v at_ o18 o19 r1 r)) [t] Q) : Run cL (tl 21) (envO (V24 X0 m q ps a b v at_ o18 o19 ++ [some (natD (likeN ps r1))])) [t] Q := by
  have hle := likeN_le ps r
  have g : opIx [t] (rowsD 2 m) (.int k) = some (rowD r) := by
    unfold rowsD
    rw [o_ixL, List.getElem?_map, hB.at_]
    rfl
  have hmin : evE cL (.blt .min (.cons (.var 21) .nil)) (envO (V24 X0 m q ps a b v at_ o18 o19 ++ [some (natD (likeN ps r1))])) [t] = .ok (natD (likeN ps r)) [t] := ev_blt (l := [likesD ps 2 m]) (st1 := [t]) (es1 (ev_var rfl)) (likes_min hB)
  refine run_seq (run_set (d := cutD ps r) (st1 := [t]) (ev_tup (es2 (st1 := [t]) (ev_bin (x := .int ps.length) (y := .int (likeN ps r)) (st1 := [t]) (ev_var rfl) hmin (by rw [o_sub, sub_cast hle])) (ev_ix (x := rowsD 2 m) (y := .int k) (st1 := [t]) (ev_var rfl) (ev_bm (x := likesD ps 2 m) (l := [natD (likeN ps r)]) (st1 := [t]) (st2 := [t]) (ev_var rfl) rfl (es1 hmin) (likes_index hB)) g)) (by show 2 ≤ 16777216; omega)) (Nat.le_of_ble_eq_true rfl) h)
end

/-! ### rows in lists of rows -/
theorem peqs_nat : ∀ a b : List Nat, D.peqs (a.map natD) (b.map natD) = decide (a = b)
  | [], [] => rfl
  | [], _ :: _ => rfl
  | _ :: _, [] => rfl
  | x :: a, y :: b => by
    rw [List.map_cons, List.map_cons, D.peqs, peqs_nat a b]
    by_cases h : x = y
    · subst h
      simp [natD, D.peq]
    · have h' : ¬ (x : Int) = y := by omega
      simp [natD, D.peq, h, h']
theorem peq_row (a b : List Nat) : D.peq (rowD a) (rowD b) = decide (a = b) := by
  show D.peqs (a.map natD) (b.map natD) = _
  exact peqs_nat a b
theorem isIn_any (x : D) : ∀ l : List D, D.isIn x l = l.any fun y => D.peq y x
  | [] => rfl
  | y :: l => by rw [D.isIn, isIn_any x l]; rfl
theorem cmpb_row (r : List Nat) : D.cmpb (rowD r) = true := by
  show D.cmpbs (r.map natD) = true
  exact cmpbs_nat r
theorem cmpbs_rows : ∀ l : List (List Nat), D.cmpbs (l.map rowD) = true
  | [] => rfl
  | r :: l => by rw [List.map_cons, D.cmpbs, cmpb_row, cmpbs_rows l]; rfl
theorem o_isin {st : List Ob} {X : D} (l : List (List Nat)) (hp : X.pure = true) (hc : X.cmpb = true) (hd : X.depth ≤ 60) : opCmp .isin st X (.lst (l.map rowD)) = some (D.isIn X (l.map rowD)) := by
  have e1 : frz st 0 X = some X := frz_plain hp
  have e2 : frzs st 0 (l.map rowD) = some (l.map rowD) := frzs_plain (rows_pure l)
  have e3 := depth_rows l
  show (match frz st 0 X, frzs st 0 (l.map rowD) with
      | some a, some m => if (a.cmpb && D.cmpbs m && (decide (a.depth ≤ 60) && decide (D.depths m ≤ 60))) = true then some (D.isIn a m) else none
      | _, _ => none) = _
  rw [e1, e2]
  show (if (X.cmpb && D.cmpbs (l.map rowD) && (decide (X.depth ≤ 60) && decide (D.depths (l.map rowD) ≤ 60))) = true then some (D.isIn X (l.map rowD)) else none) = _
  rw [if_pos (by rw [hc, cmpbs_rows, decide_eq_true hd, decide_eq_true (by omega)]; rfl)]
theorem o_indexR {st : List Ob} {l : List (List Nat)} {r : List Nat} (hr : r ∈ l) : ∃ k, l[k]? = some r ∧ opBm .index st (.lst (l.map rowD)) [rowD r] = .ok (.int (k : Nat)) st := by
  have e1 : (lstOf st (.lst (l.map rowD))).bind (frzs st 0) = some (l.map rowD) := by
    show frzs st 0 (l.map rowD) = _
    rw [frzs_plain (rows_pure _)]
  have e2 : frz st 0 (rowD r) = some (rowD r) := frz_plain (rowD_pure r)
  have hf : (fun y => D.peq y (rowD r)) ∘ rowD = fun y => decide (y = r) := by
    funext y
    exact peq_row y r
  have e0 : placeD (rowD r) (l.map rowD) = l.findIdx? fun y => decide (y = r) := by
    unfold placeD
    rw [List.findIdx?_map, hf]
  cases hk : l.findIdx? fun y => decide (y = r) with
  | none =>
    rw [List.findIdx?_eq_none_iff] at hk
    have := hk r hr
    simp at this
  | some k =>
    have hk' := hk
    rw [List.findIdx?_eq_some_iff_getElem] at hk'
    obtain ⟨h1, h2, _⟩ := hk'
    have h2 : l[k] = r := by simpa using h2
    refine ⟨k, by rw [List.getElem?_eq_getElem h1, h2], ?_⟩
    show (match (lstOf st (.lst (l.map rowD))).bind (frzs st 0), frz st 0 (rowD r) with
      | some l, some a => if (a.cmpb && D.cmpbs l && (decide (a.depth ≤ 60) && decide (D.depths l ≤ 60))) = true then (match placeD a l with | some k => R.ok (D.int k) st | none => .bad) else .bad
      | _, _ => .bad) = _
    rw [e1, e2]
    show (if ((rowD r).cmpb && D.cmpbs (l.map rowD) && (decide ((rowD r).depth ≤ 60) && decide (D.depths (l.map rowD) ≤ 60))) = true then (match placeD (rowD r) (l.map rowD) with | some k => R.ok (D.int k) st | none => .bad) else .bad) = _
    have e3 := depth_rows l
    rw [if_pos (by rw [cmpb_row, cmpbs_rows, decide_eq_true (show (rowD r).depth ≤ 60 by rw [depth_row]; omega), decide_eq_true (by omega)]; rfl), e0, hk]
section
variable {Q : Fl → Ev.Env → List Ob → Prop} {ns : List Int} {t t' : Ob} {m q : Nat} {ps : List (Nat × Nat)} {X0 : D} {a b v : Int} {at_ : Nat} {o18 o19 : Option D} {r1 r2 : List Nat}
/-- the sum of unlike pairs -/
abbrev unS (ps : List (Nat × Nat)) (q m : Nat) : Int := sumR q m fun r => ((ps.length - likeN ps r : Nat) : Int)
abbrev told2 (ps : List (Nat × Nat)) (q m : Nat) (v : Int) (r1 r2 : List Nat) : D := .lst [.tup [.int (likeN ps r1), rowD r1], cutD ps r2, .tup [.int (unS ps q m), .int (rowsL q m).length], .int (v ^ q)]
abbrev V27 (X0 : D) (m q : Nat) (ps : List (Nat × Nat)) (a b v : Int) (at_ : Nat) (o18 o19 : Option D) (r1 r2 : List Nat) : List (Option D) := (V14 X0 m q ps a b v at_ ++ [D.int (sumR 2 m (W ps a b)), D.int (sumR q m (W ps (1 + v) 1)), told2 ps q m v r1 r2]).map some ++ [some (.lst ((evenSets m ps).map rowD)), o18, o19, some (rowsD 2 m), some (likesD ps 2 m), some (.int (2 ^ ps.length * sumR 2 m (W ps a b))), some (.int ps.length), some (natD (likeN ps r1)), some (cutD ps r2)]
theorem k22 {k1 k2} (hm : m ≤ 8) (hq : q ≤ 4) (hl : ps.length ≤ 8) (hp : ∀ p ∈ ps, p.1 < m ∧ p.2 < m) (hv : v.natAbs ≤ 50) (h1 : Best ps q m k1 r1) (h2 : Best ps 2 m k2 r2) (h : Run cL (tl 23) (envO (V27 X0 m q ps a b v at_ o18 o19 r1 r2)) [t] Q) : Run cL (tl 22) (envO (V26 X0 m q ps a b v at_ o18 o19 r1 r2)) [t] Q := by
  have g1 : callF P 19 i_best_rows [webD m ps, .int q] [] = _ := best_rows_ok (by omega) hm hq (by omega) hp
  rw [h1.bst] at g1
  have g2 : callF P 19 i_greatest_cut [webD m ps] [] = _ := greatest_cut_ok (by omega) hm (by omega) hp h2.bst (likeN_le _ _)
  have g3 : callF P 19 i_mean_unlike [webD m ps, .int q] [] = _ := mean_unlike_ok (by omega) hm hq (by omega) hp
  have g4 : callF P 19 i_taken [.int v, .int q] [] = _ := taken_ok (by omega) (by omega) (by omega)
  refine run_seq (run_set (d := told2 ps q m v r1 r2) (st1 := [t]) (ev_lst (es4 (st1 := [t]) (st2 := [t]) (st3 := [t]) ?_ ?_ ?_ ?_) (by show 4 ≤ 16777216; omega)) (Nat.le_of_ble_eq_true rfl) h)
  · exact ev_call (l := [webD m ps, .int q]) (es2 (st1 := [t]) (ev_var rfl) (ev_var rfl)) (by simp [D.pures, web_pure, D.pure]) g1
  · exact ev_call (l := [webD m ps]) (es1 (ev_var rfl)) (by simp [D.pures, web_pure]) g2
  · exact ev_call (l := [webD m ps, .int q]) (es2 (st1 := [t]) (ev_var rfl) (ev_var rfl)) (by simp [D.pures, web_pure, D.pure]) g3
  · exact ev_call (l := [.int v, .int q]) (es2 (st1 := [t]) (ev_var rfl) (ev_var rfl)) rfl g4
theorem q_unS {c : Cfg} {ρ : Ev.Env} {st : List Ob} (hm : m ≤ 8) (hq : q ≤ 4) (hlen : ρ.length = 36) (h6 : ρ[6]? = some (some (.int ps.length))) (h11 : ρ[11]? = some (some (likesD ps q m))) : evE c (.blt .sum (.cons (.lc [33] (.var 33) (.over (.var 11)) .yes (.bin .sub (.var 6) (.var 33))) .nil)) ρ st = .ok (.int (unS ps q m)) st := by
  have big := rows_big hm hq
  have e : unS ps q m = (((rowsL q m).map (likeN ps)).map fun k => ((ps.length - k : Nat) : Int)).sum := (likes_sum fun k => ((ps.length - k : Nat) : Int)).symm
  rw [e]
  refine ev_blt (l := [.lst ((((rowsL q m).map (likeN ps)).map fun k => ((ps.length - k : Nat) : Int)).map .int)]) (st1 := st) (es1 ?_) (o_sumL _)
  rw [List.map_map]
  refine q_lc1 (xs := (rowsL q m).map (likeN ps)) (enc := natD) (q_lst (ev_var h11)) (by rw [List.length_map]; show _ ≤ 16777216; omega) fun k hk => ⟨_, wipe1 (by decide) hlen _, ?_⟩
  have hk := likes_le hk
  exact ev_bin (x := .int ps.length) (y := .int k) (st1 := st) (ev_var ((List.getElem?_set_ne (by decide)).trans h6)) (ev_var (List.getElem?_set_self (by omega))) (by rw [o_sub, sub_cast hk]; rfl)
theorem k23 {k1} (hm : m ≤ 8) (hq : q ≤ 4) (hv : v.natAbs ≤ 50) (h1 : Best ps q m k1 r1) (hr1 : r1.length ≤ 8) (hr2 : r2.length ≤ 8) (h : Run cL (tl 24) (envO (V27 X0 m q ps a b v at_ o18 o19 r1 r2)) [t] Q) : Run cL (tl 23) (envO (V27 X0 m q ps a b v at_ o18 o19 r1 r2)) [t] Q := by
  have t1 : callF P 19 i__law_power [.int v, .int q] [] = _ := law_power_ok (by omega) (by omega) (by omega)
  have g : opIx [t] (rowsD q m) (.int k1) = some (rowD r1) := by
    unfold rowsD
    rw [o_ixL, List.getElem?_map, h1.at_]
    rfl
  refine run_seq (run_else (st1 := [t]) (same_call (X := told2 ps q m v r1 r2) (ev_var rfl) (ev_lst (es4 (st1 := [t]) (st2 := [t]) (st3 := [t]) ?_ (ev_var rfl) ?_ ?_) (by show 4 ≤ 16777216; omega)) ?_ ?_) (run_skip h))
  · exact ev_tup (es2 (st1 := [t]) (ev_var rfl) (ev_ix (x := rowsD q m) (y := .int k1) (st1 := [t]) (ev_var rfl) (ev_bm (x := likesD ps q m) (l := [natD (likeN ps r1)]) (st1 := [t]) (st2 := [t]) (ev_var rfl) rfl (es1 (ev_var rfl)) (likes_index h1)) g)) (by show 2 ≤ 16777216; omega)
  · refine ev_tup (es2 (st1 := [t]) (q_unS hm hq rfl rfl rfl) (ev_blt (l := [rowsD q m]) (st1 := [t]) (es1 (ev_var rfl)) ?_)) (by show 2 ≤ 16777216; omega)
    unfold rowsD
    rw [o_len_lst, List.length_map]
  · exact ev_call (l := [.int v, .int q]) (es2 (st1 := [t]) (ev_var rfl) (ev_var rfl)) rfl t1
  · have e1 : sameB (rowD r1) = true := same_row (by omega)
    have e2 : sameB (rowD r2) = true := same_row (by omega)
    simp [told2, sameB, sameBs, e1, e2]
  · have e1 := depth_row r1
    have e2 := depth_row r2
    simp [told2, D.depth, D.depths, e1, e2]
abbrev V28 (X0 : D) (m q : Nat) (ps : List (Nat × Nat)) (a b v : Int) (at_ : Nat) (o18 o19 : Option D) (r1 r2 : List Nat) : List (Option D) := V27 X0 m q ps a b v at_ o18 o19 r1 r2 ++ [some (.int (plainN ps))]
theorem wipe2 {ρ : Ev.Env} (hlen : ρ.length = 36) (x : Nat × Nat) : tgs (.tup (.cons (.var 31) (.cons (.var 32) .nil))) (pr x) (wipeE ρ [31, 32]) = some (((ρ.set 32 none).set 31 (some (.int x.1))).set 32 (some (.int x.2))) := by
  simp [tgs, tgs.tgss, pr, wipeE, hlen]
theorem at31 {ρ : Ev.Env} (hlen : ρ.length = 36) (x : Nat × Nat) : (((ρ.set 32 none).set 31 (some (D.int x.1))).set 32 (some (D.int x.2)))[31]? = some (some (.int x.1)) := by
  rw [List.getElem?_set_ne (by omega), List.getElem?_set_self (by simp [hlen])]
theorem at32 {ρ : Ev.Env} (hlen : ρ.length = 36) (x : Nat × Nat) : (((ρ.set 32 none).set 31 (some (D.int x.1))).set 32 (some (D.int x.2)))[32]? = some (some (.int x.2)) := by
  rw [List.getElem?_set_self (by simp [hlen])]
theorem k24 (hl : ps.length ≤ 8) (h : Run cL (tl 25) (envO (V28 X0 m q ps a b v at_ o18 o19 r1 r2)) [t] Q) : Run cL (tl 24) (envO (V27 X0 m q ps a b v at_ o18 o19 r1 r2)) [t] Q := by
  refine run_seq (run_set (d := .int (plainN ps)) (st1 := [t]) (ev_blt (l := [.lst ((ps.filter fun p => decide (p.1 ≠ p.2)).map fun _ => .int 1)]) (st1 := [t]) (es1 ?_) ?_) (Nat.le_of_ble_eq_true rfl) h)
  · refine q_lc (xs := ps) (enc := pr) (p := fun p => decide (p.1 ≠ p.2)) (f := fun _ => .int 1) (q_tup (ev_var rfl)) (by show _ ≤ 16777216; omega) fun x hx => ⟨_, wipe2 rfl x, ?_, fun _ => by simp only [evE]⟩
    refine ev_tcmp (x := .int x.1) (y := .int x.2) (st1 := [t]) (ev_var (at31 rfl x)) (ev_var (at32 rfl x)) ?_
    rw [o_ne]
    congr 1
    rw [← decide_not, decide_eq_decide]
    omega
  · rw [o_len_lst, List.length_map]
    rfl
theorem cut_half {k2} (hp : ∀ p ∈ ps, p.1 < m ∧ p.2 < m) (h2 : Best ps 2 m k2 r2) : plainN ps ≤ 2 * (ps.length - likeN ps r2) := by
  have h := rows_unlike (n := m) 2 ps.length ps rfl hp
  have hle : unS ps 2 m ≤ sumR 2 m fun _ => ((ps.length - likeN ps r2 : Nat) : Int) := by
    unfold unS sumR
    have : ∀ l : List (List Nat), (∀ x ∈ l, likeN ps r2 ≤ likeN ps x) → (l.map fun r => ((ps.length - likeN ps r : Nat) : Int)).sum ≤ (l.map fun _ => ((ps.length - likeN ps r2 : Nat) : Int)).sum := by
      intro l
      induction l with
      | nil => intro _; exact Int.le_refl _
      | cons x l ih =>
        intro hl
        have i1 := ih fun y hy => hl y (List.mem_cons_of_mem _ hy)
        have i2 := hl x (List.mem_cons_self ..)
        rw [List.map_cons, List.map_cons, List.sum_cons, List.sum_cons]
        omega
    exact this _ h2.le
  have e : (sumR 2 m fun _ => ((ps.length - likeN ps r2 : Nat) : Int)) = 2 ^ m * ((ps.length - likeN ps r2 : Nat) : Int) := by
    unfold sumR
    rw [sm_const, rowsL_len]
    simp
  rw [e] at hle
  have h : (2 : Int) * unS ps 2 m = 2 ^ m * (2 - 1) * plainN ps := h
  have hpos : (0 : Int) < 2 ^ m := Int.pow_pos (by decide)
  generalize (2 : Int) ^ m = z at *
  have h3 : z * plainN ps ≤ z * (2 * ((ps.length - likeN ps r2 : Nat) : Int)) := by
    have h4 : z * (2 * ((ps.length - likeN ps r2 : Nat) : Int)) = 2 * (z * ((ps.length - likeN ps r2 : Nat) : Int)) := by ac_rfl
    rw [h4]
    have h5 : z * (2 - 1) * (plainN ps : Int) = z * plainN ps := by rw [show (2 : Int) - 1 = 1 from rfl, Int.mul_one]
    rw [h5] at h
    omega
  have := Int.le_of_mul_le_mul_left h3 hpos
  omega
theorem k25 {k2} (hm : m ≤ 8) (hq : q ≤ 4) (hq0 : 0 < q) (hl : ps.length ≤ 8) (hp : ∀ p ∈ ps, p.1 < m ∧ p.2 < m) (h2 : Best ps 2 m k2 r2) (h : Run cL (tl 26) (envO (V28 X0 m q ps a b v at_ o18 o19 r1 r2)) [t] Q) : Run cL (tl 25) (envO (V28 X0 m q ps a b v at_ o18 o19 r1 r2)) [t] Q := by
  have big := rows_big hm hq
  have hpl : plainN ps ≤ ps.length := List.length_filter_le _ _
  have hu := rows_unlike (n := m) q ps.length ps rfl hp
  have hrl := rowsL_len q m
  refine run_seq (run_else (st1 := [t]) (evT_orF (st1 := [t]) (ev_tcmp (x := .int (q * unS ps q m)) (y := .int ((rowsL q m).length * (q - 1) * plainN ps)) (st1 := [t]) (ev_bin (x := .int q) (y := .int (unS ps q m)) (st1 := [t]) (ev_var rfl) (q_unS hm hq rfl rfl rfl) (o_mulL (small64 (by omega)))) (ev_bin (x := .int ((rowsL q m).length * (q - 1))) (y := .int (plainN ps)) (st1 := [t]) (ev_bin (x := .int (rowsL q m).length) (y := .int (q - 1)) (st1 := [t]) (ev_blt (l := [rowsD q m]) (st1 := [t]) (es1 (ev_var rfl)) ?_) (ev_bin (x := .int q) (y := .int 1) (st1 := [t]) (ev_var rfl) (by simp only [evE]) (o_sub _ _)) (o_mulR (small64 (by omega)))) (ev_var rfl) (o_mulR (small64 (by omega)))) ?_) (ev_tcmp (x := .int (2 * (ps.length - likeN ps r2 : Nat))) (y := .int (plainN ps)) (st1 := [t]) (ev_bin (x := .int 2) (y := .int (ps.length - likeN ps r2 : Nat)) (st1 := [t]) (by simp only [evE]) (ev_ix (x := cutD ps r2) (y := .int 0) (st1 := [t]) (ev_var rfl) (by simp only [evE]) (o_ixT0 _)) (o_mulR (small64 (by omega)))) (ev_var rfl) ?_)) (run_skip h))
  · unfold rowsD
    rw [o_len_lst, List.length_map]
  · rw [o_ne]
    have : (q : Int) * unS ps q m = (rowsL q m).length * (q - 1) * plainN ps := by
      rw [hrl]
      rw [show unS ps q m = sumR q m fun r => ((ps.length - likeN ps r : Nat) : Int) from rfl, hu]
      simp
    rw [this]
    simp
  · have := cut_half hp h2
    rw [o_lt]
    congr 1
    rw [decide_eq_false_iff_not]
    omega
abbrev V30 (X0 : D) (m q : Nat) (ps : List (Nat × Nat)) (a b v : Int) (at_ : Nat) (o18 o19 : Option D) (r1 r2 : List Nat) (bd : Nat) (r3 : List Nat) : List (Option D) := V28 X0 m q ps a b v at_ o18 o19 r1 r2 ++ [some (.int bd), some (rowD r3)]
theorem k26 {t1 t2 : Ob} {bd k3 : Nat} {r3 : List Nat} (h1 : evE cL (.call 31 true (.cons (.var 1) (.cons (.bin .add (.var 6) (.cint 2)) .nil))) (envO (V28 X0 m q ps a b v at_ o18 o19 r1 r2)) [t] = .ok (.int bd) [t1]) (h2 : evE cL (.call 31 true (.cons (.var 1) (.cons (.blt .len (.cons (.var 20) .nil)) .nil))) (envO (V28 X0 m q ps a b v at_ o18 o19 r1 r2)) [t1] = .ok (.int k3) [t2]) (h3 : (rowsL 2 m)[k3]? = some r3)
    (h : Run cL (tl 27) (envO (V30 X0 m q ps a b v at_ o18 o19 r1 r2 bd r3)) [t2] Q) : Run cL (tl 26) (envO (V28 X0 m q ps a b v at_ o18 o19 r1 r2)) [t] Q := by
  have g : opIx [t2] (rowsD 2 m) (.int k3) = some (rowD r3) := by
    unfold rowsD
    rw [o_ixL, List.getElem?_map, h3]
    rfl
  exact run_seq (run_asg (d := .tup [.int bd, rowD r3]) (st1 := [t2]) (st2 := [t2]) (ev_tup (es2 (st1 := [t1]) h1 (ev_ix (x := rowsD 2 m) (y := .int k3) (st1 := [t1]) (ev_var rfl) h2 g)) (by show 2 ≤ 16777216; omega)) rfl h)
end

/-! ### the judge of cuts, asked at eight values -/
abbrev rightE : E := .andE (.isi (.var 29) .tuple) (.andE (.cmp .isin (.var 29) (.var 20)) (.cmp .eq (.lc [33] (.var 33) (.over (.var 29)) (.isi (.var 33) .bool) (.var 33)) (.lst .nil)))
abbrev dueE : E := .andE (.var 30) (.cmp .ge (.bin .sub (.var 6) (.ix (.var 21) (.bm .index (.var 20) (.cons (.var 29) .nil)))) (.var 27))
structure ValOk (m : Nat) (ps : List (Nat × Nat)) (bd : Nat) (t : Ob) (X : D) : Prop where
  pu : X.pure = true
  ok : ∃ g z : Bool, callF P 19 i_is_cut_row [webD m ps, .int bd, X] [] = .ok (.bl g) [] ∧
    (∀ ρ : Ev.Env, ρ.length = 36 → ρ[29]? = some (some X) → ρ[20]? = some (some (rowsD 2 m)) → evE cL rightE ρ [t] = .ok (.bl z) [t]) ∧
    ∀ ρ : Ev.Env, ρ[6]? = some (some (.int ps.length)) → ρ[20]? = some (some (rowsD 2 m)) → ρ[21]? = some (some (likesD ps 2 m)) → ρ[27]? = some (some (.int bd)) → ρ[29]? = some (some X) → ρ[30]? = some (some (.bl z)) → evE cL dueE ρ [t] = .ok (.bl g) [t]
theorem isIn_rows (r : List Nat) (l : List (List Nat)) : D.isIn (rowD r) (l.map rowD) = decide (r ∈ l) := by
  rw [isIn_any, List.any_map, Bool.eq_iff_iff, List.any_eq_true, decide_eq_true_eq]
  constructor
  · rintro ⟨x, hx, h⟩
    have h : D.peq (rowD x) (rowD r) = true := h
    rw [peq_row, decide_eq_true_eq] at h
    exact h ▸ hx
  · intro h
    exact ⟨r, h, by show D.peq (rowD r) (rowD r) = true; rw [peq_row]; simp⟩
theorem o_eqnilB {st : List Ob} {n : Nat} (h : 0 < n) : opCmp .eq st (.lst ((List.range n).map fun _ => .bl true)) (.lst []) = some false := by
  have hc : ∀ l : List Nat, D.cmpbs (l.map fun _ => D.bl true) = true := by
    intro l
    induction l with
    | nil => rfl
    | cons a l ih => rw [List.map_cons, D.cmpbs, ih]; rfl
  have hd : ∀ l : List Nat, D.depths (l.map fun _ => D.bl true) = 0 := by
    intro l
    induction l with
    | nil => rfl
    | cons a l ih => rw [List.map_cons, D.depths, ih]; rfl
  have e1 : frz st 0 (.lst ((List.range n).map fun _ => .bl true)) = some (.lst ((List.range n).map fun _ => .bl true)) := frz_plain (by show D.pures _ = true; exact pures_map (fun _ => rfl) _)
  have e2 : frz st 0 (.lst []) = some (.lst []) := frz_plain rfl
  show (match frz st 0 (.lst ((List.range n).map fun _ => D.bl true)), frz st 0 (.lst []) with
    | some a, some b => if (a.cmpb && b.cmpb && (decide (a.depth ≤ 60) && decide (b.depth ≤ 60))) = true then some (D.peq a b) else none
    | _, _ => none) = _
  rw [e1, e2]
  show (if (D.cmpb (.lst ((List.range n).map fun _ => D.bl true)) && D.cmpb (.lst []) && (decide (D.depth (.lst ((List.range n).map fun _ => D.bl true)) ≤ 60) && decide (D.depth (.lst []) ≤ 60))) = true then some (D.peq (.lst ((List.range n).map fun _ => D.bl true)) (.lst [])) else none) = _
  rw [if_pos (by rw [D.cmpb, hc, D.depth, hd]; rfl)]
  cases n with
  | zero => omega
  | succ n =>
    rw [List.range_succ_eq_map]
    rfl
section
variable {Q : Fl → Ev.Env → List Ob → Prop} {ns : List Int} {t t' : Ob} {m q bd : Nat} {ps : List (Nat × Nat)} {X0 : D} {a b v : Int} {at_ : Nat} {o18 o19 : Option D} {r1 r2 r3 : List Nat}
/-- what is no cut row, and is not right -/
theorem val_no {X : D} (hp : X.pure = true) (hc : callF P 19 i_is_cut_row [webD m ps, .int bd, X] [] = .ok (.bl false) []) (hr : ∀ ρ : Ev.Env, ρ.length = 36 → ρ[29]? = some (some X) → ρ[20]? = some (some (rowsD 2 m)) → evE cL rightE ρ [t] = .ok (.bl false) [t]) : ValOk m ps bd t X :=
  ⟨hp, false, false, hc, hr, fun ρ _ _ _ _ _ h30 => evE_andF (x := .bl false) (ev_var h30) rfl⟩
theorem val_type {X : D} (hp : X.pure = true) (hX : isTy .tuple [] X = some false) (hX' : isTy .tuple [t] X = some false) : ValOk m ps bd t X :=
  val_no hp (is_cut_type (by omega) hX) fun ρ _ h29 _ => evE_andF (x := .bl false) (ev_isi (ev_var h29) hX') rfl
theorem val_out {r : List Nat} (hc : callF P 19 i_is_cut_row [webD m ps, .int bd, rowD r] [] = .ok (.bl false) []) (hr : r ∉ rowsL 2 m) : ValOk m ps bd t (rowD r) := by
  refine val_no (rowD_pure r) hc fun ρ _ h29 h20 => ?_
  refine evE_andT (x := .bl true) (st1 := [t]) (ev_isi (ev_var h29) rfl) rfl (evE_andF (x := .bl false) (ev_cmp (x := rowD r) (y := rowsD 2 m) (st1 := [t]) (ev_var h29) (ev_var h20) ?_) rfl)
  unfold rowsD
  rw [o_isin _ (rowD_pure r) (cmpb_row r) (by rw [depth_row]; omega), isIn_rows, decide_eq_false hr]
theorem val_row {r : List Nat} (hm : m ≤ 8) (hl : ps.length ≤ 8) (hp : ∀ p ∈ ps, p.1 < m ∧ p.2 < m) (hr : r ∈ rowsL 2 m) : ValOk m ps bd t (rowD r) := by
  have hrl := rowsL_row 2 m r hr
  have hle := likeN_le ps r
  refine ⟨rowD_pure r, decide (bd ≤ ps.length - likeN ps r), true, is_cut_row_ok (by omega) (by omega) (by omega) hp hrl (rowsL_lt 2 m r hr), fun ρ hlen h29 h20 => ?_, fun ρ h6 h20 h21 h27 h29 h30 => ?_⟩
  · refine evE_andT (x := .bl true) (st1 := [t]) (ev_isi (ev_var h29) rfl) rfl (evE_andT (x := .bl true) (st1 := [t]) (ev_cmp (x := rowD r) (y := rowsD 2 m) (st1 := [t]) (ev_var h29) (ev_var h20) ?_) rfl ?_)
    · unfold rowsD
      rw [o_isin _ (rowD_pure r) (cmpb_row r) (by rw [depth_row]; omega), isIn_rows, decide_eq_true hr]
    · have := q_lc (c := cL) (own := [33]) (tg := .var 33) (it := .over (.var 29)) (cnd := .isi (.var 33) .bool) (el := .var 33) (xs := r) (enc := natD) (p := fun _ => false) (f := fun _ => .non) (ρ := ρ) (st := [t]) (st1 := [t]) (q_tup (ev_var h29)) (by show _ ≤ 16777216; omega) fun k hk => ⟨_, wipe1 (by decide) hlen _, evT_isi (x := natD k) (ev_var (List.getElem?_set_self (by omega))) rfl, fun z => nomatch z⟩
      have hf : r.filter (fun _ => false) = [] := by simp
      rw [hf] at this
      exact ev_cmp (x := .lst []) (y := .lst []) (st1 := [t]) this (ev_lst (l := []) (by simp only [evEs]) (by decide)) rfl
  · obtain ⟨k, hk, hi⟩ := o_indexR (st := [t]) hr
    have g : opIx [t] (likesD ps 2 m) (.int k) = some (.int (likeN ps r)) := by
      unfold likesD
      rw [o_ixL, List.getElem?_map, List.getElem?_map, hk]
      rfl
    refine evE_andT (x := .bl true) (st1 := [t]) (ev_var h30) rfl (ev_cmp (x := .int (ps.length - likeN ps r : Nat)) (y := .int bd) (st1 := [t]) (ev_bin (x := .int ps.length) (y := .int (likeN ps r)) (st1 := [t]) (ev_var h6) (ev_ix (x := likesD ps 2 m) (y := .int k) (st1 := [t]) (ev_var h21) (ev_bm (x := rowsD 2 m) (l := [rowD r]) (st1 := [t]) (st2 := [t]) (ev_var h20) rfl (es1 (ev_var h29)) hi) g) (by rw [o_sub, sub_cast hle])) (ev_var h27) ?_)
    rw [o_ge]
    congr 1
    rw [← decide_not, decide_eq_decide]
    omega
theorem val_bools (hm : m ≤ 8) (h0 : 0 < m) : ValOk m ps bd t (.tup (List.replicate m (.bl true))) := by
  have hpu : D.pure (.tup (List.replicate m (.bl true))) = true := by
    show D.pures _ = true
    exact pures_all fun d hd => by rw [List.eq_of_mem_replicate hd]; rfl
  have e : List.replicate m (D.bl true) = (List.range m).map fun _ => D.bl true := by rw [List.map_const', List.length_range]
  have hcb : ∀ n, D.cmpbs (List.replicate n (D.bl true)) = true := by
    intro n
    induction n with
    | zero => rfl
    | succ n ih => rw [List.replicate_succ, D.cmpbs, ih]; rfl
  have hdp : ∀ n, D.depths (List.replicate n (D.bl true)) = 0 := by
    intro n
    induction n with
    | zero => rfl
    | succ n ih => rw [List.replicate_succ, D.depths, ih]; rfl
  refine val_no hpu (is_cut_two (by omega) (by omega) h0 (.inr rfl)) fun ρ hlen h29 h20 => ?_
  refine evE_andT (x := .bl true) (st1 := [t]) (ev_isi (ev_var h29) rfl) rfl ?_
  have hin : evE cL (.cmp .isin (.var 29) (.var 20)) ρ [t] = .ok (.bl (D.isIn (.tup (List.replicate m (.bl true))) ((rowsL 2 m).map rowD))) [t] := by
    refine ev_cmp (x := .tup (List.replicate m (.bl true))) (y := rowsD 2 m) (st1 := [t]) (ev_var h29) (ev_var h20) ?_
    unfold rowsD
    refine o_isin _ hpu (hcb m) ?_
    show D.depths (List.replicate m (D.bl true)) + 1 ≤ 60
    rw [hdp]
    omega
  cases hz : D.isIn (.tup (List.replicate m (.bl true))) ((rowsL 2 m).map rowD) with
  | false =>
    rw [hz] at hin
    exact evE_andF (x := .bl false) hin rfl
  | true =>
    rw [hz] at hin
    refine evE_andT (x := .bl true) (st1 := [t]) hin rfl ?_
    have := q_lc (c := cL) (own := [33]) (tg := .var 33) (it := .over (.var 29)) (cnd := .isi (.var 33) .bool) (el := .var 33) (xs := List.range m) (enc := fun _ => .bl true) (p := fun _ => true) (f := fun _ => .bl true) (ρ := ρ) (st := [t]) (st1 := [t]) (q_tup (by rw [← e]; exact ev_var h29)) (by rw [List.length_range]; show _ ≤ 16777216; omega) fun k hk => ⟨_, wipe1 (by decide) hlen _, evT_isi (x := .bl true) (ev_var (List.getElem?_set_self (by omega))) rfl, fun _ => ev_var (List.getElem?_set_self (by omega))⟩
    have hf : (List.range m).filter (fun _ => true) = List.range m := List.filter_eq_self.mpr fun _ _ => rfl
    rw [hf] at this
    exact ev_cmp (y := .lst []) (st1 := [t]) this (ev_lst (l := []) (by simp only [evEs]) (by decide)) (o_eqnilB h0)
theorem es_c {c : Cfg} {ρ : Ev.Env} {st st1 st2 : List Ob} {a es : E} {x : D} {l : List D} (h1 : evE c a ρ st = .ok x st1) (h2 : evEs c es ρ st1 = .ok l st2) : evEs c (.cons a es) ρ st = .ok (x :: l) st2 := by simp only [evEs, h1, h2, bnd_ok]
theorem o_mulT {st : List Ob} {x : D} {m : Nat} (hm : m ≤ 1000) : opBin .mul st (.tup [x]) (.int m) = some (.tup (List.replicate m x)) := by
  show (if -1000 ≤ (m : Int) ∧ (m : Int) ≤ 1000 ∧ [x].length ≤ 1000 then some (D.tup (List.replicate (m : Int).toNat [x]).flatten) else none) = _
  rw [if_pos ⟨by omega, by omega, by simp⟩, Int.toNat_natCast, flat_rep]
theorem k27 {ρ0 : Ev.Env} (hm : m ≤ 8) (hl : ps.length ≤ 8) (hp : ∀ p ∈ ps, p.1 < m ∧ p.2 < m) (h0 : 0 < m) (h2 : r2 ∈ rowsL 2 m) (h3 : r3 ∈ rowsL 2 m) (hlen : ρ0.length = 36) (g2 : ρ0[2]? = some (some (.int m))) (g4 : ρ0[4]? = some (some (webD m ps))) (g6 : ρ0[6]? = some (some (.int ps.length))) (g20 : ρ0[20]? = some (some (rowsD 2 m))) (g21 : ρ0[21]? = some (some (likesD ps 2 m))) (g25 : ρ0[25]? = some (some (cutD ps r2))) (g27 : ρ0[27]? = some (some (.int bd))) (g28 : ρ0[28]? = some (some (rowD r3))) (h : ∀ ρ, Run cL (tl 28) ρ [t] Q) : Run cL (tl 27) ρ0 [t] Q := by
  have hr3 := rowsL_row 2 m r3 h3
  have vals : ∀ X ∈ ([rowD r2, rowD r3, .lst (r3.map natD), rowD (r3 ++ [0]), rowD (r3.drop 1), .non, .tup (List.replicate m (.int 2)), .tup (List.replicate m (.bl true))] : List D), ValOk m ps bd t X := by
    intro X hX
    simp only [List.mem_cons, List.not_mem_nil, or_false] at hX
    rcases hX with rfl | rfl | rfl | rfl | rfl | rfl | rfl | rfl
    · exact val_row hm hl hp h2
    · exact val_row hm hl hp h3
    · exact val_type (by show D.pures _ = true; exact natDs_pure _) rfl rfl
    · refine val_out (is_cut_len (by omega) (by simp; omega)) fun z => ?_
      have := rowsL_row 2 m _ z
      simp at this
      omega
    · refine val_out (is_cut_len (by omega) (by simp; omega)) fun z => ?_
      have := rowsL_row 2 m _ z
      simp at this
      omega
    · exact val_type rfl rfl rfl
    · have e : D.tup (List.replicate m (.int 2)) = rowD (List.replicate m 2) := by
        unfold rowD
        rw [List.map_replicate]
        rfl
      have hc := is_cut_two (n := 19) (b := bd) (ps := ps) (by omega) (show m ≤ 1000 by omega) h0 (x := .int 2) (.inl rfl)
      rw [e] at hc ⊢
      refine val_out hc fun z => ?_
      have := rowsL_lt 2 m _ z 2 (List.mem_replicate.mpr ⟨by omega, rfl⟩)
      omega
    · exact val_bools hm h0
  refine run_seq (run_for (xs := ([rowD r2, rowD r3, .lst (r3.map natD), rowD (r3 ++ [0]), rowD (r3.drop 1), .non, .tup (List.replicate m (.int 2)), .tup (List.replicate m (.bl true))] : List D)) (enc := fun X => X) (fun i ρ st => st = [t] ∧ ρ.length = 36 ∧ ∀ k, k < 29 → ρ[k]? = ρ0[k]?) (st1 := [t]) ?_ ⟨rfl, hlen, fun _ _ => rfl⟩ ?_ ?_)
  · show evI _ _ _ _ = .ok ([rowD r2, rowD r3, .lst (r3.map natD), rowD (r3 ++ [0]), rowD (r3.drop 1), .non, .tup (List.replicate m (.int 2)), .tup (List.replicate m (.bl true))] : List D) _
    refine q_tup (ev_tup (es_c (st1 := [t]) ?_ (es_c (st1 := [t]) (ev_var g28) (es_c (st1 := [t]) ?_ (es_c (st1 := [t]) ?_ (es_c (st1 := [t]) ?_ (es_c (st1 := [t]) (by simp only [evE]) (es_c (st1 := [t]) ?_ (es_c (st1 := [t]) ?_ (by simp only [evEs]))))))))) (by show 8 ≤ 16777216; omega))
    · exact ev_ix (x := cutD ps r2) (y := .int 1) (st1 := [t]) (ev_var g25) (by simp only [evE]) (o_ixT1 _)
    · exact ev_blt (l := [rowD r3]) (st1 := [t]) (es1 (ev_var g28)) (o_list_tup _)
    · refine ev_bin (x := rowD r3) (y := .tup [natD 0]) (st1 := [t]) (ev_var g28) (ev_tup (es1 (by simp only [evE]; rfl)) (by show 1 ≤ 16777216; omega)) ?_
      unfold rowD
      rw [o_addT, List.map_append]
      · rfl
      · rw [List.length_map, hr3]; show m + 1 ≤ 16777216; omega
    · have hv : evE cL (.var 28) ρ0 [t] = .ok (rowD r3) [t] := ev_var g28
      have hs : opSl [t] (rowD r3) (some 1) none = some (rowD (r3.drop 1)) := by
        unfold rowD
        rw [o_slT, show (1 : Int) = ((1 : Nat) : Int) from rfl, cut_drop, List.map_drop]
      have hb : ∀ (ρ : Ev.Env), evB cL (.cons (.cint 1) .nil) ρ [t] = .ok (some 1) [t] := fun ρ => by simp only [evB, evE, bnd_ok]
      have hb2 : ∀ (ρ : Ev.Env), evB cL .nil ρ [t] = .ok none [t] := fun ρ => by simp only [evB]
      have : ∀ (x : E) (ρ : Ev.Env), evE cL (.sl x (.cons (.cint 1) .nil) .nil) ρ [t] = bnd (evE cL x ρ [t]) fun x st1 => bnd (evB cL (.cons (.cint 1) .nil) ρ st1) fun l st2 => bnd (evB cL .nil ρ st2) fun h st3 => ofO (opSl st3 x l h) fun z => .ok z st3 := fun x ρ => by simp only [evE]
      rw [this, hv, bnd_ok, hb, bnd_ok, hb2, bnd_ok, hs]
      rfl
    · exact ev_bin (x := .tup [.int 2]) (y := .int m) (st1 := [t]) (ev_tup (es1 (by simp only [evE])) (by show 1 ≤ 16777216; omega)) (ev_var g2) (o_mulT (by omega))
    · exact ev_bin (x := .tup [.bl true]) (y := .int m) (st1 := [t]) (ev_tup (es1 (by simp only [evE])) (by show 1 ≤ 16777216; omega)) (ev_var g2) (o_mulT (by omega))
  · rintro i X ρ st hx ⟨rfl, hρ, hk⟩
    obtain ⟨hpu, g, z, c1, c2, c3⟩ := vals X (List.mem_of_getElem? hx)
    clear vals hx
    have hl1 : (ρ.set 29 (some X)).length = 36 := by rw [List.length_set, hρ]
    have hk1 : ∀ k, k < 29 → (ρ.set 29 (some X))[k]? = ρ0[k]? := fun k h => (List.getElem?_set_ne (by omega)).trans (hk k h)
    have h29 : (ρ.set 29 (some X))[29]? = some (some X) := List.getElem?_set_self (by omega)
    have hl2 : ((ρ.set 29 (some X)).set 30 (some (.bl z))).length = 36 := by rw [List.length_set, hl1]
    have hk2 : ∀ k, k < 29 → ((ρ.set 29 (some X)).set 30 (some (.bl z)))[k]? = ρ0[k]? := fun k h => (List.getElem?_set_ne (by omega)).trans (hk1 k h)
    have h29' : ((ρ.set 29 (some X)).set 30 (some (.bl z)))[29]? = some (some X) := (List.getElem?_set_ne (by decide)).trans h29
    have h30 : ((ρ.set 29 (some X)).set 30 (some (.bl z)))[30]? = some (some (.bl z)) := List.getElem?_set_self (by omega)
    refine ⟨ρ.set 29 (some X), by simp [tgs, hρ], run_seq (run_set (d := .bl z) (st1 := [t]) (c2 _ hl1 h29 ((hk1 20 (by decide)).trans g20)) (by omega) ?_)⟩
    have c1' : callF P 19 29 [webD m ps, .int bd, X] [] = .ok (.bl g) [] := c1
    generalize (ρ.set 29 (some X)).set 30 (some (.bl z)) = ρ2 at hl2 hk2 h29' h30 ⊢
    exact run_else (st1 := [t]) (same_call (X := .bl g) (ev_call (l := [webD m ps, .int bd, X]) (es3 (st1 := [t]) (st2 := [t]) (ev_var ((hk2 4 (by decide)).trans g4)) (ev_var ((hk2 27 (by decide)).trans g27)) (ev_var h29')) (by simp [D.pures, web_pure, hpu, D.pure]) c1') (c3 _ ((hk2 6 (by decide)).trans g6) ((hk2 20 (by decide)).trans g20) ((hk2 21 (by decide)).trans g21) ((hk2 27 (by decide)).trans g27) h29' h30) rfl (Nat.zero_le _)) (run_skip ⟨.inl rfl, rfl, hl2, hk2⟩)
  · rintro ρ st ⟨rfl, _, _⟩
    exact h _
end
theorem hT (ns : List Int) (_ : ns.length ≤ 63) : ∃ st, callF P 20 39 [.lst (ns.map .int)] [] = .ok (.bl true) st := by
  refine ⟨[], ?_⟩
  rw [lev at_law]
  refine runB_of rfl ?_
  show Run cL (tl 0) (env [.lst (ns.map .int)]) [] _
  have ht0 : Tape ns (tapeO ns 0 0 68) := ⟨0, 0, 68, rfl, Nat.zero_le _, Int.le_refl _⟩
  refine k0 ?_
  obtain ⟨m, ps, t1, e1, hm0, hm, hl, hp, ht1⟩ := law_web_ok (n := 19) (by omega) ht0 (most := 4) (pairs := 5) (by omega) (by omega) (by omega)
  refine k1 (ev_tape2 ht0 (es3 (st1 := [tapeO ns 0 0 68]) (st2 := [tapeO ns 0 0 68]) (ev_var rfl) (by simp only [evE]; rfl) (by simp only [evE]; rfl)) e1) ?_
  obtain ⟨w, t2, e2, hw, ht2⟩ := ev_next (n := 19) (by omega) (ρ := env [.lst (ns.map .int), .ref 0, .int m, prsD ps]) ht1 (es := .cons (.var 1) (.cons (.cint 3) .nil)) (many := 3) (by omega) (by omega) (es2 (st1 := [t1]) (ev_var rfl) (by simp only [evE]; rfl))
  refine k2 (by omega) hp e2 ?_
  have hq : 1 + w ≤ 4 := by omega
  have hq0 : 0 < 1 + w := by omega
  generalize 1 + w = q at hq hq0 ⊢
  have nine : ∀ t, Tape ns t → ∃ (w : Nat) (t' : Ob), evE cL (.call 31 true (.cons (.var 1) (.cons (.cint 9) .nil))) (env (V7 (.lst (ns.map .int)) m q ps)) [t] = .ok (.int w) [t'] ∧ w < 9 ∧ Tape ns t' := fun t ht => ev_next (n := 19) (by omega) ht (es := .cons (.var 1) (.cons (.cint 9) .nil)) (many := 9) (by omega) (by omega) (es2 (st1 := [t]) (ev_var rfl) (by simp only [evE]; rfl))
  obtain ⟨w1, t3, f1, hw1, ht3⟩ := nine t2 ht2
  obtain ⟨w2, t4, f2, hw2, ht4⟩ := nine t3 ht3
  obtain ⟨w3, t5, f3, hw3, ht5⟩ := nine t4 ht4
  refine k3 f1 f2 f3 ?_
  have ha : ((w1 : Int) - 4).natAbs ≤ 50 := by omega
  have hb : ((w2 : Int) - 4).natAbs ≤ 50 := by omega
  have hv : ((w3 : Int) - 4).natAbs ≤ 50 := by omega
  generalize (w1 : Int) - 4 = a at ha ⊢
  generalize (w2 : Int) - 4 = b at hb ⊢
  generalize (w3 : Int) - 4 = v at hv ⊢
  refine k4 (by omega) hq ?_
  refine k5 (by omega) hq (by omega) hp ?_
  have big := rows_big (m := m) (q := q) (by omega) hq
  have pos : ∀ q, 0 < q → 0 < (rowsL q m).length := fun q hq => by rw [rowsL_len]; exact Nat.pow_pos hq
  have pq := pos q hq0
  have p2 := pos 2 (by omega)
  obtain ⟨at_, t6, f6, hat, ht6⟩ := ev_next (n := 19) (by omega) (ρ := env (V10 (.lst (ns.map .int)) m q ps a b v ++ [rowsD q m, likesD ps q m])) ht5 (es := .cons (.var 1) (.cons (.blt .len (.cons (.var 10) .nil)) .nil)) (many := (rowsL q m).length) pq (by omega) (es2 (st1 := [t5]) (ev_var rfl) (ev_blt (l := [rowsD q m]) (st1 := [t5]) (es1 (ev_var rfl)) (by unfold rowsD; rw [o_len_lst, List.length_map])))
  refine k6 f6 ?_
  refine k7 (by omega) ?_
  refine k8 (by omega) hq (by omega) hp hat ?_
  refine k9 (by omega) hq (by omega) ha hb ?_
  refine k10 (by omega) hq (by omega) hv ?_
  refine k11 (by omega) hq hq0 (by omega) hp ha hb hv ?_
  refine k12 ?_
  refine k13 ?_
  refine k14 (by omega) (by omega) fun o18 o19 => ?_
  refine k15 (by omega) ?_
  refine k16 (by omega) (by omega) hp ?_
  refine k17 (by omega) (by omega) ha hb ?_
  refine k18 (by omega) (by omega) hp ha hb ?_
  refine k19 (by omega) (by omega) hp ?_
  obtain ⟨k1', r1, hB1⟩ := best_ex ps pq
  obtain ⟨k2', r2, hB2⟩ := best_ex ps p2
  have hr1 := rowsL_row q m r1 (List.mem_of_getElem? hB1.at_)
  have hr2m := List.mem_of_getElem? hB2.at_
  have hr2 := rowsL_row 2 m r2 hr2m
  refine k20 hB1 ?_
  refine k21 hB2 ?_
  refine k22 (by omega) hq (by omega) hp hv hB1 hB2 ?_
  refine k23 (by omega) hq hv hB1 (by omega) (by omega) ?_
  refine k24 (by omega) ?_
  refine k25 (by omega) hq hq0 (by omega) hp hB2 ?_
  have big2 := rows_big (m := m) (q := 2) (by omega) (by omega)
  obtain ⟨bd, t7, f7, _, ht7⟩ := ev_next (n := 19) (by omega) (ρ := envO (V28 (.lst (ns.map .int)) m q ps a b v at_ o18 o19 r1 r2)) ht6 (es := .cons (.var 1) (.cons (.bin .add (.var 6) (.cint 2)) .nil)) (many := ps.length + 2) (by omega) (by omega) (es2 (st1 := [t6]) (ev_var rfl) (ev_bin (x := .int ps.length) (y := .int 2) (st1 := [t6]) (ev_var rfl) (by simp only [evE]) (o_add _ _)))
  obtain ⟨k3', t8, f8, hk3, ht8⟩ := ev_next (n := 19) (by omega) (ρ := envO (V28 (.lst (ns.map .int)) m q ps a b v at_ o18 o19 r1 r2)) ht7 (es := .cons (.var 1) (.cons (.blt .len (.cons (.var 20) .nil)) .nil)) (many := (rowsL 2 m).length) p2 (by omega) (es2 (st1 := [t7]) (ev_var rfl) (ev_blt (l := [rowsD 2 m]) (st1 := [t7]) (es1 (ev_var rfl)) (by unfold rowsD; rw [o_len_lst, List.length_map])))
  refine k26 f7 f8 (List.getElem?_eq_getElem hk3) ?_
  refine k27 (by omega) (by omega) hp hm0 hr2m (List.getElem_mem hk3) rfl rfl rfl rfl rfl rfl rfl rfl rfl fun ρ => ?_
  exact run_ret (d := .bl true) (st1 := [t8]) (by simp only [evE]) rfl

end Lk68
end
set_option linter.all false
set_option maxRecDepth 100000
open PySem PySem.W PyProof.Rows Ev
theorem Lk68.walk {l : PySem.W.OpenLaw} {q : Program} {loose : List Str} {XP : (Str → Option Value) → Heap → Prop} {YP : World → Heap → Prop} {d : DefRec} {K : Params → PySem.W.Frag} (hn : l.most = some 63) (hdf : d.params.defaults = [])
    (hY : ∀ (w : World) (h : Heap), YP w h → (K w.params).In h)
    (F : ∀ (w : World) (mg : Str → Option Value) (fa : Addr) (h : Heap), (K w.params).In h → h.Ns mainGlobals mg → mg d.name = some (.ref fa) →
      ∃ fd : FuncData, (∀ (s : Shared) (u : Value), BindsTo s fd ⟨[u], []⟩ [("script", u)]) ∧ ∀ base : Heap, (K w.params).In base → base.Ns mainGlobals mg → L2.FnOk l.prog w (K w.params) mg base C8.CX0 (2 * 20 + 1) fa fd ["script"] (spLaw (K w.params))) :
    PySem.W.WalkO q loose XP YP l.row.toRowW d [] (fun f vs => PySem.call f vs) :=
  L2.walk_ofK (n := 63) (k := 2 * 20 + 1) (x := "script") (CX := C8.CX0) (sp := spLaw) hn (by decide) hdf ⟨rfl, by decide, by decide⟩ hY F (fun _ _ a ns hl _ hS => ⟨a, ns, rfl, hS, hl, fun _ => rfl⟩) fun _ _ _ _ z => z
set_option maxRecDepth 100000 in
set_option maxHeartbeats 0 in
theorem PySem.Challenge.cw_nozeroflows_k68_whole_sums_over_colours_holds : PySem.Challenge.rw_nozeroflows_k68_whole_sums_over_colours.Holds := by
  w_on; o_law; k_head; (case hw => w_witness2)
  k_fill
  refine Lk68.walk (l := PySem.Challenge.rw_nozeroflows_k68_whole_sums_over_colours) rfl rfl (fun w h Y => PySem.W.kIn_of Y) ?F
  case F =>
    intro w mg fa h KX G hmg
    refine' Lk68.all_mk KX G hmg ?aC0 ?a0 ?l0 ?c0 ?k0 ?a1 ?i1 ?l1 ?c1 ?k1 ?a3 ?i3 ?l3 ?c3 ?k3 ?a4 ?l4 ?c4 ?k4 ?a5 ?l5 ?c5 ?k5 ?a6 ?l6 ?c6 ?k6 ?a7 ?l7 ?c7 ?k7 ?a8 ?l8 ?c8 ?k8 ?a9 ?l9 ?c9 ?k9 ?a10 ?l10 ?c10 ?k10 ?a11 ?l11 ?c11 ?k11 ?a12 ?l12 ?c12 ?k12 ?a13 ?l13 ?c13 ?k13 ?a14 ?l14 ?c14 ?k14 ?a15 ?l15 ?c15 ?k15 ?a16 ?l16 ?c16 ?k16 ?a17 ?l17 ?c17 ?k17 ?a18 ?l18 ?c18 ?k18 ?a19 ?l19 ?c19 ?k19 ?a20 ?l20 ?c20 ?k20 ?a21 ?l21 ?c21 ?k21 ?a22 ?l22 ?c22 ?k22 ?a23 ?l23 ?c23 ?k23 ?a24 ?l24 ?c24 ?k24 ?a25 ?l25 ?c25 ?k25 ?a26 ?l26 ?c26 ?k26 ?a27 ?l27 ?c27 ?k27 ?a28 ?l28 ?c28 ?k28 ?a29 ?l29 ?c29 ?k29 ?a30 ?l30 ?c30 ?k30 ?a31 ?l31 ?c31 ?k31 ?a32 ?l32 ?c32 ?k32 ?a33 ?l33 ?c33 ?k33 ?a36 ?l36 ?c36 ?k36 ?a37 ?l37 ?c37 ?k37 ?a38 ?l38 ?c38 ?k38 ?a39 ?l39 ?c39 ?k39 ?pg0 ?hd0 ?po0 ?sa0 ?mk0 ?kc0 ?ow0 ?mr0 ?kk0_0 ?kt0_int ?kt0_bool ?kt0_str ?kt0_tuple ?kt0_list ?tk0_NoneType ?tk0_bool ?tk0_int ?tk0_str ?tk0_tuple ?tk0_list ?nA0_many ?nA0_pairs ?hn ?htk ?z_len ?z_abs ?z_int ?z_min ?z_max ?z_sum ?z_sorted ?z_tuple ?z_list ?z_all ?z_any ?z_str ?z_dict ?z_bool ?z_isinstance ?z_range ?z_enumerate ?z_zip ?z_reversed ?nl Lk68.hT
    (case aC0 => k_is); (case a0 => k_is); (case l0 => k_is); (case c0 => k_is); (case k0 => k_is); (case a1 => k_is)
    (case i1 => k_is); (case l1 => k_is); (case c1 => k_is); (case k1 => k_is); (case a3 => k_is); (case i3 => k_is)
    (case l3 => k_is); (case c3 => k_is); (case k3 => k_is); (case a4 => k_is); (case l4 => k_is); (case c4 => k_is)
    (case k4 => k_is); (case a5 => k_is); (case l5 => k_is); (case c5 => k_is); (case k5 => k_is); (case a6 => k_is)
    (case l6 => k_is); (case c6 => k_is); (case k6 => k_is); (case a7 => k_is); (case l7 => k_is); (case c7 => k_is)
    (case k7 => k_is); (case a8 => k_is); (case l8 => k_is); (case c8 => k_is); (case k8 => k_is); (case a9 => k_is)
    (case l9 => k_is); (case c9 => k_is); (case k9 => k_is); (case a10 => k_is); (case l10 => k_is); (case c10 => k_is)
    (case k10 => k_is); (case a11 => k_is); (case l11 => k_is); (case c11 => k_is); (case k11 => k_is); (case a12 => k_is)
    (case l12 => k_is); (case c12 => k_is); (case k12 => k_is); (case a13 => k_is); (case l13 => k_is); (case c13 => k_is)
    (case k13 => k_is); (case a14 => k_is); (case l14 => k_is); (case c14 => k_is); (case k14 => k_is); (case a15 => k_is)
    (case l15 => k_is); (case c15 => k_is); (case k15 => k_is); (case a16 => k_is); (case l16 => k_is); (case c16 => k_is)
    (case k16 => k_is); (case a17 => k_is); (case l17 => k_is); (case c17 => k_is); (case k17 => k_is); (case a18 => k_is)
    (case l18 => k_is); (case c18 => k_is); (case k18 => k_is); (case a19 => k_is); (case l19 => k_is); (case c19 => k_is)
    (case k19 => k_is); (case a20 => k_is); (case l20 => k_is); (case c20 => k_is); (case k20 => k_is); (case a21 => k_is)
    (case l21 => k_is); (case c21 => k_is); (case k21 => k_is); (case a22 => k_is); (case l22 => k_is); (case c22 => k_is)
    (case k22 => k_is); (case a23 => k_is); (case l23 => k_is); (case c23 => k_is); (case k23 => k_is); (case a24 => k_is)
    (case l24 => k_is); (case c24 => k_is); (case k24 => k_is); (case a25 => k_is); (case l25 => k_is); (case c25 => k_is)
    (case k25 => k_is); (case a26 => k_is); (case l26 => k_is); (case c26 => k_is); (case k26 => k_is); (case a27 => k_is)
    (case l27 => k_is); (case c27 => k_is); (case k27 => k_is); (case a28 => k_is); (case l28 => k_is); (case c28 => k_is)
    (case k28 => k_is); (case a29 => k_is); (case l29 => k_is); (case c29 => k_is); (case k29 => k_is); (case a30 => k_is)
    (case l30 => k_is); (case c30 => k_is); (case k30 => k_is); (case a31 => k_is); (case l31 => k_is); (case c31 => k_is)
    (case k31 => k_is); (case a32 => k_is); (case l32 => k_is); (case c32 => k_is); (case k32 => k_is); (case a33 => k_is)
    (case l33 => k_is); (case c33 => k_is); (case k33 => k_is); (case a36 => k_is); (case l36 => k_is); (case c36 => k_is)
    (case k36 => k_is); (case a37 => k_is); (case l37 => k_is); (case c37 => k_is); (case k37 => k_is); (case a38 => k_is)
    (case l38 => k_is); (case c38 => k_is); (case k38 => k_is); (case a39 => k_is); (case l39 => k_is); (case c39 => k_is)
    (case k39 => k_is); (case pg0 => k_is); (case hd0 => k_is); (case po0 => k_is); (case sa0 => k_is); (case mk0 => k_is)
    (case kc0 => k_is); (case ow0 => k_is); (case mr0 => k_is); (case kk0_0 => (first | kit_is | kernel_rfl)); (case kt0_int => (first | kit_is | kernel_rfl)); (case kt0_bool => (first | kit_is | kernel_rfl))
    (case kt0_str => (first | kit_is | kernel_rfl)); (case kt0_tuple => (first | kit_is | kernel_rfl)); (case kt0_list => (first | kit_is | kernel_rfl)); (case tk0_NoneType => (first | kit_is | kernel_rfl)); (case tk0_bool => (first | kit_is | kernel_rfl)); (case tk0_int => (first | kit_is | kernel_rfl))
    (case tk0_str => (first | kit_is | kernel_rfl)); (case tk0_tuple => (first | kit_is | kernel_rfl)); (case tk0_list => (first | kit_is | kernel_rfl)); (case nA0_many => k_is); (case nA0_pairs => k_is); (case hn => k_is)
    (case htk => k_is); (case z_len => k_is); (case z_abs => k_is); (case z_int => k_is); (case z_min => k_is); (case z_max => k_is)
    (case z_sum => k_is); (case z_sorted => k_is); (case z_tuple => k_is); (case z_list => k_is); (case z_all => k_is); (case z_any => k_is)
    (case z_str => k_is); (case z_dict => k_is); (case z_bool => k_is); (case z_isinstance => k_is); (case z_range => k_is); (case z_enumerate => k_is)
    (case z_zip => k_is); (case z_reversed => k_is); (case nl => kernel_rfl)
#print axioms PySem.Challenge.cw_nozeroflows_k68_whole_sums_over_colours_holds

