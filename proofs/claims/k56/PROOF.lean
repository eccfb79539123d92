import PyProof.Rows.All
import Wide.All
import OpenK.AllK
import Wide.FinOn
import HandS.ForMost
import HandS.TupAny
import HandS.ForExc
import HandS.CallSlots
import HandS.Deep
import HandS.WideBits
import HandS.Defaults
import HandS.ExcCtx
import HandS.IsInst
import HandS.More
import KE.SortData
import PyProof.Rows.SeqCalls3
import HandS.Rev
import HandS.RevRange
import HandS.Zip
import HandS.Comp
import HandS.Small
import HandS.ExcIs
import HandS.Words
import HandS.EndBits
import HandS.HotCalls
import PySem.Challenge.RW_driftwood_k56_a_store_made
set_option Elab.async false
set_option linter.all false
set_option maxRecDepth 100000
/-! Dw1: plain data, the core language and its interpreter. -/
namespace Dw
open PySem

inductive D where
  | non | bl (b : Bool) | int (i : Int) | str (s : Str) | tup (ds : List D) | lst (ds : List D) | obj (c : Nat) (ds : List D) | ref (n : Nat)
  deriving Inhabited

inductive MO where
  | lst (ds : List D) | dct (kvs : List (L2.Key × D)) | ins (c : Nat) (ds : List D) | gone
  deriving Inhabited

abbrev Mem := List MO
/-- a slot: unbound, bound, the error at hand -/
inductive Sl where
  | no | is (d : D) | exc (c : Nat)
  deriving Inhabited
abbrev Env := List Sl

inductive Rs (α : Type) where
  | ok (a : α) (M : Mem) | exc (c : Nat) (M : Mem)
abbrev Ev (α : Type) := Option (Rs α)
def Ev.bind {α β : Type} (x : Ev α) (f : α → Mem → Ev β) : Ev β := match x with
  | none => none
  | some (.ok a M) => f a M
  | some (.exc c M) => some (.exc c M)
abbrev ok {α : Type} (a : α) (M : Mem) : Ev α := some (.ok a M)
def opt {α : Type} (x : Option α) (M : Mem) : Ev α := match x with
  | some a => some (.ok a M)
  | none => none

@[simp] theorem bind_ok {α β : Type} (a : α) (M : Mem) (f : α → Mem → Ev β) : Ev.bind (some (.ok a M)) f = f a M := rfl
@[simp] theorem bind_none {α β : Type} (f : α → Mem → Ev β) : Ev.bind none f = none := rfl
@[simp] theorem bind_exc {α β : Type} (c : Nat) (M : Mem) (f : α → Mem → Ev β) : Ev.bind (some (.exc c M)) f = some (.exc c M) := rfl
@[simp] theorem opt_some {α : Type} (a : α) (M : Mem) : opt (some a) M = some (.ok a M) := rfl
@[simp] theorem opt_none {α : Type} (M : Mem) : opt (none : Option α) M = none := rfl

/-! ### data -/
mutual
def deq : D → D → Bool
  | .non, y => match y with | .non => true | _ => false
  | .bl a, y => match y with | .bl b => a == b | .int j => (if a then 1 else 0) == j | _ => false
  | .int i, y => match y with | .bl b => i == (if b then 1 else 0) | .int j => i == j | _ => false
  | .str a, y => match y with | .str b => a == b | _ => false
  | .tup xs, y => match y with | .tup ys => deqs xs ys | _ => false
  | .lst xs, y => match y with | .lst ys => deqs xs ys | _ => false
  | .obj _ _, _ => false
  | .ref _, _ => false
def deqs : List D → List D → Bool
  | [], ys => match ys with | [] => true | _ => false
  | x :: xs, ys => match ys with | [] => false | y :: ys => deq x y && deqs xs ys
end
mutual
/-- plain data (nothing but None, bools, ints, texts, tuples, lists) of depth at most n -/
def flat : Nat → D → Bool
  | _, .non => true
  | _, .bl _ => true
  | _, .int _ => true
  | _, .str s => PyData.strOk s
  | n, .tup ds => match n with | 0 => false | n + 1 => flats n ds
  | n, .lst ds => match n with | 0 => false | n + 1 => flats n ds
  | _, .obj _ _ => false
  | _, .ref _ => false
def flats : Nat → List D → Bool
  | _, [] => true
  | n, d :: ds => flat n d && flats n ds
end
mutual
/-- no reference within -/
def clean : D → Bool
  | .non => true
  | .bl _ => true
  | .int _ => true
  | .str _ => true
  | .tup ds => cleans ds
  | .lst ds => cleans ds
  | .obj _ ds => cleans ds
  | .ref _ => false
def cleans : List D → Bool
  | [] => true
  | d :: ds => clean d && cleans ds
end
/-- the order of ints and of tuples of ints -/
def ints? : List D → Option (List Int)
  | [] => some []
  | .int i :: ds => match ints? ds with | some l => some (i :: l) | none => none
  | _ :: _ => none
def dlt : D → D → Option Bool
  | .int i, .int j => some (decide (i < j))
  | .tup xs, .tup ys => match ints? xs, ints? ys with | some a, some b => some (HT.lexLt a b) | _, _ => none
  | _, _ => none

def mulOk (i j : Int) : Bool := decide (i.natAbs.log2 + j.natAbs.log2 < 16777216)
def divOk (j : Int) : Bool := decide (0 < j) && decide (j.natAbs.log2 < 9000)

inductive Op2 where
  | add | sub | mul | fdiv | mod | pow | shl | shr | band | bor | bxor | eq | ne | lt | le | gt | ge | isin | notin
inductive Op1 where
  | neg | isN | notN | truth

def key? : D → Option L2.Key
  | .int i => some (.inl i)
  | .str s => some (.inr s)
  | _ => none
def keyD : L2.Key → D
  | .inl i => .int i
  | .inr s => .str s
def dget (kvs : List (L2.Key × D)) (k : L2.Key) : Option D := (kvs.find? fun kv => decide (kv.1 = k)).map (·.2)
def dput (kvs : List (L2.Key × D)) (k : L2.Key) (v : D) : List (L2.Key × D) :=
  if (kvs.any fun kv => decide (kv.1 = k)) = true then kvs.map (fun kv => if kv.1 = k then (kv.1, v) else kv) else kvs ++ [(k, v)]
def ddel (kvs : List (L2.Key × D)) (k : L2.Key) : List (L2.Key × D) := kvs.filter fun kv => decide (kv.1 ≠ k)

def eqD (x y : D) : Option Bool := match x with
  | .str a => (match y with | .str b => some (a == b) | y => if flat 60 (.str a) && flat 60 y then some (deq (.str a) y) else none)
  | x => if flat 60 x && flat 60 y then some (deq x y) else none
def scalar : D → Bool
  | .non => true
  | .bl _ => true
  | .int _ => true
  | .str _ => true
  | _ => false
def isin (x : D) (y : D) (M : Mem) : Option Bool := match y with
  | .lst ds => if flat 60 x && flats 59 ds then some (ds.any fun d => deq d x) else none
  | .tup ds => if scalar x && ds.all scalar then some (ds.any fun d => deq d x) else none
  | .str s => match x with | .str c => if c.length = 1 then some (decide (c.cps.getD 0 0 ∈ s.cps.toList)) else none | _ => none
  | .ref n => match M[n]?, key? x with | some (.dct kvs), some k => some (dget kvs k).isSome | _, _ => none
  | _ => none

def binop (o : Op2) (x y : D) (M : Mem) : Option D := match o with
  | .add => match x, y with
    | .int i, .int j => some (.int (i + j))
    | .str a, .str b => if a.length + b.length ≤ sizeLine then some (.str (a ++ b)) else none
    | .tup a, .tup b => if a.length + b.length ≤ sizeLine then some (.tup (a ++ b)) else none
    | .lst a, .lst b => if a.length + b.length ≤ sizeLine then some (.lst (a ++ b)) else none
    | _, _ => none
  | .sub => match x, y with | .int i, .int j => some (.int (i - j)) | _, _ => none
  | .mul => match x, y with | .int i, .int j => if mulOk i j then some (.int (i * j)) else none | _, _ => none
  | .fdiv => match x, y with | .int i, .int j => if divOk j then some (.int (i / j)) else none | _, _ => none
  | .mod => match x, y with | .int i, .int j => if 0 < j then some (.int (i % j)) else none | _, _ => none
  | .pow => match x, y with | .int i, .int j => if 0 ≤ j ∧ j ≤ 1000000 ∧ i.natAbs < 2 ^ 64 then some (.int (i ^ j.toNat)) else none | _, _ => none
  | .shl => match x, y with | .int i, .int j => if 0 ≤ j ∧ j ≤ 1000000 ∧ i.natAbs < 2 ^ 64 then some (.int (i * 2 ^ j.toNat)) else none | _, _ => none
  | .shr => match x, y with | .int i, .int j => if 0 ≤ j then some (.int (i / 2 ^ j.toNat)) else none | _, _ => none
  | .band => match x, y with | .int i, .int j => some (.int (Builtin.bitAnd i j)) | _, _ => none
  | .bor => match x, y with | .int i, .int j => some (.int (Builtin.bitOr i j)) | _, _ => none
  | .bxor => match x, y with | .int i, .int j => some (.int (Builtin.bitXor i j)) | _, _ => none
  | .eq => match eqD x y with | some b => some (.bl b) | none => none
  | .ne => match eqD x y with | some b => some (.bl (!b)) | none => none
  | .lt => match dlt x y with | some b => some (.bl b) | none => none
  | .le => match x, y with | .int i, .int j => some (.bl (decide (i ≤ j))) | _, _ => none
  | .gt => match x, y with | .int i, .int j => some (.bl (decide (j < i))) | _, _ => none
  | .ge => match x, y with | .int i, .int j => some (.bl (decide (j ≤ i))) | _, _ => none
  | .isin => match isin x y M with | some b => some (.bl b) | none => none
  | .notin => match isin x y M with | some b => some (.bl (!b)) | none => none

def truth : D → Mem → Option Bool
  | .non, _ => some false
  | .bl b, _ => some b
  | .int i, _ => some (i != 0)
  | .tup ds, _ => some (!ds.isEmpty)
  | .lst ds, _ => some (!ds.isEmpty)
  | _, _ => none

def D.isN : D → Bool
  | .non => true
  | _ => false
def unop (o : Op1) (x : D) : Option D := match o with
  | .neg => match x with | .int i => some (.int (-i)) | _ => none
  | .isN => some (.bl x.isN)
  | .notN => some (.bl (!x.isN))
  | .truth => none

/-- a place in a sequence -/
def index (x i : D) (M : Mem) : Option D := match x with
  | .tup ds => match i with | .int k => L2.atI ds k | _ => none
  | .lst ds => match i with | .int k => L2.atI ds k | _ => none
  | .str s => match i with | .int k => if s.length ≤ sizeLine then (match L2.atI s.cps.toList k with | some c => some (.str ⟨#[c]⟩) | none => none) else none | _ => none
  | .ref n => match M[n]? with
    | some (.lst ds) => (match i with | .int k => L2.atI ds k | _ => none)
    | some (.dct kvs) => (match key? i with | some k => dget kvs k | none => none)
    | _ => none
  | _ => none
def part? : Bool → D → Option (Option Int)
  | false, _ => some none
  | true, .int i => some (some i)
  | _, _ => none
def cut {α : Type} (xs : List α) (lo hi : Option Int) : List α := (xs.drop (HT.sIx xs.length 0 lo)).take (HT.sIx xs.length xs.length hi - HT.sIx xs.length 0 lo)
def slice (x : D) (l h : Option Int) : Option D := match x with
  | .tup ds => some (.tup (cut ds l h))
  | .lst ds => some (.lst (cut ds l h))
  | _ => none

inductive Ty where
  | int | bool | str | tuple | list
inductive Bi where
  | len | min | max | sum | any | all | sorted | tuple | list | divmod | int | revlist | isinst (t : Ty)
def bls? : List D → Option (List Bool)
  | [] => some []
  | .bl i :: ds => match bls? ds with | some l => some (i :: l) | none => none
  | _ :: _ => none
def leastI : Int → List Int → Int
  | m, [] => m
  | m, x :: r => leastI (if x < m then x else m) r
def mostI : Int → List Int → Int
  | m, [] => m
  | m, x :: r => mostI (if m < x then x else m) r
/-- what sorted makes of plain data, by a total order given as a test «not after» -/
def isTy : Ty → D → Option Bool
  | .int, x => match x with | .int _ => some true | .bl _ => some true | .non => some false | .str _ => some false | .tup _ => some false | .lst _ => some false | _ => none
  | .bool, x => match x with | .bl _ => some true | .int _ => some false | .non => some false | .str _ => some false | .tup _ => some false | .lst _ => some false | _ => none
  | .str, x => match x with | .str _ => some true | .int _ => some false | .bl _ => some false | .non => some false | .tup _ => some false | .lst _ => some false | _ => none
  | .tuple, x => match x with | .tup _ => some true | .int _ => some false | .bl _ => some false | .non => some false | .str _ => some false | .lst _ => some false | _ => none
  | .list, x => match x with | .lst _ => some true | .int _ => some false | .bl _ => some false | .non => some false | .str _ => some false | .tup _ => some false | _ => none

/-- the items of what is walked -/
def seq? (x : D) (M : Mem) : Option (List D) := match x with
  | .tup ds => some ds
  | .lst ds => some ds
  | .ref n => match M[n]? with | some (.lst ds) => some ds | _ => none
  | _ => none
def seqD? (x : D) (M : Mem) : Option (List D) := match x with
  | .tup ds => some ds
  | .lst ds => some ds
  | .ref n => match M[n]? with | some (.lst ds) => some ds | some (.dct kvs) => some (kvs.map fun p => keyD p.1) | _ => none
  | _ => none
/-- ascending order of what is sorted: ints, or tuples of ints of one length -/
def intList? : D → Option (List Int)
  | .int i => some [i]
  | .tup ds => ints? ds
  | _ => none
def sortKey (d : D) : List Int := match intList? d with | some l => l | none => []
def sameShape : D → D → Bool
  | .int _, .int _ => true
  | .tup a, .tup b => a.length == b.length && (ints? a).isSome && (ints? b).isSome && !a.isEmpty
  | _, _ => false
def notAfter (x y : D) : Bool := !HT.lexLt (sortKey y) (sortKey x)
def sortD (ds : List D) : Option (List D) := match ds with
  | [] => some []
  | d :: r => if (d :: r).all (sameShape d) then some ((d :: r).mergeSort notAfter) else none
def seqL? (x : D) (M : Mem) : Option (List D) := match x with
  | .lst ds => some ds
  | .ref n => match M[n]? with | some (.lst ds) => some ds | _ => none
  | _ => none
/-- the keys of a dict of ints -/
def keys? (x : D) (M : Mem) : Option (List Int) := match x with
  | .ref n => match M[n]? with | some (.dct kvs) => ints? (kvs.map fun p => keyD p.1) | _ => none
  | _ => none
def one? (ds : List D) (g : D → Option D) : Option D := match ds with
  | [x] => g x
  | _ => none
def bi (b : Bi) (ds : List D) (M : Mem) : Option D := match b with
  | .len => match ds with
    | [.str s] => if s.length ≤ sizeLine then some (.int s.length) else none
    | [.ref n] => (match M[n]? with | some (.lst l) => some (.int l.length) | some (.dct l) => some (.int l.length) | _ => none)
    | [.tup l] => some (.int l.length)
    | [.lst l] => some (.int l.length)
    | _ => none
  | .min => match ds with
    | [.int i, .int j] => some (.int (if j < i then j else i))
    | [x] => (match seqL? x M with | some l => (match ints? l with | some (i :: r) => some (.int (leastI i r)) | _ => none) | none => none)
    | _ => none
  | .max => match ds with
    | [.int i, .int j] => some (.int (if i < j then j else i))
    | [x] => (match seqL? x M with | some l => (match ints? l with | some (i :: r) => some (.int (mostI i r)) | _ => none) | none => none)
    | [.int i, .int j, .int k] => some (.int (mostI i [j, k]))
    | _ => none
  | .sum => one? ds fun x => match seqL? x M with | some l => (match ints? l with | some r => some (.int r.sum) | none => none) | none => none
  | .any => one? ds fun x => match seqL? x M with | some l => (match bls? l with | some r => some (.bl (r.any id)) | none => none) | none => none
  | .all => one? ds fun x => match seqL? x M with | some l => (match bls? l with | some r => some (.bl (r.all id)) | none => none) | none => none
  | .sorted => one? ds fun x => match seqL? x M with
      | some l => (match sortD l with | some r => some (.lst r) | none => none)
      | none => (match keys? x M with | some ks => if ks.length < 64 then some (.lst ((ks.mergeSort fun a b => decide (a ≤ b)).map D.int)) else none | none => none)
  | .tuple => one? ds fun x => match seq? x M with | some l => some (.tup l) | none => none
  | .list => one? ds fun x => match seqD? x M with | some l => some (.lst l) | none => none
  | .revlist => one? ds fun x => match seqL? x M with | some l => some (.lst l.reverse) | none => none
  | .divmod => match ds with | [.int i, .int j] => if 0 < j ∧ j < 1073741824 then some (.tup [.int (i / j), .int (i % j)]) else none | _ => none
  | .int => match ds with | [.bl b] => some (.int (if b then 1 else 0)) | [.int i] => some (.int i) | _ => none
  | .isinst t => one? ds fun x => match isTy t x with | some b => some (.bl b) | none => none

/-- what a for or a comprehension walks -/
inductive Wk where
  | val | range1 | range2 | zip | enum | rev | revrange1
def zipD : List D → List D → List D
  | x :: xs, y :: ys => .tup [x, y] :: zipD xs ys
  | _, _ => []
def enumD : Nat → List D → List D
  | _, [] => []
  | i, x :: xs => .tup [.int i, x] :: enumD (i + 1) xs
def rangeD (lo : Int) (n : Nat) : List D := (List.range n).map fun (k : Nat) => D.int (lo + (k : Int))
def items (k : Wk) (ds : List D) (M : Mem) : Option (List D) := match k with
  | .val => match ds with | [.tup l] => some l | [.lst l] => some l | _ => none
  | .range1 => match ds with | [.int j] => if -16777216 ≤ j ∧ j ≤ 16777216 then some (rangeD 0 j.toNat) else none | _ => none
  | .range2 => match ds with | [.int i, .int j] => if -16777216 ≤ i ∧ i ≤ 16777216 ∧ -16777216 ≤ j ∧ j ≤ 16777216 then some (rangeD i (j - i).toNat) else none | _ => none
  | .zip => match ds with | [.tup a, .tup b] => some (zipD a b) | [.lst a, .lst b] => some (zipD a b) | _ => none
  | .enum => match ds with | [.tup a] => some (enumD 0 a) | [.lst a] => some (enumD 0 a) | _ => none
  | .rev => match ds with | [.tup a] => some a.reverse | [.lst a] => some a.reverse | _ => none
  | .revrange1 => match ds with | [.int j] => if -16777216 ≤ j ∧ j ≤ 16777216 then some (rangeD 0 j.toNat).reverse else none | _ => none

/-- targets -/
inductive Tgt where
  | name (i : Nat) | tup (is : List Nat)
def setAll : List Nat → List D → Env → Option Env
  | [], [], ε => some ε
  | i :: is, d :: ds, ε => setAll is ds (ε.set i (.is d))
  | _, _, _ => none
def bindT (t : Tgt) (ε : Env) (d : D) : Option Env := match t with
  | .name i => some (ε.set i (.is d))
  | .tup is => match d with | .tup ds => setAll is ds ε | .lst ds => none | _ => none
def wipe (ε : Env) : List Nat → Env
  | [] => ε
  | i :: is => (wipe ε is).set i .no

inductive Bm where
  | append | extend | pop | clear | get | dpop | values
inductive E where
  | loc (i : Nat) | con (d : D)
  | bin (o : Op2) (a b : E) | un (o : Op1) (a : E) | chain (o1 o2 : Op2) (a b c : E)
  | and (a b : E) | or (a b : E) | not (a : E) | ite (c a b : E)
  | tup (es : List E) | lst (es : List E) | dct
  | idx (a b : E) | slice (p q : Bool) (a lo hi : E)
  | fld (a : E) (f : Nat)
  | call (g : Nat) (es : List E) | make (c g : Nat) (es : List E) | makeO (c g : Nat) (es : List E) | meth (m : Nat) (a : E) (es : List E)
  | bi (b : Bi) (es : List E) | bm (m : Bm) (a : E) (es : List E)
  | sortKey (g : Nat) (a : E)
  | comp (own : List Nat) (t : Tgt) (k : Wk) (es : List E) (c : Option E) (elt : E)
  | box (a : E) | frz (a : E)
  | isExc (i : Nat) (c : Nat) | callE (g i : Nat)
  deriving Inhabited

inductive S where
  | asg (t : Tgt) (e : E) | par (i j : Nat) (a b : E) | fld (o : E) (f : Nat) (e : E) | sub (o i e : E) | aug (i : Nat) (o : Op2) (e : E) | augFld (a : E) (f : Nat) (o : Op2) (e : E)
  | never | expr (e : E) | ite (c : E) (a b : List S) | for_ (t : Tgt) (k : Wk) (es : List E) (body : List S) | while_ (c : E) (body : List S)
  | frz (i : Nat) | ret (e : E) | raise (c : Nat) | try_ (body : List S) (hs : List (Nat × Option Nat × List S)) | brk | pass
  deriving Inhabited

structure Cfg where
  Φ : Nat → List D → Mem → Ev D
  Φx : Nat → Nat → Mem → Ev D
  meth : Nat → Nat → Option Nat
  fix : Nat → Nat → Option Nat
  sub : Nat → Nat → Option Bool
  wf : Nat

def fieldOf (C : Cfg) (x : D) (f : Nat) (M : Mem) : Option D := match x with
  | .obj c ds => match C.fix c f with | some k => ds[k]? | none => none
  | .ref n => match M[n]? with | some (.ins c ds) => (match C.fix c f with | some k => ds[k]? | none => none) | _ => none
  | _ => none
def clsOf (x : D) (M : Mem) : Option Nat := match x with
  | .obj c _ => some c
  | .ref n => match M[n]? with | some (.ins c _) => some c | _ => none
  | _ => none
def bmR (m : Bm) (x : D) (ds : List D) (M : Mem) : Ev D := match x with
  | .ref n => match m with
    | .append => match M[n]?, ds with | some (.lst l), [d] => if l.length < sizeLine then some (.ok .non (M.set n (.lst (l ++ [d])))) else none | _, _ => none
    | .extend => match M[n]?, ds with | some (.lst l), [d] => (match seq? d M with | some r => if l.length + r.length ≤ sizeLine then some (.ok .non (M.set n (.lst (l ++ r)))) else none | none => none) | _, _ => none
    | .pop => match M[n]?, ds with | some (.lst l), [] => (match l.getLast? with | some d => some (.ok d (M.set n (.lst l.dropLast))) | none => none) | _, _ => none
    | .clear => match M[n]?, ds with | some (.lst _), [] => some (.ok .non (M.set n (.lst []))) | _, _ => none
    | .get => match M[n]?, ds with | some (.dct l), [k, d] => (match key? k with | some k => some (.ok (match dget l k with | some v => v | none => d) M) | none => none) | _, _ => none
    | .dpop => match M[n]?, ds with | some (.dct l), [k] => (match key? k with | some k => (match dget l k with | some v => some (.ok v (M.set n (.dct (ddel l k)))) | none => none) | none => none) | _, _ => none
    | .values => match M[n]?, ds with | some (.dct l), [] => some (.ok (.lst (l.map (·.2))) M) | _, _ => none
  | _ => none

def isLst : Option MO → Bool
  | some (.lst _) => true
  | _ => false
def isDct : Option MO → Bool
  | some (.dct _) => true
  | _ => false
def bmTy (m : Bm) (x : D) (M : Mem) : Bool := match x with
  | .ref n => match m with
    | .append => isLst M[n]?
    | .extend => isLst M[n]?
    | .pop => isLst M[n]?
    | .clear => isLst M[n]?
    | .get => isDct M[n]?
    | .dpop => isDct M[n]?
    | .values => isDct M[n]?
  | _ => false
def compLoop (f : Env → Mem → Ev Bool) (g : Env → Mem → Ev D) (t : Tgt) (ε : Env) : List D → List D → Mem → Ev (List D)
  | [], acc, M => some (.ok acc M)
  | x :: xs, acc, M => match bindT t ε x with
    | none => none
    | some ε' => match f ε' M with
      | some (.ok true M) => match g ε' M with
        | some (.ok y M) => compLoop f g t ε xs (acc ++ [y]) M
        | _ => none
      | some (.ok false M) => compLoop f g t ε xs acc M
      | _ => none
/-- keys reckoned, in the order of the items -/
def keysOf (Φ : List D → Mem → Ev D) : List D → Mem → Option (List D)
  | [], _ => some []
  | x :: xs, M => match Φ [x] M with
    | some (.ok k M') => match keysOf Φ xs M with | some r => some (k :: r) | none => none
    | _ => none

def sortBy (ks ds : List D) : Option (List D) := match ks with
  | [] => some ds
  | k :: _ => if ks.all (sameShape k) then some (((ks.zip ds).mergeSort fun a b => notAfter a.1 b.1).map (·.2)) else none

mutual
def eval (C : Cfg) : E → Env → Mem → Ev D
  | .loc i, ε, M => match ε[i]? with | some (.is d) => some (.ok d M) | _ => none
  | .con d, _, M => some (.ok d M)
  | .bin o a b, ε, M => (eval C a ε M).bind fun x M => (eval C b ε M).bind fun y M => opt (binop o x y M) M
  | .un o a, ε, M => (eval C a ε M).bind fun x M => opt (unop o x) M
  | .chain o1 o2 a b c, ε, M => (eval C a ε M).bind fun x M => (eval C b ε M).bind fun y M => match binop o1 x y M with
    | some (.bl true) => (eval C c ε M).bind fun z M => opt (binop o2 y z M) M
    | some (.bl false) => some (.ok (.bl false) M)
    | _ => none
  | .and a b, ε, M => (eval C a ε M).bind fun x M => match x with | .bl true => eval C b ε M | .bl false => some (.ok (.bl false) M) | _ => none
  | .or a b, ε, M => (eval C a ε M).bind fun x M => match x with | .bl false => eval C b ε M | .bl true => some (.ok (.bl true) M) | _ => none
  | .not a, ε, M => (eval C a ε M).bind fun x M => match x with | .bl b => some (.ok (.bl (!b)) M) | _ => none
  | .ite c a b, ε, M => (eval C c ε M).bind fun x M => match truth x M with | some true => eval C a ε M | some false => eval C b ε M | none => none
  | .tup es, ε, M => (evals C es ε M).bind fun ds M => some (.ok (.tup ds) M)
  | .lst es, ε, M => (evals C es ε M).bind fun ds M => some (.ok (.lst ds) M)
  | .dct, _, M => some (.ok (.ref M.length) (M ++ [.dct []]))
  | .idx a b, ε, M => (eval C a ε M).bind fun x M => (eval C b ε M).bind fun y M => opt (index x y M) M
  | .slice p q a lo hi, ε, M => (eval C a ε M).bind fun x M => (eval C lo ε M).bind fun l M => (match part? p l with
    | some l => (eval C hi ε M).bind fun h M => (match part? q h with | some h => opt (slice x l h) M | none => none)
    | none => none)
  | .fld a f, ε, M => (eval C a ε M).bind fun x M => opt (fieldOf C x f M) M
  | .call g es, ε, M => (evals C es ε M).bind fun ds M => C.Φ g ds M
  | .make c g es, ε, M => (evals C es ε M).bind fun ds M => (C.Φ g (.ref M.length :: ds) (M ++ [.ins c []])).bind fun r M' => match r with | .non => some (.ok (.ref M.length) M') | _ => none
  | .makeO c g es, ε, M => (evals C es ε M).bind fun ds M => (C.Φ g (.ref M.length :: ds) (M ++ [.ins c []])).bind fun r M' => match r, M'[M.length]? with
    | .non, some (.ins c fs) => if cleans fs then some (.ok (.obj c fs) (M'.take M.length)) else none
    | _, _ => none
  | .meth m a es, ε, M => (eval C a ε M).bind fun x M => match clsOf x M with
    | some c => match C.meth c m with
      | some g => (evals C es ε M).bind fun ds M => C.Φ g (x :: ds) M
      | none => none
    | none => none
  | .bi b es, ε, M => (evals C es ε M).bind fun ds M => opt (bi b ds M) M
  | .bm m a es, ε, M => (eval C a ε M).bind fun x M => if bmTy m x M then (evals C es ε M).bind fun ds M => bmR m x ds M else none
  | .sortKey g a, ε, M => (eval C a ε M).bind fun x M => match seq? x M with
    | some l => (match keysOf (C.Φ g) l M with | some ks => (match sortBy ks l with | some r => some (.ok (.lst r) M) | none => none) | none => none)
    | none => none
  | .comp own t k es c elt, ε, M => (evals C es ε M).bind fun ds M => match items k ds M with
    | some xs => if xs.length ≤ sizeLine then (compLoop (evalO C c) (eval C elt) t (wipe ε own) xs [] M).bind fun ys M => some (.ok (.lst ys) M) else none
    | none => none
  | .box a, ε, M => (eval C a ε M).bind fun x M => match x with | .lst ds => some (.ok (.ref M.length) (M ++ [.lst ds])) | _ => none
  | .frz a, ε, M => (eval C a ε M).bind fun x M => match x with
    | .ref n => match M[n]? with | some (.lst ds) => some (.ok (.lst ds) (M.set n .gone)) | _ => none
    | _ => none
  | .isExc i c, ε, M => match ε[i]? with | some (.exc k) => (match C.sub k c with | some b => some (.ok (.bl b) M) | none => none) | _ => none
  | .callE g i, ε, M => match ε[i]? with | some (.exc k) => C.Φx g k M | _ => none
def evals (C : Cfg) : List E → Env → Mem → Ev (List D)
  | [], _, M => some (.ok [] M)
  | e :: es, ε, M => (eval C e ε M).bind fun d M => (evals C es ε M).bind fun ds M => some (.ok (d :: ds) M)
def evalO (C : Cfg) : Option E → Env → Mem → Ev Bool
  | none, _, M => some (.ok true M)
  | some e, ε, M => (eval C e ε M).bind fun x M => opt (truth x M) M
end

inductive RS where
  | next (ε : Env) (M : Mem) | ret (d : D) (M : Mem) | brk (ε : Env) (M : Mem) | exc (c : Nat) (ε : Env) (M : Mem)
def onE {α : Type} (x : Ev α) (ε : Env) (f : α → Mem → Option RS) : Option RS := match x with
  | none => none
  | some (.ok a M) => f a M
  | some (.exc c M) => some (.exc c ε M)
@[simp] theorem onE_ok {α : Type} (a : α) (M : Mem) (ε : Env) (f : α → Mem → Option RS) : onE (some (.ok a M)) ε f = f a M := rfl
@[simp] theorem onE_none {α : Type} (ε : Env) (f : α → Mem → Option RS) : onE none ε f = none := rfl
@[simp] theorem onE_exc {α : Type} (c : Nat) (M : Mem) (ε : Env) (f : α → Mem → Option RS) : onE (some (.exc c M)) ε f = some (.exc c ε M) := rfl

def forLoop (f : Env → Mem → Option RS) (t : Tgt) : List D → Env → Mem → Option RS
  | [], ε, M => some (.next ε M)
  | x :: xs, ε, M => match bindT t ε x with
    | none => none
    | some ε' => match f ε' M with
      | some (.next ε M) => forLoop f t xs ε M
      | some (.brk ε M) => some (.next ε M)
      | some (.ret d M) => some (.ret d M)
      | some (.exc c ε M) => some (.exc c ε M)
      | none => none
def whileLoop (c : Env → Mem → Ev Bool) (f : Env → Mem → Option RS) : Nat → Env → Mem → Option RS
  | 0, _, _ => none
  | n + 1, ε, M => onE (c ε M) ε fun b M => match b with
    | true => (match f ε M with
      | some (.next ε M) => whileLoop c f n ε M
      | some (.brk ε M) => some (.next ε M)
      | some (.ret d M) => some (.ret d M)
      | some (.exc c ε M) => some (.exc c ε M)
      | none => none)
    | false => some (.next ε M)
def subSet (x y d : D) (M : Mem) : Option Mem := match x with
  | .ref n => match M[n]? with
    | some (.lst ds) => (match y with | .int k => (match L2.ixN ds.length k with | some j => some (M.set n (.lst (ds.set j d))) | none => none) | _ => none)
    | some (.dct kvs) => (match key? y with | some k => if kvs.length < sizeLine then some (M.set n (.dct (dput kvs k d))) else none | none => none)
    | _ => none
  | _ => none
def fldSet (C : Cfg) (x : D) (f : Nat) (d : D) (M : Mem) : Option Mem := match x with
  | .ref n => match M[n]? with
    | some (.ins c ds) => (match C.fix c f with
      | some k => if k < ds.length then some (M.set n (.ins c (ds.set k d))) else if k = ds.length ∧ k < 100 then some (M.set n (.ins c (ds ++ [d]))) else none
      | none => none)
    | _ => none
  | _ => none
def bindO (i : Option Nat) (ε : Env) (d : Sl) : Env := match i with
  | some i => ε.set i d
  | none => ε
/-- behind an except suite its name goes -/
def unbind (i : Option Nat) (r : Option RS) : Option RS := match r with
  | some (.next ε M) => some (.next (bindO i ε .no) M)
  | some (.brk ε M) => some (.brk (bindO i ε .no) M)
  | some (.ret d M) => some (.ret d M)
  | _ => none

mutual
def exec (C : Cfg) : S → Env → Mem → Option RS
  | .asg t e, ε, M => onE (eval C e ε M) ε fun d M => match bindT t ε d with | some ε' => some (.next ε' M) | none => none
  | .par i j a b, ε, M => onE (eval C a ε M) ε fun x M => onE (eval C b ε M) ε fun y M => some (.next ((ε.set i (.is x)).set j (.is y)) M)
  | .fld o f e, ε, M => onE (eval C e ε M) ε fun d M => onE (eval C o ε M) ε fun x M => match fldSet C x f d M with | some M' => some (.next ε M') | none => none
  | .sub o i e, ε, M => onE (eval C e ε M) ε fun d M => onE (eval C o ε M) ε fun x M => onE (eval C i ε M) ε fun y M => match subSet x y d M with | some M' => some (.next ε M') | none => none
  | .aug i o e, ε, M => (match ε[i]? with
    | some (.is x) => onE (eval C e ε M) ε fun y M => (match x, y, binop o x y M with | .int _, .int _, some d => some (.next (ε.set i (.is d)) M) | _, _, _ => none)
    | _ => none)
  | .augFld a f o e, ε, M => onE (eval C a ε M) ε fun x M => (match fieldOf C x f M with
    | some u => onE (eval C e ε M) ε fun y M => (match u, y, binop o u y M with | .int _, .int _, some d => (match fldSet C x f d M with | some M' => some (.next ε M') | none => none) | _, _, _ => none)
    | none => none)
  | .expr e, ε, M => onE (eval C e ε M) ε fun _ M => some (.next ε M)
  | .ite c a b, ε, M => onE (eval C c ε M) ε fun x M => match truth x M with | some true => execs C a ε M | some false => execs C b ε M | none => none
  | .for_ t k es body, ε, M => onE (evals C es ε M) ε fun ds M => match items k ds M with | some xs => forLoop (execs C body) t xs ε M | none => none
  | .while_ c body, ε, M => whileLoop (fun ε M => (eval C c ε M).bind fun x M => opt (truth x M) M) (execs C body) C.wf ε M
  | .frz i, ε, M => (match ε[i]? with
    | some (.is (.ref n)) => (match M[n]? with | some (.lst ds) => some (.next (ε.set i (.is (.lst ds))) (M.set n .gone)) | _ => none)
    | _ => none)
  | .ret e, ε, M => onE (eval C e ε M) ε fun d M => some (.ret d M)
  | .raise c, ε, M => some (.exc c ε M)
  | .try_ body hs, ε, M => match execs C body ε M with
    | some (.exc c ε' M') => handle C hs c ε' M'
    | r => r
  | .brk, ε, M => some (.brk ε M)
  | .pass, ε, M => some (.next ε M)
  | .never, _, _ => none
def execs (C : Cfg) : List S → Env → Mem → Option RS
  | [], ε, M => some (.next ε M)
  | s :: ss, ε, M => match exec C s ε M with
    | some (.next ε M) => execs C ss ε M
    | r => r
def handle (C : Cfg) : List (Nat × Option Nat × List S) → Nat → Env → Mem → Option RS
  | [], c, ε, M => some (.exc c ε M)
  | (k, i, ss) :: hs, c, ε, M => match C.sub c k with | some true => unbind i (execs C ss (bindO i ε (.exc c)) M) | some false => handle C hs c ε M | none => none
end

structure Fn where
  ar : Nat
  sl : Nat
  body : List S
  loc : Bool
structure Prog where
  fn : Nat → Option Fn
  meth : Nat → Nat → Option Nat
  fix : Nat → Nat → Option Nat
  sub : Nat → Nat → Option Bool
  wf : Nat
def start (ds : List D) (sl : Nat) : Env := ds.map Sl.is ++ List.replicate (sl - ds.length) .no
/-- the end of a def that keeps to itself: its answer holds no reference, or it is a list of its own -/
def fin (r : Option RS) (M : Mem) : Ev D := match r with
  | some (.next _ _) => some (.ok .non M)
  | some (.ret d M') => if clean d then some (.ok d M) else (match d with
    | .ref k => (match M'[k]? with | some (.lst l) => if cleans l then some (.ok (.lst l) M) else none | _ => none)
    | _ => none)
  | some (.exc c _ _) => some (.exc c M)
  | _ => none
def finG (r : Option RS) : Ev D := match r with
  | some (.next _ M) => some (.ok .non M)
  | some (.ret d M) => some (.ok d M)
  | some (.exc c _ M) => some (.exc c M)
  | _ => none
def noExc (r : Ev D) : Ev D := match r with
  | some (.ok d M) => some (.ok d M)
  | _ => none
/-- a def that is handed the error at hand -/
def callX (P : Prog) : Nat → Nat → Nat → Mem → Ev D
  | 0, _, _, _ => none
  | _ + 1, g, c, M => match P.fn g with
    | none => none
    | some f => noExc <| fin (execs ⟨fun _ _ _ => none, fun _ _ _ => none, P.meth, P.fix, P.sub, P.wf⟩ f.body (.exc c :: List.replicate (f.sl - 1) .no) []) M
def Prog.cfg (P : Prog) (n : Nat) (Φ : Nat → List D → Mem → Ev D) : Cfg := ⟨Φ, callX P n, P.meth, P.fix, P.sub, P.wf⟩
def callN (P : Prog) : Nat → Nat → List D → Mem → Ev D
  | 0, _, _, _ => none
  | n + 1, g, ds, M => match P.fn g with
    | none => none
    | some f => if ds.length = f.ar then
        (if f.loc then (if cleans ds then fin (execs (P.cfg n (callN P n)) f.body (start ds f.sl) []) M else none)
         else finG (execs (P.cfg n (callN P n)) f.body (start ds f.sl) M))
      else none
end Dw
/-! Dw2: how data stand in the abstract heap; the state's relation. -/
namespace Dw
open PySem L2

/-- own classes: where they stand, their fields; the exception at hand -/
structure Wd where
  ca : Nat → Addr
  fl : Nat → List Str

/-- with the error at hand: its slot, its place, its class -/
structure We extends Wd where
  ea : Option (Nat × Addr × Nat)
instance : Coe We Wd := ⟨We.toWd⟩

abbrev Th := Nat → Option Addr
section
variable (K : PySem.W.Frag) (A : Wd)
mutual
inductive Rep (Hd : Hp) (θ : Th) : V → D → Prop
  | non : Rep Hd θ .non .non
  | bl (b : Bool) : Rep Hd θ (.bl b) (.bl b)
  | int (i : Int) : Rep Hd θ (.int i) (.int i)
  | str (s : Str) : Rep Hd θ (.str s) (.str s)
  | tup {a : Addr} {xs : List V} {ds : List D} : SqT K Hd a xs → Reps Hd θ xs ds → Rep Hd θ (.ref a) (.tup ds)
  | lst {a : Addr} {xs : List V} {ds : List D} : SqL K Hd a xs → Reps Hd θ xs ds → Rep Hd θ (.ref a) (.lst ds)
  | obj {a dx : Addr} {c : Nat} {fs : List (Str × V)} {ds : List D} : Hd a = some (.ins (A.ca c) dx fs) → fs.map (·.1) = (A.fl c).take ds.length → ds.length ≤ (A.fl c).length → Reps Hd θ (fs.map (·.2)) ds → Rep Hd θ (.ref a) (.obj c ds)
  | ref {a : Addr} {n : Nat} : θ n = some a → Rep Hd θ (.ref a) (.ref n)
inductive Reps (Hd : Hp) (θ : Th) : List V → List D → Prop
  | nil : Reps Hd θ [] []
  | cons {v : V} {vs : List V} {d : D} {ds : List D} : Rep Hd θ v d → Reps Hd θ vs ds → Reps Hd θ (v :: vs) (d :: ds)
end
end

def Sub (θ θ' : Th) : Prop := ∀ n a, θ n = some a → θ' n = some a
theorem Sub.refl (θ : Th) : Sub θ θ := fun _ _ h => h
theorem Sub.trans {a b c : Th} (h : Sub a b) (h' : Sub b c) : Sub a c := fun n x e => h' n x (h n x e)
structure Ext (θ : Th) (Hd : Hp) (θ' : Th) (Hd' : Hp) : Prop where
  h : Same Hd Hd'
  t : Sub θ θ'
theorem Ext.refl (θ : Th) (Hd : Hp) : Ext θ Hd θ Hd := ⟨Same.refl _, Sub.refl _⟩
theorem Ext.trans {a b c : Th} {x y z : Hp} (h : Ext a x b y) (h' : Ext b y c z) : Ext a x c z := ⟨h.h.trans h'.h, h.t.trans h'.t⟩

theorem rd_mono {H H' : Hp} {a : Addr} {u : HO} (e : Same H H') (h : Rd H a u) : Rd H' a u := by
  rcases h with h | ⟨o, h⟩
  · exact .inl (e _ _ h)
  · exact .inr ⟨o, e _ _ h⟩
theorem sqL_mono {K : PySem.W.Frag} {H H' : Hp} {a : Addr} {xs : List V} (e : Same H H') (h : SqL K H a xs) : SqL K H' a xs := h.imp (fun h => rd_mono e h) fun h => h
theorem sqT_mono {K : PySem.W.Frag} {H H' : Hp} {a : Addr} {xs : List V} (e : Same H H') (h : SqT K H a xs) : SqT K H' a xs := by
  rcases h with (h | ⟨o, h⟩) | h
  · exact .inl (.inl (e _ _ h))
  · exact .inl (.inr ⟨o, e _ _ h⟩)
  · exact .inr h

section
variable {K : PySem.W.Frag} {A : Wd} {Hd Hd' : Hp} {θ θ' : Th}
mutual
theorem Rep.mono (E : Ext θ Hd θ' Hd') : ∀ (d : D) (v : V), Rep K A Hd θ v d → Rep K A Hd' θ' v d
  | .non, _, h => by cases h; exact .non
  | .bl _, _, h => by cases h; exact .bl _
  | .int _, _, h => by cases h; exact .int _
  | .str _, _, h => by cases h; exact .str _
  | .tup ds, _, h => by cases h with | tup h1 h2 => exact .tup (sqT_mono E.h h1) (Reps.mono E ds _ h2)
  | .lst ds, _, h => by cases h with | lst h1 h2 => exact .lst (sqL_mono E.h h1) (Reps.mono E ds _ h2)
  | .obj _ ds, _, h => by cases h with | obj h1 h2 h3 h4 => exact .obj (E.h _ _ h1) h2 h3 (Reps.mono E ds _ h4)
  | .ref _, _, h => by cases h with | ref h => exact .ref (E.t _ _ h)
theorem Reps.mono (E : Ext θ Hd θ' Hd') : ∀ (ds : List D) (vs : List V), Reps K A Hd θ vs ds → Reps K A Hd' θ' vs ds
  | [], _, h => by cases h; exact .nil
  | d :: ds, _, h => by cases h with | cons h1 h2 => exact .cons (Rep.mono E d _ h1) (Reps.mono E ds _ h2)
end
theorem Rep.up {v : V} {d : D} (h : Rep K A Hd θ v d) (E : Ext θ Hd θ' Hd') : Rep K A Hd' θ' v d := Rep.mono E d v h
theorem Reps.up {vs : List V} {ds : List D} (h : Reps K A Hd θ vs ds) (E : Ext θ Hd θ' Hd') : Reps K A Hd' θ' vs ds := Reps.mono E ds vs h

theorem Reps.length : ∀ {vs : List V} {ds : List D}, Reps K A Hd θ vs ds → vs.length = ds.length
  | _, _, .nil => rfl
  | _, _, .cons _ t => congrArg (· + 1) (Reps.length t)
theorem Reps.get : ∀ {vs : List V} {ds : List D} {i : Nat} {d : D}, Reps K A Hd θ vs ds → ds[i]? = some d → ∃ v, vs[i]? = some v ∧ Rep K A Hd θ v d
  | _, _, _, _, .nil, e => by simp at e
  | _, _, 0, _, .cons r _, e => by simp at e; subst e; exact ⟨_, rfl, r⟩
  | _, _, i + 1, _, .cons _ t, e => by
    obtain ⟨v, h1, h2⟩ := Reps.get (i := i) t (by simpa using e)
    exact ⟨v, by simpa using h1, h2⟩
theorem Reps.getV : ∀ {vs : List V} {ds : List D} {i : Nat} {v : V}, Reps K A Hd θ vs ds → vs[i]? = some v → ∃ d, ds[i]? = some d ∧ Rep K A Hd θ v d
  | _, _, _, _, .nil, e => by simp at e
  | _, _, 0, _, .cons r _, e => by simp at e; subst e; exact ⟨_, rfl, r⟩
  | _, _, i + 1, _, .cons _ t, e => by
    obtain ⟨v, h1, h2⟩ := Reps.getV (i := i) t (by simpa using e)
    exact ⟨v, by simpa using h1, h2⟩
theorem Reps.append : ∀ {vs ws : List V} {ds es : List D}, Reps K A Hd θ vs ds → Reps K A Hd θ ws es → Reps K A Hd θ (vs ++ ws) (ds ++ es)
  | _, _, _, _, .nil, s => s
  | _, _, _, _, .cons r t, s => .cons r (Reps.append t s)
theorem Reps.take : ∀ (n : Nat) {vs : List V} {ds : List D}, Reps K A Hd θ vs ds → Reps K A Hd θ (vs.take n) (ds.take n)
  | 0, _, _, _ => .nil
  | _ + 1, _, _, .nil => .nil
  | n + 1, _, _, .cons r t => .cons r (Reps.take n t)
theorem Reps.drop : ∀ (n : Nat) {vs : List V} {ds : List D}, Reps K A Hd θ vs ds → Reps K A Hd θ (vs.drop n) (ds.drop n)
  | 0, _, _, r => r
  | _ + 1, _, _, .nil => .nil
  | n + 1, _, _, .cons _ t => Reps.drop n t
theorem Reps.set {v : V} {d : D} (r : Rep K A Hd θ v d) : ∀ (i : Nat) {vs : List V} {ds : List D}, Reps K A Hd θ vs ds → Reps K A Hd θ (vs.set i v) (ds.set i d)
  | _, _, _, .nil => .nil
  | 0, _, _, .cons _ t => .cons r t
  | i + 1, _, _, .cons q t => .cons q (Reps.set r i t)
theorem Reps.dropLast : ∀ {vs : List V} {ds : List D}, Reps K A Hd θ vs ds → Reps K A Hd θ vs.dropLast ds.dropLast
  | _, _, .nil => .nil
  | _, _, .cons _ .nil => .nil
  | _, _, .cons r (.cons q t) => .cons r (Reps.dropLast (.cons q t))
theorem Reps.reverse {vs : List V} {ds : List D} (h : Reps K A Hd θ vs ds) : Reps K A Hd θ vs.reverse ds.reverse := by
  induction h using Reps.rec (motive_1 := fun _ _ _ => True) <;> try trivial
  · exact .nil
  · rename_i h1 _ _ ih
    rw [List.reverse_cons, List.reverse_cons]
    exact ih.append (.cons h1 .nil)
theorem Reps.one {v : V} {d : D} (h : Rep K A Hd θ v d) : Reps K A Hd θ [v] [d] := .cons h .nil
theorem Reps.inv_nil {vs : List V} (h : Reps K A Hd θ vs []) : vs = [] := by cases h; rfl
theorem Reps.inv_cons {vs : List V} {d : D} {ds : List D} (h : Reps K A Hd θ vs (d :: ds)) : ∃ v ws, vs = v :: ws ∧ Rep K A Hd θ v d ∧ Reps K A Hd θ ws ds := by
  cases h with | cons h1 h2 => exact ⟨_, _, rfl, h1, h2⟩
theorem Reps.inv1 {vs : List V} {d : D} (h : Reps K A Hd θ vs [d]) : ∃ v, vs = [v] ∧ Rep K A Hd θ v d := by
  obtain ⟨v, ws, rfl, h1, h2⟩ := h.inv_cons
  rw [h2.inv_nil]
  exact ⟨v, rfl, h1⟩
theorem Reps.inv2 {vs : List V} {d e : D} (h : Reps K A Hd θ vs [d, e]) : ∃ v w, vs = [v, w] ∧ Rep K A Hd θ v d ∧ Rep K A Hd θ w e := by
  obtain ⟨v, ws, rfl, h1, h2⟩ := h.inv_cons
  obtain ⟨w, rfl, h3⟩ := h2.inv1
  exact ⟨v, w, rfl, h1, h3⟩
theorem Reps.inv3 {vs : List V} {d e f : D} (h : Reps K A Hd θ vs [d, e, f]) : ∃ v w x, vs = [v, w, x] ∧ Rep K A Hd θ v d ∧ Rep K A Hd θ w e ∧ Rep K A Hd θ x f := by
  obtain ⟨v, ws, rfl, h1, h2⟩ := h.inv_cons
  obtain ⟨w, x, rfl, h3, h4⟩ := h2.inv2
  exact ⟨v, w, x, rfl, h1, h3, h4⟩

mutual
/-- plain data need no table of references -/
theorem Rep.clean {E : Ext (fun _ => Option.none) Hd θ' Hd'} : ∀ (d : D) (v : V), Dw.clean d = true → Rep K A Hd θ v d → Rep K A Hd (fun _ => Option.none) v d
  | .non, _, _, h => by cases h; exact .non
  | .bl _, _, _, h => by cases h; exact .bl _
  | .int _, _, _, h => by cases h; exact .int _
  | .str _, _, _, h => by cases h; exact .str _
  | .tup ds, _, p, h => by cases h with | tup h1 h2 => exact .tup h1 (Reps.clean (E := E) ds _ (by simpa [Dw.clean] using p) h2)
  | .lst ds, _, p, h => by cases h with | lst h1 h2 => exact .lst h1 (Reps.clean (E := E) ds _ (by simpa [Dw.clean] using p) h2)
  | .obj _ ds, _, p, h => by cases h with | obj h1 h2 h3 h4 => exact .obj h1 h2 h3 (Reps.clean (E := E) ds _ (by simpa [Dw.clean] using p) h4)
  | .ref _, _, p, _ => by simp [Dw.clean] at p
theorem Reps.clean {E : Ext (fun _ => Option.none) Hd θ' Hd'} : ∀ (ds : List D) (vs : List V), Dw.cleans ds = true → Reps K A Hd θ vs ds → Reps K A Hd (fun _ => Option.none) vs ds
  | [], _, _, h => by cases h; exact .nil
  | d :: ds, _, p, h => by
    simp only [Dw.cleans, Bool.and_eq_true] at p
    cases h with | cons h1 h2 => exact .cons (Rep.clean (E := E) d _ p.1 h1) (Reps.clean (E := E) ds _ p.2 h2)
end
end

/-! ### what is mutable -/
def MRep (K : PySem.W.Frag) (A : Wd) (Hd : Hp) (θ : Th) : HO → MO → Prop
  | .lst xs, .lst ds => Reps K A Hd θ xs ds
  | .dK kvs, .dct l => kvs.map (·.1) = l.map (·.1) ∧ Reps K A Hd θ (kvs.map (·.2)) (l.map (·.2))
  | .ins C _ fs, .ins c ds => C = A.ca c ∧ fs.map (·.1) = (A.fl c).take ds.length ∧ ds.length ≤ (A.fl c).length ∧ Reps K A Hd θ (fs.map (·.2)) ds
  | _, _ => False
theorem MRep.up {K : PySem.W.Frag} {A : Wd} {Hd Hd' : Hp} {θ θ' : Th} (E : Ext θ Hd θ' Hd') : ∀ {u : HO} {o : MO}, MRep K A Hd θ u o → MRep K A Hd' θ' u o := by
  intro u o h
  cases u <;> cases o <;> first | exact h.elim | skip
  · exact Reps.up h E
  · exact ⟨h.1, h.2.up E⟩
  · exact ⟨h.1, h.2.1, h.2.2.1, h.2.2.2.up E⟩

/-- the memory: H0, Hd0 the heaps at the entry, O what is lent of the entry's; Hd what is frozen, θ where the mutable things stand -/
structure RM (K : PySem.W.Frag) (A : Wd) (H0 Hd0 : Hp) (O : Addr → Prop) (θ : Th) (Hd : Hp) (M : Mem) (H : Hp) : Prop where
  sub : Same Hd0 Hd
  base : Same Hd H
  keep : ∀ a o, H0 a = some o → ¬ O a → H a = some o
  dom : ∀ a, H a = Option.none → H0 a = Option.none
  out : ∀ a o, Hd a = some o → Hd0 a = Option.none → H0 a = Option.none ∨ O a
  own : ∀ n o, M[n]? = some o → o ≠ .gone → ∃ a u, θ n = some a ∧ Hd a = Option.none ∧ H a = some u ∧ MRep K A Hd θ u o
  ran : ∀ n a, θ n = some a → H0 a = Option.none ∨ O a
  liv : ∀ n a, θ n = some a → H a ≠ Option.none
  inj : ∀ n m a, θ n = some a → θ m = some a → n = m
  top : ∀ n a, θ n = some a → n < M.length

def SL (K : PySem.W.Frag) (A : We) (θ : Th) (Hd : Hp) (ε : Env) (σ : St) : Prop :=
  ε.length = σ.length ∧ (∀ (i : Nat) (d : D), ε[i]? = some (.is d) → ∃ v, σ[i]? = some (some v) ∧ Rep K A Hd θ v d) ∧ ∀ (i c : Nat), ε[i]? = some (.exc c) → ∃ a, A.ea = some (i, a, c) ∧ σ[i]? = some (some (.ref a))
theorem SL.up {K : PySem.W.Frag} {A : We} {Hd Hd' : Hp} {θ θ' : Th} {ε : Env} {σ : St} (h : SL K A θ Hd ε σ) (E : Ext θ Hd θ' Hd') : SL K A θ' Hd' ε σ :=
  ⟨h.1, fun i d e => let ⟨v, e1, r⟩ := h.2.1 i d e; ⟨v, e1, r.up E⟩, h.2.2⟩
theorem SL.set {K : PySem.W.Frag} {A : We} {Hd : Hp} {θ : Th} {ε : Env} {σ : St} (h : SL K A θ Hd ε σ) (i : Nat) {v : V} {d : D} (r : Rep K A Hd θ v d) : SL K A θ Hd (ε.set i (.is d)) (σ.set i (some v)) := by
  refine ⟨by simpa using h.1, fun j e q => ?_, fun j c q => ?_⟩
  · by_cases hj : i = j
    · subst hj
      by_cases hl : i < ε.length
      · rw [List.getElem?_set_self hl] at q
        cases q
        exact ⟨v, by rw [List.getElem?_set_self (by rw [← h.1]; exact hl)], r⟩
      · rw [List.getElem?_eq_none (by simpa using hl)] at q; cases q
    · rw [List.getElem?_set_ne hj] at q
      obtain ⟨w, e1, r1⟩ := h.2.1 j e q
      exact ⟨w, by rw [List.getElem?_set_ne hj]; exact e1, r1⟩
  · by_cases hj : i = j
    · subst hj
      by_cases hl : i < ε.length
      · rw [List.getElem?_set_self hl] at q; cases q
      · rw [List.getElem?_eq_none (by simpa using hl)] at q; cases q
    · rw [List.getElem?_set_ne hj] at q
      obtain ⟨a, e1, e2⟩ := h.2.2 j c q
      exact ⟨a, e1, by rw [List.getElem?_set_ne hj]; exact e2⟩
theorem SL.unset {K : PySem.W.Frag} {A : We} {Hd : Hp} {θ : Th} {ε : Env} {σ : St} (h : SL K A θ Hd ε σ) (i : Nat) : SL K A θ Hd (ε.set i .no) (σ.set i Option.none) := by
  refine ⟨by simpa using h.1, fun j e q => ?_, fun j c q => ?_⟩
  · by_cases hj : i = j
    · subst hj
      by_cases hl : i < ε.length
      · rw [List.getElem?_set_self hl] at q; cases q
      · rw [List.getElem?_eq_none (by simpa using hl)] at q; cases q
    · rw [List.getElem?_set_ne hj] at q
      obtain ⟨w, e1, r1⟩ := h.2.1 j e q
      exact ⟨w, by rw [List.getElem?_set_ne hj]; exact e1, r1⟩
  · by_cases hj : i = j
    · subst hj
      by_cases hl : i < ε.length
      · rw [List.getElem?_set_self hl] at q; cases q
      · rw [List.getElem?_eq_none (by simpa using hl)] at q; cases q
    · rw [List.getElem?_set_ne hj] at q
      obtain ⟨a, e1, e2⟩ := h.2.2 j c q
      exact ⟨a, e1, by rw [List.getElem?_set_ne hj]; exact e2⟩
/-- the error comes into its slot .. -/
theorem SL.enter {K : PySem.W.Frag} {A : We} {Hd : Hp} {θ : Th} {ε : Env} {σ : St} (h : SL K A θ Hd ε σ) (hn : A.ea = Option.none) (i : Nat) (a : Addr) (c : Nat) : SL K { A with ea := some (i, a, c) } θ Hd (ε.set i (.exc c)) (σ.set i (some (.ref a))) := by
  refine ⟨by simpa using h.1, fun j e q => ?_, fun j c q => ?_⟩
  · by_cases hj : i = j
    · subst hj
      by_cases hl : i < ε.length
      · rw [List.getElem?_set_self hl] at q; cases q
      · rw [List.getElem?_eq_none (by simpa using hl)] at q; cases q
    · rw [List.getElem?_set_ne hj] at q
      obtain ⟨w, e1, r1⟩ := h.2.1 j e q
      exact ⟨w, by rw [List.getElem?_set_ne hj]; exact e1, r1⟩
  · by_cases hj : i = j
    · subst hj
      by_cases hl : i < ε.length
      · rw [List.getElem?_set_self hl] at q; cases q
        exact ⟨a, rfl, by rw [List.getElem?_set_self (by rw [← h.1]; exact hl)]⟩
      · rw [List.getElem?_eq_none (by simpa using hl)] at q; cases q
    · rw [List.getElem?_set_ne hj] at q
      obtain ⟨a', e1, e2⟩ := h.2.2 j c q
      rw [hn] at e1; cases e1
/-- .. and goes -/
theorem SL.leave {K : PySem.W.Frag} {A : We} {Hd : Hp} {θ : Th} {ε : Env} {σ : St} {i : Nat} {a : Addr} {c : Nat} (h : SL K { A with ea := some (i, a, c) } θ Hd ε σ) : SL K A θ Hd (ε.set i .no) (σ.set i Option.none) := by
  have h := h.unset i
  refine ⟨h.1, h.2.1, fun j k q => ?_⟩
  obtain ⟨a', e1, _⟩ := h.2.2 j k q
  cases e1
  by_cases hl : i < ε.length
  · rw [List.getElem?_set_self hl] at q; cases q
  · rw [List.getElem?_eq_none (by simpa using hl)] at q; cases q

section
variable {K : PySem.W.Frag} {A : Wd} {H0 Hd0 : Hp} {O : Addr → Prop} {θ : Th} {Hd : Hp} {M : Mem} {H : Hp}
/-- a new thing that is not looked at -/
theorem RM.junk (R : RM K A H0 Hd0 O θ Hd M H) {p : Addr} (hp : H p = Option.none) (o : HO) : RM K A H0 Hd0 O θ Hd M (upd H p o) where
  sub := R.sub
  base := fun a u e => by rw [upd_ne (ne_of_none (R.base a u e) hp)]; exact R.base a u e
  keep := fun a u e n => by
    have q := R.keep a u e n
    rw [upd_ne (ne_of_none q hp)]; exact q
  dom := fun a e => by
    by_cases ha : a = p
    · subst ha; rw [upd_same] at e; cases e
    · rw [upd_ne ha] at e; exact R.dom a e
  out := R.out
  own := fun n o' e g => by
    obtain ⟨a, u, h1, h2, h4, h5⟩ := R.own n o' e g
    exact ⟨a, u, h1, h2, by rw [upd_ne (ne_of_none h4 hp)]; exact h4, h5⟩
  ran := R.ran
  liv := fun n a e q => by
    by_cases ha : a = p
    · subst ha; rw [upd_same] at q; cases q
    · rw [upd_ne ha] at q; exact R.liv n a e q
  inj := R.inj
  top := R.top
theorem RM.dnone (R : RM K A H0 Hd0 O θ Hd M H) {p : Addr} (hp : H p = Option.none) : Hd p = Option.none := R.base.free hp
/-- a thing that stands, owned by none, is frozen -/
theorem RM.adopt (R : RM K A H0 Hd0 O θ Hd M H) {p : Addr} {o : HO} (hp : H p = some o) (hd : Hd p = Option.none) (h0 : H0 p = Option.none) (ht : ∀ n, θ n ≠ some p) : RM K A H0 Hd0 O θ (upd Hd p o) M H ∧ Ext θ Hd θ (upd Hd p o) := by
  have sm : Same Hd (upd Hd p o) := fun a u e => by rw [upd_ne (ne_of_none e hd)]; exact e
  have E : Ext θ Hd θ (upd Hd p o) := ⟨sm, Sub.refl _⟩
  refine ⟨⟨R.sub.trans sm, fun a u e => ?_, R.keep, R.dom, fun a u e n => ?_, fun n o' e g => ?_, R.ran, R.liv, R.inj, R.top⟩, E⟩
  · by_cases ha : a = p
    · subst ha; rw [upd_same] at e; cases e; exact hp
    · rw [upd_ne ha] at e; exact R.base a u e
  · by_cases ha : a = p
    · subst ha; exact .inl h0
    · rw [upd_ne ha] at e; exact R.out a u e n
  · obtain ⟨a, u, h1, h2, h4, h5⟩ := R.own n o' e g
    refine ⟨a, u, h1, ?_, h4, h5.up E⟩
    rw [upd_ne (fun z => ht n (by rw [h1, z]))]; exact h2
/-- a new frozen thing -/
theorem RM.data (R : RM K A H0 Hd0 O θ Hd M H) {p : Addr} (hp : H p = Option.none) (o : HO) : RM K A H0 Hd0 O θ (upd Hd p o) M (upd H p o) ∧ Ext θ Hd θ (upd Hd p o) :=
  (R.junk hp o).adopt upd_same (R.dnone hp) (R.dom p hp) fun n e => R.liv n p e hp
/-- the table with one more -/
def th (θ : Th) (k : Nat) (p : Addr) : Th := fun n => if n = k then some p else θ n
/-- a thing that stands, owned by none, becomes the next mutable one -/
theorem RM.box (R : RM K A H0 Hd0 O θ Hd M H) {p : Addr} {u : HO} {o : MO} (hp : H p = some u) (hd : Hd p = Option.none) (h0 : H0 p = Option.none) (ht : ∀ n, θ n ≠ some p)
    (hr : MRep K A Hd (th θ M.length p) u o) : RM K A H0 Hd0 O (th θ M.length p) Hd (M ++ [o]) H ∧ Ext θ Hd (th θ M.length p) Hd := by
  have hn : ∀ n a, θ n = some a → n ≠ M.length := fun n a e => Nat.ne_of_lt (R.top n a e)
  have E : Ext θ Hd (th θ M.length p) Hd := ⟨Same.refl _, fun n a e => by unfold th; rw [if_neg (hn n a e)]; exact e⟩
  have hk : th θ M.length p M.length = some p := by unfold th; rw [if_pos rfl]
  have hne : ∀ n a, th θ M.length p n = some a → n = M.length ∧ a = p ∨ n ≠ M.length ∧ θ n = some a := fun n a e => by
    unfold th at e
    by_cases z : n = M.length
    · rw [if_pos z] at e; cases e; exact .inl ⟨z, rfl⟩
    · rw [if_neg z] at e; exact .inr ⟨z, e⟩
  refine ⟨⟨R.sub, R.base, R.keep, R.dom, R.out, fun n o' e g => ?_, fun n a e => ?_, fun n a e => ?_, fun n m a e1 e2 => ?_, fun n a e => ?_⟩, E⟩
  · by_cases z : n < M.length
    · rw [List.getElem?_append_left z] at e
      obtain ⟨a, u', h1, h2, h4, h5⟩ := R.own n o' e g
      exact ⟨a, u', E.t _ _ h1, h2, h4, h5.up E⟩
    · have z' : n = M.length := by
        have := (List.getElem?_eq_some_iff.mp e).1
        rw [List.length_append, List.length_singleton] at this
        omega
      subst z'
      rw [List.getElem?_append_right (Nat.le_refl _), Nat.sub_self] at e
      cases e
      exact ⟨p, u, hk, hd, hp, hr⟩
  · rcases hne n a e with ⟨_, rfl⟩ | ⟨_, q⟩
    · exact .inl h0
    · exact R.ran n a q
  · rcases hne n a e with ⟨_, rfl⟩ | ⟨_, q⟩
    · rw [hp]; intro z; cases z
    · exact R.liv n a q
  · rcases hne n a e1 with ⟨z1, rfl⟩ | ⟨z1, q1⟩
    · rcases hne m a e2 with ⟨z2, _⟩ | ⟨z2, q2⟩
      · rw [z1, z2]
      · exact absurd q2 (ht m)
    · rcases hne m a e2 with ⟨z2, rfl⟩ | ⟨z2, q2⟩
      · exact absurd q1 (ht n)
      · exact R.inj n m a q1 q2
  · rw [List.length_append, List.length_singleton]
    rcases hne n a e with ⟨z, _⟩ | ⟨_, q⟩
    · omega
    · have := R.top n a q; omega
/-- a mutable thing is written -/
theorem RM.write (R : RM K A H0 Hd0 O θ Hd M H) {n : Nat} {a : Addr} {o o' : MO} {u' : HO} (hm : M[n]? = some o) (hg : o ≠ .gone) (ht : θ n = some a) (hr : MRep K A Hd θ u' o') :
    RM K A H0 Hd0 O θ Hd (M.set n o') (upd H a u') := by
  obtain ⟨b, w, h1, h2, h4, h5⟩ := R.own n o hm hg
  rw [ht] at h1; cases h1
  have hl : n < M.length := (List.getElem?_eq_some_iff.mp hm).1
  refine ⟨R.sub, fun b u e => ?_, fun b u e q => ?_, fun b e => ?_, R.out, fun m x e g => ?_, R.ran, fun m b e q => ?_, R.inj, fun m b e => ?_⟩
  · rw [upd_ne (ne_of_none e h2)]; exact R.base b u e
  · have ne : b ≠ a := fun z => by
      subst z
      rcases R.ran n b ht with z | z
      · rw [z] at e; cases e
      · exact q z
    rw [upd_ne ne]; exact R.keep b u e q
  · by_cases hb : b = a
    · subst hb; rw [upd_same] at e; cases e
    · rw [upd_ne hb] at e; exact R.dom b e
  · by_cases hmn : n = m
    · subst hmn
      rw [List.getElem?_set_self hl] at e
      cases e
      exact ⟨a, u', ht, h2, upd_same, hr⟩
    · rw [List.getElem?_set_ne hmn] at e
      obtain ⟨b, u, k1, k2, k4, k5⟩ := R.own m x e g
      exact ⟨b, u, k1, k2, by rw [upd_ne (fun z => hmn (R.inj n m a ht (by rw [k1, z])))]; exact k4, k5⟩
  · by_cases hb : b = a
    · subst hb; rw [upd_same] at q; cases q
    · rw [upd_ne hb] at q; exact R.liv m b e q
  · rw [List.length_set]; exact R.top m b e

/-- a mutable thing is frozen -/
theorem RM.freeze (R : RM K A H0 Hd0 O θ Hd M H) {n : Nat} {a : Addr} {o : MO} {u : HO} (hm : M[n]? = some o) (hg : o ≠ .gone) (ht : θ n = some a) (hu : H a = some u) :
    RM K A H0 Hd0 O θ (upd Hd a u) (M.set n .gone) H ∧ Ext θ Hd θ (upd Hd a u) := by
  obtain ⟨b, w, h1, h2, h4, h5⟩ := R.own n o hm hg
  rw [ht] at h1; cases h1
  have hl : n < M.length := (List.getElem?_eq_some_iff.mp hm).1
  have sm : Same Hd (upd Hd a u) := fun c v e => by rw [upd_ne (ne_of_none e h2)]; exact e
  have E : Ext θ Hd θ (upd Hd a u) := ⟨sm, Sub.refl _⟩
  refine ⟨⟨R.sub.trans sm, fun c v e => ?_, R.keep, R.dom, fun c v e q => ?_, fun m x e g => ?_, R.ran, R.liv, R.inj, fun m c e => ?_⟩, E⟩
  · by_cases hc : c = a
    · subst hc; rw [upd_same] at e; cases e; exact hu
    · rw [upd_ne hc] at e; exact R.base c v e
  · by_cases hc : c = a
    · subst hc; exact R.ran n c ht
    · rw [upd_ne hc] at e; exact R.out c v e q
  · by_cases hmn : n = m
    · subst hmn
      rw [List.getElem?_set_self hl] at e
      cases e
      exact absurd rfl g
    · rw [List.getElem?_set_ne hmn] at e
      obtain ⟨b, v, k1, k2, k4, k5⟩ := R.own m x e g
      refine ⟨b, v, k1, ?_, k4, k5.up E⟩
      rw [upd_ne (fun z => hmn (R.inj n m a ht (by rw [k1, z])))]; exact k2
  · rw [List.length_set]; exact R.top m c e
/-- the table cut -/
def cutT (θ : Th) (k : Nat) : Th := fun n => if n < k then θ n else Option.none
/-- the last mutable thing is frozen and leaves the memory (with all that came behind it) -/
theorem RM.take (R : RM K A H0 Hd0 O θ Hd M H) (k : Nat) (hk : k ≤ M.length) (hr : ∀ n o, n < k → M[n]? = some o → o ≠ .gone → ∀ a u, θ n = some a → H a = some u → MRep K A Hd θ u o → MRep K A Hd (cutT θ k) u o) : RM K A H0 Hd0 O (cutT θ k) Hd (M.take k) H := by
  have sb : Sub (cutT θ k) θ := fun n a e => by
    unfold cutT at e
    by_cases z : n < k
    · rw [if_pos z] at e; exact e
    · rw [if_neg z] at e; cases e
  refine ⟨R.sub, R.base, R.keep, R.dom, R.out, fun n o e g => ?_, fun n a e => R.ran n a (sb n a e), fun n a e => R.liv n a (sb n a e), fun n m a e1 e2 => R.inj n m a (sb n a e1) (sb m a e2), fun n a e => ?_⟩
  · rw [List.getElem?_take] at e
    by_cases z : n < k
    · rw [if_pos z] at e
      obtain ⟨a, u, h1, h2, h4, h5⟩ := R.own n o e g
      exact ⟨a, u, by unfold cutT; rw [if_pos z]; exact h1, h2, h4, hr n o z e g a u h1 h4 h5⟩
    · rw [if_neg z] at e; cases e
  · unfold cutT at e
    by_cases z : n < k
    · rw [List.length_take]; omega
    · rw [if_neg z] at e; cases e

/-- a def that keeps to itself is entered .. -/
theorem RM.enterL (R : RM K A H0 Hd0 O θ Hd M H) : RM K A H Hd (fun _ => False) (fun _ => Option.none) Hd [] H :=
  ⟨Same.refl _, R.base, fun _ _ e _ => e, fun _ e => e, fun a o e n => (by rw [n] at e; cases e), fun n o e => (by simp at e), fun _ _ e => (nomatch e), fun _ _ e => (nomatch e), fun _ _ _ e => (nomatch e), fun _ _ e => (nomatch e)⟩
/-- .. and left -/
theorem RM.leaveL {θ' : Th} {Hd' H' : Hp} {M' : Mem} (R : RM K A H0 Hd0 O θ Hd M H) (R' : RM K A H Hd (fun _ => False) θ' Hd' M' H') : RM K A H0 Hd0 O θ Hd' M H' ∧ Ext θ Hd θ Hd' := by
  have E : Ext θ Hd θ Hd' := ⟨R'.sub, Sub.refl _⟩
  have k : ∀ a o, H a = some o → H' a = some o := fun a o e => R'.keep a o e fun z => z
  refine ⟨⟨R.sub.trans R'.sub, R'.base, fun a o e n => k a o (R.keep a o e n), fun a e => R.dom a (R'.dom a e), fun a o e n => ?_, fun n o e g => ?_, R.ran, fun n a e q => R.liv n a e (R'.dom a q), R.inj, R.top⟩, E⟩
  · cases q : Hd a with
    | some w => exact R.out a w q n
    | none =>
      rcases R'.out a o e q with z | z
      · exact .inl (R.dom a z)
      · exact z.elim
  · obtain ⟨a, u, h1, h2, h4, h5⟩ := R.own n o e g
    refine ⟨a, u, h1, ?_, k a u h4, h5.up E⟩
    cases q : Hd' a with
    | none => rfl
    | some w =>
      rcases R'.out a w q h2 with z | z
      · rw [z] at h4; cases h4
      · exact z.elim
def Ran (θ : Th) (a : Addr) : Prop := ∃ n, θ n = some a
/-- a def that is lent the memory is entered .. -/
theorem RM.enterG (R : RM K A H0 Hd0 O θ Hd M H) : RM K A H Hd (Ran θ) θ Hd M H :=
  ⟨Same.refl _, R.base, fun _ _ e _ => e, fun _ e => e, fun a o e n => (by rw [n] at e; cases e), R.own, fun n a e => .inr ⟨n, e⟩, R.liv, R.inj, R.top⟩
/-- .. and left -/
theorem RM.leaveG {θ' : Th} {Hd' H' : Hp} {M' : Mem} (R : RM K A H0 Hd0 O θ Hd M H) (s : Sub θ θ') (R' : RM K A H Hd (Ran θ) θ' Hd' M' H') : RM K A H0 Hd0 O θ' Hd' M' H' ∧ Ext θ Hd θ' Hd' := by
  refine ⟨⟨R.sub.trans R'.sub, R'.base, fun a o e n => ?_, fun a e => R.dom a (R'.dom a e), fun a o e n => ?_, R'.own, fun n a e => ?_, R'.liv, R'.inj, R'.top⟩, ⟨R'.sub, s⟩⟩
  · refine R'.keep a o (R.keep a o e n) fun ⟨m, q⟩ => ?_
    rcases R.ran m a q with z | z
    · rw [z] at e; cases e
    · exact n z
  · cases q : Hd a with
    | some w => exact R.out a w q n
    | none =>
      rcases R'.out a o e q with z | ⟨m, z⟩
      · exact .inl (R.dom a z)
      · exact R.ran m a z
  · rcases R'.ran n a e with z | ⟨m, z⟩
    · exact .inl (R.dom a z)
    · exact R.ran m a z
end
end Dw
/-! Dw3: judgements; names, constants, operators, displays. -/
namespace Dw
open PySem L2

structure Gd where
  H0 : Hp
  Hd0 : Hp
  O : Addr → Prop
abbrev RG (K : PySem.W.Frag) (A : Wd) (G : Gd) := RM K A G.H0 G.Hd0 G.O

def PostE {α β : Type} (K : PySem.W.Frag) (A : Wd) (G : Gd) (X : Value → Option Addr → Hp → Prop) (rel : Hp → Th → β → α → Prop) (r : Ev α) (θ : Th) (Hd : Hp) (Q : β → Hp → Prop) : Prop := match r with
  | none => False
  | some (.ok d M) => ∀ v H θ' Hd', Ext θ Hd θ' Hd' → RG K A G θ' Hd' M H → rel Hd' θ' v d → Q v H
  | some (.exc c M) => ∀ H θ' Hd', Ext θ Hd θ' Hd' → RG K A G θ' Hd' M H → X (.ref (A.ca c)) none H

section
variable {α β γ δ : Type} {K : PySem.W.Frag} {A : Wd} {G : Gd} {X : Value → Option Addr → Hp → Prop} {rel : Hp → Th → β → α → Prop} {rel' : Hp → Th → δ → γ → Prop} {θ θ' : Th} {Hd Hd' : Hp}
theorem PostE.up {r : Ev α} {Q : β → Hp → Prop} (h : PostE K A G X rel r θ Hd Q) (E : Ext θ Hd θ' Hd') : PostE K A G X rel r θ' Hd' Q := by
  rcases r with _ | ⟨d, M⟩ | ⟨c, M⟩
  · exact h
  · exact fun v H θ2 Hd2 E2 => h v H θ2 Hd2 (E.trans E2)
  · exact fun H θ2 Hd2 E2 => h H θ2 Hd2 (E.trans E2)
theorem PostE.bind {x : Ev α} {f : α → Mem → Ev γ} {Q : δ → Hp → Prop} (h : PostE K A G X rel' (x.bind f) θ Hd Q) :
    PostE K A G X rel x θ Hd fun v H => ∃ θ1 Hd1 d M1, x = some (.ok d M1) ∧ Ext θ Hd θ1 Hd1 ∧ RG K A G θ1 Hd1 M1 H ∧ rel Hd1 θ1 v d ∧ PostE K A G X rel' (f d M1) θ1 Hd1 Q := by
  rcases x with _ | ⟨d, M⟩ | ⟨c, M⟩
  · exact h
  · exact fun v H θ1 Hd1 E R r => ⟨θ1, Hd1, d, M, rfl, E, R, r, h.up E⟩
  · exact h
theorem PostE.ok {M : Mem} {d : α} {v : β} {H : Hp} {Q : β → Hp → Prop} (h : PostE K A G X rel (some (.ok d M)) θ Hd Q) (R : RG K A G θ Hd M H) (r : rel Hd θ v d) : Q v H := h v H θ Hd (Ext.refl _ _) R r
theorem PostE.mono {r : Ev α} {Q Q' : β → Hp → Prop} (h : PostE K A G X rel r θ Hd Q) (k : ∀ v H, Q v H → Q' v H) : PostE K A G X rel r θ Hd Q' := by
  rcases r with _ | ⟨d, M⟩ | ⟨c, M⟩
  · exact h
  · exact fun v H θ1 Hd1 E R r => k _ _ (h v H θ1 Hd1 E R r)
  · exact h
end

abbrev rV (K : PySem.W.Frag) (A : Wd) : Hp → Th → V → D → Prop := fun Hd θ v d => Rep K A Hd θ v d
abbrev rVs (K : PySem.W.Frag) (A : Wd) : Hp → Th → List V → List D → Prop := fun Hd θ v d => Reps K A Hd θ v d
abbrev rB : Hp → Th → Bool → Bool → Prop := fun _ _ a b => a = b

def tD {α β : Type} (K : PySem.W.Frag) (A : We) (W : WX) (rel : Hp → Th → β → α → Prop) (ev : Env → Mem → Ev α) : L2.St → Hp → (β → Hp → Prop) → Prop := fun σ H Q =>
  ∃ G θ Hd ε M, SL K A θ Hd ε σ ∧ RG K A G θ Hd M H ∧ PostE K A G (fun c d H' => W c d σ H') rel (ev ε M) θ Hd Q
abbrev tE (K : PySem.W.Frag) (A : We) (C : Cfg) (W : WX) (c : E) : TE := tD K A W (rV K A) (eval C c)
abbrev tA (K : PySem.W.Frag) (A : We) (C : Cfg) (W : WX) (cs : List E) : TA := tD K A W (rVs K A) (evals C cs)
def evT (C : Cfg) (c : E) (ε : Env) (M : Mem) : Ev Bool := (eval C c ε M).bind fun x M => opt (truth x M) M
abbrev tT (K : PySem.W.Frag) (A : We) (C : Cfg) (W : WX) (c : E) : TT := tD K A W rB (evT C c)

abbrev DE (X : Cx) (A : We) (C : Cfg) (W : WX) (e : Expr) (c : E) : Prop := PE X e (tE X.K A C W c)
abbrev DA (X : Cx) (A : We) (C : Cfg) (W : WX) (es : List Expr) (cs : List E) : Prop := PA X es (tA X.K A C W cs)
abbrev DT (X : Cx) (A : We) (C : Cfg) (W : WX) (e : Expr) (c : E) : Prop := PT X e (tT X.K A C W c)
abbrev DW (X : Cx) (A : We) (C : Cfg) (W : WX) (e : Expr) (c : E) : Prop := PW X e (tT X.K A C W c)

theorem PE.imp {X : Cx} {e : Expr} {t t' : TE} (h : PE X e t') (k : ∀ σ H Q, t σ H Q → t' σ H Q) : PE X e t := ⟨fun pins s σ H Q I q => h.run pins s σ H Q I (k _ _ _ q)⟩
theorem PA.imp {X : Cx} {e : List Expr} {t t' : TA} (h : PA X e t') (k : ∀ σ H Q, t σ H Q → t' σ H Q) : PA X e t := ⟨fun pos pins s σ H Q I q => h.run pos pins s σ H Q I (k _ _ _ q)⟩
theorem PT.imp {X : Cx} {e : Expr} {t t' : TT} (h : PT X e t') (k : ∀ σ H Q, t σ H Q → t' σ H Q) : PT X e t := ⟨fun pins s σ H Q I q => h.run pins s σ H Q I (k _ _ _ q)⟩
theorem PW.imp {X : Cx} {e : Expr} {t t' : TT} (h : PW X e t') (k : ∀ σ H Q, t σ H Q → t' σ H Q) : PW X e t := ⟨fun wh pins s σ H Q I q => h.run wh pins s σ H Q I (k _ _ _ q)⟩
theorem PS.imp {X : Cx} {e : Stmt} {t t' : TS} (h : PS X e t') (k : ∀ D σ H, t D σ H → t' D σ H) : PS X e t := ⟨fun pins s σ H D I q => h.run pins s σ H D I (k _ _ _ q)⟩
theorem PSs.imp {X : Cx} {e : List Stmt} {t t' : TS} (h : PSs X e t') (k : ∀ D σ H, t D σ H → t' D σ H) : PSs X e t := ⟨fun pins s σ H D I q => h.run pins s σ H D I (k _ _ _ q)⟩

section
variable {X : Cx} {A : We} {C : Cfg} {W : WX} {a b c e : Expr} {ca cb cc ce : E} {pos : Pos} {es : List Expr} {cs : List E}

/-- what is left of a reading behind its first part -/
theorem tD.next {α β γ δ : Type} {K : PySem.W.Frag} {rel : Hp → Th → β → α → Prop} {rel' : Hp → Th → δ → γ → Prop} {ev : Env → Mem → Ev α} {f : Env → α → Mem → Ev γ} {σ : L2.St} {H : Hp} {Q : δ → Hp → Prop}
    (h : tD K A W rel' (fun ε M => (ev ε M).bind (f ε)) σ H Q) :
    tD K A W rel ev σ H fun v H1 => ∃ G θ Hd ε M0 M d, ev ε M0 = some (.ok d M) ∧ SL K A θ Hd ε σ ∧ RG K A G θ Hd M H1 ∧ rel Hd θ v d ∧ PostE K A G (fun c d H' => W c d σ H') rel' (f ε d M) θ Hd Q := by
  obtain ⟨G, θ, Hd, ε, M, S, R, p⟩ := h
  exact ⟨G, θ, Hd, ε, M, S, R, p.bind.mono fun v H1 ⟨θ1, Hd1, d, M1, e, E, R1, r, q⟩ => ⟨G, θ1, Hd1, ε, M, M1, d, e, S.up E, R1, r, q⟩⟩

/-! ### names and constants -/
theorem de_loc {i : Nat} {x : Str} (hN : X.N[i]? = some x := by rfl) (hv : Vis X.env.scope x := by first | exact Or.inl rfl | exact Or.inr (Or.inl rfl) | exact Or.inr (Or.inr rfl)) (hd : (x == ("__debug__" : Str)) = false := by decide)
    (hcd : (x == ("__classdict__" : Str)) = false := by decide) : DE X A C W (.Name x pos) (.loc i) := by
  refine PE.imp (pe_var hN hv hd hcd) ?_
  rintro σ H Q ⟨G, θ, Hd, ε, M, S, R, p⟩
  simp only [eval] at p
  split at p
  · rename_i d h
    obtain ⟨v, e, r⟩ := S.2.1 i d h
    exact ⟨v, e, p.ok R r⟩
  · exact p.elim
theorem de_const {t : TE} {d : D} {v : V} (h : PE X e t) (ht : ∀ σ H Q, Q v H → t σ H Q) (hr : ∀ Hd θ, Rep X.K A Hd θ v d) : DE X A C W e (.con d) := by
  refine PE.imp h ?_
  rintro σ H Q ⟨G, θ, Hd, ε, M, S, R, p⟩
  exact ht _ _ _ (p.ok R (hr _ _))
theorem de_int {i : Int} {j pos} : DE X A C W (.Constant (.int i) j pos) (.con (.int i)) := de_const pe_int (fun _ _ _ h => h) fun _ _ => .int i
theorem de_bl {b : Bool} {j pos} : DE X A C W (.Constant (.bool b) j pos) (.con (.bl b)) := de_const pe_bl (fun _ _ _ h => h) fun _ _ => .bl b
theorem de_non {j pos} : DE X A C W (.Constant .none j pos) (.con .non) := de_const pe_non (fun _ _ _ h => h) fun _ _ => .non
theorem de_str {x : Str} {j pos} : DE X A C W (.Constant (.str x) j pos) (.con (.str x)) := de_const pe_str (fun _ _ _ h => h) fun _ _ => .str x
theorem de_gint {x : Str} {i : Int} (hm : ∃ t, X.mg x = some (.int i t)) (hg : Gl X x := by rfl) (hd : (x == ("__debug__" : Str)) = false := by decide) : DE X A C W (.Name x pos) (.con (.int i)) :=
  let ⟨t, hm⟩ := hm; de_const (pe_glob (v := .int i) hg hm ⟨t, rfl⟩ hd) (fun _ _ _ h => h) fun _ _ => .int i
theorem de_gstr {x s : Str} (hm : ∃ t, X.mg x = some (.str s t)) (hg : Gl X x := by rfl) (hd : (x == ("__debug__" : Str)) = false := by decide) : DE X A C W (.Name x pos) (.con (.str s)) :=
  let ⟨t, hm⟩ := hm; de_const (pe_glob (v := .str s) hg hm ⟨t, rfl⟩ hd) (fun _ _ _ h => h) fun _ _ => .str s

/-! ### argument lists, displays -/
theorem da_nil : DA X A C W [] [] := by
  refine PA.imp pa_nil ?_
  rintro σ H Q ⟨G, θ, Hd, ε, M, S, R, p⟩
  exact p.ok R .nil
theorem da_cons (ha : DE X A C W e ce) (hr : DA X A C W es cs) (hs : starEach (e :: es) X.env = (false, PySem.eval e X.env) :: starEach es X.env := by rfl) : DA X A C W (e :: es) (ce :: cs) := by
  refine PA.imp (pa_cons ha hr hs) ?_
  intro σ H Q h
  have h : tD X.K A W (rVs X.K A) (fun ε M => (eval C ce ε M).bind fun d M => (evals C cs ε M).bind fun ds M => some (.ok (d :: ds) M)) σ H Q := h
  obtain ⟨G, θ, Hd, ε, M, S, R, p⟩ := tD.next (rel := rV X.K A) h
  refine ⟨G, θ, Hd, ε, M, S, R, p.mono ?_⟩
  rintro v H1 ⟨G1, θ1, Hd1, ε1, M0, M1, d, e1, S1, R1, r1, p1⟩
  refine ⟨G1, θ1, Hd1, ε1, M1, S1, R1, p1.bind.mono ?_⟩
  rintro vs H2 ⟨θ2, Hd2, ds, M2, e2, E2, R2, r2, p2⟩
  exact p2.ok R2 (.cons (r1.up E2) r2)
theorem bind_some {α β : Type} {x : Ev α} {f : α → Mem → Ev β} {b : β} {M : Mem} (h : x.bind f = some (.ok b M)) : ∃ a M1, x = some (.ok a M1) ∧ f a M1 = some (.ok b M) := by
  rcases x with _ | ⟨a, M1⟩ | ⟨c, M1⟩
  · cases h
  · exact ⟨a, M1, rfl, h⟩
  · cases h
theorem evals_length : ∀ {cs : List E} {ε : Env} {M M' : Mem} {ds : List D}, evals C cs ε M = some (.ok ds M') → ds.length = cs.length
  | [], _, _, _, _, h => by simp only [evals] at h; cases h; rfl
  | c :: cs, _, _, _, _, h => by
    simp only [evals] at h
    obtain ⟨d, M1, _, h⟩ := bind_some h
    obtain ⟨ds, M2, h2, h⟩ := bind_some h
    cases h
    exact congrArg (· + 1) (evals_length h2)
theorem de_tup {x1} (ha : DA X A C W es cs) (hl : cs.length ≤ 1000 := by decide) : DE X A C W (.Tuple es x1 pos) (.tup cs) := by
  refine PE.imp (pe_tup ha) ?_
  intro σ H Q h
  have h : tD X.K A W (rV X.K A) (fun ε M => (evals C cs ε M).bind fun ds M => some (.ok (.tup ds) M)) σ H Q := by
    have e : eval C (.tup cs) = fun ε M => (evals C cs ε M).bind fun ds M => some (.ok (.tup ds) M) := by funext ε M; simp only [eval]
    rw [← e]; exact h
  obtain ⟨G, θ, Hd, ε, M, S, R, p⟩ := tD.next (rel := rVs X.K A) h
  refine ⟨G, θ, Hd, ε, M, S, R, p.mono ?_⟩
  rintro vs H1 ⟨G1, θ1, Hd1, ε1, M0, M1, ds, e1, S1, R1, r1, p1⟩
  have hn : vs.length ≤ 1000 := by rw [r1.length, evals_length e1]; exact hl
  refine ⟨Nat.le_of_lt (small1000 hn), fun p hp => ?_⟩
  obtain ⟨R2, E2⟩ := R1.data hp (.tup vs)
  exact (p1.up E2).ok R2 (.tup (.of upd_same) (r1.up E2))
theorem de_lst (ha : DA X A C W es cs) (hl : cs.length ≤ 1000 := by decide) : DE X A C W (.List es pos) (.lst cs) := by
  refine PE.imp (pe_lst ha) ?_
  intro σ H Q h
  have h : tD X.K A W (rV X.K A) (fun ε M => (evals C cs ε M).bind fun ds M => some (.ok (.lst ds) M)) σ H Q := by
    have e : eval C (.lst cs) = fun ε M => (evals C cs ε M).bind fun ds M => some (.ok (.lst ds) M) := by funext ε M; simp only [eval]
    rw [← e]; exact h
  obtain ⟨G, θ, Hd, ε, M, S, R, p⟩ := tD.next (rel := rVs X.K A) h
  refine ⟨G, θ, Hd, ε, M, S, R, p.mono ?_⟩
  rintro vs H1 ⟨G1, θ1, Hd1, ε1, M0, M1, ds, e1, S1, R1, r1, p1⟩
  have hn : vs.length ≤ 1000 := by rw [r1.length, evals_length e1]; exact hl
  refine ⟨Nat.le_of_lt (small1000 hn), fun p hp => ?_⟩
  obtain ⟨R2, E2⟩ := R1.data hp (.lst vs)
  exact (p1.up E2).ok R2 (.lst (.of upd_same) (r1.up E2))
/-- a written list that is mutable -/
theorem de_boxlst (ha : DA X A C W es cs) (hl : cs.length ≤ 1000 := by decide) : DE X A C W (.List es pos) (.box (.lst cs)) := by
  refine PE.imp (pe_lst ha) ?_
  intro σ H Q h
  have h : tD X.K A W (rV X.K A) (fun ε M => (evals C cs ε M).bind fun ds M => some (.ok (.ref M.length) (M ++ [.lst ds]))) σ H Q := by
    have e : eval C (.box (.lst cs)) = fun ε M => (evals C cs ε M).bind fun ds M => some (.ok (.ref M.length) (M ++ [.lst ds])) := by
      funext ε M; simp only [eval]
      rcases evals C cs ε M with _ | ⟨d, M⟩ | ⟨c, M⟩ <;> rfl
    rw [← e]; exact h
  obtain ⟨G, θ, Hd, ε, M, S, R, p⟩ := tD.next (rel := rVs X.K A) h
  refine ⟨G, θ, Hd, ε, M, S, R, p.mono ?_⟩
  rintro vs H1 ⟨G1, θ1, Hd1, ε1, M0, M1, ds, e1, S1, R1, r1, p1⟩
  have hn : vs.length ≤ 1000 := by rw [r1.length, evals_length e1]; exact hl
  refine ⟨Nat.le_of_lt (small1000 hn), fun p hp => ?_⟩
  have nt : ∀ n, θ1 n ≠ some p := fun n e => R1.liv n p e hp
  have E0 : Ext θ1 Hd1 (th θ1 M1.length p) Hd1 := ⟨Same.refl _, fun n a e => by unfold th; rw [if_neg (Nat.ne_of_lt (R1.top n a e))]; exact e⟩
  obtain ⟨R2, E2⟩ := (R1.junk hp (.lst vs)).box (o := .lst ds) upd_same (R1.dnone hp) (R1.dom p hp) nt (r1.up E0)
  exact (p1.up E2).ok R2 (.ref (by unfold th; rw [if_pos rfl]))
theorem de_dct : DE X A C W (.Dict [] [] pos) .dct := by
  refine PE.imp pe_dnewK ?_
  rintro σ H Q ⟨G, θ, Hd, ε, M, S, R, q⟩
  intro p hp
  simp only [eval] at q
  have nt : ∀ n, θ n ≠ some p := fun n e => R.liv n p e hp
  obtain ⟨R2, E2⟩ := (R.junk hp (.dK [])).box (o := .dct []) upd_same (R.dnone hp) (R.dom p hp) nt ⟨rfl, .nil⟩
  exact (q.up E2).ok R2 (.ref (by unfold th; rw [if_pos rfl]))

/-! ### operators by values -/
def rD (K : PySem.W.Frag) (A : We) (g : D → D → Mem → Option D) : R2 := fun x y H Q => ∃ G θ Hd M dx dy d, RG K A G θ Hd M H ∧ Rep K A Hd θ x dx ∧ Rep K A Hd θ y dy ∧ g dx dy M = some d ∧
  ∀ v H' Hd', Ext θ Hd θ Hd' → RG K A G θ Hd' M H' → Rep K A Hd' θ v d → Q v H'
abbrev OpD (X : Cx) (A : We) (f : Value → Value → Sem Value) (g : D → D → Mem → Option D) : Prop := OpR X f (rD X.K A g)
theorem OpR.imp {f : Value → Value → Sem Value} {r r' : R2} (h : OpR X f r') (k : ∀ x y H Q, r x y H Q → r' x y H Q) : OpR X f r := fun pins s σ H x y v u Q I rx ry q => h pins s σ H x y v u Q I rx ry (k _ _ _ _ q)

/-- the reading of two parts, then an operation by values -/
theorem tD.two {K : PySem.W.Frag} {g : D → D → Mem → Option D} {σ : L2.St} {H : Hp} {Q : VK} (h : tD K A W (rV K A) (fun ε M => (eval C ca ε M).bind fun x M => (eval C cb ε M).bind fun y M => opt (g x y M) M) σ H Q) :
    tOp (rD K A g) (tE K A C W ca) (tE K A C W cb) σ H Q := by
  obtain ⟨G, θ, Hd, ε, M, S, R, p⟩ := tD.next (rel := rV K A) h
  refine ⟨G, θ, Hd, ε, M, S, R, p.mono ?_⟩
  rintro v H1 ⟨G1, θ1, Hd1, ε1, M0, M1, d, e1, S1, R1, r1, p1⟩
  refine ⟨G1, θ1, Hd1, ε1, M1, S1, R1, p1.bind.mono ?_⟩
  rintro u H2 ⟨θ2, Hd2, d2, M2, e2, E2, R2, r2, p2⟩
  cases hg : g d d2 M2 with
  | none => rw [hg] at p2; exact p2.elim
  | some w =>
    rw [hg] at p2
    exact ⟨G1, θ2, Hd2, M2, d, d2, w, R2, r1.up E2, r2, hg, fun v H' Hd' E R r => (p2.up E).ok R r⟩
theorem de_bin {op : Operator} {o : Op2} (ho : OpD X A (binaryOp op) (binop o)) (ha : DE X A C W a ca) (hb : DE X A C W b cb) : DE X A C W (.BinOp a op b pos) (.bin o ca cb) := by
  refine PE.imp (pe_op ho ha hb) fun σ H Q h => ?_
  have e : eval C (.bin o ca cb) = fun ε M => (eval C ca ε M).bind fun x M => (eval C cb ε M).bind fun y M => opt (binop o x y M) M := by funext ε M; simp only [eval]
  unfold tE at h
  rw [e] at h
  exact h.two
theorem de_cmp {op : CmpOp} {o : Op2} (ho : OpD X A (compareOp op) (binop o)) (ha : DE X A C W a ca) (hb : DE X A C W b cb) (hm : behindInMarks op b = false := by first | exact nomark _ | rfl) : DE X A C W (.Compare a [op] [b] pos) (.bin o ca cb) := by
  refine PE.imp (pe_cmpR ho ha hb hm) fun σ H Q h => ?_
  have e : eval C (.bin o ca cb) = fun ε M => (eval C ca ε M).bind fun x M => (eval C cb ε M).bind fun y M => opt (binop o x y M) M := by funext ε M; simp only [eval]
  unfold tE at h
  rw [e] at h
  exact h.two
end
end Dw
/-! Dw4: the operators, one by one. -/
namespace Dw
open PySem L2 PyProof.Rows
section
variable {X : Cx} {A : We} {C : Cfg} {W : WX}

/-- what every operator's proof begins with -/
theorem OpD.of {f : Value → Value → Sem Value} {g : D → D → Mem → Option D} {r : R2} (h : OpR X f r)
    (k : ∀ G θ Hd M dx dy d x y H Q, RG X.K A G θ Hd M H → Rep X.K A Hd θ x dx → Rep X.K A Hd θ y dy → g dx dy M = some d →
      (∀ v H' Hd', Ext θ Hd θ Hd' → RG X.K A G θ Hd' M H' → Rep X.K A Hd' θ v d → Q v H') → r x y H Q) : OpD X A f g :=
  OpR.imp h fun x y H Q ⟨G, θ, Hd, M, dx, dy, d, R, rx, ry, hg, q⟩ => k G θ Hd M dx dy d x y H Q R rx ry hg q

/-- two lists -/
theorem Inv.rdM {pins : List (Addr × Obj)} {σ : L2.St} {H : Hp} {s : Shared} {l : Addr} {xs : List V} (I : Inv X pins σ H s) (hH : Rd H l (.lst xs)) : xs.length ≤ sizeLine ∧ ∃ (its : List Value) (n : Nat), Vals xs its ∧ xs.length = its.length ∧ s.heap.get? l = some { cls := .type "list", data := .seq its.toArray n } := by
  obtain ⟨z, its, n, r, e⟩ := hH.ok I.hok
  exact ⟨z, its, n, r, r.length, e⟩
def rCatR (K : PySem.W.Frag) : R2 := fun x y H Q => ∃ l b xs zs, x = .ref l ∧ y = .ref b ∧ SqL K H l xs ∧ SqL K H b zs ∧ xs.length + zs.length ≤ sizeLine ∧ ∀ p, H p = none → Q (.ref p) (upd H p (.lst (xs ++ zs)))
theorem op_catR : OpR X (binaryOp .Add) (rCatR X.K) := by
  intro pins s σ H x y v u Q I rx ry h
  obtain ⟨l, b, xs, zs, rfl, rfl, hH, hB, hz, q⟩ := h
  cases rx
  cases ry
  obtain ⟨its, r, ⟨o, n, e, k1, k2, k3⟩, z⟩ := I.list hH
  obtain ⟨its2, r2, ⟨o2, n2, e2, l1, l2, l3⟩, z2⟩ := I.list hB
  obtain ⟨oc, od, dt, sl⟩ := o
  obtain ⟨oc2, od2, dt2, sl2⟩ := o2
  simp only at k1 k2 k3 l1 l2 l3
  subst k1 k2 k3 l1 l2 l3
  have hl := r.length
  have hl2 := r2.length
  refine concat_meets ⟨_, e, rfl⟩ ⟨_, e2, rfl⟩ noFill_list_add seq_list_add F.slot_list_add F.entry_list_add (F.args_list_add_2 _ _) (list_addW l b its.toArray its2.toArray n n2 none none sl sl2 (by rw [List.size_toArray, List.size_toArray]; omega)) ⟨e, e2, ?_⟩
  have ea : its.toArray ++ its2.toArray = (its ++ its2).toArray := by simp
  rw [ea]
  exact ⟨.ref _, _, I.lnew (t' := s.toks) (r.append r2) (by rw [List.length_append]; omega), rfl, q _ I.fresh⟩

theorem opd_add : OpD X A (binaryOp .Add) (binop .add) := by
  refine OpD.of (op_add.or (op_add_str.or (op_catA.or op_catR))) ?_
  intro G θ Hd M dx dy d x y H Q R rx ry hg q
  have s0 := R.base
  cases dx <;> cases dy <;> simp only [binop, reduceCtorEq] at hg
  · cases rx; cases ry; cases hg
    exact .inl ⟨_, _, rfl, rfl, q _ _ _ (Ext.refl _ _) R (.int _)⟩
  · cases rx; cases ry
    split at hg <;> cases hg
    exact .inr (.inl ⟨_, _, rfl, rfl, by assumption, q _ _ _ (Ext.refl _ _) R (.str _)⟩)
  · split at hg <;> cases hg
    rename_i hz
    cases rx with | tup h1 r1 => cases ry with | tup h2 r2 =>
    rename_i xs b ys
    refine .inr (.inr (.inl ⟨_, _, _, _, rfl, rfl, sqT_mono s0 h1, sqT_mono s0 h2, by rw [r1.length, r2.length]; exact hz, fun e => ?_, fun e1 e2 => ?_, fun e1 e2 p hp => ?_⟩))
    · subst e
      cases r1
      exact q _ _ _ (Ext.refl _ _) R (.tup h2 (by simpa using r2))
    · subst e2
      cases r2
      exact q _ _ _ (Ext.refl _ _) R (.tup h1 (by simpa using r1))
    · obtain ⟨R2, E2⟩ := R.data hp (.tup _)
      exact q _ _ _ E2 R2 (.tup (.of upd_same) ((r1.up E2).append (r2.up E2)))
  · split at hg <;> cases hg
    rename_i hz
    cases rx with | lst h1 r1 => cases ry with | lst h2 r2 =>
    refine .inr (.inr (.inr ⟨_, _, _, _, rfl, rfl, sqL_mono s0 h1, sqL_mono s0 h2, by rw [r1.length, r2.length]; exact hz, fun p hp => ?_⟩))
    obtain ⟨R2, E2⟩ := R.data hp (.lst _)
    exact q _ _ _ E2 R2 (.lst (.of upd_same) ((r1.up E2).append (r2.up E2)))

/-- ints to an int -/
theorem opd_ints {f : Value → Value → Sem Value} {g : D → D → Mem → Option D} {Cd : Int → Int → Prop} {k : Int → Int → V} (h : OpR X f (rI Cd k))
    (hk : ∀ dx dy M d, g dx dy M = some d → ∃ i j, dx = .int i ∧ dy = .int j ∧ Cd i j ∧ ((∃ b, k i j = .bl b ∧ d = .bl b) ∨ ∃ n, k i j = .int n ∧ d = .int n)) : OpD X A f g := by
  refine OpD.of h ?_
  intro G θ Hd M dx dy d x y H Q R rx ry hg q
  obtain ⟨i, j, rfl, rfl, c, e⟩ := hk _ _ _ _ hg
  cases rx; cases ry
  refine ⟨i, j, rfl, rfl, c, ?_⟩
  rcases e with ⟨b, e1, rfl⟩ | ⟨n, e1, rfl⟩
  · rw [e1]; exact q _ _ _ (Ext.refl _ _) R (.bl _)
  · rw [e1]; exact q _ _ _ (Ext.refl _ _) R (.int _)
theorem opd_ints0 {f : Value → Value → Sem Value} {g : D → D → Mem → Option D} {k : Int → Int → V} (h : OpR X f (rI0 k))
    (hk : ∀ dx dy M d, g dx dy M = some d → ∃ i j, dx = .int i ∧ dy = .int j ∧ ((∃ b, k i j = .bl b ∧ d = .bl b) ∨ ∃ n, k i j = .int n ∧ d = .int n)) : OpD X A f g := by
  refine opd_ints (Cd := fun _ _ => True) (k := k) (OpR.imp h fun x y H Q ⟨i, j, e1, e2, _, q⟩ => ⟨i, j, e1, e2, q⟩) fun dx dy M d hg => ?_
  obtain ⟨i, j, e1, e2, e⟩ := hk dx dy M d hg
  exact ⟨i, j, e1, e2, trivial, e⟩
theorem opd_sub : OpD X A (binaryOp .Sub) (binop .sub) := opd_ints0 op_sub fun dx dy M d hg => by
  cases dx <;> cases dy <;> simp only [binop, reduceCtorEq] at hg
  cases hg; exact ⟨_, _, rfl, rfl, .inr ⟨_, rfl, rfl⟩⟩
theorem mulOk_ok {i j : Int} (h : mulOk i j = true) : IntMulOk i j := by
  have b : ∀ x : Int, Builtin.Int.intBits x ≤ x.natAbs.log2 + 1 := fun x => by
    unfold Builtin.Int.intBits
    split <;> omega
  have h1 := b i
  have h2 := b j
  have h3 : i.natAbs.log2 + j.natAbs.log2 < 16777216 := of_decide_eq_true h
  have e : bitsLine = 134217728 := by decide
  unfold IntMulOk
  intro z
  rw [Bool.and_eq_true] at z
  have z2 := z.2
  unfold Builtin.Int.intTooBig at z2
  have z3 := of_decide_eq_true z2
  rw [e] at z3
  omega
theorem op_mulD : OpR X (binaryOp .Mult) (rI (fun i j => mulOk i j = true) fun i j => .int (i * j)) := opI fun _ _ _ _ _ _ _ hc q => mul_int q (mulOk_ok hc)
theorem opd_mul : OpD X A (binaryOp .Mult) (binop .mul) := opd_ints op_mulD fun dx dy M d hg => by
  cases dx <;> cases dy <;> simp only [binop, reduceCtorEq] at hg
  split at hg <;> cases hg
  exact ⟨_, _, rfl, rfl, by assumption, .inr ⟨_, rfl, rfl⟩⟩
theorem opd_fdiv : OpD X A (binaryOp .FloorDiv) (binop .fdiv) := opd_ints op_fdivW fun dx dy M d hg => by
  cases dx <;> cases dy <;> simp only [binop, reduceCtorEq] at hg
  split at hg <;> cases hg
  rename_i hc
  simp only [divOk, Bool.and_eq_true, decide_eq_true_eq] at hc
  exact ⟨_, _, rfl, rfl, hc, .inr ⟨_, rfl, rfl⟩⟩
theorem opd_mod : OpD X A (binaryOp .Mod) (binop .mod) := opd_ints op_mod fun dx dy M d hg => by
  cases dx <;> cases dy <;> simp only [binop, reduceCtorEq] at hg
  split at hg <;> cases hg
  exact ⟨_, _, rfl, rfl, by assumption, .inr ⟨_, rfl, rfl⟩⟩
theorem opd_pow : OpD X A (binaryOp .Pow) (binop .pow) := opd_ints op_pow fun dx dy M d hg => by
  cases dx <;> cases dy <;> simp only [binop, reduceCtorEq] at hg
  split at hg <;> cases hg
  exact ⟨_, _, rfl, rfl, by assumption, .inr ⟨_, rfl, rfl⟩⟩
theorem opd_shl : OpD X A (binaryOp .LShift) (binop .shl) := opd_ints op_shl fun dx dy M d hg => by
  cases dx <;> cases dy <;> simp only [binop, reduceCtorEq] at hg
  split at hg <;> cases hg
  exact ⟨_, _, rfl, rfl, by assumption, .inr ⟨_, rfl, rfl⟩⟩
theorem opd_shr : OpD X A (binaryOp .RShift) (binop .shr) := opd_ints op_shr fun dx dy M d hg => by
  cases dx <;> cases dy <;> simp only [binop, reduceCtorEq] at hg
  split at hg <;> cases hg
  exact ⟨_, _, rfl, rfl, by assumption, .inr ⟨_, rfl, rfl⟩⟩
theorem opd_and : OpD X A (binaryOp .BitAnd) (binop .band) := opd_ints0 op_and fun dx dy M d hg => by
  cases dx <;> cases dy <;> simp only [binop, reduceCtorEq] at hg
  cases hg; exact ⟨_, _, rfl, rfl, .inr ⟨_, rfl, rfl⟩⟩
theorem opd_or : OpD X A (binaryOp .BitOr) (binop .bor) := opd_ints0 op_or fun dx dy M d hg => by
  cases dx <;> cases dy <;> simp only [binop, reduceCtorEq] at hg
  cases hg; exact ⟨_, _, rfl, rfl, .inr ⟨_, rfl, rfl⟩⟩
theorem opd_xor : OpD X A (binaryOp .BitXor) (binop .bxor) := opd_ints0 op_xor fun dx dy M d hg => by
  cases dx <;> cases dy <;> simp only [binop, reduceCtorEq] at hg
  cases hg; exact ⟨_, _, rfl, rfl, .inr ⟨_, rfl, rfl⟩⟩
theorem opd_le : OpD X A (compareOp .LtE) (binop .le) := opd_ints0 op_le fun dx dy M d hg => by
  cases dx <;> cases dy <;> simp only [binop, reduceCtorEq] at hg
  cases hg; exact ⟨_, _, rfl, rfl, .inl ⟨_, rfl, rfl⟩⟩
theorem opd_gt : OpD X A (compareOp .Gt) (binop .gt) := opd_ints0 op_gt fun dx dy M d hg => by
  cases dx <;> cases dy <;> simp only [binop, reduceCtorEq] at hg
  cases hg; exact ⟨_, _, rfl, rfl, .inl ⟨_, rfl, rfl⟩⟩
theorem opd_ge : OpD X A (compareOp .GtE) (binop .ge) := opd_ints0 op_ge fun dx dy M d hg => by
  cases dx <;> cases dy <;> simp only [binop, reduceCtorEq] at hg
  cases hg; exact ⟨_, _, rfl, rfl, .inl ⟨_, rfl, rfl⟩⟩

/-! ### order -/
theorem ints_some : ∀ {ds : List D} {ns : List Int}, ints? ds = some ns → ds = ns.map D.int
  | [], ns, h => by simp only [ints?] at h; cases h; rfl
  | d :: ds, ns, h => by
    cases d <;> simp only [ints?, reduceCtorEq] at h
    split at h <;> cases h
    rename_i l hl
    rw [ints_some hl]; rfl
theorem reps_ints {K : PySem.W.Frag} {Hd : Hp} {θ : Th} : ∀ {ns : List Int} {vs : List V}, Reps K A Hd θ vs (ns.map D.int) → vs = ns.map V.int
  | [], vs, h => by cases h; rfl
  | n :: ns, vs, h => by
    obtain ⟨v, ws, rfl, h1, h2⟩ := h.inv_cons
    cases h1
    rw [reps_ints h2]; rfl
theorem opd_lt (hu : X.A.units < cLine) : OpD X A (compareOp .Lt) (binop .lt) := by
  refine OpD.of (op_lt.or (op_ltT hu)) ?_
  intro G θ Hd M dx dy d x y H Q R rx ry hg q
  cases dx <;> cases dy <;> simp only [binop, dlt, reduceCtorEq] at hg
  · cases rx; cases ry; cases hg
    exact .inl ⟨_, _, rfl, rfl, q _ _ _ (Ext.refl _ _) R (.bl _)⟩
  · rename_i ds es
    cases h1 : ints? ds with
    | none => simp [h1] at hg
    | some ns =>
      cases h2 : ints? es with
      | none => simp [h1, h2] at hg
      | some ms =>
        simp only [h1, h2] at hg
        cases hg
        rw [ints_some h1] at rx
        rw [ints_some h2] at ry
        cases rx with | tup k1 r1 => cases ry with | tup k2 r2 =>
        rw [reps_ints r1] at k1
        rw [reps_ints r2] at k2
        exact .inr ⟨_, _, ns, ms, rfl, rfl, sqT_mono R.base k1, sqT_mono R.base k2, q _ _ _ (Ext.refl _ _) R (.bl _)⟩

/-! ### == -/
mutual
def toPy : D → PyData
  | .non => .none
  | .bl b => .bool b
  | .int i => .int i
  | .str s => .str s
  | .tup ds => .tuple (toPys ds)
  | .lst ds => .list (toPys ds)
  | .obj _ _ => .none
  | .ref _ => .none
def toPys : List D → List PyData
  | [] => []
  | d :: ds => toPy d :: toPys ds
end
mutual
theorem Rep.dp {K : PySem.W.Frag} {Hd H : Hp} {θ : Th} (s0 : Same Hd H) : ∀ (n : Nat) (d : D) (v : V), flat n d = true → Rep K A Hd θ v d → Dp K H v (toPy d)
  | _, .non, _, _, h => by cases h; exact .non
  | _, .bl _, _, _, h => by cases h; exact .bl _
  | _, .int _, _, _, h => by cases h; exact .int _
  | _, .str _, _, _, h => by cases h; exact .str _
  | 0, .tup ds, _, f, _ => by simp [flat] at f
  | n + 1, .tup ds, _, f, h => by cases h with | tup h1 h2 => exact .tup (sqT_mono s0 h1) (Reps.dp s0 n ds _ (by simpa [flat] using f) h2)
  | 0, .lst ds, _, f, _ => by simp [flat] at f
  | n + 1, .lst ds, _, f, h => by cases h with | lst h1 h2 => exact .lst (sqL_mono s0 h1) (Reps.dp s0 n ds _ (by simpa [flat] using f) h2)
  | _, .obj _ _, _, f, _ => by simp [flat] at f
  | _, .ref _, _, f, _ => by simp [flat] at f
theorem Reps.dp {K : PySem.W.Frag} {Hd H : Hp} {θ : Th} (s0 : Same Hd H) : ∀ (n : Nat) (ds : List D) (vs : List V), flats n ds = true → Reps K A Hd θ vs ds → DpAll K H vs (toPys ds)
  | _, [], _, _, h => by cases h; exact .nil
  | n, d :: ds, _, f, h => by
    simp only [flats, Bool.and_eq_true] at f
    cases h with | cons h1 h2 => exact .cons (Rep.dp s0 n d _ f.1 h1) (Reps.dp s0 n ds _ f.2 h2)
end
mutual
theorem eqv_deq : ∀ (n m : Nat) (d e : D), flat n d = true → flat m e = true → PyData.eqv (toPy d) (toPy e) = deq d e
  | n, m, .non, e, f, g => by cases e <;> first | rfl | simp [flat] at g
  | n, m, .bl _, e, f, g => by cases e <;> first | rfl | simp [flat] at g
  | n, m, .int _, e, f, g => by cases e <;> first | rfl | simp [flat] at g
  | n, m, .str _, e, f, g => by cases e <;> first | rfl | simp [flat] at g
  | 0, m, .tup _, e, f, g => by simp [flat] at f
  | n + 1, 0, .tup _, e, f, g => by cases e <;> first | rfl | simp [flat] at g
  | n + 1, m + 1, .tup ds, e, f, g => by
    cases e <;> first | rfl | (simp [flat] at g; done) | skip
    rename_i es
    simp only [flat] at f g
    simp only [toPy, PyData.eqv, deq]
    exact eqv_deqs n m ds es f g
  | 0, m, .lst _, e, f, g => by simp [flat] at f
  | n + 1, 0, .lst _, e, f, g => by cases e <;> first | rfl | simp [flat] at g
  | n + 1, m + 1, .lst ds, e, f, g => by
    cases e <;> first | rfl | (simp [flat] at g; done) | skip
    rename_i es
    simp only [flat] at f g
    simp only [toPy, PyData.eqv, deq]
    exact eqv_deqs n m ds es f g
  | n, m, .obj _ _, e, f, g => by simp [flat] at f
  | n, m, .ref _, e, f, g => by simp [flat] at f
theorem eqv_deqs : ∀ (n m : Nat) (ds es : List D), flats n ds = true → flats m es = true → PyData.eqvAll (toPys ds) (toPys es) = deqs ds es
  | n, m, [], es, f, g => by cases es <;> rfl
  | n, m, d :: ds, [], f, g => rfl
  | n, m, d :: ds, e :: es, f, g => by
    simp only [flats, Bool.and_eq_true] at f g
    simp only [toPys, PyData.eqvAll, deqs, eqv_deq n m d e f.1 g.1, eqv_deqs n m ds es f.2 g.2]
end
end
end Dw
/-! Dw5: ==, in, tests, chains, subscripts. -/
namespace Dw
open PySem L2 PyProof.Rows
section
variable {X : Cx} {A : We} {C : Cfg} {W : WX} {a b c e : Expr} {ca cb cc ce : E} {pos : Pos} {es : List Expr} {cs : List E}

mutual
theorem flat_lay : ∀ (n : Nat) (d : D), flat n d = true → (toPy d).canLay0 = true
  | n, .non, f => rfl
  | n, .bl _, f => rfl
  | n, .int _, f => rfl
  | n, .str s, f => by simpa [flat, toPy, PyData.canLay0] using f
  | 0, .tup _, f => by simp [flat] at f
  | n + 1, .tup ds, f => by simp only [flat] at f; simp only [toPy, PyData.canLay0]; exact flats_lay n ds f
  | 0, .lst _, f => by simp [flat] at f
  | n + 1, .lst ds, f => by simp only [flat] at f; simp only [toPy, PyData.canLay0]; exact flats_lay n ds f
  | n, .obj _ _, f => by simp [flat] at f
  | n, .ref _, f => by simp [flat] at f
theorem flats_lay : ∀ (n : Nat) (ds : List D), flats n ds = true → PyData.canLayAll0 (toPys ds) = true
  | n, [], f => rfl
  | n, d :: ds, f => by
    simp only [flats, Bool.and_eq_true] at f
    simp only [toPys, PyData.canLayAll0, flat_lay n d f.1, flats_lay n ds f.2, Bool.and_self]
end
mutual
theorem flat_depth : ∀ (n : Nat) (d : D), flat n d = true → (toPy d).depth ≤ n
  | n, .non, f => Nat.zero_le _
  | n, .bl _, f => Nat.zero_le _
  | n, .int _, f => Nat.zero_le _
  | n, .str s, f => Nat.zero_le _
  | 0, .tup _, f => by simp [flat] at f
  | n + 1, .tup ds, f => by simp only [flat] at f; simp only [toPy, PyData.depth]; exact Nat.succ_le_succ (flats_depth n ds f)
  | 0, .lst _, f => by simp [flat] at f
  | n + 1, .lst ds, f => by simp only [flat] at f; simp only [toPy, PyData.depth]; exact Nat.succ_le_succ (flats_depth n ds f)
  | n, .obj _ _, f => by simp [flat] at f
  | n, .ref _, f => by simp [flat] at f
theorem flats_depth : ∀ (n : Nat) (ds : List D), flats n ds = true → PyData.depthAll (toPys ds) ≤ n
  | n, [], f => Nat.zero_le _
  | n, d :: ds, f => by
    simp only [flats, Bool.and_eq_true] at f
    simp only [toPys, PyData.depthAll]
    exact Nat.max_le.mpr ⟨flat_depth n d f.1, flats_depth n ds f.2⟩
end
theorem flat_shaped {n : Nat} {d : D} (f : flat n d = true) (hn : n ≤ 64) : SeqAt.shaped (toPy d) = true := by
  unfold SeqAt.shaped
  rw [flat_lay n d f, Bool.true_and, decide_eq_true_eq]
  exact Nat.le_trans (flat_depth n d f) hn

theorem eqD_cases {x y : D} {b : Bool} (h : eqD x y = some b) : (∃ s t, x = .str s ∧ y = .str t ∧ b = (s == t)) ∨ (flat 60 x = true ∧ flat 60 y = true ∧ b = deq x y) := by
  unfold eqD at h
  split at h
  · split at h
    · cases h; exact .inl ⟨_, _, rfl, rfl, rfl⟩
    · split at h <;> cases h
      rename_i hc
      rw [Bool.and_eq_true] at hc
      exact .inr ⟨hc.1, hc.2, rfl⟩
  · split at h <;> cases h
    rename_i hc
    rw [Bool.and_eq_true] at hc
    exact .inr ⟨hc.1, hc.2, rfl⟩
theorem opd_eq (hu : X.A.units + 64 < cLine) : OpD X A (compareOp .Eq) (binop .eq) := by
  refine OpD.of (op_eq.or (op_eqD hu)) ?_
  intro G θ Hd M dx dy d x y H Q R rx ry hg q
  simp only [binop] at hg
  split at hg <;> cases hg
  rename_i b hb
  rcases eqD_cases hb with ⟨s, t, rfl, rfl, rfl⟩ | ⟨fx, fy, rfl⟩
  · cases rx; cases ry
    refine .inl ⟨rfl, ?_⟩
    rw [dec_str]
    exact q _ _ _ (Ext.refl _ _) R (.bl _)
  · refine .inr ⟨_, _, Rep.dp R.base 60 _ _ fx rx, Rep.dp R.base 60 _ _ fy ry, flat_shaped fx (by decide), flat_shaped fy (by decide), ?_⟩
    rw [eqv_deq 60 60 _ _ fx fy]
    exact q _ _ _ (Ext.refl _ _) R (.bl _)
theorem opd_ne (hu : X.A.units + 64 < cLine) : OpD X A (compareOp .NotEq) (binop .ne) := by
  refine OpD.of (op_ne.or (op_neD hu)) ?_
  intro G θ Hd M dx dy d x y H Q R rx ry hg q
  simp only [binop] at hg
  split at hg <;> cases hg
  rename_i b hb
  rcases eqD_cases hb with ⟨s, t, rfl, rfl, rfl⟩ | ⟨fx, fy, rfl⟩
  · cases rx; cases ry
    refine .inl ⟨rfl, ?_⟩
    rw [dec_str]
    exact q _ _ _ (Ext.refl _ _) R (.bl _)
  · refine .inr ⟨_, _, Rep.dp R.base 60 _ _ fx rx, Rep.dp R.base 60 _ _ fy ry, flat_shaped fx (by decide), flat_shaped fy (by decide), ?_⟩
    rw [eqv_deq 60 60 _ _ fx fy]
    exact q _ _ _ (Ext.refl _ _) R (.bl _)

/-! ### in -/
theorem any_deq : ∀ (n m : Nat) (ds : List D) (x : D), flat n x = true → flats m ds = true → ((toPys ds).any fun z => PyData.eqv z (toPy x)) = ds.any fun d => deq d x
  | n, m, [], x, _, _ => rfl
  | n, m, d :: ds, x, fx, f => by
    simp only [flats, Bool.and_eq_true] at f
    simp only [toPys, List.any_cons, eqv_deq m n d x f.1 fx, any_deq n m ds x fx f.2]
theorem scalar_V {K : PySem.W.Frag} {Hd : Hp} {θ : Th} {d : D} {v : V} (f : scalar d = true) (h : Rep K A Hd θ v d) : flatV v = true := by
  cases d <;> simp [scalar] at f <;> cases h <;> rfl
theorem scalar_eq {K : PySem.W.Frag} {Hd : Hp} {θ : Th} {d e : D} {v w : V} (f : scalar d = true) (g : scalar e = true) (h : Rep K A Hd θ v d) (k : Rep K A Hd θ w e) : eqV v w = deq d e := by
  cases d <;> simp [scalar] at f <;> cases e <;> simp [scalar] at g <;> cases h <;> cases k <;> rfl
theorem scalars_V {K : PySem.W.Frag} {Hd : Hp} {θ : Th} : ∀ {ds : List D} {vs : List V}, ds.all scalar = true → Reps K A Hd θ vs ds → vs.all flatV = true
  | [], _, _, h => by cases h; rfl
  | d :: ds, _, f, h => by
    rw [List.all_cons, Bool.and_eq_true] at f
    cases h with | cons h1 h2 => rw [List.all_cons, scalar_V f.1 h1, scalars_V f.2 h2]; rfl
theorem inV_eq {K : PySem.W.Frag} {Hd : Hp} {θ : Th} {x : D} {v : V} (fx : scalar x = true) (hx : Rep K A Hd θ v x) : ∀ {ds : List D} {vs : List V}, ds.all scalar = true → Reps K A Hd θ vs ds → inV v vs = ds.any fun d => deq d x
  | [], _, _, h => by cases h; rfl
  | d :: ds, _, f, h => by
    rw [List.all_cons, Bool.and_eq_true] at f
    cases h with | cons h1 h2 =>
    have ih := inV_eq fx hx f.2 h2
    unfold inV at ih ⊢
    rw [List.any_cons, List.any_cons, ih, scalar_eq f.1 fx h1 hx]
theorem key_some {d : D} {k : Key} (h : key? d = some k) : d = keyD k := by
  cases d <;> simp only [key?, reduceCtorEq] at h <;> cases h <;> rfl
theorem key_V {K : PySem.W.Frag} {Hd : Hp} {θ : Th} {k : Key} {v : V} (h : Rep K A Hd θ v (keyD k)) : v = kV k := by
  cases k <;> cases h <;> rfl
theorem dct_val {K : PySem.W.Frag} {Hd : Hp} {θ : Th} (k : Key) : ∀ {kvs : List (Key × V)} {l : List (Key × D)}, kvs.map (·.1) = l.map (·.1) → Reps K A Hd θ (kvs.map (·.2)) (l.map (·.2)) →
    (∀ d, dget l k = some d → ∃ v, valV kvs k = some v ∧ Rep K A Hd θ v d) ∧ (dget l k = none → valV kvs k = none)
  | [], [], _, _ => ⟨fun d h => by simp [dget] at h, fun _ => rfl⟩
  | [], _ :: _, h, _ => by simp at h
  | _ :: _, [], h, _ => by simp at h
  | (j, v) :: kvs, (j', d) :: l, h, r => by
    simp only [List.map_cons, List.cons.injEq] at h
    obtain ⟨rfl, h⟩ := h
    cases r with | cons r1 r2 =>
    have ih := dct_val k h r2
    by_cases e : j = k
    · have e1 : dget ((j, d) :: l) k = some d := by simp [dget, List.find?_cons, e]
      rw [e1, valV_pos (p := (j, v)) e]
      exact ⟨fun d' q => by cases q; exact ⟨v, rfl, r1⟩, fun q => by cases q⟩
    · have e1 : dget ((j, d) :: l) k = dget l k := by simp [dget, List.find?_cons, e]
      rw [e1, valV_neg (p := (j, v)) e]
      exact ih
theorem op_dinR (hu : X.A.units + 1 < cLine) : OpR X (compareOp .In) (fun y x H Q => ∃ a o, x = .ref a ∧ DGet H a y o ∧ Q (.bl o.isSome) H) := by
  intro pins s σ H y x u v Q I ry rx h
  obtain ⟨a, o, rfl, g, q⟩ := h
  cases rx
  exact d_in hu I g ry fun s' I' => ⟨.bl _, H, I', rfl, q⟩
theorem op_dnotinR (hu : X.A.units + 1 < cLine) : OpR X (compareOp .NotIn) (fun y x H Q => ∃ a o, x = .ref a ∧ DGet H a y o ∧ Q (.bl (!o.isSome)) H) := by
  intro pins s σ H y x u v Q I ry rx h
  obtain ⟨a, o, rfl, g, q⟩ := h
  cases rx
  exact d_notIn hu I g ry fun s' I' => ⟨.bl _, H, I', rfl, q⟩
theorem one_sign {c : Str} (h : c.length = 1) : c = ⟨#[c.cps.getD 0 0]⟩ := by
  obtain ⟨⟨l⟩⟩ := c
  have h' : l.length = 1 := h
  match l, h' with
  | [k], _ => rfl
theorem opd_in (hu : X.A.units + 65 < cLine) : OpD X A (compareOp .In) (binop .isin) := by
  refine OpD.of (op_in_seq.or ((op_inD hu).or ((op_dinR (by omega)).or op_in_sign))) ?_
  intro G θ Hd M dx dy d x y H Q R rx ry hg q
  simp only [binop] at hg
  split at hg <;> cases hg
  rename_i b hb
  cases dy <;> simp only [isin, reduceCtorEq] at hb
  · cases dx <;> simp only [reduceCtorEq] at hb
    rename_i z c
    split at hb <;> cases hb
    rename_i hc
    cases rx; cases ry
    exact .inr (.inr (.inr ⟨_, _, congrArg V.str (one_sign hc), rfl, q _ _ _ (Ext.refl _ _) R (.bl _)⟩))
  · split at hb <;> cases hb
    rename_i hc
    rw [Bool.and_eq_true] at hc
    cases ry with | tup h1 r1 =>
    refine .inl ⟨_, _, rfl, .inr (sqT_mono R.base h1), scalar_V hc.1 rx, scalars_V hc.2 r1, ?_⟩
    rw [if_neg Bool.false_ne_true, inV_eq hc.1 rx hc.2 r1]
    exact q _ _ _ (Ext.refl _ _) R (.bl _)
  · split at hb <;> cases hb
    rename_i hc
    rw [Bool.and_eq_true] at hc
    have fy : flat 60 (.lst ‹List D›) = true := by simp only [flat]; exact hc.2
    have dp := Rep.dp R.base 60 _ _ fy ry
    simp only [toPy] at dp
    refine .inr (.inl ⟨_, _, Rep.dp R.base 60 _ _ hc.1 rx, dp, flat_shaped hc.1 (by decide), flat_shaped fy (by decide), ?_⟩)
    rw [any_deq 60 59 _ _ hc.1 hc.2]
    exact q _ _ _ (Ext.refl _ _) R (.bl _)
  · split at hb <;> cases hb
    rename_i kvs k hm hk
    cases ry with | ref hr =>
    obtain ⟨a, u, h1, h2, h3, h4⟩ := R.own _ _ hm (by intro z; cases z)
    rw [hr] at h1; cases h1
    cases u <;> first | exact h4.elim | skip
    rename_i kv
    rw [key_some hk] at rx
    have e := key_V rx
    subst e
    have dv := dct_val k h4.1 h4.2
    refine .inr (.inr (.inl ⟨_, _, rfl, .k (k := k) h3, ?_⟩))
    have e2 : (valV kv k).isSome = (dget kvs k).isSome := by
      cases z : dget kvs k with
      | none => rw [dv.2 z]; rfl
      | some d => obtain ⟨v, e, _⟩ := dv.1 d z; rw [e]; rfl
    rw [e2]
    exact q _ _ _ (Ext.refl _ _) R (.bl _)
theorem opd_notin (hu : X.A.units + 65 < cLine) : OpD X A (compareOp .NotIn) (binop .notin) := by
  refine OpD.of (op_notIn_seq.or ((op_notInD hu).or ((op_dnotinR (by omega)).or op_notIn_sign))) ?_
  intro G θ Hd M dx dy d x y H Q R rx ry hg q
  simp only [binop] at hg
  split at hg <;> cases hg
  rename_i b hb
  cases dy <;> simp only [isin, reduceCtorEq] at hb
  · cases dx <;> simp only [reduceCtorEq] at hb
    rename_i z c
    split at hb <;> cases hb
    rename_i hc
    cases rx; cases ry
    exact .inr (.inr (.inr ⟨_, _, congrArg V.str (one_sign hc), rfl, q _ _ _ (Ext.refl _ _) R (.bl _)⟩))
  · split at hb <;> cases hb
    rename_i hc
    rw [Bool.and_eq_true] at hc
    cases ry with | tup h1 r1 =>
    refine .inl ⟨_, _, rfl, .inr (sqT_mono R.base h1), scalar_V hc.1 rx, scalars_V hc.2 r1, ?_⟩
    rw [if_pos rfl, inV_eq hc.1 rx hc.2 r1]
    exact q _ _ _ (Ext.refl _ _) R (.bl _)
  · split at hb <;> cases hb
    rename_i hc
    rw [Bool.and_eq_true] at hc
    have fy : flat 60 (.lst ‹List D›) = true := by simp only [flat]; exact hc.2
    have dp := Rep.dp R.base 60 _ _ fy ry
    simp only [toPy] at dp
    refine .inr (.inl ⟨_, _, Rep.dp R.base 60 _ _ hc.1 rx, dp, flat_shaped hc.1 (by decide), flat_shaped fy (by decide), ?_⟩)
    rw [any_deq 60 59 _ _ hc.1 hc.2]
    exact q _ _ _ (Ext.refl _ _) R (.bl _)
  · split at hb <;> cases hb
    rename_i kvs k hm hk
    cases ry with | ref hr =>
    obtain ⟨a, u, h1, h2, h3, h4⟩ := R.own _ _ hm (by intro z; cases z)
    rw [hr] at h1; cases h1
    cases u <;> first | exact h4.elim | skip
    rename_i kv
    rw [key_some hk] at rx
    have e := key_V rx
    subst e
    have dv := dct_val k h4.1 h4.2
    refine .inr (.inr (.inl ⟨_, _, rfl, .k (k := k) h3, ?_⟩))
    have e2 : (valV kv k).isSome = (dget kvs k).isSome := by
      cases z : dget kvs k with
      | none => rw [dv.2 z]; rfl
      | some d => obtain ⟨v, e, _⟩ := dv.1 d z; rw [e]; rfl
    rw [e2]
    exact q _ _ _ (Ext.refl _ _) R (.bl _)

/-! ### one-place operations -/
theorem tD.one {K : PySem.W.Frag} {g : D → Mem → Option D} {σ : L2.St} {H : Hp} {Q : VK} (h : tD K A W (rV K A) (fun ε M => (eval C ca ε M).bind fun x M => opt (g x M) M) σ H Q) :
    tE K A C W ca σ H fun v H1 => ∃ G θ Hd M d w, RG K A G θ Hd M H1 ∧ Rep K A Hd θ v d ∧ g d M = some w ∧ ∀ u H' Hd', Ext θ Hd θ Hd' → RG K A G θ Hd' M H' → Rep K A Hd' θ u w → Q u H' := by
  obtain ⟨G, θ, Hd, ε, M, S, R, p⟩ := tD.next (rel := rV K A) h
  refine ⟨G, θ, Hd, ε, M, S, R, p.mono ?_⟩
  rintro v H1 ⟨G1, θ1, Hd1, ε1, M0, M1, d, e1, S1, R1, r1, p1⟩
  cases hg : g d M1 with
  | none => rw [hg] at p1; exact p1.elim
  | some w =>
    rw [hg] at p1
    exact ⟨G1, θ1, Hd1, M1, d, w, R1, r1, hg, fun v H' Hd' E R r => (p1.up E).ok R r⟩
theorem ev_un {o : Op1} : eval C (.un o ca) = fun ε M => (eval C ca ε M).bind fun x M => opt (unop o x) M := by funext ε M; simp only [eval] <;> rfl
theorem de_neg (ha : DE X A C W a ca) : DE X A C W (.UnaryOp .USub a pos) (.un .neg ca) := by
  refine PE.imp (pe_un un_neg ha) fun σ H Q h => ?_
  unfold tE at h
  rw [ev_un] at h
  obtain ⟨G, θ, Hd, ε, M, S, R, p⟩ := tD.one (g := fun x _ => unop .neg x) h
  refine ⟨G, θ, Hd, ε, M, S, R, p.mono ?_⟩
  rintro v H1 ⟨G, θ, Hd, M, d, w, R, r, hg, q⟩
  cases d <;> simp only [unop, reduceCtorEq] at hg
  cases r; cases hg
  exact ⟨_, rfl, q _ _ _ (Ext.refl _ _) R (.int _)⟩
theorem rep_non {K : PySem.W.Frag} {Hd : Hp} {θ : Th} {v : V} {d : D} (r : Rep K A Hd θ v d) : decide (v = V.non) = d.isN := by
  cases r <;> rfl
theorem de_isN {j pos'} (ha : DE X A C W a ca) : DE X A C W (.Compare a [.Is] [.Constant .none j pos'] pos) (.un .isN ca) := by
  refine PE.imp (pe_cmp (pc_isN ha)) fun σ H Q h => ?_
  unfold tE at h
  rw [ev_un] at h
  obtain ⟨G, θ, Hd, ε, M, S, R, p⟩ := tD.one (g := fun x _ => unop .isN x) h
  refine ⟨G, θ, Hd, ε, M, S, R, p.mono ?_⟩
  rintro v H1 ⟨G, θ, Hd, M, d, w, R, r, hg, q⟩
  simp only [unop] at hg
  cases hg
  rw [rep_non r]
  exact q _ _ _ (Ext.refl _ _) R (.bl _)
theorem de_notN {j pos'} (ha : DE X A C W a ca) : DE X A C W (.Compare a [.IsNot] [.Constant .none j pos'] pos) (.un .notN ca) := by
  refine PE.imp (pe_cmp (pc_notN ha)) fun σ H Q h => ?_
  unfold tE at h
  rw [ev_un] at h
  obtain ⟨G, θ, Hd, ε, M, S, R, p⟩ := tD.one (g := fun x _ => unop .notN x) h
  refine ⟨G, θ, Hd, ε, M, S, R, p.mono ?_⟩
  rintro v H1 ⟨G, θ, Hd, M, d, w, R, r, hg, q⟩
  simp only [unop] at hg
  cases hg
  rw [rep_non r]
  exact q _ _ _ (Ext.refl _ _) R (.bl _)

/-! ### tests -/
theorem truth_V {K : PySem.W.Frag} {G : Gd} {Hd : Hp} {θ : Th} {M : Mem} {H : Hp} {v : V} {d : D} {b : Bool} (R : RG K A G θ Hd M H) (r : Rep K A Hd θ v d) (h : truth d M = some b) : TruV K v H b := by
  cases d <;> simp only [truth, reduceCtorEq] at h <;> cases h <;> cases r
  · rfl
  · rfl
  · rfl
  · rename_i h1 r1
    refine .inr (.inl ⟨_, sqT_mono R.base h1, ?_⟩)
    cases r1 <;> rfl
  · rename_i h1 r1
    refine .inl ⟨_, sqL_mono R.base h1, ?_⟩
    cases r1 <;> rfl
theorem dt_val (ha : DE X A C W a ca) (he : ∀ whole, isTrue a X.env whole = (do let v ← whole; standAt a.pos; holding [v] (truthy v)) := by intro _; rfl) : DT X A C W a ca := by
  refine PT.imp (pt_truth ha he) fun σ H Q h => ?_
  have h : tD X.K A W rB (fun ε M => (eval C ca ε M).bind fun x M => opt (truth x M) M) σ H Q := h
  obtain ⟨G, θ, Hd, ε, M, S, R, p⟩ := tD.next (rel := rV X.K A) h
  refine ⟨G, θ, Hd, ε, M, S, R, p.mono ?_⟩
  rintro v H1 ⟨G1, θ1, Hd1, ε1, M0, M1, d, e1, S1, R1, r1, p1⟩
  cases hg : truth d M1 with
  | none => rw [hg] at p1; exact p1.elim
  | some b =>
    rw [hg] at p1
    exact ⟨b, truth_V R1 r1 hg, p1.ok R1 rfl⟩
theorem binop_bl {o : Op2} {x y : D} {M : Mem} {d : D} (h : binop o x y M = some d) (ho : match o with | .eq => True | .ne => True | .lt => True | .le => True | .gt => True | .ge => True | .isin => True | .notin => True | _ => False) : ∃ b, d = .bl b := by
  cases o <;> first | exact ho.elim | (simp only [binop] at h; repeat' split at h) <;> first | (cases h; exact ⟨_, rfl⟩) | cases h

theorem de_bool {e : Expr} (h : DE X A C W e ce) : True := trivial
/-- a two-place comparison as a test -/
theorem dt_cmp {op : CmpOp} {o : Op2} (ho : OpD X A (compareOp op) (binop o)) (ha : DE X A C W a ca) (hb : DE X A C W b cb) (hq : ∀ x y M d, binop o x y M = some d → ∃ b, d = .bl b) (hm : behindInMarks op b = false := by first | exact nomark _ | rfl) :
    DT X A C W (.Compare a [op] [b] pos) (.bin o ca cb) := by
  refine PT.imp (pt_cmpR ho ha hb hm) fun σ H Q h => ?_
  have e : evT C (.bin o ca cb) = fun ε M => (eval C ca ε M).bind fun x M => (eval C cb ε M).bind fun y M => opt (match binop o x y M with | some (.bl b) => some b | _ => none) M := by
    funext ε M
    simp only [evT, eval]
    rcases eval C ca ε M with _ | ⟨x, M1⟩ | ⟨c, M1⟩ <;> try rfl
    show ((eval C cb ε M1).bind fun y M => opt (binop o x y M) M).bind _ = (eval C cb ε M1).bind _
    rcases eval C cb ε M1 with _ | ⟨y, M2⟩ | ⟨c, M2⟩ <;> try rfl
    show (opt (binop o x y M2) M2).bind _ = _
    cases hg : binop o x y M2 with
    | none =>
      show none = opt (match binop o x y M2 with | some (.bl b) => some b | _ => none) M2
      rw [hg]; rfl
    | some d =>
      obtain ⟨b, rfl⟩ := hq _ _ _ _ hg
      show some (Rs.ok b M2) = opt (match binop o x y M2 with | some (.bl b) => some b | _ => none) M2
      rw [hg]; rfl
  unfold tT at h
  rw [e] at h
  obtain ⟨G, θ, Hd, ε, M, S, R, p⟩ := tD.next (rel := rV X.K A) h
  refine ⟨G, θ, Hd, ε, M, S, R, p.mono ?_⟩
  rintro v H1 ⟨G1, θ1, Hd1, ε1, M0, M1, d, e1, S1, R1, r1, p1⟩
  refine ⟨G1, θ1, Hd1, ε1, M1, S1, R1, p1.bind.mono ?_⟩
  rintro u H2 ⟨θ2, Hd2, d2, M2, e2, E2, R2, r2, p2⟩
  cases hg : binop o d d2 M2 with
  | none => rw [hg] at p2; exact p2.elim
  | some w =>
    obtain ⟨k, rfl⟩ := hq _ _ _ _ hg
    rw [hg] at p2
    refine ⟨G1, θ2, Hd2, M2, d, d2, _, R2, r1.up E2, r2, hg, fun v H' Hd' E R r => ?_⟩
    cases r
    exact ⟨k, rfl, (p2.up E).ok R rfl⟩
theorem bl_eq {x y : D} {M : Mem} {d : D} (h : binop .eq x y M = some d) : ∃ b, d = .bl b := binop_bl h trivial
theorem bl_ne {x y : D} {M : Mem} {d : D} (h : binop .ne x y M = some d) : ∃ b, d = .bl b := binop_bl h trivial
theorem bl_lt {x y : D} {M : Mem} {d : D} (h : binop .lt x y M = some d) : ∃ b, d = .bl b := binop_bl h trivial
theorem bl_le {x y : D} {M : Mem} {d : D} (h : binop .le x y M = some d) : ∃ b, d = .bl b := binop_bl h trivial
theorem bl_gt {x y : D} {M : Mem} {d : D} (h : binop .gt x y M = some d) : ∃ b, d = .bl b := binop_bl h trivial
theorem bl_ge {x y : D} {M : Mem} {d : D} (h : binop .ge x y M = some d) : ∃ b, d = .bl b := binop_bl h trivial
theorem bl_in {x y : D} {M : Mem} {d : D} (h : binop .isin x y M = some d) : ∃ b, d = .bl b := binop_bl h trivial
theorem bl_notin {x y : D} {M : Mem} {d : D} (h : binop .notin x y M = some d) : ∃ b, d = .bl b := binop_bl h trivial

/-- an expression whose answer is a bool, of a kind that isTrue takes apart only as itself -/
theorem dt_bl (ha : DE X A C W a ca) (hq : ∀ ε M d M', eval C ca ε M = some (.ok d M') → ∃ b, d = .bl b) (hp : ∀ t, PE X a t → PT X a (tB t)) : DT X A C W a ca := by
  refine PT.imp (hp _ ha) fun σ H Q h => ?_
  have h : tD X.K A W rB (fun ε M => (eval C ca ε M).bind fun x M => opt (truth x M) M) σ H Q := h
  obtain ⟨G, θ, Hd, ε, M, S, R, p⟩ := tD.next (rel := rV X.K A) h
  refine ⟨G, θ, Hd, ε, M, S, R, p.mono ?_⟩
  rintro v H1 ⟨G1, θ1, Hd1, ε1, M0, M1, d, e1, S1, R1, r1, p1⟩
  obtain ⟨b, rfl⟩ := hq _ _ _ _ e1
  cases r1
  exact ⟨b, rfl, p1.ok R1 rfl⟩
theorem dt_isN {j pos'} (ha : DE X A C W a ca) : DT X A C W (.Compare a [.Is] [.Constant .none j pos'] pos) (.un .isN ca) := by
  refine PT.imp (pt_cmp (pc_isN ha)) fun σ H Q h => ?_
  have e : evT C (.un .isN ca) = fun ε M => (eval C ca ε M).bind fun x M => some (.ok x.isN M) := by
    funext ε M
    simp only [evT, eval]
    rcases eval C ca ε M with _ | ⟨x, M1⟩ | ⟨c, M1⟩ <;> rfl
  unfold tT at h
  rw [e] at h
  obtain ⟨G, θ, Hd, ε, M, S, R, p⟩ := tD.next (rel := rV X.K A) h
  refine ⟨G, θ, Hd, ε, M, S, R, p.mono ?_⟩
  rintro v H1 ⟨G1, θ1, Hd1, ε1, M0, M1, d, e1, S1, R1, r1, p1⟩
  exact ⟨_, rfl, p1.ok R1 (rep_non r1)⟩
theorem dt_notN {j pos'} (ha : DE X A C W a ca) : DT X A C W (.Compare a [.IsNot] [.Constant .none j pos'] pos) (.un .notN ca) := by
  refine PT.imp (pt_cmp (pc_notN ha)) fun σ H Q h => ?_
  have e : evT C (.un .notN ca) = fun ε M => (eval C ca ε M).bind fun x M => some (.ok (!x.isN) M) := by
    funext ε M
    simp only [evT, eval]
    rcases eval C ca ε M with _ | ⟨x, M1⟩ | ⟨c, M1⟩ <;> rfl
  unfold tT at h
  rw [e] at h
  obtain ⟨G, θ, Hd, ε, M, S, R, p⟩ := tD.next (rel := rV X.K A) h
  refine ⟨G, θ, Hd, ε, M, S, R, p.mono ?_⟩
  rintro v H1 ⟨G1, θ1, Hd1, ε1, M0, M1, d, e1, S1, R1, r1, p1⟩
  refine ⟨_, rfl, p1.ok R1 ?_⟩
  show _ = _
  rw [rep_non r1]

/-- the boolean operators: a's answer is a bool -/
theorem evT_and : evT C (.and ca cb) = fun ε M => (eval C ca ε M).bind fun x M => (match x with | .bl true => evT C cb ε M | .bl false => some (.ok false M) | _ => none) := by
  funext ε M
  simp only [evT, eval]
  rcases eval C ca ε M with _ | ⟨x, M1⟩ | ⟨c, M1⟩ <;> try rfl
  cases x <;> try rfl
  rename_i b
  cases b <;> rfl
theorem evT_or : evT C (.or ca cb) = fun ε M => (eval C ca ε M).bind fun x M => (match x with | .bl false => evT C cb ε M | .bl true => some (.ok true M) | _ => none) := by
  funext ε M
  simp only [evT, eval]
  rcases eval C ca ε M with _ | ⟨x, M1⟩ | ⟨c, M1⟩ <;> try rfl
  cases x <;> try rfl
  rename_i b
  cases b <;> rfl
theorem evT_not : evT C (.not ca) = fun ε M => (eval C ca ε M).bind fun x M => (match x with | .bl b => some (.ok (!b) M) | _ => none) := by
  funext ε M
  simp only [evT, eval]
  rcases eval C ca ε M with _ | ⟨x, M1⟩ | ⟨c, M1⟩ <;> try rfl
  cases x <;> rfl
/-- from a's test to what follows by its answer -/
theorem tT.next {K : PySem.W.Frag} {γ δ : Type} {rel' : Hp → Th → δ → γ → Prop} {f : Env → D → Mem → Ev γ} {f' : Env → Bool → Mem → Ev γ} {σ : L2.St} {H : Hp} {Q : δ → Hp → Prop}
    (h : tD K A W rel' (fun ε M => (eval C ca ε M).bind (f ε)) σ H Q) (hf : ∀ ε d M, f ε d M = none ∨ ∃ b, d = .bl b ∧ f ε d M = f' ε b M) :
    tT K A C W ca σ H fun b H1 => ∃ G θ Hd ε M, SL K A θ Hd ε σ ∧ RG K A G θ Hd M H1 ∧ PostE K A G (fun c d H' => W c d σ H') rel' (f' ε b M) θ Hd Q := by
  obtain ⟨G, θ, Hd, ε, M, S, R, p⟩ := h
  have p : PostE K A G (fun c d H' => W c d σ H') rel' ((eval C ca ε M).bind (f ε)) θ Hd Q := p
  refine ⟨G, θ, Hd, ε, M, S, R, ?_⟩
  unfold evT
  rcases hv : eval C ca ε M with _ | ⟨x, M1⟩ | ⟨c, M1⟩
  · rw [hv] at p; exact p
  · rw [hv] at p
    simp only [bind_ok] at p ⊢
    rcases hf ε x M1 with z | ⟨b, rfl, z⟩
    · rw [z] at p; exact p.elim
    · rw [z] at p
      simp only [truth, opt_some]
      rintro v H1 θ1 Hd1 E R1 rfl
      exact ⟨G, θ1, Hd1, ε, M1, S.up E, R1, p.up E⟩
  · rw [hv] at p; exact p
theorem dw_and {rest : List Expr} (ha : DT X A C W a ca) (hb : DW X A C W (.BoolOp .And (b :: rest) pos) cb) : DW X A C W (.BoolOp .And (a :: b :: rest) pos) (.and ca cb) := by
  refine PW.imp (pw_and ha hb) fun σ H Q h => ?_
  unfold tT at h
  rw [evT_and] at h
  obtain ⟨G, θ, Hd, ε, M, S, R, p⟩ := tT.next (f' := fun ε b M => if b = true then evT C cb ε M else some (.ok false M)) h (fun ε d M => by cases d <;> first | exact .inl rfl | (rename_i b; cases b <;> exact .inr ⟨_, rfl, rfl⟩))
  refine ⟨G, θ, Hd, ε, M, S, R, p.mono ?_⟩
  rintro b H1 ⟨G1, θ1, Hd1, ε1, M1, S1, R1, p1⟩
  cases b with
  | true => exact ⟨G1, θ1, Hd1, ε1, M1, S1, R1, p1⟩
  | false => exact p1.ok R1 rfl
theorem dw_or {rest : List Expr} (ha : DT X A C W a ca) (hb : DW X A C W (.BoolOp .Or (b :: rest) pos) cb) : DW X A C W (.BoolOp .Or (a :: b :: rest) pos) (.or ca cb) := by
  refine PW.imp (pw_or ha hb) fun σ H Q h => ?_
  unfold tT at h
  rw [evT_or] at h
  obtain ⟨G, θ, Hd, ε, M, S, R, p⟩ := tT.next (f' := fun ε b M => if b = true then some (.ok true M) else evT C cb ε M) h (fun ε d M => by cases d <;> first | exact .inl rfl | (rename_i b; cases b <;> exact .inr ⟨_, rfl, rfl⟩))
  refine ⟨G, θ, Hd, ε, M, S, R, p.mono ?_⟩
  rintro b H1 ⟨G1, θ1, Hd1, ε1, M1, S1, R1, p1⟩
  cases b with
  | true => exact p1.ok R1 rfl
  | false => exact ⟨G1, θ1, Hd1, ε1, M1, S1, R1, p1⟩
theorem dw_and1 (ha : DT X A C W a ca) : DW X A C W (.BoolOp .And [a] pos) ca := pw_and1 ha
theorem dw_or1 (ha : DT X A C W a ca) : DW X A C W (.BoolOp .Or [a] pos) ca := pw_or1 ha
theorem dt_w (h : DW X A C W a ca) : DT X A C W a ca := h.pt
theorem dt_not (ha : DT X A C W a ca) : DT X A C W (.UnaryOp .Not a pos) (.not ca) := by
  refine PT.imp (pt_not ha) fun σ H Q h => ?_
  unfold tT at h
  rw [evT_not] at h
  obtain ⟨G, θ, Hd, ε, M, S, R, p⟩ := tT.next (f' := fun ε b M => some (.ok (!b) M)) h (fun ε d M => by cases d <;> first | exact .inl rfl | exact .inr ⟨_, rfl, rfl⟩)
  refine ⟨G, θ, Hd, ε, M, S, R, p.mono ?_⟩
  rintro b H1 ⟨G1, θ1, Hd1, ε1, M1, S1, R1, p1⟩
  exact p1.ok R1 rfl
/-- .. as values -/
theorem ev_and : eval C (.and ca cb) = fun ε M => (eval C ca ε M).bind fun x M => (match x with | .bl true => eval C cb ε M | .bl false => some (.ok (.bl false) M) | _ => none) := by funext ε M; simp only [eval] <;> rfl
theorem ev_or : eval C (.or ca cb) = fun ε M => (eval C ca ε M).bind fun x M => (match x with | .bl false => eval C cb ε M | .bl true => some (.ok (.bl true) M) | _ => none) := by funext ε M; simp only [eval] <;> rfl
theorem ev_not : eval C (.not ca) = fun ε M => (eval C ca ε M).bind fun x M => (match x with | .bl b => some (.ok (.bl (!b)) M) | _ => none) := by funext ε M; simp only [eval] <;> rfl
theorem de_one {op} (h : DE X A C W a ca) : DE X A C W (.BoolOp op [a] pos) ca := pe_one h
theorem de_and {rest : List Expr} (ha : DE X A C W a ca) (hb : DE X A C W (.BoolOp .And (b :: rest) pos) cb) : DE X A C W (.BoolOp .And (a :: b :: rest) pos) (.and ca cb) := by
  refine PE.imp (pe_and ha hb) fun σ H Q h => ?_
  unfold tE at h
  rw [ev_and] at h
  obtain ⟨G, θ, Hd, ε, M, S, R, p⟩ := tD.next (rel := rV X.K A) h
  refine ⟨G, θ, Hd, ε, M, S, R, p.mono ?_⟩
  rintro v H1 ⟨G1, θ1, Hd1, ε1, M0, M1, d, e1, S1, R1, r1, p1⟩
  cases d <;> try exact p1.elim
  rename_i b
  cases r1
  refine ⟨b, rfl, ?_⟩
  cases b with
  | true => exact ⟨G1, θ1, Hd1, ε1, M1, S1, R1, p1⟩
  | false => exact p1.ok R1 (.bl _)
theorem de_or {rest : List Expr} (ha : DE X A C W a ca) (hb : DE X A C W (.BoolOp .Or (b :: rest) pos) cb) : DE X A C W (.BoolOp .Or (a :: b :: rest) pos) (.or ca cb) := by
  refine PE.imp (pe_or ha hb) fun σ H Q h => ?_
  unfold tE at h
  rw [ev_or] at h
  obtain ⟨G, θ, Hd, ε, M, S, R, p⟩ := tD.next (rel := rV X.K A) h
  refine ⟨G, θ, Hd, ε, M, S, R, p.mono ?_⟩
  rintro v H1 ⟨G1, θ1, Hd1, ε1, M0, M1, d, e1, S1, R1, r1, p1⟩
  cases d <;> try exact p1.elim
  rename_i b
  cases r1
  refine ⟨b, rfl, ?_⟩
  cases b with
  | true => exact p1.ok R1 (.bl _)
  | false => exact ⟨G1, θ1, Hd1, ε1, M1, S1, R1, p1⟩
theorem de_not (ha : DE X A C W a ca) : DE X A C W (.UnaryOp .Not a pos) (.not ca) := by
  refine PE.imp (pe_not ha) fun σ H Q h => ?_
  unfold tE at h
  rw [ev_not] at h
  obtain ⟨G, θ, Hd, ε, M, S, R, p⟩ := tD.next (rel := rV X.K A) h
  refine ⟨G, θ, Hd, ε, M, S, R, p.mono ?_⟩
  rintro v H1 ⟨G1, θ1, Hd1, ε1, M0, M1, d, e1, S1, R1, r1, p1⟩
  cases d <;> try exact p1.elim
  rename_i b
  cases r1
  exact ⟨b, rfl, p1.ok R1 (.bl _)⟩
theorem de_ite (hc : DT X A C W c cc) (ha : DE X A C W a ca) (hb : DE X A C W b cb) : DE X A C W (.IfExp c a b pos) (.ite cc ca cb) := by
  refine PE.imp (pe_ifExp hc ha hb) fun σ H Q h => ?_
  have e : eval C (.ite cc ca cb) = fun ε M => (evT C cc ε M).bind fun k M => (if k = true then eval C ca ε M else eval C cb ε M) := by
    funext ε M
    simp only [evT, eval]
    rcases eval C cc ε M with _ | ⟨x, M1⟩ | ⟨c, M1⟩ <;> try rfl
    simp only [bind_ok]
    cases truth x M1 with
    | none => rfl
    | some b => cases b <;> rfl
  unfold tE at h
  rw [e] at h
  obtain ⟨G, θ, Hd, ε, M, S, R, p⟩ := tD.next (rel := rB) h
  refine ⟨G, θ, Hd, ε, M, S, R, p.mono ?_⟩
  rintro v H1 ⟨G1, θ1, Hd1, ε1, M0, M1, d, e1, S1, R1, r1, p1⟩
  cases r1
  cases v with
  | true => exact ⟨G1, θ1, Hd1, ε1, M1, S1, R1, p1⟩
  | false => exact ⟨G1, θ1, Hd1, ε1, M1, S1, R1, p1⟩

/-! ### chains -/
theorem ev_chain {o1 o2 : Op2} : eval C (.chain o1 o2 ca cb cc) = fun ε M => (eval C ca ε M).bind fun x M => (eval C cb ε M).bind fun y M => (match binop o1 x y M with
    | some (.bl true) => (eval C cc ε M).bind fun z M => opt (binop o2 y z M) M
    | some (.bl false) => some (.ok (.bl false) M)
    | _ => none) := by funext ε M; simp only [eval] <;> rfl
theorem chain_of {K : PySem.W.Frag} {o o' : Op2} (σ : L2.St) (H : Hp) (Q : VK) (h : tE K A C W (.chain o o' ca cb cc) σ H Q) : tChain (rD K A (binop o)) (rD K A (binop o')) (tE K A C W ca) (tE K A C W cb) (tE K A C W cc) σ H Q := by
  unfold tE at h
  rw [ev_chain] at h
  obtain ⟨G, θ, Hd, ε, M, S, R, p⟩ := tD.next (rel := rV K A) h
  refine ⟨G, θ, Hd, ε, M, S, R, p.mono ?_⟩
  rintro v H1 ⟨G1, θ1, Hd1, ε1, M0, M1, d, e1, S1, R1, r1, p1⟩
  refine ⟨G1, θ1, Hd1, ε1, M1, S1, R1, p1.bind.mono ?_⟩
  rintro u H2 ⟨θ2, Hd2, d2, M2, e2, E2, R2, r2, p2⟩
  cases hg : binop o d d2 M2 with
  | none => rw [hg] at p2; exact p2.elim
  | some w =>
    rw [hg] at p2
    refine ⟨G1, θ2, Hd2, M2, d, d2, w, R2, r1.up E2, r2, hg, fun v H' Hd' E R r => ?_⟩
    cases w <;> try exact p2.elim
    rename_i k
    cases r
    refine ⟨k, rfl, ?_⟩
    cases k with
    | true =>
      rw [if_pos rfl]
      refine ⟨G1, θ2, Hd', ε1, M2, (S1.up E2).up E, R, (p2.up E).bind.mono ?_⟩
      rintro x H3 ⟨θ3, Hd3, d3, M3, e3, E3, R3, r3, p3⟩
      cases hg2 : binop o' d2 d3 M3 with
      | none => rw [hg2] at p3; exact p3.elim
      | some w2 =>
        rw [hg2] at p3
        exact ⟨G1, θ3, Hd3, M3, d2, d3, w2, R3, (r2.up E).up E3, r3, hg2, fun v H' Hd' E R r => (p3.up E).ok R r⟩
    | false =>
      rw [if_neg Bool.false_ne_true]
      exact (p2.up E).ok R (.bl _)
theorem de_chain {op op' : CmpOp} {o o' : Op2} (ho : OpD X A (compareOp op) (binop o)) (ho' : OpD X A (compareOp op') (binop o')) (ha : DE X A C W a ca) (hb : DE X A C W b cb) (hc : DE X A C W c cc)
    (hm : lastMarks [op, op'] [b, c] = false := by with_unfolding_all rfl) : DE X A C W (.Compare a [op, op'] [b, c] pos) (.chain o o' ca cb cc) := PE.imp (pe_chain ho ho' ha hb hc hm) chain_of
theorem dt_chain {op op' : CmpOp} {o o' : Op2} (ho : OpD X A (compareOp op) (binop o)) (ho' : OpD X A (compareOp op') (binop o')) (ha : DE X A C W a ca) (hb : DE X A C W b cb) (hc : DE X A C W c cc) (hq : ∀ x y M d, binop o' x y M = some d → ∃ b, d = .bl b)
    (hm : lastMarks [op, op'] [b, c] = false := by with_unfolding_all rfl) : DT X A C W (.Compare a [op, op'] [b, c] pos) (.chain o o' ca cb cc) := by
  refine PT.imp (pt_chain ho ho' ha hb hc hm) fun σ H Q h => chain_of σ H _ ?_
  obtain ⟨G, θ, Hd, ε, M, S, R, p⟩ := h
  refine ⟨G, θ, Hd, ε, M, S, R, p.bind.mono ?_⟩
  rintro v H1 ⟨θ1, Hd1, d, M1, e1, E1, R1, r1, p1⟩
  have hb : ∃ b, d = .bl b := by
    rw [ev_chain] at e1
    obtain ⟨x, M2, _, h1⟩ := bind_some e1
    obtain ⟨y, M3, _, h2⟩ := bind_some h1
    split at h2
    · obtain ⟨z, M4, _, h3⟩ := bind_some h2
      cases hg : binop o' y z M4 with
      | none => rw [hg] at h3; cases h3
      | some w => rw [hg] at h3; cases h3; exact hq _ _ _ _ hg
    · cases h2; exact ⟨_, rfl⟩
    · cases h2
  obtain ⟨b, rfl⟩ := hb
  cases r1
  exact ⟨b, rfl, p1.ok R1 rfl⟩
theorem tB_of {t : TE} (h : PE X a t) (hp : ∀ (pins : List (Addr × Obj)) (s : Shared) (σ : L2.St) (H : Hp) (Q : Bool → Hp → Prop), True) : True := trivial

/-! ### subscripts -/
theorem ev_idx : eval C (.idx ca cb) = fun ε M => (eval C ca ε M).bind fun x M => (eval C cb ε M).bind fun y M => opt (index x y M) M := by funext ε M; simp only [eval] <;> rfl
theorem ix_dict (hu : X.A.units + 1 < cLine) : IxR X (fun x y H Q => ∃ a v, x = .ref a ∧ DGet H a y (some v) ∧ Q v H) := by
  intro value slice pins s σ H x y v u Q I rx ry h hs
  obtain ⟨a, w, rfl, g, q⟩ := h
  cases rx
  have hT := dict_typeIs I g
  unfold subscriptTail
  refine wpAny_bind ?_
  rw [getitemInPython_of_ne hT.not_modules]
  refine wpAny_bind (wpAny_specialOf hT PySem.F.slot_dict_getitem.lookup ?_)
  have fin : wpAny (model X.prog X.w) X.A (subscripted slice false (.ref a) u) (fun r s₃ => wpAny (model X.prog X.w) X.A (letTemporaryGo value (.ref a) r >>= fun _ => pure r) (EP X pins σ Q) X.xe s₃) X.xe s := by
    rw [hs]
    exact wpAny_operating (d_getItem hu I g ry fun w' s3 I3 rw' => wpAny_bind (wpAny_letTemporaryGo (wpAny_pure ⟨w, H, I3, rw', q⟩)))
  first
    | exact wpAny_pure (wpAny_bind fin)
    | exact wpAny_bind (wpAny_pure (wpAny_bind fin))
    | exact wpAny_bind fin
theorem atI_rep {K : PySem.W.Frag} {Hd : Hp} {θ : Th} {xs : List V} {ds : List D} {i : Int} {d : D} (r : Reps K A Hd θ xs ds) (h : atI ds i = some d) : ∃ v, atI xs i = some v ∧ Rep K A Hd θ v d := by
  unfold atI at h ⊢
  rw [r.length]
  cases e : ixN ds.length i with
  | none => rw [e] at h; cases h
  | some j =>
    rw [e] at h
    exact r.get h
theorem de_idx (hu : X.A.units + 1 < cLine) (ha : DE X A C W a ca) (hb : DE X A C W b cb) (hs : PlainIx b := by exact fun _ _ => rfl) : DE X A C W (.Subscript a b pos) (.idx ca cb) := by
  refine PE.imp (pe_ix (ix_seq.or (ix_dict hu)) ha hb hs) fun σ H Q h => ?_
  unfold tE at h
  rw [ev_idx] at h
  obtain ⟨G, θ, Hd, ε, M, S, R, p⟩ := h.two
  refine ⟨G, θ, Hd, ε, M, S, R, p.mono ?_⟩
  rintro v H1 ⟨G, θ, Hd, ε, M, S, R, p⟩
  refine ⟨G, θ, Hd, ε, M, S, R, p.mono ?_⟩
  rintro u H2 ⟨G, θ, Hd, M, dx, dy, d, R, rx, ry, hg, q⟩
  cases dx <;> simp only [index, reduceCtorEq] at hg
  · cases dy <;> simp only [reduceCtorEq] at hg
    split at hg <;> try (cases hg; done)
    rename_i hz
    split at hg <;> cases hg
    cases rx; cases ry
    exact .inl (.inr (.inr ⟨_, _, _, rfl, rfl, hz, by assumption, q _ _ _ (Ext.refl _ _) R (.str _)⟩))
  · cases dy <;> simp only [reduceCtorEq] at hg
    cases rx with | tup h1 r1 =>
    cases ry
    obtain ⟨w, e, r⟩ := atI_rep r1 hg
    exact .inl (.inr (.inl ⟨_, _, _, _, rfl, rfl, sqT_mono R.base h1, e, q _ _ _ (Ext.refl _ _) R r⟩))
  · cases dy <;> simp only [reduceCtorEq] at hg
    cases rx with | lst h1 r1 =>
    cases ry
    obtain ⟨w, e, r⟩ := atI_rep r1 hg
    exact .inl (.inl ⟨_, _, _, _, rfl, rfl, sqL_mono R.base h1, e, q _ _ _ (Ext.refl _ _) R r⟩)
  · cases rx with | ref hr =>
    split at hg
    · rename_i hm
      obtain ⟨a, u, h1, h2, h3, h4⟩ := R.own _ _ hm (by intro z; cases z)
      rw [hr] at h1; cases h1
      cases u <;> first | exact h4.elim | skip
      cases dy <;> simp only [reduceCtorEq] at hg
      cases ry
      obtain ⟨w, e, r⟩ := atI_rep h4 hg
      exact .inl (.inl ⟨_, _, _, _, rfl, rfl, .of h3, e, q _ _ _ (Ext.refl _ _) R r⟩)
    · rename_i hm
      obtain ⟨a, u, h1, h2, h3, h4⟩ := R.own _ _ hm (by intro z; cases z)
      rw [hr] at h1; cases h1
      cases u <;> first | exact h4.elim | skip
      split at hg <;> try (cases hg; done)
      rename_i k hk
      rw [key_some hk] at ry
      have e := key_V ry
      subst e
      obtain ⟨w, e, r⟩ := (dct_val k h4.1 h4.2).1 _ hg
      exact .inr ⟨_, w, rfl, (by rw [← e]; exact .k h3), q _ _ _ (Ext.refl _ _) R r⟩
    · cases hg
/-! ### slices -/
theorem ev_slice {p q : Bool} : eval C (.slice p q ca cb cc) = fun ε M => (eval C ca ε M).bind fun x M => (eval C cb ε M).bind fun l M => (match part? p l with
    | some l => (eval C cc ε M).bind fun h M => (match part? q h with | some h => opt (slice x l h) M | none => none)
    | none => none) := by funext ε M; simp only [eval] <;> rfl
def rSlR (K : PySem.W.Frag) : V → Option Int → Option Int → Hp → VK → Prop := fun x lo hi H Q => ∃ a xs, x = .ref a ∧ SqL K H a xs ∧ ∀ p, H p = none → Q (.ref p) (upd H p (.lst (cutV xs lo hi)))
theorem sl_listR : SlR X (rSlR X.K) := fun pins s σ H x v vl vu lo hi sl Q I rx hs pl pu ⟨a, xs, e, h, q⟩ => sl_list pins s σ H x v vl vu lo hi sl Q I rx hs pl pu ⟨a, xs, e, h, q⟩
/-- a part of a slice, as it is written: there (p) or not -/
def DP (X : Cx) (A : We) (C : Cfg) (W : WX) (p : Bool) (e : Option Expr) (c : E) : Prop :=
  ∃ t, PO X e t ∧ ∀ σ H (Q : Option Int → Hp → Prop), (tE X.K A C W c σ H fun v H1 => ∃ i, (p = false ∧ i = none ∨ ∃ k, p = true ∧ v = .int k ∧ i = some k) ∧ Q i H1) → t σ H Q
theorem dp_none : DP X A C W false none (.con .non) := by
  refine ⟨_, po_none, fun σ H Q h => ?_⟩
  obtain ⟨G, θ, Hd, ε, M, S, R, p⟩ := h
  obtain ⟨i, ⟨_, rfl⟩ | ⟨k, z, _⟩, q⟩ := p.ok R (.non)
  · exact q
  · cases z
theorem dp_some (h : DE X A C W e ce) : DP X A C W true (some e) ce := by
  refine ⟨_, po_some h, fun σ H Q h => ?_⟩
  obtain ⟨G, θ, Hd, ε, M, S, R, p⟩ := h
  refine ⟨G, θ, Hd, ε, M, S, R, p.mono ?_⟩
  rintro v H1 ⟨i, ⟨z, _⟩ | ⟨k, _, rfl, rfl⟩, q⟩
  · cases z
  · exact ⟨k, rfl, q⟩
theorem part_V {K : PySem.W.Frag} {Hd : Hp} {θ : Th} {p : Bool} {d : D} {v : V} {o : Option Int} (r : Rep K A Hd θ v d) (h : part? p d = some o) : p = false ∧ o = none ∨ ∃ k, p = true ∧ v = .int k ∧ o = some k := by
  cases p with
  | false => simp only [part?] at h; cases h; exact .inl ⟨rfl, rfl⟩
  | true => cases d <;> simp only [part?, reduceCtorEq] at h; cases h; cases r; exact .inr ⟨_, rfl, rfl, rfl⟩
theorem cut_rep {K : PySem.W.Frag} {Hd : Hp} {θ : Th} {xs : List V} {ds : List D} (r : Reps K A Hd θ xs ds) (lo hi : Option Int) : Reps K A Hd θ (cutV xs lo hi) (cut ds lo hi) := by
  unfold cutV cut
  rw [r.length]
  exact (r.drop _).take _
theorem cut_whole {α : Type} {xs : List α} {lo hi : Option Int} (h : HT.sIx xs.length 0 lo = 0 ∧ HT.sIx xs.length xs.length hi = xs.length) : cut xs lo hi = xs := by
  unfold cut
  rw [h.1, h.2]
  simp
theorem de_slice {pb q : Bool} {lo hi : Option Expr} {p2 : Pos} (ha : DE X A C W a ca) (hl : DP X A C W pb lo cb) (hh : DP X A C W q hi cc) : DE X A C W (.Subscript a (.Slice lo hi none p2) pos) (.slice pb q ca cb cc) := by
  obtain ⟨tl, pl, kl⟩ := hl
  obtain ⟨th, ph, kh⟩ := hh
  refine PE.imp (pe_slice (sl_tupA.or sl_listR) ha pl ph) fun σ H Q h => ?_
  unfold tE at h
  rw [ev_slice] at h
  obtain ⟨G, θ, Hd, ε, M, S, R, p⟩ := tD.next (rel := rV X.K A) h
  refine ⟨G, θ, Hd, ε, M, S, R, p.mono ?_⟩
  rintro v H1 ⟨G1, θ1, Hd1, ε1, M0, M1, d, e1, S1, R1, r1, p1⟩
  refine kl _ _ _ ⟨G1, θ1, Hd1, ε1, M1, S1, R1, p1.bind.mono ?_⟩
  rintro u H2 ⟨θ2, Hd2, d2, M2, e2, E2, R2, r2, p2⟩
  cases h1 : part? pb d2 with
  | none => rw [h1] at p2; exact p2.elim
  | some l =>
    rw [h1] at p2
    refine ⟨l, part_V r2 h1, kh _ _ _ ⟨G1, θ2, Hd2, ε1, M2, S1.up E2, R2, p2.bind.mono ?_⟩⟩
    rintro w H3 ⟨θ3, Hd3, d3, M3, e3, E3, R3, r3, p3⟩
    cases h2 : part? q d3 with
    | none => rw [h2] at p3; exact p3.elim
    | some m =>
      rw [h2] at p3
      refine ⟨m, part_V r3 h2, ?_⟩
      have r := (r1.up E2).up E3
      cases d <;> simp only [slice, opt_none] at p3 <;> try exact p3.elim
      · cases r with | tup k1 k2 =>
        refine .inl ⟨_, _, rfl, sqT_mono R3.base k1, fun z => ?_, fun z p hp => ?_⟩
        · rw [k2.length] at z
          rw [cut_whole z] at p3
          exact p3.ok R3 (.tup k1 k2)
        · obtain ⟨R4, E4⟩ := R3.data hp (.tup _)
          exact (p3.up E4).ok R4 (.tup (.of upd_same) (cut_rep (k2.up E4) _ _))
      · cases r with | lst k1 k2 =>
        refine .inr ⟨_, _, rfl, sqL_mono R3.base k1, fun p hp => ?_⟩
        obtain ⟨R4, E4⟩ := R3.data hp (.lst _)
        exact (p3.up E4).ok R4 (.lst (.of upd_same) (cut_rep (k2.up E4) _ _))
end
end Dw
/-! Dw6: fields, calls, methods, instances. -/
namespace Dw
open PySem L2 PyProof.Rows
section
variable {X : Cx} {A : We} {C : Cfg} {W : WX} {a b c e : Expr} {ca cb cc ce : E} {pos : Pos} {es : List Expr} {cs : List E}

/-! ### fields -/
/-- the field f, told as fid, stands in the classes as the table says -/
def FOk (K : PySem.W.Frag) (A : Wd) (C : Cfg) (f : Str) (fid : Nat) : Prop :=
  ∀ c k, C.fix c fid = some k → Cls K (A.ca c) ∧ NoAttr K (A.ca c) f ∧ (A.fl c)[k]? = some f ∧ (A.fl c).Nodup ∧ (A.fl c).length < 1000
theorem lookup_at : ∀ {fs : List (Str × V)} {l : List Str} {k : Nat} {f : Str} {v : V}, fs.map (·.1) = l.take fs.length → l.Nodup → l[k]? = some f → (fs.map (·.2))[k]? = some v → fs.lookup f = some v
  | [], _, _, _, _, _, _, _, h => by simp at h
  | (g, u) :: fs, [], _, _, _, h, _, _, _ => by simp at h
  | (g, u) :: fs, m :: l, 0, f, v, h, nd, hf, hv => by
    simp only [List.map_cons, List.length_cons, List.take_succ_cons, List.cons.injEq] at h
    simp only [List.getElem?_cons_zero, Option.some.injEq, List.map_cons] at hf hv
    subst hf hv
    simp [List.lookup, h.1]
  | (g, u) :: fs, m :: l, k + 1, f, v, h, nd, hf, hv => by
    simp only [List.map_cons, List.length_cons, List.take_succ_cons, List.cons.injEq] at h
    simp only [List.getElem?_cons_succ, List.map_cons] at hf hv
    have ih := lookup_at h.2 (List.nodup_cons.mp nd).2 hf hv
    have ne : (f == g) = false := by
      rw [beq_eq_false_iff_ne]
      intro z
      rw [h.1] at z
      exact (List.nodup_cons.mp nd).1 (z ▸ List.mem_of_getElem? hf)
    simp only [List.lookup, ne]
    exact ih
theorem ev_fld {f : Nat} : eval C (.fld ca f) = fun ε M => (eval C ca ε M).bind fun x M => opt (fieldOf C x f M) M := by funext ε M; simp only [eval] <;> rfl
theorem field_V {G : Gd} {θ : Th} {Hd : Hp} {M : Mem} {H : Hp} {f : Str} {fid : Nat} {x : V} {d w : D} (hf : FOk X.K A C f fid) (R : RG X.K A G θ Hd M H) (r : Rep X.K A Hd θ x d) (h : fieldOf C d fid M = some w) :
    ∃ a c dx fs v, x = .ref a ∧ H a = some (.ins (A.ca c) dx fs) ∧ Cls X.K (A.ca c) ∧ NoAttr X.K (A.ca c) f ∧ fs.lookup f = some v ∧ Rep X.K A Hd θ v w ∧ clsOf d M = some c := by
  cases d <;> simp only [fieldOf, reduceCtorEq] at h
  · rename_i c ds
    cases hk : C.fix c fid with
    | none => rw [hk] at h; cases h
    | some k =>
      rw [hk] at h
      obtain ⟨k1, k2, k3, k4⟩ := hf c k hk
      cases r with | obj h1 h2 h3 h4 =>
      obtain ⟨v, e, rv⟩ := h4.get h
      refine ⟨_, _, _, _, v, rfl, R.base _ _ h1, k1, k2, lookup_at ?_ k4.1 k3 e, rv, rfl⟩
      rw [h2, ← h4.length, List.length_map]
  · rename_i n
    cases r with | ref hr =>
    split at h
    · rename_i c ds hm
      cases hk : C.fix c fid with
      | none => rw [hk] at h; cases h
      | some k =>
        rw [hk] at h
        obtain ⟨k1, k2, k3, k4⟩ := hf c k hk
        obtain ⟨a, u, h1, h2, h3, h4⟩ := R.own _ _ hm (by intro z; cases z)
        rw [hr] at h1; cases h1
        cases u <;> first | exact h4.elim | skip
        obtain ⟨rfl, j2, j3, j4⟩ := h4
        obtain ⟨v, e, rv⟩ := j4.get h
        refine ⟨_, _, _, _, v, rfl, h3, k1, k2, lookup_at ?_ k4.1 k3 e, rv, by simp only [clsOf, hm]⟩
        rw [j2, ← j4.length, List.length_map]
    · cases h
theorem de_fld {f : Str} {fid : Nat} (hf : FOk X.K A C f fid) (ha : DE X A C W a ca) (hb : attributeBase a f X.env (PySem.eval a X.env) = PySem.eval a X.env := by rfl) : DE X A C W (.Attribute a f pos) (.fld ca fid) := by
  refine PE.imp (pe_fld ha hb) fun σ H Q h => ?_
  unfold tE at h
  rw [ev_fld] at h
  obtain ⟨G, θ, Hd, ε, M, S, R, p⟩ := tD.one (g := fun x M => fieldOf C x fid M) h
  refine ⟨G, θ, Hd, ε, M, S, R, p.mono ?_⟩
  rintro v H1 ⟨G, θ, Hd, M, d, w, R, r, hg, q⟩
  obtain ⟨p, Cc, dx, fs, u, e1, e2, e3, e4, e5, ru, _⟩ := field_V hf R r hg
  exact ⟨p, A.ca Cc, dx, fs, u, e1, e2, e3, e4, e5, q _ _ _ (Ext.refl _ _) R ru⟩

/-! ### calls -/
/-- what a def promises, by what the interpreter says of it -/
def liftSp (K : PySem.W.Frag) (A : Wd) (Φ : List D → Mem → Ev D) : Sp := fun vs H Q E =>
  ∃ G θ Hd ds M, RG K A G θ Hd M H ∧ Reps K A Hd θ vs ds ∧ PostE K A G E (rV K A) (Φ ds M) θ Hd Q
/-- the def at f may be called: dds are the defaults that fill up -/
def CanCall (P : Program) (w : World) (K : PySem.W.Frag) (mg : Str → Option Value) (base : Heap) (A : Wd) (k : Nat) (Φ : List D → Mem → Ev D) (f : Addr) (dds : List D) : Prop :=
  ∃ (fd : FuncData) (ps : List Str) (dvs : List V) (ds : List Value), FnOk P w K mg base (L2N.CX P w) k f fd ps (liftSp K A Φ) ∧ PySem.W.keepIn K (.ref f) = true ∧ Binds K fd ps ds ∧ Vals dvs ds ∧ ∀ Hd θ, Reps K A Hd θ dvs dds

theorem evals_app : ∀ {cs ds : List E} {ε : Env} {M : Mem}, evals C (cs ++ ds) ε M = (evals C cs ε M).bind fun xs M => (evals C ds ε M).bind fun ys M => some (.ok (xs ++ ys) M)
  | [], ds, ε, M => by
    simp only [List.nil_append, evals, bind_ok]
    rcases evals C ds ε M with _ | ⟨d, M1⟩ | ⟨c, M1⟩ <;> rfl
  | c :: cs, ds, ε, M => by
    simp only [List.cons_append, evals]
    rcases eval C c ε M with _ | ⟨d, M1⟩ | ⟨c, M1⟩ <;> try rfl
    simp only [bind_ok]
    rw [evals_app]
    rcases evals C cs ε M1 with _ | ⟨d, M2⟩ | ⟨c, M2⟩ <;> try rfl
    simp only [bind_ok]
    rcases evals C ds ε M2 with _ | ⟨d, M2⟩ | ⟨c, M2⟩ <;> rfl
theorem evals_con : ∀ {ds : List D} {ε : Env} {M : Mem}, evals C (ds.map E.con) ε M = some (.ok ds M)
  | [], _, _ => by simp only [List.map_nil, evals]
  | d :: ds, ε, M => by simp only [List.map_cons, evals, eval, bind_ok, evals_con]
/-- the arguments with the defaults -/
theorem ev_args {γ : Type} {ds : List D} {f : List D → Mem → Ev γ} : (fun (ε : Env) M => (evals C (cs ++ ds.map E.con) ε M).bind f) = fun ε M => (evals C cs ε M).bind fun xs M => f (xs ++ ds) M := by
  funext ε M
  rw [evals_app]
  rcases evals C cs ε M with _ | ⟨d, M1⟩ | ⟨c, M1⟩ <;> try rfl
  simp only [bind_ok, evals_con]

theorem args_at {γ : Type} {ds : List D} {f : List D → Mem → Ev γ} {ε : Env} {M : Mem} : (evals C (cs ++ ds.map E.con) ε M).bind f = (evals C cs ε M).bind fun xs M => f (xs ++ ds) M := congrFun (congrFun (ev_args (f := f)) ε) M
theorem ev_call {g : Nat} : eval C (.call g cs) = fun ε M => (evals C cs ε M).bind fun ds M => C.Φ g ds M := by funext ε M; simp only [eval] <;> rfl
theorem da_next {γ δ : Type} {rel' : Hp → Th → δ → γ → Prop} {K : PySem.W.Frag} {f : List D → Mem → Ev γ} {ds : List D} {σ : L2.St} {H : Hp} {Q : δ → Hp → Prop}
    (h : tD K A W rel' (fun ε M => (evals C (cs ++ ds.map E.con) ε M).bind f) σ H Q) :
    tA K A C W cs σ H fun vs H1 => ∃ G θ Hd ε M xs, SL K A θ Hd ε σ ∧ RG K A G θ Hd M H1 ∧ Reps K A Hd θ vs xs ∧ PostE K A G (fun c d H' => W c d σ H') rel' (f (xs ++ ds) M) θ Hd Q := by
  rw [ev_args] at h
  obtain ⟨G, θ, Hd, ε, M, S, R, p⟩ := tD.next (rel := rVs K A) (f := fun _ xs M => f (xs ++ ds) M) h
  refine ⟨G, θ, Hd, ε, M, S, R, p.mono ?_⟩
  rintro vs H1 ⟨G1, θ1, Hd1, ε1, M0, M1, xs, e1, S1, R1, r1, p1⟩
  exact ⟨G1, θ1, Hd1, ε1, M1, xs, S1, R1, r1, p1⟩
theorem de_call {k g : Nat} {f : Addr} {dds : List D} {x : Str} {p : Pos} (F : CanCall X.prog X.w X.K X.mg X.base A k (C.Φ g) f dds) (hm : X.mg x = some (.ref f)) (hr : Room k X.A) (tk : L2N.Takes X W) (ha : DA X A C W (e :: es) cs)
    (hg : Gl X x := by rfl) (hdb : (x == ("__debug__" : Str)) = false := by decide) (he : starEach (e :: es) X.env = (false, PySem.eval e X.env) :: starEach es X.env := by rfl) (hpl : (backTo pos (starEach es X.env)).any (·.1) = false := by rfl) :
    DE X A C W (.Call (.Name x p) (e :: es) [] pos) (.call g (cs ++ dds.map E.con)) := by
  obtain ⟨fd, ps, dvs, ds, F, kp, hb, hd, hrep⟩ := F
  refine PE.imp (pe_callSD (E := WE W) F hr hg hm kp hb hd (L2N.passAt tk) ha hdb he hpl) fun σ H Q h => ?_
  unfold tE at h
  rw [ev_call] at h
  obtain ⟨G, θ, Hd, ε, M, S, R, p⟩ := da_next h
  refine ⟨G, θ, Hd, ε, M, S, R, p.mono ?_⟩
  rintro vs H1 ⟨G1, θ1, Hd1, ε1, M1, xs, S1, R1, r1, p1⟩
  exact ⟨G1, θ1, Hd1, xs ++ dds, M1, R1, r1.append (hrep _ _), p1⟩
theorem pe_callSD0 {CX : CXT} {k : Nat} {f : Addr} {fd : FuncData} {ps : List Str} {sp : Sp} {dvs : List V} {ds : List Value} {E : L2.St → XK} {x : Str} {p pos : Pos} (F : FnOk X.prog X.w X.K X.mg X.base CX k f fd ps sp) (hr : Room k X.A) (hg : Gl X x) (hm : X.mg x = some (.ref f)) (hk : PySem.W.keepIn X.K (.ref f) = true) (hb : Binds X.K fd ps ds) (hd : Vals dvs ds) (hx : ∀ σ, PassesAt CX X σ (E σ))
    (hdb : (x == ("__debug__" : Str)) = false := by decide) : PE X (.Call (.Name x p) [] [] pos) (tCallSD sp dvs E tNil) := by
  refine ⟨fun pins s σ H Q I h => ?_⟩
  refine wpAny_Call_Name_kw (ld_glob I hg hm ?_ hdb)
  exact PySem.W.callWith_K0 I.kIn hk (run_fnSD (us := []) F hr hb hd (hx σ) I .nil h)
theorem tNil_of {γ δ : Type} {rel' : Hp → Th → δ → γ → Prop} {K : PySem.W.Frag} {f : List D → Mem → Ev γ} {ds : List D} {σ : L2.St} {H : Hp} {Q : δ → Hp → Prop}
    (h : tD K A W rel' (fun ε M => (evals C (ds.map E.con) ε M).bind f) σ H Q) : ∃ G θ Hd ε M, SL K A θ Hd ε σ ∧ RG K A G θ Hd M H ∧ PostE K A G (fun c d H' => W c d σ H') rel' (f ds M) θ Hd Q := by
  obtain ⟨G, θ, Hd, ε, M, S, R, p⟩ := h
  have p : PostE K A G (fun c d H' => W c d σ H') rel' ((evals C (ds.map E.con) ε M).bind f) θ Hd Q := p
  rw [evals_con] at p
  exact ⟨G, θ, Hd, ε, M, S, R, p⟩
theorem de_call0 {k g : Nat} {f : Addr} {dds : List D} {x : Str} {p : Pos} (F : CanCall X.prog X.w X.K X.mg X.base A k (C.Φ g) f dds) (hm : X.mg x = some (.ref f)) (hr : Room k X.A) (tk : L2N.Takes X W)
    (hg : Gl X x := by rfl) (hdb : (x == ("__debug__" : Str)) = false := by decide) : DE X A C W (.Call (.Name x p) [] [] pos) (.call g (dds.map E.con)) := by
  obtain ⟨fd, ps, dvs, ds, F, kp, hb, hd, hrep⟩ := F
  refine PE.imp (pe_callSD0 (E := WE W) F hr hg hm kp hb hd (L2N.passAt tk) hdb) fun σ H Q h => ?_
  unfold tE at h
  rw [ev_call] at h
  obtain ⟨G, θ, Hd, ε, M, S, R, p⟩ := tNil_of h
  exact ⟨G, θ, Hd, dds, M, R, hrep _ _, p⟩

/-! ### methods of own instances -/
/-- the method m, told as mid, with the defaults dds -/
def MOk (P : Program) (w : World) (K : PySem.W.Frag) (mg : Str → Option Value) (base : Heap) (A : Wd) (C : Cfg) (k : Nat) (m : Str) (mid : Nat) (dds : List D) : Prop :=
  ∀ c g, C.meth c mid = some g → ∃ f, Cls K (A.ca c) ∧ Meth K (A.ca c) m f ∧ m ∉ A.fl c ∧ CanCall P w K mg base A k (C.Φ g) f dds
theorem lookup_no {fs : List (Str × V)} {l : List Str} {m : Str} (h : fs.map (·.1) = l.take fs.length) (hm : m ∉ l) : fs.lookup m = none := by
  rw [List.lookup_eq_none_iff]
  intro p hp
  rw [bne_iff_ne]
  intro z
  refine hm ?_
  have : p.1 ∈ fs.map (·.1) := List.mem_map.mpr ⟨p, hp, rfl⟩
  rw [h] at this
  exact z ▸ List.mem_of_mem_take this
theorem cls_V {G : Gd} {θ : Th} {Hd : Hp} {M : Mem} {H : Hp} {x : V} {d : D} {c : Nat} {m : Str} (R : RG X.K A G θ Hd M H) (r : Rep X.K A Hd θ x d) (h : clsOf d M = some c) (hm : m ∉ A.fl c) :
    ∃ a dx fs, x = .ref a ∧ H a = some (.ins (A.ca c) dx fs) ∧ fs.lookup m = none := by
  cases d <;> simp only [clsOf, reduceCtorEq] at h
  · cases h
    cases r with | obj h1 h2 h3 h4 =>
    exact ⟨_, _, _, rfl, R.base _ _ h1, lookup_no (by rw [h2, ← h4.length, List.length_map]) hm⟩
  · cases r with | ref hr =>
    split at h <;> cases h
    rename_i c ds hm'
    obtain ⟨a, u, h1, h2, h3, h4⟩ := R.own _ _ hm' (by intro z; cases z)
    rw [hr] at h1; cases h1
    cases u <;> first | exact h4.elim | skip
    obtain ⟨rfl, j2, j3, j4⟩ := h4
    exact ⟨_, _, _, rfl, h3, lookup_no (by rw [j2, ← j4.length, List.length_map]) hm⟩
/-- o.m(..), the class found at run time; E at the slots -/
def tMethD (X : Cx) (A : We) (k : Nat) (W : WX) (m : Str) (ta : TE) (t : TA) : TE := fun σ H Q => ta σ H fun x H1 => ∃ a Cc dx fs f fd ps ds dvs sp, x = .ref a ∧ H1 a = some (.ins Cc dx fs) ∧ fs.lookup m = none ∧
  Cls X.K Cc ∧ Meth X.K Cc m f ∧ FnOk X.prog X.w X.K X.mg X.base (L2N.CX X.prog X.w) k f fd ps sp ∧ Binds X.K fd ps ds ∧ Vals dvs ds ∧
  t σ H1 fun vs H2 => sp (x :: (vs ++ dvs)) H2 Q (WE W σ)
theorem pe_methD {pl : Sem Bool} {k : Nat} {m : Str} {o : Expr} {ta : TE} {t : TA} {apos : Pos} (he : PE X o ta) (hr : Room k X.A) (tk : L2N.Takes X W) (ha : PA X (e :: es) t)
    (hst : starEach (e :: es) X.env = (false, PySem.eval e X.env) :: starEach es X.env := by rfl) (hpl : (backTo pos (starEach es X.env)).any (·.1) = false := by rfl)
    (ht : PySem.eval (.Call (.Attribute o m apos) (e :: es) [] pos) X.env = (do
      let ov ← PySem.eval o X.env
      standAt apos.atName
      let (f, first) ← holding [ov] (getMethod ov m pl)
      callWith pos f first (backTo pos (starEach (e :: es) X.env)) (backToKw pos (keywordEach [] X.env))) := by rfl) :
    PE X (.Call (.Attribute o m apos) (e :: es) [] pos) (tMethD X A k W m ta t) := by
  refine ⟨fun pins s σ H Q I h => ?_⟩
  refine PySem.W.methodCall_KW (pl := pl) (thn (he.run pins s σ H _ I h) fun u s1 ⟨x, H1, I1, rx, a, Cc, dx, fs, f, fd, ps, ds, dvs, sp, ex, ea, l, c, hm, F, hb, hd, q⟩ => ?_) ht
  subst ex
  obtain rfl : u = Value.ref a := rx
  refine getmeth_ok I1 ea c hm l ?_
  refine PySem.W.callWith_K (first := [.ref a]) (h₀ := X.base) I.ok.mod.kin hm.kp (thn (ha.run pos pins s1 σ H1 _ I1 q) fun us s2 ⟨vs, H2, I2, r, q2⟩ => ⟨I2.kIn, ?_⟩) hst hpl
  exact run_fnSD (E := WE W) (us := .ref a :: us) (vs := .ref a :: vs) F hr hb hd (L2N.passAt tk σ) I2 (.cons rfl r) q2
theorem pe_methD0 {pl : Sem Bool} {k : Nat} {m : Str} {o : Expr} {ta : TE} {apos : Pos} (he : PE X o ta) (hr : Room k X.A) (tk : L2N.Takes X W)
    (ht : PySem.eval (.Call (.Attribute o m apos) [] [] pos) X.env = (do
      let ov ← PySem.eval o X.env
      standAt apos.atName
      let (f, first) ← holding [ov] (getMethod ov m pl)
      callWith pos f first (backTo pos (starEach [] X.env)) (backToKw pos (keywordEach [] X.env))) := by rfl) :
    PE X (.Call (.Attribute o m apos) [] [] pos) (tMethD X A k W m ta tNil) := by
  refine ⟨fun pins s σ H Q I h => ?_⟩
  refine PySem.W.methodCall_KW (pl := pl) (thn (he.run pins s σ H _ I h) fun u s1 ⟨x, H1, I1, rx, a, Cc, dx, fs, f, fd, ps, ds, dvs, sp, ex, ea, l, c, hm, F, hb, hd, q⟩ => ?_) ht
  subst ex
  obtain rfl : u = Value.ref a := rx
  refine getmeth_ok I1 ea c hm l ?_
  exact PySem.W.callWith_K0 (first := [.ref a]) I1.kIn hm.kp (run_fnSD (E := WE W) (us := [.ref a]) (vs := [.ref a]) F hr hb hd (L2N.passAt tk σ) I1 (.cons rfl .nil) q)
theorem ev_meth {m : Nat} : eval C (.meth m ca cs) = fun ε M => (eval C ca ε M).bind fun x M => (match clsOf x M with
    | some c => (match C.meth c m with
      | some g => (evals C cs ε M).bind fun ds M => C.Φ g (x :: ds) M
      | none => none)
    | none => none) := by funext ε M; simp only [eval] <;> rfl
theorem de_meth {k mid : Nat} {m : Str} {dds : List D} {apos : Pos} {pl : Sem Bool} (hk : MOk X.prog X.w X.K X.mg X.base A C k m mid dds) (hr : Room k X.A) (tk : L2N.Takes X W) (ho : DE X A C W a ca) (ha : DA X A C W (e :: es) cs)
    (hst : starEach (e :: es) X.env = (false, PySem.eval e X.env) :: starEach es X.env := by rfl) (hpl : (backTo pos (starEach es X.env)).any (·.1) = false := by rfl)
    (ht : PySem.eval (.Call (.Attribute a m apos) (e :: es) [] pos) X.env = (do
      let ov ← PySem.eval a X.env
      standAt apos.atName
      let (f, first) ← holding [ov] (getMethod ov m pl)
      callWith pos f first (backTo pos (starEach (e :: es) X.env)) (backToKw pos (keywordEach [] X.env))) := by rfl) :
    DE X A C W (.Call (.Attribute a m apos) (e :: es) [] pos) (.meth mid ca (cs ++ dds.map E.con)) := by
  refine PE.imp (pe_methD (A := A) ho hr tk ha hst hpl ht) fun σ H Q h => ?_
  unfold tE at h
  rw [ev_meth] at h
  obtain ⟨G, θ, Hd, ε, M, S, R, p⟩ := tD.next (rel := rV X.K A) h
  refine ⟨G, θ, Hd, ε, M, S, R, p.mono ?_⟩
  rintro v H1 ⟨G1, θ1, Hd1, ε1, M0, M1, d, e1, S1, R1, r1, p1⟩
  cases h1 : clsOf d M1 with
  | none => rw [h1] at p1; exact p1.elim
  | some c =>
    rw [h1] at p1
    cases h2 : C.meth c mid with
    | none => simp only [h2] at p1; exact p1.elim
    | some g =>
      simp only [h2] at p1
      obtain ⟨f, k1, k2, k3, fd, ps, dvs, ds, F, kp, hb, hd, hrep⟩ := hk c g h2
      obtain ⟨p, dx, fs, rfl, q1, q2⟩ := cls_V R1 r1 h1 k3
      refine ⟨p, _, dx, fs, f, fd, ps, ds, dvs, _, rfl, q1, q2, k1, k2, F, hb, hd, ?_⟩
      rw [args_at] at p1
      refine ⟨G1, θ1, Hd1, ε1, M1, S1, R1, p1.bind.mono ?_⟩
      rintro vs H2 ⟨θ2, Hd2, xs, M2, e2, E2, R2, r2, p2⟩
      exact ⟨G1, θ2, Hd2, d :: (xs ++ dds), M2, R2, .cons (r1.up E2) (r2.append (hrep _ _)), p2⟩
theorem de_meth0 {k mid : Nat} {m : Str} {dds : List D} {apos : Pos} {pl : Sem Bool} (hk : MOk X.prog X.w X.K X.mg X.base A C k m mid dds) (hr : Room k X.A) (tk : L2N.Takes X W) (ho : DE X A C W a ca)
    (ht : PySem.eval (.Call (.Attribute a m apos) [] [] pos) X.env = (do
      let ov ← PySem.eval a X.env
      standAt apos.atName
      let (f, first) ← holding [ov] (getMethod ov m pl)
      callWith pos f first (backTo pos (starEach [] X.env)) (backToKw pos (keywordEach [] X.env))) := by rfl) :
    DE X A C W (.Call (.Attribute a m apos) [] [] pos) (.meth mid ca (dds.map E.con)) := by
  refine PE.imp (pe_methD0 (A := A) ho hr tk ht) fun σ H Q h => ?_
  unfold tE at h
  rw [ev_meth] at h
  obtain ⟨G, θ, Hd, ε, M, S, R, p⟩ := tD.next (rel := rV X.K A) h
  refine ⟨G, θ, Hd, ε, M, S, R, p.mono ?_⟩
  rintro v H1 ⟨G1, θ1, Hd1, ε1, M0, M1, d, e1, S1, R1, r1, p1⟩
  cases h1 : clsOf d M1 with
  | none => rw [h1] at p1; exact p1.elim
  | some c =>
    rw [h1] at p1
    cases h2 : C.meth c mid with
    | none => simp only [h2] at p1; exact p1.elim
    | some g =>
      simp only [h2] at p1
      obtain ⟨f, k1, k2, k3, fd, ps, dvs, ds, F, kp, hb, hd, hrep⟩ := hk c g h2
      obtain ⟨p, dx, fs, rfl, q1, q2⟩ := cls_V R1 r1 h1 k3
      rw [evals_con] at p1
      exact ⟨p, _, dx, fs, f, fd, ps, ds, dvs, _, rfl, q1, q2, k1, k2, F, hb, hd, G1, θ1, Hd1, d :: dds, M1, R1, .cons r1 (hrep _ _), p1⟩

/-! ### instances are made -/
/-- the class x (c of ours), made by its __init__ -/
def KOk (P : Program) (w : World) (K : PySem.W.Frag) (mg : Str → Option Value) (base : Heap) (A : Wd) (C : Cfg) (k : Nat) (c g : Nat) (dds : List D) : Prop :=
  ∃ (f : Addr) (fd : FuncData) (ps : List Str) (dvs : List V) (ds : List Value), Mk K (A.ca c) f ∧ FnOk P w K mg base (L2N.CX P w) k f fd ps (liftSp K A (C.Φ g)) ∧ Binds K fd ps ds ∧ Vals dvs ds ∧ ∀ Hd θ, Reps K A Hd θ dvs dds
def tMakeW (Cc : Addr) (sp : Sp) (dvs : List V) (W : WX) (t : TA) : TE := fun σ H Q => t σ H fun vs H1 => ∀ x dx, H1 x = none → H1 dx = none → dx ≠ x →
  sp (.ref x :: (vs ++ dvs)) (upd (upd H1 dx (.own x)) x (.ins Cc dx [])) (fun v H2 => v = .non ∧ Q (.ref x) H2) (WE W σ)
theorem run_makeW {k : Nat} {f Cc : Addr} {fd : FuncData} {ps : List Str} {sp : Sp} {dvs : List V} {ds : List Value} {pins : List (Addr × Obj)} {σ : L2.St} {H : Hp} {s : Shared} {Q : VK} {us : List Value} {vs : List V} (M : Mk X.K Cc f) (F : FnOk X.prog X.w X.K X.mg X.base (L2N.CX X.prog X.w) k f fd ps sp) (hr : Room (k + 1) X.A) (hb : Binds X.K fd ps ds) (hd : Vals dvs ds)
    (tk : L2N.Takes X W) (I : Inv X pins σ H s) (r : Vals vs us)
    (h : ∀ x dx, H x = none → H dx = none → dx ≠ x → sp (.ref x :: (vs ++ dvs)) (upd (upd H dx (.own x)) x (.ins Cc dx [])) (fun v H2 => v = .non ∧ Q (.ref x) H2) (WE W σ)) :
    wpAny (model X.prog X.w) X.A (call (.ref Cc) us) (EP X pins σ Q) X.xe s := by
  have hq := h (s.heap.objs.size + 1) s.heap.objs.size (I.hok.fresh (Nat.le_succ _)) (I.hok.fresh (Nat.le_refl _)) (Nat.ne_of_lt (Nat.lt_succ_self _))
  have I2 := Inv.made (C := Cc) I
  have r2 : Vals (V.ref (s.heap.objs.size + 1) :: (vs ++ dvs)) (Value.ref (s.heap.objs.size + 1) :: (us ++ ds)) := .cons rfl (r.append hd)
  have hl : (Value.ref (s.heap.objs.size + 1) :: us ++ ds).length = ps.length := by
    have e := r2.length
    rw [F.len _ _ _ _ hq] at e
    exact e.symm
  refine wpAny_call (make_map (f := f) I.kIn M.makes M.init (beq_iff_eq.mp M.fn) (codeAny_mono (F.run _ X.stack _ _ ⟨Value.ref (s.heap.objs.size + 1) :: us, []⟩ (Value.ref (s.heap.objs.size + 1) :: (us ++ ds)) _ _ (WE W σ) (hr.make Cc us [])
    (I2.env0.make Cc us []) (hb _ (Value.ref (s.heap.objs.size + 1) :: us) I2.kIn hl) r2 hq) fun r s' hq' => ?_))
  cases r with
  | error e => exact L2N.passAt tk σ pins _ _ e s' I2 hq'
  | ok fl =>
    cases fl with
    | ret u =>
      obtain ⟨v, H', I3, rv, ev, q3⟩ := I2.after hq'
      subst ev
      exact ⟨rv, ⟨V.ref (s.heap.objs.size + 1), H', I3, rfl, q3⟩⟩
    | next => exact False.elim hq'
    | brk => exact False.elim hq'
    | cont => exact False.elim hq'
theorem pe_makeW {k : Nat} {f Cc : Addr} {fd : FuncData} {ps : List Str} {sp : Sp} {dvs : List V} {ds : List Value} {t : TA} {x : Str} {p : Pos} (M : Mk X.K Cc f) (F : FnOk X.prog X.w X.K X.mg X.base (L2N.CX X.prog X.w) k f fd ps sp) (hr : Room (k + 1) X.A) (hg : Gl X x) (hm : X.mg x = some (.ref Cc)) (hb : Binds X.K fd ps ds) (hd : Vals dvs ds) (tk : L2N.Takes X W)
    (ha : PA X (e :: es) t) (hdb : (x == ("__debug__" : Str)) = false := by decide) (he : starEach (e :: es) X.env = (false, PySem.eval e X.env) :: starEach es X.env := by rfl) (hpl : (backTo pos (starEach es X.env)).any (·.1) = false := by rfl) :
    PE X (.Call (.Name x p) (e :: es) [] pos) (tMakeW Cc sp dvs W t) := by
  refine ⟨fun pins s σ H Q I h => ?_⟩
  refine wpAny_Call_Name_kw (ld_glob I hg hm ?_ hdb)
  refine PySem.W.callWith_K (h₀ := X.base) I.ok.mod.kin M.kp (thn (ha.run pos pins s σ H _ I h) fun us s1 ⟨vs, H1, I1, r, q⟩ => ⟨I1.kIn, ?_⟩) he hpl
  exact run_makeW M F hr hb hd tk I1 r q
theorem pe_makeW0 {k : Nat} {f Cc : Addr} {fd : FuncData} {ps : List Str} {sp : Sp} {dvs : List V} {ds : List Value} {x : Str} {p : Pos} (M : Mk X.K Cc f) (F : FnOk X.prog X.w X.K X.mg X.base (L2N.CX X.prog X.w) k f fd ps sp) (hr : Room (k + 1) X.A) (hg : Gl X x) (hm : X.mg x = some (.ref Cc)) (hb : Binds X.K fd ps ds) (hd : Vals dvs ds) (tk : L2N.Takes X W)
    (hdb : (x == ("__debug__" : Str)) = false := by decide) : PE X (.Call (.Name x p) [] [] pos) (tMakeW Cc sp dvs W tNil) := by
  refine ⟨fun pins s σ H Q I h => ?_⟩
  refine wpAny_Call_Name_kw (ld_glob I hg hm ?_ hdb)
  exact PySem.W.callWith_K0 I.kIn M.kp (run_makeW (us := []) M F hr hb hd tk I .nil h)
theorem ev_make {c g : Nat} : eval C (.make c g cs) = fun ε M => (evals C cs ε M).bind fun ds M => (C.Φ g (.ref M.length :: ds) (M ++ [.ins c []])).bind fun r M' => (match r with | .non => some (.ok (.ref M.length) M') | _ => none) := by funext ε M; simp only [eval] <;> rfl
theorem ev_makeO {c g : Nat} : eval C (.makeO c g cs) = fun ε M => (evals C cs ε M).bind fun ds M => (C.Φ g (.ref M.length :: ds) (M ++ [.ins c []])).bind fun r M' => (match r, M'[M.length]? with
    | .non, some (.ins c fs) => if cleans fs then some (.ok (.obj c fs) (M'.take M.length)) else none
    | _, _ => none) := by funext ε M; simp only [eval] <;> rfl
/-- the new instance in the memory -/
theorem RM.inst {K : PySem.W.Frag} {G : Gd} {θ : Th} {Hd : Hp} {M : Mem} {H : Hp} (R : RG K A G θ Hd M H) {x dx : Addr} (hx : H x = none) (hdx : H dx = none) (hne : dx ≠ x) (c : Nat) :
    RG K A G (th θ M.length x) Hd (M ++ [.ins c []]) (upd (upd H dx (.own x)) x (.ins (A.ca c) dx [])) ∧ Ext θ Hd (th θ M.length x) Hd := by
  have R1 := R.junk hdx (.own x)
  have hx1 : upd H dx (.own x) x = none := by rw [upd_ne hne.symm]; exact hx
  have R2 := R1.junk hx1 (.ins (A.ca c) dx [])
  refine R2.box upd_same (R1.dnone hx1) (R.dom x hx) (fun n e => R.liv n x e hx) ⟨rfl, ?_, Nat.zero_le _, .nil⟩
  simp
theorem de_make {k c g : Nat} {dds : List D} {x : Str} {p : Pos} (hk : KOk X.prog X.w X.K X.mg X.base A C k c g dds) (hm : X.mg x = some (.ref (A.ca c))) (hr : Room (k + 1) X.A) (tk : L2N.Takes X W) (ha : DA X A C W (e :: es) cs)
    (hg : Gl X x := by rfl) (hdb : (x == ("__debug__" : Str)) = false := by decide) (he : starEach (e :: es) X.env = (false, PySem.eval e X.env) :: starEach es X.env := by rfl) (hpl : (backTo pos (starEach es X.env)).any (·.1) = false := by rfl) :
    DE X A C W (.Call (.Name x p) (e :: es) [] pos) (.make c g (cs ++ dds.map E.con)) := by
  obtain ⟨f, fd, ps, dvs, ds, Mk, F, hb, hd, hrep⟩ := hk
  refine PE.imp (pe_makeW Mk F hr hg hm hb hd tk ha hdb he hpl) fun σ H Q h => ?_
  unfold tE at h
  rw [ev_make] at h
  obtain ⟨G, θ, Hd, ε, M, S, R, p⟩ := da_next h
  refine ⟨G, θ, Hd, ε, M, S, R, p.mono ?_⟩
  rintro vs H1 ⟨G1, θ1, Hd1, ε1, M1, xs, S1, R1, r1, p1⟩
  intro x dx hx hdx hne
  obtain ⟨R2, E2⟩ := RM.inst R1 hx hdx hne c
  refine ⟨G1, _, Hd1, _, _, R2, .cons (.ref (by unfold th; rw [if_pos rfl])) ((r1.append (hrep _ _)).up E2), (p1.up E2).bind.mono ?_⟩
  rintro v H2 ⟨θ2, Hd2, d, M2, e2, E3, R3, r3, p3⟩
  cases d <;> try exact p3.elim
  cases r3
  refine ⟨rfl, p3.ok R3 (.ref (E3.t _ _ ?_))⟩
  unfold th; rw [if_pos rfl]
theorem de_make0 {k c g : Nat} {dds : List D} {x : Str} {p : Pos} (hk : KOk X.prog X.w X.K X.mg X.base A C k c g dds) (hm : X.mg x = some (.ref (A.ca c))) (hr : Room (k + 1) X.A) (tk : L2N.Takes X W)
    (hg : Gl X x := by rfl) (hdb : (x == ("__debug__" : Str)) = false := by decide) : DE X A C W (.Call (.Name x p) [] [] pos) (.make c g (dds.map E.con)) := by
  obtain ⟨f, fd, ps, dvs, ds, Mk, F, hb, hd, hrep⟩ := hk
  refine PE.imp (pe_makeW0 Mk F hr hg hm hb hd tk hdb) fun σ H Q h => ?_
  unfold tE at h
  rw [ev_make] at h
  obtain ⟨G1, θ1, Hd1, ε1, M1, S1, R1, p1⟩ := tNil_of h
  intro x dx hx hdx hne
  obtain ⟨R2, E2⟩ := RM.inst R1 hx hdx hne c
  refine ⟨G1, _, Hd1, _, _, R2, .cons (.ref (by unfold th; rw [if_pos rfl])) (hrep _ _), (p1.up E2).bind.mono ?_⟩
  rintro v H2 ⟨θ2, Hd2, d, M2, e2, E3, R3, r3, p3⟩
  cases d <;> try exact p3.elim
  cases r3
  refine ⟨rfl, p3.ok R3 (.ref (E3.t _ _ ?_))⟩
  unfold th; rw [if_pos rfl]
end
end Dw
/-! Dw7: built-ins by name. -/
namespace Dw
open PySem L2 PyProof.Rows
section
variable {X : Cx} {A : We} {C : Cfg} {W : WX} {a b c e : Expr} {ca cb cc ce : E} {pos : Pos} {es : List Expr} {cs : List E}

def rN (K : PySem.W.Frag) (A : We) (g : List D → Mem → Option D) : List V → Hp → VK → Prop := fun xs H Q => ∃ G θ Hd M ds d, RG K A G θ Hd M H ∧ Reps K A Hd θ xs ds ∧ g ds M = some d ∧
  ∀ v H' Hd', Ext θ Hd θ Hd' → RG K A G θ Hd' M H' → Rep K A Hd' θ v d → Q v H'
abbrev CallD (X : Cx) (A : We) (f : Value) (g : List D → Mem → Option D) : Prop := CallR X f (rN X.K A g)
theorem CallR.imp {f : Value} {r r' : List V → Hp → VK → Prop} (h : CallR X f r') (k : ∀ xs H Q, r xs H Q → r' xs H Q) : CallR X f r := fun pins s σ H xs us Q I rs q => h pins s σ H xs us Q I rs (k _ _ _ q)
theorem CallD.of {f : Value} {g : List D → Mem → Option D} {r : List V → Hp → VK → Prop} (h : CallR X f r)
    (k : ∀ G θ Hd M ds d xs H Q, RG X.K A G θ Hd M H → Reps X.K A Hd θ xs ds → g ds M = some d →
      (∀ v H' Hd', Ext θ Hd θ Hd' → RG X.K A G θ Hd' M H' → Rep X.K A Hd' θ v d → Q v H') → r xs H Q) : CallD X A f g :=
  CallR.imp h fun xs H Q ⟨G, θ, Hd, M, ds, d, R, rs, hg, q⟩ => k G θ Hd M ds d xs H Q R rs hg q
theorem ev_bi {b : Bi} : eval C (.bi b cs) = fun ε M => (evals C cs ε M).bind fun ds M => opt (bi b ds M) M := by funext ε M; simp only [eval] <;> rfl
/-- arguments, then a call by values -/
theorem tA.call {K : PySem.W.Frag} {g : List D → Mem → Option D} {σ : L2.St} {H : Hp} {Q : VK} (h : tD K A W (rV K A) (fun ε M => (evals C cs ε M).bind fun ds M => opt (g ds M) M) σ H Q) :
    tA K A C W cs σ H fun vs H1 => rN K A g vs H1 Q := by
  obtain ⟨G, θ, Hd, ε, M, S, R, p⟩ := tD.next (rel := rVs K A) h
  refine ⟨G, θ, Hd, ε, M, S, R, p.mono ?_⟩
  rintro vs H1 ⟨G1, θ1, Hd1, ε1, M0, M1, ds, e1, S1, R1, r1, p1⟩
  cases hg : g ds M1 with
  | none => rw [hg] at p1; exact p1.elim
  | some w =>
    rw [hg] at p1
    exact ⟨G1, θ1, Hd1, M1, ds, w, R1, r1, hg, fun v H' Hd' E R r => (p1.up E).ok R r⟩
theorem de_bi {id : String} {b : Bi} {x : Str} {p : Pos} (hc : CallD X A (.builtin id) (bi b)) (hm : X.mg x = none) (ha : DA X A C W (e :: es) cs) (hv : bootBuiltins x = some (.builtin id) := by decide +kernel)
    (hg : Gl X x := by rfl) (hn : x ≠ "__name__" := by decide) (hdb : (x == ("__debug__" : Str)) = false := by decide)
    (he : starEach (e :: es) X.env = (false, PySem.eval e X.env) :: starEach es X.env := by rfl) (hpl : (backTo pos (starEach es X.env)).any (·.1) = false := by rfl) : DE X A C W (.Call (.Name x p) (e :: es) [] pos) (.bi b cs) := by
  refine PE.imp (pe_callB hc hg hm hv ha hn hdb he hpl) fun σ H Q h => ?_
  unfold tE at h
  rw [ev_bi] at h
  exact tA.call h
theorem de_biT {T : String} {b : Bi} {x : Str} {p : Pos} (hc : CallD X A (.type T) (bi b)) (hm : X.mg x = none) (ha : DA X A C W (e :: es) cs) (hv : bootBuiltins x = some (.type T) := by decide +kernel)
    (hg : Gl X x := by rfl) (hn : x ≠ "__name__" := by decide) (hdb : (x == ("__debug__" : Str)) = false := by decide)
    (he : starEach (e :: es) X.env = (false, PySem.eval e X.env) :: starEach es X.env := by rfl) (hpl : (backTo pos (starEach es X.env)).any (·.1) = false := by rfl) : DE X A C W (.Call (.Name x p) (e :: es) [] pos) (.bi b cs) := by
  refine PE.imp (pe_callTy hc hg hm hv ha hn hdb he hpl) fun σ H Q h => ?_
  unfold tE at h
  rw [ev_bi] at h
  exact tA.call h

theorem mem_at {K : PySem.W.Frag} {G : Gd} {θ : Th} {Hd : Hp} {M : Mem} {H : Hp} {n : Nat} {o : MO} {v : V} (R : RG K A G θ Hd M H) (r : Rep K A Hd θ v (.ref n)) (hm : M[n]? = some o) (hg : o ≠ .gone) :
    ∃ a u, v = .ref a ∧ θ n = some a ∧ H a = some u ∧ MRep K A Hd θ u o := by
  cases r with | ref hr =>
  obtain ⟨a, u, h1, h2, h3, h4⟩ := R.own _ _ hm hg
  rw [hr] at h1; cases h1
  exact ⟨_, u, rfl, hr, h3, h4⟩
/-- a list or tuple that is read -/
theorem seq_at {K : PySem.W.Frag} {G : Gd} {θ : Th} {Hd : Hp} {M : Mem} {H : Hp} {n : Nat} {l : List D} {v : V} (R : RG K A G θ Hd M H) (r : Rep K A Hd θ v (.ref n)) (hm : M[n]? = some (.lst l)) :
    ∃ a xs, v = .ref a ∧ H a = some (.lst xs) ∧ Reps K A Hd θ xs l := by
  obtain ⟨a, u, e, _, h1, h2⟩ := mem_at R r hm (by intro z; cases z)
  cases u <;> first | exact h2.elim | exact ⟨a, _, e, h1, h2⟩

theorem call_lenDR : CallR X (.builtin "len") (fun xs H Q => ∃ a kvs, xs = [.ref a] ∧ Rd H a (.dK kvs) ∧ Q (.int kvs.length) H) := by
  intro pins s σ H xs us Q I r h
  obtain ⟨a, kvs, rfl, e, q⟩ := h
  obtain ⟨u, rfl, rx⟩ := vals1 r
  cases rx
  exact d_len I e fun t s' I' => ⟨.int _, H, I', ⟨t, rfl⟩, q⟩
theorem cd_len : CallD X A (.builtin "len") (bi .len) := by
  refine CallD.of (call_len_seq.or (call_len_str.or call_lenDR)) ?_
  intro G θ Hd M ds d xs H Q R rs hg q
  simp only [bi] at hg
  split at hg
  · split at hg <;> cases hg
    obtain ⟨v, rfl, r⟩ := rs.inv1
    cases r
    exact .inr (.inl ⟨_, rfl, by assumption, q _ _ _ (Ext.refl _ _) R (.int _)⟩)
  · obtain ⟨v, rfl, r⟩ := rs.inv1
    split at hg <;> cases hg
    · rename_i hm
      obtain ⟨a, ys, rfl, h1, h2⟩ := seq_at R r hm
      refine .inl ⟨a, ys, rfl, .inl (.of h1), ?_⟩
      rw [h2.length]
      exact q _ _ _ (Ext.refl _ _) R (.int _)
    · rename_i hm
      obtain ⟨a, u, rfl, _, h1, h2⟩ := mem_at R r hm (by intro z; cases z)
      cases u <;> first | exact h2.elim | skip
      rename_i kvs
      refine .inr (.inr ⟨a, kvs, rfl, .inl h1, ?_⟩)
      have e := h2.2.length
      rw [List.length_map, List.length_map] at e
      rw [e]
      exact q _ _ _ (Ext.refl _ _) R (.int _)
  · obtain ⟨v, rfl, r⟩ := rs.inv1
    cases hg
    cases r with | tup h1 r1 =>
    refine .inl ⟨_, _, rfl, .inr (sqT_mono R.base h1), ?_⟩
    rw [r1.length]
    exact q _ _ _ (Ext.refl _ _) R (.int _)
  · obtain ⟨v, rfl, r⟩ := rs.inv1
    cases hg
    cases r with | lst h1 r1 =>
    refine .inl ⟨_, _, rfl, .inl (sqL_mono R.base h1), ?_⟩
    rw [r1.length]
    exact q _ _ _ (Ext.refl _ _) R (.int _)
  · cases hg

theorem leastI_le : ∀ (l : List Int) (m : Int), leastI m l ≤ m ∧ (∀ y ∈ l, leastI m l ≤ y) ∧ (leastI m l = m ∨ leastI m l ∈ l)
  | [], m => ⟨Int.le_refl _, fun _ h => (nomatch h), .inl rfl⟩
  | x :: r, m => by
    obtain ⟨h1, h2, h3⟩ := leastI_le r (if x < m then x else m)
    show leastI _ r ≤ m ∧ (∀ y ∈ x :: r, leastI _ r ≤ y) ∧ (leastI _ r = m ∨ leastI _ r ∈ x :: r)
    by_cases c : x < m
    · rw [if_pos c] at h1 h2 h3 ⊢
      refine ⟨by omega, fun y hy => ?_, ?_⟩
      · rcases List.mem_cons.mp hy with rfl | hy
        · exact h1
        · exact h2 y hy
      · rcases h3 with h | h
        · rw [h]; exact .inr (List.mem_cons_self ..)
        · exact .inr (List.mem_cons_of_mem _ h)
    · rw [if_neg c] at h1 h2 h3 ⊢
      refine ⟨h1, fun y hy => ?_, ?_⟩
      · rcases List.mem_cons.mp hy with rfl | hy
        · omega
        · exact h2 y hy
      · rcases h3 with h | h
        · exact .inl h
        · exact .inr (List.mem_cons_of_mem _ h)
theorem mostI_le : ∀ (l : List Int) (m : Int), m ≤ mostI m l ∧ (∀ y ∈ l, y ≤ mostI m l) ∧ (mostI m l = m ∨ mostI m l ∈ l)
  | [], m => ⟨Int.le_refl _, fun _ h => (nomatch h), .inl rfl⟩
  | x :: r, m => by
    obtain ⟨h1, h2, h3⟩ := mostI_le r (if m < x then x else m)
    show m ≤ mostI _ r ∧ (∀ y ∈ x :: r, y ≤ mostI _ r) ∧ (mostI _ r = m ∨ mostI _ r ∈ x :: r)
    by_cases c : m < x
    · rw [if_pos c] at h1 h2 h3 ⊢
      refine ⟨by omega, fun y hy => ?_, ?_⟩
      · rcases List.mem_cons.mp hy with rfl | hy
        · exact h1
        · exact h2 y hy
      · rcases h3 with h | h
        · rw [h]; exact .inr (List.mem_cons_self ..)
        · exact .inr (List.mem_cons_of_mem _ h)
    · rw [if_neg c] at h1 h2 h3 ⊢
      refine ⟨h1, fun y hy => ?_, ?_⟩
      · rcases List.mem_cons.mp hy with rfl | hy
        · omega
        · exact h2 y hy
      · rcases h3 with h | h
        · exact .inl h
        · exact .inr (List.mem_cons_of_mem _ h)
theorem call_max3 (hc : X.calm = true) : CallR X (.builtin "max") (fun xs H Q => ∃ i j k, xs = [.int i, .int j, .int k] ∧ Q (.int (mostI i [j, k])) H) := by
  intro pins s σ H xs us Q I r h
  obtain ⟨i, j, k, rfl, q⟩ := h
  cases r with | cons r1 r =>
  cases r with | cons r2 r =>
  cases r with | cons r3 r =>
  cases r
  obtain ⟨t1, rfl⟩ := r1
  obtain ⟨t2, rfl⟩ := r2
  obtain ⟨t3, rfl⟩ := r3
  refine PySem.max_three_ints (I.ok.hd hc) fun h' tk kk => ⟨.int _, H, I.kept kk, ?_, q⟩
  simp only [mostI]
  by_cases c1 : j > i
  · rw [if_pos c1, if_pos (show i < j from c1)]
    by_cases c2 : k > j
    · rw [if_pos c2, if_pos (show j < k from c2)]; exact ⟨_, rfl⟩
    · rw [if_neg c2, if_neg (show ¬ j < k from c2)]; exact ⟨_, rfl⟩
  · rw [if_neg c1, if_neg (show ¬ i < j from c1)]
    by_cases c2 : k > i
    · rw [if_pos c2, if_pos (show i < k from c2)]; exact ⟨_, rfl⟩
    · rw [if_neg c2, if_neg (show ¬ i < k from c2)]; exact ⟨_, rfl⟩
/-- a list that is read, mutable or not -/
theorem seqL_at {K : PySem.W.Frag} {G : Gd} {θ : Th} {Hd : Hp} {M : Mem} {H : Hp} {x : D} {l : List D} {v : V} (R : RG K A G θ Hd M H) (r : Rep K A Hd θ v x) (h : seqL? x M = some l) :
    ∃ a xs, v = .ref a ∧ SqL K H a xs ∧ Reps K A Hd θ xs l := by
  cases x <;> simp only [seqL?, reduceCtorEq] at h
  · cases h
    cases r with | lst h1 r1 => exact ⟨_, _, rfl, sqL_mono R.base h1, r1⟩
  · split at h <;> cases h
    rename_i hm
    obtain ⟨a, xs, e, h1, h2⟩ := seq_at R r hm
    exact ⟨a, xs, e, .inl (.inl h1), h2⟩
theorem one_of {K : PySem.W.Frag} {Hd : Hp} {θ : Th} {ds : List D} {xs : List V} {g : D → Option D} {d : D} (rs : Reps K A Hd θ xs ds) (h : one? ds g = some d) : ∃ x v, ds = [x] ∧ xs = [v] ∧ Rep K A Hd θ v x ∧ g x = some d := by
  match ds, h, rs with
  | [x], h, rs =>
    obtain ⟨v, rfl, r⟩ := rs.inv1
    exact ⟨x, v, rfl, rfl, r, h⟩
theorem cd_max (hc : X.calm = true) : CallD X A (.builtin "max") (bi .max) := by
  refine CallD.of ((call_max2 hc).or ((cr_max hc).or (call_max3 hc))) ?_
  intro G θ Hd M ds d xs H Q R rs hg q
  simp only [bi] at hg
  split at hg
  · cases hg
    obtain ⟨v, w, rfl, r1, r2⟩ := rs.inv2
    cases r1; cases r2
    exact .inl ⟨_, _, rfl, q _ _ _ (Ext.refl _ _) R (.int _)⟩
  · rename_i x
    obtain ⟨v, rfl, r⟩ := rs.inv1
    split at hg <;> try (cases hg; done)
    rename_i l hl
    split at hg <;> cases hg
    rename_i i ns hi
    obtain ⟨a, ys, rfl, h1, h2⟩ := seqL_at R r hl
    rw [ints_some hi] at h2
    rw [reps_ints h2] at h1
    refine .inr (.inl ⟨a, i :: ns, rfl, h1, Nat.succ_pos _, fun m hm hl => ?_⟩)
    obtain ⟨k1, k2, k3⟩ := mostI_le ns i
    have e : m = mostI i ns := by
      refine Int.le_antisymm ?_ ?_
      · rcases List.mem_cons.mp hm with rfl | hm
        · exact k1
        · exact k2 m hm
      · rcases k3 with z | z
        · rw [z]; exact hl i (List.mem_cons_self ..)
        · exact hl _ (List.mem_cons_of_mem _ z)
    rw [e]
    exact q _ _ _ (Ext.refl _ _) R (.int _)
  · cases hg
    obtain ⟨v, w, x, rfl, r1, r2, r3⟩ := rs.inv3
    cases r1; cases r2; cases r3
    exact .inr (.inr ⟨_, _, _, rfl, q _ _ _ (Ext.refl _ _) R (.int _)⟩)
  · cases hg
theorem cd_min (hc : X.calm = true) : CallD X A (.builtin "min") (bi .min) := by
  refine CallD.of ((call_min2 hc).or (cr_min hc)) ?_
  intro G θ Hd M ds d xs H Q R rs hg q
  simp only [bi] at hg
  split at hg
  · cases hg
    obtain ⟨v, w, rfl, r1, r2⟩ := rs.inv2
    cases r1; cases r2
    exact .inl ⟨_, _, rfl, q _ _ _ (Ext.refl _ _) R (.int _)⟩
  · rename_i x
    obtain ⟨v, rfl, r⟩ := rs.inv1
    split at hg <;> try (cases hg; done)
    rename_i l hl
    split at hg <;> cases hg
    rename_i i ns hi
    obtain ⟨a, ys, rfl, h1, h2⟩ := seqL_at R r hl
    rw [ints_some hi] at h2
    rw [reps_ints h2] at h1
    refine .inr ⟨a, i :: ns, rfl, h1, Nat.succ_pos _, fun m hm hl => ?_⟩
    obtain ⟨k1, k2, k3⟩ := leastI_le ns i
    have e : m = leastI i ns := by
      refine Int.le_antisymm ?_ ?_
      · rcases k3 with z | z
        · rw [z]; exact hl i (List.mem_cons_self ..)
        · exact hl _ (List.mem_cons_of_mem _ z)
      · rcases List.mem_cons.mp hm with rfl | hm
        · exact k1
        · exact k2 m hm
    rw [e]
    exact q _ _ _ (Ext.refl _ _) R (.int _)
  · cases hg
theorem cd_sum (hc : X.calm = true) : CallD X A (.builtin "sum") (bi .sum) := by
  refine CallD.of (cr_sum hc) ?_
  intro G θ Hd M ds d xs H Q R rs hg q
  obtain ⟨x, v, rfl, rfl, r, hg⟩ := one_of rs hg
  split at hg <;> try (cases hg; done)
  rename_i l hl
  split at hg <;> cases hg
  rename_i ns hi
  obtain ⟨a, ys, rfl, h1, h2⟩ := seqL_at R r hl
  rw [ints_some hi] at h2
  rw [reps_ints h2] at h1
  exact ⟨a, ns, rfl, h1, q _ _ _ (Ext.refl _ _) R (.int _)⟩
theorem bls_some : ∀ {ds : List D} {bs : List Bool}, bls? ds = some bs → ds = bs.map D.bl
  | [], bs, h => by simp only [bls?] at h; cases h; rfl
  | d :: ds, bs, h => by
    cases d <;> simp only [bls?, reduceCtorEq] at h
    split at h <;> cases h
    rename_i l hl
    rw [bls_some hl]; rfl
theorem reps_bls {K : PySem.W.Frag} {Hd : Hp} {θ : Th} : ∀ {bs : List Bool} {vs : List V}, Reps K A Hd θ vs (bs.map D.bl) → vs = bs.map V.bl
  | [], vs, h => by cases h; rfl
  | n :: ns, vs, h => by
    obtain ⟨v, ws, rfl, h1, h2⟩ := h.inv_cons
    cases h1
    rw [reps_bls h2]; rfl
theorem cd_any (hc : X.calm = true) : CallD X A (.builtin "any") (bi .any) := by
  refine CallD.of (cr_any hc) ?_
  intro G θ Hd M ds d xs H Q R rs hg q
  obtain ⟨x, v, rfl, rfl, r, hg⟩ := one_of rs hg
  split at hg <;> try (cases hg; done)
  rename_i l hl
  split at hg <;> cases hg
  rename_i ns hi
  obtain ⟨a, ys, rfl, h1, h2⟩ := seqL_at R r hl
  rw [bls_some hi] at h2
  rw [reps_bls h2] at h1
  exact ⟨a, ns, rfl, h1, q _ _ _ (Ext.refl _ _) R (.bl _)⟩
theorem cd_all (hc : X.calm = true) : CallD X A (.builtin "all") (bi .all) := by
  refine CallD.of (cr_all hc) ?_
  intro G θ Hd M ds d xs H Q R rs hg q
  obtain ⟨x, v, rfl, rfl, r, hg⟩ := one_of rs hg
  split at hg <;> try (cases hg; done)
  rename_i l hl
  split at hg <;> cases hg
  rename_i ns hi
  obtain ⟨a, ys, rfl, h1, h2⟩ := seqL_at R r hl
  rw [bls_some hi] at h2
  rw [reps_bls h2] at h1
  exact ⟨a, ns, rfl, h1, q _ _ _ (Ext.refl _ _) R (.bl _)⟩
theorem cd_divmod : CallD X A (.builtin "divmod") (bi .divmod) := by
  refine CallD.of call_divmod ?_
  intro G θ Hd M ds d xs H Q R rs hg q
  simp only [bi] at hg
  split at hg <;> try (cases hg; done)
  split at hg <;> cases hg
  rename_i hc
  obtain ⟨v, w, rfl, r1, r2⟩ := rs.inv2
  cases r1; cases r2
  refine ⟨_, _, rfl, hc, fun p hp => ?_⟩
  obtain ⟨R2, E2⟩ := R.data hp (.tup _)
  exact q _ _ _ E2 R2 (.tup (.of upd_same) (.cons (.int _) (.cons (.int _) .nil)))
theorem cd_int : CallD X A (.type "int") (bi .int) := by
  refine CallD.of call_int1 ?_
  intro G θ Hd M ds d xs H Q R rs hg q
  simp only [bi] at hg
  split at hg <;> cases hg
  · obtain ⟨v, rfl, r⟩ := rs.inv1
    cases r
    exact .inr ⟨_, rfl, q _ _ _ (Ext.refl _ _) R (.int _)⟩
  · obtain ⟨v, rfl, r⟩ := rs.inv1
    cases r
    exact .inl ⟨_, rfl, q _ _ _ (Ext.refl _ _) R (.int _)⟩
theorem reps_keys {K : PySem.W.Frag} {Hd : Hp} {θ : Th} : ∀ {ks : List Key}, Reps K A Hd θ (ks.map kV) (ks.map keyD)
  | [] => .nil
  | .inl _ :: _ => .cons (.int _) reps_keys
  | .inr _ :: _ => .cons (.str _) reps_keys
theorem cd_tuple (hc : X.calm = true) : CallD X A (.type "tuple") (bi .tuple) := by
  refine CallD.of call_tuple_of ?_
  intro G θ Hd M ds d xs H Q R rs hg q
  obtain ⟨x, v, rfl, rfl, r, hg⟩ := one_of rs hg
  cases x <;> simp only [seq?, reduceCtorEq] at hg
  · cases hg
    cases r with | tup h1 r1 =>
    exact ⟨_, _, rfl, .inr ⟨sqT_mono R.base h1, q _ _ _ (Ext.refl _ _) R (.tup h1 r1)⟩⟩
  · cases hg
    cases r with | lst h1 r1 =>
    refine ⟨_, _, rfl, .inl ⟨sqL_mono R.base h1, fun p hp => ?_⟩⟩
    obtain ⟨R2, E2⟩ := R.data hp (.tup _)
    exact q _ _ _ E2 R2 (.tup (.of upd_same) (r1.up E2))
  · split at hg <;> cases hg
    rename_i l hl
    split at hl <;> cases hl
    rename_i hm
    obtain ⟨a, ys, rfl, h1, h2⟩ := seq_at R r hm
    refine ⟨a, ys, rfl, .inl ⟨.of h1, fun p hp => ?_⟩⟩
    obtain ⟨R2, E2⟩ := R.data hp (.tup _)
    exact q _ _ _ E2 R2 (.tup (.of upd_same) (h2.up E2))
theorem cd_list (hc : X.calm = true) : CallD X A (.type "list") (bi .list) := by
  refine CallD.of (call_list_of.or (call_listD hc)) ?_
  intro G θ Hd M ds d xs H Q R rs hg q
  obtain ⟨x, v, rfl, rfl, r, hg⟩ := one_of rs hg
  cases x <;> simp only [seqD?, reduceCtorEq] at hg
  · cases hg
    cases r with | tup h1 r1 =>
    refine .inl ⟨_, _, rfl, .inr (sqT_mono R.base h1), fun p hp => ?_⟩
    obtain ⟨R2, E2⟩ := R.data hp (.lst _)
    exact q _ _ _ E2 R2 (.lst (.of upd_same) (r1.up E2))
  · cases hg
    cases r with | lst h1 r1 =>
    refine .inl ⟨_, _, rfl, .inl (sqL_mono R.base h1), fun p hp => ?_⟩
    obtain ⟨R2, E2⟩ := R.data hp (.lst _)
    exact q _ _ _ E2 R2 (.lst (.of upd_same) (r1.up E2))
  · split at hg <;> cases hg
    rename_i l hl
    split at hl <;> cases hl
    · rename_i hm
      obtain ⟨a, ys, rfl, h1, h2⟩ := seq_at R r hm
      refine .inl ⟨a, ys, rfl, .inl (.of h1), fun p hp => ?_⟩
      obtain ⟨R2, E2⟩ := R.data hp (.lst _)
      exact q _ _ _ E2 R2 (.lst (.of upd_same) (h2.up E2))
    · rename_i kvs hm
      obtain ⟨a, u, rfl, _, h1, h2⟩ := mem_at R r hm (by intro z; cases z)
      cases u <;> first | exact h2.elim | skip
      rename_i kv
      refine .inr ⟨a, kv, rfl, .inl h1, fun p hp => ?_⟩
      obtain ⟨R2, E2⟩ := R.data hp (.lst _)
      refine q _ _ _ E2 R2 (.lst (.of upd_same) ?_)
      have e1 : (kv.map fun kv => kV kv.1) = (kv.map (·.1)).map kV := by rw [List.map_map]; rfl
      have e2 : (kvs.map fun p => keyD p.1) = (kvs.map (·.1)).map keyD := by rw [List.map_map]; rfl
      rw [e1, e2, h2.1]
      exact reps_keys
/-- a new list that is mutable -/
theorem RM.newLst {K : PySem.W.Frag} {G : Gd} {θ : Th} {Hd : Hp} {M : Mem} {H : Hp} {p : Addr} {xs : List V} {l : List D} (R : RG K A G θ Hd M H) (hp : H p = none) (r : Reps K A Hd θ xs l) :
    ∃ θ', Ext θ Hd θ' Hd ∧ RG K A G θ' Hd (M ++ [.lst l]) (upd H p (.lst xs)) ∧ Rep K A Hd θ' (.ref p) (.ref M.length) := by
  have nt : ∀ n, θ n ≠ some p := fun n e => R.liv n p e hp
  have E0 : Ext θ Hd (th θ M.length p) Hd := ⟨Same.refl _, fun n a e => by unfold th; rw [if_neg (Nat.ne_of_lt (R.top n a e))]; exact e⟩
  obtain ⟨R2, E2⟩ := (R.junk hp (.lst xs)).box (o := .lst l) upd_same (R.dnone hp) (R.dom p hp) nt (r.up E0)
  exact ⟨_, E2, R2, .ref (by unfold th; rw [if_pos rfl])⟩
def rNB (K : PySem.W.Frag) (A : We) (g : List D → Mem → Option D) : List V → Hp → VK → Prop := fun xs H Q => ∃ G θ Hd M ds l, RG K A G θ Hd M H ∧ Reps K A Hd θ xs ds ∧ g ds M = some (.lst l) ∧
  ∀ v H' θ', Ext θ Hd θ' Hd → RG K A G θ' Hd (M ++ [.lst l]) H' → Rep K A Hd θ' v (.ref M.length) → Q v H'
theorem cb_list (hc : X.calm = true) : CallR X (.type "list") (rNB X.K A (bi .list)) := by
  refine CallR.imp (call_list_of.or (call_listD hc)) ?_
  rintro xs H Q ⟨G, θ, Hd, M, ds, l0, R, rs, hg, q⟩
  obtain ⟨x, v, rfl, rfl, r, hg⟩ := one_of rs hg
  cases x <;> simp only [seqD?, reduceCtorEq] at hg
  · cases hg
    cases r with | tup h1 r1 =>
    refine .inl ⟨_, _, rfl, .inr (sqT_mono R.base h1), fun p hp => ?_⟩
    obtain ⟨θ', E2, R2, r2⟩ := RM.newLst R hp r1
    exact q _ _ _ E2 R2 r2
  · cases hg
    cases r with | lst h1 r1 =>
    refine .inl ⟨_, _, rfl, .inl (sqL_mono R.base h1), fun p hp => ?_⟩
    obtain ⟨θ', E2, R2, r2⟩ := RM.newLst R hp r1
    exact q _ _ _ E2 R2 r2
  · split at hg <;> cases hg
    rename_i hl
    split at hl <;> cases hl
    · rename_i hm
      obtain ⟨a, ys, rfl, h1, h2⟩ := seq_at R r hm
      refine .inl ⟨a, ys, rfl, .inl (.of h1), fun p hp => ?_⟩
      obtain ⟨θ', E2, R2, r2⟩ := RM.newLst R hp h2
      exact q _ _ _ E2 R2 r2
    · rename_i kvs hm
      obtain ⟨a, u, rfl, _, h1, h2⟩ := mem_at R r hm (by intro z; cases z)
      cases u <;> first | exact h2.elim | skip
      rename_i kv
      refine .inr ⟨a, kv, rfl, .inl h1, fun p hp => ?_⟩
      have e1 : (kv.map fun kv => kV kv.1) = (kv.map (·.1)).map kV := by rw [List.map_map]; rfl
      have e2 : (kvs.map fun p => keyD p.1) = (kvs.map (·.1)).map keyD := by rw [List.map_map]; rfl
      have rr : Reps X.K A Hd θ (kv.map fun kv => kV kv.1) (kvs.map fun p => keyD p.1) := by
        rw [e1, e2, h2.1]
        exact reps_keys
      obtain ⟨θ', E2, R2, r2⟩ := RM.newLst R hp rr
      exact q _ _ _ E2 R2 r2
theorem ev_boxlist : eval C (.box (.bi .list cs)) = fun ε M => (evals C cs ε M).bind fun ds M => match bi .list ds M with | some (.lst l) => some (.ok (.ref M.length) (M ++ [.lst l])) | _ => none := by
  funext ε M
  simp only [eval]
  rcases evals C cs ε M with _ | ⟨ds, M1⟩ | ⟨c, M1⟩ <;> try rfl
  simp only [bind_ok]
  cases h : bi .list ds M1 with
  | none => rfl
  | some d => cases d <;> rfl
/-- list(x) that is mutable -/
theorem de_boxlist {p : Pos} (hc : X.calm = true) (hm : X.mg "list" = none) (ha : DA X A C W (e :: es) cs) (hg : Gl X "list" := by rfl)
    (he : starEach (e :: es) X.env = (false, PySem.eval e X.env) :: starEach es X.env := by rfl) (hpl : (backTo pos (starEach es X.env)).any (·.1) = false := by rfl) : DE X A C W (.Call (.Name "list" p) (e :: es) [] pos) (.box (.bi .list cs)) := by
  refine PE.imp (pe_callTy (cb_list (A := A) hc) hg hm (by decide +kernel) ha (by decide) (by decide) he hpl) fun σ H Q h => ?_
  unfold tE at h
  rw [ev_boxlist] at h
  obtain ⟨G, θ, Hd, ε, M, S, R, p⟩ := tD.next (rel := rVs X.K A) h
  refine ⟨G, θ, Hd, ε, M, S, R, p.mono ?_⟩
  rintro vs H1 ⟨G1, θ1, Hd1, ε1, M0, M1, ds, e1, S1, R1, r1, p1⟩
  cases hg : bi .list ds M1 with
  | none => rw [hg] at p1; exact p1.elim
  | some w =>
    rw [hg] at p1
    cases w <;> try exact p1.elim
    exact ⟨G1, θ1, Hd1, M1, ds, _, R1, r1, hg, fun v H' θ' E R r => (p1.up E).ok R r⟩

/-! ### sorted -/
def rSortD (K : PySem.W.Frag) : List V → Hp → VK → Prop := fun xs H Q => ∃ (a : Addr) (ys : List V) (pds : List PyData), xs = [.ref a] ∧ SqL K H a ys ∧ DpAll K H ys pds ∧ PySem.W.AllAlike pds ∧ PySem.W.Sortable pds ∧ (∀ p ∈ pds, p.depth ≤ 60) ∧
  ∀ p, H p = none → Q (.ref p) (upd H p (.lst (((ys.zip pds).mergeSort (PySem.W.dataLe false fun z => z.2)).map (·.1))))
theorem each_of {R : Value → V × PyData → Prop} : ∀ {us : List Value} {ys : List V} {pds : List PyData}, us.length = ys.length → ys.length = pds.length → (∀ (i : Nat) (u : Value) (y : V) (p : PyData), us[i]? = some u → ys[i]? = some y → pds[i]? = some p → R u (y, p)) → PySem.W.EachIs R us (ys.zip pds)
  | [], [], [], _, _, _ => .nil
  | u :: us, y :: ys, p :: pds, h1, h2, h => by
    simp only [List.length_cons, Nat.add_right_cancel_iff] at h1 h2
    exact .cons (h 0 u y p rfl rfl rfl) (each_of h1 h2 fun i u y p e1 e2 e3 => h (i + 1) u y p (by simpa using e1) (by simpa using e2) (by simpa using e3))
  | [], _ :: _, _, h1, _, _ => by simp at h1
  | _ :: _, [], _, h1, _, _ => by simp at h1
  | [], [], _ :: _, _, h2, _ => by simp at h2
  | _ :: _, _ :: _, [], _, h2, _ => by simp at h2
theorem dpAll_length {K : PySem.W.Frag} {H : Hp} : ∀ {ys : List V} {pds : List PyData}, DpAll K H ys pds → ys.length = pds.length
  | _, _, .nil => rfl
  | _, _, .cons _ t => congrArg (· + 1) (dpAll_length t)
theorem readsAll_at {h : Heap} : ∀ {us : List Value} {pds : List PyData} {as : List Addr}, ReadsAll h us pds as → ∀ {i : Nat} {u : Value} {p : PyData}, us[i]? = some u → pds[i]? = some p → ∃ as, Reads h u p as
  | _, _, _, .nil, _, _, _, e, _ => by simp at e
  | _, _, _, .cons r t, 0, u, p, e1, e2 => by
    simp at e1 e2; subst e1; subst e2
    exact ⟨_, r⟩
  | _, _, _, .cons r t, i + 1, u, p, e1, e2 => readsAll_at t (by simpa using e1) (by simpa using e2)
theorem vals_each : ∀ {us : List Value} {zs : List (V × PyData)}, PySem.W.EachIs (fun u (z : V × PyData) => RelV z.1 u) us zs → Vals (zs.map (·.1)) us
  | _, _, .nil => .nil
  | _, _, .cons r t => .cons r (vals_each t)
theorem op_sortedR (hu : X.A.units + 70 < cLine) : CallR X (.builtin "sorted") (rSortD X.K) := by
  intro pins s σ H xs us Q I r h
  obtain ⟨a, ys, pds, rfl, hL, dp, al, so, dep, q⟩ := h
  rw [Vals.ref1 r]
  obtain ⟨its, rv, pl, hz⟩ := I.list hL
  obtain ⟨as, ra⟩ := Dp.readsAll I pds ys its dp rv
  have l1 := rv.length
  have l2 := dpAll_length dp
  have em : (ys.zip pds).map (fun z => z.2) = pds := List.map_snd_zip (by omega)
  have e1 : PySem.W.EachIs (fun u (z : V × PyData) => RelV z.1 u) its (ys.zip pds) := each_of l1.symm l2 fun i u y p h1 h2 _ => by
    obtain ⟨w, hw, rw'⟩ := rv.get h2
    rw [h1] at hw; cases hw
    exact rw'
  have e2 : PySem.W.EachIs (fun u (z : V × PyData) => ∃ as, Reads s.heap u z.2 as) its (ys.zip pds) := each_of l1.symm l2 fun i u y p h1 _ h3 => readsAll_at ra h1 h3
  have hzl : (ys.zip pds).length = ys.length := by rw [List.length_zip]; omega
  refine PySem.W.sorted_data (enc := fun z : V × PyData => z.2) pl.isList e1 e2 (by rw [em]; exact al) (by rw [em]; exact so) (by rw [hzl]; exact hz) (fun b hb => ?_) fun out ho he => ?_
  · have : b.2 ∈ pds := by rw [← em]; exact List.mem_map.mpr ⟨b, hb, rfl⟩
    have := dep _ this
    omega
  · obtain ⟨ep, he'⟩ := PyProof.Rows.sortedAll_at s.heap its out.toArray
    have v := vals_each he
    refine ⟨.ref _, upd H (s.heap.objs.size + 1) (.lst _), I.laid (t' := s.toks) (fun _ _ => PyProof.Rows.sortedAll_old) (Nat.le_succ _) ⟨?_, out, ep, v, by simpa using he'⟩, rfl, q _ (I.hok.fresh (Nat.le_succ _))⟩
    rw [v.length, ho, hzl]; exact hz
theorem dataLt_lex (ns ms : List Int) : PySem.W.dataLt (.tuple (ns.map .int)) (.tuple (ms.map .int)) = HT.lexLt ns ms := by
  have e : PySem.W.dataLt (.tuple (ns.map .int)) (.tuple (ms.map .int)) = PySem.W.rowLt (ns.map .int) (ms.map .int) := by
    rfl
  rw [e, PySem.W.dataLt_ints]
  clear e
  induction ns generalizing ms with
  | nil => cases ms <;> simp [HT.lexLt]
  | cons x xs ih =>
    cases ms with
    | nil => simp [HT.lexLt]
    | cons y ys =>
      rw [HT.lexLt_cons]
      by_cases h : x = y
      · subst h
        rw [if_pos rfl, ← ih]
        simp
      · rw [if_neg h]
        simp [List.cons_lt_cons_iff, h]
theorem shape_cases {x y : D} (h : sameShape x y = true) : (∃ i j, x = .int i ∧ y = .int j) ∨ ∃ n ns m ms, x = .tup ((n :: ns).map D.int) ∧ y = .tup ((m :: ms).map D.int) ∧ ns.length = ms.length := by
  cases x <;> cases y <;> simp only [sameShape, Bool.and_eq_true, beq_iff_eq, reduceCtorEq] at h
  · exact .inl ⟨_, _, rfl, rfl⟩
  · rename_i a b
    obtain ⟨⟨⟨h1, h2⟩, h3⟩, h4⟩ := h
    obtain ⟨na, ha⟩ := Option.isSome_iff_exists.mp h2
    obtain ⟨nb, hb⟩ := Option.isSome_iff_exists.mp h3
    have ea := ints_some ha
    have eb := ints_some hb
    subst ea eb
    rw [List.length_map, List.length_map] at h1
    cases na with
    | nil => simp at h4
    | cons n ns =>
      cases nb with
      | nil => simp at h1
      | cons m ms => exact .inr ⟨n, ns, m, ms, rfl, rfl, by simpa using h1⟩
theorem toPys_ints : ∀ ns : List Int, toPys (ns.map D.int) = ns.map PyData.int
  | [] => rfl
  | n :: ns => by rw [List.map_cons, List.map_cons, toPys, toPys_ints ns, toPy]
theorem sortKey_tup (ns : List Int) : sortKey (.tup (ns.map D.int)) = ns := by
  have h : ∀ ns : List Int, ints? (ns.map D.int) = some ns := fun ns => by
    induction ns with
    | nil => rfl
    | cons n ns ih => rw [List.map_cons, ints?, ih]
  simp only [sortKey, intList?, h]
theorem shape_lt {x y : D} (h : sameShape x y = true) : PySem.W.dataLt (toPy x) (toPy y) = HT.lexLt (sortKey x) (sortKey y) := by
  rcases shape_cases h with ⟨i, j, rfl, rfl⟩ | ⟨n, ns, m, ms, rfl, rfl, _⟩
  · have e := congrFun (congrFun (PySem.W.dataLe_int (fun z : Int => z)) j) i
    rw [PySem.W.dataLe_eq] at e
    simp only [cond] at e
    show PySem.W.dataLt (.int i) (.int j) = HT.lexLt [i] [j]
    rw [HT.lexLt_cons]
    have e2 : PySem.W.dataLt (.int i) (.int j) = decide (i < j) := by
      have := congrArg Bool.not e
      simp only [Bool.not_not] at this
      rw [this]
      by_cases c : i < j <;> simp [c] <;> omega
    rw [e2]
    by_cases c : i = j
    · subst c; rw [if_pos rfl]; simp [HT.lexLt]
    · rw [if_neg c]
  · rw [sortKey_tup, sortKey_tup]
    simp only [toPy, toPys_ints]
    exact dataLt_lex _ _

theorem shape_trans {d x y : D} (h1 : sameShape d x = true) (h2 : sameShape d y = true) : sameShape x y = true := by
  rcases shape_cases h1 with ⟨i, j, rfl, rfl⟩ | ⟨n, ns, m, ms, rfl, rfl, e⟩
  · rcases shape_cases h2 with ⟨i', j', _, rfl⟩ | ⟨n', ns', m', ms', z, _⟩
    · rfl
    · cases z
  · rcases shape_cases h2 with ⟨i', j', z, _⟩ | ⟨n', ns', m', ms', z, rfl, e'⟩
    · cases z
    · have hl : ns.length = ns'.length := by
        have := congrArg (fun d => match d with | D.tup l => l.length | _ => 0) z
        simpa using this
      have si : ∀ l : List Int, (ints? (l.map D.int)).isSome = true := fun l => by
        induction l with
        | nil => rfl
        | cons a l ih =>
          obtain ⟨r, hr⟩ := Option.isSome_iff_exists.mp ih
          rw [List.map_cons, ints?, hr]; rfl
      simp only [sameShape, si, Bool.and_true, List.length_map, List.length_cons, Bool.and_eq_true, beq_iff_eq]
      refine ⟨by omega, rfl⟩
theorem shape_alike {x y : D} (h : sameShape x y = true) : PySem.W.alike (toPy x) (toPy y) = true := by
  rcases shape_cases h with ⟨i, j, rfl, rfl⟩ | ⟨n, ns, m, ms, rfl, rfl, e⟩
  · rfl
  · simp only [toPy, toPys_ints, PySem.W.alike]
    exact PySem.W.alike_ints _ _
theorem shape_flat {d x : D} (h : sameShape d x = true) : flat 60 x = true := by
  have fi : ∀ l : List Int, flats 59 (l.map D.int) = true := fun l => by
    induction l with
    | nil => rfl
    | cons a l ih => rw [List.map_cons, flats, ih]; rfl
  rcases shape_cases h with ⟨i, j, rfl, rfl⟩ | ⟨n, ns, m, ms, rfl, rfl, e⟩
  · rfl
  · rw [flat]; exact fi _
theorem toPys_mem {p : PyData} : ∀ {ds : List D}, p ∈ toPys ds → ∃ d ∈ ds, p = toPy d
  | d :: ds, h => by
    rw [toPys] at h
    rcases List.mem_cons.mp h with e | h
    · exact ⟨d, List.mem_cons_self .., e⟩
    · obtain ⟨d', hd, e⟩ := toPys_mem h
      exact ⟨d', List.mem_cons_of_mem _ hd, e⟩
theorem flats_all : ∀ {n : Nat} {ds : List D}, (∀ d ∈ ds, flat n d = true) → flats n ds = true
  | _, [], _ => rfl
  | n, d :: ds, h => by rw [flats, h d (List.mem_cons_self ..), flats_all fun e he => h e (List.mem_cons_of_mem _ he)]; rfl
theorem reps_each {K : PySem.W.Frag} {Hd : Hp} {θ : Th} : ∀ {vs : List V} {ds : List D}, Reps K A Hd θ vs ds → PySem.W.EachIs (fun (z : V × PyData) d => Rep K A Hd θ z.1 d ∧ z.2 = toPy d) (vs.zip (toPys ds)) ds
  | _, _, .nil => .nil
  | _, _, .cons r t => .cons ⟨r, rfl⟩ (reps_each t)
theorem each_reps {K : PySem.W.Frag} {Hd : Hp} {θ : Th} : ∀ {zs : List (V × PyData)} {ds : List D}, PySem.W.EachIs (fun (z : V × PyData) d => Rep K A Hd θ z.1 d ∧ z.2 = toPy d) zs ds → Reps K A Hd θ (zs.map (·.1)) ds
  | _, _, .nil => .nil
  | _, _, .cons r t => .cons r.1 (each_reps t)
theorem each_zip {α β : Type} {R : α → β → Prop} : ∀ {as : List α} {bs : List β}, PySem.W.EachIs R as bs → ∀ p ∈ as.zip bs, R p.1 p.2
  | _, _, .nil, _, h => by simp at h
  | _, _, .cons r t, p, h => by
    rw [List.zip_cons_cons] at h
    rcases List.mem_cons.mp h with e | h
    · subst e; exact r
    · exact each_zip t p h
theorem sortD_shape {l r : List D} (h : sortD l = some r) : r = l.mergeSort notAfter ∧ ∀ x ∈ l, ∀ y ∈ l, sameShape x y = true := by
  cases l with
  | nil => simp only [sortD] at h; cases h; exact ⟨by simp, fun x hx => by simp at hx⟩
  | cons d t =>
    simp only [sortD] at h
    split at h <;> cases h
    rename_i hc
    rw [List.all_eq_true] at hc
    exact ⟨rfl, fun x hx y hy => shape_trans (hc x hx) (hc y hy)⟩
theorem rsort_of {K : PySem.W.Frag} {G : Gd} {θ : Th} {Hd : Hp} {M : Mem} {H : Hp} {a : Addr} {ys : List V} {l r : List D} {Q : VK} (R : RG K A G θ Hd M H) (hL : SqL K H a ys) (hr : Reps K A Hd θ ys l) (h : sortD l = some r)
    (q : ∀ v H' Hd', Ext θ Hd θ Hd' → RG K A G θ Hd' M H' → Rep K A Hd' θ v (.lst r) → Q v H') : rSortD K [.ref a] H Q := by
  obtain ⟨rfl, hs⟩ := sortD_shape h
  have hf : ∀ d ∈ l, flat 60 d = true := fun d hd => shape_flat (hs d hd d hd)
  refine ⟨a, ys, toPys l, rfl, hL, Reps.dp R.base 60 l ys (flats_all hf) hr, ?_, ?_, ?_, fun p hp => ?_⟩
  · intro d hd d' hd'
    obtain ⟨x, hx, rfl⟩ := toPys_mem hd
    obtain ⟨y, hy, rfl⟩ := toPys_mem hd'
    exact shape_alike (hs x hx y hy)
  · cases l with
    | nil => exact .inl fun d hd => by simp [toPys] at hd
    | cons x t =>
      rcases shape_cases (hs x (List.mem_cons_self ..) x (List.mem_cons_self ..)) with ⟨i, j, e, _⟩ | ⟨n, ns, m, ms, e, _, _⟩
      · refine .inr fun d hd => ?_
        obtain ⟨y, hy, rfl⟩ := toPys_mem hd
        rcases shape_cases (hs x (List.mem_cons_self ..) y hy) with ⟨i, j, _, rfl⟩ | ⟨n, ns, m, ms, e', _, _⟩
        · exact ⟨(fun z => nomatch z), (fun xs z => nomatch z)⟩
        · rw [e] at e'; cases e'
      · refine .inl fun d hd => ?_
        obtain ⟨y, hy, rfl⟩ := toPys_mem hd
        rcases shape_cases (hs x (List.mem_cons_self ..) y hy) with ⟨i, j, e', _⟩ | ⟨n, ns, m, ms, e', rfl, _⟩
        · rw [e] at e'; cases e'
        · exact ⟨.int m, toPys (ms.map D.int), rfl⟩
  · intro p hp
    obtain ⟨x, hx, rfl⟩ := toPys_mem hp
    exact flat_depth 60 x (hf x hx)
  · obtain ⟨R2, E2⟩ := R.data hp (.lst (((ys.zip (toPys l)).mergeSort (PySem.W.dataLe false fun z => z.2)).map (·.1)))
    refine q _ _ _ E2 R2 (.lst (.of upd_same) (each_reps (PySem.W.sort_each (reps_each (hr.up E2)) fun p hp q hq => ?_)))
    have ep := each_zip (reps_each (hr.up E2)) p hp
    have eq := each_zip (reps_each (hr.up E2)) q hq
    have mp : p.2 ∈ l := (List.of_mem_zip hp).2
    have mq : q.2 ∈ l := (List.of_mem_zip hq).2
    rw [PySem.W.dataLe_eq]
    show (!PySem.W.dataLt q.1.2 p.1.2) = !HT.lexLt (sortKey q.2) (sortKey p.2)
    rw [ep.2, eq.2, shape_lt (hs _ mq _ mp)]
theorem cd_sorted (hu : X.A.units + 70 < cLine) (hc : X.calm = true) : CallD X A (.builtin "sorted") (bi .sorted) := by
  refine CallD.of ((op_sortedR hu).or (call_sortedDI hc)) ?_
  intro G θ Hd M ds d xs H Q R rs hg q
  obtain ⟨x, v, rfl, rfl, r, hg⟩ := one_of rs hg
  cases hx : seqL? x M with
  | some l =>
    rw [hx] at hg
    simp only at hg
    split at hg <;> cases hg
    rename_i so hso
    obtain ⟨a, ys, rfl, h1, h2⟩ := seqL_at R r hx
    exact .inl (rsort_of R h1 h2 hso q)
  | none =>
    rw [hx] at hg
    simp only at hg
    split at hg <;> try (cases hg; done)
    rename_i ks hk
    split at hg <;> cases hg
    rename_i h64
    cases x <;> simp only [keys?, reduceCtorEq] at hk
    split at hk <;> try (cases hk; done)
    rename_i kvs hm
    obtain ⟨a, u, rfl, _, h1, h2⟩ := mem_at R r hm (by intro z; cases z)
    cases u <;> first | exact h2.elim | skip
    rename_i kv
    have e := ints_some hk
    have e3 : kv.map (·.1) = ks.map Sum.inl := by
      rw [h2.1]
      have : (kvs.map (·.1)).map keyD = (ks.map Sum.inl).map keyD := by
        rw [List.map_map, List.map_map]
        exact e
      refine List.map_inj_right (f := keyD) (fun x y h => ?_) |>.mp this
      cases x <;> cases y <;> simp [keyD] at h <;> rw [h]
    refine .inr ⟨a, kv, ks, rfl, .inl h1, e3, h64, fun ys p hp hs hn => ?_⟩
    obtain ⟨R2, E2⟩ := R.data hn (.lst (ys.map V.int))
    have e4 : ys = ks.mergeSort fun a b => decide (a ≤ b) := by
      refine List.Perm.eq_of_pairwise (le := fun a b : Int => a ≤ b) (fun a b _ _ h1 h2 => Int.le_antisymm h1 h2) hs ?_ (hp.trans (List.mergeSort_perm _ _).symm)
      have := List.pairwise_mergeSort (le := fun a b : Int => decide (a ≤ b)) (fun a b c h1 h2 => by simp at *; omega) (fun a b => by simp; omega) ks
      simpa using this
    have rep : ∀ l : List Int, Reps X.K A (upd Hd p (.lst (ys.map V.int))) θ (l.map V.int) (l.map D.int) := fun l => by
      induction l with
      | nil => exact .nil
      | cons a l ih => exact .cons (.int _) ih
    refine q _ _ _ E2 R2 (.lst (.of upd_same) ?_)
    rw [← e4]
    exact rep ys
end
end Dw
/-! Dw8: isinstance, methods of lists and dicts, what is walked, comprehensions. -/
namespace Dw
open PySem L2 PyProof.Rows MeetsSeq
section
variable {X : Cx} {A : We} {C : Cfg} {W : WX} {a b c e : Expr} {ca cb cc ce : E} {pos : Pos} {es : List Expr} {cs : List E}

/-! ### isinstance of plain data -/
def Ty.name : Ty → String
  | .int => "int"
  | .bool => "bool"
  | .str => "str"
  | .tuple => "tuple"
  | .list => "list"
theorem tyx_of {G : Gd} {θ : Th} {Hd : Hp} {M : Mem} {H : Hp} {d : D} {v : V} {t : Ty} {b : Bool} (R : RG X.K A G θ Hd M H) (r : Rep X.K A Hd θ v d) (h : isTy t d = some b) : ∃ n : String, TyX X.K H v (.type n) ∧ PySem.W.kitOne X.K (.type n) (.type t.name) = some b := by
  have fin : ∀ (n : String), (∀ t, ∃ b, isTy t d = some b ∧ kitB n t.name = some b) → TyX X.K H v (.type n) → ∃ n : String, TyX X.K H v (.type n) ∧ PySem.W.kitOne X.K (.type n) (.type t.name) = some b := fun n hk hv => by
    obtain ⟨b', h1, h2⟩ := hk t
    rw [h] at h1; cases h1
    exact ⟨n, hv, kit_ty h2⟩
  cases d
  · cases r; exact fin "NoneType" (fun t => by cases t <;> exact ⟨_, rfl, by decide +kernel⟩) (.base .non)
  · cases r; exact fin "bool" (fun t => by cases t <;> exact ⟨_, rfl, by decide +kernel⟩) (.base (.bl _))
  · cases r; exact fin "int" (fun t => by cases t <;> exact ⟨_, rfl, by decide +kernel⟩) (.base (.int _))
  · cases r; exact fin "str" (fun t => by cases t <;> exact ⟨_, rfl, by decide +kernel⟩) (.base (.str _))
  · cases r with | tup h1 r1 =>
    refine fin "tuple" (fun t => by cases t <;> exact ⟨_, rfl, by decide +kernel⟩) ?_
    rcases sqT_mono R.base h1 with (h | ⟨o, h⟩) | ⟨o, its, n, k1, k2, _⟩
    · exact .base (.tup h)
    · exact .fTuple h
    · exact .kTuple k1 k2
  · cases r with | lst h1 r1 =>
    refine fin "list" (fun t => by cases t <;> exact ⟨_, rfl, by decide +kernel⟩) ?_
    rcases sqL_mono R.base h1 with (h | ⟨o, h⟩) | ⟨o, its, n, k1, k2, _⟩
    · exact .base (.lst h)
    · exact .base (.frz h)
    · exact .kList k1 k2
  · cases t <;> simp [isTy] at h
  · cases t <;> simp [isTy] at h
theorem de_isinst {t : Ty} {T : Str} {p pT : Pos} (hm : X.mg "isinstance" = none) (hT : X.mg T = none) (hb : bootBuiltins T = some (.type t.name)) (ha : DE X A C W a ca)
    (hg : Gl X "isinstance" := by rfl) (hgT : Gl X T := by rfl) (hnT : T ≠ "__name__" := by decide) (hdT : (T == ("__debug__" : Str)) = false := by decide)
    (hs : starEach [a, .Name T pT] X.env = (false, PySem.eval a X.env) :: starEach [.Name T pT] X.env := by rfl) (hpl : (backTo pos (starEach [.Name T pT] X.env)).any (·.1) = false := by rfl) :
    DE X A C W (.Call (.Name "isinstance" p) [a, .Name T pT] [] pos) (.bi (.isinst t) [ca]) := by
  refine PE.imp (pe_callB call_isi hg hm PyProof.Rows.boot_isinstance (pa_cons ha (pa_cons (pe_bltn (v := .ty t.name) hgT hT hb rfl hnT hdT) pa_nil) hs) (by decide) (by decide) hs hpl) fun σ H Q h => ?_
  have e : eval C (.bi (.isinst t) [ca]) = fun ε M => (eval C ca ε M).bind fun x M => opt (match isTy t x with | some b => some (.bl b) | none => none) M := by
    funext ε M
    simp only [eval, evals]
    rcases eval C ca ε M with _ | ⟨x, M1⟩ | ⟨c, M1⟩ <;> rfl
  unfold tE at h
  rw [e] at h
  obtain ⟨G, θ, Hd, ε, M, S, R, p⟩ := tD.one (g := fun x _ => match isTy t x with | some b => some (.bl b) | none => none) h
  refine ⟨G, θ, Hd, ε, M, S, R, p.mono ?_⟩
  rintro v H1 ⟨G, θ, Hd, M, d, w, R, r, hg, q⟩
  split at hg <;> cases hg
  rename_i b hb
  obtain ⟨n, h1, h2⟩ := tyx_of R r hb
  exact ⟨v, _, _, _, b, rfl, .ty _, h1, h2, q _ _ _ (Ext.refl _ _) R (.bl _)⟩

/-! ### methods of lists and dicts -/
theorem rd_lst {Hd H : Hp} {θ : Th} {K : PySem.W.Frag} {a : Addr} {xs : List V} {ds : List D} (s0 : Same Hd H) (h : Rd Hd a (.lst xs)) : Rd H a (.lst xs) := rd_mono s0 h
def rExtR (K : PySem.W.Frag) : V → List V → Hp → VK → Prop := fun x vs H Q => ∃ l b xs zs, x = .ref l ∧ vs = [.ref b] ∧ H l = some (.lst xs) ∧ SqL K H b zs ∧ xs.length + zs.length ≤ sizeLine ∧ Q .non (upd H l (.lst (xs ++ zs)))
theorem list_extend_lst (l : Addr) (items : Array Value) (n : Nat) (b : Addr) (items2 : Array Value) (n2 : Nat) (dd : Option Addr) (sl : Array (Option Value)) (hs0 : ¬(!items.isEmpty && Builtin.List.listTooLong (items.size + items2.size)) = true) (hs1 : items.size ≤ sizeLine) (hs2 : items.size + items2.size ≤ sizeLine + 1) :
    Meets (Builtin.«list.extend» ⟨[.ref l, .ref b], []⟩) (fun _ R s => s.heap.get? l = some { cls := .type "list", dict := none, data := .seq items n, slots := #[] } ∧ s.heap.get? b = some { cls := .type "list", dict := dd, data := .seq items2 n2, slots := sl } ∧ R (.ok (.ret Value.none)) { s with heap := s.heap.update l (Obj.mapSeq fun x => x ++ items2), toks := s.toks }) :=
  .of_wp fun prog w A R s h => by
    obtain ⟨hp, g, d, tk, os⟩ := s; obtain ⟨hl, hb, h⟩ := h; have f1 := AutoSeq1.idx_int; have f2 := AutoSeq1.sub_tuple_tuple; have f3 := AutoSeq1.sub_list_list; have f4 := AutoSeq1.sub_tuple_list; have f5 := AutoSeq1.sub_list_tuple;
    have hz' : (items ++ items2).size ≤ sizeLine + 1 := by rw [Array.size_append]; exact hs2
    wp_walk using (wpAny_updateSeq hl rfl (hz := hs1) (_hz' := hz')), AutoSeq1.wpAny_loadPart' hl, AutoSeq1.wpAny_loadPart' hb; exact ⟨_, rfl, h⟩
theorem mt_extR : MtM X "list.extend" (rExtR X.K) := by
  intro pins s σ H x xs v us Q I rx rv h
  obtain ⟨l, b, xs, zs, rfl, rfl, hH, hB, hz, q⟩ := h
  cases rx
  obtain ⟨u, rfl, ru⟩ := rv.one
  cases ru
  obtain ⟨z, its, n, r, hl, e⟩ := I.lstM hH
  obtain ⟨its2, r2, ⟨o, n2, e2, hc, hd, hs⟩, z2⟩ := I.list hB
  have hl2 := r2.length
  obtain ⟨oc, od, dt, sl⟩ := o
  simp only at hc hd hs
  subst hc hd hs
  have hsz : its.toArray.size + its2.toArray.size ≤ sizeLine := by rw [List.size_toArray, List.size_toArray]; omega
  have hlong : ¬ (!its.toArray.isEmpty && Builtin.List.listTooLong (its.toArray.size + its2.toArray.size)) = true := by
    rw [notLongL hsz, Bool.and_false]
    exact Bool.false_ne_true
  refine call_meets F.slot_list_extend ⟨_, e, rfl⟩ F.entry_list_extend (F.args_list_extend_2 _ _)
    (list_extend_lst l its.toArray n b its2.toArray n2 none sl hlong (by rw [List.size_toArray]; omega) (by omega)) ⟨e, e2, ?_⟩
  refine ⟨.non, _, I.lset (its' := its ++ its2) hH e (by simp) (r.append r2) ?_, rfl, q⟩
  rw [List.length_append]
  omega

theorem list_extend_tup (l : Addr) (items : Array Value) (n : Nat) (b : Addr) (items2 : Array Value) (n2 : Nat) (dd : Option Addr) (sl : Array (Option Value)) (hs0 : ¬(!items.isEmpty && Builtin.List.listTooLong (items.size + items2.size)) = true) (hs1 : items.size ≤ sizeLine) (hs2 : items.size + items2.size ≤ sizeLine + 1) :
    Meets (Builtin.«list.extend» ⟨[.ref l, .ref b], []⟩) (fun _ R s => s.heap.get? l = some { cls := .type "list", dict := none, data := .seq items n, slots := #[] } ∧ s.heap.get? b = some { cls := .type "tuple", dict := dd, data := .seq items2 n2, slots := sl } ∧ R (.ok (.ret Value.none)) { s with heap := s.heap.update l (Obj.mapSeq fun x => x ++ items2), toks := s.toks }) :=
  .of_wp fun prog w A R s h => by
    obtain ⟨hp, g, d, tk, os⟩ := s; obtain ⟨hl, hb, h⟩ := h; have f1 := AutoSeq1.idx_int; have f2 := AutoSeq1.sub_tuple_tuple; have f3 := AutoSeq1.sub_list_list; have f4 := AutoSeq1.sub_tuple_list; have f5 := AutoSeq1.sub_list_tuple;
    have hz' : (items ++ items2).size ≤ sizeLine + 1 := by rw [Array.size_append]; exact hs2
    wp_walk using (wpAny_updateSeq hl rfl (hz := hs1) (_hz' := hz')), AutoSeq1.wpAny_loadPart' hl, AutoSeq1.wpAny_loadPart' hb; exact ⟨_, rfl, h⟩
def rExtT (K : PySem.W.Frag) : V → List V → Hp → VK → Prop := fun x vs H Q => ∃ l b xs zs, x = .ref l ∧ vs = [.ref b] ∧ H l = some (.lst xs) ∧ SqT K H b zs ∧ xs.length + zs.length ≤ sizeLine ∧ Q .non (upd H l (.lst (xs ++ zs)))
theorem mt_extT : MtM X "list.extend" (rExtT X.K) := by
  intro pins s σ H x vs v us Q I rx rv h
  obtain ⟨l, b, xs, zs, rfl, rfl, hH, hB, hz, q⟩ := h
  cases rx
  obtain ⟨u, rfl, ru⟩ := rv.one
  cases ru
  obtain ⟨z, its, n, r, hl, e⟩ := I.lstM hH
  obtain ⟨its2, r2, ⟨o, e2, hc, n2, hd⟩, z2⟩ := I.tuple hB
  have hl2 := r2.length
  obtain ⟨oc, od, dt, sl⟩ := o
  simp only at hc hd
  subst hc hd
  have hsz : its.toArray.size + its2.toArray.size ≤ sizeLine := by rw [List.size_toArray, List.size_toArray]; omega
  have hlong : ¬ (!its.toArray.isEmpty && Builtin.List.listTooLong (its.toArray.size + its2.toArray.size)) = true := by
    rw [notLongL hsz, Bool.and_false]
    exact Bool.false_ne_true
  refine call_meets F.slot_list_extend ⟨_, e, rfl⟩ F.entry_list_extend (F.args_list_extend_2 _ _)
    (list_extend_tup l its.toArray n b its2.toArray n2 od sl hlong (by rw [List.size_toArray]; omega) (by omega)) ⟨e, e2, ?_⟩
  refine ⟨.non, _, I.lset (its' := its ++ its2) hH e (by simp) (r.append r2) ?_, rfl, q⟩
  rw [List.length_append]
  omega

/-- a method by values: the memory may change -/
def rM (K : PySem.W.Frag) (A : We) (g : D → List D → Mem → Ev D) : V → List V → Hp → VK → Prop := fun x xs H Q => ∃ G θ Hd M dx ds d M', RG K A G θ Hd M H ∧ Rep K A Hd θ x dx ∧ Reps K A Hd θ xs ds ∧ g dx ds M = some (.ok d M') ∧
  ∀ v H' Hd', Ext θ Hd θ Hd' → RG K A G θ Hd' M' H' → Rep K A Hd' θ v d → Q v H'
abbrev MethD (X : Cx) (A : We) (id : String) (g : D → List D → Mem → Ev D) : Prop := MtR X id (rM X.K A g)
theorem MethD.of {id : String} {g : D → List D → Mem → Ev D} {r : V → List V → Hp → VK → Prop} (h : MtR X id r)
    (k : ∀ G θ Hd M dx ds d M' x xs H Q, RG X.K A G θ Hd M H → Rep X.K A Hd θ x dx → Reps X.K A Hd θ xs ds → g dx ds M = some (.ok d M') →
      (∀ v H' Hd', Ext θ Hd θ Hd' → RG X.K A G θ Hd' M' H' → Rep X.K A Hd' θ v d → Q v H') → r x xs H Q) : MethD X A id g :=
  fun pins s σ H x xs v us Q I rx rs ⟨G, θ, Hd, M, dx, ds, d, M', R, r1, r2, hg, q⟩ => h pins s σ H x xs v us Q I rx rs (k G θ Hd M dx ds d M' x xs H Q R r1 r2 hg q)
/-- a list that is changed -/
theorem lst_at {K : PySem.W.Frag} {G : Gd} {θ : Th} {Hd : Hp} {M : Mem} {H : Hp} {n : Nat} {l : List D} {v : V} (R : RG K A G θ Hd M H) (r : Rep K A Hd θ v (.ref n)) (hm : M[n]? = some (.lst l)) :
    ∃ a xs, v = .ref a ∧ θ n = some a ∧ H a = some (.lst xs) ∧ Reps K A Hd θ xs l := by
  obtain ⟨a, u, e, ht, h1, h2⟩ := mem_at R r hm (by intro z; cases z)
  cases u <;> first | exact h2.elim | exact ⟨a, _, e, ht, h1, h2⟩
theorem md_append : MethD X A "list.append" (bmR .append) := by
  refine MethD.of mt_append ?_
  intro G θ Hd M dx ds d M' x xs H Q R rx rs hg q
  cases dx <;> simp only [bmR, reduceCtorEq] at hg
  split at hg <;> try (cases hg; done)
  rename_i l d hm
  split at hg <;> cases hg
  rename_i hz
  obtain ⟨a, ys, rfl, ht, h1, h2⟩ := lst_at R rx hm
  obtain ⟨v, rfl, rv⟩ := rs.inv1
  refine ⟨a, ys, v, rfl, rfl, h1, by rw [h2.length]; exact hz, ?_⟩
  exact q _ _ _ (Ext.refl _ _) (R.write hm (by intro z; cases z) ht (u' := .lst (ys ++ [v])) (o' := .lst _) (h2.append (.cons rv .nil))) .non
theorem md_extend : MethD X A "list.extend" (bmR .extend) := by
  refine MethD.of (MtR.or mt_extR mt_extT) ?_
  intro G θ Hd M dx ds d M' x xs H Q R rx rs hg q
  cases dx <;> simp only [bmR, reduceCtorEq] at hg
  split at hg <;> try (cases hg; done)
  rename_i l d hm
  split at hg <;> try (cases hg; done)
  rename_i r hr
  split at hg <;> cases hg
  rename_i hz
  obtain ⟨a, ys, rfl, ht, h1, h2⟩ := lst_at R rx hm
  obtain ⟨v, rfl, rv⟩ := rs.inv1
  have fin : ∀ zs, Reps X.K A Hd θ zs r → Q .non (upd H a (.lst (ys ++ zs))) := fun zs hzs =>
    q _ _ _ (Ext.refl _ _) (R.write hm (by intro z; cases z) ht (u' := .lst (ys ++ zs)) (o' := .lst _) (h2.append hzs)) .non
  cases d <;> simp only [seq?, reduceCtorEq] at hr
  · cases hr
    cases rv with | tup k1 k2 =>
    exact .inr ⟨a, _, ys, _, rfl, rfl, h1, sqT_mono R.base k1, by rw [h2.length, k2.length]; exact hz, fin _ k2⟩
  · cases hr
    cases rv with | lst k1 k2 =>
    exact .inl ⟨a, _, ys, _, rfl, rfl, h1, sqL_mono R.base k1, by rw [h2.length, k2.length]; exact hz, fin _ k2⟩
  · split at hr <;> cases hr
    rename_i hm2
    obtain ⟨b, zs, rfl, k1, k2⟩ := seq_at R rv hm2
    exact .inl ⟨a, b, ys, zs, rfl, rfl, h1, .of k1, by rw [h2.length, k2.length]; exact hz, fin _ k2⟩
theorem md_pop : MethD X A "list.pop" (bmR .pop) := by
  refine MethD.of mt_pop ?_
  intro G θ Hd M dx ds d M' x xs H Q R rx rs hg q
  cases dx <;> simp only [bmR, reduceCtorEq] at hg
  split at hg <;> try (cases hg; done)
  rename_i l hm
  split at hg <;> cases hg
  rename_i hl
  obtain ⟨a, ys, rfl, ht, h1, h2⟩ := lst_at R rx hm
  cases rs
  rw [List.getLast?_eq_getElem?] at hl
  obtain ⟨v, e, rv⟩ := h2.get hl
  refine ⟨a, ys, v, rfl, rfl, h1, by rw [h2.length]; exact e, ?_⟩
  exact q _ _ _ (Ext.refl _ _) (R.write hm (by intro z; cases z) ht (u' := .lst ys.dropLast) (o' := .lst _) h2.dropLast) rv
theorem md_clear : MethD X A "list.clear" (bmR .clear) := by
  refine MethD.of mt_clear ?_
  intro G θ Hd M dx ds d M' x xs H Q R rx rs hg q
  cases dx <;> simp only [bmR, reduceCtorEq] at hg
  split at hg <;> cases hg
  rename_i l hm
  obtain ⟨a, ys, rfl, ht, h1, h2⟩ := lst_at R rx hm
  cases rs
  refine ⟨a, ys, rfl, rfl, h1, ?_⟩
  exact q _ _ _ (Ext.refl _ _) (R.write hm (by intro z; cases z) ht (u' := .lst []) (o' := .lst _) .nil) .non
theorem ev_bm {m : Bm} : eval C (.bm m ca cs) = fun ε M => (eval C ca ε M).bind fun x M => if bmTy m x M then (evals C cs ε M).bind fun ds M => bmR m x ds M else none := by funext ε M; simp only [eval] <;> rfl
theorem bmR_ref {m : Bm} {x : D} {ds : List D} {M : Mem} {r : Rs D} (h : bmR m x ds M = some r) : ∃ d M', r = .ok d M' := by
  cases x <;> simp only [bmR, reduceCtorEq] at h
  cases m <;> simp only at h <;> (repeat' split at h) <;> first | (cases h; exact ⟨_, _, rfl⟩) | cases h
/-- a method of a built-in with arguments -/
theorem de_bm {T : String} {m : Bm} {id : String} {name : Str} {apos : Pos} (pa : PlainAttrs T) (slot : Slot T name id) (hty : typeOf (.builtin id) = pure (.type "method_descriptor")) (hk : MethD X A id (bmR m))
    (ht : ∀ G θ Hd M H x v, RG X.K A G θ Hd M H → Rep X.K A Hd θ v x → bmTy m x M = true → tyV X.K T v H) (ho : DE X A C W a ca) (ha : DA X A C W (e :: es) cs)
    (hbase : attributeBase a name X.env (PySem.eval a X.env) = PySem.eval a X.env := by rfl)
    (hfew : ((backTo pos (starEach (e :: es) X.env)).all (fun x => !x.1) && (backToKw pos (keywordEach [] X.env)).all (fun x => x.1.isSome)
      && decide ((e :: es).length + ([] : List Keyword).length + (if ([] : List Keyword).isEmpty then 0 else 1) < 30)) = true := by rfl)
    (hline : (apos.endLine == pos.line) = true := by rfl) (hs : starEach (e :: es) X.env = (false, PySem.eval e X.env) :: starEach es X.env := by rfl) (hplain : (backTo pos (starEach es X.env)).any (·.1) = false := by rfl) :
    DE X A C W (.Call (.Attribute a name apos) (e :: es) [] pos) (.bm m ca cs) := by
  refine PE.imp (pe_bm pa slot hty hk ho ha hbase hfew hline hs hplain) fun σ H Q h => ?_
  unfold tE at h
  rw [ev_bm] at h
  obtain ⟨G, θ, Hd, ε, M, S, R, p⟩ := tD.next (rel := rV X.K A) h
  refine ⟨G, θ, Hd, ε, M, S, R, p.mono ?_⟩
  rintro v H1 ⟨G1, θ1, Hd1, ε1, M0, M1, d, e1, S1, R1, r1, p1⟩
  split at p1
  · rename_i hc
    refine ⟨ht _ _ _ _ _ _ _ R1 r1 hc, G1, θ1, Hd1, ε1, M1, S1, R1, p1.bind.mono ?_⟩
    rintro vs H2 ⟨θ2, Hd2, ds, M2, e2, E2, R2, r2, p2⟩
    cases hb : bmR m d ds M2 with
    | none => rw [hb] at p2; exact p2.elim
    | some w =>
      obtain ⟨d', M', rfl⟩ := bmR_ref hb
      rw [hb] at p2
      exact ⟨G1, θ2, Hd2, M2, d, ds, d', M', R2, r1.up E2, r2, hb, fun v H' Hd' E R r => (p2.up E).ok R r⟩
  · exact p1.elim
theorem de_bm0 {T : String} {m : Bm} {id : String} {name : Str} {apos : Pos} (pa : PlainAttrs T) (slot : Slot T name id) (hty : typeOf (.builtin id) = pure (.type "method_descriptor")) (hk : MethD X A id (bmR m))
    (ht : ∀ G θ Hd M H x v, RG X.K A G θ Hd M H → Rep X.K A Hd θ v x → bmTy m x M = true → tyV X.K T v H) (ho : DE X A C W a ca)
    (hbase : attributeBase a name X.env (PySem.eval a X.env) = PySem.eval a X.env := by rfl) (hline : (apos.endLine == pos.line) = true := by rfl) : DE X A C W (.Call (.Attribute a name apos) [] [] pos) (.bm m ca []) := by
  refine PE.imp (pe_bm0 pa slot hty hk ho hbase hline) fun σ H Q h => ?_
  have e : eval C (.bm m ca []) = fun ε M => (eval C ca ε M).bind fun x M => if bmTy m x M then bmR m x [] M else none := by funext ε M; simp only [eval, evals] <;> rfl
  unfold tE at h
  rw [e] at h
  obtain ⟨G, θ, Hd, ε, M, S, R, p⟩ := tD.next (rel := rV X.K A) h
  refine ⟨G, θ, Hd, ε, M, S, R, p.mono ?_⟩
  rintro v H1 ⟨G1, θ1, Hd1, ε1, M0, M1, d, e1, S1, R1, r1, p1⟩
  split at p1
  · rename_i hc
    refine ⟨ht _ _ _ _ _ _ _ R1 r1 hc, ?_⟩
    cases hb : bmR m d [] M1 with
    | none => rw [hb] at p1; exact p1.elim
    | some w =>
      obtain ⟨d', M', rfl⟩ := bmR_ref hb
      rw [hb] at p1
      exact ⟨G1, θ1, Hd1, M1, d, [], d', M', R1, r1, .nil, hb, fun v H' Hd' E R r => (p1.up E).ok R r⟩
  · exact p1.elim
theorem isLst_at {o : Option MO} (h : isLst o = true) : ∃ l, o = some (.lst l) := by
  cases o with
  | none => cases h
  | some o => cases o <;> first | exact ⟨_, rfl⟩ | cases h
theorem isDct_at {o : Option MO} (h : isDct o = true) : ∃ l, o = some (.dct l) := by
  cases o with
  | none => cases h
  | some o => cases o <;> first | exact ⟨_, rfl⟩ | cases h
theorem ty_lst {m : Bm} (hm : ∀ n M, bmTy m (.ref n) M = isLst M[n]?) {G : Gd} {θ : Th} {Hd : Hp} {M : Mem} {H : Hp} {x : D} {v : V} (R : RG X.K A G θ Hd M H) (r : Rep X.K A Hd θ v x) (h : bmTy m x M = true) : tyV X.K "list" v H := by
  cases x <;> try (cases m <;> simp [bmTy] at h; done)
  rw [hm] at h
  obtain ⟨l, hl⟩ := isLst_at h
  obtain ⟨a, xs, rfl, ht, h1, h2⟩ := lst_at R r hl
  exact Or.inl ⟨rfl, _, Or.inl (Or.inl h1)⟩
theorem de_append {apos : Pos} (ho : DE X A C W a ca) (ha : DA X A C W [e] cs) (hbase : attributeBase a "append" X.env (PySem.eval a X.env) = PySem.eval a X.env := by rfl)
    (hfew : ((backTo pos (starEach [e] X.env)).all (fun x => !x.1) && (backToKw pos (keywordEach [] X.env)).all (fun x => x.1.isSome)
      && decide ([e].length + ([] : List Keyword).length + (if ([] : List Keyword).isEmpty then 0 else 1) < 30)) = true := by rfl)
    (hline : (apos.endLine == pos.line) = true := by rfl) (hs : starEach [e] X.env = (false, PySem.eval e X.env) :: starEach [] X.env := by rfl) (hplain : (backTo pos (starEach [] X.env)).any (·.1) = false := by rfl) :
    DE X A C W (.Call (.Attribute a "append" apos) [e] [] pos) (.bm .append ca cs) :=
  de_bm PySem.F.plainAttrs_list PySem.F.slot_list_append PySem.F.type_list_append md_append (fun _ _ _ _ _ _ _ R r h => ty_lst (fun _ _ => rfl) R r h) ho ha hbase hfew hline hs hplain
theorem de_extend {apos : Pos} (ho : DE X A C W a ca) (ha : DA X A C W [e] cs) (hbase : attributeBase a "extend" X.env (PySem.eval a X.env) = PySem.eval a X.env := by rfl)
    (hfew : ((backTo pos (starEach [e] X.env)).all (fun x => !x.1) && (backToKw pos (keywordEach [] X.env)).all (fun x => x.1.isSome)
      && decide ([e].length + ([] : List Keyword).length + (if ([] : List Keyword).isEmpty then 0 else 1) < 30)) = true := by rfl)
    (hline : (apos.endLine == pos.line) = true := by rfl) (hs : starEach [e] X.env = (false, PySem.eval e X.env) :: starEach [] X.env := by rfl) (hplain : (backTo pos (starEach [] X.env)).any (·.1) = false := by rfl) :
    DE X A C W (.Call (.Attribute a "extend" apos) [e] [] pos) (.bm .extend ca cs) :=
  de_bm PySem.F.plainAttrs_list PySem.F.slot_list_extend PySem.F.type_list_extend md_extend (fun _ _ _ _ _ _ _ R r h => ty_lst (fun _ _ => rfl) R r h) ho ha hbase hfew hline hs hplain
theorem de_pop {apos : Pos} (ho : DE X A C W a ca) (hbase : attributeBase a "pop" X.env (PySem.eval a X.env) = PySem.eval a X.env := by rfl)
    (hline : (apos.endLine == pos.line) = true := by rfl) : DE X A C W (.Call (.Attribute a "pop" apos) [] [] pos) (.bm .pop ca []) :=
  de_bm0 PySem.F.plainAttrs_list PySem.F.slot_list_pop PySem.F.type_list_pop md_pop (fun _ _ _ _ _ _ _ R r h => ty_lst (fun _ _ => rfl) R r h) ho hbase hline

/-! ### d.pop(k), d.get(k, x) -/
theorem dct_at {K : PySem.W.Frag} {G : Gd} {θ : Th} {Hd : Hp} {M : Mem} {H : Hp} {n : Nat} {l : List (Key × D)} {v : V} (R : RG K A G θ Hd M H) (r : Rep K A Hd θ v (.ref n)) (hm : M[n]? = some (.dct l)) :
    ∃ a kvs, v = .ref a ∧ θ n = some a ∧ H a = some (.dK kvs) ∧ kvs.map (·.1) = l.map (·.1) ∧ Reps K A Hd θ (kvs.map (·.2)) (l.map (·.2)) := by
  obtain ⟨a, u, e, ht, h1, h2⟩ := mem_at R r hm (by intro z; cases z)
  cases u <;> first | exact h2.elim | exact ⟨a, _, e, ht, h1, h2.1, h2.2⟩
theorem ddel_rep {K : PySem.W.Frag} {Hd : Hp} {θ : Th} (k : Key) : ∀ {kvs : List (Key × V)} {l : List (Key × D)}, kvs.map (·.1) = l.map (·.1) → Reps K A Hd θ (kvs.map (·.2)) (l.map (·.2)) →
    (dropK kvs k).map (·.1) = (ddel l k).map (·.1) ∧ Reps K A Hd θ ((dropK kvs k).map (·.2)) ((ddel l k).map (·.2))
  | [], [], _, _ => ⟨rfl, .nil⟩
  | [], _ :: _, h, _ => by simp at h
  | _ :: _, [], h, _ => by simp at h
  | (j, v) :: kvs, (j', d) :: l, h, r => by
    simp only [List.map_cons, List.cons.injEq] at h
    obtain ⟨rfl, h⟩ := h
    cases r with | cons r1 r2 =>
    obtain ⟨i1, i2⟩ := ddel_rep k h r2
    by_cases e : j = k
    · have e1 : dropK ((j, v) :: kvs) k = dropK kvs k := by unfold dropK; rw [List.filter_cons_of_neg (by simp [e])]
      have e2 : ddel ((j, d) :: l) k = ddel l k := by unfold ddel; rw [List.filter_cons_of_neg (by simp [e])]
      rw [e1, e2]; exact ⟨i1, i2⟩
    · have e1 : dropK ((j, v) :: kvs) k = (j, v) :: dropK kvs k := by unfold dropK; rw [List.filter_cons_of_pos (by simp [e])]
      have e2 : ddel ((j, d) :: l) k = (j, d) :: ddel l k := by unfold ddel; rw [List.filter_cons_of_pos (by simp [e])]
      rw [e1, e2, List.map_cons, List.map_cons, i1]
      exact ⟨rfl, .cons r1 i2⟩
theorem repl_rep {K : PySem.W.Frag} {Hd : Hp} {θ : Th} {k : Key} {v : V} {d : D} (rv : Rep K A Hd θ v d) : ∀ {kvs : List (Key × V)} {l : List (Key × D)}, kvs.map (·.1) = l.map (·.1) → Reps K A Hd θ (kvs.map (·.2)) (l.map (·.2)) →
    ((kvs.map fun kv => if kv.1 = k then (kv.1, v) else kv).map (·.1)) = ((l.map fun kv => if kv.1 = k then (kv.1, d) else kv).map (·.1)) ∧ Reps K A Hd θ ((kvs.map fun kv => if kv.1 = k then (kv.1, v) else kv).map (·.2)) ((l.map fun kv => if kv.1 = k then (kv.1, d) else kv).map (·.2))
  | [], [], _, _ => ⟨rfl, .nil⟩
  | [], _ :: _, h, _ => by simp at h
  | _ :: _, [], h, _ => by simp at h
  | (j, w) :: kvs, (j', d') :: l, h, r => by
    simp only [List.map_cons, List.cons.injEq] at h
    obtain ⟨rfl, h⟩ := h
    cases r with | cons r1 r2 =>
    obtain ⟨i1, i2⟩ := repl_rep rv h r2
    simp only [List.map_cons]
    by_cases e : j = k
    · simp only [e, if_true]
      exact ⟨by rw [i1], .cons rv i2⟩
    · simp only [e, if_false]
      exact ⟨by rw [i1], .cons r1 i2⟩
theorem dput_rep {K : PySem.W.Frag} {Hd : Hp} {θ : Th} {k : Key} {v : V} {d : D} (rv : Rep K A Hd θ v d) {kvs : List (Key × V)} {l : List (Key × D)} (h : kvs.map (·.1) = l.map (·.1)) (r : Reps K A Hd θ (kvs.map (·.2)) (l.map (·.2))) :
    (putK kvs k v).map (·.1) = (dput l k d).map (·.1) ∧ Reps K A Hd θ ((putK kvs k v).map (·.2)) ((dput l k d).map (·.2)) := by
  have any : (kvs.any fun kv => decide (kv.1 = k)) = l.any fun kv => decide (kv.1 = k) := by
    have e1 : (kvs.any fun kv => decide (kv.1 = k)) = (kvs.map (·.1)).any fun j => decide (j = k) := by rw [List.any_map]; rfl
    have e2 : (l.any fun kv => decide (kv.1 = k)) = (l.map (·.1)).any fun j => decide (j = k) := by rw [List.any_map]; rfl
    rw [e1, e2, h]
  unfold putK dput
  rw [any]
  split
  · exact repl_rep rv h r
  · rw [List.map_append, List.map_append, List.map_append, List.map_append, h]
    exact ⟨rfl, r.append (.cons rv .nil)⟩
theorem ev_dpop {x : E} : eval C (.bm .dpop ca [x]) = fun ε M => (eval C ca ε M).bind fun d M => if bmTy .dpop d M then (eval C x ε M).bind fun k M => bmR .dpop d [k] M else none := by
  funext ε M
  simp only [eval, evals]
  rcases eval C ca ε M with _ | ⟨d, M1⟩ | ⟨c, M1⟩ <;> try rfl
  simp only [bind_ok]
  split
  · rcases eval C x ε M1 with _ | ⟨d, M2⟩ | ⟨c, M2⟩ <;> rfl
  · rfl
theorem dpop_at {n : Nat} {k : D} {M : Mem} {r : Rs D} (h : bmR .dpop (.ref n) [k] M = some r) : ∃ l kk v, M[n]? = some (.dct l) ∧ key? k = some kk ∧ dget l kk = some v ∧ r = .ok v (M.set n (.dct (ddel l kk))) := by
  simp only [bmR] at h
  split at h <;> try (cases h; done)
  rename_i l k' hm hk
  cases hk
  split at h <;> try (cases h; done)
  rename_i kk hk
  split at h <;> cases h
  rename_i v hv
  exact ⟨l, kk, v, hm, hk, hv, rfl⟩
theorem de_dpop {apos : Pos} (ho : DE X A C W a ca) (he : DE X A C W e ce)
    (m : M1 X a "pop" apos e pos := by exact ⟨rfl, rfl, rfl, rfl⟩) : DE X A C W (.Call (.Attribute a "pop" apos) [e] [] pos) (.bm .dpop ca [ce]) := by
  refine PE.imp (pe_dpop1 ho he m) fun σ H Q h => ?_
  unfold tE at h
  rw [ev_dpop] at h
  obtain ⟨G, θ, Hd, ε, M, S, R, p⟩ := tD.next (rel := rV X.K A) h
  refine ⟨G, θ, Hd, ε, M, S, R, p.mono ?_⟩
  rintro v H1 ⟨G1, θ1, Hd1, ε1, M0, M1, d, e1, S1, R1, r1, p1⟩
  split at p1
  · rename_i hc
    cases d <;> try (simp [bmTy] at hc; done)
    rename_i n
    obtain ⟨l, hl⟩ := isDct_at (show isDct M1[n]? = true from hc)
    obtain ⟨p, kvs, rfl, ht, h1, h2, h3⟩ := dct_at R1 r1 hl
    refine ⟨p, rfl, .inl ⟨kvs, .inl h1⟩, G1, θ1, Hd1, ε1, M1, S1, R1, p1.bind.mono ?_⟩
    rintro y H2 ⟨θ2, Hd2, k, M2, e2, E2, R2, r2, p2⟩
    cases hb : bmR .dpop (.ref n) [k] M2 with
    | none => rw [hb] at p2; exact p2.elim
    | some w =>
      rw [hb] at p2
      obtain ⟨l2, kk, v, hm2, hk, hv, rfl⟩ := dpop_at hb
      obtain ⟨p', kv2, e', ht2, k1, k2, k3⟩ := dct_at R2 (r1.up E2) hm2
      cases e'
      rw [key_some hk] at r2
      have e4 := key_V r2
      subst e4
      obtain ⟨u, hu, ru⟩ := (dct_val kk k2 k3).1 v hv
      refine ⟨kv2, kk, u, k1, rfl, hu, ?_⟩
      exact p2.ok (R2.write hm2 (by intro z; cases z) ht2 (u' := .dK (dropK kv2 kk)) (o' := .dct (ddel l2 kk)) (ddel_rep kk k2 k3)) ru
  · exact p1.elim

/-! ### what is walked -/
/-- an iterator that yields the data xs -/
def Yld (K : PySem.W.Frag) (A : We) (J : L2.It) (θ : Th) (Hd : Hp) (xs : List D) : Prop := ∀ (G : Gd) θ' Hd' M' H', Ext θ Hd θ' Hd' → RG K A G θ' Hd' M' H' →
  (∀ (i : Nat) d, xs[i]? = some d → J.go i H' ∧ ∀ x H'', J.yld i H' x H'' → ∃ Hd'', Ext θ' Hd' θ' Hd'' ∧ RG K A G θ' Hd'' M' H'' ∧ Rep K A Hd'' θ' x d) ∧ J.stop xs.length H'
def tI (K : PySem.W.Frag) (A : We) (C : Cfg) (W : WX) (k : Wk) (cs : List E) : TI := fun σ H R =>
  ∃ G θ Hd ε M, SL K A θ Hd ε σ ∧ RG K A G θ Hd M H ∧ PostE K A G (fun c d H' => W c d σ H') (fun Hd θ J xs => Yld K A J θ Hd xs) ((evals C cs ε M).bind fun ds M => opt (items k ds M) M) θ Hd R
abbrev DI (X : Cx) (A : We) (C : Cfg) (W : WX) (tg iter : Expr) (k : Wk) (cs : List E) : Prop := PI X tg iter (tI X.K A C W k cs)
theorem PI.imp {tg iter : Expr} {t t' : TI} (h : PI X tg iter t') (k : ∀ σ H R, t σ H R → t' σ H R) : PI X tg iter t := ⟨fun pins s σ H R I q => h.run pins s σ H R I (k _ _ _ q)⟩
theorem PI.or {tg iter : Expr} {t t' : TI} (h : PI X tg iter t) (h' : PI X tg iter t') : PI X tg iter (fun σ H R => t σ H R ∨ t' σ H R) := ⟨fun pins s σ H R I q => q.elim (fun q => h.run pins s σ H R I q) fun q => h'.run pins s σ H R I q⟩
theorem yld_tup {K : PySem.W.Frag} {θ : Th} {Hd : Hp} {a : Addr} {ys : List V} {l : List D} (h : SqT K Hd a ys) (r : Reps K A Hd θ ys l) : Yld K A (Itt K a) θ Hd l := fun G θ' Hd' M' H' E R => by
  have h' := sqT_mono R.base (sqT_mono E.h h)
  refine ⟨fun i d hi => ?_, ys, h', by rw [r.length]; exact Nat.le_refl _⟩
  obtain ⟨v, e, rv⟩ := (r.up E).get hi
  refine ⟨⟨ys, v, h', e⟩, fun x H'' ⟨e1, e2⟩ => ?_⟩
  have e3 := e2 ys h'
  rw [e] at e3; cases e3
  subst e1
  exact ⟨Hd', Ext.refl _ _, R, rv⟩
theorem yld_lst {K : PySem.W.Frag} {θ : Th} {Hd : Hp} {a : Addr} {ys : List V} {l : List D} (h : SqL K Hd a ys) (r : Reps K A Hd θ ys l) : Yld K A (Itl K a) θ Hd l := fun G θ' Hd' M' H' E R => by
  have h' : SqL K H' a ys := sqL_mono R.base (sqL_mono E.h h)
  refine ⟨fun i d hi => ?_, ys, h', by rw [r.length]; exact Nat.le_refl _⟩
  obtain ⟨v, e, rv⟩ := (r.up E).get hi
  refine ⟨⟨ys, v, h', e⟩, fun x H'' ⟨e1, e2⟩ => ?_⟩
  have e3 := e2 ys h'
  rw [e] at e3; cases e3
  subst e1
  exact ⟨Hd', Ext.refl _ _, R, rv⟩
theorem rangeD_get {lo : Int} {n i : Nat} {d : D} (h : (rangeD lo n)[i]? = some d) : i < n ∧ d = .int (lo + (i : Int)) := by
  unfold rangeD at h
  rw [List.getElem?_map] at h
  by_cases hi : i < n
  · rw [List.getElem?_range hi] at h
    cases h
    exact ⟨hi, rfl⟩
  · rw [List.getElem?_eq_none (by simp; omega)] at h; cases h
theorem yld_range {K : PySem.W.Frag} {θ : Th} {Hd : Hp} (lo : Int) (n : Nat) : Yld K A (Itr lo n) θ Hd (rangeD lo n) := fun G θ' Hd' M' H' E R => by
  refine ⟨fun i d hi => ?_, by show n ≤ _; unfold rangeD; simp⟩
  obtain ⟨h1, rfl⟩ := rangeD_get hi
  refine ⟨h1, fun x H'' ⟨e1, e2⟩ => ?_⟩
  subst e1 e2
  exact ⟨Hd', Ext.refl _ _, R, .int _⟩
end
end Dw
/-! Dw9: what is walked; targets. -/
namespace Dw
open PySem L2 PyProof.Rows
section
variable {X : Cx} {A : We} {C : Cfg} {W : WX} {a b c e tg : Expr} {ca cb cc ce : E} {pos : Pos} {es : List Expr} {cs : List E}

theorem ev1 {γ : Type} {f : List D → Mem → Ev γ} {ε : Env} {M : Mem} : (evals C [ce] ε M).bind f = (eval C ce ε M).bind fun d M => f [d] M := by
  simp only [evals]
  rcases eval C ce ε M with _ | ⟨d, M1⟩ | ⟨k, M1⟩ <;> rfl
theorem di_val (he : DE X A C W e ce) : DI X A C W tg e .val [ce] := by
  refine PI.imp (PI.or (pi_list he) (pi_tup he)) fun σ H R h => ?_
  obtain ⟨G, θ, Hd, ε, M, S, RR, p⟩ := h
  rw [ev1] at p
  cases h : eval C ce ε M with
  | none => rw [h] at p; exact p.elim
  | some r =>
    rw [h] at p
    cases r with
    | exc k M1 =>
      refine .inl ⟨G, θ, Hd, ε, M, S, RR, ?_⟩
      rw [h]; exact p
    | ok d M1 =>
      simp only [bind_ok] at p
      cases d <;> simp only [items, opt_none, opt_some] at p <;> try exact p.elim
      · refine .inr ⟨G, θ, Hd, ε, M, S, RR, ?_⟩
        rw [h]
        intro v H1 θ1 Hd1 E1 R1 r1
        cases r1 with | tup h1 h2 =>
        exact ⟨_, rfl, ⟨_, sqT_mono R1.base h1⟩, p _ _ _ _ E1 R1 (yld_tup h1 h2)⟩
      · refine .inl ⟨G, θ, Hd, ε, M, S, RR, ?_⟩
        rw [h]
        intro v H1 θ1 Hd1 E1 R1 r1
        cases r1 with | lst h1 h2 =>
        exact ⟨_, rfl, ⟨_, sqL_mono R1.base h1⟩, p _ _ _ _ E1 R1 (yld_lst h1 h2)⟩
/-- the arguments of what is walked, reckoned -/
theorem tI.args {K : PySem.W.Frag} {k : Wk} {σ : L2.St} {H : Hp} {R : L2.It → Hp → Prop} (h : tI K A C W k cs σ H R) :
    tA K A C W cs σ H fun vs H1 => ∃ G θ Hd M ds xs, RG K A G θ Hd M H1 ∧ Reps K A Hd θ vs ds ∧ items k ds M = some xs ∧ ∀ J, Yld K A J θ Hd xs → R J H1 := by
  obtain ⟨G, θ, Hd, ε, M, S, RR, p⟩ := h
  refine ⟨G, θ, Hd, ε, M, S, RR, p.bind.mono ?_⟩
  rintro vs H1 ⟨θ1, Hd1, ds, M1, e1, E1, R1, r1, p1⟩
  cases hi : items k ds M1 with
  | none => rw [hi] at p1; exact p1.elim
  | some xs =>
    rw [hi] at p1
    exact ⟨G, θ1, Hd1, M1, ds, xs, R1, r1, hi, fun J y => p1 J _ _ _ (Ext.refl _ _) R1 y⟩
theorem rangeD_eq (n : Nat) : True := trivial
theorem di_range1 {p : Pos} (hm : X.mg "range" = none) (ha : DA X A C W [a] [ca]) (hg : Gl X "range" := by rfl) (hs : starEach [a] X.env = [(false, PySem.eval a X.env)] := by rfl) : DI X A C W tg (.Call (.Name "range" p) [a] [] pos) .range1 [ca] := by
  refine PI.imp (pi_range1 hg hm ha hs) fun σ H R h => ?_
  obtain ⟨G, θ, Hd, ε, M, S, RR, p⟩ := tI.args h
  refine ⟨G, θ, Hd, ε, M, S, RR, p.mono ?_⟩
  rintro vs H1 ⟨G1, θ1, Hd1, M1, ds, xs, R1, r1, hi, k⟩
  simp only [items] at hi
  split at hi <;> try (cases hi; done)
  rename_i j
  split at hi <;> cases hi
  rename_i hj
  obtain ⟨v, rfl, rv⟩ := r1.inv1
  cases rv
  exact ⟨j, rfl, by omega, by omega, k _ (yld_range 0 j.toNat)⟩
theorem di_range2 {p : Pos} (hm : X.mg "range" = none) (ha : DA X A C W [a, b] [ca, cb]) (hg : Gl X "range" := by rfl) (hs : starEach [a, b] X.env = [(false, PySem.eval a X.env), (false, PySem.eval b X.env)] := by rfl) (hs2 : starEach [b] X.env = [(false, PySem.eval b X.env)] := by rfl) : DI X A C W tg (.Call (.Name "range" p) [a, b] [] pos) .range2 [ca, cb] := by
  refine PI.imp (pi_range2 hg hm ha hs hs2) fun σ H R h => ?_
  obtain ⟨G, θ, Hd, ε, M, S, RR, p⟩ := tI.args h
  refine ⟨G, θ, Hd, ε, M, S, RR, p.mono ?_⟩
  rintro vs H1 ⟨G1, θ1, Hd1, M1, ds, xs, R1, r1, hi, k⟩
  simp only [items] at hi
  split at hi <;> try (cases hi; done)
  rename_i i j
  split at hi <;> cases hi
  rename_i hj
  obtain ⟨v, w, rfl, rv, rw⟩ := r1.inv2
  cases rv
  cases rw
  exact ⟨i, j, rfl, ⟨by omega, by omega, by omega, by omega⟩, k _ (yld_range i _)⟩
theorem zipD_get : ∀ {xs ys : List D} {i : Nat} {d : D}, (zipD xs ys)[i]? = some d → ∃ x y, xs[i]? = some x ∧ ys[i]? = some y ∧ d = .tup [x, y]
  | [], _, _, _, h => by simp [zipD] at h
  | _ :: _, [], _, _, h => by simp [zipD] at h
  | x :: xs, y :: ys, 0, d, h => by simp [zipD] at h; exact ⟨x, y, rfl, rfl, h.symm⟩
  | x :: xs, y :: ys, i + 1, d, h => by
    simp only [zipD, List.getElem?_cons_succ] at h
    obtain ⟨x', y', h1, h2, h3⟩ := zipD_get h
    exact ⟨x', y', by simpa using h1, by simpa using h2, h3⟩
theorem zipD_length : ∀ {xs ys : List D}, xs.length ≤ (zipD xs ys).length ∨ ys.length ≤ (zipD xs ys).length
  | [], _ => .inl (Nat.zero_le _)
  | _ :: _, [] => .inr (Nat.zero_le _)
  | x :: xs, y :: ys => by
    rcases zipD_length (xs := xs) (ys := ys) with h | h
    · exact .inl (Nat.succ_le_succ h)
    · exact .inr (Nat.succ_le_succ h)
/-- a new pair is frozen -/
theorem pair_new {K : PySem.W.Frag} {G : Gd} {θ : Th} {Hd : Hp} {M : Mem} {H : Hp} {T : Addr} {x y : V} {dx dy : D} (R : RG K A G θ Hd M H) (hT : H T = none) (rx : Rep K A Hd θ x dx) (ry : Rep K A Hd θ y dy) :
    ∃ Hd', Ext θ Hd θ Hd' ∧ RG K A G θ Hd' M (upd H T (.tup [x, y])) ∧ Rep K A Hd' θ (.ref T) (.tup [dx, dy]) := by
  obtain ⟨R2, E2⟩ := R.data hT (.tup [x, y])
  exact ⟨_, E2, R2, .tup (.of upd_same) (.cons (rx.up E2) (.cons (ry.up E2) .nil))⟩
theorem yld_zipT {K : PySem.W.Frag} {θ : Th} {Hd : Hp} {p q : Addr} {xs ys : List V} {l m : List D} (h : SqT K Hd p xs) (h2 : SqT K Hd q ys) (r : Reps K A Hd θ xs l) (r2 : Reps K A Hd θ ys m) : Yld K A (RZ.ItzT K p q) θ Hd (zipD l m) := fun G θ' Hd' M' H' E R => by
  have k1 := sqT_mono R.base (sqT_mono E.h h)
  have k2 := sqT_mono R.base (sqT_mono E.h h2)
  refine ⟨fun i d hi => ?_, xs, ys, k1, k2, by rw [r.length, r2.length]; exact zipD_length⟩
  obtain ⟨dx, dy, e1, e2, rfl⟩ := zipD_get hi
  obtain ⟨v, f1, rv⟩ := (r.up E).get e1
  obtain ⟨w, f2, rw⟩ := (r2.up E).get e2
  refine ⟨⟨xs, ys, v, w, k1, k2, f1, f2⟩, ?_⟩
  rintro x H'' ⟨T, v', w', rfl, hT, rfl, g1, g2⟩
  have g1 := g1 xs k1
  have g2 := g2 ys k2
  rw [f1] at g1; cases g1
  rw [f2] at g2; cases g2
  exact pair_new R hT rv rw
theorem yld_zipL {K : PySem.W.Frag} {θ : Th} {Hd : Hp} {p q : Addr} {xs ys : List V} {l m : List D} (h : SqL K Hd p xs) (h2 : SqL K Hd q ys) (r : Reps K A Hd θ xs l) (r2 : Reps K A Hd θ ys m) : Yld K A (Itz K p q) θ Hd (zipD l m) := fun G θ' Hd' M' H' E R => by
  have k1 : SqL K H' p xs := sqL_mono R.base (sqL_mono E.h h)
  have k2 : SqL K H' q ys := sqL_mono R.base (sqL_mono E.h h2)
  refine ⟨fun i d hi => ?_, xs, ys, k1, k2, by rw [r.length, r2.length]; exact zipD_length⟩
  obtain ⟨dx, dy, e1, e2, rfl⟩ := zipD_get hi
  obtain ⟨v, f1, rv⟩ := (r.up E).get e1
  obtain ⟨w, f2, rw⟩ := (r2.up E).get e2
  refine ⟨⟨xs, ys, v, w, k1, k2, f1, f2⟩, ?_⟩
  rintro x H'' ⟨T, v', w', rfl, hT, rfl, g1, g2⟩
  have g1 := g1 xs k1
  have g2 := g2 ys k2
  rw [f1] at g1; cases g1
  rw [f2] at g2; cases g2
  exact pair_new R hT rv rw
theorem di_zip {elts : List Expr} {kk : Nat} {tpos p : Pos} (hm : X.mg "zip" = none) (ha : DA X A C W [a, b] [ca, cb]) (hg : Gl X "zip" := by rfl)
    (hs : starEach [a, b] X.env = (false, PySem.eval a X.env) :: starEach [b] X.env := by rfl) (hpl : (backTo pos (starEach [b] X.env)).any (·.1) = false := by rfl) : DI X A C W (.Tuple elts kk tpos) (.Call (.Name "zip" p) [a, b] [] pos) .zip [ca, cb] := by
  refine PI.imp (RZ.pi_zipA hg hm ha hs hpl) fun σ H R h => ?_
  obtain ⟨G, θ, Hd, ε, M, S, RR, p⟩ := tI.args h
  refine ⟨G, θ, Hd, ε, M, S, RR, p.mono ?_⟩
  rintro vs H1 ⟨G1, θ1, Hd1, M1, ds, xs, R1, r1, hi, k⟩
  simp only [items] at hi
  split at hi <;> cases hi
  · obtain ⟨v, w, rfl, rv, rw⟩ := r1.inv2
    cases rv with | tup h1 h2 =>
    cases rw with | tup h3 h4 =>
    exact ⟨_, _, _, _, rfl, .inr ⟨sqT_mono R1.base h1, sqT_mono R1.base h3, k _ (yld_zipT h1 h3 h2 h4)⟩⟩
  · obtain ⟨v, w, rfl, rv, rw⟩ := r1.inv2
    cases rv with | lst h1 h2 =>
    cases rw with | lst h3 h4 =>
    exact ⟨_, _, _, _, rfl, .inl ⟨sqL_mono R1.base h1, sqL_mono R1.base h3, k _ (yld_zipL h1 h3 h2 h4)⟩⟩
theorem rev_get {α : Type} {l : List α} {i : Nat} {d : α} (h : l.reverse[i]? = some d) : i < l.length ∧ l[l.length - 1 - i]? = some d := by
  have hi : i < l.length := by
    have := (List.getElem?_eq_some_iff.mp h).1
    simpa using this
  rw [List.getElem?_reverse hi] at h
  exact ⟨hi, h⟩
theorem yld_revT {K : PySem.W.Frag} {θ : Th} {Hd : Hp} {p : Addr} {xs : List V} {l : List D} (h : SqT K Hd p xs) (r : Reps K A Hd θ xs l) : Yld K A (RT.ItvT K p xs.length) θ Hd l.reverse := fun G θ' Hd' M' H' E R => by
  have k1 := sqT_mono R.base (sqT_mono E.h h)
  refine ⟨fun i d hi => ?_, by show _ ≤ _; rw [List.length_reverse, r.length]; exact Nat.le_refl _⟩
  obtain ⟨hl, e1⟩ := rev_get hi
  rw [← r.length] at e1 hl
  obtain ⟨v, f1, rv⟩ := (r.up E).get e1
  refine ⟨⟨hl, xs, v, k1, f1⟩, ?_⟩
  rintro x H'' ⟨rfl, g⟩
  have g := g xs k1
  rw [f1] at g; cases g
  exact ⟨Hd', Ext.refl _ _, R, rv⟩
theorem yld_revL {K : PySem.W.Frag} {θ : Th} {Hd : Hp} {p : Addr} {xs : List V} {l : List D} (h : SqL K Hd p xs) (r : Reps K A Hd θ xs l) : Yld K A (Itv K p xs.length) θ Hd l.reverse := fun G θ' Hd' M' H' E R => by
  have k1 : SqL K H' p xs := sqL_mono R.base (sqL_mono E.h h)
  refine ⟨fun i d hi => ?_, by show _ ≤ _; rw [List.length_reverse, r.length]; exact Nat.le_refl _⟩
  obtain ⟨hl, e1⟩ := rev_get hi
  rw [← r.length] at e1 hl
  obtain ⟨v, f1, rv⟩ := (r.up E).get e1
  refine ⟨⟨hl, xs, v, k1, f1⟩, ?_⟩
  rintro x H'' ⟨rfl, g⟩
  have g := g xs k1
  rw [f1] at g; cases g
  exact ⟨Hd', Ext.refl _ _, R, rv⟩
theorem di_rev {p : Pos} (hm : X.mg "reversed" = none) (he : DE X A C W e ce) (hg : Gl X "reversed" := by rfl) (hs : starEach [e] X.env = (false, PySem.eval e X.env) :: starEach [] X.env := by rfl) : DI X A C W tg (.Call (.Name "reversed" p) [e] [] pos) .rev [ce] := by
  refine PI.imp (RT.pi_revA hg hm he hs) fun σ H R h => ?_
  obtain ⟨G, θ, Hd, ε, M, S, RR, p⟩ := h
  rw [ev1] at p
  refine ⟨G, θ, Hd, ε, M, S, RR, p.bind.mono ?_⟩
  rintro v H1 ⟨θ1, Hd1, d, M1, e1, E1, R1, r1, p1⟩
  cases d <;> simp only [items, opt_none, opt_some] at p1 <;> try exact p1.elim
  · cases r1 with | tup h1 h2 =>
    exact ⟨_, _, rfl, .inr ⟨sqT_mono R1.base h1, p1 _ _ _ _ (Ext.refl _ _) R1 (yld_revT h1 h2)⟩⟩
  · cases r1 with | lst h1 h2 =>
    exact ⟨_, _, rfl, .inl ⟨sqL_mono R1.base h1, p1 _ _ _ _ (Ext.refl _ _) R1 (yld_revL h1 h2)⟩⟩
theorem rangeD_length (lo : Int) (n : Nat) : (rangeD lo n).length = n := by unfold rangeD; simp
theorem yld_revR {K : PySem.W.Frag} {θ : Th} {Hd : Hp} (n : Nat) (lo : Int) (hlo : lo = (n : Int) - 1) : Yld K A (Itc lo (-1) n) θ Hd (rangeD 0 n).reverse := fun G θ' Hd' M' H' E R => by
  refine ⟨fun i d hi => ?_, by show n ≤ _; rw [List.length_reverse, rangeD_length]; exact Nat.le_refl _⟩
  obtain ⟨hl, e1⟩ := rev_get hi
  rw [rangeD_length] at hl e1
  obtain ⟨h1, rfl⟩ := rangeD_get e1
  refine ⟨hl, ?_⟩
  rintro x H'' ⟨rfl, rfl⟩
  have e : lo + (i : Int) * -1 = 0 + ((n - 1 - i : Nat) : Int) := by omega
  refine ⟨Hd', Ext.refl _ _, R, ?_⟩
  rw [e]
  exact .int _
theorem di_revrange {p p2 pos2 : Pos} (hr : X.mg "range" = none) (hm : X.mg "reversed" = none) (ha : DE X A C W a ca) (hg : Gl X "reversed" := by rfl) (hg2 : Gl X "range" := by rfl) (na : starEach [a] X.env = (false, PySem.eval a X.env) :: starEach [] X.env := by rfl)
    (hs : starEach [.Call (.Name "range" p2) [a] [] pos2] X.env = (false, PySem.eval (.Call (.Name "range" p2) [a] [] pos2) X.env) :: starEach [] X.env := by rfl) : DI X A C W tg (.Call (.Name "reversed" p) [.Call (.Name "range" p2) [a] [] pos2] [] pos) .revrange1 [ca] := by
  refine PI.imp (pi_revR hg hm (prg_1 hg2 hr ha na) hs) fun σ H R h => ?_
  obtain ⟨G, θ, Hd, ε, M, S, RR, p⟩ := h
  rw [ev1] at p
  refine ⟨G, θ, Hd, ε, M, S, RR, p.bind.mono ?_⟩
  rintro v H1 ⟨θ1, Hd1, d, M1, e1, E1, R1, r1, p1⟩
  cases d <;> simp only [items, opt_none, opt_some] at p1 <;> try exact p1.elim
  rename_i j
  split at p1 <;> try exact p1.elim
  rename_i hj
  cases r1
  refine ⟨j, rfl, by decide, by decide, by omega, by omega, ?_⟩
  have e : j - 0 = j := Int.sub_zero j
  rw [e]
  exact p1 _ _ _ _ (Ext.refl _ _) R1 (yld_revR j.toNat _ (by omega))
end
end Dw
/-! Dw10: targets, comprehensions. -/
namespace Dw
open PySem L2 PyProof.Rows
section
variable {X : Cx} {A : We} {C : Cfg} {W : WX} {a b c e tg : Expr} {ca cb cc ce : E} {pos : Pos} {es : List Expr} {cs : List E}

/-! ### targets -/
def gSeq : List Nat → TGs
  | [] => gNil
  | i :: is => gCons (gName i) (gSeq is)
def gTg (K : PySem.W.Frag) : Tgt → TG
  | .name i => gName i
  | .tup is => gTup K is.length (gSeq is)
abbrev DG (X : Cx) (tg : Expr) (t : Tgt) : Prop := PG X tg (gTg X.K t)
abbrev DGs (X : Cx) (tg : List Expr) (is : List Nat) : Prop := PGs X tg (gSeq is)
theorem dg_name {i : Nat} {x : Str} (hN : X.N.Nodup) (hi : X.N[i]? = some x := by rfl) (hx : Loc X.env.scope x := by first | exact Or.inl rfl | exact Or.inr rfl) (hf : X.fn x = true ∨ X.env.scope.names.lookup x = some .local := by first | exact .inl rfl | exact .inr rfl | assumption) : DG X (.Name x pos) (.name i) := pg_name hN hi hx hf
theorem dgs_nil : DGs X [] [] := pgs_nil
theorem dgs_cons {i : Nat} {is : List Nat} (h1 : DG X e (.name i)) (h2 : DGs X es is) (hs : (assignEach (e :: es) X.env).map (·.2) = assign e X.env :: (assignEach es X.env).map (·.2) := by rfl) : DGs X (e :: es) (i :: is) := pgs_cons h1 h2 hs
theorem dg_tup {k : Nat} {is : List Nat} (hc : X.calm = true) (h : DGs X es is) (hn : (assignEach es X.env).length = is.length := by rfl) (hst : (assignEach es X.env).findIdx? (·.1) = none := by rfl) : DG X (.Tuple es k pos) (.tup is) := pg_tup hc h hn hst

/-- the slots behind a target -/
def setV : List Nat → List V → L2.St → L2.St
  | [], _, σ => σ
  | _ :: _, [], σ => σ
  | i :: is, v :: vs, σ => setV is vs (σ.set i (some v))
theorem gSeq_run {K : PySem.W.Frag} {θ : Th} {Hd H : Hp} {Q : L2.St → Hp → Prop} : ∀ {is : List Nat} {ds : List D} {vs : List V} {ε ε' : Env} {σ : L2.St}, SL K A θ Hd ε σ → Reps K A Hd θ vs ds → setAll is ds ε = some ε' →
    (SL K A θ Hd ε' (setV is vs σ) → Q (setV is vs σ) H) → gSeq is vs σ H Q
  | [], [], _, ε, ε', σ, S, r, h, q => by
    cases r
    simp only [setAll] at h; cases h
    exact ⟨rfl, q S⟩
  | [], _ :: _, _, _, _, _, _, _, h, _ => by simp [setAll] at h
  | _ :: _, [], _, _, _, _, _, _, h, _ => by simp [setAll] at h
  | i :: is, d :: ds, _, ε, ε', σ, S, r, h, q => by
    cases r with | cons r1 r2 =>
    simp only [setAll] at h
    exact ⟨_, _, rfl, gSeq_run (S.set i r1) r2 h q⟩
def Tgt.slots : Tgt → List Nat
  | .name i => [i]
  | .tup is => is
theorem gTg_run {K : PySem.W.Frag} {G : Gd} {θ : Th} {Hd H : Hp} {M : Mem} {t : Tgt} {d : D} {v : V} {ε ε' : Env} {σ : L2.St} {Q : L2.St → Hp → Prop} (R : RG K A G θ Hd M H) (S : SL K A θ Hd ε σ) (r : Rep K A Hd θ v d) (h : bindT t ε d = some ε')
    (q : ∀ vs, SL K A θ Hd ε' (setV t.slots vs σ) → Q (setV t.slots vs σ) H) : gTg K t v σ H Q := by
  cases t with
  | name i =>
    simp only [bindT] at h; cases h
    exact q [v] (S.set i r)
  | tup is =>
    cases d <;> simp only [bindT, reduceCtorEq] at h
    cases r with | tup h1 h2 =>
    have hl : ∀ {is : List Nat} {ds : List D} {ε ε' : Env}, setAll is ds ε = some ε' → is.length = ds.length := by
      intro is
      induction is with
      | nil => intro ds ε ε' h; cases ds with | nil => rfl | cons _ _ => simp [setAll] at h
      | cons i is ih => intro ds ε ε' h; cases ds with | nil => simp [setAll] at h | cons d ds => simp only [setAll] at h; exact congrArg (· + 1) (ih h)
    exact ⟨_, _, rfl, sqT_mono R.base h1, by rw [h2.length]; exact (hl h).symm, gSeq_run S h2 h (q _)⟩
theorem wipe_set {vs : List Nat} : ∀ {i : Nat} {σ : L2.St} {o : Option V}, i ∈ vs → L2.wipe (σ.set i o) vs = L2.wipe σ vs := by
  induction vs with
  | nil => intro i σ o h; cases h
  | cons j vs ih =>
    intro i σ o h
    show (L2.wipe (σ.set i o) vs).set j none = (L2.wipe σ vs).set j none
    by_cases hj : i ∈ vs
    · rw [ih hj]
    · have e : i = j := by
        rcases List.mem_cons.mp h with z | z
        · exact z
        · exact absurd z hj
      subst e
      have g : ∀ (vs : List Nat) (σ : L2.St), i ∉ vs → (L2.wipe (σ.set i o) vs) = (L2.wipe σ vs).set i o := by
        intro vs
        induction vs with
        | nil => intro σ _; rfl
        | cons k vs ih2 =>
          intro σ hk
          show (L2.wipe (σ.set i o) vs).set k none = ((L2.wipe σ vs).set k none).set i o
          rw [ih2 σ (fun z => hk (List.mem_cons_of_mem _ z)), List.set_comm]
          intro z
          exact hk (z ▸ List.mem_cons_self)
      rw [g vs σ hj, List.set_set]
theorem wipe_setV {own : List Nat} : ∀ {is : List Nat} {vs : List V} {σ : L2.St}, (∀ i ∈ is, i ∈ own) → L2.wipe (setV is vs σ) own = L2.wipe σ own
  | [], _, _, _ => rfl
  | _ :: _, [], _, _ => rfl
  | i :: is, v :: vs, σ, h => by
    show L2.wipe (setV is vs (σ.set i (some v))) own = _
    rw [wipe_setV (fun j hj => h j (List.mem_cons_of_mem _ hj)), wipe_set (h i List.mem_cons_self)]
theorem SL.wipe {K : PySem.W.Frag} {θ : Th} {Hd : Hp} {ε : Env} {σ : L2.St} (S : SL K A θ Hd ε σ) : ∀ vs : List Nat, SL K A θ Hd (Dw.wipe ε vs) (L2.wipe σ vs)
  | [] => S
  | i :: vs => (SL.wipe S vs).unset i
theorem wipe_wipe {σ : L2.St} : ∀ vs : List Nat, L2.wipe (L2.wipe σ vs) vs = L2.wipe σ vs := by
  have g : ∀ (vs ws : List Nat) (σ : L2.St), (∀ i ∈ ws, i ∈ vs) → L2.wipe (L2.wipe σ ws) vs = L2.wipe σ vs := by
    intro vs ws
    induction ws with
    | nil => intro σ _; rfl
    | cons i ws ih =>
      intro σ h
      show L2.wipe ((L2.wipe σ ws).set i none) vs = _
      rw [wipe_set (h i List.mem_cons_self), ih σ fun j hj => h j (List.mem_cons_of_mem _ hj)]
  exact fun vs => g vs vs σ fun _ h => h

/-! ### comprehensions -/
theorem RM.poke {K : PySem.W.Frag} {H0 Hd0 : Hp} {O : Addr → Prop} {θ : Th} {Hd : Hp} {M : Mem} {H : Hp} (R : RM K A H0 Hd0 O θ Hd M H) {p : Addr} {o : HO} (hp : H p = some o) (hd : Hd p = none) (h0 : H0 p = none) (ht : ∀ n, θ n ≠ some p) (u : HO) : RM K A H0 Hd0 O θ Hd M (upd H p u) where
  sub := R.sub
  base := fun a v e => by rw [upd_ne (ne_of_none e hd)]; exact R.base a v e
  keep := fun a v e n => by rw [upd_ne (ne_of_none e h0)]; exact R.keep a v e n
  dom := fun a e => by
    by_cases ha : a = p
    · subst ha; exact h0
    · rw [upd_ne ha] at e; exact R.dom a e
  out := R.out
  own := fun n o' e g => by
    obtain ⟨a, v, h1, h2, h4, h5⟩ := R.own n o' e g
    exact ⟨a, v, h1, h2, by rw [upd_ne (fun z => ht n (by rw [h1, z]))]; exact h4, h5⟩
  ran := R.ran
  liv := fun n a e q => by
    by_cases ha : a = p
    · subst ha; rw [upd_same] at q; cases q
    · rw [upd_ne ha] at q; exact R.liv n a e q
  inj := R.inj
  top := R.top
def blkW : WX := fun _ _ _ _ => False
abbrev DTs (X : Cx) (A : We) (C : Cfg) (W : WX) (ifs : List Expr) (oc : Option E) : Prop := PTs X ifs (tD X.K A W rB (evalO C oc))
theorem PTs.imp {X : Cx} {e : List Expr} {t t' : TT} (h : PTs X e t') (k : ∀ σ H Q, t σ H Q → t' σ H Q) : PTs X e t := ⟨fun pins s σ H Q I q => h.run pins s σ H Q I (k _ _ _ q)⟩
theorem dts_nil : DTs X A C W [] none := by
  refine PTs.imp pts_nil ?_
  rintro σ H Q ⟨G, θ, Hd, ε, M, S, R, p⟩
  simp only [evalO] at p
  exact p.ok R rfl
theorem dts_one (h : DT X A C W c cc) : DTs X A C W [c] (some cc) := by
  refine PTs.imp (pts_one h) fun σ H Q q => ?_
  have e : evalO C (some cc) = evT C cc := by funext ε M; simp only [evalO, evT] <;> rfl
  rw [e] at q
  exact q
theorem RM.same {K : PySem.W.Frag} {H0 Hd0 : Hp} {O : Addr → Prop} {θ : Th} {Hd : Hp} {M : Mem} {H H1 : Hp} (R : RM K A H0 Hd0 O θ Hd M H) (h : H1 = H) : RM K A H0 Hd0 O θ Hd M H1 := h ▸ R
theorem tLc_of {g : Tgt} {own : List Nat} {oc : Option E} {k : Wk} {f : List D → Mem → Ev D} {Q : VK} {σ : L2.St} {H : Hp} {K : PySem.W.Frag} {rel : Hp → Th → V → D → Prop} (hsl : ∀ i ∈ g.slots, i ∈ own)
    (hf : ∀ (G : Gd) (θ : Th) (Hd : Hp) (M : Mem) (H : Hp) (p : Addr) (acc : List V) (ys : List D), RG K A G θ Hd M H → H p = some (.lst acc) → Hd p = none → G.H0 p = none → (∀ n, θ n ≠ some p) → Reps K A Hd θ acc ys → PostE K A G (fun c d H' => W c d σ H') rel (f ys M) θ Hd Q → Q (.ref p) H)
    (h : ∃ G θ Hd ε M, SL K A θ Hd ε σ ∧ RG K A G θ Hd M H ∧ PostE K A G (fun c d H' => W c d σ H') rel ((evals C cs ε M).bind fun ds M => match items k ds M with
      | some xs => if xs.length ≤ sizeLine then (compLoop (evalO C oc) (eval C ce) g (wipe ε own) xs [] M).bind f else none
      | none => none) θ Hd Q) : tLc (tI K A C W k cs) (gTg K g) (tD K A blkW rB (evalO C oc)) (tE K A C blkW ce) own σ H Q := by
  obtain ⟨G, θ, Hd, ε, M, S, R, p⟩ := h
  refine ⟨G, θ, Hd, ε, M, S, R, ?_⟩
  cases h1 : evals C cs ε M with
  | none => rw [h1] at p; exact p.elim
  | some r =>
  rw [h1] at p
  cases r with
  | exc kk M1 => exact p
  | ok ds M1 =>
  simp only [bind_ok] at p ⊢
  cases h2 : items k ds M1 with
  | none => rw [h2] at p; exact p.elim
  | some xs =>
  rw [h2] at p
  simp only [opt_some] at p ⊢
  split at p
  case isFalse => exact p.elim
  case isTrue hsz =>
  intro J H1 θ1 Hd1 E1 R1 y1 D hD
  have S1 := (S.up E1).wipe own
  have p1 := p.up E1
  refine ⟨fun i m H => ∃ θ2 Hd2 M2 acc ys, m = xs.length - i ∧ i ≤ xs.length ∧ acc.length ≤ i ∧ Ext θ1 Hd1 θ2 Hd2 ∧ RG K A G θ2 Hd2 M2 H ∧ H D = some (.lst acc) ∧ Hd2 D = none ∧ G.H0 D = none ∧ (∀ n, θ2 n ≠ some D) ∧ Reps K A Hd2 θ2 acc ys ∧
    PostE K A G (fun c d H' => W c d σ H') rel ((compLoop (evalO C oc) (eval C ce) g (wipe ε own) (xs.drop i) ys M2).bind f) θ2 Hd2 Q,
    ⟨xs.length, θ1, Hd1, M1, [], [], rfl, Nat.zero_le _, Nat.le_refl _, Ext.refl _ _, R1.junk hD _, upd_same, R1.dnone hD, R1.dom D hD, fun n e => R1.liv n D e hD, .nil, p1⟩, ?_⟩
  rintro i m H2 ⟨θ2, Hd2, M2, acc, ys, rfl, hi, hac, E2, R2, hH, hHd, h0, hth, ra, pp⟩
  by_cases hlt : i < xs.length
  · refine .inr ?_
    have hx : xs[i]? = some xs[i] := List.getElem?_eq_getElem hlt
    have RG' : RG K A ⟨H2, Hd2, Ran θ2⟩ θ2 Hd2 M2 H2 := R2.enterG
    obtain ⟨go, yl⟩ := (y1 _ _ _ _ _ E2 RG').1 i _ hx
    rw [List.drop_eq_getElem_cons hlt] at pp
    simp only [compLoop] at pp
    cases hb : bindT g (wipe ε own) xs[i] with
    | none => rw [hb] at pp; exact pp.elim
    | some ε' =>
    rw [hb] at pp
    simp only at pp
    refine ⟨go, fun H' => ∃ θ3 Hd3 M3 acc' ys', acc'.length ≤ i + 1 ∧ Ext θ1 Hd1 θ3 Hd3 ∧ RG K A G θ3 Hd3 M3 H' ∧ H' D = some (.lst acc') ∧ Hd3 D = none ∧ (∀ n, θ3 n ≠ some D) ∧ Reps K A Hd3 θ3 acc' ys' ∧
      PostE K A G (fun c d H' => W c d σ H') rel ((compLoop (evalO C oc) (eval C ce) g (wipe ε own) (xs.drop (i + 1)) ys' M3).bind f) θ3 Hd3 Q, ?_, ?_⟩
    · rintro H' ⟨θ3, Hd3, M3, acc', ys', k1, k2, k3, k4, k5, k6, k7, k8⟩
      exact ⟨xs.length - (i + 1), by omega, θ3, Hd3, M3, acc', ys', rfl, hlt, k1, k2, k3, k4, k5, h0, k6, k7, k8⟩
    · intro x H3 hy
      obtain ⟨Hd3, E3, R3, r3⟩ := yl x H3 hy
      refine gTg_run R3 (S1.up (E2.trans E3)) r3 hb fun vs S3 => ⟨?_, ?_⟩
      · rw [wipe_setV hsl, wipe_wipe]
      · refine ⟨_, θ2, Hd3, ε', M2, S3, R3, ?_⟩
        cases hF : evalO C oc ε' M2 with
        | none => rw [hF] at pp; exact pp.elim
        | some r =>
        rw [hF] at pp
        cases r with
        | exc kk M4 => exact pp.elim
        | ok bb M4 =>
        intro b' H4 θ4 Hd4 E4 R4 hbb
        subst hbb
        have out : ∀ {θ5 : Th} {Hd5 : Hp} {M5 : Mem} {H5 : Hp}, Ext θ2 Hd3 θ5 Hd5 → RG K A ⟨H2, Hd2, Ran θ2⟩ θ5 Hd5 M5 H5 → RG K A G θ5 Hd5 M5 H5 ∧ Ext θ2 Hd2 θ5 Hd5 ∧ H5 D = some (.lst acc) ∧ Hd5 D = none ∧ ∀ n, θ5 n ≠ some D := by
          intro θ5 Hd5 M5 H5 E5 R5
          have nR : ¬ Ran θ2 D := fun ⟨n, e⟩ => hth n e
          obtain ⟨R6, E6⟩ := R2.leaveG E5.t R5
          refine ⟨R6, E6, R5.keep D _ hH nR, ?_, fun n e => ?_⟩
          · cases q : Hd5 D with
            | none => rfl
            | some o =>
              rcases R5.out D o q hHd with z | z
              · exact absurd (z.symm.trans hH) (by intro w; cases w)
              · exact absurd z nR
          · rcases R5.ran n D e with z | z
            · exact absurd (z.symm.trans hH) (by intro w; cases w)
            · exact nR z
        cases b' with
        | false =>
          rw [if_neg (by decide)]
          simp only at pp
          obtain ⟨R6, E6, k1, k2, k3⟩ := out E4 R4
          exact ⟨θ4, Hd4, M4, acc, ys, by omega, E2.trans E6, R6, k1, k2, k3, ra.up E6, pp.up E6⟩
        | true =>
          rw [if_pos rfl]
          simp only at pp
          refine ⟨_, θ4, Hd4, ε', M4, S3.up E4, R4, ?_⟩
          cases hG : eval C ce ε' M4 with
          | none => rw [hG] at pp; exact pp.elim
          | some r =>
          rw [hG] at pp
          cases r with
          | exc kk M5 => exact pp.elim
          | ok y M5 =>
          simp only at pp
          intro v H5 θ5 Hd5 E5 R5 rv
          obtain ⟨R6, E6, k1, k2, k3⟩ := out (E4.trans E5) R5
          exact ⟨acc, k1, by omega, θ5, Hd5, M5, acc ++ [v], ys ++ [y], by rw [List.length_append, List.length_singleton]; omega, E2.trans E6, R6.poke k1 k2 h0 k3 _, upd_same, k2, k3, (ra.up E6).append (.one rv), pp.up E6⟩
  · have e : i = xs.length := by omega
    subst e
    rw [List.drop_length] at pp
    exact .inl ⟨(y1 _ _ _ _ _ E2 R2).2, hf _ _ _ _ _ _ _ _ R2 hH hHd h0 hth ra pp⟩
theorem ev_comp {own : List Nat} {t : Tgt} {k : Wk} {oc : Option E} : eval C (.comp own t k cs oc ce) = fun ε M => (evals C cs ε M).bind fun ds M => match items k ds M with
    | some xs => if xs.length ≤ sizeLine then (compLoop (evalO C oc) (eval C ce) t (wipe ε own) xs [] M).bind fun ys M => some (.ok (.lst ys) M) else none
    | none => none := by funext ε M; simp only [eval] <;> rfl
theorem ev_boxcomp {own : List Nat} {t : Tgt} {k : Wk} {oc : Option E} : eval C (.box (.comp own t k cs oc ce)) = fun ε M => (evals C cs ε M).bind fun ds M => match items k ds M with
    | some xs => if xs.length ≤ sizeLine then (compLoop (evalO C oc) (eval C ce) t (wipe ε own) xs [] M).bind fun ys M => some (.ok (.ref M.length) (M ++ [.lst ys])) else none
    | none => none := by
  funext ε M
  simp only [eval]
  rcases evals C cs ε M with _ | ⟨ds, M1⟩ | ⟨c, M1⟩ <;> try rfl
  simp only [bind_ok]
  cases items k ds M1 with
  | none => rfl
  | some xs =>
    simp only
    split
    · rcases compLoop (evalO C oc) (eval C ce) t (wipe ε own) xs [] M1 with _ | ⟨ys, M2⟩ | ⟨c, M2⟩ <;> rfl
    · rfl
theorem comp_frz {K : PySem.W.Frag} {E0 : Value → Option Addr → Hp → Prop} {Q : VK} (G : Gd) (θ : Th) (Hd : Hp) (M : Mem) (H : Hp) (p : Addr) (acc : List V) (ys : List D) (R : RG K A G θ Hd M H) (hH : H p = some (.lst acc)) (hd : Hd p = none) (h0 : G.H0 p = none) (ht : ∀ n, θ n ≠ some p)
    (r : Reps K A Hd θ acc ys) (pp : PostE K A G E0 (rV K A) (some (.ok (.lst ys) M)) θ Hd Q) : Q (.ref p) H := by
  obtain ⟨R2, E2⟩ := R.adopt hH hd h0 ht
  exact (pp.up E2).ok R2 (.lst (.of upd_same) (r.up E2))
theorem comp_box {K : PySem.W.Frag} {E0 : Value → Option Addr → Hp → Prop} {Q : VK} (G : Gd) (θ : Th) (Hd : Hp) (M : Mem) (H : Hp) (p : Addr) (acc : List V) (ys : List D) (R : RG K A G θ Hd M H) (hH : H p = some (.lst acc)) (hd : Hd p = none) (h0 : G.H0 p = none) (ht : ∀ n, θ n ≠ some p)
    (r : Reps K A Hd θ acc ys) (pp : PostE K A G E0 (rV K A) (some (.ok (.ref M.length) (M ++ [.lst ys]))) θ Hd Q) : Q (.ref p) H := by
  have E0 : Ext θ Hd (th θ M.length p) Hd := ⟨Same.refl _, fun n a e => by unfold th; rw [if_neg (Nat.ne_of_lt (R.top n a e))]; exact e⟩
  obtain ⟨R2, E2⟩ := R.box (o := .lst ys) hH hd h0 ht (r.up E0)
  exact (pp.up E2).ok R2 (.ref (by unfold th; rw [if_pos rfl]))
section
variable {elt iter : Expr} {ifs : List Expr} {scope : Scope} {own : List (Str × Nat)} {g : Tgt} {k : Wk} {oc : Option E}
theorem de_comp (hc : X.calm = true) (hN : X.N.Nodup) (hi : DI X A C W tg iter k cs) (ok : BlkOk X.N X.env.scope scope own) (hsl : ∀ i ∈ g.slots, i ∈ own.map (·.2))
    (hg : ∀ (s : Shared) (H : Hp) (Cc : Addr) (cl : List (Str × Addr)) (fp : List Addr), DG (X.blk s H scope (compEnvC scope cl Cc X.env) fp) tg g)
    (ht : ∀ (s : Shared) (H : Hp) (Cc : Addr) (cl : List (Str × Addr)) (fp : List Addr), DTs (X.blk s H scope (compEnvC scope cl Cc X.env) fp) A C blkW ifs oc)
    (he : ∀ (s : Shared) (H : Hp) (Cc : Addr) (cl : List (Str × Addr)) (fp : List Addr), DE (X.blk s H scope (compEnvC scope cl Cc X.env) fp) A C blkW elt ce) (hs : ∀ x, foldedSetIterable iter X.env x = Pure.pure x := by intro _; rfl) :
    DE X A C W (.ListComp elt [⟨tg, iter, ifs, 0⟩] scope pos) (.comp (own.map (·.2)) g k cs oc ce) := by
  refine PE.imp (pe_lc (g := gTg X.K g) (tt := tD X.K A blkW rB (evalO C oc)) (te := tE X.K A C blkW ce) hc hN hi ok hg ht he hs) fun σ H Q h => ?_
  unfold tE at h
  rw [ev_comp] at h
  exact tLc_of hsl comp_frz h
theorem de_boxcomp (hc : X.calm = true) (hN : X.N.Nodup) (hi : DI X A C W tg iter k cs) (ok : BlkOk X.N X.env.scope scope own) (hsl : ∀ i ∈ g.slots, i ∈ own.map (·.2))
    (hg : ∀ (s : Shared) (H : Hp) (Cc : Addr) (cl : List (Str × Addr)) (fp : List Addr), DG (X.blk s H scope (compEnvC scope cl Cc X.env) fp) tg g)
    (ht : ∀ (s : Shared) (H : Hp) (Cc : Addr) (cl : List (Str × Addr)) (fp : List Addr), DTs (X.blk s H scope (compEnvC scope cl Cc X.env) fp) A C blkW ifs oc)
    (he : ∀ (s : Shared) (H : Hp) (Cc : Addr) (cl : List (Str × Addr)) (fp : List Addr), DE (X.blk s H scope (compEnvC scope cl Cc X.env) fp) A C blkW elt ce) (hs : ∀ x, foldedSetIterable iter X.env x = Pure.pure x := by intro _; rfl) :
    DE X A C W (.ListComp elt [⟨tg, iter, ifs, 0⟩] scope pos) (.box (.comp (own.map (·.2)) g k cs oc ce)) := by
  refine PE.imp (pe_lc (g := gTg X.K g) (tt := tD X.K A blkW rB (evalO C oc)) (te := tE X.K A C blkW ce) hc hN hi ok hg ht he hs) fun σ H Q h => ?_
  unfold tE at h
  rw [ev_boxcomp] at h
  exact tLc_of hsl comp_box h
end
end
end Dw
/-! Dw11: statements. -/
namespace Dw
open PySem L2 PyProof.Rows

def PostS (K : PySem.W.Frag) (A : We) (G : Gd) (W : WX) (r : Option RS) (θ : Th) (Hd : Hp) (D : Ends) : Prop := match r with
  | none => False
  | some (.next ε M) => ∀ σ H θ' Hd', Ext θ Hd θ' Hd' → RG K A G θ' Hd' M H → SL K A θ' Hd' ε σ → D.nx σ H
  | some (.brk ε M) => ∀ σ H θ' Hd', Ext θ Hd θ' Hd' → RG K A G θ' Hd' M H → SL K A θ' Hd' ε σ → D.bk σ H
  | some (.ret d M) => ∀ v H θ' Hd', Ext θ Hd θ' Hd' → RG K A G θ' Hd' M H → Rep K A Hd' θ' v d → D.rt v H
  | some (.exc c ε M) => ∀ σ H θ' Hd', Ext θ Hd θ' Hd' → RG K A G θ' Hd' M H → SL K A θ' Hd' ε σ → W (.ref (A.ca c)) none σ H
def tS (K : PySem.W.Frag) (A : We) (W : WX) (ex : Env → Mem → Option RS) : TS := fun D σ H => ∃ G θ Hd ε M, SL K A θ Hd ε σ ∧ RG K A G θ Hd M H ∧ PostS K A G W (ex ε M) θ Hd D
abbrev DS (X : Cx) (A : We) (C : Cfg) (W : WX) (st : Stmt) (c : S) : Prop := PS X st (tS X.K A W (exec C c))
abbrev DSs (X : Cx) (A : We) (C : Cfg) (W : WX) (st : List Stmt) (c : List S) : Prop := PSs X st (tS X.K A W (execs C c))

section
variable {K : PySem.W.Frag} {A : We} {G : Gd} {W : WX} {θ θ' : Th} {Hd Hd' : Hp} {D D' : Ends}
theorem PostS.up {r : Option RS} (h : PostS K A G W r θ Hd D) (E : Ext θ Hd θ' Hd') : PostS K A G W r θ' Hd' D := by
  cases r with
  | none => exact h
  | some r => cases r <;> exact fun v H θ2 Hd2 E2 => h v H θ2 Hd2 (E.trans E2)
theorem PostS.onE {α β : Type} {rel : Hp → Th → β → α → Prop} {x : Ev α} {f : α → Mem → Option RS} {ε : Env} {σ : L2.St} (h : PostS K A G W (Dw.onE x ε f) θ Hd D) (S : SL K A θ Hd ε σ) :
    PostE K A G (fun c d H' => W c d σ H') rel x θ Hd fun v H => ∃ θ1 Hd1 d M1, x = some (.ok d M1) ∧ Ext θ Hd θ1 Hd1 ∧ RG K A G θ1 Hd1 M1 H ∧ rel Hd1 θ1 v d ∧ PostS K A G W (f d M1) θ1 Hd1 D := by
  rcases x with _ | ⟨d, M⟩ | ⟨c, M⟩
  · exact h
  · exact fun v H θ1 Hd1 E R r => ⟨θ1, Hd1, d, M, rfl, E, R, r, PostS.up h E⟩
  · exact fun H θ1 Hd1 E R => h σ H θ1 Hd1 E R (S.up E)
theorem PostS.next {ε : Env} {M : Mem} {σ : L2.St} {H : Hp} (h : PostS K A G W (some (.next ε M)) θ Hd D) (R : RG K A G θ Hd M H) (S : SL K A θ Hd ε σ) : D.nx σ H := h σ H θ Hd (Ext.refl _ _) R S
end

section
variable {X : Cx} {A : We} {C : Cfg} {W : WX} {a b c e tg : Expr} {ca cb cc ce : E} {pos : Pos} {es : List Expr} {cs : List E} {st : Stmt} {sts : List Stmt} {k : S} {ks : List S}

theorem dss_nil : DSs X A C W [] [] := by
  refine PSs.imp pss_nil ?_
  rintro D σ H ⟨G, θ, Hd, ε, M, S, R, p⟩
  exact p.next R S
theorem dss_cons (h1 : DS X A C W st k) (h2 : DSs X A C W sts ks) : DSs X A C W (st :: sts) (k :: ks) := by
  refine PSs.imp (pss_cons h1 h2) ?_
  rintro D σ H ⟨G, θ, Hd, ε, M, S, R, p⟩
  refine ⟨G, θ, Hd, ε, M, S, R, ?_⟩
  simp only [execs] at p
  cases h : exec C k ε M with
  | none => rw [h] at p; exact p
  | some r =>
    rw [h] at p
    cases r with
    | next ε' M' => exact fun σ' H' θ' Hd' E R' S' => ⟨G, θ', Hd', ε', M', S', R', PostS.up p E⟩
    | ret d M' => exact p
    | brk ε' M' => exact p
    | exc c ε' M' => exact p
theorem dss_frz {i : Nat} (h : DSs X A C W sts ks) : DSs X A C W sts (.frz i :: ks) := by
  refine PSs.imp h ?_
  rintro D σ H ⟨G, θ, Hd, ε, M, S, R, p⟩
  simp only [execs, exec] at p
  cases he : ε[i]? with
  | none => simp only [he] at p; exact p.elim
  | some sl =>
  cases sl with
  | no => simp only [he] at p; exact p.elim
  | exc c => simp only [he] at p; exact p.elim
  | is d =>
  cases d <;> try (simp only [he] at p; exact p.elim)
  rename_i n
  cases hm : M[n]? with
  | none => simp only [he, hm] at p; exact p.elim
  | some mo =>
  cases mo <;> try (simp only [he, hm] at p; exact p.elim)
  rename_i ds
  simp only [he, hm] at p
  obtain ⟨v, e, r⟩ := S.2.1 _ _ he
  obtain ⟨a, xs, rfl, ht, h1, h2⟩ := lst_at R r hm
  obtain ⟨R2, E2⟩ := R.freeze hm (by intro z; cases z) ht h1
  refine ⟨G, θ, _, _, _, ?_, R2, p.up E2⟩
  have S2 := (S.up E2).set i (v := .ref a) (d := .lst ds) (.lst (.of upd_same) (h2.up E2))
  have hi : i < σ.length := (List.getElem?_eq_some_iff.mp e).1
  have e2 : σ.set i (some (V.ref a)) = σ := by
    apply List.ext_getElem?
    intro j
    by_cases hj : i = j
    · subst hj; rw [List.getElem?_set_self hi, e]
    · rw [List.getElem?_set_ne hj]
  rw [e2] at S2
  exact S2
theorem tS_one {x : S} : True := trivial

/-! ### assignments -/
theorem ev_asg {t : Tgt} : exec C (.asg t ce) = fun ε M => onE (eval C ce ε M) ε fun d M => match bindT t ε d with | some ε' => some (.next ε' M) | none => none := by funext ε M; simp only [exec] <;> rfl
theorem tAsg_of {K : PySem.W.Frag} {te : TE} {t : Tgt} {D : Ends} {σ : L2.St} {H : Hp} (hte : ∀ Q : VK, tE K A C W ce σ H Q → te σ H Q) (h : tS K A W (exec C (.asg t ce)) D σ H) : tAsg te (gTg K t) D σ H := by
  obtain ⟨G, θ, Hd, ε, M, S, R, p⟩ := h
  rw [ev_asg] at p
  refine hte _ ⟨G, θ, Hd, ε, M, S, R, (p.onE (rel := rV K A) S).mono ?_⟩
  rintro v H1 ⟨θ1, Hd1, d, M1, e1, E1, R1, r1, p1⟩
  split at p1
  · rename_i ε' hb
    exact gTg_run R1 (S.up E1) r1 hb fun vs S' => p1.next R1 S'
  · exact p1.elim
theorem ds_set {i : Nat} {x : Str} {pos' : Pos} (hN : X.N.Nodup) (he : DE X A C W e ce) (hi : X.N[i]? = some x := by rfl) (hx : Loc X.env.scope x := by first | exact Or.inl rfl | exact Or.inr rfl) (hs : swapsWith e (some (.Name x pos')) pos.line X.env = Pure.pure false := by rfl)
    (hf : X.fn x = true ∨ X.env.scope.names.lookup x = some .local := by first | exact .inl rfl | exact .inr rfl | assumption) : DS X A C W (.Assign [.Name x pos'] e pos) (.asg (.name i) ce) :=
  PS.imp (ps_set hN hi hx he hs hf) fun D σ H h => tAsg_of (t := .name i) (fun _ h => h) h
theorem ds_asg {t : Tgt} (he : DE X A C W e ce) (hg : DG X tg t) (hs : swapsWithSole [tg] e pos.line X.env = Pure.pure false := by rfl) (hw : swappedStores [tg] e X.env = Pure.pure none := by rfl)
    (h1 : (assignEach [tg] X.env).map (·.2) = [assign tg X.env] := by rfl) : DS X A C W (.Assign [tg] e pos) (.asg t ce) :=
  PS.imp (ps_asg he hg hs hw h1) fun D σ H h => tAsg_of (fun _ h => h) h
section
variable {elt iter : Expr} {ifs : List Expr} {scope : Scope} {own : List (Str × Nat)} {g : Tgt} {kk : Wk} {oc : Option E} {i : Nat} {y : Str} {py spos : Pos}
theorem ds_setLc (hc : X.calm = true) (hN : X.N.Nodup) (hi : DI X A C W tg iter kk cs) (ok : BlkOk X.N X.env.scope scope own) (hsl : ∀ i ∈ g.slots, i ∈ own.map (·.2))
    (hg : ∀ (s : Shared) (H : Hp) (Cc : Addr) (cl : List (Str × Addr)) (fp : List Addr), DG (X.blk s H scope (compEnvC scope cl Cc X.env) fp) tg g)
    (ht : ∀ (s : Shared) (H : Hp) (Cc : Addr) (cl : List (Str × Addr)) (fp : List Addr), DTs (X.blk s H scope (compEnvC scope cl Cc X.env) fp) A C blkW ifs oc)
    (he : ∀ (s : Shared) (H : Hp) (Cc : Addr) (cl : List (Str × Addr)) (fp : List Addr), DE (X.blk s H scope (compEnvC scope cl Cc X.env) fp) A C blkW elt ce)
    (hsw : swapsWith (.ListComp elt [⟨tg, iter, ifs, 0⟩] scope pos) (some (.Name y py)) spos.line X.env = Pure.pure true)
    (hy : X.N[i]? = some y := by rfl) (hyl : X.env.scope.names.lookup y = some .local := by rfl) (hs : ∀ x, foldedSetIterable iter X.env x = Pure.pure x := by intro _; rfl) :
    DS X A C W (.Assign [.Name y py] (.ListComp elt [⟨tg, iter, ifs, 0⟩] scope pos) spos) (.asg (.name i) (.comp (own.map (·.2)) g kk cs oc ce)) :=
  PS.imp (ps_setLc (g := gTg X.K g) (tt := tD X.K A blkW rB (evalO C oc)) (te := tE X.K A C blkW ce) hc hN hy hyl hsw hi ok hg ht he hs) fun D σ H h => tAsg_of (t := .name i) (fun Q h => by
    unfold tE at h
    rw [ev_comp] at h
    exact tLc_of hsl comp_frz h) h
theorem ds_setLcB (hc : X.calm = true) (hN : X.N.Nodup) (hi : DI X A C W tg iter kk cs) (ok : BlkOk X.N X.env.scope scope own) (hsl : ∀ i ∈ g.slots, i ∈ own.map (·.2))
    (hg : ∀ (s : Shared) (H : Hp) (Cc : Addr) (cl : List (Str × Addr)) (fp : List Addr), DG (X.blk s H scope (compEnvC scope cl Cc X.env) fp) tg g)
    (ht : ∀ (s : Shared) (H : Hp) (Cc : Addr) (cl : List (Str × Addr)) (fp : List Addr), DTs (X.blk s H scope (compEnvC scope cl Cc X.env) fp) A C blkW ifs oc)
    (he : ∀ (s : Shared) (H : Hp) (Cc : Addr) (cl : List (Str × Addr)) (fp : List Addr), DE (X.blk s H scope (compEnvC scope cl Cc X.env) fp) A C blkW elt ce)
    (hsw : swapsWith (.ListComp elt [⟨tg, iter, ifs, 0⟩] scope pos) (some (.Name y py)) spos.line X.env = Pure.pure true)
    (hy : X.N[i]? = some y := by rfl) (hyl : X.env.scope.names.lookup y = some .local := by rfl) (hs : ∀ x, foldedSetIterable iter X.env x = Pure.pure x := by intro _; rfl) :
    DS X A C W (.Assign [.Name y py] (.ListComp elt [⟨tg, iter, ifs, 0⟩] scope pos) spos) (.asg (.name i) (.box (.comp (own.map (·.2)) g kk cs oc ce))) :=
  PS.imp (ps_setLc (g := gTg X.K g) (tt := tD X.K A blkW rB (evalO C oc)) (te := tE X.K A C blkW ce) hc hN hy hyl hsw hi ok hg ht he hs) fun D σ H h => tAsg_of (t := .name i) (fun Q h => by
    unfold tE at h
    rw [ev_boxcomp] at h
    exact tLc_of hsl comp_box h) h
end
theorem ds_par {i j : Nat} {x y : Str} {px py pt : Pos} {kt k2 pt2} (hc : X.calm = true) (hN : X.N.Nodup) (ha : DA X A C W [a, b] [ca, cb]) (hij : i ≠ j := by decide) (hi : X.N[i]? = some x := by rfl) (hj : X.N[j]? = some y := by rfl)
    (hx : X.env.scope.names.lookup x = some .local := by rfl) (hy : X.env.scope.names.lookup y = some .local := by rfl)
    (hw : swappedStores [.Tuple [.Name x px, .Name y py] kt pt] (.Tuple [a, b] k2 pt2) X.env = Pure.pure (some [x, y]) := by rfl)
    (hs : swapsWithSole [.Tuple [.Name x px, .Name y py] kt pt] (.Tuple [a, b] k2 pt2) pos.line X.env = Pure.pure false := by rfl) :
    DS X A C W (.Assign [.Tuple [.Name x px, .Name y py] kt pt] (.Tuple [a, b] k2 pt2) pos) (.par i j ca cb) := by
  refine PS.imp (ps_par hc hN hi hj hij hx hy ha hw hs) ?_
  rintro D σ H ⟨G, θ, Hd, ε, M, S, R, p⟩
  simp only [exec] at p
  refine ⟨G, θ, Hd, ε, M, S, R, ?_⟩
  have q := p.onE (rel := rV X.K A) S
  simp only [evals]
  cases h1 : eval C ca ε M with
  | none => rw [h1] at p; exact p
  | some r =>
  cases r with
  | exc c M1 => rw [h1] at q; exact q
  | ok d M1 =>
  rw [h1] at p
  simp only [onE_ok, bind_ok] at p ⊢
  have q2 := p.onE (rel := rV X.K A) S
  cases h2 : eval C cb ε M1 with
  | none => rw [h2] at p; exact p
  | some r =>
  cases r with
  | exc c M2 => rw [h2] at q2; exact q2
  | ok d2 M2 =>
  rw [h2] at p
  simp only [onE_ok, bind_ok] at p ⊢
  intro vs H1 θ1 Hd1 E1 R1 r1
  obtain ⟨v, w, rfl, rv, rw⟩ := Reps.inv2 r1
  exact ⟨v, w, rfl, (PostS.up p E1).next R1 (((S.up E1).set i rv).set j rw)⟩

/-! ### the plain ones -/
theorem ds_expr (he : DE X A C W e ce) (hs : swapsWith e none pos.line X.env = Pure.pure false := by rfl) : DS X A C W (.Expr e pos) (.expr ce) := by
  refine PS.imp (ps_expr he hs) ?_
  rintro D σ H ⟨G, θ, Hd, ε, M, S, R, p⟩
  simp only [exec] at p
  refine ⟨G, θ, Hd, ε, M, S, R, (p.onE S).mono ?_⟩
  rintro v H1 ⟨θ1, Hd1, d, M1, e1, E1, R1, r1, p1⟩
  exact p1.next R1 (S.up E1)
theorem ds_ret (he : DE X A C W e ce) : DS X A C W (.Return (some e) pos) (.ret ce) := by
  refine PS.imp (ps_ret he) ?_
  rintro D σ H ⟨G, θ, Hd, ε, M, S, R, p⟩
  simp only [exec] at p
  refine ⟨G, θ, Hd, ε, M, S, R, (p.onE S).mono ?_⟩
  rintro v H1 ⟨θ1, Hd1, d, M1, e1, E1, R1, r1, p1⟩
  exact p1 v H1 _ _ (Ext.refl _ _) R1 r1
theorem ds_retN : DS X A C W (.Return none pos) (.ret (.con .non)) := by
  refine PS.imp ps_retN ?_
  rintro D σ H ⟨G, θ, Hd, ε, M, S, R, p⟩
  simp only [exec, eval, onE_ok] at p
  exact p _ _ _ _ (Ext.refl _ _) R .non
theorem ds_pass : DS X A C W (.Pass pos) .pass := by
  refine PS.imp ps_pass ?_
  rintro D σ H ⟨G, θ, Hd, ε, M, S, R, p⟩
  simp only [exec] at p
  exact p.next R S
theorem ds_doc {x j pos'} : DS X A C W (.Expr (.Constant (.str x) j pos) pos') .pass := by
  refine PS.imp ps_doc ?_
  rintro D σ H ⟨G, θ, Hd, ε, M, S, R, p⟩
  simp only [exec] at p
  exact p.next R S
theorem ds_brk : DS X A C W (.Break pos) .brk := by
  refine PS.imp ps_break ?_
  rintro D σ H ⟨G, θ, Hd, ε, M, S, R, p⟩
  simp only [exec] at p
  exact p _ _ _ _ (Ext.refl _ _) R S
theorem onE_test {K : PySem.W.Frag} {G : Gd} {θ : Th} {Hd : Hp} {D : Ends} {ε : Env} {M : Mem} {f : Bool → Mem → Option RS} (p : PostS K A G W (onE (eval C ce ε M) ε fun x M => match truth x M with | some b => f b M | none => none) θ Hd D) : PostS K A G W (onE (evT C ce ε M) ε f) θ Hd D := by
  unfold evT
  cases h : eval C ce ε M with
  | none => rw [h] at p; exact p
  | some r =>
    rw [h] at p
    cases r with
    | exc c M1 => exact p
    | ok d M1 =>
      simp only [onE_ok, bind_ok] at p ⊢
      cases h2 : truth d M1 with
      | none => rw [h2] at p; exact p
      | some b => rw [h2] at p; exact p
theorem ds_if {sa sb : List Stmt} {ka kb : List S} (hc : DT X A C W c cc) (ha : DSs X A C W sa ka) (hb : DSs X A C W sb kb) : DS X A C W (.If c sa sb pos) (.ite cc ka kb) := by
  refine PS.imp (ps_if hc ha hb) ?_
  rintro D σ H ⟨G, θ, Hd, ε, M, S, R, p⟩
  have p : PostS X.K A G W (onE (evT C cc ε M) ε fun b M => if b = true then execs C ka ε M else execs C kb ε M) θ Hd D := by
    refine onE_test ?_
    simp only [exec] at p
    have e : (fun (x : Dw.D) (M : Mem) => (match truth x M with | some true => execs C ka ε M | some false => execs C kb ε M | none => none)) = fun x M => (match truth x M with | some b => (if b = true then execs C ka ε M else execs C kb ε M) | none => none) := by
      funext x M
      cases truth x M with
      | none => rfl
      | some b => cases b <;> rfl
    rw [← e]
    exact p
  refine ⟨G, θ, Hd, ε, M, S, R, (p.onE S).mono ?_⟩
  rintro b H1 ⟨θ1, Hd1, b', M1, e1, E1, R1, rfl, p1⟩
  cases b with
  | true => exact ⟨G, θ1, Hd1, ε, M1, S.up E1, R1, p1⟩
  | false => exact ⟨G, θ1, Hd1, ε, M1, S.up E1, R1, p1⟩

/-! ### loops -/
theorem ds_while {body : List Stmt} {kb : List S} (hp : PassesOwn (model X.prog X.w) X.A X.env X.xe) (hc : DT X A C W c cc) (hb : DSs X A C W body kb) : DS X A C W (.While c body [] pos) (.while_ cc kb) := by
  refine PS.imp (ps_while hp hc hb) ?_
  rintro D σ H ⟨G, θ, Hd, ε, M, S, R, p⟩
  simp only [exec] at p
  refine ⟨fun m σ H => ∃ θ Hd ε M, SL X.K A θ Hd ε σ ∧ RG X.K A G θ Hd M H ∧ PostS X.K A G W (whileLoop (evT C cc) (execs C kb) m ε M) θ Hd D, ⟨C.wf, θ, Hd, ε, M, S, R, p⟩, ?_⟩
  rintro m σ H ⟨θ, Hd, ε, M, S, R, p⟩
  cases m with
  | zero => exact p.elim
  | succ m =>
    simp only [whileLoop] at p
    refine ⟨G, θ, Hd, ε, M, S, R, (p.onE S).mono ?_⟩
    rintro b H1 ⟨θ1, Hd1, b', M1, e1, E1, R1, rfl, p1⟩
    cases b with
    | false =>
      rw [if_neg (by decide)]
      exact p1.next R1 (S.up E1)
    | true =>
      rw [if_pos rfl]
      refine ⟨_, fun σ' H' w => ⟨m, Nat.lt_succ_self m, w⟩, G, θ1, Hd1, ε, M1, S.up E1, R1, ?_⟩
      cases h : execs C kb ε M1 with
      | none => rw [h] at p1; exact p1
      | some r =>
        rw [h] at p1
        cases r with
        | next ε' M' => exact fun σ' H' θ' Hd' E R' S' => ⟨θ', Hd', ε', M', S', R', PostS.up p1 E⟩
        | ret d M' => exact p1
        | brk ε' M' => exact p1
        | exc c ε' M' => exact p1
theorem ds_for {iter : Expr} {body : List Stmt} {kb : List S} {kk : Wk} {t : Tgt} (hp : PassesOwn (model X.prog X.w) X.A X.env X.xe) (hc : X.calm = true) (hi : DI X A C W tg iter kk cs) (hg : DG X tg t) (hb : DSs X A C W body kb)
    (hs : ∀ x, foldedSetIterable iter X.env x = Pure.pure x := by intro _; rfl) : DS X A C W (.For tg iter body [] pos) (.for_ t kk cs kb) := by
  refine PS.imp (ps_for hp hc hi hg hb hs) ?_
  rintro D σ H ⟨G, θ, Hd, ε, M, S, R, p⟩
  simp only [exec] at p
  refine ⟨G, θ, Hd, ε, M, S, R, ?_⟩
  have q0 := p.onE (rel := rVs X.K A) S
  cases h1 : evals C cs ε M with
  | none => rw [h1] at p; exact p
  | some r =>
  cases r with
  | exc c M1 => rw [h1] at q0; exact q0
  | ok ds M1 =>
  rw [h1] at p
  simp only [onE_ok, bind_ok] at p ⊢
  cases h2 : items kk ds M1 with
  | none => rw [h2] at p; exact p
  | some xs =>
  rw [h2] at p
  simp only at p
  intro J H1 θ1 Hd1 E1 R1 y1
  refine ⟨fun i m σ H => ∃ θ2 Hd2 ε2 M2, m = xs.length - i ∧ i ≤ xs.length ∧ Ext θ1 Hd1 θ2 Hd2 ∧ SL X.K A θ2 Hd2 ε2 σ ∧ RG X.K A G θ2 Hd2 M2 H ∧ PostS X.K A G W (forLoop (execs C kb) t (xs.drop i) ε2 M2) θ2 Hd2 D,
    ⟨xs.length, θ1, Hd1, ε, M1, rfl, Nat.zero_le _, Ext.refl _ _, S.up E1, R1, PostS.up p E1⟩, ?_⟩
  rintro i m σ H ⟨θ2, Hd2, ε2, M2, rfl, hil, E2, S2, R2, p2⟩
  by_cases hlt : i < xs.length
  · refine .inr ?_
    have hx : xs[i]? = some xs[i] := List.getElem?_eq_getElem hlt
    obtain ⟨go, yl⟩ := (y1 _ _ _ _ _ E2 R2).1 i _ hx
    rw [List.drop_eq_getElem_cons hlt] at p2
    simp only [forLoop] at p2
    cases hb : bindT t ε2 xs[i] with
    | none => rw [hb] at p2; exact p2.elim
    | some ε' =>
    rw [hb] at p2
    simp only at p2
    refine ⟨go, fun σ' H' => ∃ θ3 Hd3 ε3 M3, Ext θ1 Hd1 θ3 Hd3 ∧ SL X.K A θ3 Hd3 ε3 σ' ∧ RG X.K A G θ3 Hd3 M3 H' ∧ PostS X.K A G W (forLoop (execs C kb) t (xs.drop (i + 1)) ε3 M3) θ3 Hd3 D, ?_, ?_⟩
    · rintro σ' H' ⟨θ3, Hd3, ε3, M3, k1, k2, k3, k4⟩
      exact ⟨xs.length - (i + 1), by omega, θ3, Hd3, ε3, M3, rfl, hlt, k1, k2, k3, k4⟩
    · intro x H3 hy
      obtain ⟨Hd3, E3, R3, r3⟩ := yl x H3 hy
      refine gTg_run R3 (S2.up E3) r3 hb fun vs S3 => ⟨G, θ2, Hd3, ε', M2, S3, R3, ?_⟩
      have p3 := PostS.up p2 E3
      cases h : execs C kb ε' M2 with
      | none => rw [h] at p3; exact p3
      | some r =>
        rw [h] at p3
        cases r with
        | next ε4 M4 => exact fun σ' H' θ' Hd' E R' S' => ⟨θ', Hd', ε4, M4, E2.trans (E3.trans E), S', R', PostS.up p3 E⟩
        | ret d M' => exact p3
        | brk ε' M' => exact p3
        | exc c ε' M' => exact p3
  · have e : i = xs.length := by omega
    subst e
    rw [List.drop_length] at p2
    exact .inl ⟨(y1 _ _ _ _ _ E2 R2).2, p2.next R2 S2⟩
end
end Dw
/-! Dw12: what is written to; errors. -/
namespace Dw
open PySem L2 PyProof.Rows
section
variable {X : Cx} {A : We} {C : Cfg} {W : WX} {a b c e o tg : Expr} {ca cb cc ce co ci : E} {pos : Pos} {es : List Expr} {cs : List E} {st : Stmt} {sts : List Stmt} {k : S} {ks : List S}

/-! ### name += e, o.f = e, o.f += e, o[i] = e -/
theorem ds_aug {i : Nat} {x : Str} {pos' : Pos} (hN : X.N.Nodup) (he : DE X A C W e ce) (hi : X.N[i]? = some x := by rfl) (hx : Loc X.env.scope x := by first | exact Or.inl rfl | exact Or.inr rfl)
    (hf : X.fn x = true ∨ X.env.scope.names.lookup x = some .local := by first | exact .inl rfl | exact .inr rfl | assumption) : DS X A C W (.AugAssign (.Name x pos') .Add e pos) (.aug i .add ce) := by
  refine PS.imp (ps_aug hN hi hx he ip_add hf) ?_
  rintro D σ H ⟨G, θ, Hd, ε, M, S, R, p⟩
  simp only [exec] at p
  cases h : ε[i]? with
  | none => simp only [h] at p; exact p.elim
  | some sl =>
  cases sl with
  | no => simp only [h] at p; exact p.elim
  | exc c => simp only [h] at p; exact p.elim
  | is d =>
  simp only [h] at p
  obtain ⟨v, e1, rv⟩ := S.2.1 _ _ h
  refine ⟨v, e1, G, θ, Hd, ε, M, S, R, (p.onE S).mono ?_⟩
  rintro u H1 ⟨θ1, Hd1, d2, M1, e2, E1, R1, r1, p1⟩
  cases d <;> try exact p1.elim
  cases d2 <;> try exact p1.elim
  cases rv
  cases r1
  simp only [binop] at p1
  exact ⟨_, _, rfl, rfl, p1.next R1 ((S.up E1).set i (.int _))⟩
theorem keys_put {f : Str} {y : V} : ∀ {fs : List (Str × V)} {l : List Str} {k n : Nat}, fs.length = n → fs.map (·.1) = l.take n → l.Nodup → l[k]? = some f → k < n → putF f y fs = fs.set k (f, y)
  | [], _, _, _, rfl, _, _, _, h => by simp at h
  | (g, u) :: fs, [], _, _, rfl, h, _, _, _ => by simp at h
  | (g, u) :: fs, m :: l, 0, _, rfl, h, nd, hf, hk => by
    simp only [List.map_cons, List.length_cons, List.take_succ_cons, List.cons.injEq] at h
    simp only [List.getElem?_cons_zero, Option.some.injEq] at hf
    subst hf
    simp [putF, h.1]
  | (g, u) :: fs, m :: l, k + 1, _, rfl, h, nd, hf, hk => by
    simp only [List.map_cons, List.length_cons, List.take_succ_cons, List.cons.injEq] at h
    simp only [List.getElem?_cons_succ] at hf
    have ih := keys_put (y := y) rfl h.2 (List.nodup_cons.mp nd).2 hf (by simpa using hk)
    have ne : ¬ g = f := by
      intro z
      rw [h.1] at z
      exact (List.nodup_cons.mp nd).1 (z ▸ List.mem_of_getElem? hf)
    simp [putF, ne, ih]
theorem keys_app {f : Str} {y : V} : ∀ {fs : List (Str × V)} {l : List Str} {n : Nat}, fs.length = n → fs.map (·.1) = l.take n → l.Nodup → l[n]? = some f → putF f y fs = fs ++ [(f, y)]
  | [], _, _, rfl, _, _, _ => rfl
  | (g, u) :: fs, [], _, rfl, h, _, _ => by simp at h
  | (g, u) :: fs, m :: l, _, rfl, h, nd, hf => by
    simp only [List.map_cons, List.length_cons, List.take_succ_cons, List.cons.injEq] at h
    simp only [List.length_cons, List.getElem?_cons_succ] at hf
    have ih := keys_app (y := y) rfl h.2 (List.nodup_cons.mp nd).2 hf
    have ne : ¬ g = f := by
      intro z
      rw [h.1] at z
      exact (List.nodup_cons.mp nd).1 (z ▸ List.mem_of_getElem? hf)
    simp [putF, ne, ih]
theorem set_at {α : Type} : ∀ {l : List α} {k : Nat} {x : α}, l[k]? = some x → l.set k x = l
  | [], _, _, h => by simp at h
  | _ :: _, 0, _, h => by simp at h; simp [h]
  | _ :: l, k + 1, _, h => by simp at h; simp [set_at h]
/-- a field is written -/
theorem fld_put {G : Gd} {θ : Th} {Hd : Hp} {M M' : Mem} {H : Hp} {f : Str} {fid : Nat} {x y : V} {dx d : D} (hf : FOk X.K A C f fid) (R : RG X.K A G θ Hd M H) (rx : Rep X.K A Hd θ x dx) (ry : Rep X.K A Hd θ y d) (h : fldSet C dx fid d M = some M') :
    ∃ a c w fs, x = .ref a ∧ H a = some (.ins (A.ca c) w fs) ∧ Cls X.K (A.ca c) ∧ NoAttr X.K (A.ca c) f ∧ fs.length < 1000 ∧ RG X.K A G θ Hd M' (upd H a (.ins (A.ca c) w (putF f y fs))) ∧ clsOf dx M = some c := by
  cases dx <;> simp only [fldSet, reduceCtorEq] at h
  rename_i n
  cases rx with | ref hr =>
  split at h
  · rename_i c ds hm
    cases hk : C.fix c fid with
    | none => rw [hk] at h; cases h
    | some k =>
      simp only [hk] at h
      obtain ⟨k1, k2, k3, k4⟩ := hf c k hk
      have k5 := k4.2
      obtain ⟨a, u, h1, h2, h3, h4⟩ := R.own _ _ hm (by intro z; cases z)
      rw [hr] at h1; cases h1
      cases u <;> first | exact h4.elim | skip
      rename_i Cc w fs
      obtain ⟨rfl, j2, j3, j4⟩ := h4
      have hl : fs.length = ds.length := by have := j4.length; rw [List.length_map] at this; exact this
      have hm2 : fs.map (·.1) = (A.fl c).take fs.length := by rw [hl]; exact j2
      have hlen : k < (A.fl c).length := (List.getElem?_eq_some_iff.mp k3).1
      split at h
      · rename_i hlt
        cases h
        have e := keys_put (y := y) (f := f) rfl hm2 k4.1 k3 (by rw [hl]; exact hlt)
        have hk1 : (fs.map (·.1))[k]? = some f := by rw [hm2, List.getElem?_take, if_pos (by rw [hl]; exact hlt)]; exact k3
        refine ⟨_, _, w, fs, rfl, h3, k1, k2, by omega, ?_, by simp only [clsOf, hm]⟩
        · rw [e]
          refine R.write hm (by intro z; cases z) hr (u' := .ins _ w (fs.set k (f, y))) (o' := .ins c (ds.set k d)) ⟨rfl, ?_, ?_, ?_⟩
          · rw [List.map_set, List.length_set, ← j2]
            exact set_at hk1
          · rw [List.length_set]; exact j3
          · rw [List.map_set]; exact j4.set ry k
      · split at h
        · rename_i hlt hk2
          cases h
          obtain ⟨rfl, h100⟩ := hk2
          have e := keys_app (y := y) (f := f) rfl hm2 k4.1 (by rw [hl]; exact k3)
          refine ⟨_, _, w, fs, rfl, h3, k1, k2, by omega, ?_, by simp only [clsOf, hm]⟩
          rw [e]
          refine R.write hm (by intro z; cases z) hr (u' := .ins _ w (fs ++ [(f, y)])) (o' := .ins c (ds ++ [d])) ⟨rfl, ?_, ?_, ?_⟩
          · rw [List.map_append, List.length_append, List.length_singleton, j2]
            rw [List.take_succ, k3]
            rfl
          · rw [List.length_append, List.length_singleton]; exact hlen
          · rw [List.map_append]; exact j4.append (.one ry)
        · cases h
  · cases h
theorem ds_fld {f : Str} {fid : Nat} {pos' : Pos} (hf : FOk X.K A C f fid) (ho : DE X A C W o co) (he : DE X A C W e ce) (hs : swapsWith e (some (.Attribute o f pos')) pos.line X.env = Pure.pure false := by rfl) : DS X A C W (.Assign [.Attribute o f pos'] e pos) (.fld co fid ce) := by
  refine PS.imp (ps_fld ho he hs) ?_
  rintro D σ H ⟨G, θ, Hd, ε, M, S, R, p⟩
  simp only [exec] at p
  refine ⟨G, θ, Hd, ε, M, S, R, (p.onE S).mono ?_⟩
  rintro y H1 ⟨θ1, Hd1, d, M1, e1, E1, R1, r1, p1⟩
  refine ⟨G, θ1, Hd1, ε, M1, S.up E1, R1, (p1.onE (S.up E1)).mono ?_⟩
  rintro x H2 ⟨θ2, Hd2, dx, M2, e2, E2, R2, r2, p2⟩
  cases h : fldSet C dx fid d M2 with
  | none => simp only [h] at p2; exact p2.elim
  | some M3 =>
    simp only [h] at p2
    obtain ⟨a, Cc, w, fs, rfl, h1, h2, h3, h4, R3, _⟩ := fld_put hf R2 r2 (r1.up E2) h
    exact ⟨a, A.ca Cc, w, fs, rfl, h1, h2, h3, h4, p2.next R3 (S.up (E1.trans E2))⟩
theorem ds_augFld {f : Str} {fid : Nat} {pos' p2 : Pos} {z : Int} {j : Nat} (hf : FOk X.K A C f fid) (ho : DE X A C W o co) : DS X A C W (.AugAssign (.Attribute o f pos') .Add (.Constant (.int z) j p2) pos) (.augFld co fid .add (.con (.int z))) := by
  refine PS.imp (ps_fldaug ho (de_int (C := C) (A := A) (W := W)) in_add) ?_
  rintro D σ H ⟨G, θ, Hd, ε, M, S, R, p⟩
  simp only [exec, eval, onE_ok] at p
  refine ⟨G, θ, Hd, ε, M, S, R, (p.onE S).mono ?_⟩
  rintro x H1 ⟨θ1, Hd1, dx, M1, e1, E1, R1, r1, p1⟩
  cases hu : fieldOf C dx fid M1 with
  | none => simp only [hu] at p1; exact p1.elim
  | some u =>
    simp only [hu] at p1
    obtain ⟨a, c1, w, fs, v, rfl, h1, h2, h3, h4, rv, hc1⟩ := field_V hf R1 r1 hu
    cases u <;> try exact p1.elim
    simp only [binop] at p1
    refine ⟨a, _, w, fs, v, rfl, h1, h2, h3, h4, G, θ1, Hd1, ε, M1, S.up E1, R1, ?_⟩
    simp only [eval]
    intro y H2 θ2 Hd2 E2 R2 r2
    cases rv
    cases r2
    split at p1
    · rename_i M3 h
      obtain ⟨a', c2, w', fs', e', g1, g2, g3, g4, R3, hc2⟩ := fld_put hf R2 (r1.up E2) (.int _) h
      cases e'
      rw [hc1] at hc2; cases hc2
      exact ⟨_, _, rfl, rfl, w', fs', g1, g4, (PostS.up p1 E2).next R3 (S.up (E1.trans E2))⟩
    · exact p1.elim
/-- o[i] = e of a list or a dict -/
theorem set_or (hu : X.A.units + 1 < cLine) : PSet X (fun o i v H Q => rSetL o i v H Q ∨ rSetD o i v H Q) := fun pins s σ H o i v ov iv u Q I ro ri rv h => h.elim (fun h => set_list pins s σ H o i v ov iv u Q I ro ri rv h) fun h => set_dict hu pins s σ H o i v ov iv u Q I ro ri rv h
theorem ds_sub {i : Expr} {pos' : Pos} (hu : X.A.units + 1 < cLine) (ho : DE X A C W o co) (hi : DE X A C W i ci) (he : DE X A C W e ce) (hs : swapsWithSole [.Subscript o i pos'] e pos.line X.env = Pure.pure false := by rfl) (hw : swappedStores [.Subscript o i pos'] e X.env = Pure.pure none := by rfl)
    (h1 : (assignEach [.Subscript o i pos'] X.env).map (·.2) = [assign (.Subscript o i pos') X.env] := by rfl)
    (ha : ∀ v, assign (.Subscript o i pos') X.env v = (do
      let ov ← holding [v] (PySem.eval o X.env)
      let iv ← holding [v, ov] (PySem.eval i X.env)
      standAt pos'
      holding [v, ov, iv] (setItem ov iv v)
      release [v, ov, iv] []) := by intro _; rfl) : DS X A C W (.Assign [.Subscript o i pos'] e pos) (.sub co ci ce) := by
  refine PS.imp (ps_asg he (pg_sub ho hi (set_or hu) ha) hs hw h1) ?_
  rintro D σ H ⟨G, θ, Hd, ε, M, S, R, p⟩
  simp only [exec] at p
  refine ⟨G, θ, Hd, ε, M, S, R, (p.onE S).mono ?_⟩
  rintro v H1 ⟨θ1, Hd1, d, M1, e1, E1, R1, r1, p1⟩
  refine ⟨G, θ1, Hd1, ε, M1, S.up E1, R1, (p1.onE (S.up E1)).mono ?_⟩
  rintro x H2 ⟨θ2, Hd2, dx, M2, e2, E2, R2, r2, p2⟩
  refine ⟨G, θ2, Hd2, ε, M2, S.up (E1.trans E2), R2, (p2.onE (S.up (E1.trans E2))).mono ?_⟩
  rintro y H3 ⟨θ3, Hd3, dy, M3, e3, E3, R3, r3, p3⟩
  have rv := r1.up (E2.trans E3)
  have rx := r2.up E3
  have S3 := S.up (E1.trans (E2.trans E3))
  cases h : subSet dx dy d M3 with
  | none => simp only [h] at p3; exact p3.elim
  | some M4 =>
  simp only [h] at p3
  cases dx <;> simp only [subSet, reduceCtorEq] at h
  rename_i n
  split at h
  · rename_i ds hm
    split at h <;> try (cases h; done)
    rename_i kk
    split at h <;> cases h
    rename_i j hj
    obtain ⟨q, xs, rfl, ht, h1, h2⟩ := lst_at R3 rx hm
    cases r3
    refine .inl ⟨q, xs, kk, j, rfl, rfl, h1, by rw [h2.length]; exact hj, ?_⟩
    exact p3.next (R3.write hm (by intro z; cases z) ht (u' := .lst (xs.set j v)) (o' := .lst (ds.set j d)) (h2.set rv j)) S3
  · rename_i l hm
    split at h <;> try (cases h; done)
    rename_i kk hk
    split at h <;> cases h
    rename_i hz
    obtain ⟨q, kvs, rfl, ht, h1, h2, h3⟩ := dct_at R3 rx hm
    rw [key_some hk] at r3
    have e4 := key_V r3
    subst e4
    have hl : kvs.length = l.length := by have := congrArg List.length h2; simpa using this
    refine .inr ⟨q, _, rfl, .inl ⟨kvs, kk, h1, rfl, by rw [hl]; exact hz, rfl⟩, ?_⟩
    exact p3.next (R3.write hm (by intro z; cases z) ht (u' := .dK (putK kvs kk v)) (o' := .dct (dput l kk d)) (dput_rep rv h2 h3)) S3
  · cases h

/-! ### raise -/
theorem ds_raise {c : Nat} {x m : Str} {j : Nat} {p p2 pos2 : Pos} {bmB : List Value} {B newId initId : String} (hc : X.calm = true) (tk : L2N.Takes X W) (F : ExcBaseFacts B newId initId bmB) (q : PySem.W.excIn X.K (A.ca c) bmB newId = true) (gC : X.mg x = some (.ref (A.ca c)))
    (kC : PySem.W.keepIn X.K (.ref (A.ca c)) = true) (r : Raises X (.ref (A.ca c))) (hg : Gl X x := by rfl) (hdb : (x == ("__debug__" : Str)) = false := by decide) :
    DS X A C W (.Raise (some (.Call (.Name x p) [.Constant (.str m) j p2] [] pos2)) none pos) (.raise c) := by
  refine PS.imp (L2N.ps_raise hc tk (L2N.pmk_own F q gC kC r hg hdb)) ?_
  rintro D σ H ⟨G, θ, Hd, ε, M, S, R, p⟩
  simp only [exec] at p
  exact p σ H θ Hd (Ext.refl _ _) R S

/-! ### try -/
/-- the class cv in an except clause, told as k -/
def HOkC (K : PySem.W.Frag) (A : Wd) (C : Cfg) (k : Nat) (cv : Value) : Prop := ∀ c b, C.sub c k = some b → PySem.W.exmOne K (.ref (A.ca c)) cv = some b
/-- the reading of a suite: the error stands at a -/
def tSu (K : PySem.W.Frag) (A : We) (i : Option Nat) (ks : List S) (C : Cfg) : Addr → Value → Option Addr → TS := fun a cls d D σ H => ∃ c, cls = .ref (A.ca c) ∧ d = none ∧ match i with
  | some i => tS K { A with ea := some (i, a, c) } blkW (execs C ks) D σ H
  | none => tS K A blkW (execs C ks) D σ H
theorem suite_as {K : PySem.W.Frag} {A : We} {G : Gd} {W : WX} {θ : Th} {Hd : Hp} {D : Ends} {i : Nat} {a : Addr} {c : Nat} {r : Option RS} (p : PostS K A G W (unbind (some i) r) θ Hd D) :
    PostS K { A with ea := some (i, a, c) } G blkW r θ Hd { nx := fun σ' H' => D.nx (σ'.set i none) H', rt := D.rt, bk := fun σ' H' => D.bk (σ'.set i none) H', ct := fun σ' H' => D.ct (σ'.set i none) H' } := by
  cases r with
  | none => exact p
  | some r =>
    cases r with
    | next ε M => exact fun σ H θ' Hd' E R S => p _ _ _ _ E R S.leave
    | brk ε M => exact fun σ H θ' Hd' E R S => p _ _ _ _ E R S.leave
    | ret d M => exact p
    | exc c ε M => exact p.elim
theorem suite_only {K : PySem.W.Frag} {A : We} {G : Gd} {W : WX} {θ : Th} {Hd : Hp} {D : Ends} {r : Option RS} (p : PostS K A G W (unbind none r) θ Hd D) : PostS K A G blkW r θ Hd D := by
  cases r with
  | none => exact p
  | some r =>
    cases r with
    | next ε M => exact p
    | brk ε M => exact p
    | ret d M => exact p
    | exc c ε M => exact p.elim
theorem ds_try_as {x n : Str} {cv : Value} {i k : Nat} {body suite : List Stmt} {b₀ : Stmt} {np pos' : Pos} {kb ks : List S} (hs : X.stack = X.env :: X.outer) (hf : X.env.frame = some X.env.locals) (hN : X.N.Nodup) (hc : Names X x cv) (tk : L2N.Takes X W) (hn : A.ea = none) (hk : HOkC X.K A C k cv)
    (hb : ∀ (W : WX) (pn : List (Addr × Obj)) (xe : Value → Shared → Prop), L2N.Takes (X.tr pn xe) W → PassesOwn (model X.prog X.w) X.A X.env xe → DSs (X.tr pn xe) A C W body kb)
    (hsu : ∀ (a : Addr) (oe : Obj) (c : Nat) (pn : List (Addr × Obj)), L2N.Zn (.ref (A.ca c)) none oe → (∃ vs, oe.data = .fields vs) → DSs (X.suite a ((a, oe) :: pn)) { A with ea := some (i, a, c) } C blkW (b₀ :: suite) ks)
    (hi : X.N[i]? = some n := by rfl) (hln : X.env.kindOf n = some .local := by rfl) :
    DS X A C W (.Try body [.ExceptHandler (some (.Name x np)) (some n) (b₀ :: suite) pos'] [] [] pos) (.try_ kb [(k, some i, ks)]) := by
  refine PS.imp (L2N.ps_try_as (tb := fun W => tS X.K A W (execs C kb)) (ts := tSu X.K A (some i) ks C) hs hf hN hi hln hc tk hb (fun a oe cls d pn hz hv => ⟨fun pins s σ H D I h => ?_⟩)) ?_
  · obtain ⟨c, rfl, rfl, h⟩ := h
    exact (hsu a oe c pn hz hv).run pins s σ H D I h
  · rintro D σ H ⟨G, θ, Hd, ε, M, S, R, p⟩
    refine ⟨G, θ, Hd, ε, M, S, R, ?_⟩
    simp only [exec] at p
    cases h : execs C kb ε M with
    | none => rw [h] at p; exact p
    | some r =>
    rw [h] at p
    cases r with
    | next ε' M' => exact p
    | ret d M' => exact p
    | brk ε' M' => exact p
    | exc c ε' M' =>
    simp only [handle] at p
    cases hsb : C.sub c k with
    | none => simp only [hsb] at p; exact p.elim
    | some b =>
    intro σ1 H1 θ1 Hd1 E1 R1 S1
    refine ⟨b, hk c b hsb, ?_, ?_⟩
    · rintro rfl a ha
      simp only [hsb] at p
      exact ⟨c, rfl, rfl, G, θ1, Hd1, _, M', S1.enter hn i a c, R1, suite_as (PostS.up p E1)⟩
    · rintro rfl
      simp only [hsb] at p
      exact p _ _ _ _ E1 R1 S1
/-- clauses without a name -/
inductive DHs (X : Cx) (A : We) (C : Cfg) : List ExceptHandler → List (Nat × Option Nat × List S) → List (Value × (Addr → Value → Option Addr → TS)) → Prop
  | nil : DHs X A C [] [] []
  | cons {x : Str} {cv : Value} {k : Nat} {b₀ : Stmt} {suite : List Stmt} {np pos' : Pos} {ks : List S} {hds : List ExceptHandler} {hs : List (Nat × Option Nat × List S)} {l : List (Value × (Addr → Value → Option Addr → TS))} (hc : Names X x cv) (hk : HOkC X.K A C k cv)
      (hsu : ∀ (a : Addr) (oe : Obj) (c : Nat) (pn : List (Addr × Obj)), L2N.Zn (.ref (A.ca c)) none oe → (∃ vs, oe.data = .fields vs) → DSs (X.suite a ((a, oe) :: pn)) A C blkW (b₀ :: suite) ks) (r : DHs X A C hds hs l) :
      DHs X A C (.ExceptHandler (some (.Name x np)) none (b₀ :: suite) pos' :: hds) ((k, none, ks) :: hs) ((cv, tSu X.K A none ks C) :: l)
theorem DHs.ok {hds : List ExceptHandler} {hs : List (Nat × Option Nat × List S)} {l : List (Value × (Addr → Value → Option Addr → TS))} (h : DHs X A C hds hs l) : L2N.HdsOk X hds l := by
  induction h with
  | nil => exact .nil
  | cons hc hk hsu r ih =>
    refine .cons hc (fun a oe cls d pn hz hv => ⟨fun pins s σ H D I h => ?_⟩) ih
    obtain ⟨c, rfl, rfl, h⟩ := h
    exact (hsu a oe c pn hz hv).run pins s σ H D I h
theorem DHs.many {hds : List ExceptHandler} {hs : List (Nat × Option Nat × List S)} {l : List (Value × (Addr → Value → Option Addr → TS))} (h : DHs X A C hds hs l) {G : Gd} {θ : Th} {Hd : Hp} {D : Ends} {c : Nat} {ε : Env} {M : Mem} (p : PostS X.K A G W (handle C hs c ε M) θ Hd D) :
    ∀ σ H θ' Hd', Ext θ Hd θ' Hd' → RG X.K A G θ' Hd' M H → SL X.K A θ' Hd' ε σ → L2.wMany X.K W D l (.ref (A.ca c)) none σ H := by
  induction h with
  | nil => simp only [handle] at p; exact p
  | @cons x cv k b₀ suite np pos' ks hds hs l hc hk hsu r ih =>
    intro σ1 H1 θ1 Hd1 E1 R1 S1
    simp only [handle] at p
    cases hsb : C.sub c k with
    | none => simp only [hsb] at p; exact p.elim
    | some b =>
    refine ⟨b, hk c b hsb, ?_, ?_⟩
    · rintro rfl a ha
      simp only [hsb] at p
      exact ⟨c, rfl, rfl, G, θ1, Hd1, ε, M, S1, R1, suite_only (PostS.up p E1)⟩
    · rintro rfl
      simp only [hsb] at p
      exact ih p _ _ _ _ E1 R1 S1
theorem ds_try {body : List Stmt} {kb : List S} {h₀ : ExceptHandler} {hds : List ExceptHandler} {hh : List (Nat × Option Nat × List S)} {l : List (Value × (Addr → Value → Option Addr → TS))} (hs : X.stack = X.env :: X.outer) (hf : X.env.frame = some X.env.locals) (tk : L2N.Takes X W)
    (hb : ∀ (W : WX) (pn : List (Addr × Obj)) (xe : Value → Shared → Prop), L2N.Takes (X.tr pn xe) W → PassesOwn (model X.prog X.w) X.A X.env xe → DSs (X.tr pn xe) A C W body kb)
    (dh : DHs X A C (h₀ :: hds) hh l) : DS X A C W (.Try body (h₀ :: hds) [] [] pos) (.try_ kb hh) := by
  refine PS.imp (L2N.ps_try_many (tb := fun W => tS X.K A W (execs C kb)) hs hf tk hb dh.ok) ?_
  rintro D σ H ⟨G, θ, Hd, ε, M, S, R, p⟩
  refine ⟨G, θ, Hd, ε, M, S, R, ?_⟩
  simp only [exec] at p
  cases h : execs C kb ε M with
  | none => rw [h] at p; exact p
  | some r =>
  rw [h] at p
  cases r with
  | next ε' M' => exact p
  | ret d M' => exact p
  | brk ε' M' => exact p
  | exc c ε' M' => exact dh.many p
end
end Dw
/-! Dw13: defs, the whole program. -/
namespace Dw
open PySem L2 PyProof.Rows
section
variable {K : PySem.W.Frag} {A : Wd} {G : Gd} {W : WX} {θ θ' : Th} {Hd Hd' : Hp}

theorem Rep.none {v : V} {d : D} (h : Rep K A Hd θ v d) (c : Dw.clean d = true) : Rep K A Hd (fun _ => Option.none) v d := Rep.clean (E := Ext.refl _ _) d v c h
theorem Reps.none {v : List V} {d : List D} (h : Reps K A Hd θ v d) (c : Dw.cleans d = true) : Reps K A Hd (fun _ => Option.none) v d := Reps.clean (E := Ext.refl _ _) d v c h
theorem sub_none (θ : Th) : Sub (fun _ => Option.none) θ := fun _ _ h => nomatch h
theorem SL.start {A : We} {N : List Str} {vs : List V} {ds : List D} {sl : Nat} (hN : sl = N.length) (r : Reps K A Hd θ vs ds) : SL K A θ Hd (Dw.start ds sl) (L2.start N vs) := by
  subst hN
  have hl := r.length
  refine ⟨by simp [Dw.start, L2.start, hl], fun i d h => ?_, fun i c h => ?_⟩
  · unfold Dw.start at h
    by_cases hi : i < ds.length
    · rw [List.getElem?_append_left (by simpa using hi), List.getElem?_map] at h
      cases e : ds[i]? with
      | none => rw [e] at h; cases h
      | some d' =>
        rw [e] at h; cases h
        obtain ⟨v, h1, h2⟩ := r.get e
        refine ⟨v, ?_, h2⟩
        unfold L2.start
        rw [List.getElem?_append_left (by rw [List.length_map, hl]; exact hi), List.getElem?_map, h1]
        rfl
    · rw [List.getElem?_append_right (by simpa using hi), List.getElem?_replicate] at h
      split at h <;> cases h
  · unfold Dw.start at h
    by_cases hi : i < ds.length
    · rw [List.getElem?_append_left (by simpa using hi), List.getElem?_map] at h
      cases e : ds[i]? with
      | none => rw [e] at h; cases h
      | some d' => rw [e] at h; cases h
    · rw [List.getElem?_append_right (by simpa using hi), List.getElem?_replicate] at h
      split at h <;> cases h

/-- a def that keeps to itself, from its body -/
theorem fin_loc {A : We} {r : Option RS} {M : Mem} {H : Hp} {Q : VK} {E : XK} (R : RG K A G θ Hd M H) (p : PostE K A G E (rV K A) (fin r M) θ Hd Q) :
    PostS K A ⟨H, Hd, fun _ => False⟩ (fun cls d _ H' => E cls d H') r (fun _ => none) Hd { nx := fun _ H' => Q .non H', rt := Q } := by
  cases r with
  | none => exact p
  | some r =>
    cases r with
    | next ε M' =>
      intro σ H' θ' Hd' E1 R1 S1
      obtain ⟨R2, E2⟩ := R.leaveL R1
      exact p _ _ _ _ E2 R2 .non
    | brk ε M' => exact p.elim
    | exc c ε M' =>
      intro σ H' θ' Hd' E1 R1 S1
      obtain ⟨R2, E2⟩ := R.leaveL R1
      exact p _ _ _ E2 R2
    | ret d M' =>
      intro v H' θ' Hd' E1 R1 rv
      simp only [fin] at p
      split at p
      · rename_i hc
        obtain ⟨R2, E2⟩ := R.leaveL R1
        exact p _ _ _ _ E2 R2 ((rv.none hc).up ⟨Same.refl _, sub_none _⟩)
      · split at p
        · rename_i k
          split at p
          · rename_i l hm
            split at p
            · rename_i hc
              obtain ⟨a, xs, rfl, ht, h1, h2⟩ := lst_at (G := ⟨H, Hd, fun _ => False⟩) R1 rv hm
              obtain ⟨R2, E2⟩ := R1.freeze hm (by intro z; cases z) ht h1
              obtain ⟨R3, E3⟩ := R.leaveL R2
              exact p _ _ _ _ E3 R3 (.lst (.of upd_same) (((h2.up E2).none hc).up ⟨Same.refl _, sub_none _⟩))
            · exact p.elim
          · exact p.elim
        · exact p.elim
theorem fin_glo {A : We} {r : Option RS} {M : Mem} {H : Hp} {Q : VK} {E : XK} (R : RG K A G θ Hd M H) (p : PostE K A G E (rV K A) (finG r) θ Hd Q) :
    PostS K A ⟨H, Hd, Ran θ⟩ (fun cls d _ H' => E cls d H') r θ Hd { nx := fun _ H' => Q .non H', rt := Q } := by
  cases r with
  | none => exact p
  | some r =>
    cases r with
    | next ε M' =>
      intro σ H' θ' Hd' E1 R1 S1
      obtain ⟨R2, E2⟩ := R.leaveG E1.t R1
      exact p _ _ _ _ E2 R2 .non
    | brk ε M' => exact p.elim
    | exc c ε M' =>
      intro σ H' θ' Hd' E1 R1 S1
      obtain ⟨R2, E2⟩ := R.leaveG E1.t R1
      exact p _ _ _ E2 R2
    | ret d M' =>
      intro v H' θ' Hd' E1 R1 rv
      obtain ⟨R2, E2⟩ := R.leaveG E1.t R1
      exact p _ _ _ _ E2 R2 rv
end

/-- what holds in the body of a def -/
structure Bd (X : Cx) (n : Nat) (W : WX) : Prop where
  calm : X.calm = true
  room : Room (2 * n + 1) X.A
  tk : L2N.Takes X W
  ps : PassesOwn (model X.prog X.w) X.A X.env X.xe
section
variable {P : Program} {w : World} {K : PySem.W.Frag} {mg : Str → Option Value} {base : Heap} {A : We} {PP : Prog} {n g : Nat} {fn : Fn} {x qual : Str} {params : Arguments} {body : List Stmt} {scope : Scope} {dvs : List V} {kws : List (Str × V)} {f : Addr} {fd : FuncData} {N ps : List Str}
theorem Bd.r {X : Cx} {n : Nat} {W : WX} (B : Bd X n W) : Room (2 * n) X.A := B.room.mono (Nat.le_succ _)
theorem fn_step (hg : PP.fn g = some fn) (F : FunD K x qual params body scope dvs kws f fd) (S : FnScope N ps scope) (har : fn.ar = ps.length) (hsl : fn.sl = N.length)
    (hD : ∀ (cdv : Value) (Ar : Around) (outer : List PySem.Env) (s : Shared) (H : Hp) (E : XK), Bd (cxOf (L2N.CX P w) P w K mg base N qual scope f cdv Ar outer s H E) n (fun cls d _ H => E cls d H) →
      DSs (cxOf (L2N.CX P w) P w K mg base N qual scope f cdv Ar outer s H E) A (PP.cfg n (callN PP n)) (fun cls d _ H => E cls d H) body fn.body) :
    FnOk P w K mg base (L2N.CX P w) (2 * (n + 1)) f fd ps (liftSp K A (callN PP (n + 1) g)) := by
  have len : ∀ vs H Q E, liftSp K A (callN PP (n + 1) g) vs H Q E → vs.length = ps.length := by
    rintro vs H Q E ⟨G, θ, Hd, ds, M, R, r, p⟩
    simp only [callN, hg] at p
    split at p
    · rename_i h; rw [r.length, h, har]
    · exact p.elim
  refine F.ok S len fun cdv Ar outer s H vs Q E hr h => ?_
  refine ⟨_, hD cdv Ar outer s H E ⟨rfl, hr, L2N.takes_of rfl rfl rfl rfl, .leaving⟩, ?_⟩
  obtain ⟨G, θ, Hd, ds, M, R, r, p⟩ := h
  simp only [callN, hg] at p
  split at p
  case isFalse => exact p.elim
  split at p
  · split at p
    · rename_i hc
      exact ⟨⟨H, Hd, fun _ => False⟩, _, _, _, _, SL.start hsl (r.none hc), R.enterL, fin_loc R p⟩
    · exact p.elim
  · exact ⟨⟨H, Hd, Ran θ⟩, _, _, _, _, SL.start hsl r, R.enterG, fin_glo R p⟩
theorem fn_zero (len : ∀ vs H Q E, liftSp K A (callN PP 0 g) vs H Q E → vs.length = ps.length) : FnOk P w K mg base (L2N.CX P w) 0 f fd ps (liftSp K A (callN PP 0 g)) :=
  ⟨len, fun A outer s H args us vs Q E _ _ _ _ ⟨_, _, _, _, _, _, _, p⟩ => p.elim⟩
theorem fn_nil : FnOk P w K mg base (L2N.CX P w) 0 f fd ps (liftSp K A (callN PP 0 g)) := fn_zero fun _ _ _ _ ⟨_, _, _, _, _, _, _, p⟩ => p.elim
end

/-- the law's own promise -/
theorem sp_law {K : PySem.W.Frag} {A : We} {Φ : List D → Mem → Ev D} {H : Hp} {a : Addr} {ns : List Int} (hS : SqL K H a (ns.map V.int)) (h : Φ [.lst (ns.map D.int)] [] = some (.ok (.bl true) [])) :
    liftSp K A Φ [.ref a] H (fun v _ => v = .bl true) fun _ _ _ => False := by
  have rp : ∀ ns : List Int, Reps K A H (fun _ => none) (ns.map V.int) (ns.map D.int) := fun ns => by
    induction ns with
    | nil => exact .nil
    | cons n ns ih => exact .cons (.int n) ih
  refine ⟨⟨H, H, fun _ => False⟩, fun _ => none, H, [.lst (ns.map D.int)], [], ⟨Same.refl _, Same.refl _, fun _ _ e _ => e, fun _ e => e, fun a o e n => absurd (n.symm.trans e) (by intro z; cases z), fun n o e => (by simp at e), fun _ _ e => (nomatch e), fun _ _ e => (nomatch e), fun _ _ _ e => (nomatch e), fun _ _ e => (nomatch e)⟩, .cons (.lst hS (rp ns)) .nil, ?_⟩
  rw [h]
  intro v H1 θ1 Hd1 E1 R1 r1
  cases r1
  rfl
end Dw
/-! Dw14: the error at hand. -/
namespace Dw
open PySem L2 PyProof.Rows
section
variable {X : Cx} {A : We} {C : Cfg} {W : WX} {pos : Pos}
/-- the class cv, told as k, in isinstance(e, ..) -/
def XOk (K : PySem.W.Frag) (A : Wd) (C : Cfg) (k : Nat) (cv : Value) : Prop := ∀ c b, C.sub c k = some b → ExcC K (A.ca c) ∧ PySem.W.kitOne K (.ref (A.ca c)) cv = some b
/-- what is known of the error at hand -/
structure Hand (X : Cx) (A : We) (i : Nat) (a : Addr) (c : Nat) (oe : Obj) : Prop where
  pn : (a, oe) ∈ X.pn
  zn : L2N.Zn (.ref (A.ca c)) none oe
  fl : ∃ vs, oe.data = .fields vs
  ea : A.ea = some (i, a, c)
def rIsX (K : PySem.W.Frag) (c a : Addr) : List V → Hp → VK → Prop := fun xs H Q => ∃ (t : V) (cv : Value) (b : Bool), ExcC K c ∧ xs = [.ref a, t] ∧ (∀ u, RelV t u → u = cv) ∧ PySem.W.kitOne K (.ref c) cv = some b ∧ Q (.bl b) H
theorem call_isX {i : Nat} {a : Addr} {c : Nat} {oe : Obj} (h : Hand X A i a c oe) : CallR X (.builtin "isinstance") (rIsX X.K (A.ca c) a) := by
  rintro pins s σ H xs us Q I r ⟨t, cv, b, hC, rfl, hcv, e, q⟩
  obtain ⟨u, us, rfl, rx, rr⟩ : ∃ u us', us = u :: us' ∧ RelV (.ref a) u ∧ Vals [t] us' := by
    cases r with | cons p q => exact ⟨_, _, rfl, p, q⟩
  obtain ⟨u2, rfl, rt⟩ := vals1 rr
  cases rx
  have ec := hcv _ rt
  subst ec
  have hget := (I.pin (a, oe) (List.mem_append_left _ h.pn)).1
  obtain ⟨vs, hv⟩ := h.fl
  have hz := h.zn.zc
  have J : PySem.W.InstAt s.heap a oe (A.ca c) none := by
    obtain ⟨oc, od, oda, osl⟩ := oe
    obtain ⟨h1, h2⟩ := hz
    dsimp only at h1 h2 hv
    subst h1 h2 hv
    exact ⟨hget, rfl, rfl, trivial⟩
  refine PySem.W.kia_one (PySem.W.handS_kitx_exc hC.hg hC.hk hC.hs hC.hd hC.ha hC.hn hC.ht hC.hm) I.kIn J e (fun z => nomatch z) fun tk => ?_
  exact ⟨.bl b, H, I.kept (t' := tk) fun _ _ z => z, rfl, q⟩
theorem de_isExc {i k c : Nat} {a : Addr} {oe : Obj} {e T : Str} {p p1 pT : Pos} {t : V} {cv : Value} (hh : Hand X A i a c oe) (hk : XOk X.K A C k cv) (hm : X.mg "isinstance" = none) (hT : PE X (.Name T pT) (tC t)) (hr : ∀ u, RelV t u → u = cv) (hg : Gl X "isinstance" := by rfl)
    (hN : X.N[i]? = some e := by rfl) (hv : Vis X.env.scope e := by first | exact Or.inl rfl | exact Or.inr (Or.inl rfl) | exact Or.inr (Or.inr rfl)) (hd : (e == ("__debug__" : Str)) = false := by decide) (hcd : (e == ("__classdict__" : Str)) = false := by decide)
    (hs : starEach [.Name e p1, .Name T pT] X.env = (false, PySem.eval (.Name e p1) X.env) :: starEach [.Name T pT] X.env := by rfl) (hpl : (backTo pos (starEach [.Name T pT] X.env)).any (·.1) = false := by rfl) :
    DE X A C W (.Call (.Name "isinstance" p) [.Name e p1, .Name T pT] [] pos) (.isExc i k) := by
  refine PE.imp (pe_callB (call_isX hh) hg hm PyProof.Rows.boot_isinstance (pa_cons (pe_var hN hv hd hcd) (pa_cons hT pa_nil) hs) (by decide) (by decide) hs hpl) ?_
  rintro σ H Q ⟨G, θ, Hd, ε, M, S, R, q⟩
  simp only [eval] at q
  cases he : ε[i]? with
  | none => simp only [he] at q; exact q.elim
  | some sl =>
  cases sl with
  | no => simp only [he] at q; exact q.elim
  | is d => simp only [he] at q; exact q.elim
  | exc c' =>
  simp only [he] at q
  cases hb : C.sub c' k with
  | none => simp only [hb] at q; exact q.elim
  | some b =>
  simp only [hb] at q
  obtain ⟨a', e1, e2⟩ := S.2.2 _ _ he
  rw [hh.ea] at e1; cases e1
  obtain ⟨h1, h2⟩ := hk _ _ hb
  exact ⟨_, e2, _, _, b, h1, rfl, hr, h2, q.ok R (.bl b)⟩
theorem hot_of {i : Nat} {a : Addr} {c : Nat} {oe : Obj} (h : Hand X A i a c oe) (hA : X.A.handled = some (.ref a)) : L2H.HotC X := ⟨(a, oe), ⟨hA, let ⟨vs, e⟩ := h.fl; ⟨vs, e, h.zn.2.2 vs e⟩⟩, h.pn⟩
end

/-! ### the error is handed to a def -/
section
variable {P : Program} {w : World} {K : PySem.W.Frag} {mg : Str → Option Value} {base : Heap} {A : We} {PP : Prog} {n g : Nat} {fn : Fn} {x qual : Str} {params : Arguments} {body : List Stmt} {scope : Scope} {dvs : List V} {kws : List (Str × V)} {f : Addr} {fd : FuncData} {N : List Str} {y : Str}
/-- such a def, by its body -/
def FnX (P : Program) (w : World) (K : PySem.W.Frag) (mg : Str → Option Value) (base : Heap) (A : We) (N : List Str) (qual : Str) (scope : Scope) (f : Addr) (body : List Stmt) (Cx0 : Cfg) (ks : List S) : Prop :=
  ∀ (cdv : Value) (Ar : Around) (outer : List PySem.Env) (s : Shared) (H : Hp) (p : Addr × Obj) (c : Nat), L2N.Zn (.ref (A.ca c)) none p.2 → (∃ vs, p.2.data = .fields vs) →
    DSs (L2H.cxH (L2N.CX P w) P w K mg base N qual scope f cdv Ar outer s H (fun _ _ _ => False) p) { A with ea := some (0, p.1, c) } Cx0 blkW body ks
theorem call_hot {X : Cx} {i : Nat} {a : Addr} {c : Nat} {oe : Obj} {C : Cfg} {ks : List S} (hh : Hand X A i a c oe) (hA : X.A.handled = some (.ref a)) (F : FunD X.K x qual params body scope dvs kws f fd) (S : FnScope N [y] scope) (hb : Binds X.K fd [y] []) (hr : L2H.RoomH 1 X.A)
    (hD : FnX X.prog X.w X.K X.mg X.base A N qual scope f body C ks) {pins : List (Addr × Obj)} {σ : L2.St} {H : Hp} {s : Shared} {Q : VK} (I : Inv X pins σ H s) {G : Gd} {θ : Th} {Hd : Hp} {M : Mem} (R : RG X.K A G θ Hd M H)
    (q : PostE X.K A G (fun _ _ _ => False) (rV X.K A) (fin (execs C ks (.exc c :: List.replicate (N.length - 1) .no) []) M) θ Hd Q) : wpAny (model X.prog X.w) X.A (call (.ref f) [.ref a]) (EP X pins σ Q) X.xe s := by
  obtain ⟨oc, od, dV, kV, doc, pm, an, cdv, ct, osl, rfl, lk, hcd, _, _⟩ := F.ex
  have P1 := I.pin (a, oe) (List.mem_append_left _ hh.pn)
  have hot : L2H.Hot1 X.A (a, oe) := ⟨hA, let ⟨vs, e⟩ := hh.fl; ⟨vs, e, hh.zn.2.2 vs e⟩⟩
  have hpin : L2H.PinOk X.stack H s (a, oe) := ⟨P1.1, P1.2.1, fun hm => (List.mem_cons.mp (I.stkSub a hm)).elim P1.2.2.1 P1.2.2.2.1, P1.2.2.2.2⟩
  have e0 := I.env0
  have KX : X.K.In s.heap := I.kIn
  have lim : s.heap.NoLimit := e0.mod.nolimit.keeps fun b o e => (e0.bs b o e).1
  have hkind : ∀ y' ∈ ([y] : List Str).zip [Value.ref a], scope.names.lookup y'.1 = some .local ∨ (scope.names.lookup y'.1 = some .cell ∧ ((cellsFrom (s.heap.objs.size + 1) scope.names []).lookup y'.1).isSome = true) := fun ⟨n, v⟩ hy => by
    rcases S.par n (List.of_mem_zip hy).1 with z | z
    · exact .inl z
    · exact .inr ⟨z, PySem.W.cellsFrom_some _ _ _ (.inl z)⟩
  have bt := hb s [Value.ref a] KX (by simp)
  rw [List.append_nil] at bt
  refine wpAny_call (codeAny_mono (R := CR (L2N.CX X.prog X.w) X.stack X.prog X.w H s Q (fun _ _ _ => False)) ?_ fun r s' hq => ?_)
  · refine codeAny_call_function hr.depth (KX _ _ lk) rfl S.co S.gen rfl (PySem.W.codeRec_of KX hcd) (bt _ _ _ _ ?_)
    refine wpAny_newFunctionEnv_cells S.kind hkind fun env he s1 x1 => ?_
    subst he
    refine ⟨lim.keeps x1.toInCall.keep, codeAny_func ?_⟩
    have J := L2H.inv_startH (CX := L2N.CX X.prog X.w) (E := fun _ _ _ => False) (vs := [V.ref a]) (us := [Value.ref a]) (cd := cdv) S hpin e0 rfl (.cons rfl .nil) x1
    have sl : SL X.K { A with ea := some (0, a, c) } (fun _ => none) Hd (.exc c :: List.replicate (N.length - 1) .no) (L2.start N [V.ref a]) := by
      have hN : 0 < N.length := by
        have := congrArg List.length S.pre
        rw [List.length_take] at this
        simp at this
        omega
      refine ⟨by simp [L2.start], fun j d' e => ?_, fun j c' e => ?_⟩
      · cases j with
        | zero => simp at e
        | succ j => simp [List.getElem?_replicate] at e
      · cases j with
        | zero => simp at e; subst e; exact ⟨a, rfl, by simp [L2.start]⟩
        | succ j => simp [List.getElem?_replicate] at e
    have qs := fin_loc (A := { A with ea := some (0, a, c) }) R q
    refine wpAny_mono ((hD cdv X.A X.stack s H (a, oe) c hh.zn hh.fl).run [] s1 (L2.start N [V.ref a]) H _ J ⟨⟨H, Hd, fun _ => False⟩, _, _, _, _, sl, R.enterL, qs⟩) (fun fl s' hs => ?_) fun e s' hs => hs
    cases fl with
    | ret u =>
      obtain ⟨v, σ', H', J', rv, q'⟩ := hs
      exact ⟨v, H', J'.os, J'.bare, J'.base, J'.hok, rv, q'⟩
    | next =>
      obtain ⟨σ', H', J', q'⟩ := hs
      exact ⟨.non, H', J'.os, J'.bare, J'.base, J'.hok, rfl, q'⟩
    | brk => exact (hs.elim fun _ h => h.elim fun _ h => h.2).elim
    | cont => exact (hs.elim fun _ h => h.elim fun _ h => h.2).elim
  · cases r with
    | error e =>
      obtain ⟨_, _, _, _, _, _, _, _, _, _, _, _, z⟩ := hq
      exact z.elim
    | ok fl =>
      cases fl with
      | ret u => exact I.after hq
      | next => exact False.elim hq
      | brk => exact False.elim hq
      | cont => exact False.elim hq
theorem de_callE {X : Cx} {i : Nat} {a : Addr} {c : Nat} {oe : Obj} {C : Cfg} {W : WX} {e : Str} {z : Str} {p p1 pos : Pos} (hh : Hand X A i a c oe) (hA : X.A.handled = some (.ref a)) (hg : PP.fn g = some fn) (hC : ∀ c M, C.Φx g c M = callX PP n g c M) (hsl : fn.sl = N.length)
    (F : FunD X.K x qual params body scope dvs kws f fd) (S : FnScope N [y] scope) (hb : Binds X.K fd [y] []) (hr : n ≠ 0 → L2H.RoomH 1 X.A)
    (hD : FnX X.prog X.w X.K X.mg X.base A N qual scope f body ⟨fun _ _ _ => none, fun _ _ _ => none, PP.meth, PP.fix, PP.sub, PP.wf⟩ fn.body) (hm : X.mg z = some (.ref f)) (hgl : Gl X z := by rfl)
    (hN : X.N[i]? = some e := by rfl) (hv : Vis X.env.scope e := by first | exact Or.inl rfl | exact Or.inr (Or.inl rfl) | exact Or.inr (Or.inr rfl)) (hd : (e == ("__debug__" : Str)) = false := by decide) (hcd : (e == ("__classdict__" : Str)) = false := by decide)
    (hdb : (z == ("__debug__" : Str)) = false := by decide) (he : starEach [.Name e p1] X.env = (false, PySem.eval (.Name e p1) X.env) :: starEach [] X.env := by rfl) (hpl : (backTo pos (starEach [] X.env)).any (·.1) = false := by rfl) :
    DE X A C W (.Call (.Name z p) [.Name e p1] [] pos) (.callE g i) := by
  refine ⟨fun pins s σ H Q I h => ?_⟩
  obtain ⟨G, θ, Hd, ε, M, SS, R, q⟩ := h
  simp only [eval] at q
  cases hi : ε[i]? with
  | none => simp only [hi] at q; exact q.elim
  | some sl =>
  cases sl with
  | no => simp only [hi] at q; exact q.elim
  | is d => simp only [hi] at q; exact q.elim
  | exc c' =>
  simp only [hi] at q
  obtain ⟨a', e1, e2⟩ := SS.2.2 _ _ hi
  rw [hh.ea] at e1; cases e1
  rw [hC] at q
  cases n with
  | zero => exact q.elim
  | succ n =>
  simp only [callX, hg] at q
  have ha : PA X [.Name e p1] _ := pa_cons (pe_var hN hv hd hcd) pa_nil he
  refine wpAny_Call_Name_kw (ld_glob I hgl hm ?_ hdb)
  refine PySem.W.callWith_K (h₀ := X.base) I.ok.mod.kin F.kp (thn (ha.run pos pins s σ H (fun vs H1 => vs = [V.ref a] ∧ H = H1) I ⟨_, e2, rfl, rfl⟩) fun us s1 hh1 => ?_) he hpl
  obtain ⟨vs, H1, I1, r1, ev, eH⟩ := hh1
  subst ev
  subst eH
  obtain ⟨u, rfl, ru⟩ := vals1 r1
  cases ru
  refine ⟨I1.kIn, ?_⟩
  rw [hsl] at q
  refine call_hot hh hA F S hb (hr (Nat.succ_ne_zero _)) hD I1 R ?_
  generalize fin _ M = r at q ⊢
  rcases r with _ | ⟨d, M'⟩ | ⟨k, M'⟩
  · exact q.elim
  · exact q
  · exact q.elim
end
end Dw
/-! Dw15: what the printed terms lean on. -/
namespace Dw
open PySem L2 PyProof.Rows
section
variable {X : Cx} {A : We} {C : Cfg} {W : WX} {a b c e : Expr} {ca cb cc ce : E} {pos : Pos} {es : List Expr} {cs : List E} {st : Stmt}
theorem ds_never : DS X A C W st .never := by
  refine PS.imp ps_never ?_
  rintro D σ H ⟨G, θ, Hd, ε, M, S, R, p⟩
  simp only [exec] at p
  exact p.elim
theorem uL {a c k : Nat} (h : a + 100 < c) (hk : k ≤ 100 := by decide) : a + k < c := Nat.lt_of_le_of_lt (Nat.add_le_add_left hk a) h
theorem uL0 {a c : Nat} (h : a + 100 < c) : a < c := by omega
theorem Bd.u {n : Nat} (B : Bd X n W) : X.A.units + 100 < cLine := by have := B.room.un; omega
theorem Bd.tr {n : Nat} {W' : WX} {pn : List (Addr × Obj)} {xe : Value → Shared → Prop} (B : Bd X n W) (tk : L2N.Takes (X.tr pn xe) W') (ps : PassesOwn (model X.prog X.w) X.A X.env xe) : Bd (X.tr pn xe) n W' := ⟨B.calm, B.room, tk, ps⟩
theorem takes_no : L2N.Takes X blkW := fun u s' ⟨_, _, _, _, _, _, _, _, _, _, _, _, _, _, _, _, w⟩ => w.elim
theorem hot_room {n : Nat} (B : Bd X n W) (v : Option Value) : L2H.RoomH 1 (X.A.mark v) :=
  ⟨((L2H.roomH_of B.room).mono (Nat.le_add_left 1 _)).dp, ((L2H.roomH_of B.room).mono (Nat.le_add_left 1 _)).un⟩

theorem pe_cls {x : Str} {a : Addr} (hm : X.mg x = some (.ref a)) (hg : Gl X x := by rfl) (hd : (x == ("__debug__" : Str)) = false := by decide) : PE X (.Name x pos) (tC (.ref a)) := pe_glob (v := .ref a) hg hm rfl hd
theorem pe_vty {T : String} {x : Str} (hm : X.mg x = none) (hb : bootBuiltins x = some (.type T) := by decide +kernel) (hg : Gl X x := by rfl) (hn : x ≠ "__name__" := by decide) (hd : (x == ("__debug__" : Str)) = false := by decide) : PE X (.Name x pos) (tC (.ty T)) := pe_bltn (v := .ty T) hg hm hb rfl hn hd

end

/-- arguments with defaults -/
abbrev wd (cs : List E) (ds : List D) : List E := cs ++ ds.map E.con
abbrev wd0 (ds : List D) : List E := ds.map E.con

/-! ### tables -/
def AllB (p : Nat → Prop) : Nat → Prop
  | 0 => True
  | n + 1 => AllB p n ∧ p n
theorem AllB.at {p : Nat → Prop} : ∀ {n : Nat}, AllB p n → ∀ g, g < n → p g
  | 0, _, g, h => absurd h (Nat.not_lt_zero g)
  | n + 1, ⟨h1, h2⟩, g, h => by
    rcases Nat.lt_or_eq_of_le (Nat.le_of_lt_succ h) with z | z
    · exact AllB.at h1 g z
    · exact z ▸ h2
def AllL {α : Type} (p : α → Prop) : List α → Prop
  | [] => True
  | x :: xs => p x ∧ AllL p xs
theorem AllL.at {α : Type} {p : α → Prop} : ∀ {l : List α}, AllL p l → ∀ x ∈ l, p x
  | _ :: _, ⟨h, _⟩, _, .head _ => h
  | _ :: _, ⟨_, t⟩, x, .tail _ m => AllL.at t x m
theorem lookup_mem {β : Type} : ∀ {l : List (Nat × β)} {c : Nat} {k : β}, l.lookup c = some k → (c, k) ∈ l
  | (d, v) :: l, c, k, h => by
    rw [List.lookup_cons] at h
    cases hb : c == d with
    | true =>
      rw [hb] at h
      have e := beq_iff_eq.mp hb
      cases h
      rw [e]
      exact List.mem_cons_self
    | false =>
      rw [hb] at h
      exact List.mem_cons_of_mem _ (lookup_mem h)
/-- a def of the program -/
structure Df where
  x : Str
  qual : Str
  st : Stmt
  N : List Str
  ps : List Str
  dvs : List V
  dds : List D
def inCls (s : Stmt) : List Stmt := match s with
  | .ClassDef _ _ _ b _ _ _ _ _ _ _ => b
  | _ => []
abbrev FnF (K : PySem.W.Frag) (d : Df) (f : Addr) : Prop := ∃ fd, FunD K d.x d.qual (defArgs d.st) (defBody d.st) (defScope d.st) d.dvs [] f fd
section
variable (P : Program) (w : World) (K : PySem.W.Frag) (mg : Str → Option Value) (base : Heap) (A : We) (PP : Prog) (fa : Nat → Addr)
def OkAt (n g : Nat) (d : Df) : Prop := ∃ fd, FunD K d.x d.qual (defArgs d.st) (defBody d.st) (defScope d.st) d.dvs [] (fa g) fd ∧ FnOk P w K mg base (L2N.CX P w) (2 * n) (fa g) fd d.ps (liftSp K A (callN PP n g))
/-- a def's body, as the core form says -/
def DefOk (n : Nat) (d : Df) (f : Addr) (ks : List S) : Prop := ∀ (cdv : Value) (Ar : Around) (outer : List PySem.Env) (s : Shared) (H : Hp) (E : XK),
  Bd (cxOf (L2N.CX P w) P w K mg base d.N d.qual (defScope d.st) f cdv Ar outer s H E) n (fun cls d _ H => E cls d H) →
  DSs (cxOf (L2N.CX P w) P w K mg base d.N d.qual (defScope d.st) f cdv Ar outer s H E) A (PP.cfg n (callN PP n)) (fun cls d _ H => E cls d H) (defBody d.st) ks
end
section
variable {P : Program} {w : World} {K : PySem.W.Frag} {mg : Str → Option Value} {base : Heap} {A : We} {PP : Prog} {fa : Nat → Addr} {n g : Nat} {d : Df} {fn : Fn}
theorem ok_zero (F : FnF K d (fa g)) : OkAt P w K mg base A PP fa 0 g d := let ⟨fd, F⟩ := F; ⟨fd, F, fn_nil⟩
theorem ok_succ (F : FnF K d (fa g)) (S : FnScope d.N d.ps (defScope d.st)) (h : DefOk P w K mg base A PP n d (fa g) fn.body) (hg : PP.fn g = some fn := by rfl) (har : fn.ar = d.ps.length := by rfl) (hsl : fn.sl = d.N.length := by rfl) :
    OkAt P w K mg base A PP fa (n + 1) g d := let ⟨fd, F⟩ := F; ⟨fd, F, fn_step hg F S har hsl h⟩
/-- the values of defaults -/
inductive Cst : List V → List D → Prop
  | nil : Cst [] []
  | non {vs ds} : Cst vs ds → Cst (.non :: vs) (.non :: ds)
  | int (i : Int) {vs ds} : Cst vs ds → Cst (.int i :: vs) (.int i :: ds)
  | bl (b : Bool) {vs ds} : Cst vs ds → Cst (.bl b :: vs) (.bl b :: ds)
theorem Cst.reps {Hd : Hp} {θ : Th} : ∀ {vs : List V} {ds : List D}, Cst vs ds → Reps K A Hd θ vs ds
  | _, _, .nil => .nil
  | _, _, .non h => .cons .non h.reps
  | _, _, .int i h => .cons (.int i) h.reps
  | _, _, .bl b h => .cons (.bl b) h.reps
theorem can_of {dvs : List V} {dds : List D} (o : OkAt P w K mg base A PP fa n g d) (hb : ∀ fd, FunD K d.x d.qual (defArgs d.st) (defBody d.st) (defScope d.st) d.dvs [] (fa g) fd → ∃ ds, Vals dvs ds ∧ Binds K fd d.ps ds) (hc : Cst dvs dds) : CanCall P w K mg base A (2 * n) (callN PP n g) (fa g) dds := by
  obtain ⟨fd, F, ok⟩ := o
  obtain ⟨ds, hv, hbb⟩ := hb fd F
  exact ⟨fd, d.ps, dvs, ds, ok, F.kp, hbb, hv, fun Hd θ => hc.reps⟩
theorem mok_of {C : Cfg} {m : Str} {mid : Nat} {dds : List D} {l : List (Nat × Nat)} (hl : ∀ c, C.meth c mid = l.lookup c) (h : AllL (fun p => ∃ f, Cls K (A.ca p.1) ∧ Meth K (A.ca p.1) m f ∧ m ∉ A.fl p.1 ∧ CanCall P w K mg base A (2 * n) (C.Φ p.2) f dds) l) : MOk P w K mg base A C (2 * n) m mid dds :=
  fun c g e => h.at (c, g) (lookup_mem (by rw [← hl]; exact e))
theorem fok_of {C : Cfg} {f : Str} {fid : Nat} {l : List (Nat × Nat)} (hl : ∀ c, C.fix c fid = l.lookup c) (h : AllL (fun p => Cls K (A.ca p.1) ∧ NoAttr K (A.ca p.1) f ∧ (A.fl p.1)[p.2]? = some f ∧ (A.fl p.1).Nodup ∧ (A.fl p.1).length < 1000) l) : FOk K A C f fid :=
  fun c k e => h.at (c, k) (lookup_mem (by rw [← hl]; exact e))
theorem hok_of {C : Cfg} {k : Nat} {cv : Value} {l : List (Nat × Bool)} (hl : ∀ c, C.sub c k = l.lookup c) (h : AllL (fun p => PySem.W.exmOne K (.ref (A.ca p.1)) cv = some p.2) l) : HOkC K A C k cv :=
  fun c b e => h.at (c, b) (lookup_mem (by rw [← hl]; exact e))
theorem xok_of {C : Cfg} {k : Nat} {cv : Value} {l : List (Nat × Bool)} (hl : ∀ c, C.sub c k = l.lookup c) (h : AllL (fun p => ExcC K (A.ca p.1) ∧ PySem.W.kitOne K (.ref (A.ca p.1)) cv = some p.2) l) : XOk K A C k cv :=
  fun c b e => h.at (c, b) (lookup_mem (by rw [← hl]; exact e))
theorem kok_of {c : Nat} {C : Cfg} {dvs : List V} {dds : List D} (hM : Mk K (A.ca c) (fa g)) (o : OkAt P w K mg base A PP fa n g d) (hC : C.Φ g = callN PP n g) (hb : ∀ fd, FunD K d.x d.qual (defArgs d.st) (defBody d.st) (defScope d.st) d.dvs [] (fa g) fd → ∃ ds, Vals dvs ds ∧ Binds K fd d.ps ds) (hc : Cst dvs dds) : KOk P w K mg base A C (2 * n) c g dds := by
  obtain ⟨fd, F, ok⟩ := o
  obtain ⟨ds, hv, hbb⟩ := hb fd F
  exact ⟨fa g, fd, d.ps, dvs, ds, hM, by rw [hC]; exact ok, hbb, hv, fun Hd θ => hc.reps⟩
end
end Dw
namespace Dw
open PySem L2 PyProof.Rows
theorem kit_ref {K : PySem.W.Frag} {D C : Addr} {b : Bool} (hdct : PySem.W.hasDictIn K C = true) (ht : PySem.W.typeIn K (.ref C) = some (.type "type")) (hs : PySem.W.subIn K (.ref C) (.ref C) = some true) (h : PySem.W.subIn K (.ref D) (.ref C) = some b) : PySem.W.kitOne K (.ref D) (.ref C) = some b := by
  obtain ⟨cd, hc, _⟩ := PySem.W.any_some hdct
  unfold PySem.W.kitOne
  split
  · rename_i e
    have e : Value.ref D = Value.ref C := beq_iff_eq.mp e
    cases e
    rw [hs] at h
    exact h
  · have e2 : ((PySem.W.clsIn K C).isSome && PySem.W.typeIn K (.ref C) == some (.type "type")) = true := by rw [hc, ht] <;> rfl
    show (if ((PySem.W.clsIn K C).isSome && PySem.W.typeIn K (.ref C) == some (.type "type")) = true then PySem.W.subIn K (.ref D) (.ref C) else none) = some b
    rw [if_pos e2]
    exact h
theorem kit_bty {K : PySem.W.Frag} {D : Addr} {T : String} {b : Bool} (h : PySem.W.subIn K (.ref D) (.type T) = some b) (hm : PySem.W.kitMeta T = true := by rfl) : PySem.W.kitOne K (.ref D) (.type T) = some b := by
  unfold PySem.W.kitOne
  split
  · rename_i e
    have e : Value.ref D = Value.type T := beq_iff_eq.mp e
    cases e
  · show (if PySem.W.kitMeta T = true then PySem.W.subIn K (.ref D) (.type T) else none) = some b
    rw [if_pos hm]
    exact h
end Dw
namespace Dw
open PySem L2 PyProof.Rows
section
variable {K : PySem.W.Frag} {d : Df} {f T : Addr} {oc : Value} {od an : Option Addr} {osl : Array (Option Value)} {dV kV doc pm cdv ct : Value} {ot : Obj} {its : List Value} {tn : Nat}
theorem fnF_mk (l : K.lookup f = some ⟨oc, od, .func (PySem.W.fnOf d.x d.qual (defArgs d.st) (defBody d.st) (defScope d.st) .none kV doc pm an cdv ct), osl⟩) (c : PySem.W.codeIn K cdv d.qual = true) (k : PySem.W.keepIn K (.ref f) = true) (hd : d.dvs = [] := by rfl) : FnF K d f :=
  ⟨_, ⟨oc, od, .none, kV, doc, pm, an, cdv, ct, osl, rfl, l, c, .inl ⟨hd, rfl⟩, .inl rfl⟩, k⟩
theorem fnF_mkD (l : K.lookup f = some ⟨oc, od, .func (PySem.W.fnOf d.x d.qual (defArgs d.st) (defBody d.st) (defScope d.st) (.ref T) kV doc pm an cdv ct), osl⟩) (c : PySem.W.codeIn K cdv d.qual = true) (k : PySem.W.keepIn K (.ref f) = true) (lT : K.lookup T = some ot) (hT : ot.data = .seq its.toArray tn) (hn : d.dvs ≠ []) (hv : Vals d.dvs its) : FnF K d f :=
  ⟨_, ⟨oc, od, .ref T, kV, doc, pm, an, cdv, ct, osl, rfl, l, c, .inr ⟨hn, T, ot, its, tn, rfl, lT, hT, hv⟩, .inl rfl⟩, k⟩
end
/-- what law(script) promises -/
def spLaw (K : PySem.W.Frag) : Sp := fun vs H Q _ => ∃ (a : Addr) (ns : List Int), vs = [.ref a] ∧ SqL K H a (ns.map V.int) ∧ ns.length ≤ 63 ∧ (∀ z ∈ ns, Builtin.Int.intBits z ≤ 1048576) ∧ ∀ H', Q (.bl true) H'
theorem ok_law {P : Program} {w : World} {K : PySem.W.Frag} {mg : Str → Option Value} {base : Heap} {A : We} {k : Nat} {f : Addr} {fd : FuncData} {ps : List Str} {Φ : List D → Mem → Ev D} (F : FnOk P w K mg base (L2N.CX P w) k f fd ps (liftSp K A Φ)) (hl : ps.length = 1)
    (h : ∀ ns : List Int, ns.length ≤ 63 → (∀ z ∈ ns, Builtin.Int.intBits z ≤ 1048576) → Φ [.lst (ns.map D.int)] [] = some (.ok (.bl true) [])) : FnOk P w K mg base (L2N.CX P w) k f fd ps (spLaw K) := by
  refine ⟨fun vs H Q E ⟨a, ns, e, _⟩ => by rw [e, hl]; rfl, fun Ar outer s H args us vs Q E hr e0 hb hv ⟨a, ns, e, hS, h63, hz, q⟩ => F.run Ar outer s H args us vs Q E hr e0 hb hv ?_⟩
  subst e
  have rp : ∀ ns : List Int, Reps K A H (fun _ => none) (ns.map V.int) (ns.map D.int) := fun ns => by
    induction ns with
    | nil => exact .nil
    | cons n ns ih => exact .cons (.int n) ih
  refine ⟨⟨H, H, fun _ => False⟩, fun _ => none, H, [.lst (ns.map D.int)], [], ⟨Same.refl _, Same.refl _, fun _ _ e _ => e, fun _ e => e, fun a o e n => absurd (n.symm.trans e) (by intro z; cases z), fun n o e => (by simp at e), fun _ _ e => (nomatch e), fun _ _ e => (nomatch e), fun _ _ _ e => (nomatch e), fun _ _ e => (nomatch e)⟩, .cons (.lst hS (rp ns)) .nil, ?_⟩
  rw [h ns h63 hz]
  intro v H1 θ1 Hd1 E1 R1 r1
  cases r1
  exact q H1
theorem walk {l : PySem.W.OpenLaw} {q : Program} {loose : List Str} {XP : (Str → Option Value) → Heap → Prop} {YP : World → Heap → Prop} {d : DefRec} {K : Params → PySem.W.Frag} {k : Nat} (hn : l.most = some 63) (hdf : d.params.defaults = []) (hr : Room k callerA)
    (hY : ∀ (w : World) (h : Heap), YP w h → (K w.params).In h)
    (F : ∀ (w : World) (mg : Str → Option Value) (fa : Addr) (h : Heap), (K w.params).In h → h.Ns mainGlobals mg → mg d.name = some (.ref fa) →
      ∃ fd : FuncData, (∀ (s : Shared) (u : Value), BindsTo s fd ⟨[u], []⟩ [("script", u)]) ∧ ∀ base : Heap, (K w.params).In base → base.Ns mainGlobals mg → FnOk l.prog w (K w.params) mg base (L2N.CX l.prog w) k fa fd ["script"] (spLaw (K w.params))) :
    PySem.W.WalkO q loose XP YP l.row.toRowW d [] (fun f vs => PySem.call f vs) :=
  L2.walk_ofB (n := 63) (k := k) (x := "script") (CX := fun w => L2N.CX l.prog w) (sp := fun w => spLaw (K w.params)) hn (by decide) hdf hr hY F (fun _ _ a ns hl hz _ hS => ⟨a, ns, rfl, hS, hl, hz, fun _ => rfl⟩) fun _ _ _ _ _ ⟨_, _, _, _, _, _, _, _, _, _, _, _, z⟩ => z
end Dw
/-! Sm: reckoning the core form. -/
namespace Dw
open PySem
theorem callN_loc {P : Prog} {n g : Nat} {f : Fn} {ds : List D} {M : Mem} (hg : P.fn g = some f) (hl : f.loc = true) (har : ds.length = f.ar) (hc : cleans ds = true) : callN P (n + 1) g ds M = fin (execs (P.cfg n (callN P n)) f.body (start ds f.sl) []) M := by
  simp only [callN, hg, har, hl, hc, if_true]
theorem callN_glo {P : Prog} {n g : Nat} {f : Fn} {ds : List D} {M : Mem} (hg : P.fn g = some f) (hl : f.loc = false) (har : ds.length = f.ar) : callN P (n + 1) g ds M = finG (execs (P.cfg n (callN P n)) f.body (start ds f.sl) M) := by
  simp only [callN, hg, har, hl, if_true, Bool.false_eq_true, if_false]
end Dw
namespace Kx
open PySem L2 Dw PyProof.Rows
def top (i : Nat) : Stmt := PySem.Challenge.pw_driftwood_k56_a_store_made.main.body.getD i (.Pass ⟨0, 0, 0, 0⟩)
abbrev s_0 : Stmt := top 13
abbrev N_0 : List Str := ["one", "two", "a", "b"]
abbrev d_0 : Df := ⟨"frames_joined", "frames_joined", s_0, N_0, ["one", "two"], [], []⟩
/-- frames_joined -/
def c_0 : Fn := ⟨2, 4, [.ret (.bi .tuple [.comp [2, 3] (.tup [2, 3]) .zip [.loc 0, .loc 1] none (.tup [.bi .min [.idx (.loc 2) (.con (.int 0)), .idx (.loc 3) (.con (.int 0))], .bi .max [.idx (.loc 2) (.con (.int 1)), .idx (.loc 3) (.con (.int 1))], .bi .min [.idx (.loc 2) (.con (.int 2)), .idx (.loc 3) (.con (.int 2))], .bi .max [.idx (.loc 2) (.con (.int 3)), .idx (.loc 3) (.con (.int 3))]])])], true⟩
theorem sc_0 : FnScope N_0 ["one", "two"] (defScope s_0) := ⟨rfl, rfl, rfl, by decide +kernel, rfl, by decide +kernel, by decide +kernel⟩
abbrev s_1 : Stmt := top 14
abbrev N_1 : List Str := ["one", "two", "a", "b"]
abbrev d_1 : Df := ⟨"frames_narrowed", "frames_narrowed", s_1, N_1, ["one", "two"], [], []⟩
/-- frames_narrowed -/
def c_1 : Fn := ⟨2, 4, [.ret (.bi .tuple [.comp [2, 3] (.tup [2, 3]) .zip [.loc 0, .loc 1] none (.tup [.bi .max [.idx (.loc 2) (.con (.int 0)), .idx (.loc 3) (.con (.int 0))], .bi .min [.idx (.loc 2) (.con (.int 1)), .idx (.loc 3) (.con (.int 1))], .bi .max [.idx (.loc 2) (.con (.int 2)), .idx (.loc 3) (.con (.int 2))], .bi .min [.idx (.loc 2) (.con (.int 3)), .idx (.loc 3) (.con (.int 3))]])])], true⟩
theorem sc_1 : FnScope N_1 ["one", "two"] (defScope s_1) := ⟨rfl, rfl, rfl, by decide +kernel, rfl, by decide +kernel, by decide +kernel⟩
abbrev s_2 : Stmt := top 16
abbrev N_2 : List Str := ["value", "low", "high"]
abbrev d_2 : Df := ⟨"whole_within", "whole_within", s_2, N_2, ["value", "low", "high"], [], []⟩
/-- whole_within -/
def c_2 : Fn := ⟨3, 3, [.ite (.or (.not (.bi (.isinst .int) [.loc 0])) (.bi (.isinst .bool) [.loc 0])) [.ret (.con (.bl false))] [], .ret (.chain .le .le (.loc 1) (.loc 0) (.loc 2))], true⟩
theorem sc_2 : FnScope N_2 ["value", "low", "high"] (defScope s_2) := ⟨rfl, rfl, rfl, by decide +kernel, rfl, by decide +kernel, by decide +kernel⟩
abbrev s_3 : Stmt := top 17
abbrev N_3 : List Str := ["thing", "swath", "marks", "worth"]
abbrev d_3 : Df := ⟨"thing_told", "thing_told", s_3, N_3, ["thing"], [], []⟩
/-- thing_told -/
def c_3 : Fn := ⟨1, 4, [.asg (.name 1) (.idx (.loc 0) (.con (.int 1))), .asg (.name 2) (.idx (.loc 0) (.con (.int 2))), .asg (.name 3) (.idx (.loc 0) (.con (.int 3))), .ret (.tup [.loc 1, .loc 1, .loc 2, .loc 2, .con (.int 1), .loc 3, .loc 3, .loc 3])], true⟩
theorem sc_3 : FnScope N_3 ["thing"] (defScope s_3) := ⟨rfl, rfl, rfl, by decide +kernel, rfl, by decide +kernel, by decide +kernel⟩
abbrev s_4 : Stmt := top 18
abbrev N_4 : List Str := ["one", "two", "cover", "heart", "some", "every", "many"]
abbrev d_4 : Df := ⟨"told_poured", "told_poured", s_4, N_4, ["one", "two"], [], []⟩
/-- told_poured -/
def c_4 : Fn := ⟨2, 7, [.ite (.un .isN (.loc 0)) [.ret (.loc 1)] [], .ite (.un .isN (.loc 1)) [.ret (.loc 0)] [], .asg (.name 2) (.call 0 (wd [.idx (.loc 0) (.con (.int 0)), .idx (.loc 1) (.con (.int 0))] [])), .asg (.name 3) (.call 1 (wd [.idx (.loc 0) (.con (.int 1)), .idx (.loc 1) (.con (.int 1))] [])), .asg (.name 4) (.bin .bor (.idx (.loc 0) (.con (.int 2))) (.idx (.loc 1) (.con (.int 2)))), .asg (.name 5) (.bin .band (.idx (.loc 0) (.con (.int 3))) (.idx (.loc 1) (.con (.int 3)))), .asg (.name 6) (.bin .add (.idx (.loc 0) (.con (.int 4))) (.idx (.loc 1) (.con (.int 4)))), .ret (.tup [.loc 2, .loc 3, .loc 4, .loc 5, .loc 6, .bi .min [.idx (.loc 0) (.con (.int 5)), .idx (.loc 1) (.con (.int 5))], .bi .max [.idx (.loc 0) (.con (.int 6)), .idx (.loc 1) (.con (.int 6))], .bin .add (.idx (.loc 0) (.con (.int 7))) (.idx (.loc 1) (.con (.int 7)))])], true⟩
theorem sc_4 : FnScope N_4 ["one", "two"] (defScope s_4) := ⟨rfl, rfl, rfl, by decide +kernel, rfl, by decide +kernel, by decide +kernel⟩
abbrev s_5 : Stmt := top 19
abbrev N_5 : List Str := ["tolds", "poured", "told"]
abbrev d_5 : Df := ⟨"tolds_poured", "tolds_poured", s_5, N_5, ["tolds"], [], []⟩
/-- tolds_poured -/
def c_5 : Fn := ⟨1, 3, [.asg (.name 1) (.con .non), .for_ (.name 2) .val [.loc 0] [.asg (.name 1) (.call 4 (wd [.loc 1, .loc 2] []))], .ret (.loc 1)], true⟩
theorem sc_5 : FnScope N_5 ["tolds"] (defScope s_5) := ⟨rfl, rfl, rfl, by decide +kernel, rfl, by decide +kernel, by decide +kernel⟩
abbrev s_6 : Stmt := top 21
abbrev N_6 : List Str := ["things", "thing"]
abbrev d_6 : Df := ⟨"make_leaf", "make_leaf", s_6, N_6, ["things"], [], []⟩
/-- make_leaf -/
def c_6 : Fn := ⟨1, 2, [.ret (.tup [.con (.str "leaf"), .call 5 (wd [.bi .tuple [.comp [1] (.name 1) .val [.loc 0] none (.call 3 (wd [.loc 1] []))]] []), .loc 0])], true⟩
theorem sc_6 : FnScope N_6 ["things"] (defScope s_6) := ⟨rfl, rfl, rfl, by decide +kernel, rfl, by decide +kernel, by decide +kernel⟩
abbrev s_7 : Stmt := (inCls (top 25)).getD 0 (.Pass ⟨0, 0, 0, 0⟩)
abbrev N_7 : List Str := ["self", "sides", "room"]
abbrev d_7 : Df := ⟨"__init__", "Store.__init__", s_7, N_7, ["self", "sides", "room"], [], []⟩
/-- Store.__init__ -/
def c_7 : Fn := ⟨3, 3, [.ite (.or (.not (.call 2 (wd [.loc 1, .con (.int 2), .con (.int 3)] []))) (.not (.call 2 (wd [.loc 2, .con (.int 4), .con (.int 16)] [])))) [.raise 5] [], .fld (.loc 0) 0 (.loc 1), .fld (.loc 0) 1 (.loc 2), .fld (.loc 0) 2 (.box (.lst [.call 6 (wd [.tup []] [])])), .fld (.loc 0) 3 (.dct), .fld (.loc 0) 4 (.dct), .fld (.loc 0) 5 (.con (.int 0))], false⟩
theorem sc_7 : FnScope N_7 ["self", "sides", "room"] (defScope s_7) := ⟨rfl, rfl, rfl, by decide +kernel, rfl, by decide +kernel, by decide +kernel⟩
abbrev s_8 : Stmt := (inCls (top 25)).getD 8 (.Pass ⟨0, 0, 0, 0⟩)
abbrev N_8 : List Str := ["self"]
abbrev d_8 : Df := ⟨"handles", "Store.handles", s_8, N_8, ["self"], [], []⟩
/-- Store.handles -/
def c_8 : Fn := ⟨1, 1, [.ret (.bi .tuple [.bi .sorted [.fld (.loc 0) 3]])], false⟩
theorem sc_8 : FnScope N_8 ["self"] (defScope s_8) := ⟨rfl, rfl, rfl, by decide +kernel, rfl, by decide +kernel, by decide +kernel⟩
abbrev s_9 : Stmt := (inCls (top 25)).getD 9 (.Pass ⟨0, 0, 0, 0⟩)
abbrev N_9 : List Str := ["self"]
abbrev d_9 : Df := ⟨"deeds_done", "Store.deeds_done", s_9, N_9, ["self"], [], []⟩
/-- Store.deeds_done -/
def c_9 : Fn := ⟨1, 1, [.ret (.bin .sub (.bi .len [.fld (.loc 0) 2]) (.con (.int 1)))], false⟩
theorem sc_9 : FnScope N_9 ["self"] (defScope s_9) := ⟨rfl, rfl, rfl, by decide +kernel, rfl, by decide +kernel, by decide +kernel⟩
abbrev s_10 : Stmt := (inCls (top 25)).getD 10 (.Pass ⟨0, 0, 0, 0⟩)
abbrev N_10 : List Str := ["self", "view"]
abbrev d_10 : Df := ⟨"tree_at", "Store.tree_at", s_10, N_10, ["self", "view"], [.non], [.non]⟩
/-- Store.tree_at -/
def c_10 : Fn := ⟨2, 2, [.ite (.un .isN (.loc 1)) [.ret (.idx (.fld (.loc 0) 2) (.un .neg (.con (.int 1))))] [], .ite (.or (.bin .lt (.loc 1) (.con (.int 0))) (.bin .ge (.loc 1) (.bi .len [.fld (.loc 0) 2]))) [.raise 7] [], .ret (.idx (.fld (.loc 0) 2) (.loc 1))], false⟩
theorem sc_10 : FnScope N_10 ["self", "view"] (defScope s_10) := ⟨rfl, rfl, rfl, by decide +kernel, rfl, by decide +kernel, by decide +kernel⟩
abbrev s_11 : Stmt := top 27
abbrev N_11 : List Str := ["cell"]
abbrev d_11 : Df := ⟨"_law_stir", "_law_stir", s_11, N_11, ["cell"], [], []⟩
/-- _law_stir -/
def c_11 : Fn := ⟨1, 1, [.ret (.bin .mod (.bin .mul (.loc 0) (.con (.int 105172331949523456789012345678901234567))) (.con (.int 170141183460469231731687303715884105727)))], true⟩
theorem sc_11 : FnScope N_11 ["cell"] (defScope s_11) := ⟨rfl, rfl, rfl, by decide +kernel, rfl, by decide +kernel, by decide +kernel⟩
abbrev s_12 : Stmt := top 28
abbrev N_12 : List Str := ["left"]
abbrev d_12 : Df := ⟨"_law_next", "_law_next", s_12, N_12, ["left"], [], []⟩
/-- _law_next -/
def c_12 : Fn := ⟨1, 1, [.ret (.bin .mod (.bin .mul (.loc 0) (.con (.int 83492791123456789012345678901234567891))) (.con (.int 170141183460469231731687303715884105727)))], true⟩
theorem sc_12 : FnScope N_12 ["left"] (defScope s_12) := ⟨rfl, rfl, rfl, by decide +kernel, rfl, by decide +kernel, by decide +kernel⟩
abbrev s_13 : Stmt := top 29
abbrev N_13 : List Str := ["found", "due", "k"]
abbrev d_13 : Df := ⟨"_law_same", "_law_same", s_13, N_13, ["found", "due"], [], []⟩
/-- _law_same -/
def c_13 : Fn := ⟨2, 3, [.ite (.bi (.isinst .tuple) [.loc 1]) [.ite (.or (.not (.bi (.isinst .tuple) [.loc 0])) (.bin .ne (.bi .len [.loc 0]) (.bi .len [.loc 1]))) [.ret (.con (.bl false))] [], .for_ (.name 2) .range1 [.bi .len [.loc 1]] [.ite (.not (.call 13 (wd [.idx (.loc 0) (.loc 2), .idx (.loc 1) (.loc 2)] []))) [.ret (.con (.bl false))] []], .ret (.con (.bl true))] [], .ite (.un .isN (.loc 1)) [.ret (.un .isN (.loc 0))] [], .ite (.bi (.isinst .str) [.loc 1]) [.ret (.and (.bi (.isinst .str) [.loc 0]) (.bin .eq (.loc 0) (.loc 1)))] [], .ite (.or (.not (.bi (.isinst .int) [.loc 0])) (.bin .ne (.bi (.isinst .bool) [.loc 0]) (.bi (.isinst .bool) [.loc 1]))) [.ret (.con (.bl false))] [], .ret (.bin .eq (.loc 0) (.loc 1))], true⟩
theorem sc_13 : FnScope N_13 ["found", "due"] (defScope s_13) := ⟨rfl, rfl, rfl, by decide +kernel, rfl, by decide +kernel, by decide +kernel⟩
abbrev s_14 : Stmt := top 30
abbrev N_14 : List Str := ["left", "cell", "odd"]
abbrev d_14 : Df := ⟨"_law_sides_by", "_law_sides_by", s_14, N_14, ["left", "cell"], [], []⟩
/-- _law_sides_by -/
def c_14 : Fn := ⟨2, 3, [.ite (.bin .lt (.bin .mod (.loc 0) (.con (.int 3))) (.con (.int 2))) [.ret (.bin .add (.con (.int 2)) (.bin .mod (.loc 0) (.con (.int 3))))] [], .asg (.name 2) (.lst [.con (.int 0), .con (.int 1), .con (.int 4), .un .neg (.con (.int 2)), .con (.bl true), .con .non, .con (.str "2"), .tup [.con (.int 2)], .tup [.con (.int 2), .con (.int 3)], .bin .add (.bin .mod (.loc 1) (.bin .pow (.con (.int 10)) (.con (.int 20)))) (.con (.int 5)), .bin .sub (.un .neg (.con (.int 1))) (.bin .mod (.loc 1) (.bin .pow (.con (.int 10)) (.con (.int 20))))]), .ret (.idx (.loc 2) (.bin .mod (.bin .fdiv (.loc 0) (.con (.int 3))) (.con (.int 11))))], true⟩
theorem sc_14 : FnScope N_14 ["left", "cell"] (defScope s_14) := ⟨rfl, rfl, rfl, by decide +kernel, rfl, by decide +kernel, by decide +kernel⟩
abbrev s_15 : Stmt := top 31
abbrev N_15 : List Str := ["left", "cell", "odd"]
abbrev d_15 : Df := ⟨"_law_room_by", "_law_room_by", s_15, N_15, ["left", "cell"], [], []⟩
/-- _law_room_by -/
def c_15 : Fn := ⟨2, 3, [.ite (.bin .lt (.bin .mod (.loc 0) (.con (.int 3))) (.con (.int 2))) [.ret (.bin .add (.con (.int 4)) (.bin .mod (.bin .fdiv (.loc 0) (.con (.int 3))) (.con (.int 13))))] [], .asg (.name 2) (.lst [.con (.int 3), .con (.int 17), .con (.int 0), .un .neg (.con (.int 4)), .con (.bl true), .con .non, .con (.str "8"), .tup [.con (.int 8)], .bin .add (.bin .mod (.loc 1) (.bin .pow (.con (.int 10)) (.con (.int 20)))) (.con (.int 17)), .bin .sub (.con (.int 3)) (.bin .mod (.loc 1) (.bin .pow (.con (.int 10)) (.con (.int 20)))), .con (.bl false)]), .ret (.idx (.loc 2) (.bin .mod (.bin .fdiv (.loc 0) (.con (.int 3))) (.con (.int 11))))], true⟩
theorem sc_15 : FnScope N_15 ["left", "cell"] (defScope s_15) := ⟨rfl, rfl, rfl, by decide +kernel, rfl, by decide +kernel, by decide +kernel⟩
abbrev s_16 : Stmt := top 32
abbrev N_16 : List Str := ["sides", "room"]
abbrev d_16 : Df := ⟨"_law_good", "_law_good", s_16, N_16, ["sides", "room"], [], []⟩
/-- _law_good -/
def c_16 : Fn := ⟨2, 2, [.ite (.or (.bi (.isinst .bool) [.loc 0]) (.bi (.isinst .bool) [.loc 1])) [.ret (.con (.bl false))] [], .ite (.or (.not (.bi (.isinst .int) [.loc 0])) (.not (.bi (.isinst .int) [.loc 1]))) [.ret (.con (.bl false))] [], .ret (.and (.chain .le .le (.con (.int 2)) (.loc 0) (.con (.int 3))) (.chain .le .le (.con (.int 4)) (.loc 1) (.con (.int 16))))], true⟩
theorem sc_16 : FnScope N_16 ["sides", "room"] (defScope s_16) := ⟨rfl, rfl, rfl, by decide +kernel, rfl, by decide +kernel, by decide +kernel⟩
abbrev s_17 : Stmt := top 34
abbrev N_17 : List Str := ["sides", "room", "word", "e"]
abbrev d_17 : Df := ⟨"_law_refused", "_law_refused", s_17, N_17, ["sides", "room"], [], []⟩
/-- _law_refused -/
def c_17 : Fn := ⟨2, 4, [.asg (.name 2) (.con (.str "made")), .try_ [.expr (.make 10 7 (wd [.loc 0, .loc 1] []))] [(5, some 3, [.asg (.name 2) (.con (.str "refused")), .ite (.or (.not (.isExc 3 0)) (.or (.not (.isExc 3 100)) (.callE 20 3))) [.asg (.name 2) (.con (.str "under another one"))] []])], .ret (.bin .eq (.loc 2) (.con (.str "refused")))], true⟩
theorem sc_17 : FnScope N_17 ["sides", "room"] (defScope s_17) := ⟨rfl, rfl, rfl, by decide +kernel, rfl, by decide +kernel, by decide +kernel⟩
abbrev s_18 : Stmt := top 35
abbrev N_18 : List Str := ["store", "view", "word", "e"]
abbrev d_18 : Df := ⟨"_law_no_view", "_law_no_view", s_18, N_18, ["store", "view"], [], []⟩
/-- _law_no_view -/
def c_18 : Fn := ⟨2, 4, [.asg (.name 2) (.con (.str "told")), .try_ [.expr (.meth 2 (.loc 0) (wd [.loc 1] []))] [(7, some 3, [.asg (.name 2) (.con (.str "refused")), .ite (.or (.not (.isExc 3 0)) (.or (.isExc 3 5) (.isExc 3 4))) [.asg (.name 2) (.con (.str "under another one"))] []])], .ret (.bin .eq (.loc 2) (.con (.str "refused")))], false⟩
theorem sc_18 : FnScope N_18 ["store", "view"] (defScope s_18) := ⟨rfl, rfl, rfl, by decide +kernel, rfl, by decide +kernel, by decide +kernel⟩
abbrev s_19 : Stmt := top 36
abbrev N_19 : List Str := ["script", "cell", "left", "sides", "room", "store", "told"]
abbrev d_19 : Df := ⟨"law", "law", s_19, N_19, ["script"], [], []⟩
/-- law -/
def c_19 : Fn := ⟨1, 7, [.for_ (.name 1) .val [.bin .add (.lst [.con (.int 0)]) (.loc 0)] [.asg (.name 2) (.call 11 (wd [.loc 1] [])), .asg (.name 3) (.call 14 (wd [.loc 2, .loc 1] [])), .asg (.name 4) (.call 15 (wd [.call 12 (wd [.loc 2] []), .loc 1] [])), .ite (.not (.call 16 (wd [.loc 3, .loc 4] []))) [.ite (.not (.call 17 (wd [.loc 3, .loc 4] []))) [.ret (.con (.bl false))] []] [.asg (.name 5) (.make 10 7 (wd [.loc 3, .loc 4] [])), .ite (.or (.not (.call 13 (wd [.meth 0 (.loc 5) (wd0 []), .tup []] []))) (.not (.call 13 (wd [.meth 1 (.loc 5) (wd0 []), .con (.int 0)] [])))) [.ret (.con (.bl false))] [], .for_ (.name 6) .val [.lst [.meth 2 (.loc 5) (wd0 [.non]), .meth 2 (.loc 5) (wd [.con (.int 0)] []), .meth 2 (.loc 5) (wd [.con .non] [])]] [.ite (.not (.call 13 (wd [.loc 6, .tup [.con (.str "leaf"), .con .non, .tup []]] []))) [.ret (.con (.bl false))] []], .ite (.or (.not (.call 18 (wd [.loc 5, .con (.int 1)] []))) (.not (.call 18 (wd [.loc 5, .un .neg (.con (.int 1))] [])))) [.ret (.con (.bl false))] []]], .ret (.con (.bl true))], true⟩
theorem sc_19 : FnScope N_19 ["script"] (defScope s_19) := ⟨rfl, rfl, rfl, by decide +kernel, rfl, by decide +kernel, by decide +kernel⟩
abbrev s_20 : Stmt := top 33
abbrev N_20 : List Str := ["found"]
abbrev d_20 : Df := ⟨"_law_other", "_law_other", s_20, N_20, ["found"], [], []⟩
/-- _law_other -/
def c_20 : Fn := ⟨1, 1, [.ite (.or (.isExc 0 2) (.or (.isExc 0 3) (.isExc 0 4))) [.ret (.con (.bl true))] [], .ite (.or (.isExc 0 1) (.or (.isExc 0 6) (.isExc 0 7))) [.ret (.con (.bl true))] [], .ret (.or (.isExc 0 8) (.isExc 0 9))], true⟩
theorem sc_20 : FnScope N_20 ["found"] (defScope s_20) := ⟨rfl, rfl, rfl, by decide +kernel, rfl, by decide +kernel, by decide +kernel⟩
def fns : List Fn := [c_0, c_1, c_2, c_3, c_4, c_5, c_6, c_7, c_8, c_9, c_10, c_11, c_12, c_13, c_14, c_15, c_16, c_17, c_18, c_19, c_20]
def dfl : List Df := [d_0, d_1, d_2, d_3, d_4, d_5, d_6, d_7, d_8, d_9, d_10, d_11, d_12, d_13, d_14, d_15, d_16, d_17, d_18, d_19, d_20]
def dfs (g : Nat) : Df := dfl.getD g d_0
def methT : List (List (Nat × Nat)) := [[(10, 8)], [(10, 9)], [(10, 10)]]
def fixT : List (List (Nat × Nat)) := [[(10, 0)], [(10, 1)], [(10, 2)], [(10, 3)], [(10, 4)], [(10, 5)]]
def subT (k : Nat) : List (Nat × Bool) := match k with
  | 0 => [(5, true), (7, true)]
  | 4 => [(5, false), (7, false)]
  | 3 => [(5, false), (7, false)]
  | 5 => [(5, true), (7, false)]
  | 9 => [(5, false), (7, false)]
  | 1 => [(5, false), (7, false)]
  | 7 => [(5, false), (7, true)]
  | 2 => [(5, false), (7, false)]
  | 8 => [(5, false), (7, false)]
  | 6 => [(5, false), (7, false)]
  | 100 => [(5, true), (7, true)]
  | _ => []
def PP : Prog := ⟨fun g => fns[g]?, fun c m => (methT.getD m []).lookup c, fun c f => (fixT.getD f []).lookup c, fun c k => (subT k).lookup c, 100000⟩
def flL : List (List Str) := [[], [], [], [], [], [], [], [], [], [], ["sides", "room", "tops", "kept", "standing", "watches_set"]]
def flT (c : Nat) : List Str := flL.getD c []
structure Txt (K : PySem.W.Frag) (mg : Str → Option Value) (A : We) (fa : Nat → Addr) : Prop where
  fn : AllB (fun g => FnF K (dfs g) (fa g)) 21
  efl : A.fl = flT
  eea : A.ea = none
  m_frames_joined : mg "frames_joined" = some (.ref (fa 0))
  m_frames_narrowed : mg "frames_narrowed" = some (.ref (fa 1))
  m_whole_within : mg "whole_within" = some (.ref (fa 2))
  m_thing_told : mg "thing_told" = some (.ref (fa 3))
  m_told_poured : mg "told_poured" = some (.ref (fa 4))
  m_tolds_poured : mg "tolds_poured" = some (.ref (fa 5))
  m_make_leaf : mg "make_leaf" = some (.ref (fa 6))
  m__law_stir : mg "_law_stir" = some (.ref (fa 11))
  m__law_next : mg "_law_next" = some (.ref (fa 12))
  m__law_same : mg "_law_same" = some (.ref (fa 13))
  m__law_sides_by : mg "_law_sides_by" = some (.ref (fa 14))
  m__law_room_by : mg "_law_room_by" = some (.ref (fa 15))
  m__law_good : mg "_law_good" = some (.ref (fa 16))
  m__law_refused : mg "_law_refused" = some (.ref (fa 17))
  m__law_no_view : mg "_law_no_view" = some (.ref (fa 18))
  m_law : mg "law" = some (.ref (fa 19))
  m__law_other : mg "_law_other" = some (.ref (fa 20))
  z_ValueError : mg "ValueError" = none
  z_bool : mg "bool" = none
  z_int : mg "int" = none
  z_isinstance : mg "isinstance" = none
  z_len : mg "len" = none
  z_max : mg "max" = none
  z_min : mg "min" = none
  z_range : mg "range" = none
  z_sorted : mg "sorted" = none
  z_str : mg "str" = none
  z_tuple : mg "tuple" = none
  z_zip : mg "zip" = none
  k_LEAST_ROOM : ∃ t, mg "LEAST_ROOM" = some (.int 4 t)
  k_MOST_ROOM : ∃ t, mg "MOST_ROOM" = some (.int 16 t)
  cl_Store : mg "Store" = some (.ref (A.ca 10))
  cls_Store : Cls K (A.ca 10)
  mk_Store : Mk K (A.ca 10) (fa 7)
  na_Store_sides : NoAttr K (A.ca 10) "sides"
  na_Store_room : NoAttr K (A.ca 10) "room"
  na_Store_tops : NoAttr K (A.ca 10) "tops"
  na_Store_kept : NoAttr K (A.ca 10) "kept"
  na_Store_standing : NoAttr K (A.ca 10) "standing"
  na_Store_watches_set : NoAttr K (A.ca 10) "watches_set"
  me_10_handles : Meth K (A.ca 10) "handles" (fa 8)
  me_10_deeds_done : Meth K (A.ca 10) "deeds_done" (fa 9)
  me_10_tree_at : Meth K (A.ca 10) "tree_at" (fa 10)
  cl_DriftError : mg "DriftError" = some (.ref (A.ca 0))
  xs_DriftError : PySem.W.subIn K (.ref (A.ca 0)) (.type "BaseException") = some true
  xt_DriftError : PySem.W.typeIn K (.ref (A.ca 0)) = some (.type "type")
  xh_DriftError : PySem.W.hasDictIn K (A.ca 0) = true
  xr_DriftError : PySem.W.subIn K (.ref (A.ca 0)) (.ref (A.ca 0)) = some true
  cl_NoThing : mg "NoThing" = some (.ref (A.ca 1))
  xs_NoThing : PySem.W.subIn K (.ref (A.ca 1)) (.type "BaseException") = some true
  xt_NoThing : PySem.W.typeIn K (.ref (A.ca 1)) = some (.type "type")
  xh_NoThing : PySem.W.hasDictIn K (A.ca 1) = true
  xr_NoThing : PySem.W.subIn K (.ref (A.ca 1)) (.ref (A.ca 1)) = some true
  cl_NoWant : mg "NoWant" = some (.ref (A.ca 2))
  xs_NoWant : PySem.W.subIn K (.ref (A.ca 2)) (.type "BaseException") = some true
  xt_NoWant : PySem.W.typeIn K (.ref (A.ca 2)) = some (.type "type")
  xh_NoWant : PySem.W.hasDictIn K (A.ca 2) = true
  xr_NoWant : PySem.W.subIn K (.ref (A.ca 2)) (.ref (A.ca 2)) = some true
  cl_NoPath : mg "NoPath" = some (.ref (A.ca 3))
  xs_NoPath : PySem.W.subIn K (.ref (A.ca 3)) (.type "BaseException") = some true
  xt_NoPath : PySem.W.typeIn K (.ref (A.ca 3)) = some (.type "type")
  xh_NoPath : PySem.W.hasDictIn K (A.ca 3) = true
  xr_NoPath : PySem.W.subIn K (.ref (A.ca 3)) (.ref (A.ca 3)) = some true
  cl_NoHandle : mg "NoHandle" = some (.ref (A.ca 4))
  xs_NoHandle : PySem.W.subIn K (.ref (A.ca 4)) (.type "BaseException") = some true
  xt_NoHandle : PySem.W.typeIn K (.ref (A.ca 4)) = some (.type "type")
  xh_NoHandle : PySem.W.hasDictIn K (A.ca 4) = true
  xr_NoHandle : PySem.W.subIn K (.ref (A.ca 4)) (.ref (A.ca 4)) = some true
  cl_NoRoom : mg "NoRoom" = some (.ref (A.ca 5))
  xs_NoRoom : PySem.W.subIn K (.ref (A.ca 5)) (.type "BaseException") = some true
  xt_NoRoom : PySem.W.typeIn K (.ref (A.ca 5)) = some (.type "type")
  xh_NoRoom : PySem.W.hasDictIn K (A.ca 5) = true
  xr_NoRoom : PySem.W.subIn K (.ref (A.ca 5)) (.ref (A.ca 5)) = some true
  cl_Twice : mg "Twice" = some (.ref (A.ca 6))
  xs_Twice : PySem.W.subIn K (.ref (A.ca 6)) (.type "BaseException") = some true
  xt_Twice : PySem.W.typeIn K (.ref (A.ca 6)) = some (.type "type")
  xh_Twice : PySem.W.hasDictIn K (A.ca 6) = true
  xr_Twice : PySem.W.subIn K (.ref (A.ca 6)) (.ref (A.ca 6)) = some true
  cl_NoView : mg "NoView" = some (.ref (A.ca 7))
  xs_NoView : PySem.W.subIn K (.ref (A.ca 7)) (.type "BaseException") = some true
  xt_NoView : PySem.W.typeIn K (.ref (A.ca 7)) = some (.type "type")
  xh_NoView : PySem.W.hasDictIn K (A.ca 7) = true
  xr_NoView : PySem.W.subIn K (.ref (A.ca 7)) (.ref (A.ca 7)) = some true
  cl_NoWatch : mg "NoWatch" = some (.ref (A.ca 8))
  xs_NoWatch : PySem.W.subIn K (.ref (A.ca 8)) (.type "BaseException") = some true
  xt_NoWatch : PySem.W.typeIn K (.ref (A.ca 8)) = some (.type "type")
  xh_NoWatch : PySem.W.hasDictIn K (A.ca 8) = true
  xr_NoWatch : PySem.W.subIn K (.ref (A.ca 8)) (.ref (A.ca 8)) = some true
  cl_NoText : mg "NoText" = some (.ref (A.ca 9))
  xs_NoText : PySem.W.subIn K (.ref (A.ca 9)) (.type "BaseException") = some true
  xt_NoText : PySem.W.typeIn K (.ref (A.ca 9)) = some (.type "type")
  xh_NoText : PySem.W.hasDictIn K (A.ca 9) = true
  xr_NoText : PySem.W.subIn K (.ref (A.ca 9)) (.ref (A.ca 9)) = some true
  xi_NoRoom : PySem.W.excIn K (A.ca 5) [.type "ValueError", .type "Exception", .type "BaseException", .type "object"] "ValueError.__new__" = true
  xk_NoRoom : PySem.W.keepIn K (.ref (A.ca 5)) = true
  xc_NoRoom : ExcC K (A.ca 5)
  sb_NoRoom_DriftError : PySem.W.subIn K (.ref (A.ca 5)) (.ref (A.ca 0)) = some true
  sb_NoRoom_NoHandle : PySem.W.subIn K (.ref (A.ca 5)) (.ref (A.ca 4)) = some false
  sb_NoRoom_NoPath : PySem.W.subIn K (.ref (A.ca 5)) (.ref (A.ca 3)) = some false
  sb_NoRoom_NoRoom : PySem.W.subIn K (.ref (A.ca 5)) (.ref (A.ca 5)) = some true
  sb_NoRoom_NoText : PySem.W.subIn K (.ref (A.ca 5)) (.ref (A.ca 9)) = some false
  sb_NoRoom_NoThing : PySem.W.subIn K (.ref (A.ca 5)) (.ref (A.ca 1)) = some false
  sb_NoRoom_NoView : PySem.W.subIn K (.ref (A.ca 5)) (.ref (A.ca 7)) = some false
  sb_NoRoom_NoWant : PySem.W.subIn K (.ref (A.ca 5)) (.ref (A.ca 2)) = some false
  sb_NoRoom_NoWatch : PySem.W.subIn K (.ref (A.ca 5)) (.ref (A.ca 8)) = some false
  sb_NoRoom_Twice : PySem.W.subIn K (.ref (A.ca 5)) (.ref (A.ca 6)) = some false
  sb_NoRoom_ValueError : PySem.W.subIn K (.ref (A.ca 5)) (.type "ValueError") = some true
  xi_NoView : PySem.W.excIn K (A.ca 7) [.type "ValueError", .type "Exception", .type "BaseException", .type "object"] "ValueError.__new__" = true
  xk_NoView : PySem.W.keepIn K (.ref (A.ca 7)) = true
  xc_NoView : ExcC K (A.ca 7)
  sb_NoView_DriftError : PySem.W.subIn K (.ref (A.ca 7)) (.ref (A.ca 0)) = some true
  sb_NoView_NoHandle : PySem.W.subIn K (.ref (A.ca 7)) (.ref (A.ca 4)) = some false
  sb_NoView_NoPath : PySem.W.subIn K (.ref (A.ca 7)) (.ref (A.ca 3)) = some false
  sb_NoView_NoRoom : PySem.W.subIn K (.ref (A.ca 7)) (.ref (A.ca 5)) = some false
  sb_NoView_NoText : PySem.W.subIn K (.ref (A.ca 7)) (.ref (A.ca 9)) = some false
  sb_NoView_NoThing : PySem.W.subIn K (.ref (A.ca 7)) (.ref (A.ca 1)) = some false
  sb_NoView_NoView : PySem.W.subIn K (.ref (A.ca 7)) (.ref (A.ca 7)) = some true
  sb_NoView_NoWant : PySem.W.subIn K (.ref (A.ca 7)) (.ref (A.ca 2)) = some false
  sb_NoView_NoWatch : PySem.W.subIn K (.ref (A.ca 7)) (.ref (A.ca 8)) = some false
  sb_NoView_Twice : PySem.W.subIn K (.ref (A.ca 7)) (.ref (A.ca 6)) = some false
  sb_NoView_ValueError : PySem.W.subIn K (.ref (A.ca 7)) (.type "ValueError") = some true
section
variable {P : Program} {w : World} {K : PySem.W.Frag} {mg : Str → Option Value} {base : Heap} {A : We} {fa : Nat → Addr} {n : Nat}
def Oks (P : Program) (w : World) (K : PySem.W.Frag) (mg : Str → Option Value) (base : Heap) (A : We) (fa : Nat → Addr) (n : Nat) : Prop := AllB (fun g => OkAt P w K mg base A PP fa n g (dfs g)) 20
theorem fo_sides (T : Txt K mg A fa) {Φ : Nat → List D → Mem → Ev D} : FOk K A (PP.cfg n Φ) "sides" 0 := fok_of (l := [(10, 0)]) (fun _ => rfl) ⟨⟨T.cls_Store, T.na_Store_sides, (by rw [T.efl]; rfl), (by rw [T.efl]; decide +kernel), (by rw [T.efl]; decide +kernel)⟩, trivial⟩
theorem fo_room (T : Txt K mg A fa) {Φ : Nat → List D → Mem → Ev D} : FOk K A (PP.cfg n Φ) "room" 1 := fok_of (l := [(10, 1)]) (fun _ => rfl) ⟨⟨T.cls_Store, T.na_Store_room, (by rw [T.efl]; rfl), (by rw [T.efl]; decide +kernel), (by rw [T.efl]; decide +kernel)⟩, trivial⟩
theorem fo_tops (T : Txt K mg A fa) {Φ : Nat → List D → Mem → Ev D} : FOk K A (PP.cfg n Φ) "tops" 2 := fok_of (l := [(10, 2)]) (fun _ => rfl) ⟨⟨T.cls_Store, T.na_Store_tops, (by rw [T.efl]; rfl), (by rw [T.efl]; decide +kernel), (by rw [T.efl]; decide +kernel)⟩, trivial⟩
theorem fo_kept (T : Txt K mg A fa) {Φ : Nat → List D → Mem → Ev D} : FOk K A (PP.cfg n Φ) "kept" 3 := fok_of (l := [(10, 3)]) (fun _ => rfl) ⟨⟨T.cls_Store, T.na_Store_kept, (by rw [T.efl]; rfl), (by rw [T.efl]; decide +kernel), (by rw [T.efl]; decide +kernel)⟩, trivial⟩
theorem fo_standing (T : Txt K mg A fa) {Φ : Nat → List D → Mem → Ev D} : FOk K A (PP.cfg n Φ) "standing" 4 := fok_of (l := [(10, 4)]) (fun _ => rfl) ⟨⟨T.cls_Store, T.na_Store_standing, (by rw [T.efl]; rfl), (by rw [T.efl]; decide +kernel), (by rw [T.efl]; decide +kernel)⟩, trivial⟩
theorem fo_watches_set (T : Txt K mg A fa) {Φ : Nat → List D → Mem → Ev D} : FOk K A (PP.cfg n Φ) "watches_set" 5 := fok_of (l := [(10, 5)]) (fun _ => rfl) ⟨⟨T.cls_Store, T.na_Store_watches_set, (by rw [T.efl]; rfl), (by rw [T.efl]; decide +kernel), (by rw [T.efl]; decide +kernel)⟩, trivial⟩
theorem ho_DriftError (T : Txt K mg A fa) {C : Cfg} (hs : C.sub = PP.sub := by rfl) : HOkC K A C 0 (.ref (A.ca 0)) := hok_of (l := [(5, true), (7, true)]) (fun c => by rw [hs]; rfl) ⟨PySem.W.exm_ref T.xs_DriftError T.xh_DriftError T.xt_DriftError T.sb_NoRoom_DriftError, PySem.W.exm_ref T.xs_DriftError T.xh_DriftError T.xt_DriftError T.sb_NoView_DriftError, trivial⟩
theorem xo_DriftError (T : Txt K mg A fa) {C : Cfg} (hs : C.sub = PP.sub := by rfl) : XOk K A C 0 (.ref (A.ca 0)) := xok_of (l := [(5, true), (7, true)]) (fun c => by rw [hs]; rfl) ⟨⟨T.xc_NoRoom, kit_ref T.xh_DriftError T.xt_DriftError T.xr_DriftError T.sb_NoRoom_DriftError⟩, ⟨T.xc_NoView, kit_ref T.xh_DriftError T.xt_DriftError T.xr_DriftError T.sb_NoView_DriftError⟩, trivial⟩
theorem ho_NoHandle (T : Txt K mg A fa) {C : Cfg} (hs : C.sub = PP.sub := by rfl) : HOkC K A C 4 (.ref (A.ca 4)) := hok_of (l := [(5, false), (7, false)]) (fun c => by rw [hs]; rfl) ⟨PySem.W.exm_ref T.xs_NoHandle T.xh_NoHandle T.xt_NoHandle T.sb_NoRoom_NoHandle, PySem.W.exm_ref T.xs_NoHandle T.xh_NoHandle T.xt_NoHandle T.sb_NoView_NoHandle, trivial⟩
theorem xo_NoHandle (T : Txt K mg A fa) {C : Cfg} (hs : C.sub = PP.sub := by rfl) : XOk K A C 4 (.ref (A.ca 4)) := xok_of (l := [(5, false), (7, false)]) (fun c => by rw [hs]; rfl) ⟨⟨T.xc_NoRoom, kit_ref T.xh_NoHandle T.xt_NoHandle T.xr_NoHandle T.sb_NoRoom_NoHandle⟩, ⟨T.xc_NoView, kit_ref T.xh_NoHandle T.xt_NoHandle T.xr_NoHandle T.sb_NoView_NoHandle⟩, trivial⟩
theorem ho_NoPath (T : Txt K mg A fa) {C : Cfg} (hs : C.sub = PP.sub := by rfl) : HOkC K A C 3 (.ref (A.ca 3)) := hok_of (l := [(5, false), (7, false)]) (fun c => by rw [hs]; rfl) ⟨PySem.W.exm_ref T.xs_NoPath T.xh_NoPath T.xt_NoPath T.sb_NoRoom_NoPath, PySem.W.exm_ref T.xs_NoPath T.xh_NoPath T.xt_NoPath T.sb_NoView_NoPath, trivial⟩
theorem xo_NoPath (T : Txt K mg A fa) {C : Cfg} (hs : C.sub = PP.sub := by rfl) : XOk K A C 3 (.ref (A.ca 3)) := xok_of (l := [(5, false), (7, false)]) (fun c => by rw [hs]; rfl) ⟨⟨T.xc_NoRoom, kit_ref T.xh_NoPath T.xt_NoPath T.xr_NoPath T.sb_NoRoom_NoPath⟩, ⟨T.xc_NoView, kit_ref T.xh_NoPath T.xt_NoPath T.xr_NoPath T.sb_NoView_NoPath⟩, trivial⟩
theorem ho_NoRoom (T : Txt K mg A fa) {C : Cfg} (hs : C.sub = PP.sub := by rfl) : HOkC K A C 5 (.ref (A.ca 5)) := hok_of (l := [(5, true), (7, false)]) (fun c => by rw [hs]; rfl) ⟨PySem.W.exm_ref T.xs_NoRoom T.xh_NoRoom T.xt_NoRoom T.sb_NoRoom_NoRoom, PySem.W.exm_ref T.xs_NoRoom T.xh_NoRoom T.xt_NoRoom T.sb_NoView_NoRoom, trivial⟩
theorem xo_NoRoom (T : Txt K mg A fa) {C : Cfg} (hs : C.sub = PP.sub := by rfl) : XOk K A C 5 (.ref (A.ca 5)) := xok_of (l := [(5, true), (7, false)]) (fun c => by rw [hs]; rfl) ⟨⟨T.xc_NoRoom, kit_ref T.xh_NoRoom T.xt_NoRoom T.xr_NoRoom T.sb_NoRoom_NoRoom⟩, ⟨T.xc_NoView, kit_ref T.xh_NoRoom T.xt_NoRoom T.xr_NoRoom T.sb_NoView_NoRoom⟩, trivial⟩
theorem ho_NoText (T : Txt K mg A fa) {C : Cfg} (hs : C.sub = PP.sub := by rfl) : HOkC K A C 9 (.ref (A.ca 9)) := hok_of (l := [(5, false), (7, false)]) (fun c => by rw [hs]; rfl) ⟨PySem.W.exm_ref T.xs_NoText T.xh_NoText T.xt_NoText T.sb_NoRoom_NoText, PySem.W.exm_ref T.xs_NoText T.xh_NoText T.xt_NoText T.sb_NoView_NoText, trivial⟩
theorem xo_NoText (T : Txt K mg A fa) {C : Cfg} (hs : C.sub = PP.sub := by rfl) : XOk K A C 9 (.ref (A.ca 9)) := xok_of (l := [(5, false), (7, false)]) (fun c => by rw [hs]; rfl) ⟨⟨T.xc_NoRoom, kit_ref T.xh_NoText T.xt_NoText T.xr_NoText T.sb_NoRoom_NoText⟩, ⟨T.xc_NoView, kit_ref T.xh_NoText T.xt_NoText T.xr_NoText T.sb_NoView_NoText⟩, trivial⟩
theorem ho_NoThing (T : Txt K mg A fa) {C : Cfg} (hs : C.sub = PP.sub := by rfl) : HOkC K A C 1 (.ref (A.ca 1)) := hok_of (l := [(5, false), (7, false)]) (fun c => by rw [hs]; rfl) ⟨PySem.W.exm_ref T.xs_NoThing T.xh_NoThing T.xt_NoThing T.sb_NoRoom_NoThing, PySem.W.exm_ref T.xs_NoThing T.xh_NoThing T.xt_NoThing T.sb_NoView_NoThing, trivial⟩
theorem xo_NoThing (T : Txt K mg A fa) {C : Cfg} (hs : C.sub = PP.sub := by rfl) : XOk K A C 1 (.ref (A.ca 1)) := xok_of (l := [(5, false), (7, false)]) (fun c => by rw [hs]; rfl) ⟨⟨T.xc_NoRoom, kit_ref T.xh_NoThing T.xt_NoThing T.xr_NoThing T.sb_NoRoom_NoThing⟩, ⟨T.xc_NoView, kit_ref T.xh_NoThing T.xt_NoThing T.xr_NoThing T.sb_NoView_NoThing⟩, trivial⟩
theorem ho_NoView (T : Txt K mg A fa) {C : Cfg} (hs : C.sub = PP.sub := by rfl) : HOkC K A C 7 (.ref (A.ca 7)) := hok_of (l := [(5, false), (7, true)]) (fun c => by rw [hs]; rfl) ⟨PySem.W.exm_ref T.xs_NoView T.xh_NoView T.xt_NoView T.sb_NoRoom_NoView, PySem.W.exm_ref T.xs_NoView T.xh_NoView T.xt_NoView T.sb_NoView_NoView, trivial⟩
theorem xo_NoView (T : Txt K mg A fa) {C : Cfg} (hs : C.sub = PP.sub := by rfl) : XOk K A C 7 (.ref (A.ca 7)) := xok_of (l := [(5, false), (7, true)]) (fun c => by rw [hs]; rfl) ⟨⟨T.xc_NoRoom, kit_ref T.xh_NoView T.xt_NoView T.xr_NoView T.sb_NoRoom_NoView⟩, ⟨T.xc_NoView, kit_ref T.xh_NoView T.xt_NoView T.xr_NoView T.sb_NoView_NoView⟩, trivial⟩
theorem ho_NoWant (T : Txt K mg A fa) {C : Cfg} (hs : C.sub = PP.sub := by rfl) : HOkC K A C 2 (.ref (A.ca 2)) := hok_of (l := [(5, false), (7, false)]) (fun c => by rw [hs]; rfl) ⟨PySem.W.exm_ref T.xs_NoWant T.xh_NoWant T.xt_NoWant T.sb_NoRoom_NoWant, PySem.W.exm_ref T.xs_NoWant T.xh_NoWant T.xt_NoWant T.sb_NoView_NoWant, trivial⟩
theorem xo_NoWant (T : Txt K mg A fa) {C : Cfg} (hs : C.sub = PP.sub := by rfl) : XOk K A C 2 (.ref (A.ca 2)) := xok_of (l := [(5, false), (7, false)]) (fun c => by rw [hs]; rfl) ⟨⟨T.xc_NoRoom, kit_ref T.xh_NoWant T.xt_NoWant T.xr_NoWant T.sb_NoRoom_NoWant⟩, ⟨T.xc_NoView, kit_ref T.xh_NoWant T.xt_NoWant T.xr_NoWant T.sb_NoView_NoWant⟩, trivial⟩
theorem ho_NoWatch (T : Txt K mg A fa) {C : Cfg} (hs : C.sub = PP.sub := by rfl) : HOkC K A C 8 (.ref (A.ca 8)) := hok_of (l := [(5, false), (7, false)]) (fun c => by rw [hs]; rfl) ⟨PySem.W.exm_ref T.xs_NoWatch T.xh_NoWatch T.xt_NoWatch T.sb_NoRoom_NoWatch, PySem.W.exm_ref T.xs_NoWatch T.xh_NoWatch T.xt_NoWatch T.sb_NoView_NoWatch, trivial⟩
theorem xo_NoWatch (T : Txt K mg A fa) {C : Cfg} (hs : C.sub = PP.sub := by rfl) : XOk K A C 8 (.ref (A.ca 8)) := xok_of (l := [(5, false), (7, false)]) (fun c => by rw [hs]; rfl) ⟨⟨T.xc_NoRoom, kit_ref T.xh_NoWatch T.xt_NoWatch T.xr_NoWatch T.sb_NoRoom_NoWatch⟩, ⟨T.xc_NoView, kit_ref T.xh_NoWatch T.xt_NoWatch T.xr_NoWatch T.sb_NoView_NoWatch⟩, trivial⟩
theorem ho_Twice (T : Txt K mg A fa) {C : Cfg} (hs : C.sub = PP.sub := by rfl) : HOkC K A C 6 (.ref (A.ca 6)) := hok_of (l := [(5, false), (7, false)]) (fun c => by rw [hs]; rfl) ⟨PySem.W.exm_ref T.xs_Twice T.xh_Twice T.xt_Twice T.sb_NoRoom_Twice, PySem.W.exm_ref T.xs_Twice T.xh_Twice T.xt_Twice T.sb_NoView_Twice, trivial⟩
theorem xo_Twice (T : Txt K mg A fa) {C : Cfg} (hs : C.sub = PP.sub := by rfl) : XOk K A C 6 (.ref (A.ca 6)) := xok_of (l := [(5, false), (7, false)]) (fun c => by rw [hs]; rfl) ⟨⟨T.xc_NoRoom, kit_ref T.xh_Twice T.xt_Twice T.xr_Twice T.sb_NoRoom_Twice⟩, ⟨T.xc_NoView, kit_ref T.xh_Twice T.xt_Twice T.xr_Twice T.sb_NoView_Twice⟩, trivial⟩
theorem xo_ValueError (T : Txt K mg A fa) {C : Cfg} (hs : C.sub = PP.sub := by rfl) : XOk K A C 100 (.type "ValueError") := xok_of (l := [(5, true), (7, true)]) (fun c => by rw [hs]; rfl) ⟨⟨T.xc_NoRoom, kit_bty T.sb_NoRoom_ValueError⟩, ⟨T.xc_NoView, kit_bty T.sb_NoView_ValueError⟩, trivial⟩
theorem can_16_2 (T : Txt K mg A fa) (IH : Oks P w K mg base A fa n) : CanCall P w K mg base A (2 * n) (callN PP n 16) (fa 16) [] := can_of (d := d_16) (dvs := []) (IH.at 16 (by decide)) (fun fd F => ⟨[], .nil, F.bindsN fun _ _ _ _ _ _ us hl => match us, hl with | [_, _], _ => rfl⟩) .nil
theorem can_12_1 (T : Txt K mg A fa) (IH : Oks P w K mg base A fa n) : CanCall P w K mg base A (2 * n) (callN PP n 12) (fa 12) [] := can_of (d := d_12) (dvs := []) (IH.at 12 (by decide)) (fun fd F => ⟨[], .nil, F.bindsN fun _ _ _ _ _ _ us hl => match us, hl with | [_], _ => rfl⟩) .nil
theorem can_18_2 (T : Txt K mg A fa) (IH : Oks P w K mg base A fa n) : CanCall P w K mg base A (2 * n) (callN PP n 18) (fa 18) [] := can_of (d := d_18) (dvs := []) (IH.at 18 (by decide)) (fun fd F => ⟨[], .nil, F.bindsN fun _ _ _ _ _ _ us hl => match us, hl with | [_, _], _ => rfl⟩) .nil
theorem can_17_2 (T : Txt K mg A fa) (IH : Oks P w K mg base A fa n) : CanCall P w K mg base A (2 * n) (callN PP n 17) (fa 17) [] := can_of (d := d_17) (dvs := []) (IH.at 17 (by decide)) (fun fd F => ⟨[], .nil, F.bindsN fun _ _ _ _ _ _ us hl => match us, hl with | [_, _], _ => rfl⟩) .nil
theorem can_15_2 (T : Txt K mg A fa) (IH : Oks P w K mg base A fa n) : CanCall P w K mg base A (2 * n) (callN PP n 15) (fa 15) [] := can_of (d := d_15) (dvs := []) (IH.at 15 (by decide)) (fun fd F => ⟨[], .nil, F.bindsN fun _ _ _ _ _ _ us hl => match us, hl with | [_, _], _ => rfl⟩) .nil
theorem can_13_2 (T : Txt K mg A fa) (IH : Oks P w K mg base A fa n) : CanCall P w K mg base A (2 * n) (callN PP n 13) (fa 13) [] := can_of (d := d_13) (dvs := []) (IH.at 13 (by decide)) (fun fd F => ⟨[], .nil, F.bindsN fun _ _ _ _ _ _ us hl => match us, hl with | [_, _], _ => rfl⟩) .nil
theorem can_14_2 (T : Txt K mg A fa) (IH : Oks P w K mg base A fa n) : CanCall P w K mg base A (2 * n) (callN PP n 14) (fa 14) [] := can_of (d := d_14) (dvs := []) (IH.at 14 (by decide)) (fun fd F => ⟨[], .nil, F.bindsN fun _ _ _ _ _ _ us hl => match us, hl with | [_, _], _ => rfl⟩) .nil
theorem can_11_1 (T : Txt K mg A fa) (IH : Oks P w K mg base A fa n) : CanCall P w K mg base A (2 * n) (callN PP n 11) (fa 11) [] := can_of (d := d_11) (dvs := []) (IH.at 11 (by decide)) (fun fd F => ⟨[], .nil, F.bindsN fun _ _ _ _ _ _ us hl => match us, hl with | [_], _ => rfl⟩) .nil
theorem can_0_2 (T : Txt K mg A fa) (IH : Oks P w K mg base A fa n) : CanCall P w K mg base A (2 * n) (callN PP n 0) (fa 0) [] := can_of (d := d_0) (dvs := []) (IH.at 0 (by decide)) (fun fd F => ⟨[], .nil, F.bindsN fun _ _ _ _ _ _ us hl => match us, hl with | [_, _], _ => rfl⟩) .nil
theorem can_1_2 (T : Txt K mg A fa) (IH : Oks P w K mg base A fa n) : CanCall P w K mg base A (2 * n) (callN PP n 1) (fa 1) [] := can_of (d := d_1) (dvs := []) (IH.at 1 (by decide)) (fun fd F => ⟨[], .nil, F.bindsN fun _ _ _ _ _ _ us hl => match us, hl with | [_, _], _ => rfl⟩) .nil
theorem can_6_1 (T : Txt K mg A fa) (IH : Oks P w K mg base A fa n) : CanCall P w K mg base A (2 * n) (callN PP n 6) (fa 6) [] := can_of (d := d_6) (dvs := []) (IH.at 6 (by decide)) (fun fd F => ⟨[], .nil, F.bindsN fun _ _ _ _ _ _ us hl => match us, hl with | [_], _ => rfl⟩) .nil
theorem can_3_1 (T : Txt K mg A fa) (IH : Oks P w K mg base A fa n) : CanCall P w K mg base A (2 * n) (callN PP n 3) (fa 3) [] := can_of (d := d_3) (dvs := []) (IH.at 3 (by decide)) (fun fd F => ⟨[], .nil, F.bindsN fun _ _ _ _ _ _ us hl => match us, hl with | [_], _ => rfl⟩) .nil
theorem can_4_2 (T : Txt K mg A fa) (IH : Oks P w K mg base A fa n) : CanCall P w K mg base A (2 * n) (callN PP n 4) (fa 4) [] := can_of (d := d_4) (dvs := []) (IH.at 4 (by decide)) (fun fd F => ⟨[], .nil, F.bindsN fun _ _ _ _ _ _ us hl => match us, hl with | [_, _], _ => rfl⟩) .nil
theorem can_5_1 (T : Txt K mg A fa) (IH : Oks P w K mg base A fa n) : CanCall P w K mg base A (2 * n) (callN PP n 5) (fa 5) [] := can_of (d := d_5) (dvs := []) (IH.at 5 (by decide)) (fun fd F => ⟨[], .nil, F.bindsN fun _ _ _ _ _ _ us hl => match us, hl with | [_], _ => rfl⟩) .nil
theorem can_2_3 (T : Txt K mg A fa) (IH : Oks P w K mg base A fa n) : CanCall P w K mg base A (2 * n) (callN PP n 2) (fa 2) [] := can_of (d := d_2) (dvs := []) (IH.at 2 (by decide)) (fun fd F => ⟨[], .nil, F.bindsN fun _ _ _ _ _ _ us hl => match us, hl with | [_, _, _], _ => rfl⟩) .nil
theorem mo_deeds_done_1 (T : Txt K mg A fa) (IH : Oks P w K mg base A fa n) : MOk P w K mg base A (PP.cfg n (callN PP n)) (2 * n) "deeds_done" 1 [] := mok_of (l := [(10, 9)]) (fun _ => rfl) ⟨⟨fa 9, T.cls_Store, T.me_10_deeds_done, (by rw [T.efl]; decide +kernel), can_of (d := d_9) (dvs := []) (IH.at 9 (by decide)) (fun fd F => ⟨[], .nil, F.bindsN fun _ _ _ _ _ _ us hl => match us, hl with | [_], _ => rfl⟩) .nil⟩, trivial⟩
theorem mo_handles_1 (T : Txt K mg A fa) (IH : Oks P w K mg base A fa n) : MOk P w K mg base A (PP.cfg n (callN PP n)) (2 * n) "handles" 0 [] := mok_of (l := [(10, 8)]) (fun _ => rfl) ⟨⟨fa 8, T.cls_Store, T.me_10_handles, (by rw [T.efl]; decide +kernel), can_of (d := d_8) (dvs := []) (IH.at 8 (by decide)) (fun fd F => ⟨[], .nil, F.bindsN fun _ _ _ _ _ _ us hl => match us, hl with | [_], _ => rfl⟩) .nil⟩, trivial⟩
theorem mo_tree_at_1 (T : Txt K mg A fa) (IH : Oks P w K mg base A fa n) : MOk P w K mg base A (PP.cfg n (callN PP n)) (2 * n) "tree_at" 2 [.non] := mok_of (l := [(10, 10)]) (fun _ => rfl) ⟨⟨fa 10, T.cls_Store, T.me_10_tree_at, (by rw [T.efl]; decide +kernel), can_of (d := d_10) (dvs := [.non]) (IH.at 10 (by decide)) (fun fd F => F.binds1 1 0 (by intro h; cases h) (by decide) fun _ _ _ _ _ _ _ us its h1 h2 => match us, its, h1, h2 with | [_], [_], _, _ => ⟨_, rfl, rfl⟩) (.non .nil)⟩, trivial⟩
theorem mo_tree_at_2 (T : Txt K mg A fa) (IH : Oks P w K mg base A fa n) : MOk P w K mg base A (PP.cfg n (callN PP n)) (2 * n) "tree_at" 2 [] := mok_of (l := [(10, 10)]) (fun _ => rfl) ⟨⟨fa 10, T.cls_Store, T.me_10_tree_at, (by rw [T.efl]; decide +kernel), can_of (d := d_10) (dvs := []) (IH.at 10 (by decide)) (fun fd F => F.binds1 2 1 (by intro h; cases h) (by decide) fun _ _ _ _ _ _ _ us its h1 h2 => match us, its, h1, h2 with | [_, _], [_], _, _ => ⟨_, rfl, rfl⟩) .nil⟩, trivial⟩
theorem ko_Store_3 (T : Txt K mg A fa) (IH : Oks P w K mg base A fa n) : KOk P w K mg base A (PP.cfg n (callN PP n)) (2 * n) 10 7 [] := kok_of (d := d_7) (dvs := []) T.mk_Store (IH.at 7 (by decide)) rfl (fun fd F => ⟨[], .nil, F.bindsN fun _ _ _ _ _ _ us hl => match us, hl with | [_, _, _], _ => rfl⟩) .nil
theorem fx_20 (T : Txt K mg A fa) : FnX P w K mg base A N_20 "_law_other" (defScope s_20) (fa 20) (defBody s_20) ⟨fun _ _ _ => none, fun _ _ _ => none, PP.meth, PP.fix, PP.sub, PP.wf⟩ c_20.body := fun cdv Ar outer s H p c zn fl => (dss_cons (ds_if (dt_w (dw_or (dt_val (de_isExc ⟨List.mem_cons_self, zn, fl, rfl⟩ (xo_NoWant T) T.z_isinstance (pe_cls T.cl_NoWant) (fun _ h => h))) (dw_or (dt_val (de_isExc ⟨List.mem_cons_self, zn, fl, rfl⟩ (xo_NoPath T) T.z_isinstance (pe_cls T.cl_NoPath) (fun _ h => h))) (dw_or1 (dt_val (de_isExc ⟨List.mem_cons_self, zn, fl, rfl⟩ (xo_NoHandle T) T.z_isinstance (pe_cls T.cl_NoHandle) (fun _ h => h))))))) (dss_cons (ds_ret de_bl) dss_nil) dss_nil) (dss_cons (ds_if (dt_w (dw_or (dt_val (de_isExc ⟨List.mem_cons_self, zn, fl, rfl⟩ (xo_NoThing T) T.z_isinstance (pe_cls T.cl_NoThing) (fun _ h => h))) (dw_or (dt_val (de_isExc ⟨List.mem_cons_self, zn, fl, rfl⟩ (xo_Twice T) T.z_isinstance (pe_cls T.cl_Twice) (fun _ h => h))) (dw_or1 (dt_val (de_isExc ⟨List.mem_cons_self, zn, fl, rfl⟩ (xo_NoView T) T.z_isinstance (pe_cls T.cl_NoView) (fun _ h => h))))))) (dss_cons (ds_ret de_bl) dss_nil) dss_nil) (dss_cons (ds_ret (de_or (de_isExc ⟨List.mem_cons_self, zn, fl, rfl⟩ (xo_NoWatch T) T.z_isinstance (pe_cls T.cl_NoWatch) (fun _ h => h)) (de_one (de_isExc ⟨List.mem_cons_self, zn, fl, rfl⟩ (xo_NoText T) T.z_isinstance (pe_cls T.cl_NoText) (fun _ h => h))))) dss_nil)))
theorem b_0 (T : Txt K mg A fa) (IH : Oks P w K mg base A fa n) : DefOk P w K mg base A PP n d_0 (fa 0) c_0.body := fun cdv Ar outer s H E B => have U := B.u; (dss_cons (ds_ret (de_biT (cd_tuple B.calm) T.z_tuple (da_cons (de_comp B.calm sc_0.nd (di_zip T.z_zip (da_cons (de_loc (i := 0)) (da_cons (de_loc (i := 1)) da_nil))) (blkOk_by (own := [("a", 2), ("b", 3)]) (N := N_0) (sc := defScope s_0) (by decide +kernel)) (by decide) (fun _ _ _ _ _ => (dg_tup B.calm (dgs_cons (dg_name (i := 2) sc_0.nd) (dgs_cons (dg_name (i := 3) sc_0.nd) dgs_nil)))) (fun _ _ _ _ _ => dts_nil) (fun _ _ _ _ _ => (de_tup (da_cons (de_bi (cd_min B.calm) T.z_min (da_cons (de_idx (uL U) (de_loc (i := 2)) de_int) (da_cons (de_idx (uL U) (de_loc (i := 3)) de_int) da_nil))) (da_cons (de_bi (cd_max B.calm) T.z_max (da_cons (de_idx (uL U) (de_loc (i := 2)) de_int) (da_cons (de_idx (uL U) (de_loc (i := 3)) de_int) da_nil))) (da_cons (de_bi (cd_min B.calm) T.z_min (da_cons (de_idx (uL U) (de_loc (i := 2)) de_int) (da_cons (de_idx (uL U) (de_loc (i := 3)) de_int) da_nil))) (da_cons (de_bi (cd_max B.calm) T.z_max (da_cons (de_idx (uL U) (de_loc (i := 2)) de_int) (da_cons (de_idx (uL U) (de_loc (i := 3)) de_int) da_nil))) da_nil))))))) da_nil))) dss_nil)
theorem b_1 (T : Txt K mg A fa) (IH : Oks P w K mg base A fa n) : DefOk P w K mg base A PP n d_1 (fa 1) c_1.body := fun cdv Ar outer s H E B => have U := B.u; (dss_cons (ds_ret (de_biT (cd_tuple B.calm) T.z_tuple (da_cons (de_comp B.calm sc_1.nd (di_zip T.z_zip (da_cons (de_loc (i := 0)) (da_cons (de_loc (i := 1)) da_nil))) (blkOk_by (own := [("a", 2), ("b", 3)]) (N := N_1) (sc := defScope s_1) (by decide +kernel)) (by decide) (fun _ _ _ _ _ => (dg_tup B.calm (dgs_cons (dg_name (i := 2) sc_1.nd) (dgs_cons (dg_name (i := 3) sc_1.nd) dgs_nil)))) (fun _ _ _ _ _ => dts_nil) (fun _ _ _ _ _ => (de_tup (da_cons (de_bi (cd_max B.calm) T.z_max (da_cons (de_idx (uL U) (de_loc (i := 2)) de_int) (da_cons (de_idx (uL U) (de_loc (i := 3)) de_int) da_nil))) (da_cons (de_bi (cd_min B.calm) T.z_min (da_cons (de_idx (uL U) (de_loc (i := 2)) de_int) (da_cons (de_idx (uL U) (de_loc (i := 3)) de_int) da_nil))) (da_cons (de_bi (cd_max B.calm) T.z_max (da_cons (de_idx (uL U) (de_loc (i := 2)) de_int) (da_cons (de_idx (uL U) (de_loc (i := 3)) de_int) da_nil))) (da_cons (de_bi (cd_min B.calm) T.z_min (da_cons (de_idx (uL U) (de_loc (i := 2)) de_int) (da_cons (de_idx (uL U) (de_loc (i := 3)) de_int) da_nil))) da_nil))))))) da_nil))) dss_nil)
theorem b_2 (T : Txt K mg A fa) (IH : Oks P w K mg base A fa n) : DefOk P w K mg base A PP n d_2 (fa 2) c_2.body := fun cdv Ar outer s H E B => have U := B.u; (dss_cons (ds_if (dt_w (dw_or (dt_not (dt_val (de_isinst (t := .int) T.z_isinstance T.z_int (by decide +kernel) (de_loc (i := 0))))) (dw_or1 (dt_val (de_isinst (t := .bool) T.z_isinstance T.z_bool (by decide +kernel) (de_loc (i := 0))))))) (dss_cons (ds_ret de_bl) dss_nil) dss_nil) (dss_cons (ds_ret (de_chain opd_le opd_le (de_loc (i := 1)) (de_loc (i := 0)) (de_loc (i := 2)))) dss_nil))
theorem b_3 (T : Txt K mg A fa) (IH : Oks P w K mg base A fa n) : DefOk P w K mg base A PP n d_3 (fa 3) c_3.body := fun cdv Ar outer s H E B => have U := B.u; (dss_cons (ds_set (i := 1) sc_3.nd (de_idx (uL U) (de_loc (i := 0)) de_int)) (dss_cons (ds_set (i := 2) sc_3.nd (de_idx (uL U) (de_loc (i := 0)) de_int)) (dss_cons (ds_set (i := 3) sc_3.nd (de_idx (uL U) (de_loc (i := 0)) de_int)) (dss_cons (ds_ret (de_tup (da_cons (de_loc (i := 1)) (da_cons (de_loc (i := 1)) (da_cons (de_loc (i := 2)) (da_cons (de_loc (i := 2)) (da_cons de_int (da_cons (de_loc (i := 3)) (da_cons (de_loc (i := 3)) (da_cons (de_loc (i := 3)) da_nil)))))))))) dss_nil))))
theorem b_4 (T : Txt K mg A fa) (IH : Oks P w K mg base A fa n) : DefOk P w K mg base A PP n d_4 (fa 4) c_4.body := fun cdv Ar outer s H E B => have U := B.u; (dss_cons (ds_if (dt_isN (de_loc (i := 0))) (dss_cons (ds_ret (de_loc (i := 1))) dss_nil) dss_nil) (dss_cons (ds_if (dt_isN (de_loc (i := 1))) (dss_cons (ds_ret (de_loc (i := 0))) dss_nil) dss_nil) (dss_cons (ds_set (i := 2) sc_4.nd (de_call (can_0_2 T IH) T.m_frames_joined B.r B.tk (da_cons (de_idx (uL U) (de_loc (i := 0)) de_int) (da_cons (de_idx (uL U) (de_loc (i := 1)) de_int) da_nil)))) (dss_cons (ds_set (i := 3) sc_4.nd (de_call (can_1_2 T IH) T.m_frames_narrowed B.r B.tk (da_cons (de_idx (uL U) (de_loc (i := 0)) de_int) (da_cons (de_idx (uL U) (de_loc (i := 1)) de_int) da_nil)))) (dss_cons (ds_set (i := 4) sc_4.nd (de_bin opd_or (de_idx (uL U) (de_loc (i := 0)) de_int) (de_idx (uL U) (de_loc (i := 1)) de_int))) (dss_cons (ds_set (i := 5) sc_4.nd (de_bin opd_and (de_idx (uL U) (de_loc (i := 0)) de_int) (de_idx (uL U) (de_loc (i := 1)) de_int))) (dss_cons (ds_set (i := 6) sc_4.nd (de_bin opd_add (de_idx (uL U) (de_loc (i := 0)) de_int) (de_idx (uL U) (de_loc (i := 1)) de_int))) (dss_cons (ds_ret (de_tup (da_cons (de_loc (i := 2)) (da_cons (de_loc (i := 3)) (da_cons (de_loc (i := 4)) (da_cons (de_loc (i := 5)) (da_cons (de_loc (i := 6)) (da_cons (de_bi (cd_min B.calm) T.z_min (da_cons (de_idx (uL U) (de_loc (i := 0)) de_int) (da_cons (de_idx (uL U) (de_loc (i := 1)) de_int) da_nil))) (da_cons (de_bi (cd_max B.calm) T.z_max (da_cons (de_idx (uL U) (de_loc (i := 0)) de_int) (da_cons (de_idx (uL U) (de_loc (i := 1)) de_int) da_nil))) (da_cons (de_bin opd_add (de_idx (uL U) (de_loc (i := 0)) de_int) (de_idx (uL U) (de_loc (i := 1)) de_int)) da_nil)))))))))) dss_nil))))))))
theorem b_5 (T : Txt K mg A fa) (IH : Oks P w K mg base A fa n) : DefOk P w K mg base A PP n d_5 (fa 5) c_5.body := fun cdv Ar outer s H E B => have U := B.u; (dss_cons (ds_set (i := 1) sc_5.nd de_non) (dss_cons (ds_for B.ps B.calm (di_val (de_loc (i := 0))) (dg_name (i := 2) sc_5.nd) (dss_cons (ds_set (i := 1) sc_5.nd (de_call (can_4_2 T IH) T.m_told_poured B.r B.tk (da_cons (de_loc (i := 1)) (da_cons (de_loc (i := 2)) da_nil)))) dss_nil)) (dss_cons (ds_ret (de_loc (i := 1))) dss_nil)))
theorem b_6 (T : Txt K mg A fa) (IH : Oks P w K mg base A fa n) : DefOk P w K mg base A PP n d_6 (fa 6) c_6.body := fun cdv Ar outer s H E B => have U := B.u; (dss_cons (ds_ret (de_tup (da_cons de_str (da_cons (de_call (can_5_1 T IH) T.m_tolds_poured B.r B.tk (da_cons (de_biT (cd_tuple B.calm) T.z_tuple (da_cons (de_comp B.calm sc_6.nd (di_val (de_loc (i := 0))) (blkOk_by (own := [("thing", 1)]) (N := N_6) (sc := defScope s_6) (by decide +kernel)) (by decide) (fun _ _ _ _ _ => (dg_name (i := 1) sc_6.nd)) (fun _ _ _ _ _ => dts_nil) (fun _ _ _ _ _ => (de_call (can_3_1 T IH) T.m_thing_told B.r takes_no (da_cons (de_loc (i := 1)) da_nil)))) da_nil)) da_nil)) (da_cons (de_loc (i := 0)) da_nil))))) dss_nil)
theorem b_7 (T : Txt K mg A fa) (IH : Oks P w K mg base A fa n) : DefOk P w K mg base A PP n d_7 (fa 7) c_7.body := fun cdv Ar outer s H E B => have U := B.u; (dss_cons (ds_if (dt_w (dw_or (dt_not (dt_val (de_call (can_2_3 T IH) T.m_whole_within B.r B.tk (da_cons (de_loc (i := 1)) (da_cons de_int (da_cons de_int da_nil)))))) (dw_or1 (dt_not (dt_val (de_call (can_2_3 T IH) T.m_whole_within B.r B.tk (da_cons (de_loc (i := 2)) (da_cons (de_gint T.k_LEAST_ROOM) (da_cons (de_gint T.k_MOST_ROOM) da_nil))))))))) (dss_cons (ds_raise (c := 5) B.calm B.tk PySem.F.excBase_ValueError T.xi_NoRoom T.cl_NoRoom T.xk_NoRoom (raises_own T.xs_NoRoom T.xt_NoRoom)) dss_nil) dss_nil) (dss_cons (ds_fld (fo_sides T) (de_loc (i := 0)) (de_loc (i := 1))) (dss_cons (ds_fld (fo_room T) (de_loc (i := 0)) (de_loc (i := 2))) (dss_cons (ds_fld (fo_tops T) (de_loc (i := 0)) (de_boxlst (da_cons (de_call (can_6_1 T IH) T.m_make_leaf B.r B.tk (da_cons (de_tup da_nil) da_nil)) da_nil))) (dss_cons (ds_fld (fo_kept T) (de_loc (i := 0)) de_dct) (dss_cons (ds_fld (fo_standing T) (de_loc (i := 0)) de_dct) (dss_cons (ds_fld (fo_watches_set T) (de_loc (i := 0)) de_int) dss_nil)))))))
theorem b_8 (T : Txt K mg A fa) (IH : Oks P w K mg base A fa n) : DefOk P w K mg base A PP n d_8 (fa 8) c_8.body := fun cdv Ar outer s H E B => have U := B.u; (dss_cons (ds_ret (de_biT (cd_tuple B.calm) T.z_tuple (da_cons (de_bi (cd_sorted (uL U) B.calm) T.z_sorted (da_cons (de_fld (fo_kept T) (de_loc (i := 0))) da_nil)) da_nil))) dss_nil)
theorem b_9 (T : Txt K mg A fa) (IH : Oks P w K mg base A fa n) : DefOk P w K mg base A PP n d_9 (fa 9) c_9.body := fun cdv Ar outer s H E B => have U := B.u; (dss_cons (ds_ret (de_bin opd_sub (de_bi cd_len T.z_len (da_cons (de_fld (fo_tops T) (de_loc (i := 0))) da_nil)) de_int)) dss_nil)
theorem b_10 (T : Txt K mg A fa) (IH : Oks P w K mg base A fa n) : DefOk P w K mg base A PP n d_10 (fa 10) c_10.body := fun cdv Ar outer s H E B => have U := B.u; (dss_cons (ds_if (dt_isN (de_loc (i := 1))) (dss_cons (ds_ret (de_idx (uL U) (de_fld (fo_tops T) (de_loc (i := 0))) (de_neg de_int))) dss_nil) dss_nil) (dss_cons (ds_if (dt_w (dw_or (dt_cmp (opd_lt (uL0 U)) (de_loc (i := 1)) de_int (fun _ _ _ _ h => bl_lt h)) (dw_or1 (dt_cmp opd_ge (de_loc (i := 1)) (de_bi cd_len T.z_len (da_cons (de_fld (fo_tops T) (de_loc (i := 0))) da_nil)) (fun _ _ _ _ h => bl_ge h))))) (dss_cons (ds_raise (c := 7) B.calm B.tk PySem.F.excBase_ValueError T.xi_NoView T.cl_NoView T.xk_NoView (raises_own T.xs_NoView T.xt_NoView)) dss_nil) dss_nil) (dss_cons (ds_ret (de_idx (uL U) (de_fld (fo_tops T) (de_loc (i := 0))) (de_loc (i := 1)))) dss_nil)))
theorem b_11 (T : Txt K mg A fa) (IH : Oks P w K mg base A fa n) : DefOk P w K mg base A PP n d_11 (fa 11) c_11.body := fun cdv Ar outer s H E B => have U := B.u; (dss_cons (ds_ret (de_bin opd_mod (de_bin opd_mul (de_loc (i := 0)) de_int) de_int)) dss_nil)
theorem b_12 (T : Txt K mg A fa) (IH : Oks P w K mg base A fa n) : DefOk P w K mg base A PP n d_12 (fa 12) c_12.body := fun cdv Ar outer s H E B => have U := B.u; (dss_cons (ds_ret (de_bin opd_mod (de_bin opd_mul (de_loc (i := 0)) de_int) de_int)) dss_nil)
theorem b_13 (T : Txt K mg A fa) (IH : Oks P w K mg base A fa n) : DefOk P w K mg base A PP n d_13 (fa 13) c_13.body := fun cdv Ar outer s H E B => have U := B.u; (dss_cons (ds_if (dt_val (de_isinst (t := .tuple) T.z_isinstance T.z_tuple (by decide +kernel) (de_loc (i := 1)))) (dss_cons (ds_if (dt_w (dw_or (dt_not (dt_val (de_isinst (t := .tuple) T.z_isinstance T.z_tuple (by decide +kernel) (de_loc (i := 0))))) (dw_or1 (dt_cmp (opd_ne (uL U)) (de_bi cd_len T.z_len (da_cons (de_loc (i := 0)) da_nil)) (de_bi cd_len T.z_len (da_cons (de_loc (i := 1)) da_nil)) (fun _ _ _ _ h => bl_ne h))))) (dss_cons (ds_ret de_bl) dss_nil) dss_nil) (dss_cons (ds_for B.ps B.calm (di_range1 T.z_range (da_cons (de_bi cd_len T.z_len (da_cons (de_loc (i := 1)) da_nil)) da_nil)) (dg_name (i := 2) sc_13.nd) (dss_cons (ds_if (dt_not (dt_val (de_call (can_13_2 T IH) T.m__law_same B.r B.tk (da_cons (de_idx (uL U) (de_loc (i := 0)) (de_loc (i := 2))) (da_cons (de_idx (uL U) (de_loc (i := 1)) (de_loc (i := 2))) da_nil))))) (dss_cons (ds_ret de_bl) dss_nil) dss_nil) dss_nil)) (dss_cons (ds_ret de_bl) dss_nil))) dss_nil) (dss_cons (ds_if (dt_isN (de_loc (i := 1))) (dss_cons (ds_ret (de_isN (de_loc (i := 0)))) dss_nil) dss_nil) (dss_cons (ds_if (dt_val (de_isinst (t := .str) T.z_isinstance T.z_str (by decide +kernel) (de_loc (i := 1)))) (dss_cons (ds_ret (de_and (de_isinst (t := .str) T.z_isinstance T.z_str (by decide +kernel) (de_loc (i := 0))) (de_one (de_cmp (opd_eq (uL U)) (de_loc (i := 0)) (de_loc (i := 1)))))) dss_nil) dss_nil) (dss_cons (ds_if (dt_w (dw_or (dt_not (dt_val (de_isinst (t := .int) T.z_isinstance T.z_int (by decide +kernel) (de_loc (i := 0))))) (dw_or1 (dt_cmp (opd_ne (uL U)) (de_isinst (t := .bool) T.z_isinstance T.z_bool (by decide +kernel) (de_loc (i := 0))) (de_isinst (t := .bool) T.z_isinstance T.z_bool (by decide +kernel) (de_loc (i := 1))) (fun _ _ _ _ h => bl_ne h))))) (dss_cons (ds_ret de_bl) dss_nil) dss_nil) (dss_cons (ds_ret (de_cmp (opd_eq (uL U)) (de_loc (i := 0)) (de_loc (i := 1)))) dss_nil)))))
theorem b_14 (T : Txt K mg A fa) (IH : Oks P w K mg base A fa n) : DefOk P w K mg base A PP n d_14 (fa 14) c_14.body := fun cdv Ar outer s H E B => have U := B.u; (dss_cons (ds_if (dt_cmp (opd_lt (uL0 U)) (de_bin opd_mod (de_loc (i := 0)) de_int) de_int (fun _ _ _ _ h => bl_lt h)) (dss_cons (ds_ret (de_bin opd_add de_int (de_bin opd_mod (de_loc (i := 0)) de_int))) dss_nil) dss_nil) (dss_cons (ds_set (i := 2) sc_14.nd (de_lst (da_cons de_int (da_cons de_int (da_cons de_int (da_cons (de_neg de_int) (da_cons de_bl (da_cons de_non (da_cons de_str (da_cons (de_tup (da_cons de_int da_nil)) (da_cons (de_tup (da_cons de_int (da_cons de_int da_nil))) (da_cons (de_bin opd_add (de_bin opd_mod (de_loc (i := 1)) (de_bin opd_pow de_int de_int)) de_int) (da_cons (de_bin opd_sub (de_neg de_int) (de_bin opd_mod (de_loc (i := 1)) (de_bin opd_pow de_int de_int))) da_nil))))))))))))) (dss_cons (ds_ret (de_idx (uL U) (de_loc (i := 2)) (de_bin opd_mod (de_bin opd_fdiv (de_loc (i := 0)) de_int) de_int))) dss_nil)))
theorem b_15 (T : Txt K mg A fa) (IH : Oks P w K mg base A fa n) : DefOk P w K mg base A PP n d_15 (fa 15) c_15.body := fun cdv Ar outer s H E B => have U := B.u; (dss_cons (ds_if (dt_cmp (opd_lt (uL0 U)) (de_bin opd_mod (de_loc (i := 0)) de_int) de_int (fun _ _ _ _ h => bl_lt h)) (dss_cons (ds_ret (de_bin opd_add de_int (de_bin opd_mod (de_bin opd_fdiv (de_loc (i := 0)) de_int) de_int))) dss_nil) dss_nil) (dss_cons (ds_set (i := 2) sc_15.nd (de_lst (da_cons de_int (da_cons de_int (da_cons de_int (da_cons (de_neg de_int) (da_cons de_bl (da_cons de_non (da_cons de_str (da_cons (de_tup (da_cons de_int da_nil)) (da_cons (de_bin opd_add (de_bin opd_mod (de_loc (i := 1)) (de_bin opd_pow de_int de_int)) de_int) (da_cons (de_bin opd_sub de_int (de_bin opd_mod (de_loc (i := 1)) (de_bin opd_pow de_int de_int))) (da_cons de_bl da_nil))))))))))))) (dss_cons (ds_ret (de_idx (uL U) (de_loc (i := 2)) (de_bin opd_mod (de_bin opd_fdiv (de_loc (i := 0)) de_int) de_int))) dss_nil)))
theorem b_16 (T : Txt K mg A fa) (IH : Oks P w K mg base A fa n) : DefOk P w K mg base A PP n d_16 (fa 16) c_16.body := fun cdv Ar outer s H E B => have U := B.u; (dss_cons (ds_if (dt_w (dw_or (dt_val (de_isinst (t := .bool) T.z_isinstance T.z_bool (by decide +kernel) (de_loc (i := 0)))) (dw_or1 (dt_val (de_isinst (t := .bool) T.z_isinstance T.z_bool (by decide +kernel) (de_loc (i := 1))))))) (dss_cons (ds_ret de_bl) dss_nil) dss_nil) (dss_cons (ds_if (dt_w (dw_or (dt_not (dt_val (de_isinst (t := .int) T.z_isinstance T.z_int (by decide +kernel) (de_loc (i := 0))))) (dw_or1 (dt_not (dt_val (de_isinst (t := .int) T.z_isinstance T.z_int (by decide +kernel) (de_loc (i := 1)))))))) (dss_cons (ds_ret de_bl) dss_nil) dss_nil) (dss_cons (ds_ret (de_and (de_chain opd_le opd_le de_int (de_loc (i := 0)) de_int) (de_one (de_chain opd_le opd_le de_int (de_loc (i := 1)) de_int)))) dss_nil)))
theorem b_17 (T : Txt K mg A fa) (IH : Oks P w K mg base A fa n) : DefOk P w K mg base A PP n d_17 (fa 17) c_17.body := fun cdv Ar outer s H E B => have U := B.u; (dss_cons (ds_set (i := 2) sc_17.nd de_str) (dss_cons (ds_try_as (i := 3) rfl rfl sc_17.nd ⟨rfl, by decide, .inl T.cl_NoRoom⟩ B.tk T.eea (ho_NoRoom T) (fun _ _ _ tk ps => have B := B.tr tk ps; (dss_cons (ds_expr (de_make (ko_Store_3 T IH) T.cl_Store B.room B.tk (da_cons (de_loc (i := 0)) (da_cons (de_loc (i := 1)) da_nil)))) dss_nil)) (fun a oe c pn zn fl => have hr := hot_room B (some (Value.ref a)); (dss_cons (ds_set (i := 2) sc_17.nd de_str) (dss_cons (ds_if (dt_w (dw_or (dt_not (dt_val (de_isExc ⟨List.mem_cons_self, zn, fl, rfl⟩ (xo_DriftError T) T.z_isinstance (pe_cls T.cl_DriftError) (fun _ h => h)))) (dw_or (dt_not (dt_val (de_isExc ⟨List.mem_cons_self, zn, fl, rfl⟩ (xo_ValueError T) T.z_isinstance (pe_vty (T := "ValueError") T.z_ValueError) (fun _ h => h)))) (dw_or1 (dt_val (by obtain ⟨fd, F⟩ := T.fn.at 20 (by decide); have hx := fx_20 (P := P) (w := w) (base := base) T; exact de_callE (PP := PP) (n := n) (g := 20) (fn := c_20) ⟨List.mem_cons_self, zn, fl, rfl⟩ rfl rfl (fun _ _ => rfl) rfl F sc_20 (F.bindsN fun _ _ _ _ _ _ us hl => match us, hl with | [_], _ => rfl) (fun _ => hr) hx T.m__law_other)))))) (dss_cons (ds_set (i := 2) sc_17.nd de_str) dss_nil) dss_nil) dss_nil)))) (dss_cons (ds_ret (de_cmp (opd_eq (uL U)) (de_loc (i := 2)) de_str)) dss_nil)))
theorem b_18 (T : Txt K mg A fa) (IH : Oks P w K mg base A fa n) : DefOk P w K mg base A PP n d_18 (fa 18) c_18.body := fun cdv Ar outer s H E B => have U := B.u; (dss_cons (ds_set (i := 2) sc_18.nd de_str) (dss_cons (ds_try_as (i := 3) rfl rfl sc_18.nd ⟨rfl, by decide, .inl T.cl_NoView⟩ B.tk T.eea (ho_NoView T) (fun _ _ _ tk ps => have B := B.tr tk ps; (dss_cons (ds_expr (de_meth (mo_tree_at_2 T IH) B.r B.tk (de_loc (i := 0)) (da_cons (de_loc (i := 1)) da_nil))) dss_nil)) (fun a oe c pn zn fl => have hr := hot_room B (some (Value.ref a)); (dss_cons (ds_set (i := 2) sc_18.nd de_str) (dss_cons (ds_if (dt_w (dw_or (dt_not (dt_val (de_isExc ⟨List.mem_cons_self, zn, fl, rfl⟩ (xo_DriftError T) T.z_isinstance (pe_cls T.cl_DriftError) (fun _ h => h)))) (dw_or (dt_val (de_isExc ⟨List.mem_cons_self, zn, fl, rfl⟩ (xo_NoRoom T) T.z_isinstance (pe_cls T.cl_NoRoom) (fun _ h => h))) (dw_or1 (dt_val (de_isExc ⟨List.mem_cons_self, zn, fl, rfl⟩ (xo_NoHandle T) T.z_isinstance (pe_cls T.cl_NoHandle) (fun _ h => h))))))) (dss_cons (ds_set (i := 2) sc_18.nd de_str) dss_nil) dss_nil) dss_nil)))) (dss_cons (ds_ret (de_cmp (opd_eq (uL U)) (de_loc (i := 2)) de_str)) dss_nil)))
theorem b_19 (T : Txt K mg A fa) (IH : Oks P w K mg base A fa n) : DefOk P w K mg base A PP n d_19 (fa 19) c_19.body := fun cdv Ar outer s H E B => have U := B.u; (dss_cons (ds_for B.ps B.calm (di_val (de_bin opd_add (de_lst (da_cons de_int da_nil)) (de_loc (i := 0)))) (dg_name (i := 1) sc_19.nd) (dss_cons (ds_set (i := 2) sc_19.nd (de_call (can_11_1 T IH) T.m__law_stir B.r B.tk (da_cons (de_loc (i := 1)) da_nil))) (dss_cons (ds_set (i := 3) sc_19.nd (de_call (can_14_2 T IH) T.m__law_sides_by B.r B.tk (da_cons (de_loc (i := 2)) (da_cons (de_loc (i := 1)) da_nil)))) (dss_cons (ds_set (i := 4) sc_19.nd (de_call (can_15_2 T IH) T.m__law_room_by B.r B.tk (da_cons (de_call (can_12_1 T IH) T.m__law_next B.r B.tk (da_cons (de_loc (i := 2)) da_nil)) (da_cons (de_loc (i := 1)) da_nil)))) (dss_cons (ds_if (dt_not (dt_val (de_call (can_16_2 T IH) T.m__law_good B.r B.tk (da_cons (de_loc (i := 3)) (da_cons (de_loc (i := 4)) da_nil))))) (dss_cons (ds_if (dt_not (dt_val (de_call (can_17_2 T IH) T.m__law_refused B.r B.tk (da_cons (de_loc (i := 3)) (da_cons (de_loc (i := 4)) da_nil))))) (dss_cons (ds_ret de_bl) dss_nil) dss_nil) dss_nil) (dss_cons (ds_set (i := 5) sc_19.nd (de_make (ko_Store_3 T IH) T.cl_Store B.room B.tk (da_cons (de_loc (i := 3)) (da_cons (de_loc (i := 4)) da_nil)))) (dss_cons (ds_if (dt_w (dw_or (dt_not (dt_val (de_call (can_13_2 T IH) T.m__law_same B.r B.tk (da_cons (de_meth0 (mo_handles_1 T IH) B.r B.tk (de_loc (i := 5))) (da_cons (de_tup da_nil) da_nil))))) (dw_or1 (dt_not (dt_val (de_call (can_13_2 T IH) T.m__law_same B.r B.tk (da_cons (de_meth0 (mo_deeds_done_1 T IH) B.r B.tk (de_loc (i := 5))) (da_cons de_int da_nil)))))))) (dss_cons (ds_ret de_bl) dss_nil) dss_nil) (dss_cons (ds_for B.ps B.calm (di_val (de_lst (da_cons (de_meth0 (mo_tree_at_1 T IH) B.r B.tk (de_loc (i := 5))) (da_cons (de_meth (mo_tree_at_2 T IH) B.r B.tk (de_loc (i := 5)) (da_cons de_int da_nil)) (da_cons (de_meth (mo_tree_at_2 T IH) B.r B.tk (de_loc (i := 5)) (da_cons de_non da_nil)) da_nil))))) (dg_name (i := 6) sc_19.nd) (dss_cons (ds_if (dt_not (dt_val (de_call (can_13_2 T IH) T.m__law_same B.r B.tk (da_cons (de_loc (i := 6)) (da_cons (de_tup (da_cons de_str (da_cons de_non (da_cons (de_tup da_nil) da_nil)))) da_nil))))) (dss_cons (ds_ret de_bl) dss_nil) dss_nil) dss_nil)) (dss_cons (ds_if (dt_w (dw_or (dt_not (dt_val (de_call (can_18_2 T IH) T.m__law_no_view B.r B.tk (da_cons (de_loc (i := 5)) (da_cons de_int da_nil))))) (dw_or1 (dt_not (dt_val (de_call (can_18_2 T IH) T.m__law_no_view B.r B.tk (da_cons (de_loc (i := 5)) (da_cons (de_neg de_int) da_nil)))))))) (dss_cons (ds_ret de_bl) dss_nil) dss_nil) dss_nil))))) dss_nil))))) (dss_cons (ds_ret de_bl) dss_nil))
theorem oks (T : Txt K mg A fa) : ∀ n, Oks P w K mg base A fa n
  | 0 => ⟨⟨⟨⟨⟨⟨⟨⟨⟨⟨⟨⟨⟨⟨⟨⟨⟨⟨⟨⟨trivial, ok_zero (T.fn.at 0 (by decide))⟩, ok_zero (T.fn.at 1 (by decide))⟩, ok_zero (T.fn.at 2 (by decide))⟩, ok_zero (T.fn.at 3 (by decide))⟩, ok_zero (T.fn.at 4 (by decide))⟩, ok_zero (T.fn.at 5 (by decide))⟩, ok_zero (T.fn.at 6 (by decide))⟩, ok_zero (T.fn.at 7 (by decide))⟩, ok_zero (T.fn.at 8 (by decide))⟩, ok_zero (T.fn.at 9 (by decide))⟩, ok_zero (T.fn.at 10 (by decide))⟩, ok_zero (T.fn.at 11 (by decide))⟩, ok_zero (T.fn.at 12 (by decide))⟩, ok_zero (T.fn.at 13 (by decide))⟩, ok_zero (T.fn.at 14 (by decide))⟩, ok_zero (T.fn.at 15 (by decide))⟩, ok_zero (T.fn.at 16 (by decide))⟩, ok_zero (T.fn.at 17 (by decide))⟩, ok_zero (T.fn.at 18 (by decide))⟩, ok_zero (T.fn.at 19 (by decide))⟩
  | n + 1 => have IH := oks T n; ⟨⟨⟨⟨⟨⟨⟨⟨⟨⟨⟨⟨⟨⟨⟨⟨⟨⟨⟨⟨trivial, ok_succ (fn := c_0) (T.fn.at 0 (by decide)) sc_0 (b_0 T IH)⟩, ok_succ (fn := c_1) (T.fn.at 1 (by decide)) sc_1 (b_1 T IH)⟩, ok_succ (fn := c_2) (T.fn.at 2 (by decide)) sc_2 (b_2 T IH)⟩, ok_succ (fn := c_3) (T.fn.at 3 (by decide)) sc_3 (b_3 T IH)⟩, ok_succ (fn := c_4) (T.fn.at 4 (by decide)) sc_4 (b_4 T IH)⟩, ok_succ (fn := c_5) (T.fn.at 5 (by decide)) sc_5 (b_5 T IH)⟩, ok_succ (fn := c_6) (T.fn.at 6 (by decide)) sc_6 (b_6 T IH)⟩, ok_succ (fn := c_7) (T.fn.at 7 (by decide)) sc_7 (b_7 T IH)⟩, ok_succ (fn := c_8) (T.fn.at 8 (by decide)) sc_8 (b_8 T IH)⟩, ok_succ (fn := c_9) (T.fn.at 9 (by decide)) sc_9 (b_9 T IH)⟩, ok_succ (fn := c_10) (T.fn.at 10 (by decide)) sc_10 (b_10 T IH)⟩, ok_succ (fn := c_11) (T.fn.at 11 (by decide)) sc_11 (b_11 T IH)⟩, ok_succ (fn := c_12) (T.fn.at 12 (by decide)) sc_12 (b_12 T IH)⟩, ok_succ (fn := c_13) (T.fn.at 13 (by decide)) sc_13 (b_13 T IH)⟩, ok_succ (fn := c_14) (T.fn.at 14 (by decide)) sc_14 (b_14 T IH)⟩, ok_succ (fn := c_15) (T.fn.at 15 (by decide)) sc_15 (b_15 T IH)⟩, ok_succ (fn := c_16) (T.fn.at 16 (by decide)) sc_16 (b_16 T IH)⟩, ok_succ (fn := c_17) (T.fn.at 17 (by decide)) sc_17 (b_17 T IH)⟩, ok_succ (fn := c_18) (T.fn.at 18 (by decide)) sc_18 (b_18 T IH)⟩, ok_succ (fn := c_19) (T.fn.at 19 (by decide)) sc_19 (b_19 T IH)⟩
end
theorem uniq {K : PySem.W.Frag} {d : Df} {f : Addr} {fd fd' : FuncData} (h : FunD K d.x d.qual (defArgs d.st) (defBody d.st) (defScope d.st) d.dvs [] f fd) (h2 : FunD K d.x d.qual (defArgs d.st) (defBody d.st) (defScope d.st) d.dvs [] f fd') : fd = fd' := by
  obtain ⟨_, _, _, _, _, _, _, _, _, _, _, l, _⟩ := h.ex
  obtain ⟨_, _, _, _, _, _, _, _, _, _, _, l2, _⟩ := h2.ex
  rw [l] at l2
  cases l2
  rfl
theorem all_mk (KN : Nat) {l : PySem.W.OpenLaw} {w : World} {K : PySem.W.Frag} {h : Heap} {mg : Str → Option Value} {fa0 : Addr} {f0 f1 f2 f3 f4 f5 f6 f7 f8 f9 f10 t10 f11 f12 f13 f14 f15 f16 f17 f18 f19 f20 C0 C1 C2 C3 C4 C5 C6 C7 C8 C9 C10 : Addr}
    {oc0 kV0 dc0 pm0 cd0 ct0 oc1 kV1 dc1 pm1 cd1 ct1 oc2 kV2 dc2 pm2 cd2 ct2 oc3 kV3 dc3 pm3 cd3 ct3 oc4 kV4 dc4 pm4 cd4 ct4 oc5 kV5 dc5 pm5 cd5 ct5 oc6 kV6 dc6 pm6 cd6 ct6 oc7 kV7 dc7 pm7 cd7 ct7 oc8 kV8 dc8 pm8 cd8 ct8 oc9 kV9 dc9 pm9 cd9 ct9 oc10 kV10 dc10 pm10 cd10 ct10 oc11 kV11 dc11 pm11 cd11 ct11 oc12 kV12 dc12 pm12 cd12 ct12 oc13 kV13 dc13 pm13 cd13 ct13 oc14 kV14 dc14 pm14 cd14 ct14 oc15 kV15 dc15 pm15 cd15 ct15 oc16 kV16 dc16 pm16 cd16 ct16 oc17 kV17 dc17 pm17 cd17 ct17 oc18 kV18 dc18 pm18 cd18 ct18 oc19 kV19 dc19 pm19 cd19 ct19 oc20 kV20 dc20 pm20 cd20 ct20 : Value} {od0 an0 od1 an1 od2 an2 od3 an3 od4 an4 od5 an5 od6 an6 od7 an7 od8 an8 od9 an9 od10 an10 od11 an11 od12 an12 od13 an13 od14 an14 od15 an15 od16 an16 od17 an17 od18 an18 od19 an19 od20 an20 : Option Addr} {sl0 sl1 sl2 sl3 sl4 sl5 sl6 sl7 sl8 sl9 sl10 sl11 sl12 sl13 sl14 sl15 sl16 sl17 sl18 sl19 sl20 : Array (Option Value)}
    {tc10 : Value} {td10 : Option Addr} {tn10 : Nat} {ts10 : Array (Option Value)}
    {kt_LEAST_ROOM kt_MOST_ROOM : Tok}
    (X : K.In h) (G : h.Ns mainGlobals mg) (hfa : mg "law" = some (.ref fa0))
    (hlaw : ∀ ns : List Int, ns.length ≤ 63 → (∀ z ∈ ns, Builtin.Int.intBits z ≤ 1048576) → callN PP KN 19 [.lst (ns.map D.int)] [] = some (.ok (.bl true) []))
    (cl_Store : PySem.W.nsIn K mainGlobals "Store" = some (some (.ref C10)))
    (cl_DriftError : PySem.W.nsIn K mainGlobals "DriftError" = some (some (.ref C0)))
    (cl_NoThing : PySem.W.nsIn K mainGlobals "NoThing" = some (some (.ref C1)))
    (cl_NoWant : PySem.W.nsIn K mainGlobals "NoWant" = some (some (.ref C2)))
    (cl_NoPath : PySem.W.nsIn K mainGlobals "NoPath" = some (some (.ref C3)))
    (cl_NoHandle : PySem.W.nsIn K mainGlobals "NoHandle" = some (some (.ref C4)))
    (cl_NoRoom : PySem.W.nsIn K mainGlobals "NoRoom" = some (some (.ref C5)))
    (cl_Twice : PySem.W.nsIn K mainGlobals "Twice" = some (some (.ref C6)))
    (cl_NoView : PySem.W.nsIn K mainGlobals "NoView" = some (some (.ref C7)))
    (cl_NoWatch : PySem.W.nsIn K mainGlobals "NoWatch" = some (some (.ref C8)))
    (cl_NoText : PySem.W.nsIn K mainGlobals "NoText" = some (some (.ref C9)))
    (a0 : PySem.W.nsIn K mainGlobals "frames_joined" = some (some (.ref f0)))
    (l0 : K.lookup f0 = some ⟨oc0, od0, .func (PySem.W.fnOf "frames_joined" "frames_joined" (defArgs s_0) (defBody s_0) (defScope s_0) .none kV0 dc0 pm0 an0 cd0 ct0), sl0⟩)
    (c0 : PySem.W.codeIn K cd0 "frames_joined" = true)
    (k0 : PySem.W.keepIn K (.ref f0) = true)
    (a1 : PySem.W.nsIn K mainGlobals "frames_narrowed" = some (some (.ref f1)))
    (l1 : K.lookup f1 = some ⟨oc1, od1, .func (PySem.W.fnOf "frames_narrowed" "frames_narrowed" (defArgs s_1) (defBody s_1) (defScope s_1) .none kV1 dc1 pm1 an1 cd1 ct1), sl1⟩)
    (c1 : PySem.W.codeIn K cd1 "frames_narrowed" = true)
    (k1 : PySem.W.keepIn K (.ref f1) = true)
    (a2 : PySem.W.nsIn K mainGlobals "whole_within" = some (some (.ref f2)))
    (l2 : K.lookup f2 = some ⟨oc2, od2, .func (PySem.W.fnOf "whole_within" "whole_within" (defArgs s_2) (defBody s_2) (defScope s_2) .none kV2 dc2 pm2 an2 cd2 ct2), sl2⟩)
    (c2 : PySem.W.codeIn K cd2 "whole_within" = true)
    (k2 : PySem.W.keepIn K (.ref f2) = true)
    (a3 : PySem.W.nsIn K mainGlobals "thing_told" = some (some (.ref f3)))
    (l3 : K.lookup f3 = some ⟨oc3, od3, .func (PySem.W.fnOf "thing_told" "thing_told" (defArgs s_3) (defBody s_3) (defScope s_3) .none kV3 dc3 pm3 an3 cd3 ct3), sl3⟩)
    (c3 : PySem.W.codeIn K cd3 "thing_told" = true)
    (k3 : PySem.W.keepIn K (.ref f3) = true)
    (a4 : PySem.W.nsIn K mainGlobals "told_poured" = some (some (.ref f4)))
    (l4 : K.lookup f4 = some ⟨oc4, od4, .func (PySem.W.fnOf "told_poured" "told_poured" (defArgs s_4) (defBody s_4) (defScope s_4) .none kV4 dc4 pm4 an4 cd4 ct4), sl4⟩)
    (c4 : PySem.W.codeIn K cd4 "told_poured" = true)
    (k4 : PySem.W.keepIn K (.ref f4) = true)
    (a5 : PySem.W.nsIn K mainGlobals "tolds_poured" = some (some (.ref f5)))
    (l5 : K.lookup f5 = some ⟨oc5, od5, .func (PySem.W.fnOf "tolds_poured" "tolds_poured" (defArgs s_5) (defBody s_5) (defScope s_5) .none kV5 dc5 pm5 an5 cd5 ct5), sl5⟩)
    (c5 : PySem.W.codeIn K cd5 "tolds_poured" = true)
    (k5 : PySem.W.keepIn K (.ref f5) = true)
    (a6 : PySem.W.nsIn K mainGlobals "make_leaf" = some (some (.ref f6)))
    (l6 : K.lookup f6 = some ⟨oc6, od6, .func (PySem.W.fnOf "make_leaf" "make_leaf" (defArgs s_6) (defBody s_6) (defScope s_6) .none kV6 dc6 pm6 an6 cd6 ct6), sl6⟩)
    (c6 : PySem.W.codeIn K cd6 "make_leaf" = true)
    (k6 : PySem.W.keepIn K (.ref f6) = true)
    (a7 : PySem.W.findIn K (.ref C10) "__init__" = some (some (.ref f7)))
    (i7 : PySem.W.isFn K (.ref f7) = true)
    (l7 : K.lookup f7 = some ⟨oc7, od7, .func (PySem.W.fnOf "__init__" "Store.__init__" (defArgs s_7) (defBody s_7) (defScope s_7) .none kV7 dc7 pm7 an7 cd7 ct7), sl7⟩)
    (c7 : PySem.W.codeIn K cd7 "Store.__init__" = true)
    (k7 : PySem.W.keepIn K (.ref f7) = true)
    (a8 : PySem.W.findIn K (.ref C10) "handles" = some (some (.ref f8)))
    (i8 : PySem.W.isFn K (.ref f8) = true)
    (l8 : K.lookup f8 = some ⟨oc8, od8, .func (PySem.W.fnOf "handles" "Store.handles" (defArgs s_8) (defBody s_8) (defScope s_8) .none kV8 dc8 pm8 an8 cd8 ct8), sl8⟩)
    (c8 : PySem.W.codeIn K cd8 "Store.handles" = true)
    (k8 : PySem.W.keepIn K (.ref f8) = true)
    (a9 : PySem.W.findIn K (.ref C10) "deeds_done" = some (some (.ref f9)))
    (i9 : PySem.W.isFn K (.ref f9) = true)
    (l9 : K.lookup f9 = some ⟨oc9, od9, .func (PySem.W.fnOf "deeds_done" "Store.deeds_done" (defArgs s_9) (defBody s_9) (defScope s_9) .none kV9 dc9 pm9 an9 cd9 ct9), sl9⟩)
    (c9 : PySem.W.codeIn K cd9 "Store.deeds_done" = true)
    (k9 : PySem.W.keepIn K (.ref f9) = true)
    (a10 : PySem.W.findIn K (.ref C10) "tree_at" = some (some (.ref f10)))
    (i10 : PySem.W.isFn K (.ref f10) = true)
    (l10 : K.lookup f10 = some ⟨oc10, od10, .func (PySem.W.fnOf "tree_at" "Store.tree_at" (defArgs s_10) (defBody s_10) (defScope s_10) (.ref t10) kV10 dc10 pm10 an10 cd10 ct10), sl10⟩)
    (c10 : PySem.W.codeIn K cd10 "Store.tree_at" = true)
    (k10 : PySem.W.keepIn K (.ref f10) = true)
    (tl10 : K.lookup t10 = some ⟨tc10, td10, .seq #[Value.none] tn10, ts10⟩)
    (a11 : PySem.W.nsIn K mainGlobals "_law_stir" = some (some (.ref f11)))
    (l11 : K.lookup f11 = some ⟨oc11, od11, .func (PySem.W.fnOf "_law_stir" "_law_stir" (defArgs s_11) (defBody s_11) (defScope s_11) .none kV11 dc11 pm11 an11 cd11 ct11), sl11⟩)
    (c11 : PySem.W.codeIn K cd11 "_law_stir" = true)
    (k11 : PySem.W.keepIn K (.ref f11) = true)
    (a12 : PySem.W.nsIn K mainGlobals "_law_next" = some (some (.ref f12)))
    (l12 : K.lookup f12 = some ⟨oc12, od12, .func (PySem.W.fnOf "_law_next" "_law_next" (defArgs s_12) (defBody s_12) (defScope s_12) .none kV12 dc12 pm12 an12 cd12 ct12), sl12⟩)
    (c12 : PySem.W.codeIn K cd12 "_law_next" = true)
    (k12 : PySem.W.keepIn K (.ref f12) = true)
    (a13 : PySem.W.nsIn K mainGlobals "_law_same" = some (some (.ref f13)))
    (l13 : K.lookup f13 = some ⟨oc13, od13, .func (PySem.W.fnOf "_law_same" "_law_same" (defArgs s_13) (defBody s_13) (defScope s_13) .none kV13 dc13 pm13 an13 cd13 ct13), sl13⟩)
    (c13 : PySem.W.codeIn K cd13 "_law_same" = true)
    (k13 : PySem.W.keepIn K (.ref f13) = true)
    (a14 : PySem.W.nsIn K mainGlobals "_law_sides_by" = some (some (.ref f14)))
    (l14 : K.lookup f14 = some ⟨oc14, od14, .func (PySem.W.fnOf "_law_sides_by" "_law_sides_by" (defArgs s_14) (defBody s_14) (defScope s_14) .none kV14 dc14 pm14 an14 cd14 ct14), sl14⟩)
    (c14 : PySem.W.codeIn K cd14 "_law_sides_by" = true)
    (k14 : PySem.W.keepIn K (.ref f14) = true)
    (a15 : PySem.W.nsIn K mainGlobals "_law_room_by" = some (some (.ref f15)))
    (l15 : K.lookup f15 = some ⟨oc15, od15, .func (PySem.W.fnOf "_law_room_by" "_law_room_by" (defArgs s_15) (defBody s_15) (defScope s_15) .none kV15 dc15 pm15 an15 cd15 ct15), sl15⟩)
    (c15 : PySem.W.codeIn K cd15 "_law_room_by" = true)
    (k15 : PySem.W.keepIn K (.ref f15) = true)
    (a16 : PySem.W.nsIn K mainGlobals "_law_good" = some (some (.ref f16)))
    (l16 : K.lookup f16 = some ⟨oc16, od16, .func (PySem.W.fnOf "_law_good" "_law_good" (defArgs s_16) (defBody s_16) (defScope s_16) .none kV16 dc16 pm16 an16 cd16 ct16), sl16⟩)
    (c16 : PySem.W.codeIn K cd16 "_law_good" = true)
    (k16 : PySem.W.keepIn K (.ref f16) = true)
    (a17 : PySem.W.nsIn K mainGlobals "_law_refused" = some (some (.ref f17)))
    (l17 : K.lookup f17 = some ⟨oc17, od17, .func (PySem.W.fnOf "_law_refused" "_law_refused" (defArgs s_17) (defBody s_17) (defScope s_17) .none kV17 dc17 pm17 an17 cd17 ct17), sl17⟩)
    (c17 : PySem.W.codeIn K cd17 "_law_refused" = true)
    (k17 : PySem.W.keepIn K (.ref f17) = true)
    (a18 : PySem.W.nsIn K mainGlobals "_law_no_view" = some (some (.ref f18)))
    (l18 : K.lookup f18 = some ⟨oc18, od18, .func (PySem.W.fnOf "_law_no_view" "_law_no_view" (defArgs s_18) (defBody s_18) (defScope s_18) .none kV18 dc18 pm18 an18 cd18 ct18), sl18⟩)
    (c18 : PySem.W.codeIn K cd18 "_law_no_view" = true)
    (k18 : PySem.W.keepIn K (.ref f18) = true)
    (a19 : PySem.W.nsIn K mainGlobals "law" = some (some (.ref f19)))
    (l19 : K.lookup f19 = some ⟨oc19, od19, .func (PySem.W.fnOf "law" "law" (defArgs s_19) (defBody s_19) (defScope s_19) .none kV19 dc19 pm19 an19 cd19 ct19), sl19⟩)
    (c19 : PySem.W.codeIn K cd19 "law" = true)
    (k19 : PySem.W.keepIn K (.ref f19) = true)
    (a20 : PySem.W.nsIn K mainGlobals "_law_other" = some (some (.ref f20)))
    (l20 : K.lookup f20 = some ⟨oc20, od20, .func (PySem.W.fnOf "_law_other" "_law_other" (defArgs s_20) (defBody s_20) (defScope s_20) .none kV20 dc20 pm20 an20 cd20 ct20), sl20⟩)
    (c20 : PySem.W.codeIn K cd20 "_law_other" = true)
    (k20 : PySem.W.keepIn K (.ref f20) = true)
    (z_ValueError : PySem.W.nsIn K mainGlobals "ValueError" = some none)
    (z_bool : PySem.W.nsIn K mainGlobals "bool" = some none)
    (z_int : PySem.W.nsIn K mainGlobals "int" = some none)
    (z_isinstance : PySem.W.nsIn K mainGlobals "isinstance" = some none)
    (z_len : PySem.W.nsIn K mainGlobals "len" = some none)
    (z_max : PySem.W.nsIn K mainGlobals "max" = some none)
    (z_min : PySem.W.nsIn K mainGlobals "min" = some none)
    (z_range : PySem.W.nsIn K mainGlobals "range" = some none)
    (z_sorted : PySem.W.nsIn K mainGlobals "sorted" = some none)
    (z_str : PySem.W.nsIn K mainGlobals "str" = some none)
    (z_tuple : PySem.W.nsIn K mainGlobals "tuple" = some none)
    (z_zip : PySem.W.nsIn K mainGlobals "zip" = some none)
    (k_LEAST_ROOM : PySem.W.nsIn K mainGlobals "LEAST_ROOM" = some (some (.int 4 kt_LEAST_ROOM)))
    (k_MOST_ROOM : PySem.W.nsIn K mainGlobals "MOST_ROOM" = some (some (.int 16 kt_MOST_ROOM)))
    (pg_Store : PySem.W.plainGet K C10 Str.empty = true)
    (hd_Store : PySem.W.hasDictIn K C10 = true)
    (po_Store : PySem.W.plainOver K C10 = true)
    (sa_Store : PySem.W.findIn K (.ref C10) "__setattr__" = some (some (.builtin "object.__setattr__")))
    (mk_Store : PySem.W.makesIn K C10 = true)
    (kc_Store : PySem.W.keepIn K (.ref C10) = true)
    (na_Store_sides : PySem.W.findIn K (.ref C10) "sides" = some none)
    (na_Store_room : PySem.W.findIn K (.ref C10) "room" = some none)
    (na_Store_tops : PySem.W.findIn K (.ref C10) "tops" = some none)
    (na_Store_kept : PySem.W.findIn K (.ref C10) "kept" = some none)
    (na_Store_standing : PySem.W.findIn K (.ref C10) "standing" = some none)
    (na_Store_watches_set : PySem.W.findIn K (.ref C10) "watches_set" = some none)
    (xs_DriftError : PySem.W.subIn K (.ref C0) (.type "BaseException") = some true)
    (xt_DriftError : PySem.W.typeIn K (.ref C0) = some (.type "type"))
    (xh_DriftError : PySem.W.hasDictIn K C0 = true)
    (xr_DriftError : PySem.W.subIn K (.ref C0) (.ref C0) = some true)
    (xs_NoThing : PySem.W.subIn K (.ref C1) (.type "BaseException") = some true)
    (xt_NoThing : PySem.W.typeIn K (.ref C1) = some (.type "type"))
    (xh_NoThing : PySem.W.hasDictIn K C1 = true)
    (xr_NoThing : PySem.W.subIn K (.ref C1) (.ref C1) = some true)
    (xs_NoWant : PySem.W.subIn K (.ref C2) (.type "BaseException") = some true)
    (xt_NoWant : PySem.W.typeIn K (.ref C2) = some (.type "type"))
    (xh_NoWant : PySem.W.hasDictIn K C2 = true)
    (xr_NoWant : PySem.W.subIn K (.ref C2) (.ref C2) = some true)
    (xs_NoPath : PySem.W.subIn K (.ref C3) (.type "BaseException") = some true)
    (xt_NoPath : PySem.W.typeIn K (.ref C3) = some (.type "type"))
    (xh_NoPath : PySem.W.hasDictIn K C3 = true)
    (xr_NoPath : PySem.W.subIn K (.ref C3) (.ref C3) = some true)
    (xs_NoHandle : PySem.W.subIn K (.ref C4) (.type "BaseException") = some true)
    (xt_NoHandle : PySem.W.typeIn K (.ref C4) = some (.type "type"))
    (xh_NoHandle : PySem.W.hasDictIn K C4 = true)
    (xr_NoHandle : PySem.W.subIn K (.ref C4) (.ref C4) = some true)
    (xs_NoRoom : PySem.W.subIn K (.ref C5) (.type "BaseException") = some true)
    (xt_NoRoom : PySem.W.typeIn K (.ref C5) = some (.type "type"))
    (xh_NoRoom : PySem.W.hasDictIn K C5 = true)
    (xr_NoRoom : PySem.W.subIn K (.ref C5) (.ref C5) = some true)
    (xs_Twice : PySem.W.subIn K (.ref C6) (.type "BaseException") = some true)
    (xt_Twice : PySem.W.typeIn K (.ref C6) = some (.type "type"))
    (xh_Twice : PySem.W.hasDictIn K C6 = true)
    (xr_Twice : PySem.W.subIn K (.ref C6) (.ref C6) = some true)
    (xs_NoView : PySem.W.subIn K (.ref C7) (.type "BaseException") = some true)
    (xt_NoView : PySem.W.typeIn K (.ref C7) = some (.type "type"))
    (xh_NoView : PySem.W.hasDictIn K C7 = true)
    (xr_NoView : PySem.W.subIn K (.ref C7) (.ref C7) = some true)
    (xs_NoWatch : PySem.W.subIn K (.ref C8) (.type "BaseException") = some true)
    (xt_NoWatch : PySem.W.typeIn K (.ref C8) = some (.type "type"))
    (xh_NoWatch : PySem.W.hasDictIn K C8 = true)
    (xr_NoWatch : PySem.W.subIn K (.ref C8) (.ref C8) = some true)
    (xs_NoText : PySem.W.subIn K (.ref C9) (.type "BaseException") = some true)
    (xt_NoText : PySem.W.typeIn K (.ref C9) = some (.type "type"))
    (xh_NoText : PySem.W.hasDictIn K C9 = true)
    (xr_NoText : PySem.W.subIn K (.ref C9) (.ref C9) = some true)
    (xi_NoRoom : PySem.W.excIn K C5 [.type "ValueError", .type "Exception", .type "BaseException", .type "object"] "ValueError.__new__" = true)
    (xk_NoRoom : PySem.W.keepIn K (.ref C5) = true)
    (x1_NoRoom : PySem.W.findIn K (.ref C5) "__getattribute__" = some (some (.builtin "BaseException.__getattribute__")))
    (x2_NoRoom : PySem.W.findIn K (.ref C5) "__getattr__" = some none)
    (x3_NoRoom : PySem.W.findIn K (.ref C5) "__class__" = some (some (.builtin "object.__class__")))
    (x4_NoRoom : PySem.W.mroIn K C5 (.type "object") = some true)
    (sb_NoRoom_DriftError : PySem.W.subIn K (.ref C5) (.ref C0) = some true)
    (sb_NoRoom_NoHandle : PySem.W.subIn K (.ref C5) (.ref C4) = some false)
    (sb_NoRoom_NoPath : PySem.W.subIn K (.ref C5) (.ref C3) = some false)
    (sb_NoRoom_NoRoom : PySem.W.subIn K (.ref C5) (.ref C5) = some true)
    (sb_NoRoom_NoText : PySem.W.subIn K (.ref C5) (.ref C9) = some false)
    (sb_NoRoom_NoThing : PySem.W.subIn K (.ref C5) (.ref C1) = some false)
    (sb_NoRoom_NoView : PySem.W.subIn K (.ref C5) (.ref C7) = some false)
    (sb_NoRoom_NoWant : PySem.W.subIn K (.ref C5) (.ref C2) = some false)
    (sb_NoRoom_NoWatch : PySem.W.subIn K (.ref C5) (.ref C8) = some false)
    (sb_NoRoom_Twice : PySem.W.subIn K (.ref C5) (.ref C6) = some false)
    (sb_NoRoom_ValueError : PySem.W.subIn K (.ref C5) (.type "ValueError") = some true)
    (xi_NoView : PySem.W.excIn K C7 [.type "ValueError", .type "Exception", .type "BaseException", .type "object"] "ValueError.__new__" = true)
    (xk_NoView : PySem.W.keepIn K (.ref C7) = true)
    (x1_NoView : PySem.W.findIn K (.ref C7) "__getattribute__" = some (some (.builtin "BaseException.__getattribute__")))
    (x2_NoView : PySem.W.findIn K (.ref C7) "__getattr__" = some none)
    (x3_NoView : PySem.W.findIn K (.ref C7) "__class__" = some (some (.builtin "object.__class__")))
    (x4_NoView : PySem.W.mroIn K C7 (.type "object") = some true)
    (sb_NoView_DriftError : PySem.W.subIn K (.ref C7) (.ref C0) = some true)
    (sb_NoView_NoHandle : PySem.W.subIn K (.ref C7) (.ref C4) = some false)
    (sb_NoView_NoPath : PySem.W.subIn K (.ref C7) (.ref C3) = some false)
    (sb_NoView_NoRoom : PySem.W.subIn K (.ref C7) (.ref C5) = some false)
    (sb_NoView_NoText : PySem.W.subIn K (.ref C7) (.ref C9) = some false)
    (sb_NoView_NoThing : PySem.W.subIn K (.ref C7) (.ref C1) = some false)
    (sb_NoView_NoView : PySem.W.subIn K (.ref C7) (.ref C7) = some true)
    (sb_NoView_NoWant : PySem.W.subIn K (.ref C7) (.ref C2) = some false)
    (sb_NoView_NoWatch : PySem.W.subIn K (.ref C7) (.ref C8) = some false)
    (sb_NoView_Twice : PySem.W.subIn K (.ref C7) (.ref C6) = some false)
    (sb_NoView_ValueError : PySem.W.subIn K (.ref C7) (.type "ValueError") = some true)
    (x5 : PySem.W.specialIn K (.builtin "object.__class__") "__get__" = some (some (.builtin "getset_descriptor.__get__")))
    (x6 : PySem.W.takesIn K (.builtin "object.__class__") = some true)
    : ∃ fd : FuncData, (∀ (s : Shared) (v : Value), BindsTo s fd ⟨[v], []⟩ [("script", v)]) ∧ ∀ base : Heap, K.In base → base.Ns mainGlobals mg → FnOk l.prog w K mg base (L2N.CX l.prog w) (2 * KN) fa0 fd ["script"] (spLaw K) := by
  have e := hfa.symm.trans (PySem.W.mg_of X G a19)
  cases e
  have T : Txt K mg ⟨⟨fun c => [C0, C1, C2, C3, C4, C5, C6, C7, C8, C9, C10].getD c 0, flT⟩, none⟩ (fun g => [f0, f1, f2, f3, f4, f5, f6, f7, f8, f9, f10, f11, f12, f13, f14, f15, f16, f17, f18, fa0, f20].getD g 0) := {
    fn := ⟨⟨⟨⟨⟨⟨⟨⟨⟨⟨⟨⟨⟨⟨⟨⟨⟨⟨⟨⟨⟨trivial, fnF_mk (d := d_0) l0 c0 k0⟩, fnF_mk (d := d_1) l1 c1 k1⟩, fnF_mk (d := d_2) l2 c2 k2⟩, fnF_mk (d := d_3) l3 c3 k3⟩, fnF_mk (d := d_4) l4 c4 k4⟩, fnF_mk (d := d_5) l5 c5 k5⟩, fnF_mk (d := d_6) l6 c6 k6⟩, fnF_mk (d := d_7) l7 c7 k7⟩, fnF_mk (d := d_8) l8 c8 k8⟩, fnF_mk (d := d_9) l9 c9 k9⟩, fnF_mkD (d := d_10) (its := [_]) l10 c10 k10 tl10 rfl (by intro h; cases h) (.cons rfl .nil)⟩, fnF_mk (d := d_11) l11 c11 k11⟩, fnF_mk (d := d_12) l12 c12 k12⟩, fnF_mk (d := d_13) l13 c13 k13⟩, fnF_mk (d := d_14) l14 c14 k14⟩, fnF_mk (d := d_15) l15 c15 k15⟩, fnF_mk (d := d_16) l16 c16 k16⟩, fnF_mk (d := d_17) l17 c17 k17⟩, fnF_mk (d := d_18) l18 c18 k18⟩, fnF_mk (d := d_19) l19 c19 k19⟩, fnF_mk (d := d_20) l20 c20 k20⟩
    efl := rfl
    eea := rfl
    m_frames_joined := PySem.W.mg_of X G a0
    m_frames_narrowed := PySem.W.mg_of X G a1
    m_whole_within := PySem.W.mg_of X G a2
    m_thing_told := PySem.W.mg_of X G a3
    m_told_poured := PySem.W.mg_of X G a4
    m_tolds_poured := PySem.W.mg_of X G a5
    m_make_leaf := PySem.W.mg_of X G a6
    m__law_stir := PySem.W.mg_of X G a11
    m__law_next := PySem.W.mg_of X G a12
    m__law_same := PySem.W.mg_of X G a13
    m__law_sides_by := PySem.W.mg_of X G a14
    m__law_room_by := PySem.W.mg_of X G a15
    m__law_good := PySem.W.mg_of X G a16
    m__law_refused := PySem.W.mg_of X G a17
    m__law_no_view := PySem.W.mg_of X G a18
    m_law := PySem.W.mg_of X G a19
    m__law_other := PySem.W.mg_of X G a20
    z_ValueError := PySem.W.mg_none_of X G z_ValueError
    z_bool := PySem.W.mg_none_of X G z_bool
    z_int := PySem.W.mg_none_of X G z_int
    z_isinstance := PySem.W.mg_none_of X G z_isinstance
    z_len := PySem.W.mg_none_of X G z_len
    z_max := PySem.W.mg_none_of X G z_max
    z_min := PySem.W.mg_none_of X G z_min
    z_range := PySem.W.mg_none_of X G z_range
    z_sorted := PySem.W.mg_none_of X G z_sorted
    z_str := PySem.W.mg_none_of X G z_str
    z_tuple := PySem.W.mg_none_of X G z_tuple
    z_zip := PySem.W.mg_none_of X G z_zip
    k_LEAST_ROOM := ⟨_, PySem.W.mg_of X G k_LEAST_ROOM⟩
    k_MOST_ROOM := ⟨_, PySem.W.mg_of X G k_MOST_ROOM⟩
    cl_Store := PySem.W.mg_of X G cl_Store
    cls_Store := ⟨pg_Store, hd_Store, po_Store, sa_Store⟩
    mk_Store := ⟨mk_Store, a7, i7, kc_Store⟩
    na_Store_sides := na_Store_sides
    na_Store_room := na_Store_room
    na_Store_tops := na_Store_tops
    na_Store_kept := na_Store_kept
    na_Store_standing := na_Store_standing
    na_Store_watches_set := na_Store_watches_set
    me_10_handles := ⟨a8, i8, k8⟩
    me_10_deeds_done := ⟨a9, i9, k9⟩
    me_10_tree_at := ⟨a10, i10, k10⟩
    cl_DriftError := PySem.W.mg_of X G cl_DriftError
    xs_DriftError := xs_DriftError
    xt_DriftError := xt_DriftError
    xh_DriftError := xh_DriftError
    xr_DriftError := xr_DriftError
    cl_NoThing := PySem.W.mg_of X G cl_NoThing
    xs_NoThing := xs_NoThing
    xt_NoThing := xt_NoThing
    xh_NoThing := xh_NoThing
    xr_NoThing := xr_NoThing
    cl_NoWant := PySem.W.mg_of X G cl_NoWant
    xs_NoWant := xs_NoWant
    xt_NoWant := xt_NoWant
    xh_NoWant := xh_NoWant
    xr_NoWant := xr_NoWant
    cl_NoPath := PySem.W.mg_of X G cl_NoPath
    xs_NoPath := xs_NoPath
    xt_NoPath := xt_NoPath
    xh_NoPath := xh_NoPath
    xr_NoPath := xr_NoPath
    cl_NoHandle := PySem.W.mg_of X G cl_NoHandle
    xs_NoHandle := xs_NoHandle
    xt_NoHandle := xt_NoHandle
    xh_NoHandle := xh_NoHandle
    xr_NoHandle := xr_NoHandle
    cl_NoRoom := PySem.W.mg_of X G cl_NoRoom
    xs_NoRoom := xs_NoRoom
    xt_NoRoom := xt_NoRoom
    xh_NoRoom := xh_NoRoom
    xr_NoRoom := xr_NoRoom
    cl_Twice := PySem.W.mg_of X G cl_Twice
    xs_Twice := xs_Twice
    xt_Twice := xt_Twice
    xh_Twice := xh_Twice
    xr_Twice := xr_Twice
    cl_NoView := PySem.W.mg_of X G cl_NoView
    xs_NoView := xs_NoView
    xt_NoView := xt_NoView
    xh_NoView := xh_NoView
    xr_NoView := xr_NoView
    cl_NoWatch := PySem.W.mg_of X G cl_NoWatch
    xs_NoWatch := xs_NoWatch
    xt_NoWatch := xt_NoWatch
    xh_NoWatch := xh_NoWatch
    xr_NoWatch := xr_NoWatch
    cl_NoText := PySem.W.mg_of X G cl_NoText
    xs_NoText := xs_NoText
    xt_NoText := xt_NoText
    xh_NoText := xh_NoText
    xr_NoText := xr_NoText
    xi_NoRoom := xi_NoRoom
    xk_NoRoom := xk_NoRoom
    xc_NoRoom := ⟨x1_NoRoom, x2_NoRoom, xs_NoRoom, xh_NoRoom, x3_NoRoom, x5, x6, x4_NoRoom⟩
    sb_NoRoom_DriftError := sb_NoRoom_DriftError
    sb_NoRoom_NoHandle := sb_NoRoom_NoHandle
    sb_NoRoom_NoPath := sb_NoRoom_NoPath
    sb_NoRoom_NoRoom := sb_NoRoom_NoRoom
    sb_NoRoom_NoText := sb_NoRoom_NoText
    sb_NoRoom_NoThing := sb_NoRoom_NoThing
    sb_NoRoom_NoView := sb_NoRoom_NoView
    sb_NoRoom_NoWant := sb_NoRoom_NoWant
    sb_NoRoom_NoWatch := sb_NoRoom_NoWatch
    sb_NoRoom_Twice := sb_NoRoom_Twice
    sb_NoRoom_ValueError := sb_NoRoom_ValueError
    xi_NoView := xi_NoView
    xk_NoView := xk_NoView
    xc_NoView := ⟨x1_NoView, x2_NoView, xs_NoView, xh_NoView, x3_NoView, x5, x6, x4_NoView⟩
    sb_NoView_DriftError := sb_NoView_DriftError
    sb_NoView_NoHandle := sb_NoView_NoHandle
    sb_NoView_NoPath := sb_NoView_NoPath
    sb_NoView_NoRoom := sb_NoView_NoRoom
    sb_NoView_NoText := sb_NoView_NoText
    sb_NoView_NoThing := sb_NoView_NoThing
    sb_NoView_NoView := sb_NoView_NoView
    sb_NoView_NoWant := sb_NoView_NoWant
    sb_NoView_NoWatch := sb_NoView_NoWatch
    sb_NoView_Twice := sb_NoView_Twice
    sb_NoView_ValueError := sb_NoView_ValueError
  }
  obtain ⟨fd, F⟩ := T.fn.at 19 (by decide)
  refine ⟨fd, fun s v => FunD.bindsA (ps := ["script"]) F (fun _ _ _ _ _ _ us hl => match us, hl with | [_], _ => rfl) s [v] rfl, fun base _ _ => ?_⟩
  obtain ⟨fd2, F2, ok⟩ := (oks (P := l.prog) (w := w) (base := base) T KN).at 19 (by decide)
  have e2 := uniq F F2
  subst e2
  exact ok_law ok rfl hlaw
end Kx
namespace Kx
open Dw
/-- what sides and room may be -/
inductive Form : D → Prop
  | int (i : Int) : Form (.int i)
  | bl (b : Bool) : Form (.bl b)
  | non : Form .non
  | str (s : PySem.Str) : Form (.str s)
  | tup (ds : List D) : cleans ds = true → Form (.tup ds)
theorem Form.clean {d : D} (h : Form d) : Dw.clean d = true := by cases h <;> simp_all [Dw.clean]
def within (d : D) (lo hi : Int) : Bool := match d with
  | .int i => decide (lo ≤ i) && decide (i ≤ hi)
  | _ => false
theorem p2 (n : Nat) {d : D} (h : Form d) (lo hi : Int) (M : Mem) : callN PP (n + 1) 2 [d, .int lo, .int hi] M = some (.ok (.bl (within d lo hi)) M) := by
  have hc := h.clean
  rw [callN_loc (f := c_2) rfl rfl rfl (by simp [cleans, hc, Dw.clean])]
  cases h with
  | int i =>
    simp [c_2, within, execs, exec, eval, evals, evalO, Dw.start, onE, bi, one?, isTy, truth, binop, unop, opt, Ev.bind, fin, finG, clean, cleans, D.isN, index, setAll, bindT, wipe, wd, wd0, handle, unbind, bindO, Prog.cfg, noExc]
    by_cases h : lo ≤ i <;> simp [h, execs, exec, eval, evals, evalO, Dw.start, onE, bi, one?, isTy, truth, binop, unop, opt, Ev.bind, fin, finG, clean, cleans, D.isN, index, setAll, bindT, wipe, wd, wd0, handle, unbind, bindO, Prog.cfg, noExc]
  | _ => simp [c_2, within, execs, exec, eval, evals, evalO, Dw.start, onE, bi, one?, isTy, truth, binop, unop, opt, Ev.bind, fin, finG, clean, cleans, D.isN, index, setAll, bindT, wipe, wd, wd0, handle, unbind, bindO, Prog.cfg, noExc]
/-- an empty leaf -/
abbrev leafD : D := .tup [.str "leaf", .non, .tup []]
theorem p5 (n : Nat) (M : Mem) : callN PP (n + 1) 5 [.tup []] M = some (.ok .non M) := by
  rw [callN_loc (f := c_5) rfl rfl rfl rfl]
  simp [c_5, items, forLoop, execs, exec, eval, evals, evalO, Dw.start, onE, bi, one?, isTy, truth, binop, unop, opt, Ev.bind, fin, finG, clean, cleans, D.isN, index, setAll, bindT, wipe, wd, wd0, handle, unbind, bindO, Prog.cfg, noExc]
theorem p6 (n : Nat) (M : Mem) : callN PP (n + 2) 6 [.tup []] M = some (.ok leafD M) := by
  rw [callN_loc (f := c_6) rfl rfl rfl rfl]
  simp [c_6, items, compLoop, p5, seq?, execs, exec, eval, evals, evalO, Dw.start, onE, bi, one?, isTy, truth, binop, unop, opt, Ev.bind, fin, finG, clean, cleans, D.isN, index, setAll, bindT, wipe, wd, wd0, handle, unbind, bindO, Prog.cfg, noExc]
theorem x0 : PP.fix 10 0 = some 0 := rfl
theorem x1 : PP.fix 10 1 = some 1 := rfl
theorem x2 : PP.fix 10 2 = some 2 := rfl
theorem x3 : PP.fix 10 3 = some 3 := rfl
theorem x4 : PP.fix 10 4 = some 4 := rfl
theorem x5 : PP.fix 10 5 = some 5 := rfl
def goodS (s r : D) : Bool := within s 2 3 && within r 4 16
theorem setS {M N : Mem} {a b : MO} : (M ++ a :: N).set M.length b = M ++ b :: N := by simp
theorem getS {M N : Mem} {a : MO} : (M ++ a :: N)[M.length]? = some a := by simp
theorem p7 (n : Nat) {s r : D} (hs : Form s) (hr : Form r) (M : Mem) : callN PP (n + 3) 7 [.ref M.length, s, r] (M ++ [.ins 10 []]) =
    if goodS s r = true then some (.ok .non (M ++ [.ins 10 [s, r, .ref (M.length + 1), .ref (M.length + 2), .ref (M.length + 3), .int 0], .lst [leafD], .dct [], .dct []])) else some (.exc 5 (M ++ [.ins 10 []])) := by
  rw [callN_glo (f := c_7) rfl rfl rfl]
  unfold goodS
  have a1 : callN PP (n + 2) 2 [s, .int 2, .int 3] (M ++ [.ins 10 []]) = _ := p2 (n + 1) hs 2 3 _
  have a2 : callN PP (n + 2) 2 [r, .int 4, .int 16] (M ++ [.ins 10 []]) = _ := p2 (n + 1) hr 4 16 _
  cases h1 : within s 2 3
  · simp [c_7, execs, exec, eval, evals, evalO, Dw.start, onE, bi, one?, isTy, truth, binop, unop, opt, Ev.bind, fin, finG, clean, cleans, D.isN, index, setAll, bindT, wipe, wd, wd0, handle, unbind, bindO, Prog.cfg, noExc, a1, h1]
  · cases h2 : within r 4 16
    · simp [c_7, execs, exec, eval, evals, evalO, Dw.start, onE, bi, one?, isTy, truth, binop, unop, opt, Ev.bind, fin, finG, clean, cleans, D.isN, index, setAll, bindT, wipe, wd, wd0, handle, unbind, bindO, Prog.cfg, noExc, a1, a2, h1, h2]
    · simp [c_7, execs, exec, eval, evals, evalO, Dw.start, onE, bi, one?, isTy, truth, binop, unop, opt, Ev.bind, fin, finG, clean, cleans, D.isN, index, setAll, bindT, wipe, wd, wd0, handle, unbind, bindO, Prog.cfg, noExc, a1, a2, h1, h2, fldSet, x0, x1, x2, x3, x4, x5, p6, getS, setS]

structure St (M : Mem) (k : Nat) : Prop where
  ex : ∃ s r a b c, M[k]? = some (.ins 10 [s, r, .ref a, .ref b, .ref c, .int 0]) ∧ M[a]? = some (.lst [leafD]) ∧ M[b]? = some (.dct [])
theorem y0 : PP.meth 10 0 = some 8 := rfl
theorem y1 : PP.meth 10 1 = some 9 := rfl
theorem y2 : PP.meth 10 2 = some 10 := rfl
theorem p8 (n : Nat) {M : Mem} {k : Nat} (h : St M k) : callN PP (n + 1) 8 [.ref k] M = some (.ok (.tup []) M) := by
  obtain ⟨s, r, a, b, c, h1, h2, h3⟩ := h.ex
  rw [callN_glo (f := c_8) rfl rfl rfl]
  simp [c_8, fieldOf, h1, h3, x3, seqL?, keys?, ints?, seq?, execs, exec, eval, evals, evalO, Dw.start, onE, bi, one?, isTy, truth, binop, unop, opt, Ev.bind, fin, finG, clean, cleans, D.isN, index, setAll, bindT, wipe, wd, wd0, handle, unbind, bindO, Prog.cfg, noExc]
theorem p9 (n : Nat) {M : Mem} {k : Nat} (h : St M k) : callN PP (n + 1) 9 [.ref k] M = some (.ok (.int 0) M) := by
  obtain ⟨s, r, a, b, c, h1, h2, h3⟩ := h.ex
  rw [callN_glo (f := c_9) rfl rfl rfl]
  simp [c_9, fieldOf, h1, h2, x2, execs, exec, eval, evals, evalO, Dw.start, onE, bi, one?, isTy, truth, binop, unop, opt, Ev.bind, fin, finG, clean, cleans, D.isN, index, setAll, bindT, wipe, wd, wd0, handle, unbind, bindO, Prog.cfg, noExc]
theorem p10n (n : Nat) {M : Mem} {k : Nat} (h : St M k) : callN PP (n + 1) 10 [.ref k, .non] M = some (.ok leafD M) := by
  obtain ⟨s, r, a, b, c, h1, h2, h3⟩ := h.ex
  rw [callN_glo (f := c_10) rfl rfl rfl]
  simp [c_10, fieldOf, h1, h2, x2, L2.atI, L2.ixN, execs, exec, eval, evals, evalO, Dw.start, onE, bi, one?, isTy, truth, binop, unop, opt, Ev.bind, fin, finG, clean, cleans, D.isN, index, setAll, bindT, wipe, wd, wd0, handle, unbind, bindO, Prog.cfg, noExc]
theorem p10z (n : Nat) {M : Mem} {k : Nat} (h : St M k) : callN PP (n + 1) 10 [.ref k, .int 0] M = some (.ok leafD M) := by
  obtain ⟨s, r, a, b, c, h1, h2, h3⟩ := h.ex
  rw [callN_glo (f := c_10) rfl rfl rfl]
  simp [c_10, fieldOf, h1, h2, x2, L2.atI, L2.ixN, dlt, execs, exec, eval, evals, evalO, Dw.start, onE, bi, one?, isTy, truth, binop, unop, opt, Ev.bind, fin, finG, clean, cleans, D.isN, index, setAll, bindT, wipe, wd, wd0, handle, unbind, bindO, Prog.cfg, noExc]
theorem p10x (n : Nat) {M : Mem} {k : Nat} (h : St M k) {v : Int} (hv : v = 1 ∨ v = -1) : callN PP (n + 1) 10 [.ref k, .int v] M = some (.exc 7 M) := by
  obtain ⟨s, r, a, b, c, h1, h2, h3⟩ := h.ex
  rw [callN_glo (f := c_10) rfl rfl rfl]
  rcases hv with rfl | rfl <;> simp [c_10, fieldOf, h1, h2, x2, L2.atI, L2.ixN, dlt, execs, exec, eval, evals, evalO, Dw.start, onE, bi, one?, isTy, truth, binop, unop, opt, Ev.bind, fin, finG, clean, cleans, D.isN, index, setAll, bindT, wipe, wd, wd0, handle, unbind, bindO, Prog.cfg, noExc]
theorem z50 : PP.sub 5 0 = some true := rfl
theorem z5h : PP.sub 5 100 = some true := rfl
theorem z55 : PP.sub 5 5 = some true := rfl
theorem z77 : PP.sub 7 7 = some true := rfl
theorem z70 : PP.sub 7 0 = some true := rfl
theorem z75 : PP.sub 7 5 = some false := rfl
theorem z74 : PP.sub 7 4 = some false := rfl
theorem p18 (n : Nat) {M : Mem} {k : Nat} (h : St M k) {v : Int} (hv : v = 1 ∨ v = -1) : callN PP (n + 2) 18 [.ref k, .int v] M = some (.ok (.bl true) M) := by
  have e := p10x n h hv
  obtain ⟨s, r, a, b, c, h1, h2, h3⟩ := h.ex
  rw [callN_glo (f := c_18) rfl rfl rfl]
  simp [c_18, clsOf, h1, y2, e, z77, z70, z75, z74, eqD, flat, deq, execs, exec, eval, evals, evalO, Dw.start, onE, bi, one?, isTy, truth, binop, unop, opt, Ev.bind, fin, finG, clean, cleans, D.isN, index, setAll, bindT, wipe, wd, wd0, handle, unbind, bindO, Prog.cfg, noExc]
theorem p20 (M : Mem) (n : Nat) : callX PP (n + 1) 20 5 M = some (.ok (.bl false) M) := by
  have q : ∀ k ∈ [1, 2, 3, 4, 6, 7, 8, 9], PP.sub 5 k = some false := by decide
  simp only [List.mem_cons, List.not_mem_nil, or_false, forall_eq_or_imp, forall_eq] at q
  simp [callX, show PP.fn 20 = some c_20 from rfl, c_20, q, execs, exec, eval, evals, evalO, Dw.start, onE, bi, one?, isTy, truth, binop, unop, opt, Ev.bind, fin, finG, clean, cleans, D.isN, index, setAll, bindT, wipe, wd, wd0, handle, unbind, bindO, Prog.cfg, noExc]
theorem p17 (n : Nat) {s r : D} (hs : Form s) (hr : Form r) (M : Mem) (hg : goodS s r = false) : callN PP (n + 4) 17 [s, r] M = some (.ok (.bl true) M) := by
  have e := p7 n hs hr []
  rw [hg] at e
  simp only [List.length_nil, List.nil_append, Bool.false_eq_true, if_false] at e
  rw [callN_loc (f := c_17) rfl rfl rfl (by simp [cleans, hs.clean, hr.clean])]
  simp [c_17, e, z55, z50, z5h, p20, eqD, flat, deq, execs, exec, eval, evals, evalO, Dw.start, onE, bi, one?, isTy, truth, binop, unop, opt, Ev.bind, fin, finG, clean, cleans, D.isN, index, setAll, bindT, wipe, wd, wd0, handle, unbind, bindO, Prog.cfg, noExc]
theorem p13a (n : Nat) (M : Mem) : callN PP (n + 1) 13 [.tup [], .tup []] M = some (.ok (.bl true) M) := by
  rw [callN_loc (f := c_13) rfl rfl rfl rfl]
  simp [c_13, items, forLoop, rangeD, eqD, flat, deq, execs, exec, eval, evals, evalO, Dw.start, onE, bi, one?, isTy, truth, binop, unop, opt, Ev.bind, fin, finG, clean, cleans, D.isN, index, setAll, bindT, wipe, wd, wd0, handle, unbind, bindO, Prog.cfg, noExc]
theorem p13b (n : Nat) (M : Mem) : callN PP (n + 1) 13 [.int 0, .int 0] M = some (.ok (.bl true) M) := by
  rw [callN_loc (f := c_13) rfl rfl rfl rfl]
  simp [c_13, eqD, flat, deq, execs, exec, eval, evals, evalO, Dw.start, onE, bi, one?, isTy, truth, binop, unop, opt, Ev.bind, fin, finG, clean, cleans, D.isN, index, setAll, bindT, wipe, wd, wd0, handle, unbind, bindO, Prog.cfg, noExc]
theorem p13n (n : Nat) (M : Mem) : callN PP (n + 1) 13 [.non, .non] M = some (.ok (.bl true) M) := by
  rw [callN_loc (f := c_13) rfl rfl rfl rfl]
  simp [c_13, eqD, flat, deq, execs, exec, eval, evals, evalO, Dw.start, onE, bi, one?, isTy, truth, binop, unop, opt, Ev.bind, fin, finG, clean, cleans, D.isN, index, setAll, bindT, wipe, wd, wd0, handle, unbind, bindO, Prog.cfg, noExc]
theorem p13s (n : Nat) (M : Mem) : callN PP (n + 1) 13 [.str "leaf", .str "leaf"] M = some (.ok (.bl true) M) := by
  rw [callN_loc (f := c_13) rfl rfl rfl rfl]
  simp [c_13, eqD, flat, deq, execs, exec, eval, evals, evalO, Dw.start, onE, bi, one?, isTy, truth, binop, unop, opt, Ev.bind, fin, finG, clean, cleans, D.isN, index, setAll, bindT, wipe, wd, wd0, handle, unbind, bindO, Prog.cfg, noExc]
theorem p13l (n : Nat) (M : Mem) : callN PP (n + 2) 13 [leafD, leafD] M = some (.ok (.bl true) M) := by
  rw [callN_loc (f := c_13) rfl rfl rfl rfl]
  have e : rangeD 0 3 = [.int 0, .int 1, .int 2] := rfl
  simp [c_13, items, forLoop, e, eqD, flat, deq, L2.atI, L2.ixN, p13s, p13n, p13a, execs, exec, eval, evals, evalO, Dw.start, onE, bi, one?, isTy, truth, binop, unop, opt, Ev.bind, fin, finG, clean, cleans, D.isN, index, setAll, bindT, wipe, wd, wd0, handle, unbind, bindO, Prog.cfg, noExc]

theorem modOk {a p : Int} (h : 0 < p) : 0 ≤ a % p ∧ a % p < p := ⟨Int.emod_nonneg _ (Int.ne_of_gt h), Int.emod_lt_of_pos _ h⟩
/-- numbers that may be multiplied -/
def Small (i : Int) : Prop := i.natAbs.log2 < 2000000
theorem small_of {i : Int} {k : Nat} (h : i.natAbs < 2 ^ k) (hk : k ≤ 2000000) (h0 : 0 < k) : Small i := by
  unfold Small
  by_cases z : i.natAbs = 0
  · rw [z]; decide
  · have := (Nat.log2_lt z).mpr h
    omega
theorem small_mod {a : Int} : Small (a % 170141183460469231731687303715884105727) := by
  have h := modOk (a := a) (p := 170141183460469231731687303715884105727) (by decide)
  refine small_of (k := 127) ?_ (by decide) (by decide)
  have : (2 : Nat) ^ 127 = 170141183460469231731687303715884105728 := by decide
  omega
theorem mulOk_of {i j : Int} (hi : Small i) (hj : j.natAbs.log2 < 1000) : mulOk i j = true := by
  unfold mulOk Small at *
  rw [decide_eq_true_iff]
  omega
theorem p11 (n : Nat) {i : Int} (h : Small i) (M : Mem) : callN PP (n + 1) 11 [.int i] M = some (.ok (.int (i * 105172331949523456789012345678901234567 % 170141183460469231731687303715884105727)) M) := by
  rw [callN_loc (f := c_11) rfl rfl rfl rfl]
  simp [c_11, mulOk_of h (show (105172331949523456789012345678901234567 : Int).natAbs.log2 < 1000 by decide +kernel), execs, exec, eval, evals, evalO, Dw.start, onE, bi, one?, isTy, truth, binop, unop, opt, Ev.bind, fin, finG, clean, cleans, D.isN, index, setAll, bindT, wipe, wd, wd0, handle, unbind, bindO, Prog.cfg, noExc]
theorem p12 (n : Nat) {i : Int} (h : Small i) (M : Mem) : callN PP (n + 1) 12 [.int i] M = some (.ok (.int (i * 83492791123456789012345678901234567891 % 170141183460469231731687303715884105727)) M) := by
  rw [callN_loc (f := c_12) rfl rfl rfl rfl]
  simp [c_12, mulOk_of h (show (83492791123456789012345678901234567891 : Int).natAbs.log2 < 1000 by decide +kernel), execs, exec, eval, evals, evalO, Dw.start, onE, bi, one?, isTy, truth, binop, unop, opt, Ev.bind, fin, finG, clean, cleans, D.isN, index, setAll, bindT, wipe, wd, wd0, handle, unbind, bindO, Prog.cfg, noExc]
theorem divOk3 : divOk 3 = true := by decide +kernel
theorem pow20 : ((10 : Int).natAbs < 2 ^ 64) := by decide
theorem at_form {l : List D} (h : ∀ d ∈ l, Form d) {k : Int} (h0 : 0 ≤ k) (h1 : k < l.length) : ∃ d, L2.atI l k = some d ∧ Form d := by
  have hk : k.toNat < l.length := by omega
  refine ⟨l[k.toNat], ?_, h _ (List.getElem_mem hk)⟩
  unfold L2.atI L2.ixN
  simp [h0, h1, hk]
theorem p14 (n : Nat) (left cell : Int) (M : Mem) : ∃ d, callN PP (n + 1) 14 [.int left, .int cell] M = some (.ok d M) ∧ Form d := by
  rw [callN_loc (f := c_14) rfl rfl rfl rfl]
  by_cases h : left % 3 < 2
  · refine ⟨.int (2 + left % 3), ?_, .int _⟩
    simp [c_14, dlt, h, execs, exec, eval, evals, evalO, Dw.start, onE, bi, one?, isTy, truth, binop, unop, opt, Ev.bind, fin, finG, clean, cleans, D.isN, index, setAll, bindT, wipe, wd, wd0, handle, unbind, bindO, Prog.cfg, noExc]
  · obtain ⟨d, e, f⟩ := at_form (l := [.int 0, .int 1, .int 4, .int (-2), .bl true, .non, .str "2", .tup [.int 2], .tup [.int 2, .int 3], .int (cell % 100000000000000000000 + 5), .int (-1 - cell % 100000000000000000000)]) (k := left / 3 % 11)
      (by
        intro d hd
        simp only [List.mem_cons, List.not_mem_nil, or_false] at hd
        rcases hd with rfl | rfl | rfl | rfl | rfl | rfl | rfl | rfl | rfl | rfl | rfl <;> constructor
        all_goals rfl) (by omega) (by simp; omega)
    refine ⟨d, ?_, f⟩
    simp [c_14, dlt, h, divOk3, e, f.clean, execs, exec, eval, evals, evalO, Dw.start, onE, bi, one?, isTy, truth, binop, unop, opt, Ev.bind, fin, finG, clean, cleans, D.isN, index, setAll, bindT, wipe, wd, wd0, handle, unbind, bindO, Prog.cfg, noExc]
theorem p15 (n : Nat) (left cell : Int) (M : Mem) : ∃ d, callN PP (n + 1) 15 [.int left, .int cell] M = some (.ok d M) ∧ Form d := by
  rw [callN_loc (f := c_15) rfl rfl rfl rfl]
  by_cases h : left % 3 < 2
  · refine ⟨.int (4 + left / 3 % 13), ?_, .int _⟩
    simp [c_15, dlt, h, divOk3, execs, exec, eval, evals, evalO, Dw.start, onE, bi, one?, isTy, truth, binop, unop, opt, Ev.bind, fin, finG, clean, cleans, D.isN, index, setAll, bindT, wipe, wd, wd0, handle, unbind, bindO, Prog.cfg, noExc]
  · obtain ⟨d, e, f⟩ := at_form (l := [.int 3, .int 17, .int 0, .int (-4), .bl true, .non, .str "8", .tup [.int 8], .int (cell % 100000000000000000000 + 17), .int (3 - cell % 100000000000000000000), .bl false]) (k := left / 3 % 11)
      (by
        intro d hd
        simp only [List.mem_cons, List.not_mem_nil, or_false] at hd
        rcases hd with rfl | rfl | rfl | rfl | rfl | rfl | rfl | rfl | rfl | rfl | rfl <;> constructor
        all_goals rfl) (by omega) (by simp; omega)
    refine ⟨d, ?_, f⟩
    simp [c_15, dlt, h, divOk3, e, f.clean, execs, exec, eval, evals, evalO, Dw.start, onE, bi, one?, isTy, truth, binop, unop, opt, Ev.bind, fin, finG, clean, cleans, D.isN, index, setAll, bindT, wipe, wd, wd0, handle, unbind, bindO, Prog.cfg, noExc]
theorem p16 (n : Nat) {s r : D} (hs : Form s) (hr : Form r) (M : Mem) : callN PP (n + 1) 16 [s, r] M = some (.ok (.bl (goodS s r)) M) := by
  rw [callN_loc (f := c_16) rfl rfl rfl (by simp [cleans, hs.clean, hr.clean])]
  cases hs with
  | int i =>
    cases hr with
    | int j =>
      by_cases h1 : 2 ≤ i <;> by_cases h2 : i ≤ 3 <;> by_cases h3 : 4 ≤ j <;> simp [c_16, goodS, within, h1, h2, h3, execs, exec, eval, evals, evalO, Dw.start, onE, bi, one?, isTy, truth, binop, unop, opt, Ev.bind, fin, finG, clean, cleans, D.isN, index, setAll, bindT, wipe, wd, wd0, handle, unbind, bindO, Prog.cfg, noExc]
    | _ => simp [c_16, goodS, within, execs, exec, eval, evals, evalO, Dw.start, onE, bi, one?, isTy, truth, binop, unop, opt, Ev.bind, fin, finG, clean, cleans, D.isN, index, setAll, bindT, wipe, wd, wd0, handle, unbind, bindO, Prog.cfg, noExc]
  | _ => cases hr <;> simp [c_16, goodS, within, execs, exec, eval, evals, evalO, Dw.start, onE, bi, one?, isTy, truth, binop, unop, opt, Ev.bind, fin, finG, clean, cleans, D.isN, index, setAll, bindT, wipe, wd, wd0, handle, unbind, bindO, Prog.cfg, noExc]

def b19 : List S := match c_19.body with
  | .for_ _ _ _ b :: _ => b
  | _ => []
theorem body19 (n : Nat) {sc : Sl} {cell : Int} (hc : Small cell) (a b c d e : Sl) (M : Mem) :
    ∃ a' b' c' d' e' M', execs (PP.cfg (n + 5) (callN PP (n + 5))) b19 [sc, .is (.int cell), a, b, c, d, e] M = some (.next [sc, .is (.int cell), a', b', c', d', e'] M') := by
  obtain ⟨s, es, fs⟩ := p14 (n + 4) (cell * 105172331949523456789012345678901234567 % 170141183460469231731687303715884105727) cell M
  obtain ⟨r, er, fr⟩ := p15 (n + 4) ((cell * 105172331949523456789012345678901234567 % 170141183460469231731687303715884105727) * 83492791123456789012345678901234567891 % 170141183460469231731687303715884105727) cell M
  have e11 := p11 (n + 4) hc M
  have e12 := p12 (n + 4) (small_mod (a := cell * 105172331949523456789012345678901234567)) M
  have e16 := p16 (n + 4) fs fr M
  cases hg : goodS s r with
  | false =>
    have e17 := p17 (n + 1) fs fr M hg
    refine ⟨.is (.int (cell * 105172331949523456789012345678901234567 % 170141183460469231731687303715884105727)), .is s, .is r, d, e, M, ?_⟩
    simp [b19, c_19, e11, es, e12, er, e16, hg, e17, execs, exec, eval, evals, evalO, Dw.start, onE, bi, one?, isTy, truth, binop, unop, opt, Ev.bind, fin, finG, clean, cleans, D.isN, index, setAll, bindT, wipe, wd, wd0, handle, unbind, bindO, Prog.cfg, noExc]
  | true =>
    have e7 := p7 (n + 2) fs fr M
    rw [hg, if_pos rfl] at e7
    have hS : St (M ++ [.ins 10 [s, r, .ref (M.length + 1), .ref (M.length + 2), .ref (M.length + 3), .int 0], .lst [leafD], .dct [], .dct []]) M.length := by
      refine ⟨s, r, M.length + 1, M.length + 2, M.length + 3, ?_, ?_, ?_⟩ <;> simp
    have e8 := p8 (n + 4) hS
    have e9 := p9 (n + 4) hS
    have e10 := p10n (n + 4) hS
    have e10z := p10z (n + 4) hS
    have e13 := fun M => p13a (n + 4) M
    have e13b := fun M => p13b (n + 4) M
    have e13l := fun M => p13l (n + 3) M
    have e18 := p18 (n + 3) hS (.inl rfl)
    have e18' := p18 (n + 3) hS (.inr rfl)
    have hcl : clsOf (.ref M.length) (M ++ [.ins 10 [s, r, .ref (M.length + 1), .ref (M.length + 2), .ref (M.length + 3), .int 0], .lst [leafD], .dct [], .dct []]) = some 10 := by simp [clsOf]
    refine ⟨.is (.int (cell * 105172331949523456789012345678901234567 % 170141183460469231731687303715884105727)), .is s, .is r, .is (.ref M.length), .is leafD, M ++ [.ins 10 [s, r, .ref (M.length + 1), .ref (M.length + 2), .ref (M.length + 3), .int 0], .lst [leafD], .dct [], .dct []], ?_⟩
    simp only [Nat.add_assoc, Nat.reduceAdd] at e11 es e12 er e16 e7 e8 e9 e10 e10z e13 e13b e13l e18 e18'
    simp [b19, c_19, e11, es, e12, er, e16, hg, e7, hcl, y0, y1, y2, e8, e9, e10, e10z, e13, e13b, e13l, e18, e18', items, forLoop, execs, exec, eval, evals, evalO, Dw.start, onE, bi, one?, isTy, truth, binop, unop, opt, Ev.bind, fin, finG, clean, cleans, D.isN, index, setAll, bindT, wipe, wd, wd0, handle, unbind, bindO, Prog.cfg, noExc]
theorem loop19 (n : Nat) {sc : Sl} : ∀ (cells : List Int), (∀ z ∈ cells, Small z) → ∀ (x a b c d e : Sl) (M : Mem),
    ∃ x' a' b' c' d' e' M', forLoop (execs (PP.cfg (n + 5) (callN PP (n + 5))) b19) (.name 1) (cells.map D.int) [sc, x, a, b, c, d, e] M = some (.next [sc, x', a', b', c', d', e'] M')
  | [], _, x, a, b, c, d, e, M => ⟨x, a, b, c, d, e, M, rfl⟩
  | z :: cells, h, x, a, b, c, d, e, M => by
    obtain ⟨a1, b1, c1, d1, e1, M1, q⟩ := body19 n (sc := sc) (h z List.mem_cons_self) a b c d e M
    obtain ⟨x2, a2, b2, c2, d2, e2, M2, q2⟩ := loop19 n (sc := sc) cells (fun y hy => h y (List.mem_cons_of_mem _ hy)) (.is (.int z)) a1 b1 c1 d1 e1 M1
    refine ⟨x2, a2, b2, c2, d2, e2, M2, ?_⟩
    simp only [List.map_cons, forLoop, bindT, List.set_cons_succ, List.set_cons_zero, q]
    exact q2
theorem small_bits {z : Int} (h : PySem.Builtin.Int.intBits z ≤ 1048576) : Small z := by
  unfold Small
  unfold PySem.Builtin.Int.intBits at h
  by_cases e : z = 0
  · subst e; decide
  · have : (z == 0) = false := by simpa using e
    rw [this] at h
    simp at h
    omega
theorem cleans_ints : ∀ ns : List Int, cleans (ns.map D.int) = true
  | [] => rfl
  | _ :: ns => by simp [cleans, Dw.clean, cleans_ints ns]
theorem plain (ns : List Int) (hl : ns.length ≤ 63) (hz : ∀ z ∈ ns, PySem.Builtin.Int.intBits z ≤ 1048576) : callN PP 40 19 [.lst (ns.map D.int)] [] = some (.ok (.bl true) []) := by
  rw [callN_loc (n := 39) (f := c_19) rfl rfl rfl (by simp [cleans, Dw.clean, cleans_ints])]
  obtain ⟨x2, a2, b2, c2, d2, e2, M2, q⟩ := loop19 34 (sc := .is (.lst (ns.map D.int))) (0 :: ns) (by
    intro z h
    rcases List.mem_cons.mp h with rfl | h
    · show (0 : Int).natAbs.log2 < 2000000
      decide
    · exact small_bits (hz z h)) .no .no .no .no .no .no []
  have hb : c_19.body = [.for_ (.name 1) .val [.bin .add (.lst [.con (.int 0)]) (.loc 0)] b19, .ret (.con (.bl true))] := rfl
  have hs : ns.length + 1 ≤ PySem.sizeLine := Nat.le_of_lt (L2.small1000 (by omega))
  rw [hb]
  have hsl : c_19.sl = 7 := rfl
  simp only [List.map_cons, Prog.cfg, Nat.reduceAdd] at q
  simp [items, hsl, q, hs, Nat.add_comm 1, execs, exec, eval, evals, evalO, Dw.start, onE, bi, one?, isTy, truth, binop, unop, opt, Ev.bind, fin, finG, clean, cleans, D.isN, index, setAll, bindT, wipe, wd, wd0, handle, unbind, bindO, Prog.cfg, noExc]
end Kx
open PySem PySem.W PyProof.Rows in
set_option maxRecDepth 100000 in
set_option maxHeartbeats 0 in
theorem PySem.Challenge.cw_driftwood_k56_a_store_made_holds : PySem.Challenge.rw_driftwood_k56_a_store_made.Holds := by
  w_on; o_law; k_head; (case hw => w_witness2)
  k_fill
  refine Dw.walk (l := PySem.Challenge.rw_driftwood_k56_a_store_made) (k := 2 * 40) rfl rfl ⟨rfl, by decide, by decide⟩ (fun w h Y => PySem.W.kIn_of Y) ?F
  case F =>
    intro w mg fa h KX G hmg
    refine' Kx.all_mk 40 KX G hmg Kx.plain ?cl_Store ?cl_DriftError ?cl_NoThing ?cl_NoWant ?cl_NoPath ?cl_NoHandle ?cl_NoRoom ?cl_Twice ?cl_NoView ?cl_NoWatch ?cl_NoText ?a0 ?l0 ?c0 ?k0 ?a1 ?l1 ?c1 ?k1 ?a2 ?l2 ?c2 ?k2 ?a3 ?l3 ?c3 ?k3 ?a4 ?l4 ?c4 ?k4 ?a5 ?l5 ?c5 ?k5 ?a6 ?l6 ?c6 ?k6 ?a7 ?i7 ?l7 ?c7 ?k7 ?a8 ?i8 ?l8 ?c8 ?k8 ?a9 ?i9 ?l9 ?c9 ?k9 ?a10 ?i10 ?l10 ?c10 ?k10 ?tl10 ?a11 ?l11 ?c11 ?k11 ?a12 ?l12 ?c12 ?k12 ?a13 ?l13 ?c13 ?k13 ?a14 ?l14 ?c14 ?k14 ?a15 ?l15 ?c15 ?k15 ?a16 ?l16 ?c16 ?k16 ?a17 ?l17 ?c17 ?k17 ?a18 ?l18 ?c18 ?k18 ?a19 ?l19 ?c19 ?k19 ?a20 ?l20 ?c20 ?k20 ?z_ValueError ?z_bool ?z_int ?z_isinstance ?z_len ?z_max ?z_min ?z_range ?z_sorted ?z_str ?z_tuple ?z_zip ?k_LEAST_ROOM ?k_MOST_ROOM ?pg_Store ?hd_Store ?po_Store ?sa_Store ?mk_Store ?kc_Store ?na_Store_sides ?na_Store_room ?na_Store_tops ?na_Store_kept ?na_Store_standing ?na_Store_watches_set ?xs_DriftError ?xt_DriftError ?xh_DriftError ?xr_DriftError ?xs_NoThing ?xt_NoThing ?xh_NoThing ?xr_NoThing ?xs_NoWant ?xt_NoWant ?xh_NoWant ?xr_NoWant ?xs_NoPath ?xt_NoPath ?xh_NoPath ?xr_NoPath ?xs_NoHandle ?xt_NoHandle ?xh_NoHandle ?xr_NoHandle ?xs_NoRoom ?xt_NoRoom ?xh_NoRoom ?xr_NoRoom ?xs_Twice ?xt_Twice ?xh_Twice ?xr_Twice ?xs_NoView ?xt_NoView ?xh_NoView ?xr_NoView ?xs_NoWatch ?xt_NoWatch ?xh_NoWatch ?xr_NoWatch ?xs_NoText ?xt_NoText ?xh_NoText ?xr_NoText ?xi_NoRoom ?xk_NoRoom ?x1_NoRoom ?x2_NoRoom ?x3_NoRoom ?x4_NoRoom ?sb_NoRoom_DriftError ?sb_NoRoom_NoHandle ?sb_NoRoom_NoPath ?sb_NoRoom_NoRoom ?sb_NoRoom_NoText ?sb_NoRoom_NoThing ?sb_NoRoom_NoView ?sb_NoRoom_NoWant ?sb_NoRoom_NoWatch ?sb_NoRoom_Twice ?sb_NoRoom_ValueError ?xi_NoView ?xk_NoView ?x1_NoView ?x2_NoView ?x3_NoView ?x4_NoView ?sb_NoView_DriftError ?sb_NoView_NoHandle ?sb_NoView_NoPath ?sb_NoView_NoRoom ?sb_NoView_NoText ?sb_NoView_NoThing ?sb_NoView_NoView ?sb_NoView_NoWant ?sb_NoView_NoWatch ?sb_NoView_Twice ?sb_NoView_ValueError ?x5 ?x6
    (case cl_Store => k_is)
    (case cl_DriftError => k_is)
    (case cl_NoThing => k_is)
    (case cl_NoWant => k_is)
    (case cl_NoPath => k_is)
    (case cl_NoHandle => k_is)
    (case cl_NoRoom => k_is)
    (case cl_Twice => k_is)
    (case cl_NoView => k_is)
    (case cl_NoWatch => k_is)
    (case cl_NoText => k_is)
    (case a0 => k_is)
    (case l0 => k_is)
    (case c0 => k_is)
    (case k0 => k_is)
    (case a1 => k_is)
    (case l1 => k_is)
    (case c1 => k_is)
    (case k1 => k_is)
    (case a2 => k_is)
    (case l2 => k_is)
    (case c2 => k_is)
    (case k2 => k_is)
    (case a3 => k_is)
    (case l3 => k_is)
    (case c3 => k_is)
    (case k3 => k_is)
    (case a4 => k_is)
    (case l4 => k_is)
    (case c4 => k_is)
    (case k4 => k_is)
    (case a5 => k_is)
    (case l5 => k_is)
    (case c5 => k_is)
    (case k5 => k_is)
    (case a6 => k_is)
    (case l6 => k_is)
    (case c6 => k_is)
    (case k6 => k_is)
    (case a7 => k_is)
    (case i7 => k_is)
    (case l7 => k_is)
    (case c7 => k_is)
    (case k7 => k_is)
    (case a8 => k_is)
    (case i8 => k_is)
    (case l8 => k_is)
    (case c8 => k_is)
    (case k8 => k_is)
    (case a9 => k_is)
    (case i9 => k_is)
    (case l9 => k_is)
    (case c9 => k_is)
    (case k9 => k_is)
    (case a10 => k_is)
    (case i10 => k_is)
    (case l10 => k_is)
    (case c10 => k_is)
    (case k10 => k_is)
    (case tl10 => k_is)
    (case a11 => k_is)
    (case l11 => k_is)
    (case c11 => k_is)
    (case k11 => k_is)
    (case a12 => k_is)
    (case l12 => k_is)
    (case c12 => k_is)
    (case k12 => k_is)
    (case a13 => k_is)
    (case l13 => k_is)
    (case c13 => k_is)
    (case k13 => k_is)
    (case a14 => k_is)
    (case l14 => k_is)
    (case c14 => k_is)
    (case k14 => k_is)
    (case a15 => k_is)
    (case l15 => k_is)
    (case c15 => k_is)
    (case k15 => k_is)
    (case a16 => k_is)
    (case l16 => k_is)
    (case c16 => k_is)
    (case k16 => k_is)
    (case a17 => k_is)
    (case l17 => k_is)
    (case c17 => k_is)
    (case k17 => k_is)
    (case a18 => k_is)
    (case l18 => k_is)
    (case c18 => k_is)
    (case k18 => k_is)
    (case a19 => k_is)
    (case l19 => k_is)
    (case c19 => k_is)
    (case k19 => k_is)
    (case a20 => k_is)
    (case l20 => k_is)
    (case c20 => k_is)
    (case k20 => k_is)
    (case z_ValueError => k_is)
    (case z_bool => k_is)
    (case z_int => k_is)
    (case z_isinstance => k_is)
    (case z_len => k_is)
    (case z_max => k_is)
    (case z_min => k_is)
    (case z_range => k_is)
    (case z_sorted => k_is)
    (case z_str => k_is)
    (case z_tuple => k_is)
    (case z_zip => k_is)
    (case k_LEAST_ROOM => k_is)
    (case k_MOST_ROOM => k_is)
    (case pg_Store => k_is)
    (case hd_Store => k_is)
    (case po_Store => k_is)
    (case sa_Store => k_is)
    (case mk_Store => k_is)
    (case kc_Store => k_is)
    (case na_Store_sides => k_is)
    (case na_Store_room => k_is)
    (case na_Store_tops => k_is)
    (case na_Store_kept => k_is)
    (case na_Store_standing => k_is)
    (case na_Store_watches_set => k_is)
    (case xs_DriftError => k_is)
    (case xt_DriftError => k_is)
    (case xh_DriftError => k_is)
    (case xr_DriftError => first | rfl | k_is)
    (case xs_NoThing => k_is)
    (case xt_NoThing => k_is)
    (case xh_NoThing => k_is)
    (case xr_NoThing => first | rfl | k_is)
    (case xs_NoWant => k_is)
    (case xt_NoWant => k_is)
    (case xh_NoWant => k_is)
    (case xr_NoWant => first | rfl | k_is)
    (case xs_NoPath => k_is)
    (case xt_NoPath => k_is)
    (case xh_NoPath => k_is)
    (case xr_NoPath => first | rfl | k_is)
    (case xs_NoHandle => k_is)
    (case xt_NoHandle => k_is)
    (case xh_NoHandle => k_is)
    (case xr_NoHandle => first | rfl | k_is)
    (case xs_NoRoom => k_is)
    (case xt_NoRoom => k_is)
    (case xh_NoRoom => k_is)
    (case xr_NoRoom => first | rfl | k_is)
    (case xs_Twice => k_is)
    (case xt_Twice => k_is)
    (case xh_Twice => k_is)
    (case xr_Twice => first | rfl | k_is)
    (case xs_NoView => k_is)
    (case xt_NoView => k_is)
    (case xh_NoView => k_is)
    (case xr_NoView => first | rfl | k_is)
    (case xs_NoWatch => k_is)
    (case xt_NoWatch => k_is)
    (case xh_NoWatch => k_is)
    (case xr_NoWatch => first | rfl | k_is)
    (case xs_NoText => k_is)
    (case xt_NoText => k_is)
    (case xh_NoText => k_is)
    (case xr_NoText => first | rfl | k_is)
    (case xi_NoRoom => k_exc)
    (case xk_NoRoom => k_is)
    (case x1_NoRoom => k_is)
    (case x2_NoRoom => k_is)
    (case x3_NoRoom => k_is)
    (case x4_NoRoom => k_is)
    (case sb_NoRoom_DriftError => k_is)
    (case sb_NoRoom_NoHandle => k_is)
    (case sb_NoRoom_NoPath => k_is)
    (case sb_NoRoom_NoRoom => k_is)
    (case sb_NoRoom_NoText => k_is)
    (case sb_NoRoom_NoThing => k_is)
    (case sb_NoRoom_NoView => k_is)
    (case sb_NoRoom_NoWant => k_is)
    (case sb_NoRoom_NoWatch => k_is)
    (case sb_NoRoom_Twice => k_is)
    (case sb_NoRoom_ValueError => k_is)
    (case xi_NoView => k_exc)
    (case xk_NoView => k_is)
    (case x1_NoView => k_is)
    (case x2_NoView => k_is)
    (case x3_NoView => k_is)
    (case x4_NoView => k_is)
    (case sb_NoView_DriftError => k_is)
    (case sb_NoView_NoHandle => k_is)
    (case sb_NoView_NoPath => k_is)
    (case sb_NoView_NoRoom => k_is)
    (case sb_NoView_NoText => k_is)
    (case sb_NoView_NoThing => k_is)
    (case sb_NoView_NoView => k_is)
    (case sb_NoView_NoWant => k_is)
    (case sb_NoView_NoWatch => k_is)
    (case sb_NoView_Twice => k_is)
    (case sb_NoView_ValueError => k_is)
    (case x5 => k_is)
    (case x6 => k_is)
#print axioms PySem.Challenge.cw_driftwood_k56_a_store_made_holds
